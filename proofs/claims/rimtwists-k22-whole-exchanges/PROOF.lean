import PyProof.Rows.All
import Wide.All
import OpenK.AllK
import Wide.FinOn
import HandS.ForMost
import HandS.WordsExc
import HandS.ExcOwn
import HandS.Lambda
import HandS.Wide
import HandS.TupAny
import HandS.Deep
import HandS.Style
import HandS.IsInst
import HandS.Conv
import HandS.Strs
import HandS.TupLe
import HandS.Flow
import HandS.WordsDict
import HandS.Zip
import HandS.SortKw
import KE.GoesEnumKw
import HandS.DictComp
import HandS.ExcSuper
import HandS.Property
import HandS.SortRule
import KE.KNestM
import HandS.HeadNt
import HandS.HeadEnd
import HandS.Head2
import HandS.EndTab
import HandS.TryMany
import HandS.ExcField
import PyProof.ReprRoads
import HandS.RaiseMore
import HandS.Head0
import HandS.Head1
import KE.KStateDown
import PySem.Challenge.RW_rimtwists_k22_whole_exchanges
set_option Elab.async false
set_option linter.all false
set_option autoImplicit false
set_option maxRecDepth 100000
set_option maxHeartbeats 0
section
set_option maxHeartbeats 4000000
/-! DlA: values as trees, locals by content, and how both lie in the abstract heap. -/
namespace Dl
open PySem PySem.Spec PyProof.Rows L2

inductive D where
  | non | bl (b : Bool) | int (i : Int) | str (x : Str)
  | tup (ds : List D) | lst (ds : List D) | frz (ds : List D)
  | dic (ks : List Key) (ds : List D)
  | ins (c : Str) (fs : List Str) (ds : List D)
  | loc (o : Unit → Obj) (kvs : List (Key × V))
  | xd (fs : List Str) (ds : List D)
  | fn (q : Str)
  deriving Inhabited

/-- a local: shared, owned, lent by the caller -/
inductive Sl where
  | sh (d : D) | ow (d : D) | bo (d : D)
abbrev En := List (Option Sl)
/-- how a piece of code ends -/
inductive Rs (α : Type) where
  | ok (a : α) (r : En)
  | err (c : Str) (fs : List Str) (ds : List D) (r : En)
  | stuck
def Rs.bind {α β : Type} (x : Rs α) (f : α → En → Rs β) : Rs β := match x with
  | .ok a r => f a r
  | .err c fs ds r => .err c fs ds r
  | .stuck => .stuck
/-- what a statement does -/
inductive Fl where
  | nx | brk | cont | ret (d : D) | retL (d : D)

/-- classes and defs by name; the tables of code objects -/
structure Cl where
  f : Str → Option Addr
  T : List (Addr × Str)
instance : CoeFun Cl (fun _ => Str → Option Addr) := ⟨Cl.f⟩
/-- no table among what is seen -/
def NoTb (G : Hp) : Prop := ∀ (a : Addr) (ps : Array Value), G a ≠ some (.tbl ps)
/-- what is fixed through a def's body -/
structure Mc where
  K : PySem.W.Frag
  cl : Cl
  H0 : Hp
  G0 : Hp
  W : List Addr
  B : Nat → Addr
  P : List (V × D) := []

section
variable (K : PySem.W.Frag) (cl : Cl) (G : Hp)
mutual
def Rep : D → V → Prop
  | .non, v => v = .non
  | .bl b, v => v = .bl b
  | .int i, v => v = .int i
  | .str x, v => v = .str x
  | .tup ds, v => ∃ a vs, v = .ref a ∧ SqT K G a vs ∧ Reps ds vs
  | .lst ds, v => ∃ a vs, v = .ref a ∧ G a = some (.lst vs) ∧ Reps ds vs
  | .frz ds, v => ∃ a vs, v = .ref a ∧ SqL K G a vs ∧ Reps ds vs
  | .dic ks ds, v => ∃ a vs, v = .ref a ∧ G a = some (.dK (ks.zip vs)) ∧ ks.length = vs.length ∧ Reps ds vs
  | .ins c fs ds, v => ∃ a C dx vs, v = .ref a ∧ cl c = some C ∧ G a = some (.ins C dx (fs.zip vs)) ∧ fs.length = vs.length ∧ Reps ds vs
  | .loc o kvs, v => ∃ a, v = .ref a ∧ G a = some (.frz (o ()) (.dK kvs))
  | .xd fs ds, v => ∃ a vs, v = .ref a ∧ G a = some (.xd (fs.zip vs)) ∧ fs.length = vs.length ∧ Reps ds vs
  | .fn q, v => ∃ a, v = .ref a ∧ cl q = some a
def Reps : List D → List V → Prop
  | [], vs => vs = []
  | d :: ds, vs => ∃ v r, vs = v :: r ∧ Rep d v ∧ Reps ds r
end
end
section
variable {K : PySem.W.Frag} {cl : Cl} {G G' H : Hp}
abbrev Sub (G G' : Hp) : Prop := ∀ a o, G a = some o → G' a = some o
theorem Sub.rfl' : Sub G G := fun _ _ h => h
theorem Sub.rd {a : Addr} {u : HO} (s : Sub G G') (h : Rd G a u) : Rd G' a u := by
  rcases h with h | ⟨o, h⟩
  · exact .inl (s _ _ h)
  · exact .inr ⟨o, s _ _ h⟩
theorem Sub.sqL {a : Addr} {xs : List V} (s : Sub G G') (h : SqL K G a xs) : SqL K G' a xs := by
  rcases h with h | h
  · exact .inl (s.rd h)
  · exact .inr h
theorem Sub.sqT {a : Addr} {xs : List V} (s : Sub G G') (h : SqT K G a xs) : SqT K G' a xs := by
  rcases h with h | h
  · exact .inl (s.rd h)
  · exact .inr h
mutual
theorem Rep.mono (s : Sub G G') : ∀ (d : D) (v : V), Rep K cl G d v → Rep K cl G' d v
  | .non, _, h => h
  | .bl _, _, h => h
  | .int _, _, h => h
  | .str _, _, h => h
  | .tup ds, _, ⟨a, vs, e, q, r⟩ => ⟨a, vs, e, s.sqT q, Reps.mono s ds vs r⟩
  | .lst ds, _, ⟨a, vs, e, q, r⟩ => ⟨a, vs, e, s _ _ q, Reps.mono s ds vs r⟩
  | .frz ds, _, ⟨a, vs, e, q, r⟩ => ⟨a, vs, e, s.sqL q, Reps.mono s ds vs r⟩
  | .dic ks ds, _, ⟨a, vs, e, q, l, r⟩ => ⟨a, vs, e, s _ _ q, l, Reps.mono s ds vs r⟩
  | .ins c fs ds, _, ⟨a, C, dx, vs, e, q, h, l, r⟩ => ⟨a, C, dx, vs, e, q, s _ _ h, l, Reps.mono s ds vs r⟩
  | .loc _ _, _, ⟨a, e, q⟩ => ⟨a, e, s _ _ q⟩
  | .xd fs ds, _, ⟨a, vs, e, q, l, r⟩ => ⟨a, vs, e, s _ _ q, l, Reps.mono s ds vs r⟩
  | .fn _, _, h => h
theorem Reps.mono (s : Sub G G') : ∀ (ds : List D) (vs : List V), Reps K cl G ds vs → Reps K cl G' ds vs
  | [], _, h => h
  | d :: ds, _, ⟨v, r, e, h, t⟩ => ⟨v, r, e, Rep.mono s d v h, Reps.mono s ds r t⟩
end
theorem Reps.nil : Reps K cl G [] [] := rfl
theorem Reps.cons {d : D} {v : V} {ds : List D} {vs : List V} (h : Rep K cl G d v) (t : Reps K cl G ds vs) : Reps K cl G (d :: ds) (v :: vs) := ⟨v, vs, rfl, h, t⟩
theorem Reps.head {d : D} {v : V} {ds : List D} {vs : List V} (h : Reps K cl G (d :: ds) (v :: vs)) : Rep K cl G d v := by
  obtain ⟨_, _, e, h1, _⟩ := h; cases e; exact h1
theorem Reps.tail {d : D} {v : V} {ds : List D} {vs : List V} (h : Reps K cl G (d :: ds) (v :: vs)) : Reps K cl G ds vs := by
  obtain ⟨_, _, e, _, h1⟩ := h; cases e; exact h1
theorem Reps.len : ∀ {ds : List D} {vs : List V}, Reps K cl G ds vs → vs.length = ds.length
  | [], _, h => by cases (show _ = [] from h); rfl
  | _ :: ds, _, ⟨v, r, e, _, t⟩ => by subst e; simp [Reps.len t]
theorem Reps.append : ∀ {ds : List D} {vs : List V} {es : List D} {us : List V}, Reps K cl G ds vs → Reps K cl G es us → Reps K cl G (ds ++ es) (vs ++ us)
  | [], _, _, _, h, t => by cases (show _ = [] from h); exact t
  | _ :: ds, _, _, _, ⟨v, r, e, h, q⟩, t => by subst e; exact ⟨v, _, rfl, h, Reps.append q t⟩
theorem Reps.split : ∀ {ds : List D} {es : List D} {vs us : List V}, ds.length = vs.length → Reps K cl G (ds ++ es) (vs ++ us) → Reps K cl G ds vs ∧ Reps K cl G es us
  | [], _, [], _, _, h => ⟨rfl, h⟩
  | [], _, _ :: _, _, l, _ => by simp at l
  | _ :: _, _, [], _, l, _ => by simp at l
  | d :: ds, es, v :: vs, us, l, h => by
    have q := Reps.split (ds := ds) (es := es) (vs := vs) (us := us) (by simpa using l) h.tail
    exact ⟨Reps.cons h.head q.1, q.2⟩
theorem Reps.get : ∀ {ds : List D} {vs : List V} {i : Nat} {d : D}, Reps K cl G ds vs → ds[i]? = some d → ∃ v, vs[i]? = some v ∧ Rep K cl G d v
  | [], _, _, _, _, e => by simp at e
  | _ :: ds, _, 0, _, ⟨v, r, e, h, _⟩, e2 => by subst e; simp at e2; subst e2; exact ⟨v, rfl, h⟩
  | _ :: ds, _, i + 1, _, ⟨v, r, e, _, t⟩, e2 => by
    subst e
    obtain ⟨w, a, b⟩ := Reps.get (i := i) t (by simpa using e2)
    exact ⟨w, by simpa using a, b⟩
theorem Reps.set : ∀ {ds : List D} {vs : List V} (i : Nat) {d : D} {v : V}, Reps K cl G ds vs → Rep K cl G d v → Reps K cl G (ds.set i d) (vs.set i v)
  | [], _, _, _, _, h, _ => by cases (show _ = [] from h); exact rfl
  | _ :: ds, _, 0, _, _, ⟨v, r, e, _, t⟩, q => by subst e; exact ⟨_, r, rfl, q, t⟩
  | _ :: ds, _, i + 1, _, _, ⟨v, r, e, h, t⟩, q => by subst e; exact ⟨v, _, rfl, h, Reps.set i t q⟩
theorem Reps.take : ∀ {ds : List D} {vs : List V} (n : Nat), Reps K cl G ds vs → Reps K cl G (ds.take n) (vs.take n)
  | ds, vs, 0, _ => by simpa using Reps.nil
  | [], _, n + 1, h => by cases (show _ = [] from h); exact rfl
  | _ :: ds, _, n + 1, ⟨v, r, e, h, t⟩ => by subst e; exact ⟨v, _, rfl, h, Reps.take n t⟩
theorem Reps.drop : ∀ {ds : List D} {vs : List V} (n : Nat), Reps K cl G ds vs → Reps K cl G (ds.drop n) (vs.drop n)
  | ds, vs, 0, h => by simpa using h
  | [], _, n + 1, h => by cases (show _ = [] from h); exact rfl
  | _ :: ds, _, n + 1, ⟨v, r, e, _, t⟩ => by subst e; simpa using Reps.drop n t
end

/-- an object that one place alone holds -/
def OwAt (K : PySem.W.Frag) (cl : Cl) (G H : Hp) (a : Addr) : D → Prop
  | .lst ds => ∃ vs, H a = some (.lst vs) ∧ Reps K cl G ds vs
  | .dic ks ds => ∃ vs, H a = some (.dK (ks.zip vs)) ∧ ks.length = vs.length ∧ Reps K cl G ds vs
  | .ins c fs ds => ∃ C dx vs, cl c = some C ∧ H a = some (.ins C dx (fs.zip vs)) ∧ fs.length = vs.length ∧ Reps K cl G ds vs
  | .loc o kvs => H a = some (.frz (o ()) (.dK kvs))
  | _ => False
section
variable {K : PySem.W.Frag} {cl : Cl} {G G' H H' : Hp} {a : Addr}
theorem OwAt.mono {d : D} (s : Sub G G') (hH : ∀ o, H a = some o → H' a = some o) (h : OwAt K cl G H a d) : OwAt K cl G' H' a d := by
  cases d with
  | lst ds => obtain ⟨vs, e, r⟩ := h; exact ⟨vs, hH _ e, Reps.mono s _ _ r⟩
  | dic ks ds => obtain ⟨vs, e, l, r⟩ := h; exact ⟨vs, hH _ e, l, Reps.mono s _ _ r⟩
  | ins c fs ds => obtain ⟨C, dx, vs, q, e, l, r⟩ := h; exact ⟨C, dx, vs, q, hH _ e, l, Reps.mono s _ _ r⟩
  | loc o ks => exact hH _ h
  | _ => exact h.elim
theorem OwAt.there {d : D} (h : OwAt K cl G H a d) : ∃ o, H a = some o := by
  cases d with
  | lst ds => obtain ⟨vs, e, r⟩ := h; exact ⟨_, e⟩
  | dic ks ds => obtain ⟨vs, e, l, r⟩ := h; exact ⟨_, e⟩
  | ins c fs ds => obtain ⟨C, dx, vs, q, e, l, r⟩ := h; exact ⟨_, e⟩
  | loc o ks => exact ⟨_, h⟩
  | _ => exact h.elim
/-- what is held alone becomes shared -/
theorem OwAt.rep {d : D} (h : OwAt K cl G H a d) {o : HO} (ho : H a = some o) (s : Sub G G') (g : G' a = some o) : Rep K cl G' d (.ref a) := by
  cases d with
  | lst ds => obtain ⟨vs, e, r⟩ := h; rw [ho] at e; cases e; exact ⟨a, vs, rfl, g, Reps.mono s _ _ r⟩
  | dic ks ds => obtain ⟨vs, e, l, r⟩ := h; rw [ho] at e; cases e; exact ⟨a, vs, rfl, g, l, Reps.mono s _ _ r⟩
  | ins c fs ds => obtain ⟨C, dx, vs, q, e, l, r⟩ := h; rw [ho] at e; cases e; exact ⟨a, C, dx, vs, rfl, q, g, l, Reps.mono s _ _ r⟩
  | loc o ks => have e : H a = _ := h; rw [ho] at e; cases e; exact ⟨a, rfl, g⟩
  | _ => exact h.elim
end

/-- neither a table nor a code object -/
def Plain (o : HO) : Prop := (∀ ps, o ≠ .tbl ps) ∧ ∀ phi, o ≠ .ext phi
theorem OwAt.plain {K : PySem.W.Frag} {cl : Cl} {G H : Hp} {a : Addr} {d : D} (h : OwAt K cl G H a d) {o : HO} (e : H a = some o) : Plain o := by
  cases d with
  | lst ds => obtain ⟨vs, q, r⟩ := h; rw [e] at q; cases q; exact ⟨fun _ z => (nomatch z), fun _ z => (nomatch z)⟩
  | dic ks ds => obtain ⟨vs, q, l, r⟩ := h; rw [e] at q; cases q; exact ⟨fun _ z => (nomatch z), fun _ z => (nomatch z)⟩
  | ins c fs ds => obtain ⟨C, dx, vs, q, q2, l, r⟩ := h; rw [e] at q2; cases q2; exact ⟨fun _ z => (nomatch z), fun _ z => (nomatch z)⟩
  | loc o ks => have q : H a = _ := h; rw [e] at q; cases q; exact ⟨fun _ z => (nomatch z), fun _ z => (nomatch z)⟩
  | _ => exact h.elim
theorem tabs_new {T : List (Addr × Str)} {H : Hp} {p : Addr} {o : HO} (h : LamX.Tabs T H) (n : H p = none) : LamX.Tabs T (upd H p o) := h.ext fun b u e => by rw [upd_ne (ne_of_none e n)]; exact e
theorem tabs_put {T : List (Addr × Str)} {H : Hp} {p : Addr} {o u : HO} (h : LamX.Tabs T H) (e : H p = some u) (pl : Plain u) : LamX.Tabs T (upd H p o) := fun x hx => by
  obtain ⟨ps, e1, e2, e3⟩ := h x hx
  have n1 : x.1 ≠ p := fun c => by rw [c, e] at e1; exact pl.1 _ (Option.some.inj e1)
  refine ⟨ps, by rw [upd_ne n1]; exact e1, e2, fun pos cv hc => ?_⟩
  obtain ⟨c, e4, e5⟩ := e3 pos cv hc
  have n2 : c ≠ p := fun z => by rw [z, e] at e5; exact pl.2 _ (Option.some.inj e5)
  exact ⟨c, e4, by rw [upd_ne n2]; exact e5⟩
theorem noTb_upd {G : Hp} {p : Addr} {o : HO} (h : NoTb G) (n : ∀ ps, o ≠ .tbl ps) : NoTb (upd G p o) := fun a ps e => by
  by_cases c : a = p
  · subst c; rw [upd_same] at e; exact n _ (Option.some.inj e)
  · rw [upd_ne c] at e; exact h a ps e
def PlainAt (H : Hp) (p : Addr) : Prop := ∃ o, H p = some o ∧ Plain o
theorem PlainAt.notb {H : Hp} {p : Addr} (h : PlainAt H p) (ps : Array Value) (e : H p = some (.tbl ps)) : False := let ⟨_, e1, q⟩ := h; q.1 ps (Option.some.inj (e1.symm.trans e))
theorem PlainAt.tabs {T : List (Addr × Str)} {H : Hp} {p : Addr} {o : HO} (h : PlainAt H p) (t : LamX.Tabs T H) : LamX.Tabs T (upd H p o) := let ⟨_, e1, q⟩ := h; tabs_put t e1 q
theorem OwAt.plainAt {K : PySem.W.Frag} {cl : Cl} {G H : Hp} {a : Addr} {d : D} (h : OwAt K cl G H a d) : PlainAt H a := let ⟨_, e⟩ := h.there; ⟨_, e, h.plain e⟩
/-- nothing, or a table -/
def Nn (H : Hp) (a : Addr) : Prop := ∀ o, H a = some o → ∃ ps, o = .tbl ps
theorem Nn.of {H : Hp} {a : Addr} (n : H a = none) : Nn H a := fun o e => by rw [n] at e; cases e
theorem PlainAt.nn {H : Hp} {a : Addr} (h : PlainAt H a) (n : Nn H a) : False := let ⟨o, e, q⟩ := h; let ⟨ps, z⟩ := n o e; q.1 ps z
def IsOw (ρ : En) (i : Nat) : Prop := ∃ d, ρ[i]? = some (some (.ow d)) ∨ ρ[i]? = some (some (.bo d))

structure RelG (M : Mc) (an : List (Addr × D)) (ρ : En) (σ : L2.St) (H : Hp) (ts : List V) (ds : List D) (G : Hp) (own : Nat → Addr) : Prop where
  sub : Sub G H
  g0 : Sub M.G0 G
  fr : ∀ a : Addr, G a ≠ none → M.G0 a = none → Nn M.H0 a
  ext : ∀ (a : Addr) (o : HO), M.H0 a = some o → a ∉ M.W → (∀ ps, o ≠ .tbl ps) → H a = some o
  tab : LamX.Tabs M.cl.T H
  ntb : NoTb G
  pin : ∀ p ∈ M.P, Rep M.K M.cl G p.2 p.1
  wok : ∀ a ∈ M.W, PlainAt H a
  shp : ∀ (i : Nat) (d : D), ρ[i]? = some (some (Sl.sh d)) → ∃ v, σ[i]? = some (some v) ∧ Rep M.K M.cl G d v
  owp : ∀ (i : Nat) (d : D), ρ[i]? = some (some (Sl.ow d)) → σ[i]? = some (some (V.ref (own i))) ∧ OwAt M.K M.cl G H (own i) d ∧ G (own i) = none ∧ Nn M.H0 (own i)
  bop : ∀ (i : Nat) (d : D), ρ[i]? = some (some (Sl.bo d)) → σ[i]? = some (some (V.ref (own i))) ∧ OwAt M.K M.cl G H (own i) d ∧ G (own i) = none ∧ own i ∈ M.W ∧ own i = M.B i
  anp : ∀ p ∈ an, OwAt M.K M.cl G H p.1 p.2 ∧ G p.1 = none ∧ Nn M.H0 p.1
  inj : ∀ i j : Nat, IsOw ρ i → IsOw ρ j → own i = own j → i = j
  apart : ∀ i : Nat, IsOw ρ i → ∀ p ∈ an, own i ≠ p.1
  anN : (an.map (·.1)).Nodup
  len : ρ.length = σ.length
  tmp : Reps M.K M.cl G ds ts

def RelX (M : Mc) (an : List (Addr × D)) (ρ : En) (σ : L2.St) (H : Hp) (ts : List V) (ds : List D) : Prop := ∃ G own, RelG M an ρ σ H ts ds G own

section
variable {M : Mc} {an : List (Addr × D)} {ρ : En} {σ : L2.St} {H H' : Hp} {ts us : List V} {ds es : List D} {G : Hp} {own : Nat → Addr} {a p : Addr} {o : HO} {i : Nat} {d e : D} {v : V}
/-- other temporaries -/
theorem RelX.temps (R : RelX M an ρ σ H ts ds) (h : ∀ G, Sub G H → Reps M.K M.cl G ds ts → Reps M.K M.cl G es us) : RelX M an ρ σ H us es := by
  obtain ⟨G, own, r⟩ := R
  exact ⟨G, own, { r with tmp := h G r.sub r.tmp }⟩
theorem RelX.pop (R : RelX M an ρ σ H (v :: ts) (d :: ds)) : RelX M an ρ σ H ts ds := R.temps fun _ _ h => h.tail
theorem RelX.pop2 {v2 : V} {d2 : D} (R : RelX M an ρ σ H (v2 :: v :: ts) (d2 :: d :: ds)) : RelX M an ρ σ H ts ds := R.temps fun _ _ h => h.tail.tail
theorem RelX.drops (l : us.length = es.length) (R : RelX M an ρ σ H (us ++ ts) (es ++ ds)) : RelX M an ρ σ H ts ds := R.temps fun _ _ h => (Reps.split l.symm h).2
theorem RelX.rep (R : RelX M an ρ σ H (v :: ts) (d :: ds)) : ∃ G, Sub G H ∧ Rep M.K M.cl G d v := by
  obtain ⟨G, own, r⟩ := R
  exact ⟨G, r.sub, r.tmp.head⟩
theorem RelX.repH (R : RelX M an ρ σ H (v :: ts) (d :: ds)) : Rep M.K M.cl H d v := let ⟨_, s, r⟩ := R.rep; Rep.mono s _ _ r
theorem RelX.repsH (R : RelX M an ρ σ H ts ds) : Reps M.K M.cl H ds ts := let ⟨_, _, r⟩ := R; Reps.mono r.sub _ _ r.tmp
theorem RelX.len (R : RelX M an ρ σ H ts ds) : ρ.length = σ.length := let ⟨_, _, r⟩ := R; r.len
theorem RelG.owned (r : RelG M an ρ σ H ts ds G own) (h : IsOw ρ i) : ∃ o, H (own i) = some o := by
  obtain ⟨d, h | h⟩ := h
  · exact (r.owp i d h).2.1.there
  · exact (r.bop i d h).2.1.there
theorem RelG.ownedP (r : RelG M an ρ σ H ts ds G own) (h : IsOw ρ i) : PlainAt H (own i) := by
  obtain ⟨d, h | h⟩ := h
  · exact (r.owp i d h).2.1.plainAt
  · exact (r.bop i d h).2.1.plainAt
theorem RelG.h1 (r : RelG M an ρ σ H ts ds G own) (n : Nn H p) : Nn M.H0 p := fun o e => by
  by_cases tb : ∃ ps, o = .tbl ps
  · exact tb
  · by_cases w : p ∈ M.W
    · exact ((r.wok p w).nn n).elim
    · exact n o (r.ext p o e w fun ps q => tb ⟨ps, q⟩)
theorem RelG.h0 (r : RelG M an ρ σ H ts ds G own) (n : H p = none) : Nn M.H0 p := r.h1 (Nn.of n)
theorem sub_upd (n : H p = none) : Sub H (upd H p o) := fun b u e => by rw [upd_ne (ne_of_none e n)]; exact e
theorem sub_updG (s : Sub G H) (n : H p = none) : Sub (upd G p o) (upd H p o) := fun b u e => by
  by_cases hb : b = p
  · subst hb; rw [upd_same] at e; rw [upd_same]; exact e
  · rw [upd_ne hb] at e; rw [upd_ne hb]; exact s b u e
/-- the heap has grown by a new object that all may see -/
theorem RelG.grow (r : RelG M an ρ σ H ts ds G own) (n : H p = none) (hnt : ∀ ps, o ≠ .tbl ps) : RelG M an ρ σ (upd H p o) ts ds (upd G p o) own := by
  have gn : G p = none := by
    cases q : G p with
    | none => rfl
    | some u => rw [r.sub p u q] at n; cases n
  have s1 : Sub H (upd H p o) := sub_upd n
  have s2 : Sub G (upd G p o) := sub_upd gn
  have np : ∀ {b : Addr}, (∃ u, H b = some u) → b ≠ p := fun ⟨u, e⟩ => ne_of_none e n
  refine { sub := sub_updG r.sub n, g0 := fun b u e => s2 b u (r.g0 b u e), fr := fun b hb h0 => ?_, ext := fun b u e w q => s1 b u (r.ext b u e w q), tab := tabs_new r.tab n, ntb := noTb_upd r.ntb hnt, pin := fun q hq => Rep.mono s2 _ _ (r.pin q hq), wok := fun b w => let ⟨u, e, q⟩ := r.wok b w; ⟨u, s1 b u e, q⟩, shp := fun i d h => ?_, owp := fun i d h => ?_, bop := fun i d h => ?_, anp := fun q hq => ?_, inj := r.inj, apart := r.apart, anN := r.anN, len := r.len, tmp := Reps.mono s2 _ _ r.tmp }
  · by_cases hbp : b = p
    · subst hbp; exact r.h0 n
    · rw [upd_ne hbp] at hb; exact r.fr b hb h0
  · obtain ⟨v, e, q⟩ := r.shp i d h; exact ⟨v, e, Rep.mono s2 _ _ q⟩
  · obtain ⟨e, q, g, z⟩ := r.owp i d h
    exact ⟨e, q.mono s2 fun u hu => s1 _ u hu, by rw [upd_ne (np q.there)]; exact g, z⟩
  · obtain ⟨e, q, g, z⟩ := r.bop i d h
    exact ⟨e, q.mono s2 fun u hu => s1 _ u hu, by rw [upd_ne (np q.there)]; exact g, z⟩
  · obtain ⟨q1, g, z⟩ := r.anp q hq
    exact ⟨q1.mono s2 fun u hu => s1 _ u hu, by rw [upd_ne (np q1.there)]; exact g, z⟩
/-- the heap has grown by a new object that nobody sees -/
theorem RelG.growH (r : RelG M an ρ σ H ts ds G own) (n : H p = none) : RelG M an ρ σ (upd H p o) ts ds G own := by
  have s1 : Sub H (upd H p o) := sub_upd n
  refine { r with sub := fun b u e => s1 b u (r.sub b u e), ext := fun b u e w q => s1 b u (r.ext b u e w q), tab := tabs_new r.tab n, wok := fun b w => let ⟨u, e, q⟩ := r.wok b w; ⟨u, s1 b u e, q⟩, owp := fun i d h => ?_, bop := fun i d h => ?_, anp := fun q hq => ?_ }
  · obtain ⟨e, q, g, z⟩ := r.owp i d h
    exact ⟨e, q.mono Sub.rfl' fun u hu => s1 _ u hu, g, z⟩
  · obtain ⟨e, q, g, z⟩ := r.bop i d h
    exact ⟨e, q.mono Sub.rfl' fun u hu => s1 _ u hu, g, z⟩
  · obtain ⟨q1, g, z⟩ := r.anp q hq
    exact ⟨q1.mono Sub.rfl' fun u hu => s1 _ u hu, g, z⟩
theorem RelG.gn (r : RelG M an ρ σ H ts ds G own) (n : H p = none) : G p = none := by
  cases q : G p with
  | none => rfl
  | some u => rw [r.sub p u q] at n; cases n
/-- a new object that all may see, other temporaries -/
theorem RelG.new (r : RelG M an ρ σ H us es G own) (n : H p = none) (h : Sub G (upd G p o) → Reps M.K M.cl (upd G p o) ds ts) (hnt : ∀ ps, o ≠ .tbl ps := by intro _ z; cases z) : RelX M an ρ σ (upd H p o) ts ds :=
  ⟨_, own, { r.grow n hnt with tmp := h (sub_upd (r.gn n)) }⟩
theorem RelG.keep (r : RelG M an ρ σ H us es G own) (h : Reps M.K M.cl G ds ts) : RelX M an ρ σ H ts ds := ⟨_, own, { r with tmp := h }⟩
theorem RelX.growH (R : RelX M an ρ σ H ts ds) (n : H p = none) : RelX M an ρ σ (upd H p o) ts ds := let ⟨G, own, r⟩ := R; ⟨G, own, r.growH n⟩
/-- a new object, shared: h tells what it holds -/
theorem RelX.new (R : RelX M an ρ σ H us es) (n : H p = none) (h : ∀ G, Reps M.K M.cl G es us → G p = some o → Reps M.K M.cl G ds ts) (hnt : ∀ ps, o ≠ .tbl ps := by intro _ z; cases z) : RelX M an ρ σ (upd H p o) ts ds := by
  obtain ⟨G, own, r⟩ := R
  have r' := r.grow (o := o) n hnt
  exact ⟨_, own, { r' with tmp := h _ r'.tmp upd_same }⟩
theorem RelX.newTup {vs : List V} {fs : List D} (R : RelX M an ρ σ H (vs ++ ts) (fs ++ ds)) (l : vs.length = fs.length) (n : H p = none) : RelX M an ρ σ (upd H p (.tup vs)) (.ref p :: ts) (.tup fs :: ds) :=
  R.new n fun _ r g => let ⟨a, b⟩ := Reps.split l.symm r; Reps.cons ⟨p, vs, rfl, SqT.of g, a⟩ b
theorem RelX.newLst {vs : List V} {fs : List D} (R : RelX M an ρ σ H (vs ++ ts) (fs ++ ds)) (l : vs.length = fs.length) (n : H p = none) : RelX M an ρ σ (upd H p (.lst vs)) (.ref p :: ts) (.lst fs :: ds) :=
  R.new n fun _ r g => let ⟨a, b⟩ := Reps.split l.symm r; Reps.cons ⟨p, vs, rfl, g, a⟩ b
/-- a new object, held aside: h tells what it holds -/
theorem RelX.newAn (R : RelX M an ρ σ H us es) (n : H p = none) (h : ∀ G, Sub G H → Reps M.K M.cl G es us → OwAt M.K M.cl G (upd H p o) p d ∧ Reps M.K M.cl G ds ts) : RelX M ((p, d) :: an) ρ σ (upd H p o) ts ds := by
  obtain ⟨G, own, r⟩ := R
  have r' := r.growH (o := o) n
  have gn : G p = none := by
    cases q : G p with
    | none => rfl
    | some u => rw [r.sub p u q] at n; cases n
  have z := h G r.sub r.tmp
  refine ⟨G, own, { r' with anp := fun q hq => ?_, apart := fun i hi q hq => ?_, anN := ?_, tmp := z.2 }⟩
  · rcases List.mem_cons.mp hq with e | hq
    · subst e; exact ⟨z.1, gn, r.h0 n⟩
    · exact r'.anp q hq
  · rcases List.mem_cons.mp hq with e | hq
    · subst e
      obtain ⟨u, hu⟩ := r.owned hi
      exact ne_of_none hu n
    · exact r.apart i hi q hq
  · rw [List.map_cons, List.nodup_cons]
    refine ⟨fun hm => ?_, r.anN⟩
    obtain ⟨q, hq, e⟩ := List.mem_map.mp hm
    obtain ⟨u, hu⟩ := (r.anp q hq).1.there
    rw [e, n] at hu; cases hu
theorem RelX.newAnLst {vs : List V} {fs : List D} (R : RelX M an ρ σ H (vs ++ ts) (fs ++ ds)) (l : vs.length = fs.length) (n : H p = none) : RelX M ((p, .lst fs) :: an) ρ σ (upd H p (.lst vs)) ts ds :=
  R.newAn n fun _ _ r => let ⟨a, b⟩ := Reps.split l.symm r; ⟨⟨vs, upd_same, a⟩, b⟩
/-- what is held aside is forgotten -/
theorem RelX.anDrop {q : Addr × D} (R : RelX M (q :: an) ρ σ H ts ds) : RelX M an ρ σ H ts ds := by
  obtain ⟨G, own, r⟩ := R
  exact ⟨G, own, { r with anp := fun x hx => r.anp x (List.mem_cons_of_mem _ hx), apart := fun i hi x hx => r.apart i hi x (List.mem_cons_of_mem _ hx), anN := (List.nodup_cons.mp (show (q.1 :: an.map (·.1)).Nodup from r.anN)).2 }⟩
/-- one place more becomes seen -/
theorem RelG.see (r : RelG M an ρ σ H ts ds G own) (hnt : ∀ ps, o ≠ .tbl ps) (ho : H a = some o) (h0 : Nn M.H0 a) (nw : ∀ i, IsOw ρ i → own i ≠ a) (na : ∀ q ∈ an, q.1 ≠ a) (gn : G a = none) : RelG M an ρ σ H ts ds (upd G a o) own := by
  have s2 : Sub G (upd G a o) := sub_upd gn
  refine { r with sub := fun b u e => ?_, g0 := fun b u e => s2 b u (r.g0 b u e), ntb := noTb_upd r.ntb hnt, pin := fun q hq => Rep.mono s2 _ _ (r.pin q hq), fr := fun b hb h => ?_, shp := fun i d h => ?_, owp := fun i d h => ?_, bop := fun i d h => ?_, anp := fun q hq => ?_, tmp := Reps.mono s2 _ _ r.tmp }
  · by_cases hb : b = a
    · subst hb; rw [upd_same] at e; rw [← e]; exact ho
    · rw [upd_ne hb] at e; exact r.sub b u e
  · by_cases hba : b = a
    · subst hba; exact h0
    · rw [upd_ne hba] at hb; exact r.fr b hb h
  · obtain ⟨v, e, q⟩ := r.shp i d h; exact ⟨v, e, Rep.mono s2 _ _ q⟩
  · obtain ⟨e, q, g, z⟩ := r.owp i d h
    exact ⟨e, q.mono s2 fun _ hu => hu, by rw [upd_ne (nw i ⟨d, .inl h⟩)]; exact g, z⟩
  · obtain ⟨e, q, g, z⟩ := r.bop i d h
    exact ⟨e, q.mono s2 fun _ hu => hu, by rw [upd_ne (nw i ⟨d, .inr h⟩)]; exact g, z⟩
  · obtain ⟨q1, g, z⟩ := r.anp q hq
    exact ⟨q1.mono s2 fun _ hu => hu, by rw [upd_ne (na q hq)]; exact g, z⟩
/-- what is held aside becomes a shared value -/
theorem RelX.anShare (R : RelX M ((p, d) :: an) ρ σ H ts ds) : RelX M an ρ σ H (.ref p :: ts) (d :: ds) := by
  obtain ⟨G, own, r⟩ := id R
  obtain ⟨q, g, z⟩ := r.anp (p, d) List.mem_cons_self
  obtain ⟨o, ho⟩ := q.there
  have nd := List.nodup_cons.mp (show (p :: an.map (·.1)).Nodup from r.anN)
  have r1 : RelG M an ρ σ H ts ds G own := { r with anp := fun x hx => r.anp x (List.mem_cons_of_mem _ hx), apart := fun i hi x hx => r.apart i hi x (List.mem_cons_of_mem _ hx), anN := nd.2 }
  have r2 := r1.see (q.plain ho).1 ho z (fun i hi => r.apart i hi (p, d) List.mem_cons_self) (fun x hx e => nd.1 (List.mem_map.mpr ⟨x, hx, e⟩)) g
  have gs : (upd G p o) p = some o := upd_same
  exact ⟨_, own, { r2 with tmp := Reps.cons (q.rep ho (sub_upd g) gs) r2.tmp }⟩
end
end Dl
end
section
set_option maxHeartbeats 4000000
/-! DlB: the judgements, names, constants, operators, tests. -/
namespace Dl
open PySem PySem.Spec PyProof.Rows L2
abbrev St := L2.St

theorem pe_imp {X : Cx} {e : Expr} {t t' : TE} (h : PE X e t) (i : ∀ σ H Q, t' σ H Q → t σ H Q) : PE X e t' := ⟨fun pins s σ H Q I q => h.run pins s σ H Q I (i σ H Q q)⟩
theorem pt_imp {X : Cx} {e : Expr} {t t' : TT} (h : PT X e t) (i : ∀ σ H Q, t' σ H Q → t σ H Q) : PT X e t' := ⟨fun pins s σ H Q I q => h.run pins s σ H Q I (i σ H Q q)⟩
theorem pw_imp {X : Cx} {e : Expr} {t t' : TT} (h : PW X e t) (i : ∀ σ H Q, t' σ H Q → t σ H Q) : PW X e t' := ⟨fun w pins s σ H Q I q => h.run w pins s σ H Q I (i σ H Q q)⟩
theorem pa_imp {X : Cx} {es : List Expr} {t t' : TA} (h : PA X es t) (i : ∀ σ H Q, t' σ H Q → t σ H Q) : PA X es t' := ⟨fun p pins s σ H Q I q => h.run p pins s σ H Q I (i σ H Q q)⟩
theorem ps_imp {X : Cx} {st : Stmt} {t t' : TS} (h : PS X st t) (i : ∀ Dn σ H, t' Dn σ H → t Dn σ H) : PS X st t' := ⟨fun pins s σ H Dn I q => h.run pins s σ H Dn I (i Dn σ H q)⟩
theorem pss_imp {X : Cx} {st : List Stmt} {t t' : TS} (h : PSs X st t) (i : ∀ Dn σ H, t' Dn σ H → t Dn σ H) : PSs X st t' := ⟨fun pins s σ H Dn I q => h.run pins s σ H Dn I (i Dn σ H q)⟩
theorem pi_imp {X : Cx} {tg e : Expr} {t t' : TI} (h : PI X tg e t) (i : ∀ σ H R, t' σ H R → t σ H R) : PI X tg e t' := ⟨fun pins s σ H R I q => h.run pins s σ H R I (i σ H R q)⟩

/-- what an exception brings: its class, its fields -/
def ErrD (fs : List Str) (vs : List V) (dx : Option Addr) (H0 H : Hp) : Prop := fs = [] ∨ (fs.length = vs.length ∧ ∃ d, dx = some d ∧ Nn H0 d ∧ H d = some (.xd (fs.zip vs)))
theorem ErrD.up {fs : List Str} {vs : List V} {dx : Option Addr} {H0 H1 H : Hp} (h : ErrD fs vs dx H1 H) (k : ∀ a : Addr, Nn H1 a → Nn H0 a) : ErrD fs vs dx H0 H := h.imp id fun ⟨a, d, b, c, e⟩ => ⟨a, d, b, k d c, e⟩
def EErr (M : Mc) (an : List (Addr × D)) (ts : List V) (ds : List D) (W : WX) (σ : St) (c : Str) (fs : List Str) (es : List D) (ρ : En) : Prop :=
  ∀ (C : Addr) (dx : Option Addr) (H' : Hp) (vs : List V), M.cl c = some C → vs.length = es.length → ErrD fs vs dx M.H0 H' → RelX M an ρ σ H' (vs ++ ts) (es ++ ds) → W (.ref C) dx σ H'
/-- the ends of an expression, of a test, of arguments, of a fresh object, of a statement -/
def EOk (M : Mc) (an : List (Addr × D)) (ts : List V) (ds : List D) (W : WX) (σ : St) (r : Rs D) (Q : VK) : Prop := match r with
  | .ok d ρ => ∀ v H', RelX M an ρ σ H' (v :: ts) (d :: ds) → Q v H'
  | .err c fs es ρ => EErr M an ts ds W σ c fs es ρ
  | .stuck => False
def BOk (M : Mc) (an : List (Addr × D)) (ts : List V) (ds : List D) (W : WX) (σ : St) (r : Rs Bool) (Q : Bool → Hp → Prop) : Prop := match r with
  | .ok b ρ => ∀ H', RelX M an ρ σ H' ts ds → Q b H'
  | .err c fs es ρ => EErr M an ts ds W σ c fs es ρ
  | .stuck => False
def AOk (M : Mc) (an : List (Addr × D)) (ts : List V) (ds : List D) (W : WX) (σ : St) (r : Rs (List D)) (Q : List V → Hp → Prop) : Prop := match r with
  | .ok es ρ => ∀ vs H', vs.length = es.length → RelX M an ρ σ H' (vs ++ ts) (es ++ ds) → Q vs H'
  | .err c fs es ρ => EErr M an ts ds W σ c fs es ρ
  | .stuck => False
def LOk (M : Mc) (an : List (Addr × D)) (ts : List V) (ds : List D) (W : WX) (σ : St) (r : Rs D) (Q : VK) : Prop := match r with
  | .ok d ρ => ∀ p H', RelX M ((p, d) :: an) ρ σ H' ts ds → Q (.ref p) H'
  | .err c fs es ρ => EErr M an ts ds W σ c fs es ρ
  | .stuck => False
def SOk (M : Mc) (an : List (Addr × D)) (ts : List V) (ds : List D) (W : WX) (r : Rs Fl) (Dn : Ends) : Prop := match r with
  | .ok .nx ρ => ∀ σ H', RelX M an ρ σ H' ts ds → Dn.nx σ H'
  | .ok .brk ρ => ∀ σ H', RelX M an ρ σ H' ts ds → Dn.bk σ H'
  | .ok .cont ρ => ∀ σ H', RelX M an ρ σ H' ts ds → Dn.ct σ H'
  | .ok (.ret d) ρ => ∀ v σ H', RelX M an ρ σ H' (v :: ts) (d :: ds) → Dn.rt v H'
  | .ok (.retL d) ρ => ∀ p σ H', RelX M ((p, d) :: an) ρ σ H' ts ds → Dn.rt (.ref p) H'
  | .err c fs es ρ => ∀ σ, EErr M an ts ds W σ c fs es ρ
  | .stuck => False
def tE (M : Mc) (W : WX) (f : En → Rs D) : TE := fun σ H Q => ∃ an ρ ts ds, RelX M an ρ σ H ts ds ∧ EOk M an ts ds W σ (f ρ) Q
def tB1 (M : Mc) (W : WX) (f : En → Rs Bool) : TT := fun σ H Q => ∃ an ρ ts ds, RelX M an ρ σ H ts ds ∧ BOk M an ts ds W σ (f ρ) Q
def tAr (M : Mc) (W : WX) (f : En → Rs (List D)) : TA := fun σ H Q => ∃ an ρ ts ds, RelX M an ρ σ H ts ds ∧ AOk M an ts ds W σ (f ρ) Q
def tLs (M : Mc) (W : WX) (f : En → Rs D) : TE := fun σ H Q => ∃ an ρ ts ds, RelX M an ρ σ H ts ds ∧ LOk M an ts ds W σ (f ρ) Q
def tSt (M : Mc) (W : WX) (f : En → Rs Fl) : TS := fun Dn σ H => ∃ an ρ ts ds, RelX M an ρ σ H ts ds ∧ SOk M an ts ds W (f ρ) Dn
abbrev SE (X : Cx) (M : Mc) (W : WX) (e : Expr) (f : En → Rs D) : Prop := PE X e (tE M W f)
abbrev SL (X : Cx) (M : Mc) (W : WX) (e : Expr) (f : En → Rs D) : Prop := PE X e (tLs M W f)
abbrev SB (X : Cx) (M : Mc) (W : WX) (e : Expr) (f : En → Rs Bool) : Prop := PT X e (tB1 M W f)
abbrev SW (X : Cx) (M : Mc) (W : WX) (e : Expr) (f : En → Rs Bool) : Prop := PW X e (tB1 M W f)
abbrev SA (X : Cx) (M : Mc) (W : WX) (es : List Expr) (f : En → Rs (List D)) : Prop := PA X es (tAr M W f)
abbrev SS (X : Cx) (M : Mc) (W : WX) (st : Stmt) (f : En → Rs Fl) : Prop := PS X st (tSt M W f)
abbrev SSs (X : Cx) (M : Mc) (W : WX) (st : List Stmt) (f : En → Rs Fl) : Prop := PSs X st (tSt M W f)

section
variable {M : Mc} {an : List (Addr × D)} {ts : List V} {ds : List D} {W : WX} {σ : St} {ρ : En} {H : Hp}
theorem EErr.weak {us : List V} {es' : List D} {c : Str} {fs : List Str} {es : List D} (h : EErr M an ts ds W σ c fs es ρ) (l : us.length = es'.length) : EErr M an (us ++ ts) (es' ++ ds) W σ c fs es ρ := fun C dx H' vs h1 h2 h3 R =>
  h C dx H' vs h1 h2 h3 (R.temps fun _ _ q => let ⟨a, b⟩ := Reps.split h2.symm q; Reps.append a (Reps.split l.symm b).2)
theorem EErr.weak1 {v : V} {d : D} {c : Str} {fs : List Str} {es : List D} (h : EErr M an ts ds W σ c fs es ρ) : EErr M an (v :: ts) (d :: ds) W σ c fs es ρ := h.weak (us := [v]) (es' := [d]) rfl
/-- one after the other -/
theorem EOk.bind {β : Type} {r : Rs D} {g : D → En → Rs β} {Q1 : VK} {P : Rs β → Prop} (h : P (r.bind g)) (he : ∀ c fs es ρ, P (.err c fs es ρ) → EErr M an ts ds W σ c fs es ρ) (hs : ¬ P .stuck)
    (k : ∀ d ρ1 v H1, RelX M an ρ1 σ H1 (v :: ts) (d :: ds) → P (g d ρ1) → Q1 v H1) : EOk M an ts ds W σ r Q1 := by
  cases r with
  | ok d ρ1 => exact fun v H' R => k d ρ1 v H' R h
  | err c fs es ρ1 => exact he _ _ _ _ h
  | stuck => exact hs h
theorem BOk.bind {β : Type} {r : Rs Bool} {g : Bool → En → Rs β} {Q1 : Bool → Hp → Prop} {P : Rs β → Prop} (h : P (r.bind g)) (he : ∀ c fs es ρ, P (.err c fs es ρ) → EErr M an ts ds W σ c fs es ρ) (hs : ¬ P .stuck)
    (k : ∀ b ρ1 H1, RelX M an ρ1 σ H1 ts ds → P (g b ρ1) → Q1 b H1) : BOk M an ts ds W σ r Q1 := by
  cases r with
  | ok d ρ1 => exact fun H' R => k d ρ1 H' R h
  | err c fs es ρ1 => exact he _ _ _ _ h
  | stuck => exact hs h
theorem AOk.bind {β : Type} {r : Rs (List D)} {g : List D → En → Rs β} {Q1 : List V → Hp → Prop} {P : Rs β → Prop} (h : P (r.bind g)) (he : ∀ c fs es ρ, P (.err c fs es ρ) → EErr M an ts ds W σ c fs es ρ) (hs : ¬ P .stuck)
    (k : ∀ es ρ1 vs H1, vs.length = es.length → RelX M an ρ1 σ H1 (vs ++ ts) (es ++ ds) → P (g es ρ1) → Q1 vs H1) : AOk M an ts ds W σ r Q1 := by
  cases r with
  | ok d ρ1 => exact fun vs H' l R => k d ρ1 vs H' l R h
  | err c fs es ρ1 => exact he _ _ _ _ h
  | stuck => exact hs h
theorem LOk.bind {β : Type} {r : Rs D} {g : D → En → Rs β} {Q1 : VK} {P : Rs β → Prop} (h : P (r.bind g)) (he : ∀ c fs es ρ, P (.err c fs es ρ) → EErr M an ts ds W σ c fs es ρ) (hs : ¬ P .stuck)
    (k : ∀ d ρ1 p H1, RelX M ((p, d) :: an) ρ1 σ H1 ts ds → P (g d ρ1) → Q1 (.ref p) H1) : LOk M an ts ds W σ r Q1 := by
  cases r with
  | ok d ρ1 => exact fun p H' R => k d ρ1 p H' R h
  | err c fs es ρ1 => exact he _ _ _ _ h
  | stuck => exact hs h
theorem SOk.bind {β : Type} {r : Rs Fl} {g : Fl → En → Rs β} {P : Rs β → Prop} {Dn : Ends} (h : P (r.bind g)) (he : ∀ c fs es ρ, P (.err c fs es ρ) → ∀ σ, EErr M an ts ds W σ c fs es ρ) (hs : ¬ P .stuck)
    (k1 : ∀ ρ1 σ1 H1, RelX M an ρ1 σ1 H1 ts ds → P (g .nx ρ1) → Dn.nx σ1 H1) (k2 : ∀ ρ1 σ1 H1, RelX M an ρ1 σ1 H1 ts ds → P (g .brk ρ1) → Dn.bk σ1 H1) (k3 : ∀ ρ1 σ1 H1, RelX M an ρ1 σ1 H1 ts ds → P (g .cont ρ1) → Dn.ct σ1 H1)
    (k4 : ∀ d ρ1 v σ1 H1, RelX M an ρ1 σ1 H1 (v :: ts) (d :: ds) → P (g (.ret d) ρ1) → Dn.rt v H1) (k5 : ∀ d ρ1 p σ1 H1, RelX M ((p, d) :: an) ρ1 σ1 H1 ts ds → P (g (.retL d) ρ1) → Dn.rt (.ref p) H1) : SOk M an ts ds W r Dn := by
  cases r with
  | ok d ρ1 =>
    cases d with
    | nx => exact fun σ1 H' R => k1 ρ1 σ1 H' R h
    | brk => exact fun σ1 H' R => k2 ρ1 σ1 H' R h
    | cont => exact fun σ1 H' R => k3 ρ1 σ1 H' R h
    | ret d => exact fun v σ1 H' R => k4 d ρ1 v σ1 H' R h
    | retL d => exact fun p σ1 H' R => k5 d ρ1 p σ1 H' R h
  | err c fs es ρ1 => exact he _ _ _ _ h
  | stuck => exact hs h
end

/-! ### names and constants -/
def fVar (i : Nat) : En → Rs D := fun ρ => match ρ[i]? with
  | some (some (.sh d)) => .ok d ρ
  | some (some (.ow d)) => .ok d (ρ.set i (some (.sh d)))
  | _ => .stuck
section
variable {X : Cx} {M : Mc} {W : WX}
theorem RelX.var {an : List (Addr × D)} {ρ : En} {σ : St} {H : Hp} {ts : List V} {ds : List D} {i : Nat} {d : D} (R : RelX M an ρ σ H ts ds) (h : ρ[i]? = some (some (.sh d))) : ∃ v, σ[i]? = some (some v) ∧ RelX M an ρ σ H (v :: ts) (d :: ds) := by
  obtain ⟨G, own, r⟩ := R
  obtain ⟨v, e, q⟩ := r.shp i d h
  exact ⟨v, e, G, own, { r with tmp := Reps.cons q r.tmp }⟩
theorem isOw_set {ρ : En} {i j : Nat} {d : D} (h : IsOw (ρ.set i (some (.sh d))) j) : IsOw ρ j := by
  obtain ⟨e, h⟩ := h
  by_cases hij : i = j
  · subst hij
    by_cases hl : i < ρ.length
    · rw [List.getElem?_set_self hl] at h; rcases h with h | h <;> cases h
    · rw [List.set_eq_of_length_le (Nat.le_of_not_lt hl)] at h; exact ⟨e, h⟩
  · rw [List.getElem?_set_ne hij] at h; exact ⟨e, h⟩
theorem not_isOw_set {ρ : En} {i : Nat} {d : D} (hl : i < ρ.length) : ¬ IsOw (ρ.set i (some (.sh d))) i := by
  rintro ⟨e, h⟩
  rw [List.getElem?_set_self hl] at h; rcases h with h | h <;> cases h
/-- an owned one is given away -/
theorem RelX.release {an : List (Addr × D)} {ρ : En} {σ : St} {H : Hp} {ts : List V} {ds : List D} {i : Nat} {d : D} (R : RelX M an ρ σ H ts ds) (h : ρ[i]? = some (some (.ow d))) :
    ∃ v, σ[i]? = some (some v) ∧ RelX M an (ρ.set i (some (.sh d))) σ H (v :: ts) (d :: ds) := by
  obtain ⟨G, own, r⟩ := R
  obtain ⟨e, q, g, z⟩ := r.owp i d h
  obtain ⟨o, ho⟩ := q.there
  have hl : i < ρ.length := (List.getElem?_eq_some_iff.mp h).1
  have s2 : Sub G (upd G (own i) o) := sub_upd g
  have rp : Rep M.K M.cl (upd G (own i) o) d (.ref (own i)) := q.rep ho s2 upd_same
  have r1 : RelG M an (ρ.set i (some (.sh d))) σ H ts ds (upd G (own i) o) own := by
    refine { sub := fun b u eb => ?_, g0 := fun b u eb => s2 b u (r.g0 b u eb), fr := fun b hb h0 => ?_, ext := r.ext, tab := r.tab, ntb := noTb_upd r.ntb (q.plain ho).1, pin := fun x hx => Rep.mono s2 _ _ (r.pin x hx), wok := r.wok, shp := fun j d' hj => ?_, owp := fun j d' hj => ?_, bop := fun j d' hj => ?_, anp := fun x hx => ?_, inj := fun j k hj hk => r.inj j k (isOw_set hj) (isOw_set hk), apart := fun j hj => r.apart j (isOw_set hj), anN := r.anN, len := by simpa using r.len, tmp := Reps.mono s2 _ _ r.tmp }
    · by_cases hb : b = own i
      · subst hb; rw [upd_same] at eb; rw [← eb]; exact ho
      · rw [upd_ne hb] at eb; exact r.sub b u eb
    · by_cases hb' : b = own i
      · subst hb'; exact z
      · rw [upd_ne hb'] at hb; exact r.fr b hb h0
    · by_cases hij : i = j
      · subst hij; rw [List.getElem?_set_self hl] at hj; cases hj
        exact ⟨_, e, rp⟩
      · rw [List.getElem?_set_ne hij] at hj
        obtain ⟨v, e', q'⟩ := r.shp j d' hj; exact ⟨v, e', Rep.mono s2 _ _ q'⟩
    · by_cases hij : i = j
      · subst hij; rw [List.getElem?_set_self hl] at hj; cases hj
      · rw [List.getElem?_set_ne hij] at hj
        obtain ⟨e', q', g', z'⟩ := r.owp j d' hj
        have ne : own j ≠ own i := fun c => hij (r.inj j i ⟨d', .inl hj⟩ ⟨d, .inl h⟩ c).symm
        exact ⟨e', q'.mono s2 fun _ hu => hu, by rw [upd_ne ne]; exact g', z'⟩
    · by_cases hij : i = j
      · subst hij; rw [List.getElem?_set_self hl] at hj; cases hj
      · rw [List.getElem?_set_ne hij] at hj
        obtain ⟨e', q', g', z'⟩ := r.bop j d' hj
        have ne : own j ≠ own i := fun c => hij (r.inj j i ⟨d', .inr hj⟩ ⟨d, .inl h⟩ c).symm
        exact ⟨e', q'.mono s2 fun _ hu => hu, by rw [upd_ne ne]; exact g', z'⟩
    · obtain ⟨q1, g1, z1⟩ := r.anp x hx
      exact ⟨q1.mono s2 fun _ hu => hu, by rw [upd_ne (Ne.symm (r.apart i ⟨d, .inl h⟩ x hx))]; exact g1, z1⟩
  exact ⟨_, e, _, own, { r1 with tmp := Reps.cons rp r1.tmp }⟩
theorem se_var (i : Nat) {x : Str} {pos : Pos} (hN : X.N[i]? = some x := by rfl) (hv : Vis X.env.scope x := by first | exact Or.inl rfl | exact Or.inr (Or.inl rfl) | exact Or.inr (Or.inr rfl)) (hd : (x == ("__debug__" : Str)) = false := by decide)
    (hcd : (x == ("__classdict__" : Str)) = false := by decide) : SE X M W (.Name x pos) (fVar i) := by
  refine pe_imp (pe_var hN hv hd hcd) fun σ H Q ⟨an, ρ, ts, ds, R, h⟩ => ?_
  unfold fVar at h
  cases q : ρ[i]? with
  | none => rw [q] at h; exact h.elim
  | some o =>
    rw [q] at h
    cases o with
    | none => exact h.elim
    | some s =>
      cases s with
      | sh d => obtain ⟨v, e, R'⟩ := R.var q; exact ⟨v, e, h v H R'⟩
      | ow d => obtain ⟨v, e, R'⟩ := R.release q; exact ⟨v, e, h v H R'⟩
      | bo d => exact h.elim
def fC (d : D) : En → Rs D := fun ρ => .ok d ρ
theorem RelX.push {an : List (Addr × D)} {ρ : En} {σ : St} {H : Hp} {ts : List V} {ds : List D} {v : V} {d : D} (R : RelX M an ρ σ H ts ds) (h : ∀ G, Rep M.K M.cl G d v) : RelX M an ρ σ H (v :: ts) (d :: ds) := R.temps fun G _ q => Reps.cons (h G) q
theorem se_c {e : Expr} {v : V} {d : D} (he : PE X e (tC v)) (h : ∀ G, Rep M.K M.cl G d v) : SE X M W e (fC d) :=
  pe_imp he fun σ H Q ⟨an, ρ, ts, ds, R, k⟩ => k v H (R.push h)
theorem se_int {i j pos} : SE X M W (.Constant (.int i) j pos) (fC (.int i)) := se_c pe_int fun _ => rfl
theorem se_bl {b j pos} : SE X M W (.Constant (.bool b) j pos) (fC (.bl b)) := se_c pe_bl fun _ => rfl
theorem se_non {j pos} : SE X M W (.Constant .none j pos) (fC .non) := se_c pe_non fun _ => rfl
theorem se_str {x j pos} : SE X M W (.Constant (.str x) j pos) (fC (.str x)) := se_c pe_str fun _ => rfl
/-- a module's constant -/
theorem se_globI {x : Str} {i : Int} {t : Tok} {pos : Pos} (hm : X.mg x = some (.int i t)) (hg : Gl X x := by rfl) (hd : (x == ("__debug__" : Str)) = false := by decide) : SE X M W (.Name x pos) (fC (.int i)) := se_c (pe_glob (v := .int i) hg hm ⟨t, rfl⟩ hd) fun _ => rfl
theorem se_globS {x : Str} {i : Str} {t : Tok} {pos : Pos} (hm : X.mg x = some (.str i t)) (hg : Gl X x := by rfl) (hd : (x == ("__debug__" : Str)) = false := by decide) : SE X M W (.Name x pos) (fC (.str i)) := se_c (pe_glob (v := .str i) hg hm ⟨t, rfl⟩ hd) fun _ => rfl
end

/-! ### operators -/
def fBin (g : D → D → Option D) (fa fb : En → Rs D) : En → Rs D := fun ρ => (fa ρ).bind fun a ρ1 => (fb ρ1).bind fun b ρ2 => match g a b with
  | some d => .ok d ρ2
  | none => .stuck
/-- an operation on values does on trees what g says -/
def BinS (M : Mc) (r : R2) (g : D → D → Option D) : Prop := ∀ (an : List (Addr × D)) (ρ : En) (σ : St) (H : Hp) (ts : List V) (ds : List D) (a b d : D) (x y : V) (Q : VK), g a b = some d → RelX M an ρ σ H (y :: x :: ts) (b :: a :: ds) →
  (∀ v H', RelX M an ρ σ H' (v :: ts) (d :: ds) → Q v H') → r x y H Q
section
variable {X : Cx} {M : Mc} {W : WX} {a b c : Expr} {fa fb fc : En → Rs D} {pos : Pos} {r : R2} {g : D → D → Option D}
theorem bin_core (hs : BinS M r g) {σ : St} {H : Hp} {Q : VK} (h : tE M W (fBin g fa fb) σ H Q) : tOp r (tE M W fa) (tE M W fb) σ H Q := by
  obtain ⟨an, ρ, ts, ds, R, h⟩ := h
  refine ⟨an, ρ, ts, ds, R, EOk.bind (P := fun z => EOk M an ts ds W σ z Q) h (fun _ _ _ _ z => z) id fun d ρ1 v H1 R1 h1 => ?_⟩
  refine ⟨an, ρ1, v :: ts, d :: ds, R1, EOk.bind (P := fun z => EOk M an ts ds W σ z Q) h1 (fun _ _ _ _ z => z.weak1) id fun d2 ρ2 v2 H2 R2 h2 => ?_⟩
  cases q : g d d2 with
  | none => rw [q] at h2; exact h2.elim
  | some z => rw [q] at h2; exact hs an ρ2 σ H2 ts ds d d2 z v v2 Q q R2 h2
theorem se_bin {op : Operator} (ho : OpR X (binaryOp op) r) (hs : BinS M r g) (ha : SE X M W a fa) (hb : SE X M W b fb) : SE X M W (.BinOp a op b pos) (fBin g fa fb) :=
  pe_imp (pe_op ho ha hb) fun _ _ _ h => bin_core hs h
theorem se_cmp {op : CmpOp} (ho : OpR X (compareOp op) r) (hs : BinS M r g) (ha : SE X M W a fa) (hb : SE X M W b fb) (hm : behindInMarks op b = false) : SE X M W (.Compare a [op] [b] pos) (fBin g fa fb) :=
  pe_imp (pe_cmpR ho ha hb hm) fun _ _ _ h => bin_core hs h
/-- a truth value as a test -/
def fTr (f : En → Rs D) : En → Rs Bool := fun ρ => (f ρ).bind fun d ρ1 => match d with
  | .bl b => .ok b ρ1
  | _ => .stuck
theorem tr_core {f : En → Rs D} {σ : St} {H : Hp} {Q : Bool → Hp → Prop} (h : tB1 M W (fTr f) σ H Q) : tE M W f σ H fun x H' => ∃ k, x = .bl k ∧ Q k H' := by
  obtain ⟨an, ρ, ts, ds, R, h⟩ := h
  refine ⟨an, ρ, ts, ds, R, EOk.bind (P := fun z => BOk M an ts ds W σ z Q) h (fun _ _ _ _ z => z) id fun d ρ1 v H1 R1 h1 => ?_⟩
  cases d with
  | bl k =>
    have e : v = .bl k := R1.repH
    exact ⟨k, e, h1 H1 R1.pop⟩
  | _ => exact h1.elim
theorem sb_val {e : Expr} {f : En → Rs D} (h : SE X M W e f) (he : ∀ whole, isTrue e X.env whole = (do let v ← whole; standAt e.pos; holding [v] (truthy v)) := by intro _; rfl) : SB X M W e (fTr f) :=
  pt_imp (pt_val h he) fun _ _ _ q => tr_core q
theorem sb_cmp {op : CmpOp} (ho : OpR X (compareOp op) r) (hs : BinS M r g) (ha : SE X M W a fa) (hb : SE X M W b fb) (hm : behindInMarks op b = false) : SB X M W (.Compare a [op] [b] pos) (fTr (fBin g fa fb)) :=
  pt_imp (pt_cmpR ho ha hb hm) fun _ _ _ q => bin_core hs (tr_core q)
/-- a op1 b op2 c -/
def fChain (g g2 : D → D → Option D) (fa fb fc : En → Rs D) : En → Rs D := fun ρ => (fa ρ).bind fun a ρ1 => (fb ρ1).bind fun b ρ2 => match g a b with
  | some (.bl true) => (fc ρ2).bind fun c ρ3 => match g2 b c with
    | some d => .ok d ρ3
    | none => .stuck
  | some (.bl false) => .ok (.bl false) ρ2
  | _ => .stuck
end
/-- an operation whose answer is a scalar and that leaves the heap -/
def CmpS (M : Mc) (r : R2) (g : D → D → Option D) : Prop := ∀ (H : Hp) (a b : D) (k : Bool) (x y : V) (Q : VK), g a b = some (.bl k) → Rep M.K M.cl H a x → Rep M.K M.cl H b y → Q (.bl k) H → r x y H Q
section
variable {X : Cx} {M : Mc} {W : WX} {a b c : Expr} {fa fb fc : En → Rs D} {pos : Pos} {r r2 : R2} {g g2 : D → D → Option D}
theorem CmpS.bin (h : CmpS M r g) (hg : ∀ a b d, g a b = some d → ∃ k, d = .bl k) : BinS M r g := fun an ρ σ H ts ds a b d x y Q e R k => by
  obtain ⟨kk, rfl⟩ := hg _ _ _ e
  have q := R.repsH
  exact h H a b kk x y Q e q.tail.head q.head (k _ _ (R.pop2.push fun _ => rfl))
theorem chain_core (hs : CmpS M r g) (hs2 : BinS M r2 g2) {σ : St} {H : Hp} {Q : VK} (h : tE M W (fChain g g2 fa fb fc) σ H Q) : tChain r r2 (tE M W fa) (tE M W fb) (tE M W fc) σ H Q := by
  obtain ⟨an, ρ, ts, ds, R, h⟩ := h
  refine ⟨an, ρ, ts, ds, R, EOk.bind (P := fun z => EOk M an ts ds W σ z Q) h (fun _ _ _ _ z => z) id fun d ρ1 v H1 R1 h1 => ?_⟩
  refine ⟨an, ρ1, v :: ts, d :: ds, R1, EOk.bind (P := fun z => EOk M an ts ds W σ z Q) h1 (fun _ _ _ _ z => z.weak1) id fun d2 ρ2 v2 H2 R2 h2 => ?_⟩
  have q := R2.repsH
  have main : ∀ k, g d d2 = some (.bl k) → (∃ k', V.bl k = .bl k' ∧ (if k' = true then tE M W fc σ H2 fun w' H4 => r2 v2 w' H4 Q else Q (.bl false) H2)) → r v v2 H2 fun z H3 => ∃ k', z = .bl k' ∧ (if k' = true then tE M W fc σ H3 fun w' H4 => r2 v2 w' H4 Q else Q (.bl false) H3) :=
    fun k e z => hs H2 d d2 k v v2 _ e q.tail.head q.head z
  cases e : g d d2 with
  | none => rw [e] at h2; exact h2.elim
  | some z =>
    rw [e] at h2
    cases z with
    | bl k =>
      refine main k e ⟨k, rfl, ?_⟩
      cases k with
      | false => exact iteF (h2 _ _ (R2.pop2.push fun _ => rfl))
      | true =>
        refine iteT ⟨an, ρ2, v2 :: ts, d2 :: ds, R2.temps fun _ _ q => Reps.cons q.head q.tail.tail, EOk.bind (P := fun z => EOk M an ts ds W σ z Q) h2 (fun _ _ _ _ z => z.weak1) id fun d3 ρ3 v3 H3 R3 h3 => ?_⟩
        cases e3 : g2 d2 d3 with
        | none => rw [e3] at h3; exact h3.elim
        | some z => rw [e3] at h3; exact hs2 an ρ3 σ H3 ts ds d2 d3 z v2 v3 Q e3 R3 h3
    | _ => exact h2.elim
theorem se_chain {op op' : CmpOp} (ho : OpR X (compareOp op) r) (ho' : OpR X (compareOp op') r2) (hs : CmpS M r g) (hs2 : BinS M r2 g2) (ha : SE X M W a fa) (hb : SE X M W b fb) (hc : SE X M W c fc) (hm : lastMarks [op, op'] [b, c] = false := by with_unfolding_all rfl) :
    SE X M W (.Compare a [op, op'] [b, c] pos) (fChain g g2 fa fb fc) := pe_imp (pe_chain ho ho' ha hb hc hm) fun _ _ _ h => chain_core hs hs2 h
theorem sb_chain {op op' : CmpOp} (ho : OpR X (compareOp op) r) (ho' : OpR X (compareOp op') r2) (hs : CmpS M r g) (hs2 : BinS M r2 g2) (ha : SE X M W a fa) (hb : SE X M W b fb) (hc : SE X M W c fc) (hm : lastMarks [op, op'] [b, c] = false := by with_unfolding_all rfl) :
    SB X M W (.Compare a [op, op'] [b, c] pos) (fTr (fChain g g2 fa fb fc)) := pt_imp (pt_chain ho ho' ha hb hc hm) fun _ _ _ h => chain_core hs hs2 (tr_core h)
end
/-! ### and, or, not, a if t else b -/
def fAndB (fa fb : En → Rs Bool) : En → Rs Bool := fun ρ => (fa ρ).bind fun a ρ1 => if a = true then fb ρ1 else .ok false ρ1
def fOrB (fa fb : En → Rs Bool) : En → Rs Bool := fun ρ => (fa ρ).bind fun a ρ1 => if a = true then .ok true ρ1 else fb ρ1
def fNotB (fa : En → Rs Bool) : En → Rs Bool := fun ρ => (fa ρ).bind fun a ρ1 => .ok (!a) ρ1
def fAnd (fa fb : En → Rs D) : En → Rs D := fun ρ => (fTr fa ρ).bind fun a ρ1 => if a = true then fb ρ1 else .ok (.bl false) ρ1
def fOr (fa fb : En → Rs D) : En → Rs D := fun ρ => (fTr fa ρ).bind fun a ρ1 => if a = true then .ok (.bl true) ρ1 else fb ρ1
def fNot (fa : En → Rs D) : En → Rs D := fun ρ => (fTr fa ρ).bind fun a ρ1 => .ok (.bl (!a)) ρ1
def fIf (fc : En → Rs Bool) (fa fb : En → Rs D) : En → Rs D := fun ρ => (fc ρ).bind fun c ρ1 => if c = true then fa ρ1 else fb ρ1
section
variable {X : Cx} {M : Mc} {W : WX} {a b c : Expr} {fa fb : En → Rs D} {ga gb : En → Rs Bool} {pos : Pos} {rest : List Expr}
theorem sw_and1 (ha : SB X M W a ga) : SW X M W (.BoolOp .And [a] pos) ga := pw_and1 ha
theorem sw_or1 (ha : SB X M W a ga) : SW X M W (.BoolOp .Or [a] pos) ga := pw_or1 ha
theorem sw_and (ha : SB X M W a ga) (hb : SW X M W (.BoolOp .And (b :: rest) pos) gb) : SW X M W (.BoolOp .And (a :: b :: rest) pos) (fAndB ga gb) := by
  refine pw_imp (pw_and ha hb) fun σ H Q ⟨an, ρ, ts, ds, R, h⟩ => ?_
  refine ⟨an, ρ, ts, ds, R, BOk.bind (P := fun z => BOk M an ts ds W σ z Q) h (fun _ _ _ _ z => z) id fun b ρ1 H1 R1 h1 => ?_⟩
  cases b with
  | true => exact iteT ⟨an, ρ1, ts, ds, R1, h1⟩
  | false => exact iteF (h1 _ R1)
theorem sw_or (ha : SB X M W a ga) (hb : SW X M W (.BoolOp .Or (b :: rest) pos) gb) : SW X M W (.BoolOp .Or (a :: b :: rest) pos) (fOrB ga gb) := by
  refine pw_imp (pw_or ha hb) fun σ H Q ⟨an, ρ, ts, ds, R, h⟩ => ?_
  refine ⟨an, ρ, ts, ds, R, BOk.bind (P := fun z => BOk M an ts ds W σ z Q) h (fun _ _ _ _ z => z) id fun b ρ1 H1 R1 h1 => ?_⟩
  cases b with
  | true => exact iteT (h1 _ R1)
  | false => exact iteF ⟨an, ρ1, ts, ds, R1, h1⟩
theorem sb_w {e : Expr} (h : SW X M W e ga) : SB X M W e ga := PW.pt h
theorem sb_not (ha : SB X M W a ga) : SB X M W (.UnaryOp .Not a pos) (fNotB ga) := by
  refine pt_imp (pt_not ha) fun σ H Q ⟨an, ρ, ts, ds, R, h⟩ => ?_
  exact ⟨an, ρ, ts, ds, R, BOk.bind (P := fun z => BOk M an ts ds W σ z Q) h (fun _ _ _ _ z => z) id fun b ρ1 H1 R1 h1 => h1 _ R1⟩
theorem se_one {op} (h : SE X M W a fa) : SE X M W (.BoolOp op [a] pos) fa := pe_one h
theorem se_and (ha : SE X M W a fa) (hb : SE X M W (.BoolOp .And (b :: rest) pos) fb) : SE X M W (.BoolOp .And (a :: b :: rest) pos) (fAnd fa fb) := by
  refine pe_imp (pe_and ha hb) fun σ H Q ⟨an, ρ, ts, ds, R, h⟩ => ?_
  refine tr_core (Q := fun c H1 => if c = true then tE M W fb σ H1 Q else Q (.bl false) H1) ⟨an, ρ, ts, ds, R, BOk.bind (P := fun z => EOk M an ts ds W σ z Q) h (fun _ _ _ _ z => z) id fun b ρ1 H1 R1 h1 => ?_⟩
  cases b with
  | true => exact iteT ⟨an, ρ1, ts, ds, R1, h1⟩
  | false => exact iteF (h1 _ _ (R1.push fun _ => rfl))
theorem se_or (ha : SE X M W a fa) (hb : SE X M W (.BoolOp .Or (b :: rest) pos) fb) : SE X M W (.BoolOp .Or (a :: b :: rest) pos) (fOr fa fb) := by
  refine pe_imp (pe_or ha hb) fun σ H Q ⟨an, ρ, ts, ds, R, h⟩ => ?_
  refine tr_core (Q := fun c H1 => if c = true then Q (.bl true) H1 else tE M W fb σ H1 Q) ⟨an, ρ, ts, ds, R, BOk.bind (P := fun z => EOk M an ts ds W σ z Q) h (fun _ _ _ _ z => z) id fun b ρ1 H1 R1 h1 => ?_⟩
  cases b with
  | true => exact iteT (h1 _ _ (R1.push fun _ => rfl))
  | false => exact iteF ⟨an, ρ1, ts, ds, R1, h1⟩
theorem se_not (ha : SE X M W a fa) : SE X M W (.UnaryOp .Not a pos) (fNot fa) := by
  refine pe_imp (pe_not ha) fun σ H Q ⟨an, ρ, ts, ds, R, h⟩ => ?_
  exact tr_core (Q := fun c H1 => Q (.bl (!c)) H1) ⟨an, ρ, ts, ds, R, BOk.bind (P := fun z => EOk M an ts ds W σ z Q) h (fun _ _ _ _ z => z) id fun b ρ1 H1 R1 h1 => h1 _ _ (R1.push fun _ => rfl)⟩
theorem se_if (hc : SB X M W c ga) (ha : SE X M W a fa) (hb : SE X M W b fb) : SE X M W (.IfExp c a b pos) (fIf ga fa fb) := by
  refine pe_imp (pe_ifExp hc ha hb) fun σ H Q ⟨an, ρ, ts, ds, R, h⟩ => ?_
  refine ⟨an, ρ, ts, ds, R, BOk.bind (P := fun z => EOk M an ts ds W σ z Q) h (fun _ _ _ _ z => z) id fun b ρ1 H1 R1 h1 => ?_⟩
  cases b with
  | true => exact iteT ⟨an, ρ1, ts, ds, R1, h1⟩
  | false => exact iteF ⟨an, ρ1, ts, ds, R1, h1⟩
end
/-! ### argument lists, displays -/
def fNil : En → Rs (List D) := fun ρ => .ok [] ρ
def fCons (f : En → Rs D) (g : En → Rs (List D)) : En → Rs (List D) := fun ρ => (f ρ).bind fun d ρ1 => (g ρ1).bind fun ds ρ2 => .ok (d :: ds) ρ2
def fTup (g : En → Rs (List D)) : En → Rs D := fun ρ => (g ρ).bind fun ds ρ1 => if ds.length ≤ sizeLine then .ok (.tup ds) ρ1 else .stuck
def fLst (g : En → Rs (List D)) : En → Rs D := fun ρ => (g ρ).bind fun ds ρ1 => if ds.length ≤ sizeLine then .ok (.lst ds) ρ1 else .stuck
section
variable {X : Cx} {M : Mc} {W : WX} {e : Expr} {es : List Expr} {f : En → Rs D} {g : En → Rs (List D)} {pos : Pos}
theorem sa_nil : SA X M W [] fNil := pa_imp pa_nil fun σ H Q ⟨an, ρ, ts, ds, R, h⟩ => h [] H rfl R
theorem sa_cons (he : SE X M W e f) (hr : SA X M W es g) (hs : starEach (e :: es) X.env = (false, eval e X.env) :: starEach es X.env := by rfl) : SA X M W (e :: es) (fCons f g) := by
  refine pa_imp (pa_cons he hr hs) fun σ H Q ⟨an, ρ, ts, ds, R, h⟩ => ?_
  refine ⟨an, ρ, ts, ds, R, EOk.bind (P := fun z => AOk M an ts ds W σ z Q) h (fun _ _ _ _ z => z) id fun d ρ1 v H1 R1 h1 => ?_⟩
  refine ⟨an, ρ1, v :: ts, d :: ds, R1, AOk.bind (P := fun z => AOk M an ts ds W σ z Q) h1 (fun _ _ _ _ z => z.weak1) id fun es ρ2 vs H2 l R2 h2 => ?_⟩
  refine h2 (v :: vs) H2 (by simp [l]) (R2.temps fun _ _ q => ?_)
  obtain ⟨q1, q2⟩ := Reps.split l.symm q
  exact Reps.cons q2.head (Reps.append q1 q2.tail)
theorem se_tup {x1} (h : SA X M W es g) : SE X M W (.Tuple es x1 pos) (fTup g) := by
  refine pe_imp (pe_tup h) fun σ H Q ⟨an, ρ, ts, ds, R, h⟩ => ?_
  refine ⟨an, ρ, ts, ds, R, AOk.bind (P := fun z => EOk M an ts ds W σ z Q) h (fun _ _ _ _ z => z) id fun es ρ1 vs H1 l R1 h1 => ?_⟩
  by_cases c : es.length ≤ sizeLine
  · rw [if_pos c] at h1
    exact ⟨by rw [l]; exact c, fun p hp => h1 _ _ (R1.newTup l hp)⟩
  · rw [if_neg c] at h1; exact h1.elim
theorem sl_lst (h : SA X M W es g) : SL X M W (.List es pos) (fLst g) := by
  refine pe_imp (pe_lst h) fun σ H Q ⟨an, ρ, ts, ds, R, h⟩ => ?_
  refine ⟨an, ρ, ts, ds, R, AOk.bind (P := fun z => LOk M an ts ds W σ z Q) h (fun _ _ _ _ z => z) id fun es ρ1 vs H1 l R1 h1 => ?_⟩
  by_cases c : es.length ≤ sizeLine
  · rw [if_pos c] at h1
    exact ⟨by rw [l]; exact c, fun p hp => h1 _ _ (R1.newAnLst l hp)⟩
  · rw [if_neg c] at h1; exact h1.elim
/-- a fresh object as a value -/
theorem se_l (h : SL X M W e f) : SE X M W e f := pe_imp h fun σ H Q ⟨an, ρ, ts, ds, R, k⟩ => ⟨an, ρ, ts, ds, R, by
  cases q : f ρ with
  | ok d ρ1 => rw [q] at k; exact fun p H' R1 => k _ _ R1.anShare
  | err c fs es ρ1 => rw [q] at k; exact k
  | stuck => rw [q] at k; exact k⟩
end
end Dl
end
section
set_option maxHeartbeats 4000000
/-! DlC: the operators on trees. -/
namespace Dl
open PySem PySem.Spec PyProof.Rows L2
/-! ### plain data -/
mutual
def D.py : D → Option PyData
  | .non => some .none
  | .bl b => some (.bool b)
  | .int i => some (.int i)
  | .str x => some (.str x)
  | .tup ds => (pyAll ds).map .tuple
  | .lst ds => (pyAll ds).map .list
  | .frz ds => (pyAll ds).map .list
  | .dic _ _ => none
  | .ins _ _ _ => none
  | .loc _ _ => none
  | .xd _ _ => none
  | .fn _ => none
def pyAll : List D → Option (List PyData)
  | [] => some []
  | d :: ds => d.py.bind fun x => (pyAll ds).map (x :: ·)
end
section
variable {K : PySem.W.Frag} {cl : Cl} {H : Hp}
mutual
theorem rep_dp : ∀ (d : D) (v : V) (x : PyData), d.py = some x → Rep K cl H d v → Dp K H v x
  | .non, v, x, e, h => by simp [D.py] at e; subst e; cases (show v = _ from h); exact .non
  | .bl b, v, x, e, h => by simp [D.py] at e; subst e; cases (show v = _ from h); exact .bl b
  | .int i, v, x, e, h => by simp [D.py] at e; subst e; cases (show v = _ from h); exact .int i
  | .str z, v, x, e, h => by simp [D.py] at e; subst e; cases (show v = _ from h); exact .str z
  | .tup ds, v, x, e, h => by
    obtain ⟨xs, e1, rfl⟩ := Option.map_eq_some_iff.mp (show (pyAll ds).map _ = some x from e)
    obtain ⟨a, vs, rfl, q, r⟩ := h
    exact .tup q (rep_dps ds vs xs e1 r)
  | .lst ds, v, x, e, h => by
    obtain ⟨xs, e1, rfl⟩ := Option.map_eq_some_iff.mp (show (pyAll ds).map _ = some x from e)
    obtain ⟨a, vs, rfl, q, r⟩ := h
    exact .lst (SqL.of q) (rep_dps ds vs xs e1 r)
  | .frz ds, v, x, e, h => by
    obtain ⟨xs, e1, rfl⟩ := Option.map_eq_some_iff.mp (show (pyAll ds).map _ = some x from e)
    obtain ⟨a, vs, rfl, q, r⟩ := h
    exact .lst q (rep_dps ds vs xs e1 r)
  | .dic _ _, v, x, e, h => by simp [D.py] at e
  | .ins _ _ _, v, x, e, h => by simp [D.py] at e
  | .loc _ _, v, x, e, h => by simp [D.py] at e
  | .xd _ _, v, x, e, h => by simp [D.py] at e
  | .fn _, v, x, e, h => by simp [D.py] at e
theorem rep_dps : ∀ (ds : List D) (vs : List V) (xs : List PyData), pyAll ds = some xs → Reps K cl H ds vs → DpAll K H vs xs
  | [], vs, xs, e, h => by simp [pyAll] at e; subst e; cases (show vs = _ from h); exact .nil
  | d :: ds, vs, xs, e, h => by
    obtain ⟨x, e1, e2⟩ := Option.bind_eq_some_iff.mp (show d.py.bind _ = some xs from e)
    obtain ⟨ys, e3, rfl⟩ := Option.map_eq_some_iff.mp e2
    obtain ⟨v, r, rfl, h1, h2⟩ := h
    exact .cons (rep_dp d v x e1 h1) (rep_dps ds r ys e3 h2)
end
end

def wid (i : Int) : Bool := decide (i.natAbs < 2 ^ 4000)
/-! ### arithmetic -/
def opAdd : D → D → Option D
  | .int i, .int j => some (.int (i + j))
  | .str x, .str y => if x.length + y.length ≤ sizeLine then some (.str (x ++ y)) else none
  | .lst xs, .lst ys => if xs.length + ys.length ≤ sizeLine then some (.lst (xs ++ ys)) else none
  | .tup xs, .tup ys => if xs.length + ys.length ≤ sizeLine then some (.tup (xs ++ ys)) else none
  | _, _ => none
def opSub : D → D → Option D
  | .int i, .int j => some (.int (i - j))
  | _, _ => none
def opMul : D → D → Option D
  | .int i, .int j => if wid i && wid j then some (.int (i * j)) else none
  | .lst xs, .int k => if 0 ≤ k ∧ k ≤ 100000 ∧ xs.length * k.toNat ≤ sizeLine then some (.lst (List.replicate k.toNat xs).flatten) else none
  | _, _ => none
def opDiv : D → D → Option D
  | .int i, .int j => if 0 < j && wid j then some (.int (i / j)) else none
  | _, _ => none
def opMod : D → D → Option D
  | .int i, .int j => if 0 < j then some (.int (i % j)) else none
  | _, _ => none
def opPow : D → D → Option D
  | .int i, .int j => if 0 ≤ j ∧ j ≤ 1000 ∧ i.natAbs < 2 ^ 64 then some (.int (i ^ j.toNat)) else none
  | _, _ => none
section
variable {X : Cx} {M : Mc}
theorem BinS.or {r r' : R2} {g : D → D → Option D} (h : ∀ a b d, g a b = some d → (∀ an ρ σ H ts ds x y Q, RelX M an ρ σ H (y :: x :: ts) (b :: a :: ds) → (∀ v H', RelX M an ρ σ H' (v :: ts) (d :: ds) → Q v H') → r x y H Q) ∨
    (∀ an ρ σ H ts ds x y Q, RelX M an ρ σ H (y :: x :: ts) (b :: a :: ds) → (∀ v H', RelX M an ρ σ H' (v :: ts) (d :: ds) → Q v H') → r' x y H Q)) : BinS M (fun x y H Q => r x y H Q ∨ r' x y H Q) g := fun an ρ σ H ts ds a b d x y Q e R k => by
  rcases h a b d e with z | z
  · exact .inl (z an ρ σ H ts ds x y Q R k)
  · exact .inr (z an ρ σ H ts ds x y Q R k)
abbrev rAddS : R2 := fun x y H Q => ∃ i j, x = .str i ∧ y = .str j ∧ i.length + j.length ≤ sizeLine ∧ Q (.str (i ++ j)) H
abbrev rAddU (K : PySem.W.Frag) : R2 := fun x y H Q => (rI0 fun i j => .int (i + j)) x y H Q ∨ rAddS x y H Q ∨ rCat x y H Q ∨ rCatA K x y H Q
theorem op_addU : OpR X (binaryOp .Add) (rAddU X.K) := OpR.or op_add (OpR.or op_add_str (OpR.or op_cat op_catA))
theorem bs_add : BinS M (rAddU M.K) opAdd := fun an ρ σ H ts ds a b d x y Q e R k => by
  obtain ⟨G, own, r⟩ := R
  have qa := r.tmp.tail.head
  have qb := r.tmp.head
  have qt := r.tmp.tail.tail
  unfold opAdd at e
  split at e
  · rename_i i j
    cases e; cases (show x = _ from qa); cases (show y = _ from qb)
    exact .inl ⟨i, j, rfl, rfl, k _ _ (r.keep (Reps.cons rfl qt))⟩
  · rename_i i j
    split at e
    · rename_i hl
      cases e; cases (show x = _ from qa); cases (show y = _ from qb)
      exact .inr (.inl ⟨i, j, rfl, rfl, hl, k _ _ (r.keep (Reps.cons rfl qt))⟩)
    · cases e
  · rename_i xs ys
    split at e
    · rename_i hl
      cases e
      obtain ⟨pa, va, rfl, ha, ra⟩ := qa
      obtain ⟨pb, vb, rfl, hb, rb⟩ := qb
      refine .inr (.inr (.inl ⟨pa, pb, va, vb, rfl, rfl, r.sub _ _ ha, r.sub _ _ hb, by rw [ra.len, rb.len]; exact hl, fun p hp => k _ _ ?_⟩))
      exact r.new hp fun s => Reps.cons ⟨p, va ++ vb, rfl, upd_same, Reps.mono s _ _ (Reps.append ra rb)⟩ (Reps.mono s _ _ qt)
    · cases e
  · rename_i xs ys
    split at e
    · rename_i hl
      cases e
      obtain ⟨pa, va, rfl, ha, ra⟩ := qa
      obtain ⟨pb, vb, rfl, hb, rb⟩ := qb
      refine .inr (.inr (.inr ⟨pa, pb, va, vb, rfl, rfl, r.sub.sqT ha, r.sub.sqT hb, by rw [ra.len, rb.len]; exact hl, fun ea => ?_, fun na eb => ?_, fun na nb p hp => k _ _ ?_⟩))
      · subst ea
        refine k _ _ (r.keep (Reps.cons ⟨pb, vb, rfl, hb, ?_⟩ qt))
        have : xs = [] := List.length_eq_zero_iff.mp (by have := ra.len; simpa using this.symm)
        subst this; exact rb
      · subst eb
        refine k _ _ (r.keep (Reps.cons ⟨pa, va, rfl, ha, ?_⟩ qt))
        have : ys = [] := List.length_eq_zero_iff.mp (by have := rb.len; simpa using this.symm)
        subst this; simpa using ra
      · exact r.new hp fun s => Reps.cons ⟨p, va ++ vb, rfl, SqT.of upd_same, Reps.mono s _ _ (Reps.append ra rb)⟩ (Reps.mono s _ _ qt)
    · cases e
  · cases e
theorem bs_I {C : Int → Int → Prop} {f : Int → Int → V} {h : D → D → Option D} (hh : ∀ a b d, h a b = some d → ∃ i j, a = .int i ∧ b = .int j ∧ C i j ∧ ∀ G, Rep M.K M.cl G d (f i j)) : BinS M (rI C f) h := fun an ρ σ H ts ds a b d x y Q e R k => by
  obtain ⟨i, j, rfl, rfl, c, z⟩ := hh _ _ _ e
  have q := R.repsH
  cases (show x = _ from q.tail.head); cases (show y = _ from q.head)
  exact ⟨i, j, rfl, rfl, c, k _ _ (R.pop2.push z)⟩
theorem bs_I0 {f : Int → Int → V} {h : D → D → Option D} (hh : ∀ a b d, h a b = some d → ∃ i j, a = .int i ∧ b = .int j ∧ ∀ G, Rep M.K M.cl G d (f i j)) : BinS M (rI0 f) h := fun an ρ σ H ts ds a b d x y Q e R k => by
  obtain ⟨i, j, rfl, rfl, z⟩ := hh _ _ _ e
  have q := R.repsH
  cases (show x = _ from q.tail.head); cases (show y = _ from q.head)
  exact ⟨i, j, rfl, rfl, k _ _ (R.pop2.push z)⟩
theorem bs_sub : BinS M (rI0 fun i j => .int (i - j)) opSub := bs_I0 fun a b d e => by
  unfold opSub at e
  split at e
  · cases e; exact ⟨_, _, rfl, rfl, fun _ => rfl⟩
  · cases e
theorem wid_ok {i : Int} (h : wid i = true) : i.natAbs < 2 ^ 4000 := of_decide_eq_true h
abbrev rMulU (K : PySem.W.Frag) : R2 := fun x y H Q => (rI CMulW fun i j => .int (i * j)) x y H Q ∨ rRep x y H Q
theorem op_mulU : OpR X (binaryOp .Mult) (rMulU X.K) := OpR.or op_mulW op_rep
theorem reps_rep {K : PySem.W.Frag} {cl : Cl} {G : Hp} {ds : List D} {vs : List V} (h : Reps K cl G ds vs) : ∀ n : Nat, Reps K cl G (List.replicate n ds).flatten (List.replicate n vs).flatten
  | 0 => Reps.nil
  | n + 1 => by
    rw [List.replicate_succ, List.replicate_succ, List.flatten_cons, List.flatten_cons]
    exact Reps.append h (reps_rep h n)
theorem bs_mul : BinS M (rMulU M.K) opMul := fun an ρ σ H ts ds a b d x y Q e R k => by
  obtain ⟨G, own, r⟩ := R
  have qa := r.tmp.tail.head
  have qb := r.tmp.head
  have qt := r.tmp.tail.tail
  unfold opMul at e
  split at e
  · rename_i i j
    split at e
    · rename_i hc
      obtain ⟨h1, h2⟩ := Bool.and_eq_true_iff.mp hc
      cases e; cases (show x = _ from qa); cases (show y = _ from qb)
      exact .inl ⟨i, j, rfl, rfl, wide_mul (wid_ok h1) (wid_ok h2) (by decide) (by decide) (by decide), k _ _ (r.keep (Reps.cons rfl qt))⟩
    · cases e
  · rename_i xs n
    split at e
    · rename_i hc
      cases e
      obtain ⟨pa, va, rfl, ha, ra⟩ := qa
      cases (show y = _ from qb)
      refine .inr ⟨pa, n, va, rfl, rfl, r.sub _ _ ha, by omega, by omega, by rw [ra.len]; exact hc.2.2, fun p hp => k _ _ ?_⟩
      exact r.new hp fun s => Reps.cons ⟨p, _, rfl, upd_same, Reps.mono s _ _ (reps_rep ra _)⟩ (Reps.mono s _ _ qt)
    · cases e
  · cases e
theorem bs_div : BinS M (rI CDivW fun i j => .int (i / j)) opDiv := bs_I fun a b d e => by
  unfold opDiv at e
  split at e
  · split at e
    · rename_i hc
      obtain ⟨h1, h2⟩ := Bool.and_eq_true_iff.mp hc
      cases e; exact ⟨_, _, rfl, rfl, wide_div (of_decide_eq_true h1) (wid_ok h2) (by decide) (by decide), fun _ => rfl⟩
    · cases e
  · cases e
theorem bs_mod : BinS M (rI (fun _ j => 0 < j) fun i j => .int (i % j)) opMod := bs_I fun a b d e => by
  unfold opMod at e
  split at e
  · split at e
    · rename_i hc
      cases e; exact ⟨_, _, rfl, rfl, hc, fun _ => rfl⟩
    · cases e
  · cases e
theorem bs_pow : BinS M (rI CPow fun i j => .int (i ^ j.toNat)) opPow := bs_I fun a b d e => by
  unfold opPow at e
  split at e
  · split at e
    · rename_i hc
      cases e; exact ⟨_, _, rfl, rfl, ⟨hc.1, by omega, hc.2.2⟩, fun _ => rfl⟩
    · cases e
  · cases e

/-! ### one operand -/
def fUn (g : D → Option D) (f : En → Rs D) : En → Rs D := fun ρ => (f ρ).bind fun a ρ1 => match g a with
  | some d => .ok d ρ1
  | none => .stuck
def opNeg : D → Option D
  | .int i => some (.int (-i))
  | _ => none
theorem se_neg {W : WX} {e : Expr} {f : En → Rs D} {pos : Pos} (h : SE X M W e f) : SE X M W (.UnaryOp .USub e pos) (fUn opNeg f) := by
  refine pe_imp (pe_un un_neg h) fun σ H Q ⟨an, ρ, ts, ds, R, h⟩ => ?_
  refine ⟨an, ρ, ts, ds, R, EOk.bind (P := fun z => EOk M an ts ds W σ z Q) h (fun _ _ _ _ z => z) id fun d ρ1 v H1 R1 h1 => ?_⟩
  cases d with
  | int i =>
    cases (show v = _ from R1.repH)
    exact ⟨i, rfl, h1 _ _ (R1.pop.push fun _ => rfl)⟩
  | _ => exact h1.elim
/-! ### comparisons -/
def opLt : D → D → Option D
  | .int i, .int j => some (.bl (decide (i < j)))
  | .str i, .str j => some (.bl (decide (i.cps.toList < j.cps.toList)))
  | _, _ => none
def opLe : D → D → Option D
  | .int i, .int j => some (.bl (decide (i ≤ j)))
  | _, _ => none
def opGt : D → D → Option D
  | .int i, .int j => some (.bl (decide (j < i)))
  | _, _ => none
def opGe : D → D → Option D
  | .int i, .int j => some (.bl (decide (j ≤ i)))
  | _, _ => none
abbrev rLtU : R2 := fun x y H Q => (rI0 fun i j => .bl (decide (i < j))) x y H Q ∨ (fun x y H Q => ∃ i j, x = .str i ∧ y = .str j ∧ Q (.bl (decide (i.cps.toList < j.cps.toList))) H) x y H Q
theorem op_ltU : OpR X (compareOp .Lt) rLtU := OpR.or op_lt op_lt_str
theorem cs_lt : CmpS M rLtU opLt := fun H a b k x y Q e ha hb q => by
  unfold opLt at e
  split at e
  · cases e; cases (show x = _ from ha); cases (show y = _ from hb); exact .inl ⟨_, _, rfl, rfl, q⟩
  · cases e; cases (show x = _ from ha); cases (show y = _ from hb); exact .inr ⟨_, _, rfl, rfl, q⟩
  · cases e
theorem cs_le : CmpS M (rI0 fun i j => .bl (decide (i ≤ j))) opLe := fun H a b k x y Q e ha hb q => by
  unfold opLe at e
  split at e
  · cases e; cases (show x = _ from ha); cases (show y = _ from hb); exact ⟨_, _, rfl, rfl, q⟩
  · cases e
theorem cs_gt : CmpS M (rI0 fun i j => .bl (decide (j < i))) opGt := fun H a b k x y Q e ha hb q => by
  unfold opGt at e
  split at e
  · cases e; cases (show x = _ from ha); cases (show y = _ from hb); exact ⟨_, _, rfl, rfl, q⟩
  · cases e
theorem cs_ge : CmpS M (rI0 fun i j => .bl (decide (j ≤ i))) opGe := fun H a b k x y Q e ha hb q => by
  unfold opGe at e
  split at e
  · cases e; cases (show x = _ from ha); cases (show y = _ from hb); exact ⟨_, _, rfl, rfl, q⟩
  · cases e
theorem bs_lt : BinS M rLtU opLt := cs_lt.bin fun a b d e => by unfold opLt at e; split at e <;> cases e <;> exact ⟨_, rfl⟩
theorem bs_le : BinS M (rI0 fun i j => .bl (decide (i ≤ j))) opLe := cs_le.bin fun a b d e => by unfold opLe at e; split at e <;> cases e <;> exact ⟨_, rfl⟩
theorem bs_gt : BinS M (rI0 fun i j => .bl (decide (j < i))) opGt := cs_gt.bin fun a b d e => by unfold opGt at e; split at e <;> cases e <;> exact ⟨_, rfl⟩
theorem bs_ge : BinS M (rI0 fun i j => .bl (decide (j ≤ i))) opGe := cs_ge.bin fun a b d e => by unfold opGe at e; split at e <;> cases e <;> exact ⟨_, rfl⟩
/-- == of data -/
def deq (a b : D) : Option Bool := a.py.bind fun x => b.py.bind fun y => if SeqAt.shaped x && SeqAt.shaped y then some (PyData.eqv x y) else none
theorem deq_of {a b : D} {k : Bool} (h : deq a b = some k) : ∃ x y, a.py = some x ∧ b.py = some y ∧ SeqAt.shaped x = true ∧ SeqAt.shaped y = true ∧ k = PyData.eqv x y := by
  obtain ⟨x, e1, h⟩ := Option.bind_eq_some_iff.mp (show a.py.bind _ = some k from h)
  obtain ⟨y, e2, h⟩ := Option.bind_eq_some_iff.mp h
  split at h
  · rename_i c
    obtain ⟨c1, c2⟩ := Bool.and_eq_true_iff.mp c
    cases h; exact ⟨x, y, e1, e2, c1, c2, rfl⟩
  · cases h
def opEq (a b : D) : Option D := (deq a b).map .bl
def opNe (a b : D) : Option D := (deq a b).map fun k => .bl (!k)
theorem cs_eq : CmpS M (rEqD M.K) opEq := fun H a b k x y Q e ha hb q => by
  obtain ⟨k', e1, e2⟩ := Option.map_eq_some_iff.mp (show (deq a b).map _ = some _ from e)
  cases e2
  obtain ⟨u, w, e3, e4, s1, s2, rfl⟩ := deq_of e1
  exact ⟨u, w, rep_dp a x u e3 ha, rep_dp b y w e4 hb, s1, s2, q⟩
theorem cs_ne : CmpS M (rNeD M.K) opNe := fun H a b k x y Q e ha hb q => by
  obtain ⟨k', e1, e2⟩ := Option.map_eq_some_iff.mp (show (deq a b).map _ = some _ from e)
  cases e2
  obtain ⟨u, w, e3, e4, s1, s2, rfl⟩ := deq_of e1
  exact ⟨u, w, rep_dp a x u e3 ha, rep_dp b y w e4 hb, s1, s2, q⟩
theorem bs_eq : BinS M (rEqD M.K) opEq := cs_eq.bin fun a b d e => by
  obtain ⟨k', _, rfl⟩ := Option.map_eq_some_iff.mp (show (deq a b).map _ = some _ from e); exact ⟨_, rfl⟩
theorem bs_ne : BinS M (rNeD M.K) opNe := cs_ne.bin fun a b d e => by
  obtain ⟨k', _, rfl⟩ := Option.map_eq_some_iff.mp (show (deq a b).map _ = some _ from e); exact ⟨_, rfl⟩
/-- is None, is True, is False -/
def isNon : D → Bool
  | .non => true
  | _ => false
def opIs : D → D → Option D
  | a, .non => some (.bl (isNon a))
  | .bl a, .bl b => some (.bl (decide (a = b)))
  | _, _ => none
def opIsNot : D → D → Option D
  | a, .non => some (.bl (!isNon a))
  | .bl a, .bl b => some (.bl (!decide (a = b)))
  | _, _ => none
abbrev rIsN1 : R2 := fun x y H Q => y = .non ∧ Q (.bl (decide (x = .non))) H
abbrev rNotN1 : R2 := fun x y H Q => y = .non ∧ Q (.bl (!decide (x = .non))) H
abbrev rIsU : R2 := fun x y H Q => rIsN1 x y H Q ∨ rIsB x y H Q
abbrev rIsNotU : R2 := fun x y H Q => rNotN1 x y H Q ∨ rNotB x y H Q
theorem op_isU : OpR X (compareOp .Is) rIsU := OpR.or op_isN op_isBl
theorem op_isNotU : OpR X (compareOp .IsNot) rIsNotU := OpR.or op_notN op_notBl
theorem rep_non {K : PySem.W.Frag} {cl : Cl} {G : Hp} {d : D} {v : V} (h : Rep K cl G d v) : decide (v = .non) = isNon d := by
  cases d with
  | non => cases (show v = _ from h); rfl
  | bl b => cases (show v = _ from h); rfl
  | int b => cases (show v = _ from h); rfl
  | str b => cases (show v = _ from h); rfl
  | tup b => obtain ⟨a, vs, rfl, _⟩ := h; rfl
  | lst b => obtain ⟨a, vs, rfl, _⟩ := h; rfl
  | frz b => obtain ⟨a, vs, rfl, _⟩ := h; rfl
  | dic k b => obtain ⟨a, vs, rfl, _⟩ := h; rfl
  | ins c k b => obtain ⟨a, C, dx, vs, rfl, _⟩ := h; rfl
  | loc c k => obtain ⟨a, rfl, _⟩ := h; rfl
  | xd k b => obtain ⟨a, vs, rfl, _⟩ := h; rfl
  | fn k => obtain ⟨a, rfl, _⟩ := h; rfl
theorem cs_is : CmpS M rIsU opIs := fun H a b k x y Q e ha hb q => by
  unfold opIs at e
  split at e
  · cases (show y = _ from hb)
    have z := rep_non ha
    refine .inl ⟨rfl, ?_⟩
    rw [z]
    cases e
    exact q
  · cases e; cases (show x = _ from ha); cases (show y = _ from hb); exact .inr ⟨_, _, rfl, rfl, q⟩
  · cases e
theorem cs_isNot : CmpS M rIsNotU opIsNot := fun H a b k x y Q e ha hb q => by
  unfold opIsNot at e
  split at e
  · cases (show y = _ from hb)
    have z := rep_non ha
    refine .inl ⟨rfl, ?_⟩
    rw [z]
    cases e
    exact q
  · cases e; cases (show x = _ from ha); cases (show y = _ from hb); exact .inr ⟨_, _, rfl, rfl, q⟩
  · cases e
theorem bs_is : BinS M rIsU opIs := cs_is.bin fun a b d e => by unfold opIs at e; split at e <;> cases e <;> exact ⟨_, rfl⟩
theorem bs_isNot : BinS M rIsNotU opIsNot := cs_isNot.bin fun a b d e => by unfold opIsNot at e; split at e <;> cases e <;> exact ⟨_, rfl⟩
/-! ### in -/
/-- a flat value -/
def D.flat : D → Bool
  | .non => true
  | .bl _ => true
  | .int _ => true
  | .str _ => true
  | _ => false
def D.v : D → V
  | .bl b => .bl b
  | .int i => .int i
  | .str x => .str x
  | _ => .non
theorem flat_v {K : PySem.W.Frag} {cl : Cl} {G : Hp} {d : D} {x : V} (h : d.flat = true) (r : Rep K cl G d x) : x = d.v ∧ flatV x = true := by
  cases d with
  | non => cases (show x = _ from r); exact ⟨rfl, rfl⟩
  | bl b => cases (show x = _ from r); exact ⟨rfl, rfl⟩
  | int b => cases (show x = _ from r); exact ⟨rfl, rfl⟩
  | str b => cases (show x = _ from r); exact ⟨rfl, rfl⟩
  | _ => cases h
theorem flats_v {K : PySem.W.Frag} {cl : Cl} {G : Hp} : ∀ {ds : List D} {xs : List V}, ds.all D.flat = true → Reps K cl G ds xs → xs = ds.map D.v ∧ xs.all flatV = true
  | [], _, _, r => by cases (show _ = [] from r); exact ⟨rfl, rfl⟩
  | d :: ds, _, h, ⟨v, vs, rfl, r, t⟩ => by
    rw [List.all_cons] at h
    obtain ⟨h1, h2⟩ := Bool.and_eq_true_iff.mp h
    obtain ⟨e1, f1⟩ := flat_v h1 r
    obtain ⟨e2, f2⟩ := flats_v h2 t
    exact ⟨by rw [e1, e2]; rfl, by rw [List.all_cons, f1, f2]; rfl⟩
def keyOf : D → Option Key
  | .int i => some (.inl i)
  | .str x => some (.inr x)
  | _ => none
theorem keyOf_v {K : PySem.W.Frag} {cl : Cl} {G : Hp} {d : D} {k : Key} {x : V} (h : keyOf d = some k) (r : Rep K cl G d x) : x = kV k := by
  cases d with
  | int i => cases h; exact r
  | str i => cases h; exact r
  | _ => cases h
def dIn : D → D → Option Bool
  | a, .lst ds => a.py.bind fun x => (pyAll ds).bind fun xs => if SeqAt.shaped x && SeqAt.shaped (.list xs) then some (xs.any fun z => PyData.eqv z x) else none
  | a, .tup ds => if a.flat && ds.all D.flat then some (inV a.v (ds.map D.v)) else none
  | .str x, .str y => some (!(Builtin.Str.occurrences y x 0 y.length 1).isEmpty)
  | a, .dic ks _ => (keyOf a).map fun k => ks.any fun j => decide (j = k)
  | _, _ => none
def opIn (a b : D) : Option D := (dIn a b).map .bl
def opNotIn (a b : D) : Option D := (dIn a b).map fun k => .bl (!k)
abbrev rInDic : R2 := fun x y H Q => ∃ a ov, y = .ref a ∧ DGet H a x ov ∧ Q (.bl ov.isSome) H
abbrev rNotInDic : R2 := fun x y H Q => ∃ a ov, y = .ref a ∧ DGet H a x ov ∧ Q (.bl (!ov.isSome)) H
theorem op_inDic (hu : X.A.units + 1 < cLine) : OpR X (compareOp .In) rInDic := fun pins s σ H x y v u Q I rx ry q => by
  obtain ⟨a, ov, rfl, g, q⟩ := q
  obtain rfl : u = Value.ref a := ry
  exact d_in hu I g rx fun s3 I3 => ⟨.bl ov.isSome, H, I3, rfl, q⟩
theorem op_notInDic (hu : X.A.units + 1 < cLine) : OpR X (compareOp .NotIn) rNotInDic := fun pins s σ H x y v u Q I rx ry q => by
  obtain ⟨a, ov, rfl, g, q⟩ := q
  obtain rfl : u = Value.ref a := ry
  exact d_notIn hu I g rx fun s3 I3 => ⟨.bl (!ov.isSome), H, I3, rfl, q⟩
abbrev rInStr (neg : Bool) : R2 := fun x y H Q => ∃ i j, x = .str i ∧ y = .str j ∧ Q (.bl (if neg then !(!(Builtin.Str.occurrences j i 0 j.length 1).isEmpty) else !(Builtin.Str.occurrences j i 0 j.length 1).isEmpty)) H
abbrev rInU (K : PySem.W.Frag) : R2 := fun x y H Q => rInD K x y H Q ∨ rIn K false x y H Q ∨ rInStr false x y H Q ∨ rInDic x y H Q
abbrev rNotInU (K : PySem.W.Frag) : R2 := fun x y H Q => rNotInD K x y H Q ∨ rIn K true x y H Q ∨ rInStr true x y H Q ∨ rNotInDic x y H Q
theorem op_inU (hu : X.A.units + 65 < cLine) : OpR X (compareOp .In) (rInU X.K) := OpR.or (op_inD hu) (OpR.or op_in_seq (OpR.or op_in_str (op_inDic (by omega))))
theorem op_notInU (hu : X.A.units + 65 < cLine) : OpR X (compareOp .NotIn) (rNotInU X.K) := OpR.or (op_notInD hu) (OpR.or op_notIn_seq (OpR.or op_notIn_str (op_notInDic (by omega))))
theorem valV_some {ks : List Key} {vs : List V} {k : Key} (l : ks.length = vs.length) : (valV (ks.zip vs) k).isSome = ks.any fun j => decide (j = k) := by
  rw [← valV_any k (ks.zip vs)]
  induction ks generalizing vs with
  | nil => rfl
  | cons a r ih =>
    cases vs with
    | nil => cases l
    | cons b t =>
      rw [List.zip_cons_cons, List.any_cons, List.any_cons, ih (by simpa using l)]
theorem cs_inW {neg : Bool} {H : Hp} {a b : D} {k : Bool} {x y : V} (e : dIn a b = some k) (ha : Rep M.K M.cl H a x) (hb : Rep M.K M.cl H b y) :
    (∃ d ds, Dp M.K H x d ∧ Dp M.K H y (.list ds) ∧ SeqAt.shaped d = true ∧ SeqAt.shaped (.list ds) = true ∧ k = ds.any fun z => PyData.eqv z d) ∨
    (∃ p xs, y = .ref p ∧ SqT M.K H p xs ∧ flatV x = true ∧ xs.all flatV = true ∧ k = inV x xs) ∨ (∃ i j, x = .str i ∧ y = .str j ∧ k = !(Builtin.Str.occurrences j i 0 j.length 1).isEmpty) ∨ (∃ p ov, y = .ref p ∧ DGet H p x ov ∧ k = ov.isSome) := by
  unfold dIn at e
  split at e
  · rename_i a ds
    obtain ⟨u, e1, e⟩ := Option.bind_eq_some_iff.mp e
    obtain ⟨us, e2, e⟩ := Option.bind_eq_some_iff.mp e
    split at e
    · rename_i c
      obtain ⟨c1, c2⟩ := Bool.and_eq_true_iff.mp c
      cases e
      refine .inl ⟨u, us, rep_dp _ _ _ e1 ha, ?_, c1, c2, rfl⟩
      obtain ⟨p, vs, rfl, q, r⟩ := hb
      exact .lst (SqL.of q) (rep_dps ds vs us e2 r)
    · cases e
  · rename_i a ds
    split at e
    · rename_i c
      obtain ⟨c1, c2⟩ := Bool.and_eq_true_iff.mp c
      cases e
      obtain ⟨p, vs, rfl, q, r⟩ := hb
      obtain ⟨e1, f1⟩ := flat_v c1 ha
      obtain ⟨e2, f2⟩ := flats_v c2 r
      exact .inr (.inl ⟨p, vs, rfl, q, f1, f2, by rw [e1, e2]⟩)
    · cases e
  · cases e
    cases (show x = _ from ha); cases (show y = _ from hb)
    exact .inr (.inr (.inl ⟨_, _, rfl, rfl, rfl⟩))
  · rename_i a ks es
    obtain ⟨j, e1, rfl⟩ := Option.map_eq_some_iff.mp e
    obtain ⟨p, vs, rfl, q, l, r⟩ := hb
    refine .inr (.inr (.inr ⟨p, _, rfl, .inl ⟨_, j, .inl q, keyOf_v e1 ha, rfl⟩, (valV_some l).symm⟩))
  · cases e
theorem cs_in : CmpS M (rInU M.K) opIn := fun H a b k x y Q e ha hb q => by
  obtain ⟨k', e1, e2⟩ := Option.map_eq_some_iff.mp (show (dIn a b).map _ = some _ from e)
  cases e2
  rcases cs_inW (neg := false) e1 ha hb with ⟨d, ds, h1, h2, h3, h4, rfl⟩ | ⟨p, xs, rfl, h1, h2, h3, rfl⟩ | ⟨i, j, rfl, rfl, rfl⟩ | ⟨p, ov, rfl, h1, rfl⟩
  · exact .inl ⟨d, ds, h1, h2, h3, h4, q⟩
  · exact .inr (.inl ⟨p, xs, rfl, .inr h1, h2, h3, q⟩)
  · exact .inr (.inr (.inl ⟨i, j, rfl, rfl, q⟩))
  · exact .inr (.inr (.inr ⟨p, ov, rfl, h1, q⟩))
theorem cs_notIn : CmpS M (rNotInU M.K) opNotIn := fun H a b k x y Q e ha hb q => by
  obtain ⟨k', e1, e2⟩ := Option.map_eq_some_iff.mp (show (dIn a b).map _ = some _ from e)
  cases e2
  rcases cs_inW (neg := false) e1 ha hb with ⟨d, ds, h1, h2, h3, h4, rfl⟩ | ⟨p, xs, rfl, h1, h2, h3, rfl⟩ | ⟨i, j, rfl, rfl, rfl⟩ | ⟨p, ov, rfl, h1, rfl⟩
  · exact .inl ⟨d, ds, h1, h2, h3, h4, q⟩
  · exact .inr (.inl ⟨p, xs, rfl, .inr h1, h2, h3, q⟩)
  · exact .inr (.inr (.inl ⟨i, j, rfl, rfl, q⟩))
  · exact .inr (.inr (.inr ⟨p, ov, rfl, h1, q⟩))
theorem bs_in : BinS M (rInU M.K) opIn := cs_in.bin fun a b d e => by
  obtain ⟨k', _, rfl⟩ := Option.map_eq_some_iff.mp (show (dIn a b).map _ = some _ from e); exact ⟨_, rfl⟩
theorem bs_notIn : BinS M (rNotInU M.K) opNotIn := cs_notIn.bin fun a b d e => by
  obtain ⟨k', _, rfl⟩ := Option.map_eq_some_iff.mp (show (dIn a b).map _ = some _ from e); exact ⟨_, rfl⟩
end
end Dl
end
section
set_option maxHeartbeats 4000000
/-! DlD: items, slices, built-in functions, methods of lists and texts. -/
namespace Dl
open PySem PySem.Spec PyProof.Rows L2
/-! ### items -/
def dVal : List Key → List D → Key → Option D
  | k :: ks, d :: ds, j => if k = j then some d else dVal ks ds j
  | _, _, _ => none
def opIx : D → D → Option D
  | .lst ds, .int i => atI ds i
  | .tup ds, .int i => atI ds i
  | .frz ds, .int i => atI ds i
  | .str z, .int i => if z.length ≤ sizeLine then (atI z.cps.toList i).map fun c => .str ⟨#[c]⟩ else none
  | .dic ks ds, k => (keyOf k).bind fun k => dVal ks ds k
  | _, _ => none
section
variable {X : Cx} {M : Mc} {W : WX}
theorem dVal_rep {K : PySem.W.Frag} {cl : Cl} {G : Hp} {k : Key} {d : D} : ∀ {ks : List Key} {ds : List D} {vs : List V}, ks.length = vs.length → Reps K cl G ds vs → dVal ks ds k = some d → ∃ v, valV (ks.zip vs) k = some v ∧ Rep K cl G d v
  | [], _, _, _, _, e => by cases e
  | _ :: _, [], _, _, _, e => by cases e
  | j :: ks, d' :: ds, _, l, hr, e => by
    obtain ⟨v, r, rfl, h, t⟩ := hr
    unfold dVal at e
    rw [List.zip_cons_cons]
    by_cases c : j = k
    · rw [if_pos c] at e; cases e
      exact ⟨v, valV_pos (p := (j, v)) c, h⟩
    · rw [if_neg c] at e
      obtain ⟨w, h1, h2⟩ := dVal_rep (by simpa using l) t e
      exact ⟨w, (valV_neg (p := (j, v)) c).trans h1, h2⟩
abbrev rIxDic : R2 := fun x y H Q => ∃ a v, x = .ref a ∧ DGet H a y (some v) ∧ Q v H
theorem ix_dic (hu : X.A.units + 1 < cLine) : IxR X rIxDic := by
  intro value slice pins s σ H x y v u Q I rx ry h hs
  obtain ⟨a, z, rfl, g, q⟩ := h
  obtain rfl : v = Value.ref a := rx
  unfold subscriptTail
  refine wpAny_bind ?_
  rw [getitemInPython_of_ne (dict_typeIs I g).not_modules]
  refine wpAny_bind (wpAny_specialOf (dict_typeIs I g) PySem.F.slot_dict_getitem.lookup ?_)
  have fin : wpAny (model X.prog X.w) X.A (subscripted slice false (.ref a) u) (fun r s₃ => wpAny (model X.prog X.w) X.A (letTemporaryGo value (.ref a) r >>= fun _ => pure r) (EP X pins σ Q) X.xe s₃) X.xe s := by
    rw [hs]
    exact wpAny_operating (d_getItem hu I g ry fun w' s3 I3 rw' => wpAny_bind (wpAny_letTemporaryGo (wpAny_pure ⟨z, H, I3, rw', q⟩)))
  first
    | exact wpAny_pure (wpAny_bind fin)
    | exact wpAny_bind (wpAny_pure (wpAny_bind fin))
    | exact wpAny_bind fin
abbrev rIxU (K : PySem.W.Frag) : R2 := fun x y H Q => rIx K x y H Q ∨ rIxDic x y H Q
theorem ix_U (hu : X.A.units + 1 < cLine) : IxR X (rIxU X.K) := IxR.or ix_seq (ix_dic hu)
theorem atI_rep {K : PySem.W.Frag} {cl : Cl} {G : Hp} {ds : List D} {vs : List V} {i : Int} {d : D} (r : Reps K cl G ds vs) (e : atI ds i = some d) : ∃ v, atI vs i = some v ∧ Rep K cl G d v := by
  unfold atI at e ⊢
  rw [r.len]
  obtain ⟨j, e1, e2⟩ := Option.bind_eq_some_iff.mp e
  obtain ⟨v, h1, h2⟩ := r.get e2
  exact ⟨v, by rw [e1]; exact h1, h2⟩
theorem bs_ix : BinS M (rIxU M.K) opIx := fun an ρ σ H ts ds a b d x y Q e R k => by
  obtain ⟨G, own, r⟩ := R
  have qa := r.tmp.tail.head
  have qb := r.tmp.head
  have qt := r.tmp.tail.tail
  unfold opIx at e
  split at e
  · cases (show y = _ from qb)
    obtain ⟨p, vs, rfl, h, t⟩ := qa
    obtain ⟨v, h1, h2⟩ := atI_rep t e
    exact .inl (.inl ⟨p, vs, _, v, rfl, rfl, SqL.of (r.sub _ _ h), h1, k _ _ (r.keep (Reps.cons h2 qt))⟩)
  · cases (show y = _ from qb)
    obtain ⟨p, vs, rfl, h, t⟩ := qa
    obtain ⟨v, h1, h2⟩ := atI_rep t e
    exact .inl (.inr (.inl ⟨p, vs, _, v, rfl, rfl, r.sub.sqT h, h1, k _ _ (r.keep (Reps.cons h2 qt))⟩))
  · cases (show y = _ from qb)
    obtain ⟨p, vs, rfl, h, t⟩ := qa
    obtain ⟨v, h1, h2⟩ := atI_rep t e
    exact .inl (.inl ⟨p, vs, _, v, rfl, rfl, r.sub.sqL h, h1, k _ _ (r.keep (Reps.cons h2 qt))⟩)
  · cases (show y = _ from qb); cases (show x = _ from qa)
    split at e
    · rename_i hl
      obtain ⟨c, e1, rfl⟩ := Option.map_eq_some_iff.mp e
      exact .inl (.inr (.inr ⟨_, _, c, rfl, rfl, hl, e1, k _ _ (r.keep (Reps.cons rfl qt))⟩))
    · cases e
  · obtain ⟨j, e1, e2⟩ := Option.bind_eq_some_iff.mp e
    obtain ⟨p, vs, rfl, h, l, t⟩ := qa
    obtain ⟨v, h1, h2⟩ := dVal_rep l t e2
    exact .inr ⟨p, v, rfl, .inl ⟨_, j, .inl (r.sub _ _ h), keyOf_v e1 qb, h1.symm⟩, k _ _ (r.keep (Reps.cons h2 qt))⟩
  · cases e
theorem se_ix {a b : Expr} {fa fb : En → Rs D} {pos : Pos} (hu : X.A.units + 1 < cLine) (hk : M.K = X.K) (ha : SE X M W a fa) (hb : SE X M W b fb) (hs : PlainIx b) : SE X M W (.Subscript a b pos) (fBin opIx fa fb) := by
  refine pe_imp (pe_ix (ix_U hu) ha hb hs) fun _ _ _ h => ?_
  have q := bin_core bs_ix h
  rw [hk] at q
  exact q
/-- an item of a local that is held alone -/
def cont (ρ : En) (i : Nat) : Option D := match ρ[i]? with
  | some (some (.sh d)) => some d
  | some (some (.ow d)) => some d
  | some (some (.bo d)) => some d
  | _ => none
def fIxO (i : Nat) (fb : En → Rs D) : En → Rs D := fun ρ => match cont ρ i with
  | none => .stuck
  | some _ => (fb ρ).bind fun k ρ1 => match cont ρ1 i with
    | some (.lst ds) => (match k with
      | .int j => (match atI ds j with
        | some d => .ok d ρ1
        | none => .stuck)
      | _ => .stuck)
    | _ => .stuck
theorem RelX.cont_at {an : List (Addr × D)} {ρ : En} {σ : St} {H : Hp} {ts : List V} {ds : List D} {i : Nat} {d : D} (R : RelX M an ρ σ H ts ds) (h : cont ρ i = some d) : ∃ v, σ[i]? = some (some v) ∧ (∀ es, d = .lst es → ∃ p vs, v = .ref p ∧ H p = some (.lst vs) ∧
    (∀ j e, atI es j = some e → ∃ u, atI vs j = some u ∧ RelX M an ρ σ H (u :: ts) (e :: ds)) ∧ vs.length = es.length) := by
  obtain ⟨G, own, r⟩ := R
  unfold cont at h
  have main : ∀ es p vs, H p = some (.lst vs) → Reps M.K M.cl G es vs → ∃ p' vs', V.ref p = .ref p' ∧ H p' = some (.lst vs') ∧ (∀ j e, atI es j = some e → ∃ u, atI vs' j = some u ∧ RelX M an ρ σ H (u :: ts) (e :: ds)) ∧ vs'.length = es.length := fun es p vs h1 h2 =>
    ⟨p, vs, rfl, h1, fun j e he => let ⟨u, a, b⟩ := atI_rep h2 he; ⟨u, a, r.keep (Reps.cons b r.tmp)⟩, h2.len⟩
  split at h
  · rename_i q
    cases h
    obtain ⟨v, e, z⟩ := r.shp i _ q
    refine ⟨v, e, fun es hes => ?_⟩
    subst hes
    obtain ⟨p, vs, rfl, h1, h2⟩ := z
    exact main es p vs (r.sub _ _ h1) h2
  · rename_i q
    cases h
    obtain ⟨e, z, _⟩ := r.owp i _ q
    refine ⟨_, e, fun es hes => ?_⟩
    subst hes
    obtain ⟨vs, h1, h2⟩ := z
    exact main es _ vs h1 h2
  · rename_i q
    cases h
    obtain ⟨e, z, _⟩ := r.bop i _ q
    refine ⟨_, e, fun es hes => ?_⟩
    subst hes
    obtain ⟨vs, h1, h2⟩ := z
    exact main es _ vs h1 h2
  · cases h
theorem se_ixO (i : Nat) {x : Str} {b : Expr} {fb : En → Rs D} {p pos : Pos} (hb : SE X M W b fb) (hs : PlainIx b) (hN : X.N[i]? = some x := by rfl) (hv : Vis X.env.scope x := by first | exact Or.inl rfl | exact Or.inr (Or.inl rfl) | exact Or.inr (Or.inr rfl))
    (hd : (x == ("__debug__" : Str)) = false := by decide) (hcd : (x == ("__classdict__" : Str)) = false := by decide) : SE X M W (.Subscript (.Name x p) b pos) (fIxO i fb) := by
  refine pe_imp (pe_ix ix_list (pe_var hN hv hd hcd) hb hs) fun σ H Q ⟨an, ρ, ts, ds, R, h⟩ => ?_
  unfold fIxO at h
  cases q : cont ρ i with
  | none => rw [q] at h; exact h.elim
  | some d0 =>
    rw [q] at h
    obtain ⟨v, ev, _⟩ := R.cont_at q
    refine ⟨v, ev, an, ρ, ts, ds, R, EOk.bind (P := fun z => EOk M an ts ds W σ z Q) h (fun _ _ _ _ z => z) id fun d ρ1 u H1 R1 h1 => ?_⟩
    cases q1 : cont ρ1 i with
    | none => rw [q1] at h1; exact h1.elim
    | some d1 =>
      rw [q1] at h1
      obtain ⟨v', ev', z⟩ := R1.pop.cont_at q1
      rw [ev] at ev'; cases ev'
      cases d1 with
      | lst es =>
        obtain ⟨pa, vs, rfl, h3, h4, _⟩ := z es rfl
        cases d with
        | int j =>
          cases (show u = _ from R1.repH)
          cases e : atI es j with
          | none => dsimp only at h1; rw [e] at h1; exact h1.elim
          | some d2 =>
            dsimp only at h1
            rw [e] at h1
            obtain ⟨w, h5, h6⟩ := h4 j d2 e
            exact ⟨pa, vs, j, w, rfl, rfl, SqL.of h3, h5, h1 _ _ h6⟩
        | _ => exact h1.elim
      | _ => exact h1.elim
end
/-! ### slices -/
def fPart (f : En → Rs D) : En → Rs (Option Int) := fun ρ => (f ρ).bind fun d ρ1 => match d with
  | .int i => .ok (some i) ρ1
  | _ => .stuck
def fNoPart : En → Rs (Option Int) := fun ρ => .ok none ρ
def OOk (M : Mc) (an : List (Addr × D)) (ts : List V) (ds : List D) (W : WX) (σ : St) (r : Rs (Option Int)) (Q : Option Int → Hp → Prop) : Prop := match r with
  | .ok b ρ => ∀ H', RelX M an ρ σ H' ts ds → Q b H'
  | .err c fs es ρ => EErr M an ts ds W σ c fs es ρ
  | .stuck => False
def tO (M : Mc) (W : WX) (f : En → Rs (Option Int)) : TO := fun σ H Q => ∃ an ρ ts ds, RelX M an ρ σ H ts ds ∧ OOk M an ts ds W σ (f ρ) Q
theorem OOk.bind {M : Mc} {an : List (Addr × D)} {ts : List V} {ds : List D} {W : WX} {σ : St} {β : Type} {r : Rs (Option Int)} {g : Option Int → En → Rs β} {Q1 : Option Int → Hp → Prop} {P : Rs β → Prop} (h : P (r.bind g)) (he : ∀ c fs es ρ, P (.err c fs es ρ) → EErr M an ts ds W σ c fs es ρ) (hs : ¬ P .stuck)
    (k : ∀ b ρ1 H1, RelX M an ρ1 σ H1 ts ds → P (g b ρ1) → Q1 b H1) : OOk M an ts ds W σ r Q1 := by
  cases r with
  | ok d ρ1 => exact fun H' R => k d ρ1 H' R h
  | err c fs es ρ1 => exact he _ _ _ _ h
  | stuck => exact hs h
def cutD (xs : List D) (lo hi : Option Int) : List D := (xs.drop (HT.sIx xs.length 0 lo)).take (HT.sIx xs.length xs.length hi - HT.sIx xs.length 0 lo)
def dSl : D → Option Int → Option Int → Option D
  | .lst ds, lo, hi => some (.lst (cutD ds lo hi))
  | .tup ds, lo, hi => some (.tup (cutD ds lo hi))
  | _, _, _ => none
def fSl (f : En → Rs D) (fl fh : En → Rs (Option Int)) : En → Rs D := fun ρ => (f ρ).bind fun d ρ1 => (fl ρ1).bind fun l ρ2 => (fh ρ2).bind fun h ρ3 => match dSl d l h with
  | some d => .ok d ρ3
  | none => .stuck
section
variable {X : Cx} {M : Mc} {W : WX} {e a b : Expr} {f : En → Rs D} {fl fh : En → Rs (Option Int)} {pos p2 : Pos} {lo hi : Option Expr}
theorem so_none : PO X none (tO M W fNoPart) := ⟨fun pins s σ H Q I ⟨an, ρ, ts, ds, R, h⟩ => po_none.run pins s σ H Q I (h H R)⟩
theorem so_some (h : SE X M W e f) : PO X (some e) (tO M W (fPart f)) := ⟨fun pins s σ H Q I ⟨an, ρ, ts, ds, R, q⟩ => (po_some h).run pins s σ H Q I ⟨an, ρ, ts, ds, R, EOk.bind (P := fun z => OOk M an ts ds W σ z Q) q (fun _ _ _ _ z => z) id fun d ρ1 v H1 R1 h1 => by
  cases d with
  | int i => exact ⟨i, R1.repH, h1 _ R1.pop⟩
  | _ => exact h1.elim⟩⟩
theorem reps_cut {K : PySem.W.Frag} {cl : Cl} {G : Hp} {ds : List D} {vs : List V} (h : Reps K cl G ds vs) (lo hi : Option Int) : Reps K cl G (cutD ds lo hi) (cutV vs lo hi) := by
  unfold cutD cutV
  rw [h.len]
  exact Reps.take _ (Reps.drop _ h)
abbrev rSlU (K : PySem.W.Frag) : V → Option Int → Option Int → Hp → VK → Prop := fun x lo hi H Q => rSlL K x lo hi H Q ∨ rSlA K x lo hi H Q
theorem cutD_whole {ds : List D} {lo hi : Option Int} (h : HT.sIx ds.length 0 lo = 0 ∧ HT.sIx ds.length ds.length hi = ds.length) : cutD ds lo hi = ds := by
  unfold cutD; rw [h.1, h.2]; simp
theorem se_slice (h : SE X M W e f) (hl : PO X lo (tO M W fl)) (hh : PO X hi (tO M W fh)) (hk : M.K = X.K) : SE X M W (.Subscript e (.Slice lo hi none p2) pos) (fSl f fl fh) := by
  refine pe_imp (pe_slice (SlR.or sl_list sl_tupA) h hl hh) fun σ H Q ⟨an, ρ, ts, ds, R, h⟩ => ?_
  refine ⟨an, ρ, ts, ds, R, EOk.bind (P := fun z => EOk M an ts ds W σ z Q) h (fun _ _ _ _ z => z) id fun d ρ1 v H1 R1 h1 => ?_⟩
  refine ⟨an, ρ1, v :: ts, d :: ds, R1, OOk.bind (P := fun z => EOk M an ts ds W σ z Q) h1 (fun _ _ _ _ z => z.weak1) id fun l ρ2 H2 R2 h2 => ?_⟩
  refine ⟨an, ρ2, v :: ts, d :: ds, R2, OOk.bind (P := fun z => EOk M an ts ds W σ z Q) h2 (fun _ _ _ _ z => z.weak1) id fun u ρ3 H3 R3 h3 => ?_⟩
  rw [← hk]
  obtain ⟨G, own, r⟩ := R3
  have qa := r.tmp.head
  have qt := r.tmp.tail
  cases d with
  | lst es =>
    obtain ⟨p, vs, rfl, h4, h5⟩ := qa
    refine .inl ⟨p, vs, rfl, SqL.of (r.sub _ _ h4), fun q hq => h3 _ _ ?_⟩
    exact r.new hq fun s => Reps.cons ⟨q, _, rfl, upd_same, Reps.mono s _ _ (reps_cut h5 l u)⟩ (Reps.mono s _ _ qt)
  | tup es =>
    obtain ⟨p, vs, rfl, h4, h5⟩ := qa
    refine .inr ⟨p, vs, rfl, r.sub.sqT h4, fun hw => ?_, fun hw q hq => h3 _ _ ?_⟩
    · rw [h5.len] at hw
      refine h3 _ _ (r.keep (Reps.cons ⟨p, vs, rfl, h4, ?_⟩ qt))
      rw [cutD_whole hw]; exact h5
    · exact r.new hq fun s => Reps.cons ⟨q, _, rfl, SqT.of upd_same, Reps.mono s _ _ (reps_cut h5 l u)⟩ (Reps.mono s _ _ qt)
  | _ => exact h3.elim
end
/-! ### built-in functions by values -/
def fCall (g : List D → Option D) (fa : En → Rs (List D)) : En → Rs D := fun ρ => (fa ρ).bind fun es ρ1 => match g es with
  | some d => .ok d ρ1
  | none => .stuck
/-- a function on values does on trees what g says -/
def CallS (M : Mc) (r : List V → Hp → VK → Prop) (g : List D → Option D) : Prop := ∀ (an : List (Addr × D)) (ρ : En) (σ : St) (H : Hp) (ts : List V) (ds es : List D) (d : D) (vs : List V) (Q : VK), g es = some d → vs.length = es.length → RelX M an ρ σ H (vs ++ ts) (es ++ ds) →
  (∀ v H', RelX M an ρ σ H' (v :: ts) (d :: ds) → Q v H') → r vs H Q
/-- .. and its answer is fresh -/
def CallF (M : Mc) (r : List V → Hp → VK → Prop) (g : List D → Option D) : Prop := ∀ (an : List (Addr × D)) (ρ : En) (σ : St) (H : Hp) (ts : List V) (ds es : List D) (d : D) (vs : List V) (Q : VK), g es = some d → vs.length = es.length → RelX M an ρ σ H (vs ++ ts) (es ++ ds) →
  (∀ p H', RelX M ((p, d) :: an) ρ σ H' ts ds → Q (.ref p) H') → r vs H Q
section
variable {X : Cx} {M : Mc} {W : WX} {r : List V → Hp → VK → Prop} {g : List D → Option D} {fa : En → Rs (List D)} {e : Expr} {es : List Expr} {x : Str} {id T : String} {p pos : Pos}
theorem call_core (hs : CallS M r g) {σ : St} {H : Hp} {Q : VK} (h : tE M W (fCall g fa) σ H Q) : tCB r (tAr M W fa) σ H Q := by
  obtain ⟨an, ρ, ts, ds, R, h⟩ := h
  refine ⟨an, ρ, ts, ds, R, AOk.bind (P := fun z => EOk M an ts ds W σ z Q) h (fun _ _ _ _ z => z) (fun z => z) fun es ρ1 vs H1 l R1 h1 => ?_⟩
  cases q : g es with
  | none => rw [q] at h1; exact h1.elim
  | some d => rw [q] at h1; exact hs an ρ1 σ H1 ts ds es d vs Q q l R1 h1
theorem callF_core (hs : CallF M r g) {σ : St} {H : Hp} {Q : VK} (h : tLs M W (fCall g fa) σ H Q) : tCB r (tAr M W fa) σ H Q := by
  obtain ⟨an, ρ, ts, ds, R, h⟩ := h
  refine ⟨an, ρ, ts, ds, R, AOk.bind (P := fun z => LOk M an ts ds W σ z Q) h (fun _ _ _ _ z => z) (fun z => z) fun es ρ1 vs H1 l R1 h1 => ?_⟩
  cases q : g es with
  | none => rw [q] at h1; exact h1.elim
  | some d => rw [q] at h1; exact hs an ρ1 σ H1 ts ds es d vs Q q l R1 h1
theorem se_callB (hs : CallS M r g) (hc : CallR X (.builtin id) r) (hm : X.mg x = none) (hv : bootBuiltins x = some (.builtin id)) (ha : SA X M W (e :: es) fa) (hg : Gl X x := by rfl) (hn : x ≠ "__name__" := by decide) (hdb : (x == ("__debug__" : Str)) = false := by decide)
    (he : starEach (e :: es) X.env = (false, eval e X.env) :: starEach es X.env := by rfl) (hpl : (backTo pos (starEach es X.env)).any (·.1) = false := by rfl) : SE X M W (.Call (.Name x p) (e :: es) [] pos) (fCall g fa) :=
  pe_imp (pe_callB hc hg hm hv ha hn hdb he hpl) fun _ _ _ h => call_core hs h
theorem se_callT (hs : CallS M r g) (hc : CallR X (.type T) r) (hm : X.mg x = none) (hv : bootBuiltins x = some (.type T)) (ha : SA X M W (e :: es) fa) (hg : Gl X x := by rfl) (hn : x ≠ "__name__" := by decide) (hdb : (x == ("__debug__" : Str)) = false := by decide)
    (he : starEach (e :: es) X.env = (false, eval e X.env) :: starEach es X.env := by rfl) (hpl : (backTo pos (starEach es X.env)).any (·.1) = false := by rfl) : SE X M W (.Call (.Name x p) (e :: es) [] pos) (fCall g fa) :=
  pe_imp (pe_callTy hc hg hm hv ha hn hdb he hpl) fun _ _ _ h => call_core hs h
theorem sl_callB (hs : CallF M r g) (hc : CallR X (.builtin id) r) (hm : X.mg x = none) (hv : bootBuiltins x = some (.builtin id)) (ha : SA X M W (e :: es) fa) (hg : Gl X x := by rfl) (hn : x ≠ "__name__" := by decide) (hdb : (x == ("__debug__" : Str)) = false := by decide)
    (he : starEach (e :: es) X.env = (false, eval e X.env) :: starEach es X.env := by rfl) (hpl : (backTo pos (starEach es X.env)).any (·.1) = false := by rfl) : SL X M W (.Call (.Name x p) (e :: es) [] pos) (fCall g fa) :=
  pe_imp (pe_callB hc hg hm hv ha hn hdb he hpl) fun _ _ _ h => callF_core hs h
theorem sl_callT (hs : CallF M r g) (hc : CallR X (.type T) r) (hm : X.mg x = none) (hv : bootBuiltins x = some (.type T)) (ha : SA X M W (e :: es) fa) (hg : Gl X x := by rfl) (hn : x ≠ "__name__" := by decide) (hdb : (x == ("__debug__" : Str)) = false := by decide)
    (he : starEach (e :: es) X.env = (false, eval e X.env) :: starEach es X.env := by rfl) (hpl : (backTo pos (starEach es X.env)).any (·.1) = false := by rfl) : SL X M W (.Call (.Name x p) (e :: es) [] pos) (fCall g fa) :=
  pe_imp (pe_callTy hc hg hm hv ha hn hdb he hpl) fun _ _ _ h => callF_core hs h
/-! #### abs, int, len, max, min, str, all, any, sum -/
def gAbs : List D → Option D
  | [.int i] => some (.int (if i < 0 then -i else i))
  | _ => none
theorem len1 {es : List D} {vs : List V} {a : D} (l : vs.length = [a].length) : ∃ v, vs = [v] := by
  match vs, l with
  | [v], _ => exact ⟨v, rfl⟩
theorem len2 {vs : List V} {a b : D} (l : vs.length = [a, b].length) : ∃ v u, vs = [v, u] := by
  match vs, l with
  | [v, u], _ => exact ⟨v, u, rfl⟩
theorem ca_abs : CallS M (fun xs H Q => ∃ i, xs = [.int i] ∧ Q (.int (if i < 0 then -i else i)) H) gAbs := fun an ρ σ H ts ds es d vs Q e l R k => by
  unfold gAbs at e
  split at e
  · cases e
    obtain ⟨v, rfl⟩ := len1 (es := []) l
    cases (show v = _ from R.repH)
    exact ⟨_, rfl, k _ _ (R.pop.push fun _ => rfl)⟩
  · cases e
def gInt : List D → Option D
  | [.int i] => some (.int i)
  | [.bl b] => some (.int (if b then 1 else 0))
  | _ => none
theorem ca_int : CallS M (fun xs H Q => (∃ i, xs = [V.int i] ∧ Q (.int i) H) ∨ ∃ k, xs = [V.bl k] ∧ Q (.int (if k then 1 else 0)) H) gInt := fun an ρ σ H ts ds es d vs Q e l R k => by
  unfold gInt at e
  split at e
  · cases e
    obtain ⟨v, rfl⟩ := len1 (es := []) l
    cases (show v = _ from R.repH)
    exact .inl ⟨_, rfl, k _ _ (R.pop.push fun _ => rfl)⟩
  · cases e
    obtain ⟨v, rfl⟩ := len1 (es := []) l
    cases (show v = _ from R.repH)
    exact .inr ⟨_, rfl, k _ _ (R.pop.push fun _ => rfl)⟩
  · cases e
def gLen : List D → Option D
  | [.lst ds] => some (.int ds.length)
  | [.tup ds] => some (.int ds.length)
  | [.frz ds] => some (.int ds.length)
  | [.str z] => if z.length ≤ sizeLine then some (.int z.length) else none
  | [.dic ks _] => some (.int ks.length)
  | _ => none
abbrev rLenU (K : PySem.W.Frag) : List V → Hp → VK → Prop := fun xs H Q => (∃ x n, xs = [x] ∧ LenV K x H n ∧ Q (.int n) H) ∨ (∃ d kvs, xs = [V.ref d] ∧ H d = some (.dK kvs) ∧ Q (.int (kvs.length : Nat)) H)
end
end Dl
end
section
set_option maxHeartbeats 4000000
/-! DlE: built-in functions, methods. -/
namespace Dl
open PySem PySem.Spec PyProof.Rows L2
section
variable {X : Cx} {M : Mc} {W : WX}
theorem call_lenU : CallR X (.builtin "len") (rLenU X.K) := CallR.or call_len call_lenD
theorem ca_len : CallS M (rLenU M.K) gLen := fun an ρ σ H ts ds es d vs Q e l R k => by
  unfold gLen at e
  split at e
  · cases e
    obtain ⟨v, rfl⟩ := len1 (es := []) l
    obtain ⟨p, us, rfl, h, t⟩ := R.repH
    exact .inl ⟨_, us.length, rfl, .inl ⟨us, SqL.of h, rfl⟩, by rw [t.len]; exact k _ _ (R.pop.push fun _ => rfl)⟩
  · cases e
    obtain ⟨v, rfl⟩ := len1 (es := []) l
    obtain ⟨p, us, rfl, h, t⟩ := R.repH
    exact .inl ⟨_, us.length, rfl, .inr ⟨us, h, rfl⟩, by rw [t.len]; exact k _ _ (R.pop.push fun _ => rfl)⟩
  · cases e
    obtain ⟨v, rfl⟩ := len1 (es := []) l
    obtain ⟨p, us, rfl, h, t⟩ := R.repH
    exact .inl ⟨_, us.length, rfl, .inl ⟨us, h, rfl⟩, by rw [t.len]; exact k _ _ (R.pop.push fun _ => rfl)⟩
  · split at e
    · rename_i hl
      cases e
      obtain ⟨v, rfl⟩ := len1 (es := []) l
      cases (show v = _ from R.repH)
      exact .inl ⟨_, _, rfl, ⟨hl, rfl⟩, k _ _ (R.pop.push fun _ => rfl)⟩
    · cases e
  · cases e
    obtain ⟨v, rfl⟩ := len1 (es := []) l
    obtain ⟨p, us, rfl, h, hl, t⟩ := R.repH
    refine .inr ⟨p, _, rfl, h, ?_⟩
    rw [List.length_zip, ← hl, Nat.min_self]
    exact k _ _ (R.pop.push fun _ => rfl)
  · cases e
/-- len of a local that is held alone -/
def fLenO (i : Nat) : En → Rs D := fun ρ => match cont ρ i with
  | some (.lst ds) => .ok (.int ds.length) ρ
  | _ => .stuck
theorem se_lenO (i : Nat) {x : Str} {p p1 pos : Pos} (hm : X.mg "len" = none) (hg : Gl X "len" := by rfl) (hN : X.N[i]? = some x := by rfl) (hv : Vis X.env.scope x := by first | exact Or.inl rfl | exact Or.inr (Or.inl rfl) | exact Or.inr (Or.inr rfl))
    (hd : (x == ("__debug__" : Str)) = false := by decide) (hcd : (x == ("__classdict__" : Str)) = false := by decide)
    (he : starEach [.Name x p] X.env = (false, eval (.Name x p) X.env) :: starEach [] X.env := by rfl) (hpl : (backTo pos (starEach [] X.env)).any (·.1) = false := by rfl) : SE X M W (.Call (.Name "len" p1) [.Name x p] [] pos) (fLenO i) := by
  refine pe_imp (pe_callB call_len hg hm PySem.boot_len (pa_cons (pe_var hN hv hd hcd) pa_nil he) (by decide) (by decide) he hpl) fun σ H Q ⟨an, ρ, ts, ds, R, h⟩ => ?_
  unfold fLenO at h
  cases q : cont ρ i with
  | none => rw [q] at h; exact h.elim
  | some d0 =>
    rw [q] at h
    obtain ⟨v, ev, z⟩ := R.cont_at q
    cases d0 with
    | lst es =>
      obtain ⟨pa, vs, rfl, h3, _, h5⟩ := z es rfl
      exact ⟨_, ev, _, vs.length, rfl, .inl ⟨vs, SqL.of h3, rfl⟩, by rw [h5]; exact h _ _ (R.push fun _ => rfl)⟩
    | _ => exact h.elim
def gMax : List D → Option D
  | [.int i, .int j] => some (.int (if j > i then j else i))
  | _ => none
def gMin : List D → Option D
  | [.int i, .int j] => some (.int (if j < i then j else i))
  | _ => none
theorem ca_max : CallS M (fun xs H Q => ∃ i j, xs = [V.int i, V.int j] ∧ Q (.int (if j > i then j else i)) H) gMax := fun an ρ σ H ts ds es d vs Q e l R k => by
  unfold gMax at e
  split at e
  · cases e
    obtain ⟨v, u, rfl⟩ := len2 l
    have q := R.repsH
    cases (show v = _ from q.head); cases (show u = _ from q.tail.head)
    exact ⟨_, _, rfl, k _ _ (R.pop2.push fun _ => rfl)⟩
  · cases e
theorem ca_min : CallS M (fun xs H Q => ∃ i j, xs = [V.int i, V.int j] ∧ Q (.int (if j < i then j else i)) H) gMin := fun an ρ σ H ts ds es d vs Q e l R k => by
  unfold gMin at e
  split at e
  · cases e
    obtain ⟨v, u, rfl⟩ := len2 l
    have q := R.repsH
    cases (show v = _ from q.head); cases (show u = _ from q.tail.head)
    exact ⟨_, _, rfl, k _ _ (R.pop2.push fun _ => rfl)⟩
  · cases e
def gStr : List D → Option D
  | [.int i] => if i.natAbs.log2 < 1920 then some (.str (toString i)) else none
  | _ => none
theorem ca_str : CallS M (fun xs H Q => ∃ i : Int, xs = [V.int i] ∧ i.natAbs.log2 < 1920 ∧ Q (.str (toString i)) H) gStr := fun an ρ σ H ts ds es d vs Q e l R k => by
  unfold gStr at e
  split at e
  · split at e
    · rename_i hl
      cases e
      obtain ⟨v, rfl⟩ := len1 (es := []) l
      cases (show v = _ from R.repH)
      exact ⟨_, rfl, hl, k _ _ (R.pop.push fun _ => rfl)⟩
    · cases e
  · cases e
def asB : List D → Option (List Bool)
  | [] => some []
  | .bl b :: ds => (asB ds).map (b :: ·)
  | _ => none
def asI : List D → Option (List Int)
  | [] => some []
  | .int b :: ds => (asI ds).map (b :: ·)
  | _ => none
theorem asB_rep {K : PySem.W.Frag} {cl : Cl} {G : Hp} : ∀ {ds : List D} {vs : List V} {bs : List Bool}, asB ds = some bs → Reps K cl G ds vs → vs = bs.map V.bl
  | [], _, _, e, r => by simp [asB] at e; subst e; exact r
  | .bl b :: ds, _, bs, e, ⟨v, t, rfl, h, q⟩ => by
    obtain ⟨bs', e1, rfl⟩ := Option.map_eq_some_iff.mp (show (asB ds).map _ = some bs from e)
    rw [asB_rep e1 q, show v = .bl b from h]; rfl
  | .non :: _, _, _, e, _ => by cases e
  | .int _ :: _, _, _, e, _ => by cases e
  | .str _ :: _, _, _, e, _ => by cases e
  | .tup _ :: _, _, _, e, _ => by cases e
  | .lst _ :: _, _, _, e, _ => by cases e
  | .frz _ :: _, _, _, e, _ => by cases e
  | .dic _ _ :: _, _, _, e, _ => by cases e
  | .ins _ _ _ :: _, _, _, e, _ => by cases e
  | .xd _ _ :: _, _, _, e, _ => by cases e
  | .fn _ :: _, _, _, e, _ => by cases e
  | .loc _ _ :: _, _, _, e, _ => by cases e
theorem asI_rep {K : PySem.W.Frag} {cl : Cl} {G : Hp} : ∀ {ds : List D} {vs : List V} {bs : List Int}, asI ds = some bs → Reps K cl G ds vs → vs = bs.map V.int
  | [], _, _, e, r => by simp [asI] at e; subst e; exact r
  | .int b :: ds, _, bs, e, ⟨v, t, rfl, h, q⟩ => by
    obtain ⟨bs', e1, rfl⟩ := Option.map_eq_some_iff.mp (show (asI ds).map _ = some bs from e)
    rw [asI_rep e1 q, show v = .int b from h]; rfl
  | .non :: _, _, _, e, _ => by cases e
  | .bl _ :: _, _, _, e, _ => by cases e
  | .str _ :: _, _, _, e, _ => by cases e
  | .tup _ :: _, _, _, e, _ => by cases e
  | .lst _ :: _, _, _, e, _ => by cases e
  | .frz _ :: _, _, _, e, _ => by cases e
  | .dic _ _ :: _, _, _, e, _ => by cases e
  | .ins _ _ _ :: _, _, _, e, _ => by cases e
  | .xd _ _ :: _, _, _, e, _ => by cases e
  | .fn _ :: _, _, _, e, _ => by cases e
  | .loc _ _ :: _, _, _, e, _ => by cases e
def gAll : List D → Option D
  | [.lst ds] => (asB ds).map fun bs => .bl (bs.all id)
  | _ => none
def gAny : List D → Option D
  | [.lst ds] => (asB ds).map fun bs => .bl (bs.any id)
  | _ => none
def gSum : List D → Option D
  | [.lst ds] => (asI ds).map fun ns => .int ns.sum
  | _ => none
theorem ca_all : CallS M (rAll M.K) gAll := fun an ρ σ H ts ds es d vs Q e l R k => by
  unfold gAll at e
  split at e
  · obtain ⟨bs, e1, rfl⟩ := Option.map_eq_some_iff.mp e
    obtain ⟨v, rfl⟩ := len1 (es := []) l
    obtain ⟨p, us, rfl, h, t⟩ := R.repH
    have := asB_rep e1 t
    subst this
    exact ⟨p, bs, rfl, SqL.of h, k _ _ (R.pop.push fun _ => rfl)⟩
  · cases e
theorem ca_any : CallS M (rAny M.K) gAny := fun an ρ σ H ts ds es d vs Q e l R k => by
  unfold gAny at e
  split at e
  · obtain ⟨bs, e1, rfl⟩ := Option.map_eq_some_iff.mp e
    obtain ⟨v, rfl⟩ := len1 (es := []) l
    obtain ⟨p, us, rfl, h, t⟩ := R.repH
    have := asB_rep e1 t
    subst this
    exact ⟨p, bs, rfl, SqL.of h, k _ _ (R.pop.push fun _ => rfl)⟩
  · cases e
theorem ca_sum : CallS M (rSum M.K) gSum := fun an ρ σ H ts ds es d vs Q e l R k => by
  unfold gSum at e
  split at e
  · obtain ⟨bs, e1, rfl⟩ := Option.map_eq_some_iff.mp e
    obtain ⟨v, rfl⟩ := len1 (es := []) l
    obtain ⟨p, us, rfl, h, t⟩ := R.repH
    have := asI_rep e1 t
    subst this
    exact ⟨p, bs, rfl, SqL.of h, k _ _ (R.pop.push fun _ => rfl)⟩
  · cases e
def gTuple : List D → Option D
  | [.lst ds] => some (.tup ds)
  | [.tup ds] => some (.tup ds)
  | [.frz ds] => some (.tup ds)
  | _ => none
abbrev rTupleU (K : PySem.W.Frag) : List V → Hp → VK → Prop := fun xs H Q => ∃ p ys, xs = [.ref p] ∧ ((SqL K H p ys ∧ ∀ l, H l = none → Q (.ref l) (upd H l (.tup ys))) ∨ (SqT K H p ys ∧ Q (.ref p) H))
theorem ca_tuple : CallS M (rTupleU M.K) gTuple := fun an ρ σ H ts ds es d vs Q e l R k => by
  obtain ⟨G, own, r⟩ := R
  unfold gTuple at e
  split at e
  · cases e
    obtain ⟨v, rfl⟩ := len1 (es := []) l
    obtain ⟨p, us, rfl, h, t⟩ := r.tmp.head
    exact ⟨p, us, rfl, .inl ⟨SqL.of (r.sub _ _ h), fun q hq => k _ _ (r.new hq fun s => Reps.cons ⟨q, us, rfl, SqT.of upd_same, Reps.mono s _ _ t⟩ (Reps.mono s _ _ r.tmp.tail))⟩⟩
  · cases e
    obtain ⟨v, rfl⟩ := len1 (es := []) l
    obtain ⟨p, us, rfl, h, t⟩ := r.tmp.head
    exact ⟨p, us, rfl, .inr ⟨r.sub.sqT h, k _ _ ⟨G, own, r⟩⟩⟩
  · cases e
    obtain ⟨v, rfl⟩ := len1 (es := []) l
    obtain ⟨p, us, rfl, h, t⟩ := r.tmp.head
    exact ⟨p, us, rfl, .inl ⟨r.sub.sqL h, fun q hq => k _ _ (r.new hq fun s => Reps.cons ⟨q, us, rfl, SqT.of upd_same, Reps.mono s _ _ t⟩ (Reps.mono s _ _ r.tmp.tail))⟩⟩
  · cases e
def gList : List D → Option D
  | [.lst ds] => some (.lst ds)
  | [.tup ds] => some (.lst ds)
  | [.frz ds] => some (.lst ds)
  | _ => none
abbrev rListU (K : PySem.W.Frag) : List V → Hp → VK → Prop := fun xs H Q => ∃ p ys, xs = [.ref p] ∧ (SqL K H p ys ∨ SqT K H p ys) ∧ ∀ l, H l = none → Q (.ref l) (upd H l (.lst ys))
/-- a fresh list of what stands there -/
theorem RelG.newAn {an : List (Addr × D)} {ρ : En} {σ : St} {H : Hp} {ts us : List V} {ds fs : List D} {G : Hp} {own : Nat → Addr} {p : Addr} {o : HO} {d : D} (r : RelG M an ρ σ H us fs G own) (n : H p = none) (h1 : OwAt M.K M.cl G (upd H p o) p d) (h2 : Reps M.K M.cl G ds ts) : RelX M ((p, d) :: an) ρ σ (upd H p o) ts ds := by
  have r' := r.growH (o := o) n
  refine ⟨G, own, { r' with anp := fun q hq => ?_, apart := fun i hi q hq => ?_, anN := ?_, tmp := h2 }⟩
  · rcases List.mem_cons.mp hq with e | hq
    · subst e; exact ⟨h1, r.gn n, r.h0 n⟩
    · exact r'.anp q hq
  · rcases List.mem_cons.mp hq with e | hq
    · subst e
      obtain ⟨u, hu⟩ := r.owned hi
      exact ne_of_none hu n
    · exact r.apart i hi q hq
  · rw [List.map_cons, List.nodup_cons]
    refine ⟨fun hm => ?_, r.anN⟩
    obtain ⟨q, hq, e⟩ := List.mem_map.mp hm
    obtain ⟨u, hu⟩ := (r.anp q hq).1.there
    rw [e, n] at hu; cases hu
theorem cf_list : CallF M (rListU M.K) gList := fun an ρ σ H ts ds es d vs Q e l R k => by
  obtain ⟨G, own, r⟩ := R
  unfold gList at e
  split at e
  · cases e
    obtain ⟨v, rfl⟩ := len1 (es := []) l
    obtain ⟨p, us, rfl, h, t⟩ := r.tmp.head
    exact ⟨p, us, rfl, .inl (SqL.of (r.sub _ _ h)), fun q hq => k _ _ (r.newAn hq ⟨us, upd_same, t⟩ r.tmp.tail)⟩
  · cases e
    obtain ⟨v, rfl⟩ := len1 (es := []) l
    obtain ⟨p, us, rfl, h, t⟩ := r.tmp.head
    exact ⟨p, us, rfl, .inr (r.sub.sqT h), fun q hq => k _ _ (r.newAn hq ⟨us, upd_same, t⟩ r.tmp.tail)⟩
  · cases e
    obtain ⟨v, rfl⟩ := len1 (es := []) l
    obtain ⟨p, us, rfl, h, t⟩ := r.tmp.head
    exact ⟨p, us, rfl, .inl (r.sub.sqL h), fun q hq => k _ _ (r.newAn hq ⟨us, upd_same, t⟩ r.tmp.tail)⟩
  · cases e
/-! #### isinstance with a built-in class -/
def isInt : D → Option Bool
  | .int _ => some true
  | .bl _ => some true
  | .ins _ _ _ => none
  | .loc _ _ => none
  | .xd _ _ => none
  | .fn _ => none
  | _ => some false
def isBool : D → Option Bool
  | .bl _ => some true
  | .ins _ _ _ => none
  | .loc _ _ => none
  | .xd _ _ => none
  | .fn _ => none
  | _ => some false
def isStr : D → Option Bool
  | .str _ => some true
  | .ins _ _ _ => none
  | .loc _ _ => none
  | .xd _ _ => none
  | .fn _ => none
  | _ => some false
def isTup : D → Option Bool
  | .tup _ => some true
  | .ins _ _ _ => none
  | .loc _ _ => none
  | .xd _ _ => none
  | .fn _ => none
  | _ => some false
def isLst : D → Option Bool
  | .lst _ => some true
  | .frz _ => some true
  | .ins _ _ _ => none
  | .loc _ _ => none
  | .xd _ _ => none
  | .fn _ => none
  | _ => some false
def isDic : D → Option Bool
  | .dic _ _ => some true
  | .ins _ _ _ => none
  | .loc _ _ => none
  | .xd _ _ => none
  | .fn _ => none
  | _ => some false
def tyN : D → Option String
  | .non => some "NoneType"
  | .bl _ => some "bool"
  | .int _ => some "int"
  | .str _ => some "str"
  | .tup _ => some "tuple"
  | .lst _ => some "list"
  | .frz _ => some "list"
  | .dic _ _ => some "dict"
  | .loc _ _ => none
  | .xd _ _ => none
  | .fn _ => none
  | .ins _ _ _ => none
theorem SqT.tyX {K : PySem.W.Frag} {H : Hp} {p : Addr} {vs : List V} (h : SqT K H p vs) : TyX K H (.ref p) (.type "tuple") := by
  rcases h with (h | ⟨o, h⟩) | ⟨o, its, n, h, c, _⟩
  · exact .base (.tup h)
  · exact .fTuple h
  · exact .kTuple h c
theorem SqL.tyX {K : PySem.W.Frag} {H : Hp} {p : Addr} {vs : List V} (h : SqL K H p vs) : TyX K H (.ref p) (.type "list") := by
  rcases h with (h | ⟨o, h⟩) | ⟨o, its, n, h, c, _⟩
  · exact .base (.lst h)
  · exact .base (.frz h)
  · exact .kList h c
theorem tyX_of {K : PySem.W.Frag} {cl : Cl} {H : Hp} {d : D} {v : V} {t : String} (e : tyN d = some t) (h : Rep K cl H d v) : TyX K H v (.type t) := by
  cases d with
  | non => cases e; cases (show v = _ from h); exact .base .non
  | bl b => cases e; cases (show v = _ from h); exact .base (.bl b)
  | int b => cases e; cases (show v = _ from h); exact .base (.int b)
  | str b => cases e; cases (show v = _ from h); exact .base (.str b)
  | tup b => cases e; obtain ⟨p, vs, rfl, q, _⟩ := h; exact SqT.tyX q
  | lst b => cases e; obtain ⟨p, vs, rfl, q, _⟩ := h; exact SqL.tyX (SqL.of q)
  | frz b => cases e; obtain ⟨p, vs, rfl, q, _⟩ := h; exact SqL.tyX q
  | dic a b => cases e; obtain ⟨p, vs, rfl, q, _⟩ := h; exact .base (.dK q)
  | ins a b c => cases e
  | loc a b => cases e
  | xd a b => cases e
  | fn a => cases e
def IsiOk (T : String) (g : D → Option Bool) : Prop := ∀ d b, g d = some b → ∃ t, tyN d = some t ∧ kitB t T = some b
theorem isi_int : IsiOk "int" isInt := fun d b e => by cases d <;> cases e <;> exact ⟨_, rfl, by decide +kernel⟩
theorem isi_bool : IsiOk "bool" isBool := fun d b e => by cases d <;> cases e <;> exact ⟨_, rfl, by decide +kernel⟩
theorem isi_str : IsiOk "str" isStr := fun d b e => by cases d <;> cases e <;> exact ⟨_, rfl, by decide +kernel⟩
theorem isi_tup : IsiOk "tuple" isTup := fun d b e => by cases d <;> cases e <;> exact ⟨_, rfl, by decide +kernel⟩
theorem isi_lst : IsiOk "list" isLst := fun d b e => by cases d <;> cases e <;> exact ⟨_, rfl, by decide +kernel⟩
theorem isi_dic : IsiOk "dict" isDic := fun d b e => by cases d <;> cases e <;> exact ⟨_, rfl, by decide +kernel⟩
def fIsi (g : D → Option Bool) (f : En → Rs D) : En → Rs D := fUn (fun d => (g d).map .bl) f
theorem se_isi {T : String} {x : Str} {g : D → Option Bool} {e : Expr} {f : En → Rs D} {p p2 pos : Pos} (hk : M.K = X.K) (hg : IsiOk T g) (h : SE X M W e f) (hm : X.mg "isinstance" = none) (hmT : X.mg x = none) (hvT : bootBuiltins x = some (.type T)) (hgl : Gl X "isinstance" := by rfl) (hgT : Gl X x := by rfl)
    (hnT : x ≠ "__name__" := by decide) (hdT : (x == ("__debug__" : Str)) = false := by decide)
    (he : starEach [e, .Name x p2] X.env = (false, eval e X.env) :: starEach [.Name x p2] X.env := by rfl) (he2 : starEach [.Name x p2] X.env = (false, eval (.Name x p2) X.env) :: starEach [] X.env := by rfl) (hpl : (backTo pos (starEach [.Name x p2] X.env)).any (·.1) = false := by rfl) :
    SE X M W (.Call (.Name "isinstance" p) [e, .Name x p2] [] pos) (fIsi g f) := by
  refine pe_imp (pe_callB call_isi hgl hm (by decide +kernel) (pa_cons h (pa_cons (pe_bltn (v := .ty T) hgT hmT hvT rfl hnT hdT) pa_nil he2) he) (by decide) (by decide) he hpl) fun σ H Q ⟨an, ρ, ts, ds, R, h⟩ => ?_
  refine ⟨an, ρ, ts, ds, R, EOk.bind (P := fun z => EOk M an ts ds W σ z Q) h (fun _ _ _ _ z => z) (fun z => z) fun d ρ1 v H1 R1 h1 => ?_⟩
  cases q : g d with
  | none => dsimp only at h1; rw [q] at h1; exact h1.elim
  | some b =>
    dsimp only at h1
    rw [q] at h1
    obtain ⟨t, e1, e2⟩ := hg d b q
    refine ⟨v, .ty T, _, _, b, rfl, .ty T, ?_, kit_ty e2, h1 _ _ (R1.pop.push fun _ => rfl)⟩
    rw [← hk]
    exact tyX_of e1 R1.repH
end
end Dl
end
section
set_option maxHeartbeats 4000000
/-! DlF: statements, targets, stores, loops. -/
namespace Dl
open PySem PySem.Spec PyProof.Rows L2
/-! ### slots changed -/
def setOk (ρ : En) (i : Nat) : Bool := match ρ[i]? with
  | some (some (.bo _)) => false
  | some _ => true
  | none => false
section
variable {M : Mc} {an : List (Addr × D)} {ρ : En} {σ : St} {H H' : Hp} {ts us : List V} {ds es : List D} {a p : Addr} {o : HO} {i : Nat} {d e : D} {v : V}
theorem setOk_lt (h : setOk ρ i = true) : i < ρ.length := by
  unfold setOk at h
  split at h
  · cases h
  · rename_i q; exact (List.getElem?_eq_some_iff.mp q).1
  · cases h
theorem not_bo (h : setOk ρ i = true) (d : D) : ρ[i]? ≠ some (some (.bo d)) := fun e => by unfold setOk at h; rw [e] at h; cases h
theorem isOw_set2 {x : Option Sl} {j : Nat} (hij : i ≠ j) : IsOw (ρ.set i x) j ↔ IsOw ρ j := by
  unfold IsOw; rw [List.getElem?_set_ne hij]
/-- a slot takes a shared value, or none -/
theorem RelX.setSh (R : RelX M an ρ σ H (v :: ts) (d :: ds)) (h : setOk ρ i = true) : RelX M an (ρ.set i (some (.sh d))) (σ.set i (some v)) H ts ds := by
  obtain ⟨G, own, r⟩ := R
  have hl := setOk_lt h
  have hls : i < σ.length := by rw [← r.len]; exact hl
  refine ⟨G, own, { r with shp := fun j d' hj => ?_, owp := fun j d' hj => ?_, bop := fun j d' hj => ?_, inj := fun j k hj hk => r.inj j k (isOw_set hj) (isOw_set hk), apart := fun j hj => r.apart j (isOw_set hj), len := by simpa using r.len, tmp := r.tmp.tail }⟩
  · by_cases hij : i = j
    · subst hij; rw [List.getElem?_set_self hl] at hj; cases hj
      exact ⟨v, List.getElem?_set_self hls, r.tmp.head⟩
    · rw [List.getElem?_set_ne hij] at hj; rw [List.getElem?_set_ne hij]; exact r.shp j d' hj
  · by_cases hij : i = j
    · subst hij; rw [List.getElem?_set_self hl] at hj; cases hj
    · rw [List.getElem?_set_ne hij] at hj; rw [List.getElem?_set_ne hij]; exact r.owp j d' hj
  · by_cases hij : i = j
    · subst hij; rw [List.getElem?_set_self hl] at hj; cases hj
    · rw [List.getElem?_set_ne hij] at hj; rw [List.getElem?_set_ne hij]; exact r.bop j d' hj
theorem RelX.setNo {x : Option V} (R : RelX M an ρ σ H ts ds) (h : i < ρ.length → setOk ρ i = true) : RelX M an (ρ.set i none) (σ.set i x) H ts ds := by
  obtain ⟨G, own, r⟩ := R
  by_cases hl : i < ρ.length
  · have hls : i < σ.length := by rw [← r.len]; exact hl
    have ow : ∀ j, IsOw (ρ.set i none) j → IsOw ρ j := fun j ⟨e, hj⟩ => by
      by_cases hij : i = j
      · subst hij; rw [List.getElem?_set_self hl] at hj; rcases hj with hj | hj <;> cases hj
      · rw [List.getElem?_set_ne hij] at hj; exact ⟨e, hj⟩
    refine ⟨G, own, { r with shp := fun j d' hj => ?_, owp := fun j d' hj => ?_, bop := fun j d' hj => ?_, inj := fun j k hj hk => r.inj j k (ow j hj) (ow k hk), apart := fun j hj => r.apart j (ow j hj), len := by simpa using r.len }⟩
    all_goals
      by_cases hij : i = j
      · subst hij; rw [List.getElem?_set_self hl] at hj; cases hj
      · rw [List.getElem?_set_ne hij] at hj; rw [List.getElem?_set_ne hij]
        first | exact r.shp j d' hj | exact r.owp j d' hj | exact r.bop j d' hj
  · rw [List.set_eq_of_length_le (Nat.le_of_not_lt hl), List.set_eq_of_length_le (by rw [← r.len]; exact Nat.le_of_not_lt hl)]
    exact ⟨G, own, r⟩
/-- a slot takes what was held aside -/
theorem RelX.setOw (R : RelX M ((p, d) :: an) ρ σ H ts ds) (h : setOk ρ i = true) : RelX M an (ρ.set i (some (.ow d))) (σ.set i (some (.ref p))) H ts ds := by
  obtain ⟨G, own, r⟩ := R
  have hl := setOk_lt h
  have hls : i < σ.length := by rw [← r.len]; exact hl
  obtain ⟨q, g, z⟩ := r.anp (p, d) List.mem_cons_self
  have nd := List.nodup_cons.mp (show (p :: an.map (·.1)).Nodup from r.anN)
  have ow : ∀ j, i ≠ j → IsOw (ρ.set i (some (.ow d))) j → IsOw ρ j := fun j hij h => (isOw_set2 hij).mp h
  refine ⟨G, fun j => if j = i then p else own j, { r with shp := fun j d' hj => ?_, owp := fun j d' hj => ?_, bop := fun j d' hj => ?_, anp := fun x hx => r.anp x (List.mem_cons_of_mem _ hx), inj := fun j k hj hk e => ?_, apart := fun j hj x hx => ?_, anN := nd.2, len := by simpa using r.len }⟩
  · by_cases hij : i = j
    · subst hij; rw [List.getElem?_set_self hl] at hj; cases hj
    · rw [List.getElem?_set_ne hij] at hj; rw [List.getElem?_set_ne hij]; exact r.shp j d' hj
  · by_cases hij : i = j
    · subst hij; rw [List.getElem?_set_self hl] at hj; cases hj
      rw [if_pos rfl]
      exact ⟨List.getElem?_set_self hls, q, g, z⟩
    · rw [List.getElem?_set_ne hij] at hj; rw [List.getElem?_set_ne hij]
      rw [if_neg (Ne.symm hij)]
      exact r.owp j d' hj
  · by_cases hij : i = j
    · subst hij; rw [List.getElem?_set_self hl] at hj; cases hj
    · rw [List.getElem?_set_ne hij] at hj; rw [List.getElem?_set_ne hij]
      rw [if_neg (Ne.symm hij)]
      exact r.bop j d' hj
  · skip
    by_cases hj1 : j = i
    · by_cases hk1 : k = i
      · rw [hj1, hk1]
      · rw [if_pos hj1, if_neg hk1] at e
        exact absurd e.symm (r.apart k (ow k (Ne.symm hk1) hk) (p, d) List.mem_cons_self)
    · by_cases hk1 : k = i
      · rw [if_neg hj1, if_pos hk1] at e
        exact absurd e (r.apart j (ow j (Ne.symm hj1) hj) (p, d) List.mem_cons_self)
      · rw [if_neg hj1, if_neg hk1] at e
        exact r.inj j k (ow j (Ne.symm hj1) hj) (ow k (Ne.symm hk1) hk) e
  · skip
    by_cases hj1 : j = i
    · rw [if_pos hj1]
      exact fun e => nd.1 (List.mem_map.mpr ⟨x, hx, e.symm⟩)
    · rw [if_neg hj1]
      exact r.apart j (ow j (Ne.symm hj1) hj) x (List.mem_cons_of_mem _ hx)
/-- the content of an owned slot, changed -/
def putSl (ρ : En) (i : Nat) (d : D) : En := match ρ[i]? with
  | some (some (.ow _)) => ρ.set i (some (.ow d))
  | some (some (.bo _)) => ρ.set i (some (.bo d))
  | _ => ρ
def owned (ρ : En) (i : Nat) : Option D := match ρ[i]? with
  | some (some (.ow d)) => some d
  | some (some (.bo d)) => some d
  | _ => none
theorem owned_is (h : owned ρ i = some d) : ρ[i]? = some (some (.ow d)) ∨ ρ[i]? = some (some (.bo d)) := by
  unfold owned at h
  split at h
  · rename_i q; cases h; exact .inl q
  · rename_i q; cases h; exact .inr q
  · cases h
theorem cont_of_owned (h : owned ρ i = some d) : cont ρ i = some d := by
  unfold cont
  rcases owned_is h with e | e <;> rw [e]
theorem putSl_get {j : Nat} (hij : i ≠ j) : (putSl ρ i e)[j]? = ρ[j]? := by
  unfold putSl
  split
  · exact List.getElem?_set_ne hij
  · exact List.getElem?_set_ne hij
  · rfl
theorem putSl_isOw {j : Nat} (h : owned ρ i = some d) : IsOw (putSl ρ i e) j → IsOw ρ j := fun ⟨x, hx⟩ => by
  by_cases hij : i = j
  · subst hij; exact ⟨d, owned_is h⟩
  · rw [putSl_get hij] at hx; exact ⟨x, hx⟩
/-- an owned list gets another content -/
theorem RelX.put {es0 : List D} (R : RelX M an ρ σ H us es) (h : owned ρ i = some (.lst es0)) : ∃ p vs, σ[i]? = some (some (.ref p)) ∧ H p = some (.lst vs) ∧ vs.length = es0.length ∧
    ∀ vs' es', (∀ G, Reps M.K M.cl G es us → Reps M.K M.cl G es0 vs → Reps M.K M.cl G es' vs' ∧ Reps M.K M.cl G ds ts) → RelX M an (putSl ρ i (.lst es')) σ (upd H p (.lst vs')) ts ds := by
  obtain ⟨G, own, r⟩ := R
  have z : σ[i]? = some (some (.ref (own i))) ∧ OwAt M.K M.cl G H (own i) (.lst es0) ∧ G (own i) = none := by
    rcases owned_is h with e | e
    · obtain ⟨a, b, c, _⟩ := r.owp i _ e; exact ⟨a, b, c⟩
    · obtain ⟨a, b, c, _⟩ := r.bop i _ e; exact ⟨a, b, c⟩
  obtain ⟨z1, ⟨vs, z2, z3⟩, z4⟩ := z
  refine ⟨own i, vs, z1, z2, z3.len, fun vs' es' hh => ?_⟩
  obtain ⟨q1, q2⟩ := hh G r.tmp z3
  have iow : IsOw ρ i := ⟨_, owned_is h⟩
  have pln : PlainAt H (own i) := ⟨_, z2, ⟨fun _ z => (nomatch z), fun _ z => (nomatch z)⟩⟩
  have keep : ∀ b u, b ≠ own i → H b = some u → (upd H (own i) (.lst vs')) b = some u := fun b u hb e => by rw [upd_ne hb]; exact e
  have gne : ∀ b u, G b = some u → b ≠ own i := fun b u e c => by rw [c, z4] at e; cases e
  refine ⟨G, own, { sub := fun b u e => keep b u (gne b u e) (r.sub b u e), g0 := r.g0, fr := r.fr, ext := fun b u e w nt => keep b u ?_ (r.ext b u e w nt), tab := pln.tabs r.tab, ntb := r.ntb, pin := r.pin, wok := fun b w => ?_, shp := fun j d' hj => ?_, owp := fun j d' hj => ?_, bop := fun j d' hj => ?_, anp := fun x hx => ?_, inj := fun j k hj hk => r.inj j k (putSl_isOw h hj) (putSl_isOw h hk), apart := fun j hj => r.apart j (putSl_isOw h hj), anN := r.anN, len := ?_, tmp := q2 }⟩
  · rintro rfl
    rcases owned_is h with e' | e'
    · obtain ⟨_, _, _, c⟩ := r.owp i _ e'; obtain ⟨ps, z⟩ := c _ e; exact nt ps z
    · obtain ⟨_, _, _, c⟩ := r.bop i _ e'; exact w c.1
  · by_cases hb : b = own i
    · exact ⟨.lst _, by rw [hb]; exact upd_same, ⟨fun _ z => (nomatch z), fun _ z => (nomatch z)⟩⟩
    · obtain ⟨u, hu, pu⟩ := r.wok b w; exact ⟨u, keep b u hb hu, pu⟩
  · by_cases hij : i = j
    · subst hij
      exfalso
      have hl := (List.getElem?_eq_some_iff.mp hj).1
      unfold putSl at hj
      rcases owned_is h with e | e
      · rw [e] at hj; dsimp only at hj; rw [List.getElem?_set_self (List.getElem?_eq_some_iff.mp e).1] at hj; cases hj
      · rw [e] at hj; dsimp only at hj; rw [List.getElem?_set_self (List.getElem?_eq_some_iff.mp e).1] at hj; cases hj
    · rw [putSl_get hij] at hj; exact r.shp j d' hj
  · by_cases hij : i = j
    · subst hij
      unfold putSl at hj
      rcases owned_is h with e | e
      · rw [e] at hj; dsimp only at hj; rw [List.getElem?_set_self (List.getElem?_eq_some_iff.mp e).1] at hj; cases hj
        obtain ⟨c1, c2, c3, c4⟩ := r.owp i _ e
        exact ⟨c1, ⟨vs', upd_same, q1⟩, c3, c4⟩
      · rw [e] at hj; dsimp only at hj; rw [List.getElem?_set_self (List.getElem?_eq_some_iff.mp e).1] at hj; cases hj
    · rw [putSl_get hij] at hj
      obtain ⟨c1, c2, c3, c4⟩ := r.owp j d' hj
      have ne : own j ≠ own i := fun c => hij (r.inj j i ⟨_, .inl hj⟩ iow c).symm
      exact ⟨c1, c2.mono Sub.rfl' fun u hu => keep _ u ne hu, c3, c4⟩
  · by_cases hij : i = j
    · subst hij
      unfold putSl at hj
      rcases owned_is h with e | e
      · rw [e] at hj; dsimp only at hj; rw [List.getElem?_set_self (List.getElem?_eq_some_iff.mp e).1] at hj; cases hj
      · rw [e] at hj; dsimp only at hj; rw [List.getElem?_set_self (List.getElem?_eq_some_iff.mp e).1] at hj; cases hj
        obtain ⟨c1, c2, c3, c4⟩ := r.bop i _ e
        exact ⟨c1, ⟨vs', upd_same, q1⟩, c3, c4⟩
    · rw [putSl_get hij] at hj
      obtain ⟨c1, c2, c3, c4⟩ := r.bop j d' hj
      have ne : own j ≠ own i := fun c => hij (r.inj j i ⟨_, .inr hj⟩ iow c).symm
      exact ⟨c1, c2.mono Sub.rfl' fun u hu => keep _ u ne hu, c3, c4⟩
  · obtain ⟨c2, c3, c4⟩ := r.anp x hx
    exact ⟨c2.mono Sub.rfl' fun u hu => keep _ u (Ne.symm (r.apart i iow x hx)) hu, c3, c4⟩
  · rw [← r.len]; unfold putSl; split <;> simp
end
/-! ### blocks, small statements -/
def fSkip : En → Rs Fl := fun ρ => .ok .nx ρ
def fSeq (f g : En → Rs Fl) : En → Rs Fl := fun ρ => (f ρ).bind fun a ρ1 => match a with
  | .nx => g ρ1
  | a => .ok a ρ1
def fRet (f : En → Rs D) : En → Rs Fl := fun ρ => (f ρ).bind fun d ρ1 => .ok (.ret d) ρ1
def fRetL (f : En → Rs D) : En → Rs Fl := fun ρ => (f ρ).bind fun d ρ1 => .ok (.retL d) ρ1
def fRetN : En → Rs Fl := fun ρ => .ok (.ret .non) ρ
def fBrk : En → Rs Fl := fun ρ => .ok .brk ρ
def fCont : En → Rs Fl := fun ρ => .ok .cont ρ
def fExp (f : En → Rs D) : En → Rs Fl := fun ρ => (f ρ).bind fun _ ρ1 => .ok .nx ρ1
def fIfS (c : En → Rs Bool) (f g : En → Rs Fl) : En → Rs Fl := fun ρ => (c ρ).bind fun b ρ1 => if b = true then f ρ1 else g ρ1
def fSet (i : Nat) (f : En → Rs D) : En → Rs Fl := fun ρ => (f ρ).bind fun d ρ1 => if setOk ρ1 i = true then .ok .nx (ρ1.set i (some (.sh d))) else .stuck
def fSetL (i : Nat) (f : En → Rs D) : En → Rs Fl := fun ρ => (f ρ).bind fun d ρ1 => if setOk ρ1 i = true then .ok .nx (ρ1.set i (some (.ow d))) else .stuck
section
variable {X : Cx} {M : Mc} {W : WX} {e c : Expr} {st : Stmt} {rest a b : List Stmt} {f g : En → Rs Fl} {fe : En → Rs D} {fc : En → Rs Bool} {pos pos' : Pos}
theorem sss_nil : SSs X M W [] fSkip := pss_imp pss_nil fun Dn σ H ⟨an, ρ, ts, ds, R, h⟩ => h σ H R
theorem sss_cons (h1 : SS X M W st f) (h2 : SSs X M W rest g) : SSs X M W (st :: rest) (fSeq f g) := pss_imp (pss_cons h1 h2) fun Dn σ H ⟨an, ρ, ts, ds, R, h⟩ =>
  ⟨an, ρ, ts, ds, R, SOk.bind (P := fun z => SOk M an ts ds W z Dn) h (fun _ _ _ _ z => z) (fun z => z) (fun ρ1 σ1 H1 R1 h1 => ⟨an, ρ1, ts, ds, R1, h1⟩) (fun ρ1 σ1 H1 R1 h1 => h1 σ1 H1 R1) (fun ρ1 σ1 H1 R1 h1 => h1 σ1 H1 R1) (fun d ρ1 v σ1 H1 R1 h1 => h1 v σ1 H1 R1) fun d ρ1 v σ1 H1 R1 h1 => h1 v σ1 H1 R1⟩
theorem sss_one (h1 : SS X M W st f) : SSs X M W [st] f := pss_one h1
theorem ss_pass : SS X M W (.Pass pos) fSkip := ps_imp ps_pass fun Dn σ H ⟨an, ρ, ts, ds, R, h⟩ => h σ H R
theorem ss_brk : SS X M W (.Break pos) fBrk := ps_imp ps_break fun Dn σ H ⟨an, ρ, ts, ds, R, h⟩ => h σ H R
theorem ss_cont : SS X M W (.Continue pos) fCont := ps_imp ps_continue fun Dn σ H ⟨an, ρ, ts, ds, R, h⟩ => h σ H R
/-- the ends of an expression within a statement -/
theorem EOk.toS {an : List (Addr × D)} {ts : List V} {ds : List D} {σ : St} {r : Rs D} {k : D → En → Rs Fl} {Dn : Ends} {Q : VK} (h : SOk M an ts ds W (r.bind k) Dn) (hk : ∀ d ρ1 v H1, RelX M an ρ1 σ H1 (v :: ts) (d :: ds) → SOk M an ts ds W (k d ρ1) Dn → Q v H1) : EOk M an ts ds W σ r Q :=
  EOk.bind (P := fun z => SOk M an ts ds W z Dn) h (fun _ _ _ _ z => z σ) (fun z => z) hk
theorem ss_ret (h : SE X M W e fe) : SS X M W (.Return (some e) pos) (fRet fe) := ps_imp (ps_ret h) fun Dn σ H ⟨an, ρ, ts, ds, R, h⟩ =>
  ⟨an, ρ, ts, ds, R, EOk.toS h fun d ρ1 v H1 R1 h1 => h1 v σ H1 R1⟩
/-- return of a fresh object -/
theorem ss_retL (h : SL X M W e fe) : SS X M W (.Return (some e) pos) (fRetL fe) := by
  refine ps_imp (ps_ret h) fun Dn σ H ⟨an, ρ, ts, ds, R, h⟩ => ?_
  refine ⟨an, ρ, ts, ds, R, ?_⟩
  unfold fRetL at h
  revert h
  unfold LOk
  cases fe ρ with
  | stuck => exact fun h => h
  | err c fs es ρ1 => exact fun h => h σ
  | ok d ρ1 => exact fun h p H' R' => h p σ H' R'
theorem ss_retN : SS X M W (.Return none pos) fRetN := ps_imp ps_retN fun Dn σ H ⟨an, ρ, ts, ds, R, h⟩ => h _ σ H (R.push fun _ => rfl)
theorem ss_exp (h : SE X M W e fe) (hs : swapsWith e none pos.line X.env = pure false := by rfl) : SS X M W (.Expr e pos) (fExp fe) := ps_imp (ps_expr h hs) fun Dn σ H ⟨an, ρ, ts, ds, R, h⟩ =>
  ⟨an, ρ, ts, ds, R, EOk.toS h fun d ρ1 v H1 R1 h1 => h1 σ H1 R1.pop⟩
theorem ss_if (hc : SB X M W c fc) (ha : SSs X M W a f) (hb : SSs X M W b g) : SS X M W (.If c a b pos) (fIfS fc f g) := ps_imp (ps_if hc ha hb) fun Dn σ H ⟨an, ρ, ts, ds, R, h⟩ =>
  ⟨an, ρ, ts, ds, R, BOk.bind (P := fun z => SOk M an ts ds W z Dn) h (fun _ _ _ _ z => z σ) (fun z => z) fun b ρ1 H1 R1 h1 => by
    cases b with
    | true => exact iteT ⟨an, ρ1, ts, ds, R1, h1⟩
    | false => exact iteF ⟨an, ρ1, ts, ds, R1, h1⟩⟩
/-- x = e -/
theorem set_core {i : Nat} {Dn : Ends} {σ : St} {H : Hp} (h : tSt M W (fSet i fe) Dn σ H) : tAsg (tE M W fe) (gName i) Dn σ H := by
  obtain ⟨an, ρ, ts, ds, R, h⟩ := h
  refine ⟨an, ρ, ts, ds, R, EOk.toS h fun d ρ1 v H1 R1 h1 => ?_⟩
  by_cases c : setOk ρ1 i = true
  · rw [if_pos c] at h1; exact h1 _ _ (R1.setSh c)
  · rw [if_neg c] at h1; exact h1.elim
theorem setL_core {i : Nat} {Dn : Ends} {σ : St} {H : Hp} (h : tSt M W (fSetL i fe) Dn σ H) : tAsg (tLs M W fe) (gName i) Dn σ H := by
  obtain ⟨an, ρ, ts, ds, R, h⟩ := h
  refine ⟨an, ρ, ts, ds, R, LOk.bind (P := fun z => SOk M an ts ds W z Dn) h (fun _ _ _ _ z => z σ) (fun z => z) fun d ρ1 p H1 R1 h1 => ?_⟩
  by_cases c : setOk ρ1 i = true
  · rw [if_pos c] at h1; exact h1 _ _ (R1.setOw c)
  · rw [if_neg c] at h1; exact h1.elim
theorem ss_set (i : Nat) {x : Str} (hN : X.N.Nodup) (he : SE X M W e fe) (hi : X.N[i]? = some x := by rfl) (hx : Loc X.env.scope x := by first | exact Or.inl rfl | exact Or.inr rfl) (hs : swapsWith e (some (.Name x pos')) pos.line X.env = pure false := by rfl)
    (hf : X.fn x = true ∨ X.env.scope.names.lookup x = some .local := by first | exact .inl rfl | exact .inr rfl) : SS X M W (.Assign [.Name x pos'] e pos) (fSet i fe) :=
  ps_imp (ps_set hN hi hx he hs hf) fun _ _ _ h => set_core h
theorem ss_setL (i : Nat) {x : Str} (hN : X.N.Nodup) (he : SL X M W e fe) (hi : X.N[i]? = some x := by rfl) (hx : Loc X.env.scope x := by first | exact Or.inl rfl | exact Or.inr rfl) (hs : swapsWith e (some (.Name x pos')) pos.line X.env = pure false := by rfl)
    (hf : X.fn x = true ∨ X.env.scope.names.lookup x = some .local := by first | exact .inl rfl | exact .inr rfl) : SS X M W (.Assign [.Name x pos'] e pos) (fSetL i fe) :=
  ps_imp (ps_set hN hi hx he hs hf) fun _ _ _ h => setL_core h
end
/-! ### two names at once: each a shared value or a fresh object -/
section
variable {X : Cx} {M : Mc} {W : WX} {a b : Expr} {fa fb : En → Rs D} {pos : Pos}
def fPar (i j : Nat) (fa fb : En → Rs D) : En → Rs Fl := fun ρ => (fa ρ).bind fun d ρ1 => (fb ρ1).bind fun e ρ2 => if setOk ρ2 i = true && setOk ρ2 j = true then .ok .nx ((ρ2.set i (some (.sh d))).set j (some (.sh e))) else .stuck
def fParL (i j : Nat) (fa fb : En → Rs D) : En → Rs Fl := fun ρ => (fa ρ).bind fun d ρ1 => (fb ρ1).bind fun e ρ2 => if setOk ρ2 i = true && setOk ρ2 j = true then .ok .nx ((ρ2.set i (some (.ow d))).set j (some (.ow e))) else .stuck
theorem setOk_set {ρ : En} {i j : Nat} {x : Sl} (hx : ∀ d, x ≠ .bo d) (hj : setOk ρ j = true) (hi : setOk ρ i = true) : setOk (ρ.set i (some x)) j = true := by
  by_cases hij : i = j
  · subst hij
    unfold setOk
    rw [List.getElem?_set_self (setOk_lt hi)]
    cases x with
    | bo d => exact absurd rfl (hx d)
    | _ => rfl
  · unfold setOk at hj ⊢
    rw [List.getElem?_set_ne hij]; exact hj
theorem ss_par (i j : Nat) {x y : Str} {px py pt : Pos} {kt k2 pt2} (hc : X.calm = true) (hN : X.N.Nodup) (hij : i ≠ j) (ha : SE X M W a fa) (hb : SE X M W b fb) (hi : X.N[i]? = some x := by rfl) (hj : X.N[j]? = some y := by rfl)
    (hx : X.env.scope.names.lookup x = some .local := by rfl) (hy : X.env.scope.names.lookup y = some .local := by rfl)
    (hw : swappedStores [.Tuple [.Name x px, .Name y py] kt pt] (.Tuple [a, b] k2 pt2) X.env = pure (some [x, y]) := by rfl)
    (hs : swapsWithSole [.Tuple [.Name x px, .Name y py] kt pt] (.Tuple [a, b] k2 pt2) pos.line X.env = pure false := by rfl)
    (h1 : starEach (a :: [b]) X.env = (false, eval a X.env) :: starEach [b] X.env := by rfl) (h2 : starEach [b] X.env = (false, eval b X.env) :: starEach [] X.env := by rfl) :
    SS X M W (.Assign [.Tuple [.Name x px, .Name y py] kt pt] (.Tuple [a, b] k2 pt2) pos) (fPar i j fa fb) := by
  refine ps_imp (ps_par hc hN hi hj hij hx hy (pa_cons ha (pa_cons hb pa_nil h2) h1) hw hs) fun Dn σ H ⟨an, ρ, ts, ds, R, h⟩ => ?_
  refine ⟨an, ρ, ts, ds, R, EOk.toS h fun d ρ1 v H1 R1 h1 => ?_⟩
  refine ⟨an, ρ1, v :: ts, d :: ds, R1, EOk.bind (P := fun z => SOk M an ts ds W z Dn) h1 (fun _ _ _ _ z => (z σ).weak1) (fun z => z) fun e ρ2 u H2 R2 h2 => ?_⟩
  by_cases c : (setOk ρ2 i = true && setOk ρ2 j = true) = true
  · rw [if_pos c] at h2
    simp only [Bool.and_eq_true, decide_eq_true_eq] at c
    refine ⟨v, u, rfl, h2 _ _ (RelX.setSh (v := u) ?_ (setOk_set (by intro _ q; cases q) c.2 c.1))⟩
    exact RelX.setSh (v := v) (R2.temps fun _ _ q => Reps.cons q.tail.head (Reps.cons q.head q.tail.tail)) c.1
  · rw [if_neg c] at h2; exact h2.elim
theorem ss_parL (i j : Nat) {x y : Str} {px py pt : Pos} {kt k2 pt2} (hc : X.calm = true) (hN : X.N.Nodup) (hij : i ≠ j) (ha : SL X M W a fa) (hb : SL X M W b fb) (hi : X.N[i]? = some x := by rfl) (hj : X.N[j]? = some y := by rfl)
    (hx : X.env.scope.names.lookup x = some .local := by rfl) (hy : X.env.scope.names.lookup y = some .local := by rfl)
    (hw : swappedStores [.Tuple [.Name x px, .Name y py] kt pt] (.Tuple [a, b] k2 pt2) X.env = pure (some [x, y]) := by rfl)
    (hs : swapsWithSole [.Tuple [.Name x px, .Name y py] kt pt] (.Tuple [a, b] k2 pt2) pos.line X.env = pure false := by rfl)
    (h1 : starEach (a :: [b]) X.env = (false, eval a X.env) :: starEach [b] X.env := by rfl) (h2 : starEach [b] X.env = (false, eval b X.env) :: starEach [] X.env := by rfl) :
    SS X M W (.Assign [.Tuple [.Name x px, .Name y py] kt pt] (.Tuple [a, b] k2 pt2) pos) (fParL i j fa fb) := by
  refine ps_imp (ps_par hc hN hi hj hij hx hy (pa_cons ha (pa_cons hb pa_nil h2) h1) hw hs) fun Dn σ H ⟨an, ρ, ts, ds, R, h⟩ => ?_
  refine ⟨an, ρ, ts, ds, R, LOk.bind (P := fun z => SOk M an ts ds W z Dn) h (fun _ _ _ _ z => z σ) (fun z => z) fun d ρ1 p H1 R1 h1 => ?_⟩
  have errs : ∀ c fs es ρ, SOk M an ts ds W (.err c fs es ρ) Dn → EErr M ((p, d) :: an) ts ds W σ c fs es ρ := fun c fs es ρ z C dx H' vs q1 q2 q3 R => z σ C dx H' vs q1 q2 q3 R.anDrop
  refine ⟨(p, d) :: an, ρ1, ts, ds, R1, LOk.bind (P := fun z => SOk M an ts ds W z Dn) h1 errs (fun z => z) fun e ρ2 q H2 R2 h2 => ?_⟩
  by_cases c : (setOk ρ2 i = true && setOk ρ2 j = true) = true
  · rw [if_pos c] at h2
    simp only [Bool.and_eq_true, decide_eq_true_eq] at c
    refine ⟨.ref p, .ref q, rfl, h2 _ _ ?_⟩
    have sw : RelX M ((p, d) :: (q, e) :: an) ρ2 σ H2 ts ds := by
      obtain ⟨G, own, r⟩ := R2
      have nd := List.nodup_cons.mp (show (q :: p :: an.map (·.1)).Nodup from r.anN)
      have nd2 := List.nodup_cons.mp nd.2
      refine ⟨G, own, { r with anp := fun x hx => r.anp x ?_, apart := fun k hk x hx => r.apart k hk x ?_, anN := ?_ }⟩
      · simp only [List.mem_cons] at hx ⊢; rcases hx with h | h | h
        · exact .inr (.inl h)
        · exact .inl h
        · exact .inr (.inr h)
      · simp only [List.mem_cons] at hx ⊢; rcases hx with h | h | h
        · exact .inr (.inl h)
        · exact .inl h
        · exact .inr (.inr h)
      · show (p :: q :: an.map (·.1)).Nodup
        rw [List.nodup_cons, List.nodup_cons]
        refine ⟨fun hm => ?_, fun hm => nd.1 (List.mem_cons_of_mem _ hm), nd2.2⟩
        rcases List.mem_cons.mp hm with h | h
        · exact nd.1 (by rw [← h]; exact List.mem_cons_self)
        · exact nd2.1 h
    exact RelX.setOw (RelX.setOw sw c.1) (setOk_set (by intro _ q; cases q) c.2 c.1)
  · rw [if_neg c] at h2; exact h2.elim
end
/-! ### an owned list stored into -/
section
variable {X : Cx} {M : Mc} {W : WX} {e k : Expr} {fe fk : En → Rs D} {pos : Pos}
def fSto (i : Nat) (fk fe : En → Rs D) : En → Rs Fl := fun ρ => (fe ρ).bind fun d ρ1 => match owned ρ1 i with
  | none => .stuck
  | some _ => (fk ρ1).bind fun k ρ2 => match owned ρ2 i, k with
    | some (.lst ds), .int j => (match ixN ds.length j with
      | some n => .ok .nx (putSl ρ2 i (.lst (ds.set n d)))
      | none => .stuck)
    | _, _ => .stuck
theorem ss_sto (i : Nat) {x : Str} {px tpos : Pos} (he : SE X M W e fe) (hk : SE X M W k fk) (hN : X.N[i]? = some x := by rfl) (hv : Vis X.env.scope x := by first | exact Or.inl rfl | exact Or.inr (Or.inl rfl) | exact Or.inr (Or.inr rfl))
    (hd : (x == ("__debug__" : Str)) = false := by decide) (hcd : (x == ("__classdict__" : Str)) = false := by decide)
    (ha : ∀ v, assign (.Subscript (.Name x px) k tpos) X.env v = (do
      let ov ← holding [v] (eval (.Name x px) X.env)
      let iv ← holding [v, ov] (eval k X.env)
      standAt tpos
      holding [v, ov, iv] (setItem ov iv v)
      release [v, ov, iv] []) := by intro _; rfl)
    (hs : swapsWithSole [.Subscript (.Name x px) k tpos] e pos.line X.env = pure false := by rfl) (hw : swappedStores [.Subscript (.Name x px) k tpos] e X.env = pure none := by rfl)
    (h1 : (assignEach [.Subscript (.Name x px) k tpos] X.env).map (·.2) = [assign (.Subscript (.Name x px) k tpos) X.env] := by rfl) :
    SS X M W (.Assign [.Subscript (.Name x px) k tpos] e pos) (fSto i fk fe) := by
  refine ps_imp (ps_asg he (pg_sub (pe_var hN hv hd hcd) hk set_list ha) hs hw h1) fun Dn σ H ⟨an, ρ, ts, ds, R, h⟩ => ?_
  refine ⟨an, ρ, ts, ds, R, EOk.toS h fun d ρ1 v H1 R1 h1 => ?_⟩
  cases q : owned ρ1 i with
  | none => rw [q] at h1; exact h1.elim
  | some d0 =>
    rw [q] at h1
    obtain ⟨u, eu, _⟩ := R1.pop.cont_at (cont_of_owned q)
    refine ⟨u, eu, an, ρ1, v :: ts, d :: ds, R1, EOk.bind (P := fun z => SOk M an ts ds W z Dn) h1 (fun _ _ _ _ z => (z σ).weak1) (fun z => z) fun kd ρ2 kv H2 R2 h2 => ?_⟩
    cases q2 : owned ρ2 i with
    | none => rw [q2] at h2; exact h2.elim
    | some d1 =>
      rw [q2] at h2
      cases d1 with
      | lst es =>
        cases kd with
        | int j =>
          dsimp only at h2
          cases q3 : ixN es.length j with
          | none => rw [q3] at h2; exact h2.elim
          | some n =>
            rw [q3] at h2
            cases (show kv = _ from R2.repH)
            obtain ⟨p, vs, e1, e2, e3, e4⟩ := R2.put (ts := ts) (ds := ds) q2
            rw [eu] at e1; cases e1
            refine ⟨p, vs, j, n, rfl, rfl, e2, by rw [e3]; exact q3, h2 _ _ (e4 _ _ fun G r1 r2 => ⟨Reps.set n r2 r1.tail.head, r1.tail.tail⟩)⟩
        | _ => exact h2.elim
      | _ => exact h2.elim
end
/-! ### methods of owned lists -/
section
variable {X : Cx} {M : Mc} {W : WX} {e : Expr} {fe : En → Rs D} {pos apos : Pos}
def fApp (i : Nat) (fe : En → Rs D) : En → Rs D := fun ρ => match owned ρ i with
  | some (.lst _) => (fe ρ).bind fun d ρ1 => (match owned ρ1 i with
    | some (.lst ds) => if ds.length < sizeLine then .ok .non (putSl ρ1 i (.lst (ds ++ [d]))) else .stuck
    | _ => .stuck)
  | _ => .stuck
def fPopAt (i : Nat) (fe : En → Rs D) : En → Rs D := fun ρ => match owned ρ i with
  | some (.lst _) => (fe ρ).bind fun d ρ1 => (match owned ρ1 i, d with
    | some (.lst ds), .int j => (match seqIndex? j ds.length with
      | some n => (match ds[n]? with
        | some d => if -(2 ^ 63) ≤ j ∧ j < 2 ^ 63 then .ok d (putSl ρ1 i (.lst (ds.eraseIdx n))) else .stuck
        | none => .stuck)
      | none => .stuck)
    | _, _ => .stuck)
  | _ => .stuck
theorem reps_erase {K : PySem.W.Frag} {cl : Cl} {G : Hp} : ∀ {ds : List D} {vs : List V} (n : Nat), Reps K cl G ds vs → Reps K cl G (ds.eraseIdx n) (vs.eraseIdx n)
  | [], _, _, h => by cases (show _ = [] from h); exact rfl
  | _ :: ds, _, 0, ⟨v, r, e, _, t⟩ => by subst e; exact t
  | _ :: ds, _, n + 1, ⟨v, r, e, h, t⟩ => by subst e; exact ⟨v, _, rfl, h, reps_erase n t⟩
/-- the place of an owned list is a list's -/
theorem RelX.place {an : List (Addr × D)} {ρ : En} {σ : St} {H : Hp} {ts : List V} {ds : List D} {i : Nat} {es : List D} (R : RelX M an ρ σ H ts ds) (h : owned ρ i = some (.lst es)) : ∃ p vs, σ[i]? = some (some (.ref p)) ∧ H p = some (.lst vs) := by
  obtain ⟨p, vs, e1, e2, _⟩ := R.put (ts := ts) (ds := ds) h
  exact ⟨p, vs, e1, e2⟩
theorem se_app (i : Nat) {x : Str} {p : Pos} (he : SE X M W e fe) (hm : MtR X "list.append" rAppend) (hN : X.N[i]? = some x := by rfl) (hv : Vis X.env.scope x := by first | exact Or.inl rfl | exact Or.inr (Or.inl rfl) | exact Or.inr (Or.inr rfl))
    (hd : (x == ("__debug__" : Str)) = false := by decide) (hcd : (x == ("__classdict__" : Str)) = false := by decide)
    (hbase : attributeBase (.Name x p) "append" X.env (eval (.Name x p) X.env) = eval (.Name x p) X.env := by rfl)
    (hfew : ((backTo pos (starEach (e :: []) X.env)).all (fun x => !x.1) && (backToKw pos (keywordEach [] X.env)).all (fun x => x.1.isSome)
      && decide ((e :: ([] : List Expr)).length + ([] : List Keyword).length + (if ([] : List Keyword).isEmpty then 0 else 1) < 30)) = true := by rfl)
    (hline : (apos.endLine == pos.line) = true := by rfl) (hs : starEach (e :: []) X.env = (false, eval e X.env) :: starEach [] X.env := by rfl) (hplain : (backTo pos (starEach [] X.env)).any (·.1) = false := by rfl) :
    SE X M W (.Call (.Attribute (.Name x p) "append" apos) [e] [] pos) (fApp i fe) := by
  refine pe_imp (pe_bm PySem.F.plainAttrs_list PySem.F.slot_list_append PySem.F.type_list_append hm (pe_var hN hv hd hcd) (pa_cons he pa_nil hs) hbase hfew hline hs hplain) fun σ H Q ⟨an, ρ, ts, ds, R, h⟩ => ?_
  unfold fApp at h
  cases q : owned ρ i with
  | none => rw [q] at h; exact h.elim
  | some d0 =>
    rw [q] at h
    cases d0 with
    | lst es0 =>
      obtain ⟨pa, vs0, e1, e2⟩ := R.place q
      refine ⟨_, e1, .inl ⟨rfl, vs0, SqL.of e2⟩, an, ρ, ts, ds, R, EOk.bind (P := fun z => EOk M an ts ds W σ z Q) h (fun _ _ _ _ z => z) (fun z => z) fun d ρ1 v H1 R1 h1 => ?_⟩
      cases q1 : owned ρ1 i with
      | none => rw [q1] at h1; exact h1.elim
      | some d1 =>
        rw [q1] at h1
        cases d1 with
        | lst es =>
          dsimp only at h1
          by_cases c : es.length < sizeLine
          · rw [if_pos c] at h1
            obtain ⟨p', vs, e1', e2', e3, e4⟩ := R1.put (ts := .non :: ts) (ds := .non :: ds) q1
            rw [e1] at e1'; cases e1'
            exact ⟨pa, vs, v, rfl, rfl, e2', by rw [e3]; exact c, h1 _ _ (e4 _ _ fun G r1 r2 => ⟨Reps.append r2 (Reps.cons r1.head Reps.nil), Reps.cons rfl r1.tail⟩)⟩
          · rw [if_neg c] at h1; exact h1.elim
        | _ => exact h1.elim
    | _ => exact h.elim
theorem se_popAt (i : Nat) {x : Str} {p : Pos} (he : SE X M W e fe) (hm : MtR X "list.pop" rPopAt) (hN : X.N[i]? = some x := by rfl) (hv : Vis X.env.scope x := by first | exact Or.inl rfl | exact Or.inr (Or.inl rfl) | exact Or.inr (Or.inr rfl))
    (hd : (x == ("__debug__" : Str)) = false := by decide) (hcd : (x == ("__classdict__" : Str)) = false := by decide)
    (hbase : attributeBase (.Name x p) "pop" X.env (eval (.Name x p) X.env) = eval (.Name x p) X.env := by rfl)
    (hfew : ((backTo pos (starEach (e :: []) X.env)).all (fun x => !x.1) && (backToKw pos (keywordEach [] X.env)).all (fun x => x.1.isSome)
      && decide ((e :: ([] : List Expr)).length + ([] : List Keyword).length + (if ([] : List Keyword).isEmpty then 0 else 1) < 30)) = true := by rfl)
    (hline : (apos.endLine == pos.line) = true := by rfl) (hs : starEach (e :: []) X.env = (false, eval e X.env) :: starEach [] X.env := by rfl) (hplain : (backTo pos (starEach [] X.env)).any (·.1) = false := by rfl) :
    SE X M W (.Call (.Attribute (.Name x p) "pop" apos) [e] [] pos) (fPopAt i fe) := by
  refine pe_imp (pe_bm PySem.F.plainAttrs_list PySem.F.slot_list_pop PySem.F.type_list_pop hm (pe_var hN hv hd hcd) (pa_cons he pa_nil hs) hbase hfew hline hs hplain) fun σ H Q ⟨an, ρ, ts, ds, R, h⟩ => ?_
  unfold fPopAt at h
  cases q : owned ρ i with
  | none => rw [q] at h; exact h.elim
  | some d0 =>
    rw [q] at h
    cases d0 with
    | lst es0 =>
      obtain ⟨pa, vs0, e1, e2⟩ := R.place q
      refine ⟨_, e1, .inl ⟨rfl, vs0, SqL.of e2⟩, an, ρ, ts, ds, R, EOk.bind (P := fun z => EOk M an ts ds W σ z Q) h (fun _ _ _ _ z => z) (fun z => z) fun d ρ1 v H1 R1 h1 => ?_⟩
      cases q1 : owned ρ1 i with
      | none => rw [q1] at h1; exact h1.elim
      | some d1 =>
        rw [q1] at h1
        cases d1 with
        | lst es =>
          cases d with
          | int j =>
            dsimp only at h1
            cases q2 : seqIndex? j es.length with
            | none => rw [q2] at h1; exact h1.elim
            | some n =>
              rw [q2] at h1
              dsimp only at h1
              cases q3 : es[n]? with
              | none => rw [q3] at h1; exact h1.elim
              | some dd =>
                rw [q3] at h1
                dsimp only at h1
                by_cases c : -(2 ^ 63) ≤ j ∧ j < 2 ^ 63
                · rw [if_pos c] at h1
                  cases (show v = _ from R1.repH)
                  obtain ⟨u, hu⟩ : ∃ u, ∀ G vs, Reps M.K M.cl G es vs → True ∧ True := ⟨(), fun _ _ _ => ⟨trivial, trivial⟩⟩
                  obtain ⟨p', vs, e1', e2', e3, e4⟩ := R1.put (ts := (((H1 pa).map fun o => match o with | .lst vs => vs.getD n .non | _ => .non).getD .non) :: ts) (ds := dd :: ds) q1
                  rw [e1] at e1'; cases e1'
                  rw [e2'] at e4
                  have hn : n < vs.length := by rw [e3]; exact (List.getElem?_eq_some_iff.mp q3).1
                  refine ⟨pa, vs, j, n, vs.getD n .non, rfl, rfl, e2', c.1, c.2, by rw [e3]; exact q2, by rw [List.getD_eq_getElem?_getD, List.getElem?_eq_getElem hn]; rfl, h1 _ _ (e4 _ _ fun G r1 r2 => ⟨reps_erase n r2, Reps.cons ?_ r1.tail⟩)⟩
                  obtain ⟨w, w1, w2⟩ := r2.get q3
                  show Rep M.K M.cl G dd (vs.getD n .non)
                  rw [List.getD_eq_getElem?_getD, w1]; exact w2
                · rw [if_neg c] at h1; exact h1.elim
          | _ => exact h1.elim
        | _ => exact h1.elim
    | _ => exact h.elim
end
end Dl
end
section
set_option maxHeartbeats 4000000
/-! DlG: targets, what is walked, for, while, list comprehensions. -/
namespace Dl
open PySem PySem.Spec PyProof.Rows L2
/-! ### targets -/
def tG (M : Mc) (vs : List Nat) (g : D → En → Rs Unit) : TG := fun v σ H Q => ∃ an ρ ts ds d, RelX M an ρ σ H (v :: ts) (d :: ds) ∧ match g d ρ with
  | .ok _ ρ1 => ∀ σ1 H1, RelX M an ρ1 σ1 H1 ts ds → wipe σ1 vs = wipe σ vs → Q σ1 H1
  | _ => False
def tGs (M : Mc) (vs : List Nat) (g : List D → En → Rs Unit) : TGs := fun us σ H Q => ∃ an ρ ts ds es, us.length = es.length ∧ RelX M an ρ σ H (us ++ ts) (es ++ ds) ∧ match g es ρ with
  | .ok _ ρ1 => ∀ σ1 H1, RelX M an ρ1 σ1 H1 ts ds → wipe σ1 vs = wipe σ vs → Q σ1 H1
  | _ => False
abbrev SG (X : Cx) (M : Mc) (vs : List Nat) (tg : Expr) (g : D → En → Rs Unit) : Prop := PG X tg (tG M vs g)
abbrev SGs (X : Cx) (M : Mc) (vs : List Nat) (tg : List Expr) (g : List D → En → Rs Unit) : Prop := PGs X tg (tGs M vs g)
theorem pg_imp {X : Cx} {e : Expr} {t t' : TG} (h : PG X e t) (i : ∀ v σ H Q, t' v σ H Q → t v σ H Q) : PG X e t' := ⟨fun pins s σ H v u Q I r q => h.run pins s σ H v u Q I r (i v σ H Q q)⟩
theorem pgs_imp {X : Cx} {e : List Expr} {t t' : TGs} (h : PGs X e t) (i : ∀ v σ H Q, t' v σ H Q → t v σ H Q) : PGs X e t' := ⟨fun pins s σ H v u Q I r q => h.run pins s σ H v u Q I r (i v σ H Q q)⟩
def gN (i : Nat) : D → En → Rs Unit := fun d ρ => if setOk ρ i = true then .ok () (ρ.set i (some (.sh d))) else .stuck
def gT (g : List D → En → Rs Unit) (n : Nat) : D → En → Rs Unit := fun d ρ => match d with
  | .tup es => if es.length = n then g es ρ else .stuck
  | _ => .stuck
def gsNil : List D → En → Rs Unit := fun es ρ => match es with
  | [] => .ok () ρ
  | _ => .stuck
def gsCons (g : D → En → Rs Unit) (gs : List D → En → Rs Unit) : List D → En → Rs Unit := fun es ρ => match es with
  | [] => .stuck
  | d :: es => (g d ρ).bind fun _ ρ1 => gs es ρ1
theorem wipe_set {σ : St} {i : Nat} {x : Option V} : ∀ {vs : List Nat}, i ∈ vs → wipe (σ.set i x) vs = wipe σ vs
  | [], h => by cases h
  | j :: vs, h => by
    unfold wipe
    by_cases e : i ∈ vs
    · rw [wipe_set e]
    · rcases List.mem_cons.mp h with rfl | h
      · have q : ∀ (vs : List Nat) (σ : St), i ∉ vs → wipe (σ.set i x) vs = (wipe σ vs).set i x := by
          intro vs
          induction vs with
          | nil => intro σ _; rfl
          | cons k r ih =>
            intro σ hn
            unfold wipe
            rw [ih σ (fun z => hn (List.mem_cons_of_mem _ z)), List.set_comm _ _ (fun z => hn (by rw [z]; exact List.mem_cons_self))]
        rw [q vs σ e, List.set_set]
      · exact absurd h e
section
variable {X : Cx} {M : Mc} {W : WX} {vs : List Nat} {pos : Pos}
theorem sg_name (i : Nat) {x : Str} (hN : X.N.Nodup) (hi : X.N[i]? = some x := by rfl) (hx : Loc X.env.scope x := by first | exact Or.inl rfl | exact Or.inr rfl) (hv : i ∈ vs := by decide)
    (hf : X.fn x = true ∨ X.env.scope.names.lookup x = some .local := by first | exact .inl rfl | exact .inr rfl) : SG X M vs (.Name x pos) (gN i) := by
  refine pg_imp (pg_name hN hi hx hf) fun v σ H Q ⟨an, ρ, ts, ds, d, R, h⟩ => ?_
  unfold gN at h
  by_cases c : setOk ρ i = true
  · rw [if_pos c] at h; exact h _ _ (R.setSh c) (wipe_set hv)
  · rw [if_neg c] at h; exact h.elim
theorem sgs_nil : SGs X M vs [] gsNil := by
  refine pgs_imp pgs_nil fun us σ H Q ⟨an, ρ, ts, ds, es, l, R, h⟩ => ?_
  cases es with
  | nil =>
    have : us = [] := List.length_eq_zero_iff.mp l
    subst this
    exact ⟨rfl, h _ _ R rfl⟩
  | cons d es => exact h.elim
theorem sgs_cons {e : Expr} {es : List Expr} {g : D → En → Rs Unit} {gs : List D → En → Rs Unit} (h1 : SG X M vs e g) (h2 : SGs X M vs es gs)
    (hs : (assignEach (e :: es) X.env).map (·.2) = assign e X.env :: (assignEach es X.env).map (·.2) := by rfl) : SGs X M vs (e :: es) (gsCons g gs) := by
  refine pgs_imp (pgs_cons h1 h2 hs) fun us σ H Q ⟨an, ρ, ts, ds, es, l, R, h⟩ => ?_
  cases es with
  | nil => exact h.elim
  | cons d es =>
    match us, l with
    | v :: us, l =>
      refine ⟨v, us, rfl, an, ρ, us ++ ts, es ++ ds, d, R, ?_⟩
      have h : match (g d ρ).bind fun _ ρ1 => gs es ρ1 with
        | .ok _ ρ1 => ∀ σ1 H1, RelX M an ρ1 σ1 H1 ts ds → wipe σ1 vs = wipe σ vs → Q σ1 H1
        | _ => False := h
      cases q : g d ρ with
      | ok u ρ1 =>
        rw [q] at h
        exact fun σ1 H1 R1 w1 => ⟨an, ρ1, ts, ds, es, by simpa using l, R1, by
          have h : match gs es ρ1 with
            | .ok _ ρ1 => ∀ σ1 H1, RelX M an ρ1 σ1 H1 ts ds → wipe σ1 vs = wipe σ vs → Q σ1 H1
            | _ => False := h
          cases q2 : gs es ρ1 with
          | ok u2 ρ2 => rw [q2] at h; exact fun σ2 H2 R2 w2 => h σ2 H2 R2 (w2.trans w1)
          | err c fs es ρ => rw [q2] at h; exact h
          | stuck => rw [q2] at h; exact h⟩
      | err c fs es ρ => rw [q] at h; exact h
      | stuck => rw [q] at h; exact h
theorem sg_tup {es : List Expr} {k n : Nat} {gs : List D → En → Rs Unit} (hk : M.K = X.K) (hc : X.calm = true) (h : SGs X M vs es gs) (hn : (assignEach es X.env).length = n := by rfl) (hst : (assignEach es X.env).findIdx? (·.1) = none := by rfl) :
    SG X M vs (.Tuple es k pos) (gT gs n) := by
  refine pg_imp (pg_tup hc h hn hst) fun v σ H Q ⟨an, ρ, ts, ds, d, R, h⟩ => ?_
  cases d with
  | tup es =>
    have h : match (if es.length = n then gs es ρ else .stuck) with
        | .ok _ ρ1 => ∀ σ1 H1, RelX M an ρ1 σ1 H1 ts ds → wipe σ1 vs = wipe σ vs → Q σ1 H1
        | _ => False := h
    by_cases c : es.length = n
    · rw [if_pos c] at h
      obtain ⟨G, own, r⟩ := R
      obtain ⟨p, us, rfl, q, t⟩ := r.tmp.head
      rw [← hk]
      exact ⟨p, us, rfl, r.sub.sqT q, t.len.trans c, an, ρ, ts, ds, es, t.len, r.keep (Reps.append t r.tmp.tail), h⟩
    · rw [if_neg c] at h; exact h.elim
  | _ => exact h.elim
end
/-! ### what is walked -/
def ItOk (M : Mc) (J : It) (es : List D) (tv : List V) (td : List D) : Prop := ∀ (i : Nat) (an : List (Addr × D)) (ρ : En) (σ : St) (H : Hp) (ts : List V) (ds : List D), RelX M an ρ σ H (tv ++ ts) (td ++ ds) →
  (∀ d, es[i]? = some d → J.go i H ∧ ∀ x H', J.yld i H x H' → RelX M an ρ σ H' (x :: (tv ++ ts)) (d :: (td ++ ds))) ∧ (i = es.length → J.stop i H)
def IOk (M : Mc) (an : List (Addr × D)) (ts : List V) (ds : List D) (W : WX) (σ : St) (r : Rs (List D)) (R : It → Hp → Prop) : Prop := match r with
  | .ok es ρ => ∀ J H' tv td, tv.length = td.length → RelX M an ρ σ H' (tv ++ ts) (td ++ ds) → ItOk M J es tv td → R J H'
  | .err c fs es ρ => EErr M an ts ds W σ c fs es ρ
  | .stuck => False
def tI (M : Mc) (W : WX) (f : En → Rs (List D)) : TI := fun σ H R => ∃ an ρ ts ds, RelX M an ρ σ H ts ds ∧ IOk M an ts ds W σ (f ρ) R
abbrev SI (X : Cx) (M : Mc) (W : WX) (tg e : Expr) (f : En → Rs (List D)) : Prop := PI X tg e (tI M W f)
def iSeq (f : En → Rs D) : En → Rs (List D) := fun ρ => (f ρ).bind fun d ρ1 => match d with
  | .lst es => .ok es ρ1
  | .tup es => .ok es ρ1
  | .frz es => .ok es ρ1
  | _ => .stuck
def iRg1 (f : En → Rs D) : En → Rs (List D) := fun ρ => (f ρ).bind fun d ρ1 => match d with
  | .int j => if -(2 ^ 62) ≤ j ∧ j < 2 ^ 62 then .ok ((List.range j.toNat).map fun k => .int (k : Nat)) ρ1 else .stuck
  | _ => .stuck
def iRg2 (fa fb : En → Rs D) : En → Rs (List D) := fun ρ => (fa ρ).bind fun a ρ1 => (fb ρ1).bind fun b ρ2 => match a, b with
  | .int i, .int j => if (-(2 ^ 62) ≤ i ∧ i < 2 ^ 62) ∧ -(2 ^ 62) ≤ j ∧ j < 2 ^ 62 then .ok ((List.range (j - i).toNat).map fun k => .int (i + (k : Nat))) ρ2 else .stuck
  | _, _ => .stuck
def iZip2 (fa fb : En → Rs D) : En → Rs (List D) := fun ρ => (fa ρ).bind fun a ρ1 => (fb ρ1).bind fun b ρ2 => match a, b with
  | .lst xs, .lst ys => .ok ((xs.zip ys).map fun p => .tup [p.1, p.2]) ρ2
  | .tup xs, .tup ys => .ok ((xs.zip ys).map fun p => .tup [p.1, p.2]) ρ2
  | _, _ => .stuck
def enumD : Int → List D → List D
  | _, [] => []
  | k, d :: ds => .tup [.int k, d] :: enumD (k + 1) ds
def iEn (k0 : Int) (f : En → Rs D) : En → Rs (List D) := fun ρ => (f ρ).bind fun d ρ1 => match d with
  | .lst es => .ok (enumD k0 es) ρ1
  | .tup es => .ok (enumD k0 es) ρ1
  | _ => .stuck
section
variable {X : Cx} {M : Mc} {W : WX} {tg e a b : Expr} {f fa fb : En → Rs D} {p pos : Pos}
theorem itok_list {pa : Addr} {es : List D} (G0 : D) (hG : G0 = .lst es ∨ G0 = .frz es) : ItOk M (Itl M.K pa) es [.ref pa] [G0] := fun i an ρ σ H ts ds R => by
  obtain ⟨G, own, r⟩ := R
  have z : ∃ vs, SqL M.K H pa vs ∧ Reps M.K M.cl G es vs := by
    have q := r.tmp.head
    rcases hG with rfl | rfl
    · obtain ⟨pa', vs, e, h, t⟩ := q; cases e; exact ⟨vs, SqL.of (r.sub _ _ h), t⟩
    · obtain ⟨pa', vs, e, h, t⟩ := q; cases e; exact ⟨vs, r.sub.sqL h, t⟩
  obtain ⟨vs, h, t⟩ := z
  refine ⟨fun d hd => ?_, fun hl => ⟨vs, h, by rw [t.len, hl]; exact Nat.le_refl _⟩⟩
  obtain ⟨v, h1, h2⟩ := t.get hd
  refine ⟨⟨vs, v, h, h1⟩, fun x H' y => ?_⟩
  obtain ⟨rfl, y⟩ := y
  have := y vs h
  rw [h1] at this; cases this
  exact r.keep (Reps.cons h2 r.tmp)
theorem itok_tup {pa : Addr} {es : List D} : ItOk M (Itt M.K pa) es [.ref pa] [.tup es] := fun i an ρ σ H ts ds R => by
  obtain ⟨G, own, r⟩ := R
  obtain ⟨pa', vs, e, h, t⟩ := r.tmp.head
  cases e
  refine ⟨fun d hd => ?_, fun hl => ⟨vs, r.sub.sqT h, by rw [t.len, hl]; exact Nat.le_refl _⟩⟩
  obtain ⟨v, h1, h2⟩ := t.get hd
  refine ⟨⟨vs, v, r.sub.sqT h, h1⟩, fun x H' y => ?_⟩
  obtain ⟨rfl, y⟩ := y
  have := y vs (r.sub.sqT h)
  rw [h1] at this; cases this
  exact r.keep (Reps.cons h2 r.tmp)
theorem itok_range {lo : Int} {n : Nat} : ItOk M (Itr lo n) ((List.range n).map fun k => .int (lo + (k : Nat))) [] [] := fun i an ρ σ H ts ds R => by
  have st : i = ((List.range n).map fun k => D.int (lo + (k : Nat))).length → (Itr lo n).stop i H := fun hl => by
    have e : i = n := by simpa using hl
    show n ≤ i
    omega
  refine ⟨fun d hd => ?_, st⟩
  rw [List.getElem?_map] at hd
  obtain ⟨k, hk, rfl⟩ := Option.map_eq_some_iff.mp hd
  have hi := (List.getElem?_eq_some_iff.mp hk).1
  have hk' : k = i := by
    have := List.getElem?_eq_some_iff.mp hk
    obtain ⟨_, e⟩ := this
    simpa using e.symm
  subst hk'
  refine ⟨by show k < n; simpa using hi, fun x H' y => ?_⟩
  obtain ⟨rfl, rfl⟩ := y
  exact R.push fun _ => rfl
/-- a list or a tuple, by its value -/
def iSeqV (K : PySem.W.Frag) (tl : TE) : TI := fun σ H R => tl σ H fun x H1 => ∃ a, x = .ref a ∧ (((∃ xs, SqL K H1 a xs) ∧ R (Itl K a) H1) ∨ ((∃ xs, SqT K H1 a xs) ∧ R (Itt K a) H1))
theorem pi_seqV {l : Expr} {tl : TE} (hl : PE X l tl) : PI X tg l (iSeqV X.K tl) := by
  refine ⟨fun pins s σ H R I h => ?_⟩
  refine thn (hl.run pins s σ H _ I h) fun v s1 ⟨x, H1, I1, r1, q1⟩ => ?_
  obtain ⟨a, e, q1⟩ := q1
  subst e
  cases r1
  rcases q1 with ⟨⟨xs, hq⟩, q⟩ | ⟨⟨xs, hq⟩, q⟩
  · obtain ⟨its, rv, p, hz⟩ := I1.list hq
    refine wpAny_pyIter_list p.isList ?_
    refine ⟨s1.heap.objs.size, [s1.heap.objs.size], _, _, H1, rfl, I1.kept (t' := s1.toks) fun b o e => Heap.get?_push_of_some _ e, turn_list a _, ⟨_, Heap.get?_push_size _ rfl, rfl, rfl⟩, fun b hb => ?_, q⟩
    have e : b = s1.heap.objs.size := by simpa using hb
    subst e
    exact I1.fpOk (Nat.le_refl _) (I1.hok.fresh (Nat.le_refl _))
  · obtain ⟨its, rv, p, hz⟩ := I1.tuple hq
    refine wpAny_pyIter_tuple (show s1.heap.IsTuple a its.toArray from p) ?_
    refine ⟨s1.heap.objs.size, [s1.heap.objs.size], _, _, H1, rfl, I1.kept (t' := s1.toks) fun b o e => Heap.get?_push_of_some _ e, turn_tuple a _, ⟨_, Heap.get?_push_size _ rfl, rfl, rfl⟩, fun b hb => ?_, q⟩
    have e : b = s1.heap.objs.size := by simpa using hb
    subst e
    exact I1.fpOk (Nat.le_refl _) (I1.hok.fresh (Nat.le_refl _))
theorem EOk.toI {an : List (Addr × D)} {ts : List V} {ds : List D} {σ : St} {r : Rs D} {k : D → En → Rs (List D)} {Rr : It → Hp → Prop} {Q : VK} (h : IOk M an ts ds W σ (r.bind k) Rr) (hk : ∀ d ρ1 v H1, RelX M an ρ1 σ H1 (v :: ts) (d :: ds) → IOk M an ts ds W σ (k d ρ1) Rr → Q v H1) : EOk M an ts ds W σ r Q :=
  EOk.bind (P := fun z => IOk M an ts ds W σ z Rr) h (fun _ _ _ _ z => z) (fun z => z) hk
theorem si_seq (hk : M.K = X.K) (h : SE X M W e f) : SI X M W tg e (iSeq f) := by
  refine pi_imp (pi_seqV h) fun σ H R ⟨an, ρ, ts, ds, Rl, h⟩ => ?_
  refine ⟨an, ρ, ts, ds, Rl, EOk.toI h fun d ρ1 v H1 R1 h1 => ?_⟩
  rw [← hk]
  have q := R1.repH
  cases d with
  | lst es =>
    obtain ⟨pa, vs, rfl, h2, t⟩ := q
    exact ⟨pa, rfl, .inl ⟨⟨vs, SqL.of h2⟩, h1 _ _ [.ref pa] [.lst es] rfl R1 (itok_list _ (.inl rfl))⟩⟩
  | frz es =>
    obtain ⟨pa, vs, rfl, h2, t⟩ := q
    exact ⟨pa, rfl, .inl ⟨⟨vs, h2⟩, h1 _ _ [.ref pa] [.frz es] rfl R1 (itok_list _ (.inr rfl))⟩⟩
  | tup es =>
    obtain ⟨pa, vs, rfl, h2, t⟩ := q
    exact ⟨pa, rfl, .inr ⟨⟨vs, h2⟩, h1 _ _ [.ref pa] [.tup es] rfl R1 itok_tup⟩⟩
  | _ => exact h1.elim
theorem si_range1 (hm : X.mg "range" = none) (ha : SE X M W a fa) (hg : Gl X "range" := by rfl) (hs : starEach [a] X.env = [(false, eval a X.env)] := by rfl) : SI X M W tg (.Call (.Name "range" p) [a] [] pos) (iRg1 fa) := by
  refine pi_imp (pi_range1 hg hm (pa_cons ha pa_nil hs) hs) fun σ H R ⟨an, ρ, ts, ds, Rl, h⟩ => ?_
  refine ⟨an, ρ, ts, ds, Rl, EOk.toI h fun d ρ1 v H1 R1 h1 => ?_⟩
  cases d with
  | int j =>
    dsimp only at h1
    by_cases c : -(2 ^ 62) ≤ j ∧ j < 2 ^ 62
    · rw [if_pos c] at h1
      cases (show v = _ from R1.repH)
      refine ⟨j, rfl, c.1, c.2, h1 _ _ [] [] rfl R1.pop ?_⟩
      have := itok_range (M := M) (lo := 0) (n := j.toNat)
      simpa using this
    · rw [if_neg c] at h1; exact h1.elim
  | _ => exact h1.elim
theorem si_range2 (hm : X.mg "range" = none) (ha : SE X M W a fa) (hb : SE X M W b fb) (hg : Gl X "range" := by rfl) (hs : starEach [a, b] X.env = [(false, eval a X.env), (false, eval b X.env)] := by rfl) (hs2 : starEach [b] X.env = [(false, eval b X.env)] := by rfl) :
    SI X M W tg (.Call (.Name "range" p) [a, b] [] pos) (iRg2 fa fb) := by
  refine pi_imp (pi_range2 hg hm (pa_cons ha (pa_cons hb pa_nil hs2) (by rw [hs, hs2])) hs hs2) fun σ H R ⟨an, ρ, ts, ds, Rl, h⟩ => ?_
  refine ⟨an, ρ, ts, ds, Rl, EOk.toI h fun d ρ1 v H1 R1 h1 => ?_⟩
  refine ⟨an, ρ1, v :: ts, d :: ds, R1, EOk.bind (P := fun z => IOk M an ts ds W σ z R) h1 (fun _ _ _ _ z => z.weak1) (fun z => z) fun d2 ρ2 v2 H2 R2 h2 => ?_⟩
  cases d with
  | int i =>
    cases d2 with
    | int j =>
      dsimp only at h2
      by_cases c : (-(2 ^ 62) ≤ i ∧ i < 2 ^ 62) ∧ -(2 ^ 62) ≤ j ∧ j < 2 ^ 62
      · rw [if_pos c] at h2
        have q := R2.repsH
        cases (show v2 = _ from q.head); cases (show v = _ from q.tail.head)
        exact ⟨i, j, rfl, ⟨c.1.1, c.1.2, c.2.1, c.2.2⟩, h2 _ _ [] [] rfl R2.pop2 itok_range⟩
      · rw [if_neg c] at h2; exact h2.elim
    | _ => exact h2.elim
  | _ => exact h2.elim
theorem itok_zipL {pa pb : Addr} {xs ys : List D} : ItOk M (Itz M.K pa pb) ((xs.zip ys).map fun p => .tup [p.1, p.2]) [.ref pa, .ref pb] [.lst xs, .lst ys] := fun i an ρ σ H ts ds R => by
  obtain ⟨G, own, r⟩ := R
  obtain ⟨_, vs, e1, h1, t1⟩ := r.tmp.head
  cases e1
  obtain ⟨_, us, e2, h2, t2⟩ := r.tmp.tail.head
  cases e2
  refine ⟨fun d hd => ?_, fun hl => ⟨vs, us, SqL.of (r.sub _ _ h1), SqL.of (r.sub _ _ h2), ?_⟩⟩
  · rw [List.getElem?_map] at hd
    obtain ⟨⟨x, y⟩, hp, rfl⟩ := Option.map_eq_some_iff.mp hd
    have hxy : xs[i]? = some x ∧ ys[i]? = some y := by simpa [List.getElem?_zip_eq_some] using hp
    obtain ⟨v, g1, r1⟩ := t1.get hxy.1
    obtain ⟨u, g2, r2⟩ := t2.get hxy.2
    refine ⟨⟨vs, us, v, u, SqL.of (r.sub _ _ h1), SqL.of (r.sub _ _ h2), g1, g2⟩, fun z H' yy => ?_⟩
    obtain ⟨T, v', u', rfl, hT, rfl, y1, y2⟩ := yy
    have a1 := y1 vs (SqL.of (r.sub _ _ h1))
    have a2 := y2 us (SqL.of (r.sub _ _ h2))
    rw [g1] at a1; cases a1
    rw [g2] at a2; cases a2
    exact r.new hT fun s => Reps.cons ⟨T, _, rfl, SqT.of upd_same, Reps.cons (Rep.mono s _ _ r1) (Reps.cons (Rep.mono s _ _ r2) Reps.nil)⟩ (Reps.mono s _ _ r.tmp)
  · rw [t1.len, t2.len]
    have : i = min xs.length ys.length := by simpa using hl
    omega
theorem itok_zipT {pa pb : Addr} {xs ys : List D} : ItOk M (RZ.ItzT M.K pa pb) ((xs.zip ys).map fun p => .tup [p.1, p.2]) [.ref pa, .ref pb] [.tup xs, .tup ys] := fun i an ρ σ H ts ds R => by
  obtain ⟨G, own, r⟩ := R
  obtain ⟨_, vs, e1, h1, t1⟩ := r.tmp.head
  cases e1
  obtain ⟨_, us, e2, h2, t2⟩ := r.tmp.tail.head
  cases e2
  refine ⟨fun d hd => ?_, fun hl => ⟨vs, us, r.sub.sqT h1, r.sub.sqT h2, ?_⟩⟩
  · rw [List.getElem?_map] at hd
    obtain ⟨⟨x, y⟩, hp, rfl⟩ := Option.map_eq_some_iff.mp hd
    have hxy : xs[i]? = some x ∧ ys[i]? = some y := by simpa [List.getElem?_zip_eq_some] using hp
    obtain ⟨v, g1, r1⟩ := t1.get hxy.1
    obtain ⟨u, g2, r2⟩ := t2.get hxy.2
    refine ⟨⟨vs, us, v, u, r.sub.sqT h1, r.sub.sqT h2, g1, g2⟩, fun z H' yy => ?_⟩
    obtain ⟨T, v', u', rfl, hT, rfl, y1, y2⟩ := yy
    have a1 := y1 vs (r.sub.sqT h1)
    have a2 := y2 us (r.sub.sqT h2)
    rw [g1] at a1; cases a1
    rw [g2] at a2; cases a2
    exact r.new hT fun s => Reps.cons ⟨T, _, rfl, SqT.of upd_same, Reps.cons (Rep.mono s _ _ r1) (Reps.cons (Rep.mono s _ _ r2) Reps.nil)⟩ (Reps.mono s _ _ r.tmp)
  · rw [t1.len, t2.len]
    have : i = min xs.length ys.length := by simpa using hl
    omega
theorem si_zip {elts : List Expr} {kk : Nat} {tpos : Pos} (hk : M.K = X.K) (hm : X.mg "zip" = none) (ha : SE X M W a fa) (hb : SE X M W b fb) (hg : Gl X "zip" := by rfl)
    (hs : starEach [a, b] X.env = (false, eval a X.env) :: starEach [b] X.env := by rfl) (hs2 : starEach [b] X.env = (false, eval b X.env) :: starEach [] X.env := by rfl) (hpl : (backTo pos (starEach [b] X.env)).any (·.1) = false := by rfl) :
    SI X M W (.Tuple elts kk tpos) (.Call (.Name "zip" p) [a, b] [] pos) (iZip2 fa fb) := by
  refine pi_imp (RZ.pi_zipA hg hm (pa_cons ha (pa_cons hb pa_nil hs2) hs) hs hpl) fun σ H R ⟨an, ρ, ts, ds, Rl, h⟩ => ?_
  refine ⟨an, ρ, ts, ds, Rl, EOk.toI h fun d ρ1 v H1 R1 h1 => ?_⟩
  refine ⟨an, ρ1, v :: ts, d :: ds, R1, EOk.bind (P := fun z => IOk M an ts ds W σ z R) h1 (fun _ _ _ _ z => z.weak1) (fun z => z) fun d2 ρ2 v2 H2 R2 h2 => ?_⟩
  rw [← hk]
  have q := R2.repsH
  have sw : RelX M an ρ2 σ H2 (v :: v2 :: ts) (d :: d2 :: ds) := R2.temps fun _ _ q => Reps.cons q.tail.head (Reps.cons q.head q.tail.tail)
  cases d with
  | lst xs =>
    cases d2 with
    | lst ys =>
      obtain ⟨pb, us, rfl, h4, t2⟩ := q.head
      obtain ⟨pa, vs, rfl, h3, t1⟩ := q.tail.head
      exact ⟨pa, pb, vs, us, rfl, .inl ⟨SqL.of h3, SqL.of h4, h2 _ _ [.ref pa, .ref pb] [.lst xs, .lst ys] rfl sw itok_zipL⟩⟩
    | _ => exact h2.elim
  | tup xs =>
    cases d2 with
    | tup ys =>
      obtain ⟨pb, us, rfl, h4, t2⟩ := q.head
      obtain ⟨pa, vs, rfl, h3, t1⟩ := q.tail.head
      exact ⟨pa, pb, vs, us, rfl, .inr ⟨h3, h4, h2 _ _ [.ref pa, .ref pb] [.tup xs, .tup ys] rfl sw itok_zipT⟩⟩
    | _ => exact h2.elim
  | _ => exact h2.elim
end
/-! ### enumerate(xs, start=k), xs a list or a tuple -/
/-- the list or tuple at a as it stands at each turn -/
def Iten (K : PySem.W.Frag) (S : PySem.W.Frag → Hp → Addr → List V → Prop) (k0 : Int) (a : Addr) : It :=
  ⟨fun i H => ∃ (xs : List V) (x : V), S K H a xs ∧ xs[i]? = some x, fun i H v H' => ∃ T x, v = .ref T ∧ H T = none ∧ H' = upd H T (.tup [.int (k0 + (i : Nat)), x]) ∧ ∀ xs, S K H a xs → xs[i]? = some x, fun i H => ∃ xs : List V, S K H a xs ∧ xs.length = i⟩
/-- what a kind of sequence gives: L false for lists, true for tuples -/
def seqIt (t : Bool) (h : Heap) (it a : Addr) (i : Nat) : Prop := if t = true then h.IsTupleIter it a i else h.IsListIter it a i
def seqS (t : Bool) : PySem.W.Frag → Hp → Addr → List V → Prop := if t = true then SqT else SqL
def seqAtA (t : Bool) (h : Heap) (a : Addr) (items : Array Value) : Prop := if t = true then h.IsTuple a items else h.IsList a items
theorem seq_draws {t : Bool} {prog : Program} {w : World} {A : Around} (hh : A.handled = none) (it a : Addr) (hne : a ≠ it) (items : Array Value) : Draws prog w A it [it, a] items.size (fun i v => items[i]? = some v) (fun i h => seqIt t h it a i ∧ seqAtA t h a items) := by
  cases t with
  | true => exact Draws.tuple hh it a hne items
  | false => exact Draws.list hh it a hne items
theorem Inv.seqv {X : Cx} {pins : List (Addr × Obj)} {σ : St} {H : Hp} {s : Shared} {a : Addr} {xs : List V} {t : Bool} (I : Inv X pins σ H s) (h : seqS t X.K H a xs) : ∃ its : List Value, Vals xs its ∧ seqAtA t s.heap a its.toArray := by
  cases t with
  | true => obtain ⟨its, r, p, _⟩ := Inv.tuple I h; exact ⟨its, r, p⟩
  | false => obtain ⟨its, r, p, _⟩ := Inv.list I h; exact ⟨its, r, p.isList⟩
theorem Inv.seqv_inj {X : Cx} {pins : List (Addr × Obj)} {σ : St} {H : Hp} {s : Shared} {a : Addr} {xs ys : List V} {t : Bool} (I : Inv X pins σ H s) (h : seqS t X.K H a xs) (h' : seqS t X.K H a ys) : xs = ys := by
  cases t with
  | true => exact Inv.tuple_inj I h h'
  | false => exact Inv.list_inj I h h'
theorem seqIt_at {t : Bool} {h h' : Heap} {it a : Addr} {i : Nat} (s : seqIt t h it a i) (k : ∀ o, h.get? it = some o → h'.get? it = some o) : seqIt t h' it a i := by
  cases t with
  | true => exact Heap.IsTupleIter.at s k
  | false => exact Heap.IsListIter.at s k
theorem seqIt_obj {t : Bool} {h : Heap} {it a : Addr} {i : Nat} (s : seqIt t h it a i) : ∃ o, h.get? it = some o ∧ ∀ v, o.data ≠ .cell v := by
  cases t with
  | true => obtain ⟨o, ho, hc, hd⟩ := s; exact ⟨o, ho, fun v q => by rw [hd] at q; cases q⟩
  | false => obtain ⟨o, ho, hc, hd⟩ := s; exact ⟨o, ho, fun v q => by rw [hd] at q; cases q⟩
theorem turn_en {P : Program} {w : World} {K : PySem.W.Frag} {elts : List Expr} {kk : Nat} {tpos : Pos} (t : Bool) (k0 : Int) (a e it : Addr) (hai : a ≠ it) (hae : a ≠ e) :
    Turn P w K (.Tuple elts kk tpos) (Iten K (seqS t) k0 a) [e, it] e (fun i h => (∃ old, IsEnum h e it (k0 + (i : Nat)) old) ∧ seqIt t h it a i ∧ e ≠ it) where
  mem := by simp
  obj := fun i h st b hb => by
    obtain ⟨⟨old, he⟩, hi, _⟩ := st
    have e' : b = e ∨ b = it := by simpa using hb
    rcases e' with z | z
    · rw [z]; exact ⟨_, he, fun v q => nomatch q⟩
    · rw [z]; exact seqIt_obj hi
  keep := fun i h h' st k => let ⟨⟨old, he⟩, hi, hne⟩ := st; ⟨⟨old, k e (by simp) _ he⟩, seqIt_at hi fun o q => k it (by simp) o q, hne⟩
  item := by
    intro X hP hw hK hc i pins s σ H E I hf st hg
    subst hP hw hK
    obtain ⟨⟨old, he⟩, hit, hne⟩ := st
    obtain ⟨xs, x, hq, hx⟩ := hg
    obtain ⟨its, rv, p⟩ := Inv.seqv I hq
    have hl := rv.length
    obtain ⟨u, hu, ru⟩ := rv.get hx
    have hil : i < its.toArray.size := by
      have := (List.getElem?_eq_some_iff.mp hu).1
      simpa using this
    have hel : e < s.heap.objs.size := Heap.lt_size he
    have hitl : it < s.heap.objs.size := by obtain ⟨o, q, _⟩ := seqIt_obj hit; exact Heap.lt_size q
    refine wpAny_pyNext_enum_itemC (seq_draws (t := t) (A := X.A.in1) (by show X.A.handled = none; exact I.ok.hd hc) it a hai its.toArray) he ⟨hit, p⟩ hil hne (by simp; exact ⟨hne, fun z => hae z.symm⟩) fun x' h' tk hP ho hst hT hsz hk => ?_
    have ex : x' = u := by
      have h1 : its.toArray[i]? = some x' := hP
      have h2 : its.toArray[i]? = some u := by simpa using hu
      rw [h2] at h1; exact (Option.some.inj h1).symm
    subst ex
    refine ⟨_, rfl, wpAny_letOwnedTupleGo_enum (s := { s with heap := h', toks := tk + 1 }) ho fun h'' he' sb => ?_⟩
    have hT2 : h''.get? s.heap.objs.size = some { cls := .type "tuple", data := .seq #[.int (k0 + (i : Nat)) tk, x'] } := (sb.2 _ (Nat.ne_of_gt hel)).trans hT
    have new : ObjOk X.prog X.w (upd H s.heap.objs.size (.tup [.int (k0 + (i : Nat)), x])) h'' s.heap.objs.size (.tup [.int (k0 + (i : Nat)), x]) :=
      ⟨by show 2 ≤ sizeLine; decide, [.int (k0 + (i : Nat)) tk, x'], .cons ⟨_, rfl⟩ (.cons ru .nil), ⟨_, hT2, rfl, _, rfl⟩⟩
    have I1 : Inv X pins σ (upd H s.heap.objs.size (.tup [.int (k0 + (i : Nat)), x])) { s with heap := h'', toks := tk + 1 } :=
      I.turnedNew (ch := [e, it]) (fun b ob hb q => (sb.2 b (fun z => hb (by simp [z]))).trans (hk b ob (fun z => hb (by simp [z])) (fun z => hb (by simp [z])) q)) hf (Nat.le_refl _) new
    refine ⟨.ref s.heap.objs.size, _, I1, rfl, ⟨_, x, rfl, I.hok.fresh (Nat.le_refl _), rfl, fun ys hy => by rw [Inv.seqv_inj I hy hq]; exact hx⟩, ⟨⟨x', ?_⟩, ?_, hne⟩, fun b hb => ?_⟩
    · have e1 : k0 + ((i + 1 : Nat) : Int) = k0 + (i : Int) + 1 := by omega
      rw [e1]; exact he'
    · exact seqIt_at hst.1 fun o q => (sb.2 it (Ne.symm hne)).trans q
    · have hb' : b < s.heap.objs.size := by
        have e' : b = e ∨ b = it := by simpa using hb
        rcases e' with z | z
        · rw [z]; exact hel
        · rw [z]; exact hitl
      rw [upd_ne (Nat.ne_of_lt hb')]
      exact (hf b hb).1
  done := by
    intro X hP hw hK hc i pins s σ H E I hf st hg
    subst hP hw hK
    obtain ⟨⟨old, he⟩, hit, hne⟩ := st
    obtain ⟨xs, hq, hx⟩ := hg
    obtain ⟨its, rv, p⟩ := Inv.seqv I hq
    have hl := rv.length
    obtain ⟨f0, f1, f2, f3, f4, f5⟩ := hf it (by simp)
    have hi : i = its.toArray.size := by simp; omega
    exact wpAny_pyNext_enum_endD (seq_draws (t := t) (A := X.A.in1) (by show X.A.handled = none; exact I.ok.hd hc) it a hai its.toArray) he ⟨hi ▸ hit, p⟩ fun h' eb => ⟨rfl, I.turned (t' := s.toks) (fun b o hb q => eb b o hb q) f0 f1 f3 f4 f5⟩
  self := fun A i s Q E st h => let ⟨⟨_, he⟩, _⟩ := st; wpAny_pyIter_enum he h
theorem enumD_len : ∀ (ds : List D) (k : Int), (enumD k ds).length = ds.length
  | [], _ => rfl
  | _ :: ds, k => by simp [enumD, enumD_len ds]
theorem enumD_get : ∀ (ds : List D) (k : Int) (i : Nat) (d : D), (enumD k ds)[i]? = some d → ∃ x, ds[i]? = some x ∧ d = .tup [.int (k + (i : Nat)), x]
  | [], _, _, _, h => by cases h
  | x :: ds, k, 0, d, h => by
    have : D.tup [.int k, x] = d := by simpa [enumD] using h
    exact ⟨x, rfl, by rw [← this]; simp⟩
  | x :: ds, k, i + 1, d, h => by
    obtain ⟨y, h1, h2⟩ := enumD_get ds (k + 1) i d (by simpa [enumD] using h)
    refine ⟨y, by simpa using h1, ?_⟩
    rw [h2]
    have : k + 1 + (i : Int) = k + ((i + 1 : Nat) : Int) := by omega
    rw [this]
theorem itok_en {M : Mc} {t : Bool} {pa : Addr} {k0 : Int} {es : List D} : ItOk M (Iten M.K (seqS t) k0 pa) (enumD k0 es) [.ref pa] [if t = true then .tup es else .lst es] := fun i an ρ σ H ts ds R => by
  obtain ⟨G, own, r⟩ := R
  have z : ∃ vs, seqS t M.K H pa vs ∧ Reps M.K M.cl G es vs := by
    have q := r.tmp.head
    cases t with
    | true => obtain ⟨_, vs, e, h, q⟩ := q; cases e; exact ⟨vs, r.sub.sqT h, q⟩
    | false => obtain ⟨_, vs, e, h, q⟩ := q; cases e; exact ⟨vs, SqL.of (r.sub _ _ h), q⟩
  obtain ⟨vs, h, q⟩ := z
  refine ⟨fun d hd => ?_, fun hl => ⟨vs, h, by rw [q.len, hl, enumD_len]⟩⟩
  obtain ⟨x, h1, rfl⟩ := enumD_get _ _ _ _ hd
  obtain ⟨v, g1, g2⟩ := q.get h1
  refine ⟨⟨vs, v, h, g1⟩, fun z H' y => ?_⟩
  obtain ⟨T, x', rfl, hT, rfl, y1⟩ := y
  have a1 := y1 vs h
  rw [g1] at a1; cases a1
  exact r.new hT fun s => Reps.cons ⟨T, _, rfl, SqT.of upd_same, Reps.cons rfl (Reps.cons (Rep.mono s _ _ g2) Reps.nil)⟩ (Reps.mono s _ _ r.tmp)
/-- a call of a built-in class with keywords -/
theorem callWith_typeKw {M : Model} {A : Around} {E : Value → Shared → Prop} {s : Shared} {pos : Pos} {T : String} {first : List Value} {args : List (Bool × Sem Value)} {keywords : List (Option Str × Sem Value)} {Q : Value → Shared → Prop}
    (hplain : args.any (·.1) = false) (hkw : keywords.any (·.1.isNone) = false)
    (h : wpAny M A (evalArgs (.type T) true args keywords) (fun a s₁ => wpAny M A (call (.type T) (first ++ a.pos) a.kw) Q E s₁) E s) :
    wpAny M A (callWith pos (.type T) first args keywords) Q E s := by
  unfold callWith
  refine wpAny_bind (wpAny_holding (wpAny_mono h (fun a s₁ h₁ => wpAny_bind (wpAny_standAt ?_)) fun _ _ x => x))
  simp only [hplain, hkw, Bool.or_false]
  refine wpAny_bind (wpAny_pure ?_)
  exact wpAny_bind (wpAny_mono h₁ (fun r s₂ hr => wpAny_bind (wpAny_holding (wpAny_point (wpAny_pure hr)))) fun _ _ x => x)
/-- what begins at an enumerate's making -/
def iEnV (K : PySem.W.Frag) (k0 : Int) (ta : TA) : TI := fun σ H R => ta σ H fun vs H1 => ∃ (t : Bool) (a : Addr) (xs : List V), vs = [.ref a] ∧ seqS t K H1 a xs ∧ R (Iten K (seqS t) k0 a) H1
theorem seq_lt {t : Bool} {h : Heap} {a : Addr} {items : Array Value} (s : seqAtA t h a items) : a < h.objs.size := by
  cases t with
  | true => exact IsTup.lt s
  | false => obtain ⟨o, e, _⟩ := s; exact Heap.lt_size e
theorem en_end {X : Cx} {pins : List (Addr × Obj)} {σ : St} {H : Hp} {s : Shared} {elts : List Expr} {kk : Nat} {tpos : Pos} {t : Bool} {k0 : Int} {a : Addr} {xs : List V} {R : It → Hp → Prop} {o : Obj} (I : Inv X pins σ H s) (hq : seqS t X.K H a xs) (hR : R (Iten X.K (seqS t) k0 a) H) {items : Array Value} (hat : seqAtA t s.heap a items)
    {h' : Heap} (he : IsEnum h' (s.heap.objs.size + 1) s.heap.objs.size k0 .none) (ho : h'.get? s.heap.objs.size = some o) (hso : seqIt t h' s.heap.objs.size a 0) (hsz : h'.objs.size = s.heap.objs.size + 2) (hk : ∀ b o, s.heap.get? b = some o → h'.get? b = some o) :
    wpAny (model X.prog X.w) X.A (pyIter (.ref (s.heap.objs.size + 1))) (PIE X pins σ (.Tuple elts kk tpos) R) X.xe { s with heap := h' } := by
  refine wpAny_pyIter_enum he ?_
  have I2 : Inv X pins σ H { s with heap := h' } := I.kept (t' := s.toks) hk
  have hlt := seq_lt hat
  have n1 : a ≠ s.heap.objs.size := Nat.ne_of_lt hlt
  have n2 : a ≠ s.heap.objs.size + 1 := Nat.ne_of_lt (Nat.lt_succ_of_lt hlt)
  refine ⟨s.heap.objs.size + 1, [s.heap.objs.size + 1, s.heap.objs.size], _, _, H, rfl, I2, turn_en t k0 a (s.heap.objs.size + 1) s.heap.objs.size n1 n2, ⟨⟨.none, by simpa using he⟩, hso, Nat.succ_ne_self _⟩, fun b hb => ?_, hR⟩
  have e' : b = s.heap.objs.size + 1 ∨ b = s.heap.objs.size := by simpa using hb
  have hle : s.heap.objs.size ≤ b := by
    rcases e' with z | z
    · rw [z]; exact Nat.le_add_right _ _
    · rw [z]; exact Nat.le_refl _
  exact I.fpOk hle (I.hok.fresh hle)
section
variable {X : Cx} {M : Mc} {W : WX} {e : Expr} {f : En → Rs D} {p pos : Pos}
theorem pi_enStart {elts : List Expr} {kk : Nat} {tpos : Pos} {te : TE} {k0 : Int} {cp kp : Pos} {cj : Nat} (hb0 : -(2 ^ 63) ≤ k0) (hb1 : k0 < 2 ^ 63) (hg : Gl X "enumerate") (hm : X.mg "enumerate" = none) (ha : PE X e te)
    (he : starEach [e] X.env = (false, eval e X.env) :: starEach [] X.env) (hpl : (backTo pos (starEach (e :: []) X.env)).any (·.1) = false)
    (hall : (backToKw pos (keywordEach [⟨some "start", .Constant (.int k0) cj cp, kp⟩] X.env)).all (·.1.isSome) = true) (hnone : (backToKw pos (keywordEach [⟨some "start", .Constant (.int k0) cj cp, kp⟩] X.env)).any (·.1.isNone) = false)
    (hks : (backToKw pos (keywordEach [⟨some "start", .Constant (.int k0) cj cp, kp⟩] X.env)).filterMap (·.1) = [("start" : Str)]) :
    PI X (.Tuple elts kk tpos) (.Call (.Name "enumerate" p) [e] [⟨some "start", .Constant (.int k0) cj cp, kp⟩] pos) (iEnV X.K k0 (tCons te tNil)) := by
  refine ⟨fun pins s σ H R I h => ?_⟩
  refine wpAny_Call_Name_kw (ld_blt I hg hm boot_enumerate ?_)
  refine callWith_typeKw hpl hnone ?_
  refine evalArgs_kw2 hall (thn ((pa_cons ha pa_nil he).run pos pins s σ H (fun vs H1 => ∃ (t : Bool) (a : Addr) (xs : List V), vs = [.ref a] ∧ seqS t X.K H1 a xs ∧ R (Iten X.K (seqS t) k0 a) H1) I ?_) fun us s1 ⟨vs, H1, I1, r1, q1⟩ => thn ((pk_cons pe_int pk_nil).run pos pins s1 σ H1 (fun zs H2 => zs = [.int k0] ∧ H2 = H1) I1 ⟨rfl, rfl⟩) fun ws s2 ⟨zs, H2, I2, r2, q2, q3⟩ => ?_) he
  · exact h
  · subst q2; subst q3
    obtain ⟨t, a, xs, rfl, hq, hR⟩ := q1
    cases r1 with
    | cons r rr =>
      cases rr; cases r
      cases r2 with
      | cons r rr =>
        cases rr
        obtain ⟨tk, rfl⟩ := r
        rw [hks]
        obtain ⟨its, rv, hat⟩ := Inv.seqv I2 hq
        cases t with
        | true => exact enum_begins_start (begins_tuple a its.toArray) hat hb0 hb1 fun h' he' ho hsz hk => en_end I2 hq hR (t := true) hat he' ho ⟨_, ho, rfl, rfl⟩ hsz hk
        | false => exact enum_begins_start (begins_list a its.toArray) hat hb0 hb1 fun h' he' ho hsz hk => en_end I2 hq hR (t := false) hat he' ho ⟨_, ho, rfl, rfl⟩ hsz hk
theorem si_enStart {elts : List Expr} {kk : Nat} {tpos : Pos} {k0 : Int} {cp kp : Pos} {cj : Nat} (hk : M.K = X.K) (hm : X.mg "enumerate" = none) (ha : SE X M W e f) (hb0 : -(2 ^ 63) ≤ k0 := by decide) (hb1 : k0 < 2 ^ 63 := by decide) (hg : Gl X "enumerate" := by rfl)
    (he : starEach [e] X.env = (false, eval e X.env) :: starEach [] X.env := by rfl) (hpl : (backTo pos (starEach (e :: []) X.env)).any (·.1) = false := by rfl)
    (hall : (backToKw pos (keywordEach [⟨some "start", .Constant (.int k0) cj cp, kp⟩] X.env)).all (·.1.isSome) = true := by rfl) (hnone : (backToKw pos (keywordEach [⟨some "start", .Constant (.int k0) cj cp, kp⟩] X.env)).any (·.1.isNone) = false := by rfl)
    (hks : (backToKw pos (keywordEach [⟨some "start", .Constant (.int k0) cj cp, kp⟩] X.env)).filterMap (·.1) = [("start" : Str)] := by rfl) :
    SI X M W (.Tuple elts kk tpos) (.Call (.Name "enumerate" p) [e] [⟨some "start", .Constant (.int k0) cj cp, kp⟩] pos) (iEn k0 f) := by
  refine pi_imp (pi_enStart hb0 hb1 hg hm ha he hpl hall hnone hks) fun σ H R ⟨an, ρ, ts, ds, Rl, h⟩ => ?_
  refine ⟨an, ρ, ts, ds, Rl, EOk.toI h fun d ρ1 v H1 R1 h1 => ?_⟩
  rw [← hk]
  have q := R1.repH
  cases d with
  | lst es =>
    obtain ⟨pa, vs, rfl, h2, t⟩ := q
    exact ⟨false, pa, vs, rfl, SqL.of h2, h1 _ _ [.ref pa] [.lst es] rfl R1 (itok_en (t := false))⟩
  | tup es =>
    obtain ⟨pa, vs, rfl, h2, t⟩ := q
    exact ⟨true, pa, vs, rfl, h2, h1 _ _ [.ref pa] [.tup es] rfl R1 (itok_en (t := true))⟩
  | _ => exact h1.elim
end
end Dl
end
section
set_option maxHeartbeats 4000000
/-! DlH: for, while, list comprehensions. -/
namespace Dl
open PySem PySem.Spec PyProof.Rows L2
/-! ### for -/
def forD (g : D → En → Rs Unit) (fb : En → Rs Fl) : List D → En → Rs Fl
  | [], ρ => .ok .nx ρ
  | d :: es, ρ => match g d ρ with
    | .ok _ ρ1 => (fb ρ1).bind fun fl ρ2 => match fl with
      | .nx => forD g fb es ρ2
      | .cont => forD g fb es ρ2
      | .brk => .ok .nx ρ2
      | .ret d => .ok (.ret d) ρ2
      | .retL d => .ok (.retL d) ρ2
    | _ => .stuck
def fFor (fi : En → Rs (List D)) (g : D → En → Rs Unit) (fb : En → Rs Fl) : En → Rs Fl := fun ρ => (fi ρ).bind fun es ρ1 => forD g fb es ρ1
section
variable {X : Cx} {M : Mc} {W : WX} {tg iter : Expr} {body : List Stmt} {fi : En → Rs (List D)} {g : D → En → Rs Unit} {fb : En → Rs Fl} {vs : List Nat} {pos : Pos}
theorem SOk.drops {an : List (Addr × D)} {ts tv : List V} {ds td : List D} {r : Rs Fl} {Dn : Ends} (l : tv.length = td.length) (h : SOk M an ts ds W r Dn) : SOk M an (tv ++ ts) (td ++ ds) W r Dn := by
  cases r with
  | ok a ρ =>
    cases a with
    | nx => exact fun σ H R => h σ H (R.drops l)
    | brk => exact fun σ H R => h σ H (R.drops l)
    | cont => exact fun σ H R => h σ H (R.drops l)
    | ret d => exact fun v σ H R => h v σ H (R.temps fun _ _ q => Reps.cons q.head (Reps.split l.symm q.tail).2)
    | retL d => exact fun v σ H R => h v σ H (R.drops l)
  | err c fs es ρ => exact fun σ => (h σ).weak l
  | stuck => exact h
theorem ss_for (hp : PassesOwn (model X.prog X.w) X.A X.env X.xe) (hc : X.calm = true) (hi : SI X M W tg iter fi) (hg : SG X M vs tg g) (hb : SSs X M W body fb) (hs : ∀ x, foldedSetIterable iter X.env x = pure x := by intro _; rfl) : SS X M W (.For tg iter body [] pos) (fFor fi g fb) := by
  refine ps_imp (ps_for hp hc hi hg hb hs) fun Dn σ H ⟨an, ρ, ts, ds, R, h⟩ => ?_
  refine ⟨an, ρ, ts, ds, R, ?_⟩
  unfold fFor at h
  cases q : fi ρ with
  | stuck => rw [q] at h; exact h
  | err c fs es ρ1 => rw [q] at h; exact h σ
  | ok es ρ1 =>
    rw [q] at h
    intro J H1 tv td l R1 It1
    refine ⟨fun i m σ H => m = es.length - i ∧ i ≤ es.length ∧ ∃ ρ, RelX M an ρ σ H (tv ++ ts) (td ++ ds) ∧ SOk M an ts ds W (forD g fb (es.drop i) ρ) Dn, ⟨es.length, by simp, Nat.zero_le _, ρ1, R1, h⟩, ?_⟩
    rintro i m σ H ⟨rfl, hi, ρ, R, h⟩
    have it := It1 i an ρ σ H ts ds R
    by_cases hlt : i < es.length
    · have e : es.drop i = es[i] :: es.drop (i + 1) := List.drop_eq_getElem_cons hlt
      rw [e] at h
      obtain ⟨go, yl⟩ := it.1 es[i] (List.getElem?_eq_getElem hlt)
      refine .inr ⟨go, fun σ H => ∃ ρ, RelX M an ρ σ H (tv ++ ts) (td ++ ds) ∧ SOk M an ts ds W (forD g fb (es.drop (i + 1)) ρ) Dn, fun σ' H' ⟨ρ', R', h'⟩ => ⟨es.length - (i + 1), by omega, rfl, hlt, ρ', R', h'⟩, fun x H' y => ?_⟩
      refine ⟨an, ρ, tv ++ ts, td ++ ds, es[i], yl x H' y, ?_⟩
      unfold forD at h
      cases q1 : g es[i] ρ with
      | stuck => rw [q1] at h; exact h.elim
      | err c fs es ρ1 => rw [q1] at h; exact h.elim
      | ok u ρ2 =>
        rw [q1] at h
        dsimp only at h ⊢
        intro σ1 H1 R1 _
        refine ⟨an, ρ2, tv ++ ts, td ++ ds, R1, ?_⟩
        refine SOk.bind (P := fun z => SOk M an ts ds W z Dn) h (fun _ _ _ _ z σ => (z σ).weak l) (fun z => z) (fun ρ3 σ3 H3 R3 h3 => ⟨ρ3, R3, h3⟩) (fun ρ3 σ3 H3 R3 h3 => h3 _ _ (R3.drops l)) (fun ρ3 σ3 H3 R3 h3 => ⟨ρ3, R3, h3⟩) (fun d ρ3 v σ3 H3 R3 h3 => h3 v σ3 H3 (R3.temps fun _ _ q => Reps.cons q.head (Reps.split l.symm q.tail).2)) fun d ρ3 v σ3 H3 R3 h3 => h3 v σ3 H3 (R3.drops l)
    · have e : i = es.length := by omega
      subst e
      rw [List.drop_length] at h
      exact .inl ⟨it.2 rfl, h σ H (R.drops l)⟩
end
/-! ### while, by fuel -/
def whD (fc : En → Rs Bool) (fb : En → Rs Fl) : Nat → En → Rs Fl
  | 0, _ => .stuck
  | n + 1, ρ => (fc ρ).bind fun c ρ1 => if c = true then (fb ρ1).bind fun fl ρ2 => match fl with
      | .nx => whD fc fb n ρ2
      | .cont => whD fc fb n ρ2
      | .brk => .ok .nx ρ2
      | .ret d => .ok (.ret d) ρ2
      | .retL d => .ok (.retL d) ρ2
    else .ok .nx ρ1
section
variable {X : Cx} {M : Mc} {W : WX} {c : Expr} {body : List Stmt} {fc : En → Rs Bool} {fb : En → Rs Fl} {pos : Pos}
theorem ss_while (n : Nat) (hp : PassesOwn (model X.prog X.w) X.A X.env X.xe) (hc : SB X M W c fc) (hb : SSs X M W body fb) : SS X M W (.While c body [] pos) (whD fc fb n) := by
  refine ps_imp (ps_while hp hc hb) fun Dn σ H ⟨an, ρ, ts, ds, R, h⟩ => ?_
  refine ⟨fun m σ H => ∃ ρ, RelX M an ρ σ H ts ds ∧ SOk M an ts ds W (whD fc fb m ρ) Dn, ⟨n, ρ, R, h⟩, ?_⟩
  rintro m σ H ⟨ρ, R, h⟩
  cases m with
  | zero => exact h.elim
  | succ m =>
    refine ⟨an, ρ, ts, ds, R, BOk.bind (P := fun z => SOk M an ts ds W z Dn) h (fun _ _ _ _ z => z σ) (fun z => z) fun b ρ1 H1 R1 h1 => ?_⟩
    cases b with
    | false => exact iteF (h1 σ H1 R1)
    | true =>
      refine iteT ⟨fun σ H => ∃ ρ, RelX M an ρ σ H ts ds ∧ SOk M an ts ds W (whD fc fb m ρ) Dn, fun σ' H' w => ⟨m, Nat.lt_succ_self _, w⟩, an, ρ1, ts, ds, R1, ?_⟩
      exact SOk.bind (P := fun z => SOk M an ts ds W z Dn) h1 (fun _ _ _ _ z => z) (fun z => z) (fun ρ3 σ3 H3 R3 h3 => ⟨ρ3, R3, h3⟩) (fun ρ3 σ3 H3 R3 h3 => h3 _ _ R3) (fun ρ3 σ3 H3 R3 h3 => ⟨ρ3, R3, h3⟩) (fun d ρ3 v σ3 H3 R3 h3 => h3 v σ3 H3 R3) fun d ρ3 v σ3 H3 R3 h3 => h3 v σ3 H3 R3
end
/-! ### slots forgotten -/
def okW (ρ : En) (vs : List Nat) : Bool := vs.all fun i => setOk ρ i
def wipeR (ρ : En) : List Nat → En
  | [] => ρ
  | v :: vs => (wipeR ρ vs).set v none
theorem wipeR_get {ρ : En} : ∀ {vs : List Nat} {i : Nat}, i ∉ vs → (wipeR ρ vs)[i]? = ρ[i]?
  | [], _, _ => rfl
  | v :: vs, i, h => by
    unfold wipeR
    rw [List.getElem?_set_ne (fun z => h (by rw [z]; exact List.mem_cons_self)), wipeR_get fun z => h (List.mem_cons_of_mem _ z)]
theorem wipeR_in {ρ : En} : ∀ {vs : List Nat} {i : Nat} {s : Sl}, i ∈ vs → (wipeR ρ vs)[i]? ≠ some (some s)
  | [], _, _, h => by cases h
  | v :: vs, i, s, h => by
    unfold wipeR
    by_cases e : v = i
    · subst e
      by_cases hl : v < (wipeR ρ vs).length
      · rw [List.getElem?_set_self hl]; intro z; cases z
      · rw [List.set_eq_of_length_le (Nat.le_of_not_lt hl), List.getElem?_eq_none (Nat.le_of_not_lt hl)]; intro z; cases z
    · rw [List.getElem?_set_ne e]
      rcases List.mem_cons.mp h with z | z
      · exact absurd z.symm e
      · exact wipeR_in z
theorem wipe_get {σ : St} : ∀ {vs : List Nat} {i : Nat}, i ∉ vs → (wipe σ vs)[i]? = σ[i]?
  | [], _, _ => rfl
  | v :: vs, i, h => by
    unfold wipe
    rw [List.getElem?_set_ne (fun z => h (by rw [z]; exact List.mem_cons_self)), wipe_get fun z => h (List.mem_cons_of_mem _ z)]
theorem wipe_wipe {σ : St} : ∀ {vs ws : List Nat}, (∀ i ∈ vs, i ∈ ws) → wipe (wipe σ vs) ws = wipe σ ws
  | [], _, _ => rfl
  | v :: vs, ws, h => by
    show wipe ((wipe σ vs).set v none) ws = wipe σ ws
    rw [wipe_set (h v List.mem_cons_self), wipe_wipe fun i hi => h i (List.mem_cons_of_mem _ hi)]
section
variable {M : Mc} {an : List (Addr × D)} {ρ : En} {σ σ' : St} {H : Hp} {ts : List V} {ds : List D}
theorem setOk_none {i j : Nat} (h : setOk ρ i = true) : setOk (ρ.set j none) i = true := by
  unfold setOk at h ⊢
  by_cases e : j = i
  · subst e
    by_cases hl : j < ρ.length
    · rw [List.getElem?_set_self hl]
    · rw [List.set_eq_of_length_le (Nat.le_of_not_lt hl)]; exact h
  · rw [List.getElem?_set_ne e]; exact h
theorem RelX.wipe : ∀ {vs : List Nat}, RelX M an ρ σ H ts ds → okW ρ vs = true → RelX M an (wipeR ρ vs) (L2.wipe σ vs) H ts ds
  | [], R, _ => R
  | v :: vs, R, h => by
    unfold okW at h
    rw [List.all_cons] at h
    obtain ⟨h1, h2⟩ := Bool.and_eq_true_iff.mp h
    have q := RelX.wipe (vs := vs) R h2
    have ok : ∀ ws : List Nat, setOk (wipeR ρ ws) v = true := by
      intro ws
      induction ws with
      | nil => exact h1
      | cons w ws ih => exact setOk_none ih
    exact q.setNo fun _ => ok vs
/-- the same slots, where they are told -/
theorem RelX.sig (R : RelX M an ρ σ H ts ds) (l : σ'.length = σ.length) (h : ∀ (i : Nat) (s : Sl), ρ[i]? = some (some s) → σ'[i]? = σ[i]?) : RelX M an ρ σ' H ts ds := by
  obtain ⟨G, own, r⟩ := R
  exact ⟨G, own, { r with shp := fun i d hi => by rw [h i _ hi]; exact r.shp i d hi, owp := fun i d hi => by rw [h i _ hi]; exact r.owp i d hi, bop := fun i d hi => by rw [h i _ hi]; exact r.bop i d hi, len := by rw [l]; exact r.len }⟩
theorem RelX.unwipe {vs : List Nat} (R : RelX M an ρ (L2.wipe σ vs) H ts ds) (h : ∀ i ∈ vs, ∀ s : Sl, ρ[i]? ≠ some (some s)) : RelX M an ρ σ H ts ds :=
  R.sig (wipe_length σ vs).symm fun i s hi => (wipe_get fun z => h i z s hi).symm
/-- the list that is held aside grows -/
theorem RelX.anPut {p : Addr} {acc : List D} {v : V} {d : D} (R : RelX M ((p, .lst acc) :: an) ρ σ H (v :: ts) (d :: ds)) : ∃ vs, H p = some (.lst vs) ∧ vs.length = acc.length ∧ RelX M ((p, .lst (acc ++ [d])) :: an) ρ σ (upd H p (.lst (vs ++ [v]))) ts ds := by
  obtain ⟨G, own, r⟩ := R
  obtain ⟨⟨vs, z2, z3⟩, z4, z5⟩ := r.anp _ List.mem_cons_self
  refine ⟨vs, z2, z3.len, G, own, ?_⟩
  have pln : PlainAt H p := ⟨_, z2, ⟨fun _ z => (nomatch z), fun _ z => (nomatch z)⟩⟩
  have keep : ∀ b u, b ≠ p → H b = some u → (upd H p (.lst (vs ++ [v]))) b = some u := fun b u hb e => by rw [upd_ne hb]; exact e
  have gne : ∀ b u, G b = some u → b ≠ p := fun b u e c => by rw [c] at e; rw [z4] at e; cases e
  have one : ∀ i, IsOw ρ i → own i ≠ p := fun i hi => r.apart i hi _ List.mem_cons_self
  have nd := List.nodup_cons.mp (show (p :: an.map (·.1)).Nodup from r.anN)
  refine { sub := fun b u e => keep b u (gne b u e) (r.sub b u e), g0 := r.g0, fr := r.fr, ext := fun b u e w nt => keep b u ?_ (r.ext b u e w nt), tab := pln.tabs r.tab, ntb := r.ntb, pin := r.pin, wok := fun b w => ?_, shp := r.shp, owp := fun j d' hj => ?_, bop := fun j d' hj => ?_, anp := fun x hx => ?_, inj := r.inj, apart := fun i hi x hx => ?_, anN := r.anN, len := r.len, tmp := r.tmp.tail }
  · rintro rfl
    obtain ⟨ps, z⟩ := z5 _ e; exact nt ps z
  · by_cases hb : b = p
    · exact ⟨.lst _, by rw [hb]; exact upd_same, ⟨fun _ z => (nomatch z), fun _ z => (nomatch z)⟩⟩
    · obtain ⟨u, hu, pu⟩ := r.wok b w; exact ⟨u, keep b u hb hu, pu⟩
  · obtain ⟨c1, c2, c3, c4⟩ := r.owp j d' hj
    exact ⟨c1, c2.mono Sub.rfl' fun u hu => keep _ u (one j ⟨_, .inl hj⟩) hu, c3, c4⟩
  · obtain ⟨c1, c2, c3, c4⟩ := r.bop j d' hj
    exact ⟨c1, c2.mono Sub.rfl' fun u hu => keep _ u (one j ⟨_, .inr hj⟩) hu, c3, c4⟩
  · rcases List.mem_cons.mp hx with e | hx
    · subst e
      exact ⟨⟨_, upd_same, Reps.append z3 (Reps.cons r.tmp.head Reps.nil)⟩, z4, z5⟩
    · obtain ⟨c2, c3, c4⟩ := r.anp x (List.mem_cons_of_mem _ hx)
      exact ⟨c2.mono Sub.rfl' fun u hu => keep _ u (fun c => nd.1 (List.mem_map.mpr ⟨x, hx, c⟩)) hu, c3, c4⟩
  · rcases List.mem_cons.mp hx with e | hx
    · subst e; exact one i hi
    · exact r.apart i hi x (List.mem_cons_of_mem _ hx)
end
/-! ### [elt for tg in iter if ..] -/
def lcD (vs : List Nat) (g : D → En → Rs Unit) (ft : En → Rs Bool) (fe : En → Rs D) : List D → List D → En → Rs (List D)
  | [], acc, ρ => .ok acc ρ
  | d :: es, acc, ρ => match g d ρ with
    | .ok _ ρ1 => (match ft ρ1 with
      | .ok true ρ2 => (match fe ρ2 with
        | .ok v ρ3 => if (decide (acc.length < sizeLine) && okW ρ3 vs) = true then lcD vs g ft fe es (acc ++ [v]) (wipeR ρ3 vs) else .stuck
        | _ => .stuck)
      | .ok false ρ2 => if okW ρ2 vs = true then lcD vs g ft fe es acc (wipeR ρ2 vs) else .stuck
      | _ => .stuck)
    | _ => .stuck
def lcEnd (r : Rs (List D)) : Rs D := match r with
  | .ok out ρ => .ok (.lst out) ρ
  | _ => .stuck
def fLc (vs : List Nat) (fi : En → Rs (List D)) (g : D → En → Rs Unit) (ft : En → Rs Bool) (fe : En → Rs D) : En → Rs D := fun ρ => (fi ρ).bind fun es ρ1 => if okW ρ1 vs = true then lcEnd (lcD vs g ft fe es [] (wipeR ρ1 vs)) else .stuck
def fYes : En → Rs Bool := fun ρ => .ok true ρ
abbrev W0 : WX := fun _ _ _ _ => False
theorem EErr.of_false {M : Mc} {an : List (Addr × D)} {ts : List V} {ds : List D} {W : WX} {σ : St} {c : Str} {fs : List Str} {es : List D} {ρ : En} (h : False) : EErr M an ts ds W σ c fs es ρ := h.elim
section
variable {M : Mc} {vs : List Nat} {g : D → En → Rs Unit} {ft : En → Rs Bool} {fe : En → Rs D}
/-- every slot of vs is forgotten -/
def Gone (ρ : En) (vs : List Nat) : Prop := ∀ i ∈ vs, ∀ s : Sl, ρ[i]? ≠ some (some s)
theorem gone_wipe {ρ : En} : Gone (wipeR ρ vs) vs := fun i hi s => wipeR_in hi
theorem lcD_gone : ∀ {es acc out : List D} {ρ ρ' : En}, lcD vs g ft fe es acc ρ = .ok out ρ' → Gone ρ vs → Gone ρ' vs
  | [], _, _, _, _, h, k => by cases h; exact k
  | d :: es, acc, out, ρ, ρ', h, k => by
    unfold lcD at h
    split at h
    · split at h
      · split at h
        · split at h
          · exact lcD_gone h gone_wipe
          · cases h
        · cases h
      · split at h
        · exact lcD_gone h gone_wipe
        · cases h
      · cases h
    · cases h
theorem lc_loop {an : List (Addr × D)} {ρ0 ρe : En} {σ : St} {H0 : Hp} {ts tv : List V} {ds td : List D} {Dd : Addr} {acc0 out es : List D} {J : It} {Qe : Hp → Prop} (It1 : ItOk M J es tv td)
    (R0 : RelX M ((Dd, .lst acc0) :: an) ρ0 (L2.wipe σ vs) H0 (tv ++ ts) (td ++ ds)) (h0 : lcD vs g ft fe es acc0 ρ0 = .ok out ρe)
    (fin : ∀ H, RelX M ((Dd, .lst out) :: an) ρe (L2.wipe σ vs) H (tv ++ ts) (td ++ ds) → Qe H) :
    ∃ Wv : Nat → Nat → Hp → Prop, (∃ m, Wv 0 m H0) ∧ ∀ i m H, Wv i m H →
      (J.stop i H ∧ Qe H) ∨ (J.go i H ∧ ∃ Nx : Hp → Prop, (∀ H', Nx H' → ∃ m', m' < m ∧ Wv (i + 1) m' H') ∧ ∀ x H', J.yld i H x H' → tG M vs g x (L2.wipe σ vs) H' fun σ2 H2 => L2.wipe σ2 vs = L2.wipe σ vs ∧ tB1 M W0 ft σ2 H2 fun b H3 =>
        if b = true then tE M W0 fe σ2 H3 fun y H4 => ∃ acc, H4 Dd = some (.lst acc) ∧ acc.length < sizeLine ∧ Nx (upd H4 Dd (.lst (acc ++ [y]))) else Nx H3) := by
  refine ⟨fun i m H => m = es.length - i ∧ i ≤ es.length ∧ ∃ ρ acc, RelX M ((Dd, .lst acc) :: an) ρ (L2.wipe σ vs) H (tv ++ ts) (td ++ ds) ∧ lcD vs g ft fe (es.drop i) acc ρ = .ok out ρe, ⟨es.length, by simp, Nat.zero_le _, ρ0, acc0, R0, h0⟩, ?_⟩
  rintro i m H ⟨rfl, hi, ρ, acc, R, h⟩
  have it := It1 i _ ρ _ H ts ds R
  by_cases hlt : i < es.length
  · have e : es.drop i = es[i] :: es.drop (i + 1) := List.drop_eq_getElem_cons hlt
    rw [e] at h
    obtain ⟨go, yl⟩ := it.1 es[i] (List.getElem?_eq_getElem hlt)
    refine .inr ⟨go, fun H => ∃ ρ acc, RelX M ((Dd, .lst acc) :: an) ρ (L2.wipe σ vs) H (tv ++ ts) (td ++ ds) ∧ lcD vs g ft fe (es.drop (i + 1)) acc ρ = .ok out ρe, fun H' ⟨ρ', acc', R', h'⟩ => ⟨es.length - (i + 1), by omega, rfl, hlt, ρ', acc', R', h'⟩, fun x H' y => ?_⟩
    refine ⟨(Dd, .lst acc) :: an, ρ, tv ++ ts, td ++ ds, es[i], yl x H' y, ?_⟩
    unfold lcD at h
    cases q1 : g es[i] ρ with
    | stuck => rw [q1] at h; cases h
    | err c fs es ρ1 => rw [q1] at h; cases h
    | ok u ρ1 =>
      rw [q1] at h
      dsimp only at h ⊢
      intro σ2 H2 R2 hw
      have hw' : L2.wipe σ2 vs = L2.wipe σ vs := by rw [hw]; exact wipe_wipe fun i hi => hi
      refine ⟨hw', (Dd, .lst acc) :: an, ρ1, tv ++ ts, td ++ ds, R2, ?_⟩
      cases q2 : ft ρ1 with
      | stuck => rw [q2] at h; cases h
      | err c fs es ρ1 => rw [q2] at h; cases h
      | ok b ρ2 =>
        rw [q2] at h
        intro H3 R3
        cases b with
        | false =>
          dsimp only at h
          by_cases c : okW ρ2 vs = true
          · rw [if_pos c] at h
            refine iteF ⟨wipeR ρ2 vs, acc, ?_, h⟩
            rw [← hw']; exact R3.wipe c
          · rw [if_neg c] at h; cases h
        | true =>
          dsimp only at h
          refine iteT ⟨(Dd, .lst acc) :: an, ρ2, tv ++ ts, td ++ ds, R3, ?_⟩
          cases q3 : fe ρ2 with
          | stuck => rw [q3] at h; cases h
          | err c fs es ρ1 => rw [q3] at h; cases h
          | ok v ρ3 =>
            rw [q3] at h
            dsimp only at h
            intro y4 H4 R4
            by_cases c : (decide (acc.length < sizeLine) && okW ρ3 vs) = true
            · rw [if_pos c] at h
              obtain ⟨c1, c2⟩ := Bool.and_eq_true_iff.mp c
              obtain ⟨us, z1, z2, R5⟩ := R4.anPut
              refine ⟨us, z1, by rw [z2]; exact of_decide_eq_true c1, wipeR ρ3 vs, _, ?_, h⟩
              rw [← hw']; exact R5.wipe c2
            · rw [if_neg c] at h; cases h
  · have e : i = es.length := by omega
    subst e
    rw [List.drop_length] at h
    cases h
    exact .inl ⟨it.2 rfl, fin H R⟩
end
section
variable {X : Cx} {M : Mc} {W : WX} {elt tg iter : Expr} {ifs : List Expr} {scope : Scope} {own : List (Str × Nat)} {pos : Pos} {fi : En → Rs (List D)} {g : D → En → Rs Unit} {ft : En → Rs Bool} {fe : En → Rs D} {vs : List Nat}
theorem pts_imp {X : Cx} {e : List Expr} {t t' : TT} (h : PTs X e t) (i : ∀ σ H Q, t' σ H Q → t σ H Q) : PTs X e t' := ⟨fun pins s σ H Q I q => h.run pins s σ H Q I (i σ H Q q)⟩
theorem sts_nil : PTs X [] (tB1 M W fYes) := pts_imp pts_nil fun σ H Q ⟨an, ρ, ts, ds, R, h⟩ => h H R
theorem sts_one {c : Expr} (h : SB X M W c ft) : PTs X [c] (tB1 M W ft) := pts_one h
theorem lc_main {σ : St} {H : Hp} {Q : VK} (h : tLs M W (fLc vs fi g ft fe) σ H Q) : tLc (tI M W fi) (tG M vs g) (tB1 M W0 ft) (tE M W0 fe) vs σ H Q := by
  obtain ⟨an, ρ, ts, ds, R, h⟩ := h
  refine ⟨an, ρ, ts, ds, R, ?_⟩
  unfold fLc at h
  cases q : fi ρ with
  | stuck => rw [q] at h; exact h
  | err c fs es ρ1 => rw [q] at h; exact h
  | ok es ρ1 =>
    rw [q] at h
    intro J H1 tv td l R1 It1 Dd hD
    have h : LOk M an ts ds W σ (if okW ρ1 vs = true then lcEnd (lcD vs g ft fe es [] (wipeR ρ1 vs)) else .stuck) Q := h
    by_cases c : okW ρ1 vs = true
    · rw [if_pos c] at h
      cases q2 : lcD vs g ft fe es [] (wipeR ρ1 vs) with
      | stuck => rw [q2] at h; exact h.elim
      | err c fs es ρ1 => rw [q2] at h; exact h.elim
      | ok out ρe =>
        rw [q2] at h
        have R2 : RelX M ((Dd, .lst []) :: an) ρ1 σ (upd H1 Dd (.lst [])) (tv ++ ts) (td ++ ds) := R1.newAn hD fun G s r => ⟨⟨[], upd_same, Reps.nil⟩, r⟩
        refine lc_loop It1 (R2.wipe c) q2 fun H' R' => ?_
        exact h Dd H' ((R'.unwipe (lcD_gone q2 gone_wipe)).drops l)
    · rw [if_neg c] at h; exact h.elim
theorem sl_lc (hc : X.calm = true) (hN : X.N.Nodup) (hi : SI X M W tg iter fi) (ok : BlkOk X.N X.env.scope scope own) (hv : own.map (·.2) = vs)
    (hg : ∀ (s : Shared) (H : Hp) (C : Addr) (cl : List (Str × Addr)) (fp : List Addr), SG (X.blk s H scope (compEnvC scope cl C X.env) fp) M vs tg g)
    (ht : ∀ (s : Shared) (H : Hp) (C : Addr) (cl : List (Str × Addr)) (fp : List Addr), PTs (X.blk s H scope (compEnvC scope cl C X.env) fp) ifs (tB1 M W0 ft))
    (he : ∀ (s : Shared) (H : Hp) (C : Addr) (cl : List (Str × Addr)) (fp : List Addr), SE (X.blk s H scope (compEnvC scope cl C X.env) fp) M W0 elt fe)
    (hs : ∀ x, foldedSetIterable iter X.env x = pure x := by intro _; rfl) : SL X M W (.ListComp elt [⟨tg, iter, ifs, 0⟩] scope pos) (fLc vs fi g ft fe) :=
  pe_imp (pe_lc hc hN hi ok hg ht he hs) fun σ H Q h => by rw [hv]; exact lc_main h
/-- y = [..] on one line: y shared -/
theorem ss_setLc (i : Nat) {y : Str} {py spos : Pos} (hc : X.calm = true) (hN : X.N.Nodup) (hsw : swapsWith (.ListComp elt [⟨tg, iter, ifs, 0⟩] scope pos) (some (.Name y py)) spos.line X.env = pure true) (hi : SI X M W tg iter fi) (ok : BlkOk X.N X.env.scope scope own) (hv : own.map (·.2) = vs)
    (hg : ∀ (s : Shared) (H : Hp) (C : Addr) (cl : List (Str × Addr)) (fp : List Addr), SG (X.blk s H scope (compEnvC scope cl C X.env) fp) M vs tg g)
    (ht : ∀ (s : Shared) (H : Hp) (C : Addr) (cl : List (Str × Addr)) (fp : List Addr), PTs (X.blk s H scope (compEnvC scope cl C X.env) fp) ifs (tB1 M W0 ft))
    (he : ∀ (s : Shared) (H : Hp) (C : Addr) (cl : List (Str × Addr)) (fp : List Addr), SE (X.blk s H scope (compEnvC scope cl C X.env) fp) M W0 elt fe)
    (hy : X.N[i]? = some y := by rfl) (hyl : X.env.scope.names.lookup y = some .local := by rfl) (hs : ∀ x, foldedSetIterable iter X.env x = pure x := by intro _; rfl) :
    SS X M W (.Assign [.Name y py] (.ListComp elt [⟨tg, iter, ifs, 0⟩] scope pos) spos) (fSetL i (fLc vs fi g ft fe)) :=
  ps_imp (ps_setLc hc hN hy hyl hsw hi ok hg ht he hs) fun Dn σ H h => by
    have q := setL_core h
    rw [hv]
    exact lc_main q
end
end Dl
end
section
set_option maxHeartbeats 4000000
/-! DlHa: promises of defs that are called where no repr runs. -/
namespace Dl
open PySem PySem.Spec PyProof.Rows L2
/-- room, and no repr is under way -/
structure RoomG (k : Nat) (A : Around) : Prop where
  r : Room k A
  g : A.guards = some []
theorem RoomG.mono {j k : Nat} {A : Around} (z : RoomG k A) (l : j ≤ k) : RoomG j A := ⟨z.r.mono l, z.g⟩
theorem RoomG.units {k : Nat} {A : Around} (z : RoomG k A) : A.units + 64 < cLine := z.r.units
theorem RoomG.units0 {k : Nat} {A : Around} (z : RoomG k A) : A.units < cLine := z.r.units0
/-- as FnOk, where no repr is under way -/
structure FnG (P : Program) (w : World) (K : PySem.W.Frag) (mg : Str → Option Value) (base : Heap) (CX : CXT) (k : Nat) (f : Addr) (fd : FuncData) (ps : List Str) (sp : Sp) : Prop where
  len : ∀ vs H Q E, sp vs H Q E → vs.length = ps.length
  at_ : ∀ {A : Around} {fr : List Env} {s : Shared} {H : Hp} {ag : Args} {us : List Value} {vs : List V} {Q : VK} {E : XK}, RoomG k A → Env0 P w K mg base A fr s H → BindsTo s fd ag (ps.zip us) → Vals vs us → sp vs H Q E → codeAny (model P w) A (.call (.ref f) ag) (CR CX fr P w H s Q E) s
section
variable {P : Program} {w : World} {K : PySem.W.Frag} {mg : Str → Option Value} {base : Heap} {CX : CXT} {k : Nat} {f : Addr} {fd : FuncData} {ps : List Str} {sp : Sp}
theorem FnG.mono {j : Nat} (F : FnG P w K mg base CX j f fd ps sp) (l : j ≤ k) : FnG P w K mg base CX k f fd ps sp := ⟨F.len, fun z => F.at_ (z.mono l)⟩
theorem FnG.weak {sp' : Sp} (F : FnG P w K mg base CX k f fd ps sp) (i : ∀ vs H Q E, sp' vs H Q E → sp vs H Q E) : FnG P w K mg base CX k f fd ps sp' := ⟨fun _ _ _ _ q => F.len _ _ _ _ (i _ _ _ _ q), fun z e b v h => F.at_ z e b v (i _ _ _ _ h)⟩
/-- the code of the def at f -/
def CodeAt (K : PySem.W.Frag) (f : Addr) (cdv : Value) : Prop := ∃ oc od nm ql ps bd sc dV kV doc pm an ct osl, K.lookup f = some ⟨oc, od, .func (PySem.W.fnOf nm ql ps bd sc dV kV doc pm an cdv ct), osl⟩
/-- its code object, and that one's table -/
def tabAt (K : PySem.W.Frag) (f : Addr) : Addr × Addr := match K.lookup f with
  | some ⟨_, _, .func fd, _⟩ => (match fd.code with
    | .ref c => (match K.lookup c with
      | some ⟨_, _, .fields vs, _⟩ => (match (vs[11]? : Option Value) with
        | some (.ref P) => (c, P)
        | _ => (c, 0))
      | _ => (c, 0))
    | _ => (0, 0))
  | _ => (0, 0)
def tabOk (K : PySem.W.Frag) (f : Addr) : Bool := match K.lookup f with
  | some ⟨_, _, .func fd, _⟩ => (match fd.code with
    | .ref _ => true
    | _ => false)
  | _ => false
theorem CodeAt.ref {K : PySem.W.Frag} {f : Addr} {cdv : Value} (h : CodeAt K f cdv) (q : tabOk K f = true) : cdv = .ref (tabAt K f).1 := by
  obtain ⟨oc, od, nm, ql, ps, bd, sc, dV, kV, doc, pm, an, ct, osl, e⟩ := h
  unfold tabOk at q
  unfold tabAt
  rw [e] at q ⊢
  dsimp only at q ⊢
  cases cdv with
  | ref c =>
    dsimp only
    cases K.lookup c with
    | none => rfl
    | some o =>
      obtain ⟨_, _, dt, _⟩ := o
      cases dt with
      | fields vs =>
        dsimp only
        cases vs[11]? with
        | none => rfl
        | some v => cases v <;> rfl
      | _ => rfl
  | _ => cases q
/-- a def by its body -/
theorem fun_okG {x qual : Str} {st : Stmt} {N : List Str} (F : Fun K x qual st f fd) (S : FnScope N ps (defScope st)) (len : ∀ vs H Q E, sp vs H Q E → vs.length = ps.length)
    (hb : ∀ (cdv : Value), CodeAt K f cdv → ∀ (A : Around) (fr : List Env) (s : Shared) (H : Hp) (vs : List V) (Q : VK) (E : XK), RoomG k (A.deeper (envOfC qual (defScope st) s.heap.objs.size f cdv)) → sp vs H Q E →
      ∃ t, PSs (cxOf CX P w K mg base N qual (defScope st) f cdv A fr s H E) (defBody st) t ∧ t { nx := fun _ H' => Q .non H', rt := Q } (start N vs) H) : FnG P w K mg base CX (k + 1) f fd ps sp := by
  obtain ⟨oc, od, kV, doc, pm, an, cdv, ct, osl, rfl, lk, hcd⟩ := F.ex
  exact ⟨len, fun {A fr s H ag us vs Q E} z e b v h => LamX.run_ofS lk hcd S z.r e b v (len _ _ _ _ h) fun r2 => hb cdv ⟨_, _, _, _, _, _, _, _, _, _, _, _, _, _, lk⟩ A fr s H vs Q E ⟨r2, z.g⟩ h⟩
end
section
variable {X : Cx} {CX : CXT} {k : Nat} {f : Addr} {fd : FuncData} {ps : List Str} {sp : Sp}
/-- what a call's end brings -/
def EndG (X : Cx) (pins : List (Addr × Obj)) (σ : St) (Q : VK) (r : Result) (s' : Shared) : Prop := match r with
  | .ok fl => (match fl with
    | .ret u => EP X pins σ Q u s'
    | _ => False)
  | .error er => X.xe er s'
theorem endG {pins : List (Addr × Obj)} {σ : St} {H : Hp} {s s' : Shared} {Q Q' : VK} {E : XK} (I : Inv X pins σ H s) (q : ∀ v H', Q v H' → Q' v H') : ∀ (r : Result), CR CX X.stack X.prog X.w H s Q E r s' → (∀ er, CX X.stack H s E er s' → X.xe er s') → EndG X pins σ Q' r s'
  | .ok (.ret _), e, _ => let ⟨v, H1, J, rv, z⟩ := I.after e; ⟨v, H1, J, rv, q _ _ z⟩
  | .error er, e, x => x er e
  | .ok .next, e, _ => e
  | .ok .brk, e, _ => e
  | .ok .cont, e, _ => e
theorem run_fnG {pins : List (Addr × Obj)} {σ : St} {H : Hp} {s : Shared} {Q : VK} {E : XK} {us : List Value} {vs : List V} (F : FnG X.prog X.w X.K X.mg X.base CX k f fd ps sp) (z : RoomG k X.A) (bd : Binds X.K fd ps []) (x : PassesAt CX X σ E)
    (I : Inv X pins σ H s) (r : Vals vs us) (h : sp vs H Q E) : wpAny (model X.prog X.w) X.A (call (.ref f) us) (EP X pins σ Q) X.xe s := by
  have n : us.length = ps.length := r.length.symm.trans (F.len _ _ _ _ h)
  have b : BindsTo s fd ⟨us, []⟩ (ps.zip us) := by simpa using bd s us I.kIn (by simpa using n)
  exact wpAny_call (codeAny_mono (F.at_ z I.env0 b r h) fun rr s1 e => by
    have q := endG I (Q' := Q) (fun _ _ z => z) rr e (fun er c => x pins H s er s1 I c)
    rcases rr with er | fl
    · exact q
    · rcases fl with _ | _ | _ | u
      all_goals exact q)
theorem RoomG.in1 {j : Nat} {A : Around} (z : RoomG (j + 1) A) : RoomG j A.in1 := ⟨z.r.in1, z.g⟩
theorem RoomG.make {j : Nat} {A : Around} (z : RoomG (j + 1) A) (C : Addr) (us : List Value) (kw : List (Str × Value)) (g : (A.under (.builtin "type.__call__" ⟨.ref C :: us, kw⟩)).guards = A.guards := by simp [Around.under, Code.guards, pushGuards, Code.isGuard, guardIds]) : RoomG j (A.under (.builtin "type.__call__" ⟨.ref C :: us, kw⟩)) := ⟨z.r.make C us kw, g.trans z.g⟩
theorem no_exc {P : Program} {w : World} {fr : List Env} {H : Hp} {s s' : Shared} {e : Value} (h : L2.CX P w fr H s E0 e s') : False := let ⟨_, _, _, _, _, _, _, _, _, _, _, _, z⟩ := h; z
/-- the getter's promise, at the object -/
theorem getG {pins : List (Addr × Obj)} {σ : St} {H : Hp} {s : Shared} {Q : VK} {b : Bool} {E' : Value → Shared → Prop} {C p g a dx : Addr} {n : Str} {fs : List (Str × V)} (I : Inv X pins σ H s) (ea : H a = some (.ins C dx fs)) (c : Cls X.K C) (hp : PropOf X.K C n p g)
    (F : FnG X.prog X.w X.K X.mg X.base (L2.CX X.prog X.w) k g fd ps sp) (z : RoomG (k + 1) X.A) (bd : Binds X.K fd ps []) (h : sp [.ref a] H Q E0) : wpAny (model X.prog X.w) X.A (getAttr (.ref a) n b) (EP X pins σ Q) E' s := by
  obtain ⟨_, O, _⟩ := ins_get I.hok ea
  obtain ⟨_, J, _⟩ := O.look
  obtain ⟨_, rc⟩ := hp.rec_
  have It := I.tok (s.toks + 1)
  have cs : (PySem.W.clsIn X.K C).isSome = true := let ⟨_, q, _⟩ := PySem.W.any_some c.hd; by rw [q]; rfl
  have bnd := bd { s with toks := s.toks + 1 } [.ref a] I.kIn (by rw [List.append_nil, ← F.len _ _ _ _ h]; rfl)
  refine PySem.W.get_bind I.kIn J (PySem.W.plainGet_of (c.get n)).1 (PySem.W.findObj_data cs hp.at_ hp.get hp.tak) (PySem.W.plainGet_of (c.get n)).2 (wpAny_call (PySem.W.prop_get (s := { s with toks := s.toks + 1 }) I.kIn rc ?_))
  rw [List.append_nil] at bnd
  refine codeAny_mono (F.at_ (ag := ⟨[.ref a], []⟩) (vs := [V.ref a]) z.in1 It.env0.in1 bnd (.cons (show RelV (V.ref a) (Value.ref a) from rfl) .nil) h) fun rr s1 e => ?_
  rcases rr with er | fl
  · exact (no_exc e).elim
  · rcases fl with _ | _ | _ | u
    all_goals first
      | exact False.elim e
      | (obtain ⟨v, H1, J1, rv, q⟩ := It.after e
         show wpAny _ _ (handedOut u) _ _ _
         rw [show (handedOut u : Sem Value) = pure u from PySem.W.handedOut_of (handed_of rv)]
         exact wpAny_pure ⟨v, H1, J1, rv, q⟩)
theorem pe_propG {C p g : Addr} {n : Str} {e : Expr} {pos : Pos} {ta : TE} (he : PE X e ta) (c : Cls X.K C) (hp : PropOf X.K C n p g) (F : FnG X.prog X.w X.K X.mg X.base (L2.CX X.prog X.w) k g fd ps sp) (z : RoomG (k + 1) X.A) (bd : Binds X.K fd ps [])
    (ab : attributeBase e n X.env (eval e X.env) = eval e X.env) : PE X (.Attribute e n pos) (tProp C sp [] E0 ta) :=
  ⟨fun pn s σ H Q I h => attr_of ab (thn (he.run pn s σ H _ I h) fun u s1 ⟨x, H1, I1, rx, a, dx, fs, ex, ea, q⟩ => by
    subst ex
    cases (show u = Value.ref a from rx)
    exact getG I1 ea c hp F z bd q)⟩
end
end Dl
end
section
set_option maxHeartbeats 4000000
/-! DlI: what a def promises on trees; calls. -/
namespace Dl
open PySem PySem.Spec PyProof.Rows L2
/-! ### the promise -/
inductive Fr where
  | ok (d : D) (bs : List D)
  | err (c : Str) (fs : List Str) (ds : List D) (bs : List D)
  | stuck
section
variable (K : PySem.W.Frag) (cl : Cl) (G H : Hp)
/-- how arguments lie; the lent ones by their addresses -/
def ArgsAt : List Bool → List D → List V → List Addr → Prop
  | [], [], [], W => W = []
  | false :: bs, d :: ds, v :: vs, W => Rep K cl G d v ∧ ArgsAt bs ds vs W
  | true :: bs, d :: ds, v :: vs, W => ∃ a W', v = .ref a ∧ W = a :: W' ∧ OwAt K cl G H a d ∧ G a = none ∧ ArgsAt bs ds vs W'
  | _, _, _, _ => False
/-- the lent ones behind -/
def BorAt : List Addr → List D → Prop
  | [], [] => True
  | a :: W, d :: ds => OwAt K cl G H a d ∧ G a = none ∧ BorAt W ds
  | _, _ => False
end
structure After (T : List (Addr × Str)) (G H : Hp) (W : List Addr) (G' H' : Hp) : Prop where
  gg : Sub G G'
  gh : Sub G' H'
  fr : ∀ a : Addr, G' a ≠ none → G a = none → Nn H a
  ext : ∀ (a : Addr) (o : HO), H a = some o → a ∉ W → (∀ ps, o ≠ .tbl ps) → H' a = some o
  tab : LamX.Tabs T H'
  ntb : NoTb G'
/-- what is known at the entry -/
structure Gd (cl : Cl) (G H : Hp) : Prop where
  sub : Sub G H
  tab : LamX.Tabs cl.T H
  ntb : NoTb G
def FrOk (K : PySem.W.Frag) (cl : Cl) (G H : Hp) (W : List Addr) (r : Fr) (Q : VK) (E : XK) : Prop := match r with
  | .ok d bs => ∀ v G' H', After cl.T G H W G' H' → Rep K cl G' d v → BorAt K cl G' H' W bs → Q v H'
  | .err c fs es bs => ∀ C dx G' H' vs, cl c = some C → vs.length = es.length → ErrD fs vs dx H H' → After cl.T G H W G' H' → Reps K cl G' es vs → BorAt K cl G' H' W bs → E (.ref C) dx H'
  | .stuck => False
def spF (K : PySem.W.Frag) (cl : Cl) (bor : List Bool) (F : List D → Fr) : Sp := fun vs H Q E => vs.length = bor.length ∧ ∃ (G : Hp) (ds : List D) (W : List Addr), Gd cl G H ∧ ArgsAt K cl G H bor ds vs W ∧ W.Nodup ∧ FrOk K cl G H W (F ds) Q E
/-- the slots at the entry -/
def enE : List Bool → List D → Nat → En
  | false :: bs, d :: ds, n + 1 => some (.sh d) :: enE bs ds n
  | true :: bs, d :: ds, n + 1 => some (.bo d) :: enE bs ds n
  | _, _, n => List.replicate n none
/-- the lent contents at the end -/
def bosD : List Bool → En → Option (List D)
  | [], _ => some []
  | false :: bs, _ :: ρ => bosD bs ρ
  | true :: bs, some (.bo d) :: ρ => (bosD bs ρ).map (d :: ·)
  | _, _ => none
def bodyF (bor : List Bool) (n : Nat) (f : En → Rs Fl) : List D → Fr := fun ds => if ds.length = bor.length then match f (enE bor ds n) with
    | .ok (.ret d) ρ => (match bosD bor ρ with | some bs => .ok d bs | none => .stuck)
    | .ok (.retL d) ρ => (match bosD bor ρ with | some bs => .ok d bs | none => .stuck)
    | .ok .nx ρ => (match bosD bor ρ with | some bs => .ok .non bs | none => .stuck)
    | .err c fs es ρ => (match bosD bor ρ with | some bs => .err c fs es bs | none => .stuck)
    | _ => .stuck
  else .stuck
section
variable {K : PySem.W.Frag} {cl : Cl} {G H : Hp}
theorem ArgsAt.len : ∀ {bor : List Bool} {ds : List D} {vs : List V} {W : List Addr}, ArgsAt K cl G H bor ds vs W → ds.length = bor.length ∧ vs.length = bor.length
  | [], [], [], _, _ => ⟨rfl, rfl⟩
  | false :: bs, d :: ds, v :: vs, W, h => by have := ArgsAt.len h.2; simp [this.1, this.2]
  | true :: bs, d :: ds, v :: vs, W, ⟨a, W', _, _, _, _, h⟩ => by have := ArgsAt.len h; simp [this.1, this.2]
  | [], [], _ :: _, _, h => h.elim
  | [], _ :: _, _, _, h => h.elim
  | false :: _, [], _, _, h => h.elim
  | true :: _, [], _, _, h => h.elim
  | false :: _, _ :: _, [], _, h => h.elim
  | true :: _, _ :: _, [], _, h => h.elim
/-- the address of the k-th slot, if it is lent -/
def lentA : List Bool → List V → Nat → Addr
  | true :: _, .ref a :: _, 0 => a
  | _ :: bs, _ :: vs, k + 1 => lentA bs vs k
  | _, _, _ => 0
theorem args_slots : ∀ {bor : List Bool} {ds : List D} {vs : List V} {W : List Addr} {n : Nat}, ArgsAt K cl G H bor ds vs W → bor.length ≤ n →
    (enE bor ds n).length = n ∧ ∀ i, (∀ d, (enE bor ds n)[i]? = some (some (Sl.sh d)) → ∃ v, vs[i]? = some v ∧ Rep K cl G d v) ∧ (∀ d : D, (enE bor ds n)[i]? ≠ some (some (Sl.ow d))) ∧
      ∀ d, (enE bor ds n)[i]? = some (some (Sl.bo d)) → vs[i]? = some (.ref (lentA bor vs i)) ∧ OwAt K cl G H (lentA bor vs i) d ∧ G (lentA bor vs i) = none ∧ lentA bor vs i ∈ W
  | [], [], [], W, n, _, _ => by
    refine ⟨by simp [enE], fun i => ⟨fun d h => ?_, fun d h => ?_, fun d h => ?_⟩⟩
    all_goals
      simp only [enE] at h
      by_cases c : i < n
      · rw [List.getElem?_replicate] at h; rw [if_pos c] at h; cases h
      · rw [List.getElem?_replicate] at h; rw [if_neg c] at h; cases h
  | false :: bs, d :: ds, v :: vs, W, n, h, l => by
    obtain ⟨m, rfl⟩ : ∃ m, n = m + 1 := ⟨n - 1, by simp at l; omega⟩
    obtain ⟨q1, q2⟩ := args_slots (n := m) h.2 (by simpa using l)
    refine ⟨by simp [enE, q1], fun i => ?_⟩
    cases i with
    | zero =>
      refine ⟨fun d' e => ?_, fun d' e => ?_, fun d' e => ?_⟩
      · have : d = d' := by simpa [enE] using e
        subst this; exact ⟨v, rfl, h.1⟩
      · simp [enE] at e
      · simp [enE] at e
    | succ i =>
      have := q2 i
      simpa [enE, lentA] using this
  | true :: bs, d :: ds, v :: vs, W, n, ⟨a, W', e1, e2, h1, h2, h⟩, l => by
    subst e1; subst e2
    obtain ⟨m, rfl⟩ : ∃ m, n = m + 1 := ⟨n - 1, by simp at l; omega⟩
    obtain ⟨q1, q2⟩ := args_slots (n := m) h (by simpa using l)
    refine ⟨by simp [enE, q1], fun i => ?_⟩
    cases i with
    | zero =>
      refine ⟨fun d' e => ?_, fun d' e => ?_, fun d' e => ?_⟩
      · simp [enE] at e
      · simp [enE] at e
      · have : d = d' := by simpa [enE] using e
        subst this; exact ⟨rfl, h1, h2, List.mem_cons_self⟩
    | succ i =>
      obtain ⟨z1, z2, z3⟩ := q2 i
      refine ⟨by simpa [enE] using z1, by simpa [enE] using z2, fun d' e => ?_⟩
      obtain ⟨y1, y2, y3, y4⟩ := z3 d' (by simpa [enE] using e)
      exact ⟨by simpa [lentA] using y1, y2, y3, List.mem_cons_of_mem _ y4⟩
  | [], [], _ :: _, _, _, h, _ => h.elim
  | [], _ :: _, _, _, _, h, _ => h.elim
  | false :: _, [], _, _, _, h, _ => h.elim
  | true :: _, [], _, _, _, h, _ => h.elim
  | false :: _, _ :: _, [], _, _, h, _ => h.elim
  | true :: _, _ :: _, [], _, _, h, _ => h.elim
theorem lent_inj : ∀ {bor : List Bool} {ds : List D} {vs : List V} {W : List Addr} {n i j : Nat} {d e : D}, ArgsAt K cl G H bor ds vs W → bor.length ≤ n → W.Nodup → (enE bor ds n)[i]? = some (some (Sl.bo d)) → (enE bor ds n)[j]? = some (some (Sl.bo e)) → lentA bor vs i = lentA bor vs j → i = j
  | [], [], [], W, n, i, j, d, e, _, _, _, h, _, _ => by
    simp only [enE] at h
    by_cases c : i < n
    · rw [List.getElem?_replicate] at h; rw [if_pos c] at h; cases h
    · rw [List.getElem?_replicate] at h; rw [if_neg c] at h; cases h
  | false :: bs, d0 :: ds, v :: vs, W, n, i, j, d, e, h, l, nd, hi, hj, he => by
    obtain ⟨m, rfl⟩ : ∃ m, n = m + 1 := ⟨n - 1, by simp at l; omega⟩
    cases i with
    | zero => simp [enE] at hi
    | succ i =>
      cases j with
      | zero => simp [enE] at hj
      | succ j => exact congrArg (· + 1) (lent_inj (n := m) h.2 (by simpa using l) nd (by simpa [enE] using hi) (by simpa [enE] using hj) (by simpa [lentA] using he))
  | true :: bs, d0 :: ds, v :: vs, W, n, i, j, d, e, ⟨a, W', e1, e2, h1, h2, h⟩, l, nd, hi, hj, he => by
    subst e1; subst e2
    obtain ⟨m, rfl⟩ : ∃ m, n = m + 1 := ⟨n - 1, by simp at l; omega⟩
    have nd' := List.nodup_cons.mp nd
    cases i with
    | zero =>
      cases j with
      | zero => rfl
      | succ j =>
        exfalso
        have := ((args_slots (n := m) h (by simpa using l)).2 j).2.2 e (by simpa [enE] using hj)
        have he' : a = lentA bs vs j := by simpa [lentA] using he
        exact nd'.1 (by rw [he']; exact this.2.2.2)
    | succ i =>
      cases j with
      | zero =>
        exfalso
        have := ((args_slots (n := m) h (by simpa using l)).2 i).2.2 d (by simpa [enE] using hi)
        have he' : lentA bs vs i = a := by simpa [lentA] using he
        exact nd'.1 (by rw [← he']; exact this.2.2.2)
      | succ j => exact congrArg (· + 1) (lent_inj (n := m) h (by simpa using l) nd'.2 (by simpa [enE] using hi) (by simpa [enE] using hj) (by simpa [lentA] using he))
  | [], [], _ :: _, _, _, _, _, _, _, h, _, _, _, _, _ => h.elim
  | [], _ :: _, _, _, _, _, _, _, _, h, _, _, _, _, _ => h.elim
  | false :: _, [], _, _, _, _, _, _, _, h, _, _, _, _, _ => h.elim
  | true :: _, [], _, _, _, _, _, _, _, h, _, _, _, _, _ => h.elim
  | false :: _, _ :: _, [], _, _, _, _, _, _, h, _, _, _, _, _ => h.elim
  | true :: _, _ :: _, [], _, _, _, _, _, _, h, _, _, _, _, _ => h.elim
theorem args_W : ∀ {bor : List Bool} {ds : List D} {vs : List V} {W : List Addr}, ArgsAt K cl G H bor ds vs W → ∀ a ∈ W, PlainAt H a
  | [], [], [], W, h, a, ha => by cases (show W = [] from h); cases ha
  | false :: bs, d :: ds, v :: vs, W, h, a, ha => args_W h.2 a ha
  | true :: bs, d :: ds, v :: vs, W, ⟨b, W', e1, e2, h1, h2, h⟩, a, ha => by
    subst e2
    rcases List.mem_cons.mp ha with rfl | ha
    · exact h1.plainAt
    · exact args_W h a ha
  | [], [], _ :: _, _, h, _, _ => h.elim
  | [], _ :: _, _, _, h, _, _ => h.elim
  | false :: _, [], _, _, h, _, _ => h.elim
  | true :: _, [], _, _, h, _, _ => h.elim
  | false :: _, _ :: _, [], _, h, _, _ => h.elim
  | true :: _, _ :: _, [], _, h, _, _ => h.elim
theorem start_get {N : List Str} {vs : List V} {i : Nat} {v : V} (h : vs[i]? = some v) : (L2.start N vs)[i]? = some (some v) := by
  unfold L2.start
  have hl := (List.getElem?_eq_some_iff.mp h).1
  rw [List.getElem?_append_left (by simpa using hl), List.getElem?_map, h]; rfl
theorem start_len {N : List Str} {vs : List V} (h : vs.length ≤ N.length) : (L2.start N vs).length = N.length := by
  unfold L2.start; simp; omega
/-- at the entry -/
theorem RelX.entry {bor : List Bool} {ds : List D} {vs : List V} {W : List Addr} {N : List Str} (s : Gd cl G H) (h : ArgsAt K cl G H bor ds vs W) (nd : W.Nodup) (l : bor.length ≤ N.length) : RelX ⟨K, cl, H, G, W, lentA bor vs, []⟩ [] (enE bor ds N.length) (L2.start N vs) H [] [] := by
  obtain ⟨q1, q2⟩ := args_slots (n := N.length) h l
  have hl := h.len
  have isb : ∀ i, IsOw (enE bor ds N.length) i → ∃ d, (enE bor ds N.length)[i]? = some (some (Sl.bo d)) := fun i ⟨d, hd⟩ => by
    rcases hd with hd | hd
    · exact absurd hd ((q2 i).2.1 d)
    · exact ⟨d, hd⟩
  refine ⟨G, lentA bor vs, { sub := s.sub, g0 := Sub.rfl', fr := fun a h1 h2 => absurd h2 h1, ext := fun a o e _ _ => e, tab := s.tab, ntb := s.ntb, pin := fun _ z => (nomatch z), wok := args_W h, shp := fun i d hd => ?_, owp := fun i d hd => absurd hd ((q2 i).2.1 d), bop := fun i d hd => ?_, anp := fun _ z => (nomatch z), inj := fun i j hi hj e => ?_, apart := fun _ _ _ z => (nomatch z), anN := List.nodup_nil, len := ?_, tmp := Reps.nil }⟩
  · obtain ⟨v, e, r⟩ := (q2 i).1 d hd; exact ⟨v, start_get e, r⟩
  · obtain ⟨e, r1, r2, r3⟩ := (q2 i).2.2 d hd; exact ⟨start_get e, r1, r2, r3, rfl⟩
  · obtain ⟨d, hd⟩ := isb i hi
    obtain ⟨e', he⟩ := isb j hj
    exact lent_inj h l nd hd he e
  · rw [q1, start_len (by rw [hl.2]; exact l)]
end
section
variable {K : PySem.W.Frag} {cl : Cl} {G H : Hp}
/-- what holds behind, by a relation to the entry -/
theorem RelG.after {W : List Addr} {B : Nat → Addr} {an : List (Addr × D)} {ρ : En} {σ : St} {H' : Hp} {ts : List V} {ds : List D} {G' : Hp} {own : Nat → Addr} {P : List (V × D)} (r : RelG ⟨K, cl, H, G, W, B, P⟩ an ρ σ H' ts ds G' own) : After cl.T G H W G' H' := ⟨r.g0, r.sub, r.fr, r.ext, r.tab, r.ntb⟩
/-- the lent slots behind: they hold what they held at the same addresses -/
theorem bor_after {W0 : List Addr} {B : Nat → Addr} {an : List (Addr × D)} {σ : St} {H' : Hp} {ts : List V} {es : List D} {G' : Hp} {own : Nat → Addr} {ρ : En} {P : List (V × D)} (r : RelG ⟨K, cl, H, G, W0, B, P⟩ an ρ σ H' ts es G' own) :
    ∀ {bor : List Bool} {ds : List D} {vs : List V} {W : List Addr} {bs : List D} (k : Nat) (ρ2 : En), ArgsAt K cl G H bor ds vs W → ρ.drop k = ρ2 → (∀ i, B (k + i) = lentA bor vs i) → bosD bor ρ2 = some bs → BorAt K cl G' H' W bs
  | [], [], [], W, bs, k, ρ2, h, _, _, e => by cases (show W = [] from h); cases e; trivial
  | false :: bo, d :: ds, v :: vs, W, bs, k, ρ2, h, hd, hv, e => by
    cases ρ2 with
    | nil => cases e
    | cons x ρ3 =>
      refine bor_after r (k + 1) ρ3 h.2 ?_ (fun i => ?_) e
      · rw [← List.drop_drop]; rw [hd]; rfl
      · rw [show k + 1 + i = k + (i + 1) by omega, hv (i + 1)]; rfl
  | true :: bo, d :: ds, v :: vs, W, bs, k, ρ2, ⟨a, W', e1, e2, h1, h2, h⟩, hd, hv, e => by
    subst e1; subst e2
    cases ρ2 with
    | nil => cases e
    | cons x ρ3 =>
      cases x with
      | none => cases e
      | some s =>
        cases s with
        | sh d => cases e
        | ow d => cases e
        | bo d1 =>
          obtain ⟨bs', e3, rfl⟩ := Option.map_eq_some_iff.mp (show (bosD bo ρ3).map (d1 :: ·) = some bs from e)
          have hk : ρ[k]? = some (some (Sl.bo d1)) := by
            have := congrArg (fun l => l[0]?) hd
            simpa using this
          obtain ⟨c1, c2, c3, c4, c5⟩ := r.bop k d1 hk
          have c6 : own k = a := c5.trans (by show B k = a; have := hv 0; rw [Nat.add_zero] at this; exact this)
          rw [c6] at c2 c3
          refine ⟨c2, c3, bor_after r (k + 1) ρ3 h ?_ (fun i => ?_) e3⟩
          · rw [← List.drop_drop]; rw [hd]; rfl
          · rw [show k + 1 + i = k + (i + 1) by omega, hv (i + 1)]; rfl
  | [], [], _ :: _, _, _, _, _, h, _, _, _ => h.elim
  | [], _ :: _, _, _, _, _, _, h, _, _, _ => h.elim
  | false :: _, [], _, _, _, _, _, h, _, _, _ => h.elim
  | true :: _, [], _, _, _, _, _, h, _, _, _ => h.elim
  | false :: _, _ :: _, [], _, _, _, _, h, _, _, _ => h.elim
  | true :: _, _ :: _, [], _, _, _, _, h, _, _, _ => h.elim
end
end Dl
end
section
set_option maxHeartbeats 4000000
/-! DlJ: a def keeps its promise; calls. -/
namespace Dl
open PySem PySem.Spec PyProof.Rows L2
theorem spF.len {K : PySem.W.Frag} {cl : Cl} {bor : List Bool} {F : List D → Fr} {ps : List Str} (h : bor.length = ps.length) : ∀ vs H Q E, spF K cl bor F vs H Q E → vs.length = ps.length := fun _ _ _ _ q => q.1.trans h
theorem fn_ok {P : Program} {w : World} {K : PySem.W.Frag} {mg : Str → Option Value} {base : Heap} {cl : Cl} {x qual : Str} {st : Stmt} {f : Addr} {fd : FuncData} {N ps : List Str} {k : Nat} {bor : List Bool} {g : En → Rs Fl}
    (F : Fun K x qual st f fd) (S : FnScope N ps (defScope st)) (hb : bor.length = ps.length) (hl : ps.length ≤ N.length)
    (hbody : ∀ (cdv : Value), CodeAt K f cdv → ∀ (A : Around) (outer : List Env) (s : Shared) (H : Hp) (E : XK) (H0 G0 : Hp) (W : List Addr) (B : Nat → Addr), RoomG k (A.deeper (envOfC qual (defScope st) s.heap.objs.size f cdv)) →
      SSs (cxOf (L2.CX P w) P w K mg base N qual (defScope st) f cdv A outer s H E) ⟨K, cl, H0, G0, W, B, []⟩ (fun cls d _ H => E cls d H) (defBody st) g) :
    FnG P w K mg base (L2.CX P w) (k + 1) f fd ps (spF K cl bor (bodyF bor N.length g)) := by
  refine fun_okG F S (spF.len hb) fun cdv hcd A outer s H vs Q E hr hsp => ?_
  obtain ⟨hv, G, ds, W, hs, ha, nd, fo⟩ := hsp
  have hdl := ha.len.1
  have ba : ∀ {an : List (Addr × D)} {ρ : En} {σ : St} {H' : Hp} {ts : List V} {es : List D} {G' : Hp} {own : Nat → Addr} (r : RelG ⟨K, cl, H, G, W, lentA bor vs, []⟩ an ρ σ H' ts es G' own) {bs : List D}, bosD bor ρ = some bs → BorAt K cl G' H' W bs :=
    fun r bs e => bor_after r 0 _ ha rfl (fun i => by rw [Nat.zero_add]) e
  refine ⟨_, hbody cdv hcd A outer s H E H G W (lentA bor vs) hr, [], enE bor ds N.length, [], [], RelX.entry hs ha nd (hb ▸ hl), ?_⟩
  unfold bodyF at fo
  rw [if_pos hdl] at fo
  revert fo
  cases hg : g (enE bor ds N.length) with
  | stuck => exact fun fo => fo.elim
  | err c fs es ρ =>
    intro fo σ C dx H' us hc hu he R
    obtain ⟨G', own, r⟩ := R
    dsimp only at fo
    cases e : bosD bor ρ with
    | none => rw [e] at fo; exact fo.elim
    | some bs =>
      rw [e] at fo
      have tm := r.tmp
      rw [List.append_nil, List.append_nil] at tm
      exact fo C dx G' H' us hc hu he r.after tm (ba r e)
  | ok fl ρ =>
    cases fl with
    | brk => exact fun fo => fo.elim
    | cont => exact fun fo => fo.elim
    | nx =>
      intro fo σ H' R
      obtain ⟨G', own, r⟩ := R
      dsimp only at fo
      cases e : bosD bor ρ with
      | none => rw [e] at fo; exact fo.elim
      | some bs =>
        rw [e] at fo
        exact fo .non G' H' r.after rfl (ba r e)
    | ret d =>
      intro fo v σ H' R
      obtain ⟨G', own, r⟩ := R
      dsimp only at fo
      cases e : bosD bor ρ with
      | none => rw [e] at fo; exact fo.elim
      | some bs =>
        rw [e] at fo
        exact fo v G' H' r.after r.tmp.head (ba r e)
    | retL d =>
      intro fo v σ H' R
      obtain ⟨G', own, r⟩ := R.anShare
      dsimp only at fo
      cases e : bosD bor ρ with
      | none => rw [e] at fo; exact fo.elim
      | some bs =>
        rw [e] at fo
        exact fo (.ref v) G' H' r.after r.tmp.head (ba r e)
/-- .. whose answer is a fresh object -/
def FrOkL (K : PySem.W.Frag) (cl : Cl) (G H : Hp) (W : List Addr) (r : Fr) (Q : VK) (E : XK) : Prop := match r with
  | .ok d bs => ∀ p G' H', After cl.T G H W G' H' → OwAt K cl G' H' p d → G' p = none → Nn H p → BorAt K cl G' H' W bs → Q (.ref p) H'
  | .err c fs es bs => ∀ C dx G' H' vs, cl c = some C → vs.length = es.length → ErrD fs vs dx H H' → After cl.T G H W G' H' → Reps K cl G' es vs → BorAt K cl G' H' W bs → E (.ref C) dx H'
  | .stuck => False
def spL (K : PySem.W.Frag) (cl : Cl) (bor : List Bool) (F : List D → Fr) : Sp := fun vs H Q E => vs.length = bor.length ∧ ∃ (G : Hp) (ds : List D) (W : List Addr), Gd cl G H ∧ ArgsAt K cl G H bor ds vs W ∧ W.Nodup ∧ FrOkL K cl G H W (F ds) Q E
def bodyL (bor : List Bool) (n : Nat) (f : En → Rs Fl) : List D → Fr := fun ds => if ds.length = bor.length then match f (enE bor ds n) with
    | .ok (.retL d) ρ => (match bosD bor ρ with | some bs => .ok d bs | none => .stuck)
    | .err c fs es ρ => (match bosD bor ρ with | some bs => .err c fs es bs | none => .stuck)
    | _ => .stuck
  else .stuck
theorem spL.len {K : PySem.W.Frag} {cl : Cl} {bor : List Bool} {F : List D → Fr} {ps : List Str} (h : bor.length = ps.length) : ∀ vs H Q E, spL K cl bor F vs H Q E → vs.length = ps.length := fun _ _ _ _ q => q.1.trans h
theorem fn_okL {P : Program} {w : World} {K : PySem.W.Frag} {mg : Str → Option Value} {base : Heap} {cl : Cl} {x qual : Str} {st : Stmt} {f : Addr} {fd : FuncData} {N ps : List Str} {k : Nat} {bor : List Bool} {g : En → Rs Fl}
    (F : Fun K x qual st f fd) (S : FnScope N ps (defScope st)) (hb : bor.length = ps.length) (hl : ps.length ≤ N.length)
    (hbody : ∀ (cdv : Value), CodeAt K f cdv → ∀ (A : Around) (outer : List Env) (s : Shared) (H : Hp) (E : XK) (H0 G0 : Hp) (W : List Addr) (B : Nat → Addr), RoomG k (A.deeper (envOfC qual (defScope st) s.heap.objs.size f cdv)) →
      SSs (cxOf (L2.CX P w) P w K mg base N qual (defScope st) f cdv A outer s H E) ⟨K, cl, H0, G0, W, B, []⟩ (fun cls d _ H => E cls d H) (defBody st) g) :
    FnG P w K mg base (L2.CX P w) (k + 1) f fd ps (spL K cl bor (bodyL bor N.length g)) := by
  refine fun_okG F S (spL.len hb) fun cdv hcd A outer s H vs Q E hr hsp => ?_
  obtain ⟨hv, G, ds, W, hs, ha, nd, fo⟩ := hsp
  have hdl := ha.len.1
  have ba : ∀ {an : List (Addr × D)} {ρ : En} {σ : St} {H' : Hp} {ts : List V} {es : List D} {G' : Hp} {own : Nat → Addr} (r : RelG ⟨K, cl, H, G, W, lentA bor vs, []⟩ an ρ σ H' ts es G' own) {bs : List D}, bosD bor ρ = some bs → BorAt K cl G' H' W bs :=
    fun r bs e => bor_after r 0 _ ha rfl (fun i => by rw [Nat.zero_add]) e
  refine ⟨_, hbody cdv hcd A outer s H E H G W (lentA bor vs) hr, [], enE bor ds N.length, [], [], RelX.entry hs ha nd (hb ▸ hl), ?_⟩
  unfold bodyL at fo
  rw [if_pos hdl] at fo
  revert fo
  cases hg : g (enE bor ds N.length) with
  | stuck => exact fun fo => fo.elim
  | err c fs es ρ =>
    intro fo σ C dx H' us hc hu he R
    obtain ⟨G', own, r⟩ := R
    dsimp only at fo
    cases e : bosD bor ρ with
    | none => rw [e] at fo; exact fo.elim
    | some bs =>
      rw [e] at fo
      have tm := r.tmp
      rw [List.append_nil, List.append_nil] at tm
      exact fo C dx G' H' us hc hu he r.after tm (ba r e)
  | ok fl ρ =>
    cases fl with
    | brk => exact fun fo => fo.elim
    | cont => exact fun fo => fo.elim
    | nx => exact fun fo => fo.elim
    | ret d => exact fun fo => fo.elim
    | retL d =>
      intro fo v σ H' R
      obtain ⟨G', own, r⟩ := R
      dsimp only at fo
      cases e : bosD bor ρ with
      | none => rw [e] at fo; exact fo.elim
      | some bs =>
        rw [e] at fo
        obtain ⟨c1, c2, c3⟩ := r.anp _ List.mem_cons_self
        exact fo v G' H' r.after c1 c2 c3 (ba r e)
/-! ### calls -/
section
variable {X : Cx} {CX : CXT} {k : Nat} {f : Addr} {fd : FuncData} {ps : List Str} {sp : Sp} {E : St → XK} {x : Str} {p pos : Pos} {e : Expr} {es : List Expr} {t : TA}
/-- x(e, ..) -/
theorem pe_callG (F : FnG X.prog X.w X.K X.mg X.base CX k f fd ps sp) (z : RoomG k X.A) (gl : Gl X x) (m : X.mg x = some (.ref f)) (kp : PySem.W.keepIn X.K (.ref f) = true) (bd : Binds X.K fd ps []) (ok : ∀ σ, PassesAt CX X σ (E σ)) (ar : PA X (e :: es) t)
    (db : (x == ("__debug__" : Str)) = false) (st : starEach (e :: es) X.env = (false, eval e X.env) :: starEach es X.env) (pl : (backTo pos (starEach es X.env)).any (·.1) = false) : PE X (.Call (.Name x p) (e :: es) [] pos) (tCallS sp E t) :=
  ⟨fun pn s σ H Q I q => wpAny_Call_Name_kw (ld_glob I gl m (PySem.W.callWith_K (h₀ := X.base) I.ok.mod.kin kp (thn (ar.run pos pn s σ H _ I q) fun _ _ ⟨_, _, I1, r, q1⟩ => ⟨I1.kIn, run_fnG F z bd (ok σ) I1 r q1⟩) st pl) db)⟩
end
/-! ### behind a call -/
section
variable {M : Mc} {an an2 : List (Addr × D)} {ρ ρ2 : En} {σ : St} {H H' : Hp} {ts us : List V} {ds fs : List D} {G G' : Hp} {own : Nat → Addr} {W : List Addr}
theorem RelG.called (r : RelG M an ρ σ H us fs G own) (A : After M.cl.T G H W G' H') (hW : ∀ a ∈ W, Nn M.H0 a ∨ a ∈ M.W) (hWo : ∀ a ∈ W, PlainAt H' a)
    (hs : ∀ (i : Nat) (s : Sl), ρ2[i]? = some (some s) → (ρ[i]? = some (some s) ∧ (IsOw ρ i → own i ∉ W)) ∨ (∃ d b : D, ((ρ[i]? = some (some (.ow d)) ∧ s = .ow b) ∨ (ρ[i]? = some (some (.bo d)) ∧ s = .bo b)) ∧ OwAt M.K M.cl G' H' (own i) b ∧ G' (own i) = none))
    (hl : ρ2.length = ρ.length) (ha : an2.map (·.1) = an.map (·.1)) (hp : ∀ p ∈ an2, (p ∈ an ∧ p.1 ∉ W) ∨ ((∃ d : D, (p.1, d) ∈ an) ∧ OwAt M.K M.cl G' H' p.1 p.2 ∧ G' p.1 = none))
    (ht : Reps M.K M.cl G' ds ts) : RelG M an2 ρ2 σ H' ts ds G' own := by
  have gno : ∀ a : Addr, G a = none → PlainAt H a → G' a = none := fun a g po => by
    by_cases c : G' a = none
    · exact c
    · exact (po.nn (A.fr a c g)).elim
  have isw : ∀ i, IsOw ρ2 i → IsOw ρ i := fun i ⟨d, hd⟩ => by
    rcases hd with hd | hd
    · rcases hs i _ hd with ⟨e, _⟩ | ⟨d', b, (⟨e, _⟩ | ⟨e, _⟩), _⟩
      · exact ⟨_, .inl e⟩
      · exact ⟨_, .inl e⟩
      · exact ⟨_, .inr e⟩
    · rcases hs i _ hd with ⟨e, _⟩ | ⟨d', b, (⟨e, _⟩ | ⟨e, _⟩), _⟩
      · exact ⟨_, .inr e⟩
      · exact ⟨_, .inl e⟩
      · exact ⟨_, .inr e⟩
  have old : ∀ a : Addr, ¬ Nn M.H0 a → a ∉ M.W → a ∉ W := fun a h1 h2 h3 => by
    rcases hW a h3 with h | h
    · exact h1 h
    · exact h2 h
  have inan : ∀ p ∈ an2, ∃ d : D, (p.1, d) ∈ an := fun p q => by
    rcases hp p q with ⟨h, _⟩ | ⟨h, _⟩
    · exact ⟨p.2, h⟩
    · exact h
  refine { sub := A.gh, g0 := fun a o e => A.gg a o (r.g0 a o e), fr := fun a h1 h2 => ?_, ext := fun a o e w nt => ?_, tab := A.tab, ntb := A.ntb, pin := fun q hq => Rep.mono A.gg _ _ (r.pin q hq), wok := fun a h => ?_, shp := fun i d hd => ?_, owp := fun i d hd => ?_, bop := fun i d hd => ?_, anp := fun p hpp => ?_, inj := fun i j hi hj => r.inj i j (isw i hi) (isw j hj), apart := fun i hi p hpp => ?_, anN := ha ▸ r.anN, len := hl.trans r.len, tmp := ht }
  · by_cases c : G a = none
    · exact r.h1 (A.fr a h1 c)
    · exact r.fr a c h2
  · exact A.ext a o (r.ext a o e w nt) (old a (fun n => let ⟨ps, z⟩ := n o e; nt ps z) w) nt
  · by_cases c : a ∈ W
    · exact hWo a c
    · obtain ⟨o, ho, po⟩ := r.wok a h; exact ⟨o, A.ext a o ho c po.1, po⟩
  · rcases hs i _ hd with ⟨e, _⟩ | ⟨d', b, (⟨_, e⟩ | ⟨_, e⟩), _⟩
    · obtain ⟨v, e1, e2⟩ := r.shp i d e; exact ⟨v, e1, e2.mono A.gg⟩
    · cases e
    · cases e
  · rcases hs i _ hd with ⟨e, n⟩ | ⟨d', b, (⟨e, e2⟩ | ⟨_, e2⟩), q1, q2⟩
    · obtain ⟨e1, e2, e3, e4⟩ := r.owp i d e
      have nw := n ⟨_, .inl e⟩
      exact ⟨e1, e2.mono A.gg fun o h => A.ext _ o h nw (e2.plain h).1, gno _ e3 e2.plainAt, e4⟩
    · cases e2
      obtain ⟨e1, e2, e3, e4⟩ := r.owp i d' e
      exact ⟨e1, q1, q2, e4⟩
    · cases e2
  · rcases hs i _ hd with ⟨e, n⟩ | ⟨d', b, (⟨e, e2⟩ | ⟨e, e2⟩), q1, q2⟩
    · obtain ⟨e1, e2, e3, e4⟩ := r.bop i d e
      have nw := n ⟨_, .inr e⟩
      exact ⟨e1, e2.mono A.gg fun o h => A.ext _ o h nw (e2.plain h).1, gno _ e3 e2.plainAt, e4⟩
    · cases e2
    · cases e2
      obtain ⟨e1, e2, e3, e4⟩ := r.bop i d' e
      exact ⟨e1, q1, q2, e4⟩
  · rcases hp p hpp with ⟨h, n⟩ | ⟨⟨d, h⟩, q1, q2⟩
    · obtain ⟨e1, e2, e3⟩ := r.anp p h
      exact ⟨e1.mono A.gg fun o h => A.ext _ o h n (e1.plain h).1, gno _ e2 e1.plainAt, e3⟩
    · exact ⟨q1, q2, (r.anp _ h).2.2⟩
  · obtain ⟨d, h⟩ := inan p hpp
    exact r.apart i (isw i hi) (p.1, d) h
end
/-! ### arguments, the lent ones among them -/
def Mix : List (Option Nat) → List V → List V → St → Prop
  | [], vs, ws, _ => vs = [] ∧ ws = []
  | none :: as, vs, ws, σ => ∃ v vs' ws', vs = v :: vs' ∧ ws = v :: ws' ∧ Mix as vs' ws' σ
  | some i :: as, vs, ws, σ => ∃ v vs', vs = v :: vs' ∧ σ[i]? = some (some v) ∧ Mix as vs' ws σ
def BAOk (M : Mc) (an : List (Addr × D)) (ts : List V) (ds : List D) (W : WX) (σ : St) (as : List (Option Nat)) (r : Rs (List D)) (Q : List V → Hp → Prop) : Prop := match r with
  | .ok es ρ => ∀ vs ws H', Mix as vs ws σ → ws.length = es.length → RelX M an ρ σ H' (ws ++ ts) (es ++ ds) → Q vs H'
  | .err c fs es ρ => EErr M an ts ds W σ c fs es ρ
  | .stuck => False
def tAB (M : Mc) (W : WX) (as : List (Option Nat)) (g : En → Rs (List D)) : TA := fun σ H Q => ∃ an ρ ts ds, RelX M an ρ σ H ts ds ∧ BAOk M an ts ds W σ as (g ρ) Q
abbrev SAB (X : Cx) (M : Mc) (W : WX) (es : List Expr) (as : List (Option Nat)) (g : En → Rs (List D)) : Prop := PA X es (tAB M W as g)
def fLent (i : Nat) (g : En → Rs (List D)) : En → Rs (List D) := fun ρ => match owned ρ i with
  | some _ => g ρ
  | none => .stuck
def mixD : List (Option Nat) → List D → En → Option (List D)
  | [], [], _ => some []
  | none :: as, d :: ds, ρ => (mixD as ds ρ).map (d :: ·)
  | some i :: as, ds, ρ => match owned ρ i with
    | some d => (mixD as ds ρ).map (d :: ·)
    | none => none
  | _, _, _ => none
def putB : List (Option Nat) → List D → En → Option En
  | [], [], ρ => some ρ
  | none :: as, bs, ρ => putB as bs ρ
  | some i :: as, b :: bs, ρ => putB as bs (putSl ρ i b)
  | _, _, _ => none
def slotsB : List (Option Nat) → List Nat
  | [] => []
  | none :: as => slotsB as
  | some i :: as => i :: slotsB as
def fFn (as : List (Option Nat)) (F : List D → Fr) (g : En → Rs (List D)) : En → Rs D := fun ρ => (g ρ).bind fun es ρ1 => match mixD as es ρ1 with
  | none => .stuck
  | some ds => match F ds with
    | .ok d bs => (match putB as bs ρ1 with
      | some ρ2 => .ok d ρ2
      | none => .stuck)
    | .err c fs es' bs => (match putB as bs ρ1 with
      | some ρ2 => .err c fs es' ρ2
      | none => .stuck)
    | .stuck => .stuck
section
variable {X : Cx} {M : Mc} {W : WX} {e : Expr} {es : List Expr} {as : List (Option Nat)} {f : En → Rs D} {g : En → Rs (List D)}
theorem sab_nil : SAB X M W [] [] fNil := by
  refine pa_imp pa_nil fun σ H Q h => ?_
  obtain ⟨an, ρ, ts, ds, R, h⟩ := h
  exact h [] [] H ⟨rfl, rfl⟩ rfl R
theorem sab_v (he : SE X M W e f) (hr : SAB X M W es as g) (hs : starEach (e :: es) X.env = (false, eval e X.env) :: starEach es X.env := by rfl) : SAB X M W (e :: es) (none :: as) (fCons f g) := by
  refine pa_imp (pa_cons he hr hs) fun σ H Q h => ?_
  obtain ⟨an, ρ, ts, ds, R, h⟩ := h
  refine ⟨an, ρ, ts, ds, R, EOk.bind (P := fun r => BAOk M an ts ds W σ (none :: as) r Q) h (fun _ _ _ _ q => q) (fun q => q) fun d ρ1 v H1 R1 h1 => ?_⟩
  refine ⟨an, ρ1, v :: ts, d :: ds, R1, ?_⟩
  revert h1
  unfold BAOk
  cases g ρ1 with
  | stuck => exact fun h => h
  | err c fs es2 ρ2 => exact fun h => h.weak1
  | ok es2 ρ2 =>
    intro h us ws H2 m l R2
    refine h (v :: us) (v :: ws) H2 ⟨v, us, ws, rfl, rfl, m⟩ (by simp [l]) ?_
    refine R2.temps fun G _ q => ?_
    obtain ⟨q1, q2⟩ := Reps.split l.symm q
    exact Reps.cons q2.head (q1.append q2.tail)
theorem sab_b (i : Nat) {x : Str} {pos : Pos} (hr : SAB X M W es as g) (hs : starEach (.Name x pos :: es) X.env = (false, eval (.Name x pos) X.env) :: starEach es X.env := by rfl) (hN : X.N[i]? = some x := by rfl) (hv : Vis X.env.scope x := by first | exact Or.inl rfl | exact Or.inr (Or.inl rfl) | exact Or.inr (Or.inr rfl)) (hd : (x == ("__debug__" : Str)) = false := by decide)
    (hcd : (x == ("__classdict__" : Str)) = false := by decide) : SAB X M W (.Name x pos :: es) (some i :: as) (fLent i g) := by
  refine pa_imp (pa_cons (pe_var hN hv hd hcd) hr hs) fun σ H Q h => ?_
  obtain ⟨an, ρ, ts, ds, R, h⟩ := h
  unfold fLent at h
  cases ho : owned ρ i with
  | none => rw [ho] at h; exact h.elim
  | some d =>
    rw [ho] at h
    dsimp only at h
    obtain ⟨v, hv, _⟩ := R.cont_at (cont_of_owned ho)
    refine ⟨v, hv, an, ρ, ts, ds, R, ?_⟩
    revert h
    unfold BAOk
    cases g ρ with
    | stuck => exact fun h => h
    | err c fs es2 ρ2 => exact fun h => h
    | ok es2 ρ2 =>
      intro h us ws H2 m l R2
      exact h (v :: us) ws H2 ⟨v, us, rfl, hv, m⟩ l R2
end
end Dl
end
section
set_option maxHeartbeats 4000000
/-! DlK: the call of a def. -/
namespace Dl
open PySem PySem.Spec PyProof.Rows L2
theorem nodup_mapI {α β : Type} {f : α → β} : ∀ {l : List α}, l.Nodup → (∀ i ∈ l, ∀ j ∈ l, f i = f j → i = j) → (l.map f).Nodup
  | [], _, _ => List.nodup_nil
  | a :: l, h, i => by
    have h' := List.nodup_cons.mp h
    refine List.nodup_cons.mpr ⟨fun z => ?_, nodup_mapI h'.2 fun x hx y hy => i x (List.mem_cons_of_mem _ hx) y (List.mem_cons_of_mem _ hy)⟩
    obtain ⟨b, hb, e⟩ := List.mem_map.mp z
    exact h'.1 (i b (List.mem_cons_of_mem _ hb) a List.mem_cons_self e ▸ hb)
def borL (as : List (Option Nat)) : List Bool := as.map fun x => x.isSome
section
variable {M : Mc} {an : List (Addr × D)} {ρ ρ2 : En} {σ : St} {H H' : Hp} {ts us : List V} {ds fs : List D} {G G' : Hp} {own : Nat → Addr} {W : List Addr}
theorem RelG.mix (r : RelG M an ρ σ H us fs G own) : ∀ {as : List (Option Nat)} {vs ws : List V} {es ds : List D}, Mix as vs ws σ → ws.length = es.length → Reps M.K M.cl G es ws → mixD as es ρ = some ds →
    ArgsAt M.K M.cl G H (borL as) ds vs ((slotsB as).map own) ∧ (∀ i ∈ slotsB as, IsOw ρ i) ∧ vs.length = (borL as).length
  | [], vs, ws, es, ds, m, l, q, e => by
    obtain ⟨rfl, rfl⟩ := m
    cases es with
    | cons => cases l
    | nil => cases e; exact ⟨rfl, fun i z => (nomatch z), rfl⟩
  | none :: as, vs, ws, es, ds, m, l, q, e => by
    obtain ⟨v, vs', ws', rfl, rfl, m⟩ := m
    cases es with
    | nil => cases l
    | cons d0 es =>
      obtain ⟨ds', e', rfl⟩ := Option.map_eq_some_iff.mp (show (mixD as es ρ).map (d0 :: ·) = some ds from e)
      obtain ⟨q1, q2, q3⟩ := RelG.mix r m (by simpa using l) q.tail e'
      exact ⟨⟨q.head, q1⟩, q2, by simp [borL] at q3 ⊢; exact q3⟩
  | some i :: as, vs, ws, es, ds, m, l, q, e => by
    obtain ⟨v, vs', rfl, hv, m⟩ := m
    unfold mixD at e
    cases ho : Dl.owned ρ i with
    | none => rw [ho] at e; cases e
    | some d0 =>
      rw [ho] at e
      obtain ⟨ds', e', rfl⟩ := Option.map_eq_some_iff.mp e
      obtain ⟨q1, q2, q3⟩ := RelG.mix r m l q e'
      have z : σ[i]? = some (some (.ref (own i))) ∧ OwAt M.K M.cl G H (own i) d0 ∧ G (own i) = none := by
        rcases owned_is ho with c | c
        · obtain ⟨a1, a2, a3, _⟩ := r.owp i d0 c; exact ⟨a1, a2, a3⟩
        · obtain ⟨a1, a2, a3, _⟩ := r.bop i d0 c; exact ⟨a1, a2, a3⟩
      have hve : v = .ref (own i) := by
        have := hv.symm.trans z.1
        injection this with this; injection this
      refine ⟨⟨own i, _, hve, rfl, z.2.1, z.2.2, q1⟩, fun j hj => ?_, by simp [borL] at q3 ⊢; exact q3⟩
      rcases List.mem_cons.mp hj with rfl | hj
      · exact ⟨d0, owned_is ho⟩
      · exact q2 j hj
theorem putSl_len {i : Nat} {b : D} : (putSl ρ i b).length = ρ.length := by unfold putSl; split <;> simp
theorem isOw_put {i j : Nat} {b : D} (h : IsOw ρ j) : IsOw (putSl ρ i b) j := by
  by_cases hij : i = j
  · subst hij
    obtain ⟨d, hd⟩ := h
    rcases hd with hd | hd
    · have hl := (List.getElem?_eq_some_iff.mp hd).1
      exact ⟨b, .inl (by unfold putSl; rw [hd]; simp [hl])⟩
    · have hl := (List.getElem?_eq_some_iff.mp hd).1
      exact ⟨b, .inr (by unfold putSl; rw [hd]; simp [hl])⟩
  · obtain ⟨d, hd⟩ := h
    exact ⟨d, by rw [putSl_get hij]; exact hd⟩
theorem put_get {K : PySem.W.Frag} {cl : Cl} : ∀ {as : List (Option Nat)} {bs : List D} {ρ ρ2 : En}, BorAt K cl G' H' ((slotsB as).map own) bs → putB as bs ρ = some ρ2 → (slotsB as).Nodup → (∀ i ∈ slotsB as, IsOw ρ i) →
    (∀ (i : Nat) (s : Sl), ρ2[i]? = some (some s) → (ρ[i]? = some (some s) ∧ i ∉ slotsB as) ∨ (i ∈ slotsB as ∧ ∃ d b : D, ((ρ[i]? = some (some (.ow d)) ∧ s = .ow b) ∨ (ρ[i]? = some (some (.bo d)) ∧ s = .bo b)) ∧ OwAt K cl G' H' (own i) b ∧ G' (own i) = none)) ∧ ρ2.length = ρ.length
  | [], [], ρ, ρ2, hb, e, nd, ho => by cases e; exact ⟨fun i s h => .inl ⟨h, fun z => nomatch z⟩, rfl⟩
  | none :: as, bs, ρ, ρ2, hb, e, nd, ho => put_get (as := as) hb e nd ho
  | some i :: as, b :: bs, ρ, ρ2, hb, e, nd, ho => by
    have nd' := List.nodup_cons.mp nd
    obtain ⟨q1, q2⟩ := put_get (as := as) (ρ := putSl ρ i b) hb.2.2 e nd'.2 (fun j hj => isOw_put (ho j (List.mem_cons_of_mem _ hj)))
    refine ⟨fun j s h => ?_, q2.trans putSl_len⟩
    by_cases hij : i = j
    · subst hij
      rcases q1 i s h with ⟨h1, h2⟩ | ⟨hin, d, b', h1, h2, h3⟩
      · obtain ⟨d, hd⟩ := ho i List.mem_cons_self
        refine .inr ⟨List.mem_cons_self, ?_⟩
        rcases hd with hd | hd
        · have hl := (List.getElem?_eq_some_iff.mp hd).1
          have : (putSl ρ i b)[i]? = some (some (.ow b)) := by unfold putSl; rw [hd]; simp [hl]
          rw [this] at h1; injection h1 with h1; injection h1 with h1
          exact ⟨d, b, .inl ⟨hd, h1.symm⟩, hb.1, hb.2.1⟩
        · have hl := (List.getElem?_eq_some_iff.mp hd).1
          have : (putSl ρ i b)[i]? = some (some (.bo b)) := by unfold putSl; rw [hd]; simp [hl]
          rw [this] at h1; injection h1 with h1; injection h1 with h1
          exact ⟨d, b, .inr ⟨hd, h1.symm⟩, hb.1, hb.2.1⟩
      · exact absurd hin nd'.1
    · rcases q1 j s h with ⟨h1, h2⟩ | ⟨hin, d, b', h1, h2⟩
      · rw [putSl_get hij] at h1
        exact .inl ⟨h1, fun z => by rcases List.mem_cons.mp z with rfl | z; exact hij rfl; exact h2 z⟩
      · rw [putSl_get hij] at h1
        exact .inr ⟨List.mem_cons_of_mem _ hin, d, b', h1, h2⟩
  | [], _ :: _, ρ, ρ2, hb, e, nd, ho => by cases e
  | some i :: as, [], ρ, ρ2, hb, e, nd, ho => by cases e
/-- from a promise to what a call does -/
theorem call_end {E : XK} {Q : VK} {Wx : WX} {as : List (Option Nat)} {F : List D → Fr} {ρ1 : En} {ts : List V} {ds0 es : List D} {vs ws : List V} (hnd : (slotsB as).Nodup) (hE : ∀ c d H, Wx c d σ H → E c d H)
    (m : Mix as vs ws σ) (l : ws.length = es.length) (R : RelX M an ρ1 σ H (ws ++ ts) (es ++ ds0))
    (h : EOk M an ts ds0 Wx σ ((fFn as F (fun ρ => .ok es ρ)) ρ1) Q) : spF M.K M.cl (borL as) F vs H Q E := by
  obtain ⟨G, own, r⟩ := R
  obtain ⟨t1, t2⟩ := Reps.split l.symm r.tmp
  unfold fFn Rs.bind at h
  dsimp only at h
  cases hm : mixD as es ρ1 with
  | none => rw [hm] at h; exact h.elim
  | some ds =>
    rw [hm] at h
    dsimp only at h
    obtain ⟨q1, q2, q3⟩ := r.mix m l t1 hm
    have ndW : ((slotsB as).map own).Nodup := nodup_mapI hnd (fun i hi j hj e => r.inj i j (q2 i hi) (q2 j hj) e)
    have hW : ∀ a ∈ (slotsB as).map own, Nn M.H0 a ∨ a ∈ M.W := fun a ha => by
      obtain ⟨i, hi, rfl⟩ := List.mem_map.mp ha
      obtain ⟨d, hd⟩ := q2 i hi
      rcases hd with hd | hd
      · exact .inl (r.owp i d hd).2.2.2
      · exact .inr (r.bop i d hd).2.2.2.1
    have wo : ∀ {G' H' : Hp} {W : List Addr} {bs : List D}, BorAt M.K M.cl G' H' W bs → ∀ a ∈ W, PlainAt H' a := by
      intro G' H' W
      induction W with
      | nil => exact fun _ a z => nomatch z
      | cons b W ih =>
        intro bs h a ha
        cases bs with
        | nil => exact h.elim
        | cons d bs =>
          rcases List.mem_cons.mp ha with rfl | ha
          · exact h.1.plainAt
          · exact ih h.2.2 a ha
    have fin : ∀ {G' H' : Hp} {bs : List D} {ρ2 : En} {ts' : List V} {ds' : List D}, After M.cl.T G H ((slotsB as).map own) G' H' → BorAt M.K M.cl G' H' ((slotsB as).map own) bs → putB as bs ρ1 = some ρ2 → Reps M.K M.cl G' ds' ts' → RelX M an ρ2 σ H' ts' ds' :=
      fun {G' H' bs ρ2 ts' ds'} A hb hp ht => by
        obtain ⟨p1, p2⟩ := put_get hb hp hnd q2
        refine ⟨G', own, r.called A hW (wo hb) (fun i s hs => ?_) p2 rfl (fun p hp => .inl ⟨hp, fun z => ?_⟩) ht⟩
        · rcases p1 i s hs with ⟨h1, h2⟩ | ⟨_, h1⟩
          · refine .inl ⟨h1, fun ow z => ?_⟩
            obtain ⟨j, hj, e⟩ := List.mem_map.mp z
            exact h2 (r.inj j i (q2 j hj) ow e ▸ hj)
          · exact .inr h1
        · obtain ⟨j, hj, e⟩ := List.mem_map.mp z
          exact r.apart j (q2 j hj) p hp e
    refine ⟨q3, G, ds, _, ⟨r.sub, r.tab, r.ntb⟩, q1, ndW, ?_⟩
    revert h
    unfold FrOk
    cases F ds with
    | stuck => exact fun h => h
    | ok d bs =>
      intro h v G' H' A rv hb
      dsimp only at h
      cases hp : putB as bs ρ1 with
      | none => rw [hp] at h; exact h.elim
      | some ρ2 =>
        rw [hp] at h
        exact h v H' (fin A hb hp (Reps.cons rv (t2.mono A.gg)))
    | err c fs es' bs =>
      intro h C dx G' H' us hc lu he A rv hb
      dsimp only at h
      cases hp : putB as bs ρ1 with
      | none => rw [hp] at h; exact h.elim
      | some ρ2 =>
        rw [hp] at h
        exact hE _ _ _ (h C dx H' us hc lu (he.up fun _ n => r.h1 n) (fin A hb hp (rv.append (t2.mono A.gg))))
theorem isOw_back {ρ ρ2 : En} {i : Nat} (h : ∀ (i : Nat) (s : Sl), ρ2[i]? = some (some s) → ρ[i]? = some (some s) ∨ ∃ d b : D, (ρ[i]? = some (some (.ow d)) ∧ s = .ow b) ∨ (ρ[i]? = some (some (.bo d)) ∧ s = .bo b)) (w : IsOw ρ2 i) : IsOw ρ i := by
  obtain ⟨d, hd⟩ := w
  rcases hd with hd | hd
  · rcases h i _ hd with e | ⟨d', b, (⟨e, _⟩ | ⟨e, _⟩)⟩
    · exact ⟨_, .inl e⟩
    · exact ⟨_, .inl e⟩
    · exact ⟨_, .inr e⟩
  · rcases h i _ hd with e | ⟨d', b, (⟨e, _⟩ | ⟨e, _⟩)⟩
    · exact ⟨_, .inr e⟩
    · exact ⟨_, .inl e⟩
    · exact ⟨_, .inr e⟩
theorem RelG.addAn {p : Addr} {d : D} (r : RelG M an ρ σ H ts ds G own) (h1 : OwAt M.K M.cl G H p d) (h2 : G p = none) (h3 : Nn M.H0 p) (h4 : ∀ i, IsOw ρ i → own i ≠ p) (h5 : ∀ x ∈ an, x.1 ≠ p) : RelG M ((p, d) :: an) ρ σ H ts ds G own :=
  { r with
    anp := fun x hx => by
      rcases List.mem_cons.mp hx with rfl | hx
      · exact ⟨h1, h2, h3⟩
      · exact r.anp x hx
    apart := fun i hi x hx => by
      rcases List.mem_cons.mp hx with rfl | hx
      · exact h4 i hi
      · exact r.apart i hi x hx
    anN := by
      simp only [List.map_cons, List.nodup_cons]
      refine ⟨fun z => ?_, r.anN⟩
      obtain ⟨x, hx, e⟩ := List.mem_map.mp z
      exact h5 x hx e }
/-- from a promise to what a call does -/
theorem call_endL {E : XK} {Q : VK} {Wx : WX} {as : List (Option Nat)} {F : List D → Fr} {ρ1 : En} {ts : List V} {ds0 es : List D} {vs ws : List V} (hnd : (slotsB as).Nodup) (hE : ∀ c d H, Wx c d σ H → E c d H)
    (m : Mix as vs ws σ) (l : ws.length = es.length) (R : RelX M an ρ1 σ H (ws ++ ts) (es ++ ds0))
    (h : LOk M an ts ds0 Wx σ ((fFn as F (fun ρ => .ok es ρ)) ρ1) Q) : spL M.K M.cl (borL as) F vs H Q E := by
  obtain ⟨G, own, r⟩ := R
  obtain ⟨t1, t2⟩ := Reps.split l.symm r.tmp
  unfold fFn Rs.bind at h
  dsimp only at h
  cases hm : mixD as es ρ1 with
  | none => rw [hm] at h; exact h.elim
  | some ds =>
    rw [hm] at h
    dsimp only at h
    obtain ⟨q1, q2, q3⟩ := r.mix m l t1 hm
    have ndW : ((slotsB as).map own).Nodup := nodup_mapI hnd (fun i hi j hj e => r.inj i j (q2 i hi) (q2 j hj) e)
    have hW : ∀ a ∈ (slotsB as).map own, Nn M.H0 a ∨ a ∈ M.W := fun a ha => by
      obtain ⟨i, hi, rfl⟩ := List.mem_map.mp ha
      obtain ⟨d, hd⟩ := q2 i hi
      rcases hd with hd | hd
      · exact .inl (r.owp i d hd).2.2.2
      · exact .inr (r.bop i d hd).2.2.2.1
    have wo : ∀ {G' H' : Hp} {W : List Addr} {bs : List D}, BorAt M.K M.cl G' H' W bs → ∀ a ∈ W, PlainAt H' a := by
      intro G' H' W
      induction W with
      | nil => exact fun _ a z => nomatch z
      | cons b W ih =>
        intro bs h a ha
        cases bs with
        | nil => exact h.elim
        | cons d bs =>
          rcases List.mem_cons.mp ha with rfl | ha
          · exact h.1.plainAt
          · exact ih h.2.2 a ha
    have fin' : ∀ {G' H' : Hp} {bs : List D} {ρ2 : En} {ts' : List V} {ds' : List D}, After M.cl.T G H ((slotsB as).map own) G' H' → BorAt M.K M.cl G' H' ((slotsB as).map own) bs → putB as bs ρ1 = some ρ2 → Reps M.K M.cl G' ds' ts' → RelG M an ρ2 σ H' ts' ds' G' own :=
      fun {G' H' bs ρ2 ts' ds'} A hb hp ht => by
        obtain ⟨p1, p2⟩ := put_get hb hp hnd q2
        refine r.called A hW (wo hb) (fun i s hs => ?_) p2 rfl (fun p hp => .inl ⟨hp, fun z => ?_⟩) ht
        · rcases p1 i s hs with ⟨h1, h2⟩ | ⟨_, h1⟩
          · refine .inl ⟨h1, fun ow z => ?_⟩
            obtain ⟨j, hj, e⟩ := List.mem_map.mp z
            exact h2 (r.inj j i (q2 j hj) ow e ▸ hj)
          · exact .inr h1
        · obtain ⟨j, hj, e⟩ := List.mem_map.mp z
          exact r.apart j (q2 j hj) p hp e
    refine ⟨q3, G, ds, _, ⟨r.sub, r.tab, r.ntb⟩, q1, ndW, ?_⟩
    revert h
    unfold FrOkL
    cases F ds with
    | stuck => exact fun h => h
    | ok d bs =>
      intro h p0 G' H' A c1 c2 c3 hb
      dsimp only at h
      cases hp : putB as bs ρ1 with
      | none => rw [hp] at h; exact h.elim
      | some ρ2 =>
        rw [hp] at h
        refine h p0 H' ?_
        obtain ⟨p1, p2⟩ := put_get hb hp hnd q2
        have r' := fin' A hb hp (t2.mono A.gg)
        refine ⟨G', own, r'.addAn c1 c2 (r.h1 c3) (fun i hi e => ?_) (fun x hx e => ?_)⟩
        · have po := r.ownedP (isOw_back (fun i s hs => (p1 i s hs).imp (fun z => z.1) (fun z => by obtain ⟨_, d, b, z, _⟩ := z; exact ⟨d, b, z⟩)) hi)
          exact po.nn (e ▸ c3)
        · exact (r.anp x hx).1.plainAt.nn (e ▸ c3)
    | err c fs es' bs =>
      intro h C dx G' H' us hc lu he A rv hb
      dsimp only at h
      cases hp : putB as bs ρ1 with
      | none => rw [hp] at h; exact h.elim
      | some ρ2 =>
        rw [hp] at h
        exact hE _ _ _ (h C dx H' us hc lu (he.up fun _ n => r.h1 n) ⟨G', own, fin' A hb hp (rv.append (t2.mono A.gg))⟩)
end
section
variable {X : Cx} {M : Mc} {W : WX} {as : List (Option Nat)} {F : List D → Fr} {g : En → Rs (List D)} {k : Nat} {f : Addr} {fd : FuncData} {ps : List Str} {x : Str} {p pos : Pos} {e : Expr} {es : List Expr}
theorem fn_core {σ : St} {H : Hp} {Q : VK} (hnd : (slotsB as).Nodup) (h : tE M W (fFn as F g) σ H Q) : tAB M W as g σ H fun vs H1 => spF M.K M.cl (borL as) F vs H1 Q (WE W σ) := by
  obtain ⟨an, ρ, ts, ds, R, h⟩ := h
  refine ⟨an, ρ, ts, ds, R, ?_⟩
  unfold BAOk
  have h2 : ∀ es ρ1, g ρ = .ok es ρ1 → EOk M an ts ds W σ (fFn as F (fun ρ => .ok es ρ) ρ1) Q := fun es ρ1 e => by
    unfold fFn at h; rw [e] at h; exact h
  cases hg : g ρ with
  | stuck => unfold fFn at h; rw [hg] at h; exact h
  | err c fs es ρ1 => unfold fFn at h; rw [hg] at h; exact h
  | ok es ρ1 => exact fun vs ws H' m l R' => call_end hnd (fun _ _ _ h => h) m l R' (h2 es ρ1 hg)
theorem se_fn (Fk : FnG X.prog X.w X.K X.mg X.base (L2.CX X.prog X.w) k f fd ps (spF M.K M.cl (borL as) F)) (hr : RoomG k X.A) (tk : Takes X W) (hm : X.mg x = some (.ref f)) (hk : PySem.W.keepIn X.K (.ref f) = true) (hb : Binds X.K fd ps [])
    (ha : SAB X M W (e :: es) as g) (hnd : (slotsB as).Nodup := by decide) (hg : Gl X x := by rfl) (hdb : (x == ("__debug__" : Str)) = false := by decide) (he : starEach (e :: es) X.env = (false, eval e X.env) :: starEach es X.env := by rfl) (hpl : (backTo pos (starEach es X.env)).any (·.1) = false := by rfl) :
    SE X M W (.Call (.Name x p) (e :: es) [] pos) (fFn as F g) :=
  pe_imp (pe_callG Fk hr hg hm hk hb (fun σ => passAt tk σ) ha hdb he hpl) fun _ _ _ h => fn_core hnd h
theorem fn_coreL {σ : St} {H : Hp} {Q : VK} (hnd : (slotsB as).Nodup) (h : tLs M W (fFn as F g) σ H Q) : tAB M W as g σ H fun vs H1 => spL M.K M.cl (borL as) F vs H1 Q (WE W σ) := by
  obtain ⟨an, ρ, ts, ds, R, h⟩ := h
  refine ⟨an, ρ, ts, ds, R, ?_⟩
  unfold BAOk
  have h2 : ∀ es ρ1, g ρ = .ok es ρ1 → LOk M an ts ds W σ (fFn as F (fun ρ => .ok es ρ) ρ1) Q := fun es ρ1 e => by
    unfold fFn at h; rw [e] at h; exact h
  cases hg : g ρ with
  | stuck => unfold fFn at h; rw [hg] at h; exact h
  | err c fs es ρ1 => unfold fFn at h; rw [hg] at h; exact h
  | ok es ρ1 => exact fun vs ws H' m l R' => call_endL hnd (fun _ _ _ h => h) m l R' (h2 es ρ1 hg)
theorem sl_fn (Fk : FnG X.prog X.w X.K X.mg X.base (L2.CX X.prog X.w) k f fd ps (spL M.K M.cl (borL as) F)) (hr : RoomG k X.A) (tk : Takes X W) (hm : X.mg x = some (.ref f)) (hk : PySem.W.keepIn X.K (.ref f) = true) (hb : Binds X.K fd ps [])
    (ha : SAB X M W (e :: es) as g) (hnd : (slotsB as).Nodup := by decide) (hg : Gl X x := by rfl) (hdb : (x == ("__debug__" : Str)) = false := by decide) (he : starEach (e :: es) X.env = (false, eval e X.env) :: starEach es X.env := by rfl) (hpl : (backTo pos (starEach es X.env)).any (·.1) = false := by rfl) :
    SL X M W (.Call (.Name x p) (e :: es) [] pos) (fFn as F g) :=
  pe_imp (pe_callG Fk hr hg hm hk hb (fun σ => passAt tk σ) ha hdb he hpl) fun _ _ _ h => fn_coreL hnd h
/-- a call without arguments -/
theorem se_fn0 {F : List D → Fr} (Fk : FnG X.prog X.w X.K X.mg X.base (L2.CX X.prog X.w) k f fd ps (spF M.K M.cl [] F)) (hr : RoomG k X.A) (tk : Takes X W) (hm : X.mg x = some (.ref f)) (hk : PySem.W.keepIn X.K (.ref f) = true) (hb : Binds X.K fd ps [])
    (hg : Gl X x := by rfl) (hdb : (x == ("__debug__" : Str)) = false := by decide) :
    SE X M W (.Call (.Name x p) [] [] pos) (fFn [] F fNil) := by
  refine ⟨fun pins s σ H Q I h => ?_⟩
  refine wpAny_Call_Name_kw (ld_glob I hg hm ?_ hdb)
  refine PySem.W.callWith_K0 I.kIn hk ?_
  have h2 := fn_core (as := []) List.nodup_nil h
  obtain ⟨an, ρ, ts, ds, R, h3⟩ := h2
  exact run_fnG (us := []) Fk hr hb (passAt tk σ) I .nil (h3 [] [] H ⟨rfl, rfl⟩ rfl R)
end
end Dl
end
section
set_option maxHeartbeats 4000000
/-! DlL: objects: fields, properties, methods, constructors. -/
namespace Dl
open PySem PySem.Spec PyProof.Rows L2
section
variable {M : Mc} {an : List (Addr × D)} {ρ : En} {σ : St} {H H' : Hp} {ts us : List V} {ds es : List D} {i : Nat} {d0 : D}
/-- an owned object gets another content -/
theorem RelX.putG (R : RelX M an ρ σ H us es) (h : owned ρ i = some d0) : ∃ p G, σ[i]? = some (some (.ref p)) ∧ OwAt M.K M.cl G H p d0 ∧ Sub G H ∧ Reps M.K M.cl G es us ∧
    ∀ (o' : HO) (d' : D) (ts : List V) (ds : List D), OwAt M.K M.cl G (upd H p o') p d' → Reps M.K M.cl G ds ts → RelX M an (putSl ρ i d') σ (upd H p o') ts ds := by
  obtain ⟨G, own, r⟩ := R
  have z : σ[i]? = some (some (.ref (own i))) ∧ OwAt M.K M.cl G H (own i) d0 ∧ G (own i) = none := by
    rcases owned_is h with e | e
    · obtain ⟨a, b, c, _⟩ := r.owp i _ e; exact ⟨a, b, c⟩
    · obtain ⟨a, b, c, _⟩ := r.bop i _ e; exact ⟨a, b, c⟩
  obtain ⟨z1, z2, z4⟩ := z
  refine ⟨own i, G, z1, z2, r.sub, r.tmp, fun o' d' ts ds q1 q2 => ?_⟩
  have iow : IsOw ρ i := ⟨_, owned_is h⟩
  have pln : PlainAt H (own i) := z2.plainAt
  have keep : ∀ b u, b ≠ own i → H b = some u → (upd H (own i) o') b = some u := fun b u hb e => by rw [upd_ne hb]; exact e
  have gne : ∀ b u, G b = some u → b ≠ own i := fun b u e c => by rw [c, z4] at e; cases e
  refine ⟨G, own, { sub := fun b u e => keep b u (gne b u e) (r.sub b u e), g0 := r.g0, fr := r.fr, ext := fun b u e w nt => keep b u ?_ (r.ext b u e w nt), tab := pln.tabs r.tab, ntb := r.ntb, pin := r.pin, wok := fun b w => ?_, shp := fun j d' hj => ?_, owp := fun j d' hj => ?_, bop := fun j d' hj => ?_, anp := fun x hx => ?_, inj := fun j k hj hk => r.inj j k (putSl_isOw h hj) (putSl_isOw h hk), apart := fun j hj => r.apart j (putSl_isOw h hj), anN := r.anN, len := ?_, tmp := q2 }⟩
  · rintro rfl
    rcases owned_is h with e' | e'
    · obtain ⟨_, _, _, c⟩ := r.owp i _ e'; obtain ⟨ps, z⟩ := c _ e; exact nt ps z
    · obtain ⟨_, _, _, c⟩ := r.bop i _ e'; exact w c.1
  · by_cases hb : b = own i
    · exact hb ▸ q1.plainAt
    · obtain ⟨u, hu, pu⟩ := r.wok b w; exact ⟨u, keep b u hb hu, pu⟩
  · by_cases hij : i = j
    · subst hij
      exfalso
      unfold putSl at hj
      rcases owned_is h with e | e
      · rw [e] at hj; dsimp only at hj; rw [List.getElem?_set_self (List.getElem?_eq_some_iff.mp e).1] at hj; cases hj
      · rw [e] at hj; dsimp only at hj; rw [List.getElem?_set_self (List.getElem?_eq_some_iff.mp e).1] at hj; cases hj
    · rw [putSl_get hij] at hj; exact r.shp j d' hj
  · by_cases hij : i = j
    · subst hij
      unfold putSl at hj
      rcases owned_is h with e | e
      · rw [e] at hj; dsimp only at hj; rw [List.getElem?_set_self (List.getElem?_eq_some_iff.mp e).1] at hj; cases hj
        obtain ⟨c1, c2, c3, c4⟩ := r.owp i _ e
        exact ⟨c1, q1, c3, c4⟩
      · rw [e] at hj; dsimp only at hj; rw [List.getElem?_set_self (List.getElem?_eq_some_iff.mp e).1] at hj; cases hj
    · rw [putSl_get hij] at hj
      obtain ⟨c1, c2, c3, c4⟩ := r.owp j d' hj
      have ne : own j ≠ own i := fun c => hij (r.inj j i ⟨_, .inl hj⟩ iow c).symm
      exact ⟨c1, c2.mono Sub.rfl' fun u hu => keep _ u ne hu, c3, c4⟩
  · by_cases hij : i = j
    · subst hij
      unfold putSl at hj
      rcases owned_is h with e | e
      · rw [e] at hj; dsimp only at hj; rw [List.getElem?_set_self (List.getElem?_eq_some_iff.mp e).1] at hj; cases hj
      · rw [e] at hj; dsimp only at hj; rw [List.getElem?_set_self (List.getElem?_eq_some_iff.mp e).1] at hj; cases hj
        obtain ⟨c1, c2, c3, c4⟩ := r.bop i _ e
        exact ⟨c1, q1, c3, c4⟩
    · rw [putSl_get hij] at hj
      obtain ⟨c1, c2, c3, c4⟩ := r.bop j d' hj
      have ne : own j ≠ own i := fun c => hij (r.inj j i ⟨_, .inr hj⟩ iow c).symm
      exact ⟨c1, c2.mono Sub.rfl' fun u hu => keep _ u ne hu, c3, c4⟩
  · obtain ⟨c2, c3, c4⟩ := r.anp x hx
    exact ⟨c2.mono Sub.rfl' fun u hu => keep _ u (Ne.symm (r.apart i iow x hx)) hu, c3, c4⟩
  · rw [← r.len]; unfold putSl; split <;> simp
end
/-! ### fields -/
def putK (f : Str) : List Str → List Str
  | [] => [f]
  | g :: r => if g = f then g :: r else g :: putK f r
def putX {α : Type} (f : Str) (x : α) : List Str → List α → List α
  | g :: r, y :: ys => if g = f then x :: ys else y :: putX f x r ys
  | _, _ => [x]
def getX {α : Type} (f : Str) : List Str → List α → Option α
  | g :: r, y :: ys => if g = f then some y else getX f r ys
  | _, _ => none
theorem put_zip {f : Str} {v : V} : ∀ {fs : List Str} {vs : List V}, fs.length = vs.length → putF f v (fs.zip vs) = (putK f fs).zip (putX f v fs vs) ∧ (putK f fs).length = (putX f v fs vs).length
  | [], [], _ => ⟨rfl, rfl⟩
  | g :: r, y :: ys, h => by
    obtain ⟨h1, h2⟩ := put_zip (f := f) (v := v) (fs := r) (vs := ys) (by simpa using h)
    by_cases c : g = f
    · simp [putF, putK, putX, c]; simpa using h
    · simp [putF, putK, putX, c, h1, h2]
  | [], _ :: _, h => by cases h
  | _ :: _, [], h => by cases h
theorem reps_put {K : PySem.W.Frag} {cl : Cl} {G : Hp} {f : Str} {d : D} {v : V} (h : Rep K cl G d v) : ∀ {fs : List Str} {ds : List D} {vs : List V}, fs.length = vs.length → Reps K cl G ds vs → Reps K cl G (putX f d fs ds) (putX f v fs vs)
  | [], [], [], _, _ => Reps.cons h Reps.nil
  | g :: r, e :: ds, y :: ys, l, q => by
    have := reps_put (f := f) h (fs := r) (by simpa using l) q.tail
    by_cases c : g = f
    · simp only [putX, if_pos c]; exact Reps.cons h q.tail
    · simp only [putX, if_neg c]; exact Reps.cons q.head this
  | [], _ :: _, [], _, q => by have := q.len; simp at this
  | [], [], _ :: _, l, _ => by cases l
  | [], _ :: _, _ :: _, l, _ => by cases l
  | _ :: _, _, [], l, _ => by cases l
  | _ :: _, [], _ :: _, _, q => by have := q.len; simp at this
theorem get_zip {K : PySem.W.Frag} {cl : Cl} {G : Hp} {f : Str} {d : D} : ∀ {fs : List Str} {ds : List D} {vs : List V}, fs.length = vs.length → Reps K cl G ds vs → getX f fs ds = some d → ∃ v, (fs.zip vs).lookup f = some v ∧ Rep K cl G d v
  | g :: r, e :: ds, y :: ys, l, q, h => by
    by_cases c : g = f
    · simp only [getX, if_pos c] at h
      cases h
      subst c
      refine ⟨y, by simp [List.lookup], q.head⟩
    · simp only [getX, if_neg c] at h
      obtain ⟨v, h1, h2⟩ := get_zip (fs := r) (by simpa using l) q.tail h
      have : (f == g) = false := by simp; exact fun z => c z.symm
      exact ⟨v, by simp [List.lookup, this, h1], h2⟩
  | [], _, _, _, _, h => by cases h
  | _ :: _, [], _, _, _, h => by cases h
  | _ :: _, _ :: _, [], l, _, _ => by cases l
/-- of a class by its name -/
structure ClsN (K : PySem.W.Frag) (cl : Cl) (c : Str) (C : Addr) : Prop where
  at_ : cl c = some C
  cls : Cls K C
def fFld (c f : Str) (fe : En → Rs D) : En → Rs D := fun ρ => (fe ρ).bind fun d ρ1 => match d with
  | .ins c' fs ds => if c' = c then (match getX f fs ds with
    | some d => .ok d ρ1
    | none => .stuck) else .stuck
  | _ => .stuck
def fFldS (c f : Str) (i : Nat) (fe : En → Rs D) : En → Rs Fl := fun ρ => (fe ρ).bind fun d ρ1 => match owned ρ1 i with
  | some (.ins c' fs ds) => if c' = c ∧ fs.length < 1000 then .ok .nx (putSl ρ1 i (.ins c' (putK f fs) (putX f d fs ds))) else .stuck
  | _ => .stuck
section
variable {X : Cx} {M : Mc} {W : WX} {e : Expr} {fe : En → Rs D} {c f x : Str} {C : Addr} {pos pos' p : Pos}
theorem se_fld (hk : M.K = X.K) (hc : ClsN X.K M.cl c C) (hn : NoAttr X.K C f) (he : SE X M W e fe) (hb : attributeBase e f X.env (eval e X.env) = eval e X.env := by rfl) : SE X M W (.Attribute e f pos) (fFld c f fe) := by
  refine pe_imp (pe_fld he hb) fun σ H Q ⟨an, ρ, ts, ds, R, h⟩ => ?_
  refine ⟨an, ρ, ts, ds, R, EOk.bind (P := fun r => EOk M an ts ds W σ r Q) h (fun _ _ _ _ z => z) (fun z => z) fun d ρ1 v H1 R1 h1 => ?_⟩
  cases d with
  | ins c' fs es =>
    dsimp only at h1
    by_cases hcc : c' = c
    · rw [if_pos hcc] at h1
      subst hcc
      cases hg : getX f fs es with
      | none => rw [hg] at h1; exact h1.elim
      | some d =>
        rw [hg] at h1
        obtain ⟨G, own, r⟩ := R1
        obtain ⟨a, C', dx, vs, ev, eC, eG, el, er⟩ := (show ∃ a C' dx vs, v = .ref a ∧ M.cl c' = some C' ∧ G a = some (.ins C' dx (fs.zip vs)) ∧ fs.length = vs.length ∧ Reps M.K M.cl G es vs from r.tmp.head)
        rw [hc.at_] at eC; cases eC
        obtain ⟨y, e1, e2⟩ := get_zip el er hg
        exact ⟨a, C, dx, _, y, ev, r.sub _ _ eG, hc.cls, hn, e1, h1 y H1 ⟨G, own, { r with tmp := Reps.cons e2 r.tmp.tail }⟩⟩
    · rw [if_neg hcc] at h1; exact h1.elim
  | _ => exact h1.elim
/-- self.f = e, self lent -/
theorem ss_fld (i : Nat) (hk : M.K = X.K) (hc : ClsN X.K M.cl c C) (hn : NoAttr X.K C f) (he : SE X M W e fe) (hN : X.N[i]? = some x := by rfl) (hv : Vis X.env.scope x := by first | exact Or.inl rfl | exact Or.inr (Or.inl rfl) | exact Or.inr (Or.inr rfl)) (hd : (x == ("__debug__" : Str)) = false := by decide)
    (hcd : (x == ("__classdict__" : Str)) = false := by decide) (hs : swapsWith e (some (.Attribute (.Name x p) f pos')) pos.line X.env = pure false := by rfl) : SS X M W (.Assign [.Attribute (.Name x p) f pos'] e pos) (fFldS c f i fe) := by
  refine ps_imp (ps_fld (pe_var hN hv hd hcd) he hs) fun Dn σ H ⟨an, ρ, ts, ds, R, h⟩ => ?_
  refine ⟨an, ρ, ts, ds, R, EOk.toS h fun d ρ1 v H1 R1 h1 => ?_⟩
  cases q : owned ρ1 i with
  | none => rw [q] at h1; exact h1.elim
  | some d0 =>
    rw [q] at h1
    cases d0 with
    | ins c' fs es =>
      dsimp only at h1
      by_cases hcc : c' = c ∧ fs.length < 1000
      · rw [if_pos hcc] at h1
        obtain ⟨rfl, hlen⟩ := hcc
        obtain ⟨p, G, e1, e2, s, e3, e4⟩ := R1.putG q
        obtain ⟨C', dx, vs, eC, eH, el, er⟩ := (show ∃ C' dx vs, M.cl c' = some C' ∧ H1 p = some (.ins C' dx (fs.zip vs)) ∧ fs.length = vs.length ∧ Reps M.K M.cl G es vs from e2)
        rw [hc.at_] at eC; cases eC
        obtain ⟨z1, z2⟩ := put_zip (f := f) (v := v) el
        refine ⟨.ref p, e1, p, C, dx, _, rfl, eH, hc.cls, hn, by simp [← el]; omega, ?_⟩
        rw [z1]
        refine h1 σ _ (e4 _ _ _ _ ⟨C, dx, putX f v fs vs, hc.at_, upd_same, z2, reps_put e3.head el er⟩ e3.tail)
      · rw [if_neg hcc] at h1; exact h1.elim
    | _ => exact h1.elim
end
end Dl
end
section
set_option maxHeartbeats 4000000
/-! DlM: properties, methods, constructors. -/
namespace Dl
open PySem PySem.Spec PyProof.Rows L2
/-- an object of the class c without the name m of its own -/
def isI (c m : Str) : D → Bool
  | .ins c' fs ds => decide (c' = c) && !fs.contains m && decide (fs.length = ds.length)
  | _ => false
def noErr : Rs D → Rs D
  | .ok d ρ => .ok d ρ
  | _ => .stuck
def fProp (c : Str) (F : List D → Fr) (fe : En → Rs D) : En → Rs D := fun ρ => (fe ρ).bind fun d ρ1 => if isI c Str.empty d = true then noErr (fFn [none] F (fun ρ => .ok [d] ρ) ρ1) else .stuck
def fMeth (c m : Str) (as : List (Option Nat)) (F : List D → Fr) (fo : En → Rs D) (g : En → Rs (List D)) : En → Rs D := fun ρ => (fo ρ).bind fun d ρ1 => if isI c m d = true then fFn (none :: as) F (fun ρ => (g ρ).bind fun es ρ2 => .ok (d :: es) ρ2) ρ1 else .stuck
theorem isI_at {K : PySem.W.Frag} {cl : Cl} {G : Hp} {c m : Str} {C : Addr} {d : D} {v : V} (h : isI c m d = true) (hc : cl c = some C) (r : Rep K cl G d v) : ∃ a dx fs, v = .ref a ∧ G a = some (.ins C dx fs) ∧ fs.lookup m = none := by
  cases d with
  | ins c' fs ds =>
    unfold isI at h
    simp only [Bool.and_eq_true, decide_eq_true_eq, Bool.not_eq_true'] at h
    obtain ⟨⟨rfl, h2⟩, h3⟩ := h
    obtain ⟨a, C', dx, vs, ev, eC, eG, el, er⟩ := (show ∃ a C' dx vs, v = .ref a ∧ cl c' = some C' ∧ G a = some (.ins C' dx (fs.zip vs)) ∧ fs.length = vs.length ∧ Reps K cl G ds vs from r)
    rw [hc] at eC; cases eC
    refine ⟨a, dx, _, ev, eG, ?_⟩
    rw [List.lookup_eq_none_iff]
    intro p hp
    have : p.1 ∈ fs := by
      obtain ⟨a, b⟩ := p
      exact (List.of_mem_zip hp).1
    have hne : m ≠ p.1 := by
      rintro rfl
      simp at h2
      exact h2 this
    first | exact hne | simpa using hne
  | _ => cases h
section
variable {X : Cx} {M : Mc} {W : WX} {e o : Expr} {es : List Expr} {fe fo : En → Rs D} {g : En → Rs (List D)} {c m f x : Str} {C p a : Addr} {pos apos xp : Pos} {k : Nat} {fd : FuncData} {ps : List Str} {F : List D → Fr} {as : List (Option Nat)}
theorem EOk.noErr {an : List (Addr × D)} {ts : List V} {ds : List D} {σ : St} {Q : VK} : ∀ {r : Rs D}, EOk M an ts ds W σ (Dl.noErr r) Q → EOk M an ts ds W0 σ r Q
  | .ok d ρ, h => h
  | .err .., h => h.elim
  | .stuck, h => h
theorem se_prop (hk : M.K = X.K) (hc : ClsN X.K M.cl c C) (hp : PropOf X.K C f p a) (Fk : FnG X.prog X.w X.K X.mg X.base (L2.CX X.prog X.w) k a fd ps (spF M.K M.cl [false] F)) (hr : RoomG (k + 1) X.A) (hb : Binds X.K fd ps []) (he : SE X M W e fe)
    (hab : attributeBase e f X.env (eval e X.env) = eval e X.env := by rfl) : SE X M W (.Attribute e f pos) (fProp c F fe) := by
  refine pe_imp (pe_propG he hc.cls hp Fk hr hb hab) fun σ H Q ⟨an, ρ, ts, ds, R, h⟩ => ?_
  refine ⟨an, ρ, ts, ds, R, EOk.bind (P := fun r => EOk M an ts ds W σ r Q) h (fun _ _ _ _ z => z) (fun z => z) fun d ρ1 v H1 R1 h1 => ?_⟩
  by_cases hi : isI c Str.empty d = true
  · rw [if_pos hi] at h1
    obtain ⟨G, s, r⟩ := R1.rep
    obtain ⟨a, dx, fs, ev, eG, el⟩ := isI_at hi hc.at_ r
    refine ⟨a, dx, fs, ev, s _ _ eG, ?_⟩
    subst ev
    exact call_end (as := [none]) (ws := [.ref a]) (es := [d]) (by exact List.nodup_nil) (fun _ _ _ h => h.elim) ⟨_, [], [], rfl, rfl, rfl, rfl⟩ rfl R1 h1.noErr
  · rw [if_neg hi] at h1; exact h1.elim
def tMethS (C : Addr) (m : Str) (sp : Sp) (E : St → XK) (ta : TE) (t : TA) : TE := fun σ H Q => ta σ H fun x H1 => ∃ a dx fs, x = .ref a ∧ H1 a = some (.ins C dx fs) ∧ fs.lookup m = none ∧ t σ H1 fun vs H2 => sp (x :: vs) H2 Q (E σ)
theorem pe_methS {pl : Sem Bool} {ta : TE} {t : TA} {sp : Sp} {CX : CXT} {E : St → XK} (he : PE X o ta) (c : Cls X.K C) (hm : Meth X.K C m a) (F : FnG X.prog X.w X.K X.mg X.base CX k a fd ps sp) (hr : RoomG k X.A) (hb : Binds X.K fd ps []) (hx : ∀ σ, PassesAt CX X σ (E σ)) (ha : PA X (e :: es) t)
    (hst : starEach (e :: es) X.env = (false, eval e X.env) :: starEach es X.env := by rfl) (hpl : (backTo pos (starEach es X.env)).any (·.1) = false := by rfl)
    (ht : eval (.Call (.Attribute o m apos) (e :: es) [] pos) X.env = (do
      let ov ← eval o X.env
      standAt apos.atName
      let (f, first) ← holding [ov] (getMethod ov m pl)
      callWith pos f first (backTo pos (starEach (e :: es) X.env)) (backToKw pos (keywordEach [] X.env))) := by rfl) :
    PE X (.Call (.Attribute o m apos) (e :: es) [] pos) (tMethS C m sp E ta t) := by
  refine ⟨fun pins s σ H Q I h => ?_⟩
  refine PySem.W.methodCall_KW (pl := pl) (thn (he.run pins s σ H _ I h) fun u s1 ⟨x, H1, I1, rx, a, dx, fs, ex, ea, l, q⟩ => ?_) ht
  subst ex
  obtain rfl : u = Value.ref a := rx
  refine getmeth_ok I1 ea c hm l ?_
  refine PySem.W.callWith_K (first := [.ref a]) (h₀ := X.base) I.ok.mod.kin hm.kp (thn (ha.run pos pins s1 σ H1 _ I1 q) fun us s2 ⟨vs, H2, I2, r, q2⟩ => ⟨I2.kIn, ?_⟩) hst hpl
  exact run_fnG (us := .ref a :: us) (vs := .ref a :: vs) F hr hb (hx σ) I2 (.cons rfl r) q2
theorem pe_methS0 {pl : Sem Bool} {ta : TE} {sp : Sp} {CX : CXT} {E : St → XK} (he : PE X o ta) (c : Cls X.K C) (hm : Meth X.K C m a) (F : FnG X.prog X.w X.K X.mg X.base CX k a fd ps sp) (hr : RoomG k X.A) (hb : Binds X.K fd ps []) (hx : ∀ σ, PassesAt CX X σ (E σ))
    (ht : eval (.Call (.Attribute o m apos) [] [] pos) X.env = (do
      let ov ← eval o X.env
      standAt apos.atName
      let (f, first) ← holding [ov] (getMethod ov m pl)
      callWith pos f first (backTo pos (starEach [] X.env)) (backToKw pos (keywordEach [] X.env))) := by rfl) :
    PE X (.Call (.Attribute o m apos) [] [] pos) (tMethS C m sp E ta tNil) := by
  refine ⟨fun pins s σ H Q I h => ?_⟩
  refine PySem.W.methodCall_KW (pl := pl) (thn (he.run pins s σ H _ I h) fun u s1 ⟨x, H1, I1, rx, a, dx, fs, ex, ea, l, q⟩ => ?_) ht
  subst ex
  obtain rfl : u = Value.ref a := rx
  refine getmeth_ok I1 ea c hm l ?_
  exact PySem.W.callWith_K0 (first := [.ref a]) I1.kIn hm.kp (run_fnG (us := [.ref a]) (vs := [.ref a]) F hr hb (hx σ) I1 (.cons rfl .nil) q)
theorem meth_core (hc : ClsN X.K M.cl c C) (hnd : (slotsB as).Nodup) {σ : St} {H : Hp} {Q : VK} (h : tE M W (fMeth c m as F fo g) σ H Q) : tMethS C m (spF M.K M.cl (borL (none :: as)) F) (WE W) (tE M W fo) (tAB M W as g) σ H Q := by
  obtain ⟨an, ρ, ts, ds, R, h⟩ := h
  refine ⟨an, ρ, ts, ds, R, EOk.bind (P := fun r => EOk M an ts ds W σ r Q) h (fun _ _ _ _ z => z) (fun z => z) fun d ρ1 v H1 R1 h1 => ?_⟩
  by_cases hi : isI c m d = true
  · rw [if_pos hi] at h1
    obtain ⟨G, s, r⟩ := R1.rep
    obtain ⟨a, dx, fs, ev, eG, el⟩ := isI_at hi hc.at_ r
    refine ⟨a, dx, fs, ev, s _ _ eG, el, an, ρ1, v :: ts, d :: ds, R1, ?_⟩
    unfold BAOk
    have h2 : ∀ es ρ2, g ρ1 = .ok es ρ2 → EOk M an ts ds W σ (fFn (none :: as) F (fun ρ => .ok (d :: es) ρ) ρ2) Q := fun es ρ2 e => by
      unfold fFn at h1; dsimp only at h1; rw [e] at h1; exact h1
    cases hg : g ρ1 with
    | stuck => unfold fFn at h1; dsimp only at h1; rw [hg] at h1; exact h1
    | err c fs es ρ2 => unfold fFn at h1; dsimp only at h1; rw [hg] at h1; exact EErr.weak1 h1
    | ok es ρ2 =>
      intro vs ws H' mx l R'
      refine call_end (as := none :: as) (ws := v :: ws) (es := d :: es) hnd (fun _ _ _ h => h) ⟨v, vs, ws, rfl, rfl, mx⟩ (by simp [l]) (R'.temps fun G _ q => ?_) (h2 es ρ2 hg)
      obtain ⟨q1, q2⟩ := Reps.split l.symm q
      exact Reps.cons q2.head (q1.append q2.tail)
  · rw [if_neg hi] at h1; exact h1.elim
theorem se_meth {pl : Sem Bool} (hc : ClsN X.K M.cl c C) (hm : Meth X.K C m a) (Fk : FnG X.prog X.w X.K X.mg X.base (L2.CX X.prog X.w) k a fd ps (spF M.K M.cl (borL (none :: as)) F)) (hr : RoomG k X.A) (tk : Takes X W) (hb : Binds X.K fd ps [])
    (he : SE X M W o fo) (ha : SAB X M W (e :: es) as g) (hnd : (slotsB as).Nodup := by decide) (hst : starEach (e :: es) X.env = (false, eval e X.env) :: starEach es X.env := by rfl) (hpl : (backTo pos (starEach es X.env)).any (·.1) = false := by rfl)
    (ht : eval (.Call (.Attribute o m apos) (e :: es) [] pos) X.env = (do
      let ov ← eval o X.env
      standAt apos.atName
      let (f, first) ← holding [ov] (getMethod ov m pl)
      callWith pos f first (backTo pos (starEach (e :: es) X.env)) (backToKw pos (keywordEach [] X.env))) := by rfl) :
    SE X M W (.Call (.Attribute o m apos) (e :: es) [] pos) (fMeth c m as F fo g) :=
  pe_imp (pe_methS (pl := pl) he hc.cls hm Fk hr hb (fun σ => passAt tk σ) ha hst hpl ht) fun _ _ _ h => meth_core hc hnd h
theorem se_meth0 {pl : Sem Bool} (hc : ClsN X.K M.cl c C) (hm : Meth X.K C m a) (Fk : FnG X.prog X.w X.K X.mg X.base (L2.CX X.prog X.w) k a fd ps (spF M.K M.cl [false] F)) (hr : RoomG k X.A) (tk : Takes X W) (hb : Binds X.K fd ps [])
    (he : SE X M W o fo)
    (ht : eval (.Call (.Attribute o m apos) [] [] pos) X.env = (do
      let ov ← eval o X.env
      standAt apos.atName
      let (f, first) ← holding [ov] (getMethod ov m pl)
      callWith pos f first (backTo pos (starEach [] X.env)) (backToKw pos (keywordEach [] X.env))) := by rfl) :
    SE X M W (.Call (.Attribute o m apos) [] [] pos) (fMeth c m [] F fo fNil) := by
  refine pe_imp (pe_methS0 (pl := pl) he hc.cls hm Fk hr hb (fun σ => passAt tk σ) ht) fun σ H Q h => ?_
  have := meth_core (as := []) hc List.nodup_nil h
  obtain ⟨an, ρ, ts, ds, R, h⟩ := this
  refine ⟨an, ρ, ts, ds, R, ?_⟩
  revert h
  unfold EOk
  cases fo ρ with
  | stuck => exact fun h => h
  | err c fs es ρ => exact fun h => h
  | ok d ρ =>
    intro h v H' R'
    obtain ⟨a, dx, fs, e1, e2, e3, an2, ρ2, ts2, ds2, R2, h2⟩ := h v H' R'
    exact ⟨a, dx, fs, e1, e2, e3, h2 [] [] H' ⟨rfl, rfl⟩ rfl R2⟩
end
/-! ### constructors -/
def fMk (c : Str) (as : List (Option Nat)) (F : List D → Fr) (g : En → Rs (List D)) : En → Rs D := fun ρ => (g ρ).bind fun es ρ1 => match mixD as es ρ1 with
  | none => .stuck
  | some ds => match F (.ins c [] [] :: ds) with
    | .ok .non (s :: bs) => (match putB as bs ρ1 with
      | some ρ2 => .ok s ρ2
      | none => .stuck)
    | .err c fs es' (_ :: bs) => (match putB as bs ρ1 with
      | some ρ2 => .err c fs es' ρ2
      | none => .stuck)
    | _ => .stuck
def tMakeS (C : Addr) (sp : Sp) (E : St → XK) (t : TA) : TE := fun σ H Q => t σ H fun vs H1 => ∀ x dx, H1 x = none → H1 dx = none → dx ≠ x →
  sp (.ref x :: vs) (upd (upd H1 dx (.own x)) x (.ins C dx [])) (fun v H2 => v = .non ∧ Q (.ref x) H2) (E σ)
section
variable {X : Cx} {M : Mc} {W : WX} {e : Expr} {es : List Expr} {g : En → Rs (List D)} {c x : Str} {C f : Addr} {pos p : Pos} {k : Nat} {fd : FuncData} {ps : List Str} {F : List D → Fr} {as : List (Option Nat)}
theorem run_makeS {sp : Sp} {CX : CXT} {E : St → XK} {pins : List (Addr × Obj)} {σ : St} {H : Hp} {s : Shared} {Q : VK} {us : List Value} {vs : List V} (Mk : L2.Mk X.K C f) (F : FnG X.prog X.w X.K X.mg X.base CX k f fd ps sp) (hr : RoomG (k + 1) X.A) (hb : Binds X.K fd ps [])
    (hx : PassesAt CX X σ (E σ)) (I : Inv X pins σ H s) (r : Vals vs us)
    (h : ∀ x dx, H x = none → H dx = none → dx ≠ x → sp (.ref x :: vs) (upd (upd H dx (.own x)) x (.ins C dx [])) (fun v H2 => v = .non ∧ Q (.ref x) H2) (E σ)) :
    wpAny (model X.prog X.w) X.A (call (.ref C) us) (EP X pins σ Q) X.xe s := by
  have hq := h (s.heap.objs.size + 1) s.heap.objs.size (I.hok.fresh (Nat.le_succ _)) (I.hok.fresh (Nat.le_refl _)) (Nat.ne_of_lt (Nat.lt_succ_self _))
  have I2 := Inv.made (C := C) I
  have r2 : Vals (V.ref (s.heap.objs.size + 1) :: vs) (Value.ref (s.heap.objs.size + 1) :: us) := .cons rfl r
  have hl : (Value.ref (s.heap.objs.size + 1) :: us).length = ps.length := by
    have e := r2.length
    rw [F.len _ _ _ _ hq] at e
    exact e.symm
  have b := hb _ (Value.ref (s.heap.objs.size + 1) :: us) I2.kIn (by rw [List.append_nil]; exact hl)
  rw [List.append_nil] at b
  refine wpAny_call (make_map (f := f) I.kIn Mk.makes Mk.init (beq_iff_eq.mp Mk.fn) (codeAny_mono (F.at_ (fr := X.stack) (ag := ⟨Value.ref (s.heap.objs.size + 1) :: us, []⟩) (E := E σ) (hr.make C us [])
    (I2.env0.make C us []) b r2 hq) fun r s' hq' => ?_))
  cases r with
  | error e => exact hx pins _ _ e s' I2 hq'
  | ok fl =>
    cases fl with
    | ret u =>
      obtain ⟨v, H', I3, rv, ev, q3⟩ := I2.after hq'
      subst ev
      exact ⟨rv, ⟨V.ref (s.heap.objs.size + 1), H', I3, rfl, q3⟩⟩
    | next => exact False.elim hq'
    | brk => exact False.elim hq'
    | cont => exact False.elim hq'
theorem pe_makeS {sp : Sp} {CX : CXT} {E : St → XK} {t : TA} (Mk : L2.Mk X.K C f) (F : FnG X.prog X.w X.K X.mg X.base CX k f fd ps sp) (hr : RoomG (k + 1) X.A) (hg : Gl X x) (hm : X.mg x = some (.ref C)) (hb : Binds X.K fd ps []) (hx : ∀ σ, PassesAt CX X σ (E σ))
    (ha : PA X (e :: es) t) (hdb : (x == ("__debug__" : Str)) = false := by decide) (he : starEach (e :: es) X.env = (false, eval e X.env) :: starEach es X.env := by rfl) (hpl : (backTo pos (starEach es X.env)).any (·.1) = false := by rfl) :
    PE X (.Call (.Name x p) (e :: es) [] pos) (tMakeS C sp E t) := by
  refine ⟨fun pins s σ H Q I h => ?_⟩
  refine wpAny_Call_Name_kw (ld_glob I hg hm ?_ hdb)
  refine PySem.W.callWith_K (h₀ := X.base) I.ok.mod.kin Mk.kp (thn (ha.run pos pins s σ H _ I h) fun us s1 ⟨vs, H1, I1, r, q⟩ => ⟨I1.kIn, ?_⟩) he hpl
  exact run_makeS Mk F hr hb (hx σ) I1 r q
theorem make_end {an : List (Addr × D)} {σ : St} {H1 : Hp} {Q : VK} {Wx : WX} {ρ1 : En} {ts : List V} {ds0 es : List D} {vs ws : List V} {E : XK} (hcl : M.cl c = some C) (hnd : (slotsB as).Nodup) (hE : ∀ c d H, Wx c d σ H → E c d H)
    (m : Mix as vs ws σ) (l : ws.length = es.length) (R : RelX M an ρ1 σ H1 (ws ++ ts) (es ++ ds0))
    (h : EOk M an ts ds0 Wx σ ((fMk c as F (fun ρ => .ok es ρ)) ρ1) Q) (x dx : Addr) (hx : H1 x = none) (hdx : H1 dx = none) (hne : dx ≠ x) :
    spF M.K M.cl (true :: borL as) F (.ref x :: vs) (upd (upd H1 dx (.own x)) x (.ins C dx [])) (fun v H2 => v = .non ∧ Q (.ref x) H2) E := by
  have R2 := R.growH (o := .own x) hdx
  have hx2 : (upd H1 dx (.own x)) x = none := by rw [upd_ne (fun z => hne z.symm)]; exact hx
  have R3 : RelX M ((x, .ins c [] []) :: an) ρ1 σ (upd (upd H1 dx (.own x)) x (.ins C dx [])) (ws ++ ts) (es ++ ds0) := R2.newAn hx2 fun G _ q => ⟨⟨C, dx, [], hcl, upd_same, rfl, Reps.nil⟩, q⟩
  generalize upd (upd H1 dx (.own x)) x (.ins C dx []) = H at R3
  obtain ⟨G, own, r⟩ := R3
  obtain ⟨t1, t2⟩ := Reps.split l.symm r.tmp
  unfold fMk Rs.bind at h
  dsimp only at h
  cases hm : mixD as es ρ1 with
  | none => rw [hm] at h; exact h.elim
  | some ds =>
    rw [hm] at h
    dsimp only at h
    obtain ⟨q1, q2, q3⟩ := r.mix m l t1 hm
    obtain ⟨x1, x2, x3⟩ := r.anp (x, .ins c [] []) List.mem_cons_self
    have xn : x ∉ (slotsB as).map own := fun z => by
      obtain ⟨i, hi, e⟩ := List.mem_map.mp z
      exact r.apart i (q2 i hi) (x, .ins c [] []) List.mem_cons_self e
    have ndW : (x :: (slotsB as).map own).Nodup := List.nodup_cons.mpr ⟨xn, nodup_mapI hnd (fun i hi j hj e => r.inj i j (q2 i hi) (q2 j hj) e)⟩
    have hW : ∀ a ∈ x :: (slotsB as).map own, Nn M.H0 a ∨ a ∈ M.W := fun a ha => by
      rcases List.mem_cons.mp ha with rfl | ha
      · exact .inl x3
      · obtain ⟨i, hi, rfl⟩ := List.mem_map.mp ha
        obtain ⟨d, hd⟩ := q2 i hi
        rcases hd with hd | hd
        · exact .inl (r.owp i d hd).2.2.2
        · exact .inr (r.bop i d hd).2.2.2.1
    have wo : ∀ {G' H' : Hp} {W : List Addr} {bs : List D}, BorAt M.K M.cl G' H' W bs → ∀ a ∈ W, PlainAt H' a := by
      intro G' H' W
      induction W with
      | nil => exact fun _ a z => nomatch z
      | cons b W ih =>
        intro bs h a ha
        cases bs with
        | nil => exact h.elim
        | cons d bs =>
          rcases List.mem_cons.mp ha with rfl | ha
          · exact h.1.plainAt
          · exact ih h.2.2 a ha
    have fin : ∀ {G' H' : Hp} {b : D} {bs : List D} {ρ2 : En} {ts' : List V} {ds' : List D}, After M.cl.T G H (x :: (slotsB as).map own) G' H' → BorAt M.K M.cl G' H' (x :: (slotsB as).map own) (b :: bs) → putB as bs ρ1 = some ρ2 → Reps M.K M.cl G' ds' ts' → RelX M ((x, b) :: an) ρ2 σ H' ts' ds' :=
      fun {G' H' b bs ρ2 ts' ds'} A hb hp ht => by
        obtain ⟨p1, p2⟩ := put_get hb.2.2 hp hnd q2
        refine ⟨G', own, r.called A hW (wo hb) (fun i s hs => ?_) p2 rfl (fun p hp => ?_) ht⟩
        · rcases p1 i s hs with ⟨h1, h2⟩ | ⟨_, h1⟩
          · refine .inl ⟨h1, fun ow z => ?_⟩
            rcases List.mem_cons.mp z with z | z
            · exact r.apart i ow (x, .ins c [] []) List.mem_cons_self z
            · obtain ⟨j, hj, e⟩ := List.mem_map.mp z
              exact h2 (r.inj j i (q2 j hj) ow e ▸ hj)
          · exact .inr h1
        · rcases List.mem_cons.mp hp with rfl | hp
          · exact .inr ⟨⟨_, List.mem_cons_self⟩, hb.1, hb.2.1⟩
          · refine .inl ⟨List.mem_cons_of_mem _ hp, fun z => ?_⟩
            rcases List.mem_cons.mp z with z | z
            · have := r.anN
              simp only [List.map_cons, List.nodup_cons] at this
              exact this.1 (z ▸ List.mem_map.mpr ⟨p, hp, rfl⟩)
            · obtain ⟨j, hj, e⟩ := List.mem_map.mp z
              exact r.apart j (q2 j hj) p (List.mem_cons_of_mem _ hp) e
    refine ⟨by simp [q3], G, .ins c [] [] :: ds, _, ⟨r.sub, r.tab, r.ntb⟩, ⟨x, _, rfl, rfl, x1, x2, q1⟩, ndW, ?_⟩
    revert h
    unfold FrOk
    cases F (.ins c [] [] :: ds) with
    | stuck => exact fun h => h
    | ok d bs0 =>
      intro h v G' H' A rv hb
      cases d with
      | non =>
        cases bs0 with
        | nil => exact h.elim
        | cons b bs =>
          dsimp only at h
          cases hp : putB as bs ρ1 with
          | none => rw [hp] at h; exact h.elim
          | some ρ2 =>
            rw [hp] at h
            exact ⟨rv, h _ H' (fin A hb hp (t2.mono A.gg)).anShare⟩
      | _ => exact h.elim
    | err c2 fs es' bs0 =>
      intro h C2 dx2 G' H' us hc lu he A rv hb
      cases bs0 with
      | nil => exact h.elim
      | cons b bs =>
        dsimp only at h
        cases hp : putB as bs ρ1 with
        | none => rw [hp] at h; exact h.elim
        | some ρ2 =>
          rw [hp] at h
          exact hE _ _ _ (h C2 dx2 H' us hc lu (he.up fun _ n => r.h1 n) (fin A hb hp (rv.append (t2.mono A.gg))).anDrop)
theorem se_mk (hc : M.cl c = some C) (Mk : L2.Mk X.K C f) (Fk : FnG X.prog X.w X.K X.mg X.base (L2.CX X.prog X.w) k f fd ps (spF M.K M.cl (true :: borL as) F)) (hr : RoomG (k + 1) X.A) (tk : Takes X W) (hm : X.mg x = some (.ref C)) (hb : Binds X.K fd ps [])
    (ha : SAB X M W (e :: es) as g) (hnd : (slotsB as).Nodup := by decide) (hg : Gl X x := by rfl) (hdb : (x == ("__debug__" : Str)) = false := by decide) (he : starEach (e :: es) X.env = (false, eval e X.env) :: starEach es X.env := by rfl) (hpl : (backTo pos (starEach es X.env)).any (·.1) = false := by rfl) :
    SE X M W (.Call (.Name x p) (e :: es) [] pos) (fMk c as F g) := by
  refine pe_imp (pe_makeS Mk Fk hr hg hm hb (fun σ => passAt tk σ) ha hdb he hpl) fun σ H Q h => ?_
  obtain ⟨an, ρ, ts, ds, R, h⟩ := h
  refine ⟨an, ρ, ts, ds, R, ?_⟩
  unfold BAOk
  have h2 : ∀ es ρ1, g ρ = .ok es ρ1 → EOk M an ts ds W σ (fMk c as F (fun ρ => .ok es ρ) ρ1) Q := fun es ρ1 e => by
    unfold fMk at h; rw [e] at h; exact h
  cases hg : g ρ with
  | stuck => unfold fMk at h; rw [hg] at h; exact h
  | err c fs es ρ1 => unfold fMk at h; rw [hg] at h; exact h
  | ok es ρ1 => exact fun vs ws H' m l R' => fun x dx a b n => make_end hc hnd (fun _ _ _ h => h) m l R' (h2 es ρ1 hg) x dx a b n
end
end Dl
end
section
set_option maxHeartbeats 4000000
/-! DlN: own == and !=. -/
namespace Dl
open PySem PySem.Spec PyProof.Rows L2
theorem mg_ofN {K : PySem.W.Frag} {h : Heap} {N : Addr} {mg : Str → Option Value} {n : Str} {v : Value} (X : K.In h) (G : h.Ns N mg) (e : PySem.W.nsIn K N n = some (some v)) : mg n = some v := by
  obtain ⟨o, es, ep, ho, hd, _, hf⟩ := G
  unfold PySem.W.nsIn at e
  split at e
  · rename_i c d es' n' sl q
    have := X _ _ q
    rw [ho] at this
    cases this
    cases hd
    split at e
    · rename_i en he
      cases e
      rw [← hf]
      unfold nsFind findBy
      rw [← Array.find?_toList, he]
      rfl
    · first | (split at e <;> cases e) | cases e
  · cases e
/-- a class right under object with an own == and no own != -/
def insEq (K : PySem.W.Frag) (C f : Addr) : Bool := match K.lookup C with
  | some ⟨.type "type", _, .cls cd, sl⟩ => (match cd.mro, sl.toList with
    | .ref C' :: bm, [_, _, _, _, some (.builtin _), _] => C' == C && bm == [.type "object"] && !cd.hasDel && PySem.W.nsOkIn K cd.ns && PySem.W.nsIn K cd.ns "__eq__" == some (some (.ref f)) && PySem.W.nsIn K cd.ns "__ne__" == some none
    | _, _ => false)
  | _ => false
theorem insEq_of {K : PySem.W.Frag} {h : Heap} {C f x : Addr} {ox of : Obj} (X : K.In h) (q : insEq K C f = true) (hx : h.get? x = some ox) (hxc : ox.cls = .ref C) (hf : h.get? f = some of) (hfc : of.cls = .type "function") : h.OwnEqNoNe x C f "object" [.type "object"] := by
  unfold insEq at q
  split at q
  · rename_i dd cd sl ho
    split at q
    · rename_i C' bm k0 k1 k2 k3 n k5 hm hs
      simp only [Bool.and_eq_true, beq_iff_eq, Bool.not_eq_true'] at q
      obtain ⟨⟨⟨⟨⟨rfl, hbm⟩, hdel⟩, hok⟩, he⟩, hne⟩ := q
      obtain ⟨nm, bs, mro, ns, qn, hd, sn, sub, ab, col, del⟩ := cd
      dsimp only at hm hdel hok he hne
      subst hm hdel hbm
      have hsl : sl = #[k0, k1, k2, k3, some (.builtin n), k5] := by
        obtain ⟨l⟩ := sl
        simp only at hs
        rw [hs]
      subst hsl
      have N := Heap.Ns.of_isNs (PySem.W.isNs_of_in X hok)
      exact ⟨ox, of, nm, qn, ns, bs, hd, sn, sub, ab, col, dd, k0, k1, k2, k3, k5, n, _, some (.builtin "object.__eq__"), hx, hxc, X _ _ ho, N, mg_ofN X N he, hf, hfc, PySem.F.cmp_object.mro, (by rw [typeLookup_type, builtinLookup_eq_fast]; kernel_rfl), PySem.W.nsMap_none_of_in X hok hne⟩
    · cases q
  · cases q
def rOwn (C : Addr) (sp : Sp) (n : Bool) : R2 := fun x y H Q => ∃ a b dx dy fs gs, x = .ref a ∧ y = .ref b ∧ H a = some (.ins C dx fs) ∧ H b = some (.ins C dy gs) ∧ sp [.ref a, .ref b] H (fun v H' => ∃ k, v = .bl k ∧ Q (.bl (k != n)) H') E0
section
variable {X : Cx} {M : Mc} {W : WX} {C f : Addr} {fd : FuncData} {ps : List Str} {k : Nat} {sp : Sp} {c : Str} {F : List D → Fr}
theorem op_ownEq (Fk : FnG X.prog X.w X.K X.mg X.base (L2.CX X.prog X.w) k f fd ps sp) (hr : RoomG k X.A) (hs : PySem.W.findIn X.K (.ref C) "__eq__" = some (some (.ref f))) (hf : PySem.W.isFn X.K (.ref f) = true) (hb : Binds X.K fd ps []) : OpR X (compareOp .Eq) (rOwn C sp false) := by
  intro pins s σ H x y u v Q I rx ry h
  obtain ⟨a, b, dx, dy, fs, gs, rfl, rfl, ha, hb', hsp⟩ := h
  cases rx
  cases ry
  obtain ⟨mA, J, _⟩ := ins_get I.hok ha
  obtain ⟨mB, J', _⟩ := ins_get I.hok hb'
  obtain ⟨od, J, _⟩ := J.look
  obtain ⟨od', J', _⟩ := J'.look
  obtain ⟨m, hF⟩ := I.fr
  show wpAny (model X.prog X.w) X.A (richCompare .Eq (.ref a) (.ref b)) (EP X pins σ Q) X.xe s
  refine PySem.W.cmp_K (op := .Eq) (tb := .ref C) hr.units0 hF I.ok.mod.kin J J'.type (by simp [PySem.W.notFirst]) hs hf ?_
  have hl := Fk.len _ _ _ _ hsp
  have r2 : Vals [V.ref a, V.ref b] [Value.ref a, Value.ref b] := .cons rfl (.cons rfl .nil)
  refine wpAny_call (codeAny_mono (Fk.at_ (ag := ⟨[.ref a, .ref b], []⟩) (us := [.ref a, .ref b]) (vs := [.ref a, .ref b]) (E := E0) hr I.env0 (by
    have := hb s [.ref a, .ref b] I.kIn (by simpa using hl)
    simpa using this) r2 hsp) fun r s' hq => ?_)
  cases r with
  | error e => exact passL pins σ H s e s' I hq
  | ok fl =>
    cases fl with
    | ret w =>
      obtain ⟨z, H', I', rz, kk, ez, q⟩ := I.after hq
      subst ez
      cases rz
      exact ⟨.bl kk, H', I', rfl, by simpa using q⟩
    | next => exact False.elim hq
    | brk => exact False.elim hq
    | cont => exact False.elim hq
theorem op_ownNe (Fk : FnG X.prog X.w X.K X.mg X.base (L2.CX X.prog X.w) k f fd ps sp) (hr : RoomG (k + 1) X.A) (hi : insEq X.K C f = true) (hf : PySem.W.isFn X.K (.ref f) = true) (hb : Binds X.K fd ps []) : OpR X (compareOp .NotEq) (rOwn C sp true) := by
  intro pins s σ H x y u v Q I rx ry h
  obtain ⟨a, b, dx, dy, fs, gs, rfl, rfl, ha, hb', hsp⟩ := h
  cases rx
  cases ry
  obtain ⟨mA, J, _⟩ := ins_get I.hok ha
  obtain ⟨mB, J', _⟩ := ins_get I.hok hb'
  obtain ⟨od, J, _⟩ := J.look
  obtain ⟨od', J', _⟩ := J'.look
  obtain ⟨of, hof, hofc⟩ : ∃ of : Obj, s.heap.get? f = some of ∧ of.cls = .type "function" := by
    have e := beq_iff_eq.mp hf
    obtain ⟨o, ho, e2⟩ := Option.map_eq_some_iff.mp (show (X.K.lookup f).map (·.cls) = some (.type "function") from e)
    exact ⟨o, I.kIn _ _ ho, e2⟩
  have X1 := insEq_of I.kIn hi J.at_ J.cls hof hofc
  have hl := Fk.len _ _ _ _ hsp
  have r2 : Vals [V.ref a, V.ref b] [Value.ref a, Value.ref b] := .cons rfl (.cons rfl .nil)
  obtain ⟨hh, gg, dd, tt, oo⟩ := s
  refine compareOp_ne_ownEq PySem.F.cmp_object X1 J'.at_ J'.cls (by have := hr.units; omega) ?_
  refine wpAny_call (codeAny_mono (Fk.at_ (ag := ⟨[.ref a, .ref b], []⟩) (us := [.ref a, .ref b]) (vs := [.ref a, .ref b]) (E := E0) hr.in1 I.env0.in1 (by
    have := hb _ [.ref a, .ref b] I.kIn (by simpa using hl)
    simpa using this) r2 hsp) fun r s' hq => ?_)
  cases r with
  | error e => exact passL pins σ H _ e s' I hq
  | ok fl =>
    cases fl with
    | ret w =>
      obtain ⟨z, H', I', rz, kk, ez, q⟩ := I.after hq
      subst ez
      cases rz
      exact ⟨kk, rfl, .bl (!kk), H', I', rfl, by simpa using q⟩
    | next => exact False.elim hq
    | brk => exact False.elim hq
    | cont => exact False.elim hq
def opOwn (c : Str) (F : List D → Fr) (n : Bool) (a b : D) : Option D := if isI c Str.empty a && isI c Str.empty b then (match F [a, b] with
    | .ok (.bl k) [] => some (.bl (k != n))
    | _ => none) else none
theorem bs_own {n : Bool} (hc : M.cl c = some C) : BinS M (rOwn C (spF M.K M.cl [false, false] F) n) (opOwn c F n) := by
  intro an ρ σ H ts ds a b d x y Q e R q
  unfold opOwn at e
  split at e
  · rename_i hi
    obtain ⟨h1, h2⟩ := Bool.and_eq_true_iff.mp hi
    cases hF : F [a, b] with
    | ok z bs =>
      rw [hF] at e
      cases z with
      | bl k =>
        cases bs with
        | nil =>
          cases e
          have R' : RelX M an ρ σ H (x :: y :: ts) (a :: b :: ds) := R.temps fun _ _ q => Reps.cons q.tail.head (Reps.cons q.head q.tail.tail)
          obtain ⟨G, s, ra⟩ := R'.rep
          obtain ⟨G2, s2, rb⟩ := R.rep
          obtain ⟨pa, dx, fs, rfl, ga, _⟩ := isI_at h1 hc ra
          obtain ⟨pb, dy, gs, rfl, gb, _⟩ := isI_at h2 hc rb
          refine ⟨pa, pb, dx, dy, fs, gs, rfl, rfl, s _ _ ga, s2 _ _ gb, ?_⟩
          refine call_end (as := [none, none]) (Wx := W0) (ws := [.ref pa, .ref pb]) (es := [a, b]) (by exact List.nodup_nil) (fun _ _ _ h => h.elim) ⟨_, _, _, rfl, rfl, _, [], [], rfl, rfl, rfl, rfl⟩ rfl R' ?_
          show EOk M an ts ds W0 σ (match F [a, b] with | .ok d bs => (match putB [none, none] bs ρ with | some ρ2 => Rs.ok d ρ2 | none => .stuck) | .err c fs es' bs => (match putB [none, none] bs ρ with | some ρ2 => Rs.err c fs es' ρ2 | none => .stuck) | .stuck => .stuck) _
          rw [hF]
          exact fun v H' R2 => ⟨k, R2.repH, q _ H' (R2.temps fun _ _ q => Reps.cons rfl q.tail)⟩
        | cons => cases e
      | _ => cases e
    | _ => rw [hF] at e; cases e
  · cases e
end
end Dl
end
section
set_option maxHeartbeats 4000000
/-! DlO: len(set(..)), sorted pairs, two clauses. -/
namespace Dl
open PySem PySem.Spec PyProof.Rows L2
section
variable {X : Cx} {M : Mc} {W : WX} {e : Expr} {fe : En → Rs D} {p p2 q pos : Pos}
theorem asI_reps {K : PySem.W.Frag} {cl : Cl} {G : Hp} {ds : List D} {vs : List V} {ns : List Int} (h : asI ds = some ns) (r : Reps K cl G ds vs) : vs = ns.map V.int := asI_rep h r
def gLenSet : D → Option D
  | .lst ds => (asI ds).bind fun ns => if ns.Nodup ∧ ns.length ≤ 4000 then some (.int ns.length) else none
  | _ => none
theorem se_lenSet (hk : M.K = X.K) (hc : X.calm = true) (hm : X.mg "len" = none) (hm2 : X.mg "set" = none) (h : SE X M W e fe) (hg : Gl X "len" := by rfl) (hg2 : Gl X "set" := by rfl) (na : starEach [e] X.env = (false, eval e X.env) :: starEach [] X.env := by rfl) :
    SE X M W (.Call (.Name "len" p) [.Call (.Name "set" p2) [e] [] q] [] pos) (fUn gLenSet fe) := by
  refine pe_imp (RZ.pe_lenSetI hg hm hg2 hm2 h hc na) fun σ H Q ⟨an, ρ, ts, ds, R, h⟩ => ?_
  refine ⟨an, ρ, ts, ds, R, EOk.bind (P := fun r => EOk M an ts ds W σ r Q) h (fun _ _ _ _ z => z) (fun z => z) fun d ρ1 v H1 R1 h1 => ?_⟩
  cases d with
  | lst es =>
    replace h1 : EOk M an ts ds W σ (match (asI es).bind fun ns => if ns.Nodup ∧ ns.length ≤ 4000 then some (D.int ns.length) else none with | some d => .ok d ρ1 | none => .stuck) Q := h1
    cases hI : asI es with
    | none => rw [hI] at h1; exact h1.elim
    | some ns =>
      rw [hI] at h1
      dsimp only [Option.bind] at h1
      by_cases c : ns.Nodup ∧ ns.length ≤ 4000
      · rw [if_pos c] at h1
        obtain ⟨a, vs, rfl, g, r⟩ := R1.repH
        have e := asI_reps hI r
        subst e
        exact ⟨a, ns, rfl, hk ▸ SqL.of g, c.1, c.2, h1 _ H1 (R1.temps fun _ _ q => Reps.cons rfl q.tail)⟩
      · rw [if_neg c] at h1; exact h1.elim
  | _ => exact h1.elim
end
/-! ### sorted(pairs) -/
abbrev lexP (a b : Int × Int) : Bool := SrtO.lexB a b
def insP (x : Int × Int) : List (Int × Int) → List (Int × Int)
  | [] => [x]
  | y :: r => if lexP y x = true then y :: insP x r else x :: y :: r
def srtP : List (Int × Int) → List (Int × Int)
  | [] => []
  | x :: r => insP x (srtP r)
theorem insP_perm {x : Int × Int} : ∀ {l : List (Int × Int)}, (insP x l).Perm (x :: l)
  | [] => List.Perm.refl _
  | y :: r => by
    unfold insP
    split
    · exact (List.Perm.cons y insP_perm).trans (List.Perm.swap x y r)
    · exact List.Perm.refl _
theorem srtP_perm : ∀ {l : List (Int × Int)}, (srtP l).Perm l
  | [] => List.Perm.refl _
  | x :: r => insP_perm.trans (List.Perm.cons x srtP_perm)
abbrev SrP (l : List (Int × Int)) : Prop := l.Pairwise fun x y => lexP y x = false
theorem lex_asym {a b : Int × Int} (h : lexP a b = true) : lexP b a = false := by
  have := SrtO.lexB_iff.mp h
  exact SrtO.lexB_no.mpr (by omega)
theorem lex_tr {a b c : Int × Int} (h : lexP b a = false) (h2 : lexP c b = false) : lexP c a = false := by
  have := SrtO.lexB_no.mp h
  have := SrtO.lexB_no.mp h2
  exact SrtO.lexB_no.mpr (by omega)
theorem insP_srt {x : Int × Int} : ∀ {l : List (Int × Int)}, SrP l → SrP (insP x l)
  | [], _ => List.pairwise_singleton _ _
  | y :: r, h => by
    have h' := List.pairwise_cons.mp h
    unfold insP
    split
    · rename_i c
      refine List.pairwise_cons.mpr ⟨fun z hz => ?_, insP_srt h'.2⟩
      rcases List.mem_cons.mp (insP_perm.mem_iff.mp hz) with rfl | hz
      · exact lex_asym c
      · exact h'.1 z hz
    · rename_i c
      have c' : lexP y x = false := by simpa using c
      refine List.pairwise_cons.mpr ⟨fun z hz => ?_, h⟩
      rcases List.mem_cons.mp hz with rfl | hz
      · exact c'
      · exact lex_tr c' (h'.1 z hz)
theorem srtP_srt : ∀ {l : List (Int × Int)}, SrP (srtP l)
  | [] => List.Pairwise.nil
  | _ :: r => insP_srt srtP_srt
theorem srP_uniq : ∀ {l m : List (Int × Int)}, SrP l → SrP m → l.Perm m → l = m
  | [], m, _, _, h => (List.Perm.eq_nil h.symm).symm
  | x :: l, [], _, _, h => absurd h.length_eq (by simp)
  | x :: l, y :: m, hl, hm, h => by
    have hl' := List.pairwise_cons.mp hl
    have hm' := List.pairwise_cons.mp hm
    have e : x = y := by
      rcases List.mem_cons.mp (h.mem_iff.mp List.mem_cons_self) with e | hx
      · exact e
      · rcases List.mem_cons.mp (h.mem_iff.mpr List.mem_cons_self) with e | hy
        · exact e.symm
        · have a := SrtO.lexB_no.mp (hm'.1 x hx)
          have b := SrtO.lexB_no.mp (hl'.1 y hy)
          obtain ⟨x1, x2⟩ := x
          obtain ⟨y1, y2⟩ := y
          simp only at a b
          have : x1 = y1 := by omega
          have : x2 = y2 := by omega
          simp [*]
    subst e
    rw [srP_uniq hl'.2 hm'.2 h.cons_inv]
def asP : List D → Option (List (Int × Int))
  | [] => some []
  | .tup [.int i, .int j] :: ds => (asP ds).map ((i, j) :: ·)
  | _ => none
def pD (x : Int × Int) : D := .tup [.int x.1, .int x.2]
def gSortP : List D → Option D
  | [.lst ds] => (asP ds).map fun ps => .lst ((srtP ps).map pD)
  | _ => none
theorem asP_eq : ∀ {ds : List D} {ps : List (Int × Int)}, asP ds = some ps → ds = ps.map pD
  | [], ps, h => by cases h; rfl
  | d :: ds, ps, h => by
    unfold asP at h
    split at h
    · rename_i e; cases e
    · rename_i i j ds' e
      cases e
      obtain ⟨qs, e1, rfl⟩ := Option.map_eq_some_iff.mp h
      rw [asP_eq e1]; rfl
    · cases h
def A2 {α β : Type} (T : α → β → Prop) : List α → List β → Prop
  | [], [] => True
  | a :: as, b :: bs => T a b ∧ A2 T as bs
  | _, _ => False
theorem A2.len {α β : Type} {T : α → β → Prop} : ∀ {as : List α} {bs : List β}, A2 T as bs → as.length = bs.length
  | [], [], _ => rfl
  | _ :: _, _ :: _, h => by simp [A2.len h.2]
  | [], _ :: _, h => h.elim
  | _ :: _, [], h => h.elim
theorem A2.mem {α β : Type} {T : α → β → Prop} : ∀ {as : List α} {bs : List β}, A2 T as bs → ∀ b ∈ bs, ∃ a ∈ as, T a b
  | [], [], _, _, z => nomatch z
  | a :: as, b :: bs, h, x, hx => by
    rcases List.mem_cons.mp hx with rfl | hx
    · exact ⟨a, List.mem_cons_self, h.1⟩
    · obtain ⟨y, hy, q⟩ := A2.mem h.2 x hx
      exact ⟨y, List.mem_cons_of_mem _ hy, q⟩
  | [], _ :: _, h, _, _ => h.elim
  | _ :: _, [], h, _, _ => h.elim
theorem A2.map_eq {α β : Type} {T : α → β → Prop} {k : β → α} : ∀ {as : List α} {bs : List β}, A2 T as bs → (∀ a b, T a b → k b = a) → bs.map k = as
  | [], [], _, _ => rfl
  | a :: as, b :: bs, h, q => by simp [q a b h.1, A2.map_eq h.2 q]
  | [], _ :: _, h, _ => h.elim
  | _ :: _, [], h, _ => h.elim
theorem A2.of_map {α β : Type} {T : α → β → Prop} {k : β → α} : ∀ {bs : List β}, (∀ b ∈ bs, T (k b) b) → A2 T (bs.map k) bs
  | [], _ => trivial
  | b :: bs, h => ⟨h b List.mem_cons_self, A2.of_map fun x hx => h x (List.mem_cons_of_mem _ hx)⟩
theorem reps_A2 {K : PySem.W.Frag} {cl : Cl} {G : Hp} : ∀ {ps : List (Int × Int)} {xs : List V}, Reps K cl G (ps.map pD) xs ↔ A2 (fun p x => Rep K cl G (pD p) x) ps xs
  | [], xs => by
    constructor
    · intro h; cases (show xs = [] from h); trivial
    · intro h; cases xs with
      | nil => exact Reps.nil
      | cons => exact h.elim
  | p :: ps, xs => by
    constructor
    · rintro ⟨v, r, rfl, h, t⟩; exact ⟨h, reps_A2.mp t⟩
    · intro h; cases xs with
      | nil => exact h.elim
      | cons x xs => exact Reps.cons h.1 (reps_A2.mpr h.2)
def rSortedT (K : PySem.W.Frag) : List V → Hp → VK → Prop := fun vs H Q => ∃ (a : Addr) (xs : List V) (ps : List (Int × Int)) (T : Int × Int → V → Prop), vs = [V.ref a] ∧ SqL K H a xs ∧ A2 T ps xs ∧ (∀ p x, T p x → ∃ t, x = V.ref t ∧ SqT K H t [.int p.1, .int p.2]) ∧
  ∀ ys p, A2 T (srtP ps) ys → H p = none → Q (.ref p) (upd H p (.lst ys))
open Classical in
theorem cr_sortedT {X : Cx} : CallR X (.builtin "sorted") (rSortedT X.K) := by
  intro pins s σ H vs us Q I r h
  obtain ⟨a, xs, ps, T, rfl, hs, ha, hT, q⟩ := h
  have key : ∃ k : V → Int × Int, ∀ p x, T p x → k x = p := by
    refine ⟨fun x => if h : ∃ p, T p x then Classical.choose h else (0, 0), fun p x hp => ?_⟩
    have ex : ∃ p, T p x := ⟨p, hp⟩
    simp only [dif_pos ex]
    obtain ⟨t1, e1, s1⟩ := hT _ _ (Classical.choose_spec ex)
    obtain ⟨t2, e2, s2⟩ := hT _ _ hp
    rw [e1] at e2; cases e2
    have := I.tuple_inj s1 s2
    generalize Classical.choose ex = z at this
    obtain ⟨z1, z2⟩ := z
    obtain ⟨p1, p2⟩ := p
    simp at this
    simp [this]
  obtain ⟨k, hk⟩ := key
  obtain ⟨its, rv, hl, hz⟩ := I.list hs
  obtain ⟨u, rfl, ru⟩ := vals1 r
  obtain rfl : u = Value.ref a := ru
  have hx : ∀ x ∈ xs, ∃ t, x = V.ref t ∧ SqT X.K H t [.int (k x).1, .int (k x).2] := fun x hx => by
    obtain ⟨p, _, tp⟩ := ha.mem x hx
    obtain ⟨t, e, s⟩ := hT p x tp
    exact ⟨t, e, by rw [hk p x tp]; exact s⟩
  obtain ⟨e1, e2⟩ := refs_back rv fun x m => by
    obtain ⟨t, e, _⟩ := hx x m
    exact ⟨t, e⟩
  refine SrtO.sorted_pairsO (k := fun u => k (backV u)) hl.isList (by rw [← rv.length]; exact hz) (fun v hv => ?_) fun h' d out h1 h2 kp hd hn => ?_
  · obtain ⟨t, rfl⟩ := e2 v hv
    have hm : V.ref t ∈ xs := by rw [e1]; exact List.mem_map.mpr ⟨_, hv, rfl⟩
    obtain ⟨t', e, ht⟩ := hx _ hm
    cases e
    obtain ⟨its2, r2, ⟨o, ho, hc, n, hd⟩, _⟩ := I.tuple ht
    obtain ⟨u1, u2, rfl, ri, rj⟩ := vals2 r2
    obtain ⟨t1, rfl⟩ := ri
    obtain ⟨t2, rfl⟩ := rj
    exact ⟨t, o, t1, t2, n, rfl, ho, hc, hd⟩
  · have h3 : ∀ u ∈ out, ∃ a, u = Value.ref a := fun u hu => e2 u (h2.perm.mem_iff.mp hu)
    obtain ⟨n, hn⟩ := hn
    have hb : SrtO.Stb (ltP k) (out.map backV) xs := by
      rw [e1]
      exact SrtO.Stb.map (ltP_swo k) backV h2
    have hs2 : SrtO.Srtd (ltP k) (out.map backV) := SrtO.srtd_map h1
    have hA : A2 T (srtP ps) (out.map backV) := by
      have e3 : xs.map k = ps := ha.map_eq hk
      have e4 : (out.map backV).map k = srtP ps := by
        refine srP_uniq ?_ srtP_srt ?_
        · exact List.pairwise_map.mpr hs2
        · rw [← e3]
          exact (hb.perm.map k).trans srtP_perm.symm
      rw [← e4]
      refine A2.of_map fun y hy => ?_
      obtain ⟨p, _, tp⟩ := ha.mem y (hb.perm.mem_iff.mp hy)
      rw [hk p y tp]; exact tp
    refine ⟨.ref d, upd H d (.lst (out.map backV)), I.laid (t' := s.toks) kp hd ⟨?_, out, n, vals_back h3, hn⟩, rfl, q _ d hA (I.hok.fresh hd)⟩
    rw [hb.len]
    exact hz
section
variable {M : Mc}
theorem cf_sortP : CallF M (rSortedT M.K) gSortP := by
  intro an ρ σ H ts ds es d vs Q e l R q
  unfold gSortP at e
  split at e
  · rename_i fs
    obtain ⟨ps, e1, rfl⟩ := Option.map_eq_some_iff.mp e
    have e2 := asP_eq e1
    subst e2
    obtain ⟨v, rfl⟩ := len1 (es := []) l
    obtain ⟨G, own, r⟩ := R
    obtain ⟨a, xs, rfl, g, rx⟩ := (show ∃ a xs, v = .ref a ∧ G a = some (.lst xs) ∧ Reps M.K M.cl G (ps.map pD) xs from r.tmp.head)
    refine ⟨a, xs, ps, fun p x => Rep M.K M.cl G (pD p) x, rfl, SqL.of (r.sub _ _ g), reps_A2.mp rx, fun p x hp => ?_, fun ys p hA hn => ?_⟩
    · obtain ⟨t, us, rfl, sq, ru⟩ := (show ∃ t us, x = .ref t ∧ SqT M.K G t us ∧ Reps M.K M.cl G [.int p.1, .int p.2] us from hp)
      obtain ⟨u1, r1, rfl, h1, u2, r2, rfl, h2, h3⟩ := ru
      cases (show u1 = _ from h1)
      cases (show u2 = _ from h2)
      cases (show r2 = [] from h3)
      exact ⟨t, rfl, r.sub.sqT sq⟩
    · refine q p _ ?_
      exact r.newAn hn ⟨ys, upd_same, reps_A2.mpr hA⟩ r.tmp.tail
  · cases e
end
end Dl
end
section
set_option maxHeartbeats 4000000
/-! DlP: two clauses, dict comprehensions, dicts. -/
namespace Dl
open PySem PySem.Spec PyProof.Rows L2
/-! ### two clauses -/
def lc2D (vs vs1 : List Nat) (g : D → En → Rs Unit) (ft : En → Rs Bool) (fi1 : En → Rs (List D)) (g1 : D → En → Rs Unit) (ft1 : En → Rs Bool) (fe : En → Rs D) : List D → List D → En → Rs (List D)
  | [], acc, ρ => .ok acc ρ
  | d :: es, acc, ρ => match g d ρ with
    | .ok _ ρ1 => (match ft ρ1 with
      | .ok true ρ2 => (match fi1 ρ2 with
        | .ok es1 ρ3 => if okW ρ3 vs1 = true then (match lcD vs1 g1 ft1 fe es1 acc (wipeR ρ3 vs1) with
          | .ok acc' ρ4 => if okW ρ4 vs = true then lc2D vs vs1 g ft fi1 g1 ft1 fe es acc' (wipeR ρ4 vs) else .stuck
          | _ => .stuck) else .stuck
        | _ => .stuck)
      | .ok false ρ2 => if okW ρ2 vs = true then lc2D vs vs1 g ft fi1 g1 ft1 fe es acc (wipeR ρ2 vs) else .stuck
      | _ => .stuck)
    | _ => .stuck
def fLc2 (vs vs1 : List Nat) (fi : En → Rs (List D)) (g : D → En → Rs Unit) (ft : En → Rs Bool) (fi1 : En → Rs (List D)) (g1 : D → En → Rs Unit) (ft1 : En → Rs Bool) (fe : En → Rs D) : En → Rs D := fun ρ => (fi ρ).bind fun es ρ1 => if okW ρ1 vs = true then lcEnd (lc2D vs vs1 g ft fi1 g1 ft1 fe es [] (wipeR ρ1 vs)) else .stuck
section
variable {X : Cx} {M : Mc} {W : WX} {vs vs1 : List Nat} {g g1 : D → En → Rs Unit} {ft ft1 : En → Rs Bool} {fe : En → Rs D} {fi fi1 : En → Rs (List D)}
theorem lc2D_gone : ∀ {es acc out : List D} {ρ ρ' : En}, lc2D vs vs1 g ft fi1 g1 ft1 fe es acc ρ = .ok out ρ' → Gone ρ vs → Gone ρ' vs
  | [], acc, out, ρ, ρ', h, k => by cases h; exact k
  | d :: es, acc, out, ρ, ρ', h, k => by
    unfold lc2D at h
    split at h
    · split at h
      · split at h
        · split at h
          · split at h
            · split at h
              · exact lc2D_gone h gone_wipe
              · cases h
            · cases h
          · cases h
        · cases h
      · split at h
        · exact lc2D_gone h gone_wipe
        · cases h
      · cases h
    · cases h
theorem lc2_main {σ : St} {H : Hp} {Q : VK} (hv : ∀ i ∈ vs1, i ∈ vs) (h : tLs M W (fLc2 vs vs1 fi g ft fi1 g1 ft1 fe) σ H Q) : tLc2 (tI M W fi) (tG M vs g) (tB1 M W0 ft) (tI M W0 fi1) (tG M vs1 g1) (tB1 M W0 ft1) (tE M W0 fe) vs vs1 σ H Q := by
  obtain ⟨an, ρ, ts, ds, R, h⟩ := h
  refine ⟨an, ρ, ts, ds, R, ?_⟩
  unfold fLc2 at h
  cases q : fi ρ with
  | stuck => rw [q] at h; exact h
  | err c fs es ρ1 => rw [q] at h; exact h
  | ok es ρ1 =>
    rw [q] at h
    intro J H1 tv td l R1 It1 Dd hD
    have h : LOk M an ts ds W σ (if okW ρ1 vs = true then lcEnd (lc2D vs vs1 g ft fi1 g1 ft1 fe es [] (wipeR ρ1 vs)) else .stuck) Q := h
    by_cases c : okW ρ1 vs = true
    · rw [if_pos c] at h
      cases q2 : lc2D vs vs1 g ft fi1 g1 ft1 fe es [] (wipeR ρ1 vs) with
      | stuck => rw [q2] at h; exact h.elim
      | err c fs es ρ1 => rw [q2] at h; exact h.elim
      | ok out ρe =>
        rw [q2] at h
        have R2 : RelX M ((Dd, .lst []) :: an) ρ1 σ (upd H1 Dd (.lst [])) (tv ++ ts) (td ++ ds) := R1.newAn hD fun G s r => ⟨⟨[], upd_same, Reps.nil⟩, r⟩
        have fin : ∀ H', RelX M ((Dd, .lst out) :: an) ρe (L2.wipe σ vs) H' (tv ++ ts) (td ++ ds) → Q (.ref Dd) H' := fun H' R' => h Dd H' ((R'.unwipe (lc2D_gone q2 gone_wipe)).drops l)
        refine ⟨fun i m H => m = es.length - i ∧ i ≤ es.length ∧ ∃ ρ acc, RelX M ((Dd, .lst acc) :: an) ρ (L2.wipe σ vs) H (tv ++ ts) (td ++ ds) ∧ lc2D vs vs1 g ft fi1 g1 ft1 fe (es.drop i) acc ρ = .ok out ρe, ⟨es.length, by simp, Nat.zero_le _, _, [], R2.wipe c, q2⟩, ?_⟩
        rintro i m H ⟨rfl, hi, ρ, acc, R, h⟩
        have it := It1 i _ ρ _ H ts ds R
        by_cases hlt : i < es.length
        · have e : es.drop i = es[i] :: es.drop (i + 1) := List.drop_eq_getElem_cons hlt
          rw [e] at h
          obtain ⟨go, yl⟩ := it.1 es[i] (List.getElem?_eq_getElem hlt)
          refine .inr ⟨go, fun H => ∃ ρ acc, RelX M ((Dd, .lst acc) :: an) ρ (L2.wipe σ vs) H (tv ++ ts) (td ++ ds) ∧ lc2D vs vs1 g ft fi1 g1 ft1 fe (es.drop (i + 1)) acc ρ = .ok out ρe, fun H' ⟨ρ', acc', R', h'⟩ => ⟨es.length - (i + 1), by omega, rfl, hlt, ρ', acc', R', h'⟩, fun x H' y => ?_⟩
          refine ⟨(Dd, .lst acc) :: an, ρ, tv ++ ts, td ++ ds, es[i], yl x H' y, ?_⟩
          unfold lc2D at h
          cases q1 : g es[i] ρ with
          | stuck => rw [q1] at h; cases h
          | err c fs es ρ1 => rw [q1] at h; cases h
          | ok u ρ1 =>
            rw [q1] at h
            dsimp only at h ⊢
            intro σ2 H2 R2 hw
            have hw' : L2.wipe σ2 vs = L2.wipe σ vs := by rw [hw]; exact wipe_wipe fun i hi => hi
            refine ⟨hw', (Dd, .lst acc) :: an, ρ1, tv ++ ts, td ++ ds, R2, ?_⟩
            cases q3 : ft ρ1 with
            | stuck => rw [q3] at h; cases h
            | err c fs es ρ1 => rw [q3] at h; cases h
            | ok b ρ2 =>
              rw [q3] at h
              intro H3 R3
              cases b with
              | false =>
                dsimp only at h
                by_cases c : okW ρ2 vs = true
                · rw [if_pos c] at h
                  refine iteF ⟨wipeR ρ2 vs, acc, ?_, h⟩
                  rw [← hw']; exact R3.wipe c
                · rw [if_neg c] at h; cases h
              | true =>
                dsimp only at h
                refine iteT ⟨(Dd, .lst acc) :: an, ρ2, tv ++ ts, td ++ ds, R3, ?_⟩
                cases q4 : fi1 ρ2 with
                | stuck => rw [q4] at h; cases h
                | err c fs es ρ1 => rw [q4] at h; cases h
                | ok es1 ρ3 =>
                  rw [q4] at h
                  dsimp only at h
                  intro J1 H4 tv1 td1 l1 R4 It2
                  by_cases c : okW ρ3 vs1 = true
                  · rw [if_pos c] at h
                    cases q5 : lcD vs1 g1 ft1 fe es1 acc (wipeR ρ3 vs1) with
                    | stuck => rw [q5] at h; cases h
                    | err c fs es ρ1 => rw [q5] at h; cases h
                    | ok acc' ρ4 =>
                      rw [q5] at h
                      dsimp only at h
                      by_cases c4 : okW ρ4 vs = true
                      · rw [if_pos c4] at h
                        refine lc_loop It2 (R4.wipe c) q5 fun H5 R5 => ⟨wipeR ρ4 vs, acc', ?_, h⟩
                        have := (R5.wipe c4).drops l1
                        rw [wipe_wipe hv, hw'] at this
                        exact this
                      · rw [if_neg c4] at h; cases h
                  · rw [if_neg c] at h; cases h
        · have e : i = es.length := by omega
          subst e
          rw [List.drop_length] at h
          cases h
          exact .inl ⟨it.2 rfl, fin H R⟩
    · rw [if_neg c] at h; exact h.elim
theorem sl_lc2 {elt tg iter tg1 iter1 : Expr} {ifs ifs1 : List Expr} {scope : Scope} {own : List (Str × Nat)} {pos : Pos} (hc : X.calm = true) (hN : X.N.Nodup) (hi : SI X M W tg iter fi) (ok : BlkOk X.N X.env.scope scope own) (hv : own.map (·.2) = vs) (hv1 : ∀ i ∈ vs1, i ∈ vs)
    (hg : ∀ (s : Shared) (H : Hp) (C : Addr) (cl : List (Str × Addr)) (fp : List Addr), SG (X.blk s H scope (compEnvC scope cl C X.env) fp) M vs tg g)
    (ht : ∀ (s : Shared) (H : Hp) (C : Addr) (cl : List (Str × Addr)) (fp : List Addr), PTs (X.blk s H scope (compEnvC scope cl C X.env) fp) ifs (tB1 M W0 ft))
    (hi1 : ∀ (s : Shared) (H : Hp) (C : Addr) (cl : List (Str × Addr)) (fp : List Addr), SI (X.blk s H scope (compEnvC scope cl C X.env) fp) M W0 tg1 iter1 fi1)
    (hg1 : ∀ (s : Shared) (H : Hp) (C : Addr) (cl : List (Str × Addr)) (fp : List Addr), SG (X.blk s H scope (compEnvC scope cl C X.env) fp) M vs1 tg1 g1)
    (ht1 : ∀ (s : Shared) (H : Hp) (C : Addr) (cl : List (Str × Addr)) (fp : List Addr), PTs (X.blk s H scope (compEnvC scope cl C X.env) fp) ifs1 (tB1 M W0 ft1))
    (he : ∀ (s : Shared) (H : Hp) (C : Addr) (cl : List (Str × Addr)) (fp : List Addr), SE (X.blk s H scope (compEnvC scope cl C X.env) fp) M W0 elt fe)
    (hs : ∀ x, foldedSetIterable iter X.env x = pure x := by intro _; rfl) (hs1 : ∀ env x, foldedSetIterable iter1 env x = pure x := by intro _ _; rfl) :
    SL X M W (.ListComp elt [⟨tg, iter, ifs, 0⟩, ⟨tg1, iter1, ifs1, 0⟩] scope pos) (fLc2 vs vs1 fi g ft fi1 g1 ft1 fe) :=
  pe_imp (pe_lc2 (vs1 := vs1) hc hN hi ok (by rw [hv]; exact hv1) hg ht hi1 hg1 ht1 he hs hs1) fun σ H Q h => by rw [hv]; exact lc2_main hv1 h
end
end Dl
end
section
set_option maxHeartbeats 4000000
/-! DlQ: dict comprehensions, dicts. -/
namespace Dl
open PySem PySem.Spec PyProof.Rows L2
/-! ### what is held aside gets another content -/
section
variable {M : Mc} {an : List (Addr × D)} {ρ : En} {σ : St} {H : Hp} {ts us : List V} {ds es : List D} {p : Addr} {d0 : D}
theorem RelX.anPutG (R : RelX M ((p, d0) :: an) ρ σ H us es) : ∃ G, OwAt M.K M.cl G H p d0 ∧ Sub G H ∧ Reps M.K M.cl G es us ∧
    ∀ (o' : HO) (d' : D) (ts : List V) (ds : List D), OwAt M.K M.cl G (upd H p o') p d' → Reps M.K M.cl G ds ts → RelX M ((p, d') :: an) ρ σ (upd H p o') ts ds := by
  obtain ⟨G, own, r⟩ := R
  obtain ⟨z3, z4, z5⟩ := r.anp _ List.mem_cons_self
  refine ⟨G, z3, r.sub, r.tmp, fun o' d' ts ds q1 q2 => ⟨G, own, ?_⟩⟩
  have pln : PlainAt H p := z3.plainAt
  have keep : ∀ b u, b ≠ p → H b = some u → (upd H p o') b = some u := fun b u hb e => by rw [upd_ne hb]; exact e
  have gne : ∀ b u, G b = some u → b ≠ p := fun b u e c => by rw [c] at e; rw [z4] at e; cases e
  have one : ∀ i, IsOw ρ i → own i ≠ p := fun i hi => r.apart i hi _ List.mem_cons_self
  have nd := List.nodup_cons.mp (show (p :: an.map (·.1)).Nodup from r.anN)
  refine { sub := fun b u e => keep b u (gne b u e) (r.sub b u e), g0 := r.g0, fr := r.fr, ext := fun b u e w nt => keep b u ?_ (r.ext b u e w nt), tab := pln.tabs r.tab, ntb := r.ntb, pin := r.pin, wok := fun b w => ?_, shp := r.shp, owp := fun j d' hj => ?_, bop := fun j d' hj => ?_, anp := fun x hx => ?_, inj := r.inj, apart := fun i hi x hx => ?_, anN := r.anN, len := r.len, tmp := q2 }
  · rintro rfl
    obtain ⟨ps, z⟩ := z5 _ e; exact nt ps z
  · by_cases hb : b = p
    · exact hb ▸ q1.plainAt
    · obtain ⟨u, hu, pu⟩ := r.wok b w; exact ⟨u, keep b u hb hu, pu⟩
  · obtain ⟨c1, c2, c3, c4⟩ := r.owp j d' hj
    exact ⟨c1, c2.mono Sub.rfl' fun u hu => keep _ u (one j ⟨_, .inl hj⟩) hu, c3, c4⟩
  · obtain ⟨c1, c2, c3, c4⟩ := r.bop j d' hj
    exact ⟨c1, c2.mono Sub.rfl' fun u hu => keep _ u (one j ⟨_, .inr hj⟩) hu, c3, c4⟩
  · rcases List.mem_cons.mp hx with e | hx
    · subst e
      exact ⟨q1, z4, z5⟩
    · obtain ⟨c2, c3, c4⟩ := r.anp x (List.mem_cons_of_mem _ hx)
      exact ⟨c2.mono Sub.rfl' fun u hu => keep _ u (fun c => nd.1 (List.mem_map.mpr ⟨x, hx, c⟩)) hu, c3, c4⟩
  · rcases List.mem_cons.mp hx with e | hx
    · subst e; exact one i hi
    · exact r.apart i hi x (List.mem_cons_of_mem _ hx)
end
/-! ### keys and values -/
def hasK (k : Key) (ks : List Key) : Bool := ks.any fun j => decide (j = k)
def repK {α : Type} (k : Key) (x : α) : List Key → List α → List α
  | j :: ks, y :: ys => (if j = k then x else y) :: repK k x ks ys
  | _, _ => []
def pKs (k : Key) (ks : List Key) : List Key := if hasK k ks = true then ks else ks ++ [k]
def pXs {α : Type} (k : Key) (x : α) (ks : List Key) (xs : List α) : List α := if hasK k ks = true then repK k x ks xs else xs ++ [x]
theorem repK_zip {k : Key} {v : V} : ∀ {ks : List Key} {vs : List V}, ks.length = vs.length → ((ks.zip vs).map fun kv => if kv.1 = k then (kv.1, v) else kv) = ks.zip (repK k v ks vs) ∧ (repK k v ks vs).length = ks.length
  | [], [], _ => ⟨rfl, rfl⟩
  | j :: ks, y :: ys, h => by
    obtain ⟨h1, h2⟩ := repK_zip (k := k) (v := v) (ks := ks) (vs := ys) (by simpa using h)
    by_cases c : j = k
    · simp [repK, c, h1, h2]
    · simp [repK, c, h1, h2]
  | [], _ :: _, h => by cases h
  | _ :: _, [], h => by cases h
theorem hasK_zip {k : Key} : ∀ {ks : List Key} {vs : List V}, ks.length = vs.length → ((ks.zip vs).any fun kv => decide (kv.1 = k)) = hasK k ks
  | [], [], _ => rfl
  | j :: ks, y :: ys, h => by
    have := hasK_zip (k := k) (ks := ks) (vs := ys) (by simpa using h)
    unfold hasK at this ⊢
    simp [this]
  | [], _ :: _, h => by cases h
  | _ :: _, [], h => by cases h
theorem putK_zip {k : Key} {v : V} {ks : List Key} {vs : List V} (h : ks.length = vs.length) : L2.putK (ks.zip vs) k v = (pKs k ks).zip (pXs k v ks vs) ∧ (pKs k ks).length = (pXs k v ks vs).length := by
  unfold L2.putK pKs pXs
  rw [hasK_zip h]
  obtain ⟨h1, h2⟩ := repK_zip (k := k) (v := v) h
  by_cases c : hasK k ks = true
  · rw [if_pos c, if_pos c, if_pos c]; exact ⟨h1, h2.symm⟩
  · rw [if_neg c, if_neg c, if_neg c]
    exact ⟨by rw [List.zip_append h]; rfl, by simp [h]⟩
theorem reps_repK {K : PySem.W.Frag} {cl : Cl} {G : Hp} {k : Key} {d : D} {v : V} (h : Rep K cl G d v) : ∀ {ks : List Key} {ds : List D} {vs : List V}, Reps K cl G ds vs → Reps K cl G (repK k d ks ds) (repK k v ks vs)
  | [], ds, vs, _ => by
    cases ds <;> cases vs <;> exact Reps.nil
  | j :: ks, [], vs, q => by cases (show vs = [] from q); exact Reps.nil
  | j :: ks, e :: ds, vs, q => by
    obtain ⟨y, r, rfl, h1, h2⟩ := q
    have := reps_repK (k := k) h (ks := ks) h2
    by_cases c : j = k
    · simp only [repK, if_pos c]; exact Reps.cons h this
    · simp only [repK, if_neg c]; exact Reps.cons h1 this
theorem reps_pXs {K : PySem.W.Frag} {cl : Cl} {G : Hp} {k : Key} {d : D} {v : V} {ks : List Key} {ds : List D} {vs : List V} (h : Rep K cl G d v) (q : Reps K cl G ds vs) : Reps K cl G (pXs k d ks ds) (pXs k v ks vs) := by
  unfold pXs
  by_cases c : hasK k ks = true
  · rw [if_pos c, if_pos c]; exact reps_repK h q
  · rw [if_neg c, if_neg c]; exact q.append (Reps.cons h Reps.nil)
/-! ### dict comprehensions -/
def dcD (vs : List Nat) (g : D → En → Rs Unit) (ft : En → Rs Bool) (fk fv : En → Rs D) : List D → List Key → List D → En → Rs (List Key × List D)
  | [], ks, acc, ρ => .ok (ks, acc) ρ
  | d :: es, ks, acc, ρ => match g d ρ with
    | .ok _ ρ1 => (match ft ρ1 with
      | .ok true ρ2 => (match fk ρ2 with
        | .ok kd ρ3 => (match fv ρ3 with
          | .ok v ρ4 => (match keyOf kd with
            | some k => if (decide (ks.length < sizeLine) && okW ρ4 vs) = true then dcD vs g ft fk fv es (pKs k ks) (pXs k v ks acc) (wipeR ρ4 vs) else .stuck
            | none => .stuck)
          | _ => .stuck)
        | _ => .stuck)
      | .ok false ρ2 => if okW ρ2 vs = true then dcD vs g ft fk fv es ks acc (wipeR ρ2 vs) else .stuck
      | _ => .stuck)
    | _ => .stuck
def dcEnd (r : Rs (List Key × List D)) : Rs D := match r with
  | .ok out ρ => .ok (.dic out.1 out.2) ρ
  | _ => .stuck
def fDc (vs : List Nat) (fi : En → Rs (List D)) (g : D → En → Rs Unit) (ft : En → Rs Bool) (fk fv : En → Rs D) : En → Rs D := fun ρ => (fi ρ).bind fun es ρ1 => if okW ρ1 vs = true then dcEnd (dcD vs g ft fk fv es [] [] (wipeR ρ1 vs)) else .stuck
section
variable {X : Cx} {M : Mc} {W : WX} {vs : List Nat} {g : D → En → Rs Unit} {ft : En → Rs Bool} {fk fv : En → Rs D} {fi : En → Rs (List D)}
theorem dcD_gone : ∀ {es : List D} {ks : List Key} {acc : List D} {out : List Key × List D} {ρ ρ' : En}, dcD vs g ft fk fv es ks acc ρ = .ok out ρ' → Gone ρ vs → Gone ρ' vs
  | [], ks, acc, out, ρ, ρ', h, k => by cases h; exact k
  | d :: es, ks, acc, out, ρ, ρ', h, k => by
    unfold dcD at h
    split at h
    · split at h
      · split at h
        · split at h
          · split at h
            · split at h
              · exact dcD_gone h gone_wipe
              · cases h
            · cases h
          · cases h
        · cases h
      · split at h
        · exact dcD_gone h gone_wipe
        · cases h
      · cases h
    · cases h
theorem dc_main {σ : St} {H : Hp} {Q : VK} (h : tLs M W (fDc vs fi g ft fk fv) σ H Q) : tDc (tI M W fi) (tG M vs g) (tB1 M W0 ft) (tE M W0 fk) (tE M W0 fv) vs σ H Q := by
  obtain ⟨an, ρ, ts, ds, R, h⟩ := h
  refine ⟨an, ρ, ts, ds, R, ?_⟩
  unfold fDc at h
  cases q : fi ρ with
  | stuck => rw [q] at h; exact h
  | err c fs es ρ1 => rw [q] at h; exact h
  | ok es ρ1 =>
    rw [q] at h
    intro J H1 tv td l R1 It1 Dd hD
    have h : LOk M an ts ds W σ (if okW ρ1 vs = true then dcEnd (dcD vs g ft fk fv es [] [] (wipeR ρ1 vs)) else .stuck) Q := h
    by_cases c : okW ρ1 vs = true
    · rw [if_pos c] at h
      cases q2 : dcD vs g ft fk fv es [] [] (wipeR ρ1 vs) with
      | stuck => rw [q2] at h; exact h.elim
      | err c fs es ρ1 => rw [q2] at h; exact h.elim
      | ok out ρe =>
        rw [q2] at h
        have R2 : RelX M ((Dd, .dic [] []) :: an) ρ1 σ (upd H1 Dd (.dK [])) (tv ++ ts) (td ++ ds) := R1.newAn hD fun G s r => ⟨⟨[], upd_same, rfl, Reps.nil⟩, r⟩
        have fin : ∀ H', RelX M ((Dd, .dic out.1 out.2) :: an) ρe (L2.wipe σ vs) H' (tv ++ ts) (td ++ ds) → Q (.ref Dd) H' := fun H' R' => h Dd H' ((R'.unwipe (dcD_gone q2 gone_wipe)).drops l)
        refine ⟨fun i m H => m = es.length - i ∧ i ≤ es.length ∧ ∃ ρ ks acc, RelX M ((Dd, .dic ks acc) :: an) ρ (L2.wipe σ vs) H (tv ++ ts) (td ++ ds) ∧ dcD vs g ft fk fv (es.drop i) ks acc ρ = .ok out ρe, ⟨es.length, by simp, Nat.zero_le _, _, [], [], R2.wipe c, q2⟩, ?_⟩
        rintro i m H ⟨rfl, hi, ρ, ks, acc, R, h⟩
        have it := It1 i _ ρ _ H ts ds R
        by_cases hlt : i < es.length
        · have e : es.drop i = es[i] :: es.drop (i + 1) := List.drop_eq_getElem_cons hlt
          rw [e] at h
          obtain ⟨go, yl⟩ := it.1 es[i] (List.getElem?_eq_getElem hlt)
          refine .inr ⟨go, fun H => ∃ ρ ks acc, RelX M ((Dd, .dic ks acc) :: an) ρ (L2.wipe σ vs) H (tv ++ ts) (td ++ ds) ∧ dcD vs g ft fk fv (es.drop (i + 1)) ks acc ρ = .ok out ρe, fun H' ⟨ρ', ks', acc', R', h'⟩ => ⟨es.length - (i + 1), by omega, rfl, hlt, ρ', ks', acc', R', h'⟩, fun x H' y => ?_⟩
          refine ⟨(Dd, .dic ks acc) :: an, ρ, tv ++ ts, td ++ ds, es[i], yl x H' y, ?_⟩
          unfold dcD at h
          cases q1 : g es[i] ρ with
          | stuck => rw [q1] at h; cases h
          | err c fs es ρ1 => rw [q1] at h; cases h
          | ok u ρ1 =>
            rw [q1] at h
            dsimp only at h ⊢
            intro σ2 H2 R2 hw
            have hw' : L2.wipe σ2 vs = L2.wipe σ vs := by rw [hw]; exact wipe_wipe fun i hi => hi
            refine ⟨hw', (Dd, .dic ks acc) :: an, ρ1, tv ++ ts, td ++ ds, R2, ?_⟩
            cases q3 : ft ρ1 with
            | stuck => rw [q3] at h; cases h
            | err c fs es ρ1 => rw [q3] at h; cases h
            | ok b ρ2 =>
              rw [q3] at h
              intro H3 R3
              cases b with
              | false =>
                dsimp only at h
                by_cases c : okW ρ2 vs = true
                · rw [if_pos c] at h
                  refine iteF ⟨wipeR ρ2 vs, ks, acc, ?_, h⟩
                  rw [← hw']; exact R3.wipe c
                · rw [if_neg c] at h; cases h
              | true =>
                dsimp only at h
                refine iteT ⟨(Dd, .dic ks acc) :: an, ρ2, tv ++ ts, td ++ ds, R3, ?_⟩
                cases q4 : fk ρ2 with
                | stuck => rw [q4] at h; cases h
                | err c fs es ρ1 => rw [q4] at h; cases h
                | ok kd ρ3 =>
                  rw [q4] at h
                  dsimp only at h
                  intro y4 H4 R4
                  refine ⟨(Dd, .dic ks acc) :: an, ρ3, y4 :: (tv ++ ts), kd :: (td ++ ds), R4, ?_⟩
                  cases q5 : fv ρ3 with
                  | stuck => rw [q5] at h; cases h
                  | err c fs es ρ1 => rw [q5] at h; cases h
                  | ok v ρ4 =>
                    rw [q5] at h
                    dsimp only at h
                    intro z5 H5 R5
                    cases q6 : keyOf kd with
                    | none => rw [q6] at h; cases h
                    | some k =>
                      rw [q6] at h
                      dsimp only at h
                      by_cases c : (decide (ks.length < sizeLine) && okW ρ4 vs) = true
                      · rw [if_pos c] at h
                        obtain ⟨c1, c2⟩ := Bool.and_eq_true_iff.mp c
                        obtain ⟨G, ⟨us, g1, g2, g3⟩, s, g4, g5⟩ := R5.anPutG
                        obtain ⟨p1, p2⟩ := putK_zip (k := k) (v := z5) g2
                        refine ⟨ks.zip us, k, keyOf_v q6 g4.tail.head, g1, by rw [List.length_zip, ← g2, Nat.min_self]; exact of_decide_eq_true c1, wipeR ρ4 vs, _, _, ?_, h⟩
                        rw [← hw', p1]
                        exact (g5 _ (.dic (pKs k ks) (pXs k v ks acc)) _ _ ⟨_, upd_same, p2, reps_pXs g4.head g3⟩ g4.tail.tail).wipe c2
                      · rw [if_neg c] at h; cases h
        · have e : i = es.length := by omega
          subst e
          rw [List.drop_length] at h
          cases h
          exact .inl ⟨it.2 rfl, fin H R⟩
    · rw [if_neg c] at h; exact h.elim
theorem sl_dc {kx vx tg iter : Expr} {ifs : List Expr} {scope : Scope} {own : List (Str × Nat)} {pos : Pos} (hc : X.calm = true) (hN : X.N.Nodup) (hi : SI X M W tg iter fi) (ok : BlkOk X.N X.env.scope scope own) (hv : own.map (·.2) = vs)
    (hg : ∀ (s : Shared) (H : Hp) (C : Addr) (cl : List (Str × Addr)) (fp : List Addr), SG (X.blk s H scope (compEnvC scope cl C X.env) fp) M vs tg g)
    (ht : ∀ (s : Shared) (H : Hp) (C : Addr) (cl : List (Str × Addr)) (fp : List Addr), PTs (X.blk s H scope (compEnvC scope cl C X.env) fp) ifs (tB1 M W0 ft))
    (hk : ∀ (s : Shared) (H : Hp) (C : Addr) (cl : List (Str × Addr)) (fp : List Addr), SE (X.blk s H scope (compEnvC scope cl C X.env) fp) M W0 kx fk)
    (he : ∀ (s : Shared) (H : Hp) (C : Addr) (cl : List (Str × Addr)) (fp : List Addr), SE (X.blk s H scope (compEnvC scope cl C X.env) fp) M W0 vx fv)
    (hs : ∀ x, foldedSetIterable iter X.env x = pure x := by intro _; rfl) : SL X M W (.DictComp kx vx [⟨tg, iter, ifs, 0⟩] scope pos) (fDc vs fi g ft fk fv) :=
  pe_imp (pe_dc hc hN hi ok hg ht hk he hs) fun σ H Q h => by rw [hv]; exact dc_main h
end
/-! ### dict(pairs) -/
def asK : List D → Option (List (Key × D))
  | [] => some []
  | .tup [k, d] :: ds => (keyOf k).bind fun k => (asK ds).map ((k, d) :: ·)
  | _ => none
def mrgD : List (Key × D) → List Key → List D → List Key × List D
  | [], ks, ds => (ks, ds)
  | (k, d) :: r, ks, ds => mrgD r (pKs k ks) (pXs k d ks ds)
def gDict : List D → Option D
  | [.lst ds] => (asK ds).map fun kd => .dic (mrgD kd [] []).1 (mrgD kd [] []).2
  | _ => none
section
variable {M : Mc}
abbrev rDictP (K : PySem.W.Frag) : List V → Hp → VK → Prop := fun xs H Q => ∃ (a : Addr) (ps : List Addr) (kvs : List (Key × V)), xs = [.ref a] ∧ SqL K H a (ps.map V.ref) ∧ Paired (fun p kv => SqT K H p [kV kv.1, kv.2]) ps kvs ∧ ∀ p, H p = none → Q (.ref p) (upd H p (.dK (mergeK [] kvs)))
theorem asK_rep {K : PySem.W.Frag} {cl : Cl} {G : Hp} : ∀ {ds : List D} {vs : List V} {kd : List (Key × D)}, asK ds = some kd → Reps K cl G ds vs → ∃ (ps : List Addr) (kvs : List (Key × V)), vs = ps.map V.ref ∧ Paired (fun p kv => SqT K G p [kV kv.1, kv.2]) ps kvs ∧ kvs.map (·.1) = kd.map (·.1) ∧ Reps K cl G (kd.map (·.2)) (kvs.map (·.2))
  | [], vs, kd, h, r => by
    cases h; cases (show vs = [] from r)
    exact ⟨[], [], rfl, .nil, rfl, Reps.nil⟩
  | d :: ds, vs, kd, h, r => by
    unfold asK at h
    split at h
    · rename_i e; cases e
    · rename_i k x ds' e
      cases e
      obtain ⟨k', e1, e2⟩ := Option.bind_eq_some_iff.mp h
      obtain ⟨kd', e3, rfl⟩ := Option.map_eq_some_iff.mp e2
      obtain ⟨v, r', rfl, h1, h2⟩ := r
      obtain ⟨ps, kvs, rfl, q1, q2, q3⟩ := asK_rep e3 h2
      obtain ⟨t, us, rfl, sq, ru⟩ := (show ∃ t us, v = .ref t ∧ SqT K G t us ∧ Reps K cl G [k, x] us from h1)
      obtain ⟨u1, r1, rfl, a1, u2, r2, rfl, a2, a3⟩ := ru
      cases (show r2 = [] from a3)
      cases keyOf_v e1 a1
      exact ⟨t :: ps, (k', u2) :: kvs, rfl, .cons sq q1, by simp [q2], Reps.cons a2 q3⟩
    · cases h
theorem mrg_zip {K : PySem.W.Frag} {cl : Cl} {G : Hp} : ∀ {kd : List (Key × D)} {kvs : List (Key × V)} {ks : List Key} {ds : List D} {vs : List V}, kvs.map (·.1) = kd.map (·.1) → Reps K cl G (kd.map (·.2)) (kvs.map (·.2)) → ks.length = vs.length → Reps K cl G ds vs →
    ∃ us, mergeK (ks.zip vs) kvs = (mrgD kd ks ds).1.zip us ∧ (mrgD kd ks ds).1.length = us.length ∧ Reps K cl G (mrgD kd ks ds).2 us
  | [], kvs, ks, ds, vs, e, r, l, q => by
    have : kvs = [] := by simpa using e
    subst this
    exact ⟨vs, rfl, l, q⟩
  | (k, d) :: kd, [], ks, ds, vs, e, r, l, q => by simp at e
  | (k, d) :: kd, (k2, v) :: kvs, ks, ds, vs, e, r, l, q => by
    simp only [List.map_cons, List.cons.injEq] at e
    obtain ⟨rfl, e⟩ := e
    obtain ⟨p1, p2⟩ := putK_zip (k := k2) (v := v) l
    have := mrg_zip (kd := kd) (kvs := kvs) e r.tail p2 (reps_pXs (k := k2) (ks := ks) r.head q)
    rw [← p1] at this
    exact this
theorem cf_dict : CallF M (rDictP M.K) gDict := by
  intro an ρ σ H ts ds es d vs Q e l R q
  unfold gDict at e
  split at e
  · rename_i fs
    obtain ⟨kd, e1, rfl⟩ := Option.map_eq_some_iff.mp e
    obtain ⟨v, rfl⟩ := len1 (es := []) l
    obtain ⟨G, own, r⟩ := R
    obtain ⟨a, xs, rfl, g, rx⟩ := (show ∃ a xs, v = .ref a ∧ G a = some (.lst xs) ∧ Reps M.K M.cl G fs xs from r.tmp.head)
    obtain ⟨ps, kvs, rfl, q1, q2, q3⟩ := asK_rep e1 rx
    obtain ⟨us, m1, m2, m3⟩ := mrg_zip (ks := []) (vs := []) (ds := []) q2 q3 rfl Reps.nil
    have q1' : Paired (fun p kv => SqT M.K H p [kV kv.1, kv.2]) ps kvs := by
      clear m1 m2 m3 q2 q3 g
      clear rx e1 e
      induction q1 with
      | nil => exact .nil
      | cons h t ih => exact .cons (r.sub.sqT h) ih
    refine ⟨a, ps, kvs, rfl, SqL.of (r.sub _ _ g), q1', fun p hn => q p _ ?_⟩
    rw [show mergeK [] kvs = mergeK (([] : List Key).zip ([] : List V)) kvs from rfl, m1]
    exact r.newAn hn ⟨us, upd_same, m2, m3⟩ r.tmp.tail
  · cases e
end
end Dl
end
section
set_option maxHeartbeats 4000000
/-! DlR: the keys of a fresh dict, dicts compared, properties that make objects. -/
namespace Dl
open PySem PySem.Spec PyProof.Rows L2
def keyD : Key → D
  | .inl i => .int i
  | .inr x => .str x
def iKeysD (fe : En → Rs D) : En → Rs (List D) := fun ρ => (fe ρ).bind fun d ρ1 => match d with
  | .dic ks _ => .ok (ks.map keyD) ρ1
  | _ => .stuck
def iKL (td : TE) : TI := fun σ H R => td σ H fun x H1 => ∃ d kvs, x = .ref d ∧ H1 d = some (.dK kvs) ∧ ∀ o, R (Itk d o kvs) (upd H1 d (.frz o (.dK kvs)))
theorem pi_keysL {X : Cx} {tg e : Expr} {td : TE} (he : PE X e td) : PI X tg e (iKL td) := by
  refine ⟨fun pins s σ H R I h => ?_⟩
  refine thn (he.run pins s σ H _ I h) fun u s1 ⟨x, H1, I1, rx, d, kvs, ex, hd, q⟩ => ?_
  subst ex
  obtain rfl : u = Value.ref d := rx
  obtain ⟨od, I2⟩ := I1.lock hd trivial
  have hd2 : (upd H1 d (.frz od (.dK kvs))) d = some (.frz od (.dK kvs)) := upd_same
  obtain ⟨hs, hgd, hx, es, ep, vs, hdt, hsz, kv, hm⟩ := I2.frzK hd2
  refine iter_keys hs hgd hx hdt (pi_one (tk := s1.toks) I2 _ (turn_keys _ hdt) ⟨_, Heap.get?_push_size _ rfl, rfl, ?_⟩ (q od))
  rw [hsz] <;> rfl
theorem itok_keys {M : Mc} {p : Addr} {o : Obj} {ks : List Key} {vs : List V} (l : ks.length = vs.length) : ItOk M (Itk p o (ks.zip vs)) (ks.map keyD) [.ref p] [.loc (fun _ => o) (ks.zip vs)] := by
  intro i an ρ σ H ts ds R
  obtain ⟨a, e, g⟩ := (show ∃ a, V.ref p = .ref a ∧ H a = some (.frz o (.dK (ks.zip vs))) from R.repH)
  cases e
  have hl : (ks.zip vs).length = ks.length := by rw [List.length_zip, ← l, Nat.min_self]
  refine ⟨fun d hd => ?_, fun e => ⟨g, by rw [hl]; simpa using Nat.le_of_eq e.symm⟩⟩
  rw [List.getElem?_map] at hd
  obtain ⟨k, hk, rfl⟩ := Option.map_eq_some_iff.mp hd
  have hi := (List.getElem?_eq_some_iff.mp hk).1
  refine ⟨⟨g, by rw [hl]; exact hi⟩, fun x H' y => ?_⟩
  obtain ⟨rfl, k', v', e1, rfl⟩ := y
  have hk' : k' = k := by
    have := (List.getElem?_zip_eq_some.mp e1).1
    rw [hk] at this; cases this; rfl
  subst hk'
  exact R.push fun G => by cases k' <;> rfl
section
variable {X : Cx} {M : Mc} {W : WX} {tg e : Expr} {fe : En → Rs D}
theorem si_keysL (h : SL X M W e fe) : SI X M W tg e (iKeysD fe) := by
  refine pi_imp (pi_keysL h) fun σ H R ⟨an, ρ, ts, ds, R0, h⟩ => ?_
  refine ⟨an, ρ, ts, ds, R0, ?_⟩
  unfold iKeysD at h
  revert h
  unfold LOk
  cases fe ρ with
  | stuck => exact fun h => h
  | err c fs es ρ1 => exact fun h => h
  | ok d ρ1 =>
    intro h p H' R'
    cases d with
    | dic ks es =>
      obtain ⟨G, ⟨vs, g1, g2, g3⟩, s, g4, g5⟩ := R'.anPutG
      refine ⟨p, ks.zip vs, rfl, g1, fun o => ?_⟩
      have R2 := (g5 (.frz o (.dK (ks.zip vs))) (.loc (fun _ => o) (ks.zip vs)) _ _ upd_same g4).anShare
      exact h _ _ [.ref p] [.loc (fun _ => o) (ks.zip vs)] rfl R2 (itok_keys g2)
    | _ => exact h.elim
end
/-! ### dicts that are equal -/
def dicEqK (ks : List Key) (ds : List D) (ls : List Key) (es : List D) : Bool := decide (ks.length = ls.length) && decide (ds.length = ks.length) && ((List.range ks.length).all fun i => match ks[i]?, ds[i]? with
  | some k, some d => d.flat && (match dVal ls es k with
    | some e => decide (D.v d = D.v e) && e.flat
    | none => false)
  | _, _ => false)
def opNeDic (a b : D) : Option D := match a, b with
  | .dic ks ds, .dic ls es => if dicEqK ks ds ls es = true then some (.bl false) else none
  | _, _ => none
def opEqDic (a b : D) : Option D := match a, b with
  | .dic ks ds, .dic ls es => if dicEqK ks ds ls es = true then some (.bl true) else none
  | _, _ => none
theorem flatB_of {x : V} (h : flatV x = true) : flatB x = true := by first | exact h | (cases x <;> first | rfl | cases h)
theorem dic_core {K : PySem.W.Frag} {cl : Cl} {G : Hp} {ks ls : List Key} {ds es : List D} {vs us : List V} (h : dicEqK ks ds ls es = true) (l1 : ks.length = vs.length) (l2 : ls.length = us.length) (r1 : Reps K cl G ds vs) (r2 : Reps K cl G es us) :
    (ks.zip vs).length = (ls.zip us).length ∧ ∀ p ∈ ks.zip vs, valV (ls.zip us) p.1 = some p.2 ∧ flatB p.2 = true := by
  unfold dicEqK at h
  simp only [Bool.and_eq_true, decide_eq_true_eq, List.all_eq_true] at h
  obtain ⟨⟨h1, h2⟩, h3⟩ := h
  refine ⟨by simp [← l1, ← l2, h1], fun p hp => ?_⟩
  obtain ⟨i, hi⟩ := List.mem_iff_getElem?.mp hp
  obtain ⟨k1, k2⟩ := List.getElem?_zip_eq_some.mp hi
  have hlt := (List.getElem?_eq_some_iff.mp k1).1
  have := h3 i (List.mem_range.mpr hlt)
  rw [k1] at this
  cases hd : ds[i]? with
  | none => rw [hd] at this; cases this
  | some d =>
    rw [hd] at this
    dsimp only at this
    obtain ⟨f1, f2⟩ := Bool.and_eq_true_iff.mp this
    obtain ⟨v, e1, e2⟩ := r1.get hd
    rw [k2] at e1; cases e1
    cases hv : dVal ls es p.1 with
    | none => rw [hv] at f2; cases f2
    | some e =>
      rw [hv] at f2
      dsimp only at f2
      obtain ⟨g1, g2⟩ := Bool.and_eq_true_iff.mp f2
      obtain ⟨u, m1, m2⟩ := dVal_rep l2 r2 hv
      have a1 := flat_v f1 e2
      have a2 := flat_v g2 m2
      refine ⟨?_, flatB_of a1.2⟩
      rw [m1, a1.1, a2.1, of_decide_eq_true g1]
section
variable {M : Mc}
theorem bs_neDic : BinS M rNeDA opNeDic := by
  intro an ρ σ H ts ds a b d x y Q e R q
  unfold opNeDic at e
  split at e
  · rename_i ks ds1 ls es1
    split at e
    · rename_i c
      cases e
      obtain ⟨pb, us, rfl, gb, lb, rb⟩ := R.repH
      obtain ⟨pa, vs, rfl, ga, la, ra⟩ := R.pop.repH
      obtain ⟨z1, z2⟩ := dic_core c la lb ra rb
      exact ⟨pa, pb, _, _, rfl, rfl, ga, gb, z1, z2, q _ H (R.temps fun _ _ q => Reps.cons rfl q.tail.tail)⟩
    · cases e
  · cases e
theorem bs_eqDic : BinS M rEqDA opEqDic := by
  intro an ρ σ H ts ds a b d x y Q e R q
  unfold opEqDic at e
  split at e
  · rename_i ks ds1 ls es1
    split at e
    · rename_i c
      cases e
      obtain ⟨pb, us, rfl, gb, lb, rb⟩ := R.repH
      obtain ⟨pa, vs, rfl, ga, la, ra⟩ := R.pop.repH
      obtain ⟨z1, z2⟩ := dic_core c la lb ra rb
      exact ⟨pa, pb, _, _, rfl, rfl, ga, gb, z1, z2, q _ H (R.temps fun _ _ q => Reps.cons rfl q.tail.tail)⟩
    · cases e
  · cases e
end
/-! ### a property that makes an object -/
def fPropL (c : Str) (F : List D → Fr) (fe : En → Rs D) : En → Rs D := fProp c F fe
section
variable {X : Cx} {M : Mc} {W : WX} {e : Expr} {fe : En → Rs D} {c f : Str} {C p a : Addr} {pos : Pos} {k : Nat} {fd : FuncData} {ps : List Str} {F : List D → Fr}
theorem LOk.noErr {an : List (Addr × D)} {ts : List V} {ds : List D} {σ : St} {Q : VK} : ∀ {r : Rs D}, LOk M an ts ds W σ (Dl.noErr r) Q → LOk M an ts ds W0 σ r Q
  | .ok d ρ, h => h
  | .err .., h => h.elim
  | .stuck, h => h
theorem sl_prop (hk : M.K = X.K) (hc : ClsN X.K M.cl c C) (hp : PropOf X.K C f p a) (Fk : FnG X.prog X.w X.K X.mg X.base (L2.CX X.prog X.w) k a fd ps (spL M.K M.cl [false] F)) (hr : RoomG (k + 1) X.A) (hb : Binds X.K fd ps []) (he : SE X M W e fe)
    (hab : attributeBase e f X.env (eval e X.env) = eval e X.env := by rfl) : SL X M W (.Attribute e f pos) (fPropL c F fe) := by
  refine pe_imp (pe_propG he hc.cls hp Fk hr hb hab) fun σ H Q ⟨an, ρ, ts, ds, R, h⟩ => ?_
  unfold fPropL fProp at h
  refine ⟨an, ρ, ts, ds, R, EOk.bind (P := fun r => LOk M an ts ds W σ r Q) h (fun _ _ _ _ z => z) (fun z => z) fun d ρ1 v H1 R1 h1 => ?_⟩
  by_cases hi : isI c Str.empty d = true
  · rw [if_pos hi] at h1
    obtain ⟨G, s, r⟩ := R1.rep
    obtain ⟨a, dx, fs, ev, eG, el⟩ := isI_at hi hc.at_ r
    refine ⟨a, dx, fs, ev, s _ _ eG, ?_⟩
    subst ev
    exact call_endL (as := [none]) (ws := [.ref a]) (es := [d]) (by exact List.nodup_nil) (fun _ _ _ h => h.elim) ⟨_, [], [], rfl, rfl, rfl, rfl⟩ rfl R1 h1.noErr
  · rw [if_neg hi] at h1; exact h1.elim
end
end Dl
end
section
set_option maxHeartbeats 4000000
/-! DlS: short rules for the printed derivations. -/
namespace Dl
open PySem PySem.Spec PyProof.Rows L2
/-! ### list(range(..)) -/
def rgD (i j : Int) : Option D := if (0 ≤ i ∧ i ≤ 16777216) ∧ 0 ≤ j ∧ j ≤ 16777216 then some (.lst ((List.range (j - i).toNat).map fun k => .int (i + (k : Nat)))) else none
def fRg2 (fa fb : En → Rs D) : En → Rs D := fBin (fun a b => match a, b with
  | .int i, .int j => rgD i j
  | _, _ => none) fa fb
def fRg1 (fa : En → Rs D) : En → Rs D := fUn (fun a => match a with
  | .int j => rgD 0 j
  | _ => none) fa
theorem reps_rg {K : PySem.W.Frag} {cl : Cl} {G : Hp} (i : Int) : ∀ l : List Nat, Reps K cl G (l.map fun (k : Nat) => D.int (i + (k : Nat))) (l.map fun (k : Nat) => V.int (i + (k : Nat)))
  | [] => Reps.nil
  | _ :: l => Reps.cons rfl (reps_rg i l)
section
variable {X : Cx} {M : Mc} {W : WX} {a b : Expr} {fa fb : En → Rs D} {p q pos pos2 : Pos}
theorem rg_fin {an : List (Addr × D)} {ρ : En} {σ : St} {H : Hp} {ts us : List V} {ds es : List D} {i j : Int} {d : D} {Q : VK} (h : rgD i j = some d) (R : RelX M an ρ σ H us es) (hd : ∀ G, Reps M.K M.cl G es us → Reps M.K M.cl G ds ts) (k : ∀ p H', RelX M ((p, d) :: an) ρ σ H' ts ds → Q (.ref p) H') : RgOk i j ∧ ∀ q, H q = none → Q (.ref q) (upd H q (.lst (rgV i j))) := by
  unfold rgD at h
  split at h
  · rename_i c
    cases h
    obtain ⟨⟨c1, c2⟩, c3, c4⟩ := c
    refine ⟨RgOk.of_le c1 c4 c2 c3, fun q hq => k q _ ?_⟩
    exact R.newAn hq fun G _ r => ⟨⟨_, upd_same, reps_rg i _⟩, hd G r⟩
  · cases h
theorem sl_lrg2 (hc : X.calm = true) (hm : X.mg "list" = none) (hm2 : X.mg "range" = none) (ha : SE X M W a fa) (hb : SE X M W b fb) (hg : Gl X "list" := by rfl) (hg2 : Gl X "range" := by rfl)
    (na : starEach [a, b] X.env = (false, eval a X.env) :: starEach [b] X.env := by rfl) (nb : starEach [b] X.env = (false, eval b X.env) :: starEach [] X.env := by rfl) (hp : (backTo q (starEach [b] X.env)).any (·.1) = false := by rfl)
    (nc : starEach [.Call (.Name "range" p) [a, b] [] q] X.env = (false, eval (.Call (.Name "range" p) [a, b] [] q) X.env) :: starEach [] X.env := by rfl) : SL X M W (.Call (.Name "list" pos2) [.Call (.Name "range" p) [a, b] [] q] [] pos) (fRg2 fa fb) := by
  refine pe_imp (pe_listRg hc hg hm (prg_2 hg2 hm2 ha hb na nb hp) nc) fun σ H Q ⟨an, ρ, ts, ds, R, h⟩ => ?_
  unfold fRg2 fBin at h
  refine ⟨an, ρ, ts, ds, R, EOk.bind (P := fun r => LOk M an ts ds W σ r Q) h (fun _ _ _ _ z => z) (fun z => z) fun x ρ1 v H1 R1 h1 => ?_⟩
  refine ⟨an, ρ1, v :: ts, x :: ds, R1, EOk.bind (P := fun r => LOk M an ts ds W σ r Q) h1 (fun _ _ _ _ z => EErr.weak1 z) (fun z => z) fun y ρ2 u H2 R2 h2 => ?_⟩
  cases x with
  | int i =>
    cases y with
    | int j =>
      dsimp only at h2
      cases hr : rgD i j with
      | none => rw [hr] at h2; exact h2.elim
      | some d =>
        rw [hr] at h2
        cases (show u = _ from R2.repH)
        cases (show v = _ from R2.pop.repH)
        exact ⟨i, j, rfl, rfl, rg_fin hr R2 (fun _ r => r.tail.tail) h2⟩
    | _ => exact h2.elim
  | _ => exact h2.elim
theorem sl_lrg1 (hc : X.calm = true) (hm : X.mg "list" = none) (hm2 : X.mg "range" = none) (ha : SE X M W a fa) (hg : Gl X "list" := by rfl) (hg2 : Gl X "range" := by rfl)
    (na : starEach [a] X.env = (false, eval a X.env) :: starEach [] X.env := by rfl)
    (nc : starEach [.Call (.Name "range" p) [a] [] q] X.env = (false, eval (.Call (.Name "range" p) [a] [] q) X.env) :: starEach [] X.env := by rfl) : SL X M W (.Call (.Name "list" pos2) [.Call (.Name "range" p) [a] [] q] [] pos) (fRg1 fa) := by
  refine pe_imp (pe_listRg hc hg hm (prg_1 hg2 hm2 ha na) nc) fun σ H Q ⟨an, ρ, ts, ds, R, h⟩ => ?_
  unfold fRg1 fUn at h
  refine ⟨an, ρ, ts, ds, R, EOk.bind (P := fun r => LOk M an ts ds W σ r Q) h (fun _ _ _ _ z => z) (fun z => z) fun x ρ1 v H1 R1 h1 => ?_⟩
  cases x with
  | int j =>
    dsimp only at h1
    cases hr : rgD 0 j with
    | none => rw [hr] at h1; exact h1.elim
    | some d =>
      rw [hr] at h1
      cases (show v = _ from R1.repH)
      exact ⟨j, rfl, rg_fin hr R1 (fun _ r => r.tail) h1⟩
  | _ => exact h1.elim
/-! ### stuck -/
theorem ss_stuck {st : Stmt} : SS X M W st (fun _ => .stuck) := ⟨fun pins s σ H D I ⟨an, ρ, ts, ds, R, h⟩ => h.elim⟩
/-! ### operations joined -/
def orG (g g' : D → D → Option D) (a b : D) : Option D := match g a b with
  | some d => some d
  | none => g' a b
abbrev orR (r r' : R2) : R2 := fun x y H Q => r x y H Q ∨ r' x y H Q
theorem op_orR {f : Value → Value → Sem Value} {r r' : R2} (h : OpR X f r) (h' : OpR X f r') : OpR X f (orR r r') := OpR.or h h'
theorem bs_orR {r r' : R2} {g g' : D → D → Option D} (h : BinS M r g) (h' : BinS M r' g') : BinS M (orR r r') (orG g g') := by
  intro an ρ σ H ts ds a b d x y Q e R q
  unfold orG at e
  cases hg : g a b with
  | some z => rw [hg] at e; cases e; exact .inl (h an ρ σ H ts ds a b _ x y Q hg R q)
  | none => rw [hg] at e; exact .inr (h' an ρ σ H ts ds a b _ x y Q e R q)
/-! ### the text's facts -/
/-- a def by its place: some function data, its binding, its promise -/
def OkF (P : Program) (w : World) (K : PySem.W.Frag) (mg : Str → Option Value) (cs : List (Addr × Addr)) (k : Nat) (a : Addr) (ps : List Str) (sp : Sp) : Prop := ∃ fd, (∀ (s : Shared) (us : List Value), us.length = ps.length → BindsTo s fd ⟨us, []⟩ (ps.zip us)) ∧ Binds K fd ps [] ∧ ∀ base : Heap, (∀ p ∈ cs, LamX.TabB base mg p.1 p.2) → FnG P w K mg base (L2.CX P w) k a fd ps sp
end
theorem ok_mk {P : Program} {w : World} {K : PySem.W.Frag} {mg : Str → Option Value} {cs : List (Addr × Addr)} {k : Nat} {ps : List Str} {sp : Sp} {x qual : Str} {st : Stmt} {f : Addr} {fd : FuncData} (F : Fun K x qual st f fd)
    (h : ∀ (kV doc pm : Value) (an : Option Addr) (cdv ct : Value) (us : List Value), us.length = ps.length → bindArgs (PySem.W.fnOf x qual (defArgs st) (defBody st) (defScope st) .none kV doc pm an cdv ct) ⟨us, []⟩ = pure (ps.zip us))
    (hf : ∀ base : Heap, (∀ p ∈ cs, LamX.TabB base mg p.1 p.2) → FnG P w K mg base (L2.CX P w) k f fd ps sp) : OkF P w K mg cs k f ps sp := by
  refine ⟨fd, ?_, F.binds h, hf⟩
  obtain ⟨oc, od, kV, doc, pm, an, cdv, ct, osl, rfl, lk, hcd⟩ := F.ex
  exact fun s us hl => .of_eq (h kV doc pm an cdv ct us hl)
/-- the getter of a property -/
def ge (K : PySem.W.Frag) (C : Addr) (f : Str) : Addr := match PySem.W.recIn K (He.ma K C f) "property" with
  | some (.ref g :: _) => g
  | _ => 0
def propB (K : PySem.W.Frag) (C : Addr) (f : Str) : Bool := He.eqO (PySem.W.findIn K (.ref C) f) (some (some (.ref (He.ma K C f)))) && (He.eqO (PySem.W.specialIn K (.ref (He.ma K C f)) "__get__") (some (some (.builtin "property.__get__"))) && (decide (PySem.W.takesIn K (.ref (He.ma K C f)) = some true) && (match PySem.W.recIn K (He.ma K C f) "property" with
  | some (.ref _ :: _) => true
  | _ => false)))
theorem propB_ok {K : PySem.W.Frag} {C : Addr} {f : Str} (h : propB K C f = true) : PropOf K C f (He.ma K C f) (ge K C f) := by
  unfold propB at h
  simp only [Bool.and_eq_true, decide_eq_true_eq] at h
  obtain ⟨h1, h2, h3, h4⟩ := h
  refine ⟨He.eqO_ok h1, He.eqO_ok h2, h3, ?_⟩
  unfold ge
  split at h4
  · rename_i g r e
    rw [e]; exact ⟨r, rfl⟩
  · cases h4
def eqB (K : PySem.W.Frag) (C : Addr) : Bool := He.eqO (PySem.W.findIn K (.ref C) "__eq__") (some (some (.ref (He.ma K C "__eq__")))) && (PySem.W.isFn K (.ref (He.ma K C "__eq__")) && insEq K C (He.ma K C "__eq__"))
/-! ### the head's Hook -/
def obsZ (ex : PySem.W.Frag → Bool) (fn : List He5.DefA) (K : PySem.W.Frag) : Bool × List He.FnW := ((fn.all fun d => d.ok K) && ex K, fn.map fun d => He5.fnA K (d.at_ K))
def valZ (fn : List He5.DefA) : Bool × List He.FnW := (true, fn.map He5.DefA.val)
def SaysZ (ex : PySem.W.Frag → Bool) (fn : List He5.DefA) (K : PySem.W.Frag) : Prop := obsZ ex fn K = valZ fn
abbrev tbO : Obj := { cls := .none, data := .fields #[] }
def isTb (o : Option Obj) : Bool := match o with
  | some ⟨.none, none, .fields vs, sl⟩ => vs.size == 0 && sl.size == 0
  | _ => false
theorem isTb_ok {o : Option Obj} (h : isTb o = true) : o = some tbO := by
  unfold isTb at h
  split at h
  · rename_i vs sl
    simp only [Bool.and_eq_true, beq_iff_eq, Array.size_eq_zero_iff] at h
    obtain ⟨rfl, rfl⟩ := h
    rfl
  · cases h
/-- the fragment without the tables -/
def cutK (K : PySem.W.Frag) (ts : List Addr) : PySem.W.Frag := K.filter fun p => !ts.contains p.1
theorem cut_lookup {K : PySem.W.Frag} {ts : List Addr} {a : Addr} : (cutK K ts).lookup a = if ts.contains a then none else K.lookup a := by
  unfold cutK
  induction K with
  | nil => simp
  | cons p r ih =>
    obtain ⟨b, o⟩ := p
    rw [List.filter_cons]
    by_cases hb : ts.contains b = true
    · simp only [hb, Bool.not_true, Bool.false_eq_true, if_false]
      rw [ih]
      by_cases ha : ts.contains a = true
      · rw [if_pos ha, if_pos ha]
      · rw [if_neg ha, if_neg ha, List.lookup_cons]
        have : (a == b) = false := by
          rw [beq_eq_false_iff_ne]
          rintro rfl
          exact ha hb
        rw [this]
    · simp only [hb, Bool.not_false, if_true]
      rw [List.lookup_cons, List.lookup_cons]
      cases e : (a == b) with
      | true =>
        have : a = b := by simpa using e
        subst this
        rw [if_neg hb]
      | false => simpa using ih
theorem cut_in {K : PySem.W.Frag} {ts : List Addr} {h : Heap} (X : K.In h) : (cutK K ts).In h := fun b o e => by
  have e : (cutK K ts).lookup b = some o := e
  rw [cut_lookup] at e
  split at e
  · cases e
  · exact X b o e
/-- the defs that make lambdas: their code objects and tables -/
def mkT (mk : PySem.W.Frag → List Addr) (K : PySem.W.Frag) : List (Addr × Addr) := (mk K).map (tabAt K)
def obsZG (n : Nat) (mk : PySem.W.Frag → List Addr) (ex : PySem.W.Frag → Bool) (fn : List He5.DefA) (g : Addr → Option Obj) : Bool × List He.FnW :=
  let K0 := He.frG g (He5.asA g n)
  let ts := (mkT mk K0).map (·.2)
  let r := obsZ ex fn (cutK K0 ts)
  ((ts.all fun t => isTb (K0.lookup t)) && decide ((mkT mk (cutK K0 ts)).map (·.2) = ts) && r.1, r.2)
def SaysT (mk : PySem.W.Frag → List Addr) (ex : PySem.W.Frag → Bool) (fn : List He5.DefA) (h : Heap) (K : PySem.W.Frag) : Prop := K.In h ∧ SaysZ ex fn K ∧ ∀ p ∈ mkT mk K, h.get? p.2 = some tbO ∧ K.lookup p.2 = none
def hookZ (n : Nat) (mk : PySem.W.Frag → List Addr) (ex : PySem.W.Frag → Bool) (fn : List He5.DefA) : PySem.W.Hook where
  α := Bool × List He.FnW
  obs := fun s => obsZG n mk ex fn s.heap.get?
  val := fun _ => valZ fn
  says := fun _ h => ∃ K : PySem.W.Frag, SaysT mk ex fn h K
  of := fun _ s e => by
    have e1 : obsZG n mk ex fn s.heap.get? = valZ fn := e
    unfold obsZG valZ at e1
    have a := congrArg Prod.fst e1
    have b := congrArg Prod.snd e1
    simp only [Bool.and_eq_true, decide_eq_true_eq] at a
    obtain ⟨⟨a1, a2⟩, a3⟩ := a
    have X0 : (He.frG s.heap.get? (He5.asA s.heap.get? n)).In s.heap := He.frG_in
    refine ⟨_, cut_in X0, Prod.ext a3 b, fun p hp => ?_⟩
    have m : p.2 ∈ (mkT mk (He.frG s.heap.get? (He5.asA s.heap.get? n))).map (·.2) := a2 ▸ List.mem_map_of_mem hp
    refine ⟨X0 _ _ (isTb_ok (List.all_eq_true.mp a1 _ m)), ?_⟩
    rw [cut_lookup, if_pos (List.contains_iff_mem.mpr m)]
  keeps := fun _ _ _ ⟨K, hK, c, t⟩ k => ⟨K, PySem.W.Frag.In.keeps hK k, c, fun p hp => ⟨k _ _ (t p hp).1, (t p hp).2⟩⟩
theorem obsZG_eq {n : Nat} {mk : PySem.W.Frag → List Addr} {ex : PySem.W.Frag → Bool} {fn : List He5.DefA} {g : Addr → Option Obj} {s : Shared} (h : ∀ a, g a = s.heap.get? a) : obsZG n mk ex fn g = (hookZ n mk ex fn).obs s := by
  have e : g = s.heap.get? := funext h
  subst e
  rfl
section
variable {ex : PySem.W.Frag → Bool} {fn : List He5.DefA} {K : PySem.W.Frag}
theorem SaysZ.more (c : SaysZ ex fn K) : ex K = true := (Bool.and_eq_true_iff.mp (congrArg Prod.fst (show obsZ ex fn K = valZ fn from c))).2
theorem SaysZ.def_ (c : SaysZ ex fn K) {d : He5.DefA} (h : d ∈ fn) : ∃ fd, L2.FunD K d.name d.qual d.params d.body d.scope (d.dvs K) (d.kws K) (d.at_ K) fd := by
  have e1 := (Bool.and_eq_true_iff.mp (congrArg Prod.fst (show obsZ ex fn K = valZ fn from c))).1
  have e2 : fn.map (fun d => He5.fnA K (d.at_ K)) = fn.map He5.DefA.val := congrArg Prod.snd (show obsZ ex fn K = valZ fn from c)
  have e3 : He5.fnA K (d.at_ K) = d.val := by
    have := List.map_inj_left.mp e2
    exact this d h
  exact d.funD e3 (List.all_eq_true.mp e1 d h)
end
end Dl
end
section
set_option maxHeartbeats 4000000
/-! DlT: isinstance of an own class; a list of two clauses stored. -/
namespace Dl
open PySem PySem.Spec PyProof.Rows L2
/-- the class tells its instances' __class__ as object does -/
structure InsC (K : PySem.W.Frag) (C : Addr) : Prop where
  cls : Cls K C
  ha : PySem.W.findIn K (.ref C) "__class__" = some (some (.builtin "object.__class__"))
  hn : PySem.W.specialIn K (.builtin "object.__class__") "__get__" = some (some (.builtin "getset_descriptor.__get__"))
  htk : PySem.W.takesIn K (.builtin "object.__class__") = some true
  hm : PySem.W.mroIn K C (.type "object") = some true
def insCB (K : PySem.W.Frag) (C : Addr) : Bool := He.eqO (PySem.W.findIn K (.ref C) "__class__") (some (some (.builtin "object.__class__"))) && (He.eqO (PySem.W.specialIn K (.builtin "object.__class__") "__get__") (some (some (.builtin "getset_descriptor.__get__"))) && (decide (PySem.W.takesIn K (.builtin "object.__class__") = some true) && decide (PySem.W.mroIn K C (.type "object") = some true)))
theorem insCB_ok {K : PySem.W.Frag} {C : Addr} (c : Cls K C) (h : insCB K C = true) : InsC K C := by
  unfold insCB at h
  simp only [Bool.and_eq_true, decide_eq_true_eq] at h
  obtain ⟨h1, h2, h3, h4⟩ := h
  exact ⟨c, He.eqO_ok h1, He.eqO_ok h2, h3, h4⟩
def isC (c : Str) : D → Option Bool
  | .ins c' _ _ => if c' = c then some true else none
  | _ => none
section
variable {X : Cx} {M : Mc} {W : WX}
theorem se_isiC {x c : Str} {C : Addr} {e : Expr} {f : En → Rs D} {p p2 pos : Pos} (hk : M.K = X.K) (hc : M.cl c = some C) (hC : InsC X.K C) (h : SE X M W e f) (hm : X.mg "isinstance" = none) (hmT : X.mg x = some (.ref C)) (hgl : Gl X "isinstance" := by rfl) (hgT : Gl X x := by rfl)
    (hdT : (x == ("__debug__" : Str)) = false := by decide)
    (he : starEach [e, .Name x p2] X.env = (false, eval e X.env) :: starEach [.Name x p2] X.env := by rfl) (he2 : starEach [.Name x p2] X.env = (false, eval (.Name x p2) X.env) :: starEach [] X.env := by rfl) (hpl : (backTo pos (starEach [.Name x p2] X.env)).any (·.1) = false := by rfl) :
    SE X M W (.Call (.Name "isinstance" p) [e, .Name x p2] [] pos) (fIsi (isC c) f) := by
  refine pe_imp (pe_callB call_isi hgl hm (by decide +kernel) (pa_cons h (pa_cons (pe_glob (v := .ref C) hgT hmT rfl hdT) pa_nil he2) he) (by decide) (by decide) he hpl) fun σ H Q ⟨an, ρ, ts, ds, R, h⟩ => ?_
  refine ⟨an, ρ, ts, ds, R, EOk.bind (P := fun z => EOk M an ts ds W σ z Q) h (fun _ _ _ _ z => z) (fun z => z) fun d ρ1 v H1 R1 h1 => ?_⟩
  cases d with
  | ins c' fs es =>
    unfold isC at h1
    by_cases hcc : c' = c
    · subst hcc
      simp only [if_true, Option.map] at h1
      obtain ⟨a, C', dx, vs, ev, eC, eG, el, er⟩ := (show ∃ a C' dx vs, v = .ref a ∧ M.cl c' = some C' ∧ H1 a = some (.ins C' dx (fs.zip vs)) ∧ fs.length = vs.length ∧ Reps M.K M.cl H1 es vs from R1.repH)
      rw [hc] at eC; cases eC
      subst ev
      refine ⟨.ref a, .ref C, _, _, true, rfl, .own C, .base (.ins eG hC.cls hC.ha hC.hn hC.htk hC.hm), ?_, h1 _ _ (R1.pop.push fun _ => rfl)⟩
      unfold PySem.W.kitOne
      rw [if_pos (by simp)]
    · simp only [if_neg hcc, Option.map] at h1; exact h1.elim
  | _ => exact h1.elim
variable {elt tg iter tg1 iter1 : Expr} {ifs ifs1 : List Expr} {scope : Scope} {own : List (Str × Nat)} {pos : Pos} {fi fi1 : En → Rs (List D)} {g g1 : D → En → Rs Unit} {ft ft1 : En → Rs Bool} {fe : En → Rs D} {vs vs1 : List Nat}
theorem ss_setLc2 (i : Nat) {y : Str} {py spos : Pos} (hc : X.calm = true) (hN : X.N.Nodup) (hsw : swapsWith (.ListComp elt [⟨tg, iter, ifs, 0⟩, ⟨tg1, iter1, ifs1, 0⟩] scope pos) (some (.Name y py)) spos.line X.env = pure true) (hi : SI X M W tg iter fi) (ok : BlkOk X.N X.env.scope scope own) (hv : own.map (·.2) = vs) (hv1 : ∀ i ∈ vs1, i ∈ vs)
    (hg : ∀ (s : Shared) (H : Hp) (C : Addr) (cl : List (Str × Addr)) (fp : List Addr), SG (X.blk s H scope (compEnvC scope cl C X.env) fp) M vs tg g)
    (ht : ∀ (s : Shared) (H : Hp) (C : Addr) (cl : List (Str × Addr)) (fp : List Addr), PTs (X.blk s H scope (compEnvC scope cl C X.env) fp) ifs (tB1 M W0 ft))
    (hi1 : ∀ (s : Shared) (H : Hp) (C : Addr) (cl : List (Str × Addr)) (fp : List Addr), SI (X.blk s H scope (compEnvC scope cl C X.env) fp) M W0 tg1 iter1 fi1)
    (hg1 : ∀ (s : Shared) (H : Hp) (C : Addr) (cl : List (Str × Addr)) (fp : List Addr), SG (X.blk s H scope (compEnvC scope cl C X.env) fp) M vs1 tg1 g1)
    (ht1 : ∀ (s : Shared) (H : Hp) (C : Addr) (cl : List (Str × Addr)) (fp : List Addr), PTs (X.blk s H scope (compEnvC scope cl C X.env) fp) ifs1 (tB1 M W0 ft1))
    (he : ∀ (s : Shared) (H : Hp) (C : Addr) (cl : List (Str × Addr)) (fp : List Addr), SE (X.blk s H scope (compEnvC scope cl C X.env) fp) M W0 elt fe)
    (hy : X.N[i]? = some y := by rfl) (hyl : X.env.scope.names.lookup y = some .local := by rfl) (hs : ∀ x, foldedSetIterable iter X.env x = pure x := by intro _; rfl) (hs1 : ∀ env x, foldedSetIterable iter1 env x = pure x := by intro _ _; rfl) :
    SS X M W (.Assign [.Name y py] (.ListComp elt [⟨tg, iter, ifs, 0⟩, ⟨tg1, iter1, ifs1, 0⟩] scope pos) spos) (fSetL i (fLc2 vs vs1 fi g ft fi1 g1 ft1 fe)) :=
  ps_imp (ps_setLc2 (vs1 := vs1) hc hN hy hyl hsw hi ok (by rw [hv]; exact hv1) hg ht hi1 hg1 ht1 he hs hs1) fun Dn σ H h => by
    have q := setL_core h
    rw [hv]
    exact lc2_main hv1 q
end
end Dl
namespace Dl
open PySem PySem.Spec PyProof.Rows L2
theorem hu65_of {A : Around} {k : Nat} (hr : RoomG k A) : A.units + 65 < cLine := by have := hr.r.un; omega
theorem hu67_of {A : Around} {k : Nat} (hr : RoomG k A) : A.units + 3 + 64 < cLine := by have := hr.r.un; omega
end Dl
namespace Dl
open PySem PySem.Spec PyProof.Rows L2
def fAsg (f : En → Rs D) (g : D → En → Rs Unit) : En → Rs Fl := fun ρ => (f ρ).bind fun d ρ1 => match g d ρ1 with
  | .ok _ ρ2 => .ok .nx ρ2
  | _ => .stuck
/-- any target takes a value -/
theorem ss_asg {X : Cx} {M : Mc} {W : WX} {tg e : Expr} {pos : Pos} {vs : List Nat} {fe : En → Rs D} {g : D → En → Rs Unit} (he : SE X M W e fe) (hg : SG X M vs tg g) (hs : swapsWithSole [tg] e pos.line X.env = pure false := by rfl) (hw : swappedStores [tg] e X.env = pure none := by rfl)
    (h1 : (assignEach [tg] X.env).map (·.2) = [assign tg X.env] := by rfl) : SS X M W (.Assign [tg] e pos) (fAsg fe g) := by
  refine ps_imp (ps_asg he hg hs hw h1) fun Dn σ H ⟨an, ρ, ts, ds, R, h⟩ => ?_
  refine ⟨an, ρ, ts, ds, R, EOk.toS h fun d ρ1 v H1 R1 h1 => ?_⟩
  refine ⟨an, ρ1, ts, ds, d, R1, ?_⟩
  cases hgd : g d ρ1 with
  | ok u ρ2 =>
    rw [hgd] at h1
    exact fun σ1 H1 R2 _ => h1 σ1 H1 R2
  | _ => rw [hgd] at h1; exact h1.elim
end Dl
namespace Dl
open PySem PySem.Spec PyProof.Rows L2
theorem to_cx0 {P : Program} {w : World} {K : PySem.W.Frag} {mg : Str → Option Value} {base : Heap} {k : Nat} {f : Addr} {fd : FuncData} {ps : List Str} {sp sp' : Sp} (F : FnG P w K mg base (L2.CX P w) k f fd ps sp) (h : ∀ vs H Q E, sp' vs H Q E → sp vs H Q E0) : FnG P w K mg base CX0 k f fd ps sp' :=
  ⟨fun vs H Q E q => F.len vs H Q E0 (h _ _ _ _ q), fun z e b v q => codeAny_mono (F.at_ z e b v (h _ _ _ _ q)) fun r s' c => by
    rcases r with er | fl
    · exact (no_exc c).elim
    · rcases fl with _ | _ | _ | u
      all_goals exact c⟩
/-- law at a script of ints -/
def spLaw (K : PySem.W.Frag) (T : List (Addr × Str)) : Sp := fun vs H Q _ => ∃ (a : Addr) (ns : List Int), vs = [.ref a] ∧ SqL K H a (ns.map V.int) ∧ ns.length ≤ 63 ∧ LamX.Tabs T H ∧ ∀ H', Q (.bl true) H'
theorem reps_ints {K : PySem.W.Frag} {cl : Cl} {G : Hp} : ∀ ns : List Int, Reps K cl G (ns.map D.int) (ns.map V.int)
  | [] => Reps.nil
  | _ :: ns => Reps.cons rfl (reps_ints ns)
/-- all but the tables -/
noncomputable def noTb (H : Hp) : Hp := by classical exact fun a => if ∃ ps, H a = some (.tbl ps) then none else H a
theorem noTb_sub {H : Hp} : Sub (noTb H) H := fun a o e => by
  unfold noTb at e
  split at e
  · cases e
  · exact e
theorem noTb_no {H : Hp} : NoTb (noTb H) := fun a ps e => by
  unfold noTb at e
  split at e
  · cases e
  · rename_i n; exact n ⟨ps, e⟩
theorem noTb_at {H : Hp} {a : Addr} {o : HO} (e : H a = some o) (n : ∀ ps, o ≠ .tbl ps) : noTb H a = some o := by
  unfold noTb
  rw [if_neg]
  · exact e
  · rintro ⟨ps, q⟩; rw [e] at q; exact n ps (Option.some.inj q)
theorem law_sp {K : PySem.W.Frag} {cl : Cl} {F : List D → Fr} (hlaw : ∀ ns : List Int, ns.length ≤ 63 → F [.frz (ns.map D.int)] = .ok (.bl true) []) (vs : List V) (H : Hp) (Q : VK) (E : XK) (h : spLaw K cl.T vs H Q E) : spF K cl [false] F vs H Q E0 := by
  obtain ⟨a, ns, rfl, hs, hl, hT, q⟩ := h
  have hs' : SqL K (noTb H) a (ns.map V.int) := by
    rcases hs with (e | ⟨o, e⟩) | e
    · exact .inl (.inl (noTb_at e fun ps z => nomatch z))
    · exact .inl (.inr ⟨o, noTb_at e fun ps z => nomatch z⟩)
    · exact .inr e
  refine ⟨rfl, noTb H, [.frz (ns.map D.int)], [], ⟨noTb_sub, hT, noTb_no⟩, ⟨⟨a, _, rfl, hs', reps_ints ns⟩, rfl⟩, List.nodup_nil, ?_⟩
  unfold FrOk
  rw [hlaw ns hl]
  intro v G' H' _ r _
  cases (show v = _ from r)
  exact q H'
end Dl
end
section
set_option maxHeartbeats 4000000
/-! DlTa: the end of a law's row. -/
namespace Dl
open PySem PySem.Spec PyProof.Rows L2 LamX
abbrev scO (us : List Value) : Obj := { cls := .type "list", data := .seq us.toArray }
/-- what the law meets: the script, unless it is the module's own, and the empty tables -/
noncomputable def hp0 (K : PySem.W.Frag) (a : Addr) (us : List Value) (ns : List Int) (T : List Addr) : Hp := by classical exact fun b => if b ∈ T then some (.tbl #[]) else if b = a ∧ K.lookup a = none then some (.frz (scO us) (.lst (ns.map V.int))) else none
section
variable {K : PySem.W.Frag} {a b : Addr} {us : List Value} {ns : List Int} {T : List Addr}
theorem hp0_T (h : b ∈ T) : hp0 K a us ns T b = some (.tbl #[]) := by unfold hp0; rw [if_pos h]
theorem hp0_a (h : a ∉ T) (k : K.lookup a = none) : hp0 K a us ns T a = some (.frz (scO us) (.lst (ns.map V.int))) := by unfold hp0; rw [if_neg h, if_pos ⟨rfl, k⟩]
theorem hp0_cases {u : HO} (h : hp0 K a us ns T b = some u) : (b ∈ T ∧ u = .tbl #[]) ∨ (b = a ∧ K.lookup a = none ∧ u = .frz (scO us) (.lst (ns.map V.int))) := by
  unfold hp0 at h
  split at h
  · rename_i m; exact .inl ⟨m, (Option.some.inj h).symm⟩
  · split at h
    · rename_i m; exact .inr ⟨m.1, m.2, (Option.some.inj h).symm⟩
    · cases h
end
/-- the law's def at its script -/
theorem call_law {P : Program} {w : World} {K : PySem.W.Frag} {mg mb : Str → Option Value} {k : Nat} {fa a : Addr} {cs : List (Addr × Addr)} {fd : FuncData} {x : Str} {sp : Sp} {s : Shared} {us : List Value} {ns : List Int}
    (KX : K.In s.heap) (nsG : s.heap.Ns mainGlobals mg) (nsB : s.heap.Ns builtinsNs mb) (bB : ∀ y : Str, y ≠ "__name__" → mb y = bootBuiltins y) (lim : s.heap.NoLimit) (gn : s.gens = #[])
    (tT : ∀ p ∈ cs, s.heap.get? p.2 = some tbO) (kT : ∀ p ∈ cs, K.lookup p.2 = none) (cT : ∀ p ∈ cs, PySem.W.CodeHd s.heap p.1 p.2)
    (bm : ∃ (m : Addr) (ob : Obj), mg "__builtins__" = some (.ref m) ∧ m ≠ builtinsNs ∧ s.heap.get? m = some ob ∧ ob.cls = .type "module" ∧ ob.dict = some builtinsNs ∧ ob.data = .plain)
    (ha : s.heap.get? a = some (scO us)) (hi : IntsAre us ns) (hl : ns.length ≤ sizeLine) (z : RoomG k callerA)
    (F : ∀ base : Heap, K.In base → base.Ns mainGlobals mg → (∀ p ∈ cs, TabB base mg p.1 p.2) → FnG P w K mg base CX0 k fa fd [x] sp) (bd : ∀ (s : Shared) (u : Value), BindsTo s fd ⟨[u], []⟩ [(x, u)])
    (hsp : ∀ H : Hp, (∀ p ∈ cs, H p.2 = some (.tbl #[])) → SqL K H a (ns.map V.int) → sp [.ref a] H (fun v _ => v = .bl true) fun _ _ _ => False) :
    codeAny (model P w) callerA (.call (.ref fa) ⟨[.ref a], []⟩) (fun r s' => r = .ok (.ret (.bool true)) ∧ OldK s.heap s'.heap ∧ s'.os = s.os ∧ AllBare s'.gens) s := by
  have vi := vals_ints hi
  have inT : ∀ {b : Addr}, b ∈ cs.map (·.2) → s.heap.get? b = some tbO := fun {b} m => let ⟨p, h, e⟩ := List.mem_map.mp m; e ▸ tT p h
  have atT : ∀ p ∈ cs, p.2 ∈ cs.map (·.2) := fun p h => List.mem_map_of_mem (f := (·.2)) h
  have aN : a ∉ cs.map (·.2) := fun m => by
    have q := congrArg (Option.map Obj.data) (ha.symm.trans (inT m))
    simp at q
  generalize eH : hp0 K a us ns (cs.map (·.2)) = H
  have cH : ∀ {b : Addr} {u : HO}, H b = some u → (b ∈ cs.map (·.2) ∧ u = .tbl #[]) ∨ (b = a ∧ K.lookup a = none ∧ u = .frz (scO us) (.lst (ns.map V.int))) := fun e => hp0_cases (by rw [eH]; exact e)
  have H0 : ∀ {b : Addr}, (∀ u, H b ≠ some u) → H b = none := fun {b} h => by
    rcases q : H b with _ | u
    · rfl
    · exact (h u q).elim
  have free : ∀ {b : Addr} {o : Obj}, s.heap.get? b = some o → (∀ vs n, o.data ≠ .seq vs n) → o.data ≠ .fields #[] → H b = none := fun e n1 n2 => H0 fun u q => by
    rcases cH q with ⟨m, _⟩ | ⟨rfl, _, _⟩
    · rw [inT m] at e; cases e; exact n2 rfl
    · rw [ha] at e; cases e; exact n1 _ _ rfl
  have up : ∀ {b : Addr} {o : Obj}, s.heap.get? b = some o → H b = none → (hidT s.heap H).get? b = some o := fun e n => hidT_get e n
  have upN : ∀ {b : Addr} {m : Str → Option Value}, s.heap.Ns b m → (hidT s.heap H).Ns b m := fun ⟨o, es, ep, e, d, r⟩ => ⟨o, es, ep, up e (free e (fun _ _ q => by rw [d] at q; cases q) (fun q => by rw [d] at q; cases q)), d, r⟩
  have KB : K.In (hidT s.heap H) := fun b o e => up (KX b o e) (H0 fun u q => by
    rcases cH q with ⟨m, _⟩ | ⟨rfl, n, _⟩
    · obtain ⟨p, h, rfl⟩ := List.mem_map.mp m
      rw [kT p h] at e; cases e
    · rw [n] at e; cases e)
  have ok : HOk P w H s.heap := fun b u e => by
    rcases cH e with ⟨m, rfl⟩ | ⟨rfl, _, rfl⟩
    · exact inT m
    · exact ⟨ha, by rw [List.length_map]; exact hl, us, _, vi, ha⟩
  have scr : SqL K H a (ns.map V.int) := by
    rcases q : K.lookup a with _ | o
    · exact .inl (.inr ⟨scO us, by rw [← eH]; exact hp0_a aN q⟩)
    · have e := KX a o q
      rw [ha] at e; cases e
      exact .inr ⟨_, us.toArray, _, q, rfl, rfl, rfl, by rw [List.size_toArray, hi.length]; exact hl, by simpa using vi⟩
  have tb : ∀ p ∈ cs, H p.2 = some (.tbl #[]) := fun p h => by rw [← eH]; exact hp0_T (atT p h)
  have TB : ∀ p ∈ cs, TabB (hidT s.heap H) mg p.1 p.2 := fun p h => by
    have et := tT p h
    obtain ⟨oG, esG, epG, eG, dG, _⟩ := id nsG
    refine { code := ?_, bm := ?_, gP := fun q => by rw [q, et] at eG; cases eG; cases dG }
    · obtain ⟨o, us, file, tf, flags, tg, inF, text, tt, e1, r1, r2, rest⟩ := cT p h
      refine ⟨o, us, file, tf, flags, tg, inF, text, tt, up e1 (free e1 (fun _ _ q => by rw [r2] at q; cases q) fun q => ?_), r1, r2, rest⟩
      rw [r2] at q; cases q
      simp at rest
    · obtain ⟨m, ob, b1, b2, b3, b4, b5, b6⟩ := bm
      exact ⟨m, ob, b1, b2, (fun q => by rw [q, eG] at b3; cases b3; rw [dG] at b6; cases b6), (fun q => by rw [q, et] at b3; cases b3; cases b6), up b3 (free b3 (fun _ _ q => by rw [b6] at q; cases q) (fun q => by rw [b6] at q; cases q)), b4, b5, b6⟩
  have M0 : L2.Mod K mg (hidT s.heap H) := { kin := KB, glob := upN nsG, blt := ⟨mb, upN nsB, bB⟩, nolimit := let ⟨mc, h1, h2⟩ := lim; ⟨mc, upN h1, h2⟩ }
  have E : Env0 P w K mg (hidT s.heap H) callerA [] s H := { frames := rfl, mod := M0, bs := fun _ _ e => of_hidT e, bsz := Nat.le_of_eq (hidT_size _ _), funs := trivial, frf := fun _ h => absurd h List.not_mem_nil, hok := ok, bare := .of_eq gn }
  refine codeAny_mono ((F _ KB (upN nsG) TB).at_ (vs := [V.ref a]) (us := [Value.ref a]) z E (bd s (.ref a)) (.cons (show RelV (V.ref a) (Value.ref a) from rfl) .nil) (hsp H tb scr)) fun r s' e => ?_
  rcases r with er | fl
  · exact False.elim e
  rcases fl with _ | _ | _ | u
  iterate 3 exact False.elim e
  obtain ⟨v, H', os, bare, un, ok', rv, rfl⟩ := e
  cases (show u = Value.bool true from rv)
  have same : ∀ {b : Addr} {o : Obj}, b ∉ cs.map (·.2) → s.heap.get? b = some o → s'.heap.get? b = some o := fun {b o} nb e => by
    rcases q : H b with _ | u
    · exact un.keep b o e q (fun h => absurd h List.not_mem_nil) (fun h => absurd h List.not_mem_nil)
    · rcases cH q with ⟨m, _⟩ | ⟨rfl, _, rfl⟩
      · exact (nb m).elim
      · have e2 := (ok' _ _ (un.frzs _ _ _ q)).1
        rw [ha] at e; cases e
        exact e2
  have more : ∀ p ∈ cs, ∃ m : Array Value, s'.heap.get? p.2 = some { cls := .none, data := .fields m } := fun p h => let ⟨_, e⟩ := un.tbls _ _ (tb p h); ⟨_, ok' _ _ e⟩
  refine ⟨rfl, ⟨fun b o e => ?_, fun b o e => ?_⟩, os, bare⟩
  · by_cases m : b ∈ cs.map (·.2)
    · obtain ⟨p, h, rfl⟩ := List.mem_map.mp m
      obtain ⟨q, hq⟩ := more p h
      rw [tT p h] at e; cases e
      exact .inr (.inl ⟨((cT p h).tab (tT p h)).isCodeTable, rfl, #[], q, rfl, by rw [Array.empty_append]; exact hq⟩)
    · exact .inl (same m e)
  · by_cases m : b ∈ cs.map (·.2)
    · obtain ⟨p, h, rfl⟩ := List.mem_map.mp m
      obtain ⟨q, hq⟩ := more p h
      exact ⟨_, hq⟩
    · exact ⟨o, same m e⟩
theorem walk_G {l : PySem.W.OpenLaw} {n k : Nat} {q : Program} {loose : List Str} {XP : (Str → Option Value) → Heap → Prop} {YP : World → Heap → Prop} {d : DefRec} {x : Str}
    (hn : l.most = some n) (hn2 : n ≤ sizeLine) (hdf : d.params.defaults = []) (z : RoomG k callerA)
    (F : ∀ (w : World) (mg : Str → Option Value) (fa : Addr) (h : Heap), YP w h → h.Ns mainGlobals mg → mg d.name = some (.ref fa) →
      ∃ (K : PySem.W.Frag) (fd : FuncData) (sp : Sp) (cs : List (Addr × Addr)), K.In h ∧ (∀ (s : Shared) (u : Value), BindsTo s fd ⟨[u], []⟩ [(x, u)]) ∧
        (∀ p ∈ cs, h.get? p.2 = some tbO) ∧ (∀ p ∈ cs, K.lookup p.2 = none) ∧ (∀ p ∈ cs, PySem.W.CodeHd h p.1 p.2) ∧
        (∀ (H : Hp) (a : Addr) (ns : List Int), ns.length ≤ n → (∀ p ∈ cs, H p.2 = some (.tbl #[])) → SqL K H a (ns.map V.int) → sp [.ref a] H (fun v _ => v = .bl true) fun _ _ _ => False) ∧
        ∀ base : Heap, K.In base → base.Ns mainGlobals mg → (∀ p ∈ cs, TabB base mg p.1 p.2) → FnG l.prog w K mg base CX0 k fa fd [x] sp) :
    PySem.W.WalkO q loose XP YP l.row.toRowW d [] (fun f vs => PySem.call f vs) :=
  Att.attach_call hn hdf fun w _ s mg _ fa _ _ _ _ a _ ns G Y _ _ _ hm ho hi hlen hg => by
    obtain ⟨K, fd, sp, cs, KX, bd, t1, t2, t3, hsp, hF⟩ := F w mg fa _ Y G.T.g hm
    exact call_law KX G.T.g G.T.b G.T.builtins G.T.nolimit hg t1 t2 t3 G.T.bmain ho hi (Nat.le_trans hlen hn2) z hF bd (fun H h1 h2 => hsp H a ns hlen h1 h2)
end Dl
end
section
set_option maxHeartbeats 4000000
/-! DlU: raise; try with clauses, some of them with a name. -/
namespace Dl
open PySem PySem.Spec PyProof.Rows L2
/-! ### raise X('..'), X without an own __init__ -/
def fRaise (c : Str) : En → Rs Fl := fun ρ => .err c [] [] ρ
/-- what is known of such a class -/
structure XcN (K : PySem.W.Frag) (mg : Str → Option Value) (cl : Cl) (c : Str) (bmB : List Value) (B newId initId : String) (C : Addr) : Prop where
  at_ : cl c = some C
  exc : PySem.W.excIn K C bmB newId = true
  g : mg c = some (.ref C)
  kp : PySem.W.keepIn K (.ref C) = true
  sub : PySem.W.subIn K (.ref C) (.type "BaseException") = some true
  ty : PySem.W.typeIn K (.ref C) = some (.type "type")
section
variable {X : Cx} {M : Mc} {W : WX}
theorem ss_raise {c m : Str} {C : Addr} {bmB : List Value} {B newId initId : String} {j : Nat} {p p2 pos pos2 : Pos} (hc : X.calm = true) (tk : Takes X W) (F : ExcBaseFacts B newId initId bmB) (N : XcN X.K X.mg M.cl c bmB B newId initId C) (hg : Gl X c := by rfl) (hdb : (c == ("__debug__" : Str)) = false := by decide) :
    SS X M W (.Raise (some (.Call (.Name c p) [.Constant (.str m) j p2] [] pos)) none pos2) (fRaise c) :=
  ps_imp (ps_raise hc tk (pmk_own F N.exc N.g N.kp (raises_own N.sub N.ty) hg hdb)) fun Dn σ H ⟨an, ρ, ts, ds, R, h⟩ => h σ C none H [] N.at_ rfl (.inl rfl) R
end
/-! ### try: several clauses, with or without a name -/
inductive Cls1 where
  | no (c : Value) (ts : Addr → Value → Option Addr → TS)
  | as (c : Value) (i : Nat) (ts : Addr → Value → Option Addr → TS)
/-- what the clauses wish of an exception of the body, one after the other -/
def wMix (K : PySem.W.Frag) (Wout : WX) (D : Ends) : List Cls1 → WX
  | [] => Wout
  | .no c ts :: r => fun cls d σ H => ∃ b, PySem.W.exmOne K cls c = some b ∧ (b = true → ∀ a, H a = none → ts a cls d D σ H) ∧ (b = false → wMix K Wout D r cls d σ H)
  | .as c i ts :: r => fun cls d σ H => ∃ b, PySem.W.exmOne K cls c = some b ∧ (b = true → ∀ a, H a = none → ts a cls d { nx := fun σ' H' => D.nx (σ'.set i none) H', rt := D.rt, bk := fun σ' H' => D.bk (σ'.set i none) H', ct := fun σ' H' => D.ct (σ'.set i none) H' } (σ.set i (some (.ref a))) H) ∧
    (b = false → wMix K Wout D r cls d σ H)
inductive HdsM (X : Cx) : List ExceptHandler → List Cls1 → Prop
  | nil : HdsM X [] []
  | no {x : Str} {c : Value} {ts : Addr → Value → Option Addr → TS} {b₀ : Stmt} {suite : List Stmt} {np pos' : Pos} {hds : List ExceptHandler} {l : List Cls1} (hc : Names X x c)
      (hsu : ∀ (a : Addr) (oe : Obj) (cls : Value) (d : Option Addr) (pn : List (Addr × Obj)), Zc cls d oe → (∃ vs, oe.data = .fields vs) → PSs (X.suite a ((a, oe) :: pn)) (b₀ :: suite) (ts a cls d)) (r : HdsM X hds l) :
      HdsM X (.ExceptHandler (some (.Name x np)) none (b₀ :: suite) pos' :: hds) (.no c ts :: l)
  | as {x n : Str} {i : Nat} {c : Value} {ts : Addr → Value → Option Addr → TS} {b₀ : Stmt} {suite : List Stmt} {np pos' : Pos} {hds : List ExceptHandler} {l : List Cls1} (hN : X.N.Nodup) (hi : X.N[i]? = some n) (hln : X.env.kindOf n = some .local) (hc : Names X x c)
      (hsu : ∀ (a : Addr) (oe : Obj) (cls : Value) (d : Option Addr) (pn : List (Addr × Obj)), Zc cls d oe → (∃ vs, oe.data = .fields vs) → PSs (X.suite a ((a, oe) :: pn)) (b₀ :: suite) (ts a cls d)) (r : HdsM X hds l) :
      HdsM X (.ExceptHandler (some (.Name x np)) (some n) (b₀ :: suite) pos' :: hds) (.as c i ts :: l)
section
variable {X : Cx} {body : List Stmt} {h₀ : ExceptHandler} {hds : List ExceptHandler} {l : List Cls1} {pos : Pos} {tb : WX → TS} {Wout : WX}
theorem ps_try_mix (hs : X.stack = X.env :: X.outer) (hf : X.env.frame = some X.env.locals) (tk : Takes X Wout)
    (hb : ∀ (W : WX) (pn : List (Addr × Obj)) (xe : Value → Shared → Prop), Takes (X.tr pn xe) W → PassesOwn (model X.prog X.w) X.A X.env xe → PSs (X.tr pn xe) body (tb W))
    (hh : HdsM X (h₀ :: hds) l) : PS X (.Try body (h₀ :: hds) [] [] pos) (fun D σ H => tb (wMix X.K Wout D l) D σ H) := by
  refine ⟨fun pins s σ H D I h => ?_⟩
  have ok := I.ok
  have hfr : X.A.frames = some (X.env :: X.outer) := by rw [ok.frames, hs]
  refine wpAny_Try_except ?_
  refine wpAny_mono ((hb (wMix X.K Wout D l) (X.pn ++ pins) (fun e s₁ => wpAny (model X.prog X.w) X.A (noteFrame e X.env) (fun _ s₂ => wpAny (model X.prog X.w) X.A (setFlight e none) (fun _ s₃ =>
    wpAny (model X.prog X.w) X.A (handleBy e X.env (h₀ :: hds)) (SP X pins D) X.xe s₃) X.xe s₂) X.xe s₁) (fun u s' xx => ?_) PassesOwn.looking).run [] s σ H D (I.toTry _) h) (fun f s1 hsp => ?_) (fun e s1 he => he)
  · obtain ⟨a, B, sI, pins', σ', H', cls, d, rfl, J', nb, up, sky, na, os, ag, w⟩ := xx
    have J : Inv X pins σ' H' sI := J'.ofTry ok
    have sky' : Sky B (X.env :: X.outer) a (Zc cls d) X.env.locals s'.heap := by rw [← hs]; exact sky
    show wpAny (model X.prog X.w) X.A (noteFrame (.ref a) X.env) _ _ _
    refine Sky.land Zc.steady hfr hf sky' fun h3 fl3 up3 => ?_
    have J3 : Inv X pins σ' H' { s' with heap := h3 } := J.landed nb fl3.1 (up.trans up3) os ag
    obtain ⟨oe3, vs3, he3, hz3, hd3⟩ := fl3.there
    have notFr : ∀ {h : Heap} {o : Obj} {vs : Array Value}, h.FunFrames B (X.env :: X.outer) → h.get? a = some o → o.data = .fields vs → a ∉ frs (X.env :: X.outer) := fun {h o vs} ff e dd hm => by
      obtain ⟨_, o', e', hnf⟩ := ff.mem hm
      rw [e] at e'; cases e'
      exact hnf _ dd
    have nfr := notFr fl3.2.2.1 he3 hd3
    have nL : a ≠ X.env.locals := fun z => nfr (List.mem_filterMap.mpr ⟨X.env, List.mem_cons_self, by rw [hf, z]⟩)
    have nF : a ∉ X.fs := fun hm => by
      obtain ⟨e, he, q⟩ := List.mem_filterMap.mp hm
      exact nfr (List.mem_filterMap.mpr ⟨e, List.mem_cons_of_mem _ he, q⟩)
    have S3 := J3.suite he3 hd3 na nL nF
    have LT : PySem.W.Looks (model X.prog X.w) h3 (typeOf (.ref a)) cls := fun A Q E s k q => wpAny_typeOf_ref (k _ _ he3) (by rw [hz3.1]; exact q)
    have test : ∀ {x : Str} {c : Value} {np : Pos} {Q : Value → Shared → Prop} {E : Value → Shared → Prop}, Names X x c → Q c { s' with heap := h3 } → wpAny (model X.prog X.w) (X.A.mark (some (.ref a))) (eval (.Name x np) X.env) Q E { s' with heap := h3 } := fun {x c np Q E} hc q => by
      obtain ⟨hg, hdbg, hm | ⟨hm, hv, hnn⟩⟩ := hc
      · exact ld_glob (X := X.suite a ((a, oe3) :: (X.pn ++ pins))) S3 hg hm q hdbg
      · exact ld_blt (X := X.suite a ((a, oe3) :: (X.pn ++ pins))) S3 hg hm hv q hnn hdbg
    have go : ∀ {hds' : List ExceptHandler} {l' : List Cls1}, HdsM X hds' l' → wMix X.K Wout D l' cls d σ' H' →
        wpAny (model X.prog X.w) X.A (handleBy (.ref a) X.env hds') (SP X pins D) X.xe { s' with heap := h3 } := by
      intro hds' l' hk
      induction hk with
      | nil =>
        intro w
        refine wpAny_handleBy_nil ?_
        obtain ⟨k1, k2, k3, oe, vs, T, oT, ts', he, hz, hd, h1, hr⟩ := id fl3
        unfold PySem.passOn
        refine wpAny_bind (wpAny_field he hd h1 ?_)
        rw [if_neg (show ¬ ((Value.ref T == Value.none) = true) from by simp)]
        have fin : wpAny (model X.prog X.w) X.A (setFlight (.ref a) X.env.frame) (fun _ s4 => wpAny (model X.prog X.w) X.A (throw (.ref a) : Sem Flow) (SP X pins D) X.xe s4) X.xe { s' with heap := h3 } := by
          rw [hf]
          refine HandSPX.setFlight_upZ fl3 fun h4 hh4 up4 => wpAny_throw (tk _ _ ?_)
          exact ⟨a, B, sI, pins, σ', H', cls, d, rfl, J, nb, (up.trans up3).trans up4, .inr (.inr (by rw [hs]; exact hh4)), na, os, ag, w⟩
        first
          | exact wpAny_bind (wpAny_pure (wpAny_bind fin))
          | exact wpAny_bind fin
      | @no x c ts b₀ suite np pos' hds2 l2 hc hsu r ih =>
        intro w
        obtain ⟨b, hb1, hyes, hno⟩ := w
        refine wpAny_handleBy_cons (codeAny_handlers_test ?_) (by intro q; cases q)
        have LM := PySem.W.exm_one (M := model X.prog X.w) (J3.kIn) LT hb1
        refine test hc (LM.here ?_)
        cases b with
        | true =>
          refine codeAny_handlers_suite ?_
          refine HandSPX.lands_againZ fl3 fun h4 fl4 up4 => ?_
          have J4 : Inv X pins σ' H' { s' with heap := h4 } := J.landed nb fl4.1 ((up.trans up3).trans up4) os ag
          obtain ⟨oe4, vs4, he4, hz4, hd4⟩ := fl4.there
          have S4 := J4.suite he4 hd4 na nL nF
          refine wpAny_mono ((hsu a oe4 cls d (X.pn ++ pins) hz4 ⟨_, hd4⟩).run [] _ _ H' _ S4 (hyes rfl a na)) (fun f s6 hsp => ?_) (fun _ _ z => False.elim z)
          cases f with
          | next =>
            obtain ⟨σ6, H6, S6, q6⟩ := hsp
            exact ⟨_, _, S6.unsuite ok, q6⟩
          | brk =>
            obtain ⟨σ6, H6, S6, q6⟩ := hsp
            exact ⟨_, _, S6.unsuite ok, q6⟩
          | cont =>
            obtain ⟨σ6, H6, S6, q6⟩ := hsp
            exact ⟨_, _, S6.unsuite ok, q6⟩
          | ret u =>
            obtain ⟨v6, σ6, H6, S6, r6, q6⟩ := hsp
            exact ⟨_, _, _, S6.unsuite ok, r6, q6⟩
        | false =>
          show wpAny _ X.A (handleBy (.ref a) X.env hds2) _ _ _
          exact ih (hno rfl)
      | @as x n i c ts b₀ suite np pos' hds2 l2 hN hi hln hc hsu r ih =>
        intro w
        obtain ⟨b, hb1, hyes, hno⟩ := w
        refine wpAny_handleBy_cons (codeAny_handlers_test ?_) (by intro q; cases q)
        have LM := PySem.W.exm_one (M := model X.prog X.w) (J3.kIn) LT hb1
        have hloc : Loc X.env.scope n := .inl hln
        refine test hc (LM.here ?_)
        cases b with
        | true =>
          refine codeAny_handlers_suite_as ?_
          refine HandSPX.lands_againZ fl3 fun h4 fl4 up4 => ?_
          have J4 : Inv X pins σ' H' { s' with heap := h4 } := J.landed nb fl4.1 ((up.trans up3).trans up4) os ag
          obtain ⟨oe4, vs4, he4, hz4, hd4⟩ := fl4.there
          have S4 := J4.suite he4 hd4 na nL nF
          refine store_ok (X := X.suite a ((a, oe4) :: (X.pn ++ pins))) (v := .ref a) S4 hN hi hloc rfl (fun s5 S5 => ?_) (.inr hln)
          refine wpAny_mono ((hsu a oe4 cls d (X.pn ++ pins) hz4 ⟨_, hd4⟩).run [] s5 _ H' _ S5 (hyes rfl a na)) (fun f s6 hsp => ?_) (fun _ _ z => False.elim z)
          have end_ : ∀ {σ6 : St} {H6 : Hp} {Q : Shared → Prop}, Inv (X.suite a ((a, oe4) :: (X.pn ++ pins))) [] σ6 H6 s6 → (∀ s7, Inv X pins (σ6.set i none) H6 s7 → Q s7) →
              wpAny (model X.prog X.w) X.A (do bindName X.env n .none; unbindBehindTheSuite X.env n pos') (fun _ s7 => Q s7) X.xe s6 := fun {σ6 H6 Q} S6 hq => gone_ok (S6.unsuite ok) hN hi hln hq
          cases f with
          | next =>
            obtain ⟨σ6, H6, S6, q6⟩ := hsp
            exact end_ S6 fun s7 J7 => ⟨_, _, J7, q6⟩
          | brk =>
            obtain ⟨σ6, H6, S6, q6⟩ := hsp
            exact end_ S6 fun s7 J7 => ⟨_, _, J7, q6⟩
          | cont =>
            obtain ⟨σ6, H6, S6, q6⟩ := hsp
            exact end_ S6 fun s7 J7 => ⟨_, _, J7, q6⟩
          | ret u =>
            obtain ⟨v6, σ6, H6, S6, r6, q6⟩ := hsp
            exact end_ S6 fun s7 J7 => ⟨_, _, _, J7, r6, q6⟩
        | false =>
          show wpAny _ X.A (handleBy (.ref a) X.env hds2) _ _ _
          exact ih (hno rfl)
    exact go hh w
  · cases f with
    | next =>
      obtain ⟨σ', H', J', q⟩ := hsp
      exact wpAny_execs_nil ⟨σ', H', J'.ofTry ok, q⟩
    | brk =>
      obtain ⟨σ', H', J', q⟩ := hsp
      exact ⟨σ', H', J'.ofTry ok, q⟩
    | cont =>
      obtain ⟨σ', H', J', q⟩ := hsp
      exact ⟨σ', H', J'.ofTry ok, q⟩
    | ret u =>
      obtain ⟨v, σ', H', J', r, q⟩ := hsp
      exact ⟨v, σ', H', J'.ofTry ok, r, q⟩
end
end Dl
end
section
set_option maxHeartbeats 4000000
/-! DlV: repr of data. -/
namespace Dl
open PySem PySem.Spec PyProof.Rows L2
/-! ### repr -/
def keyPy : Key → PyData
  | .inl i => .int i
  | .inr x => .str x
/-- the text of plain data -/
def shX (d : PyData) : Option Str := if d.showable && decide (d.depth ≤ 60) && decide (d.shown.length ≤ sizeLine) then some d.shown else none
/-- data with a dict of flat values at its head -/
def pyD : D → Option PyData
  | .dic ks ds => if ds.all D.flat then (pyAll ds).map fun xs => .dict ((ks.map keyPy).zip xs) else none
  | d => d.py
mutual
def lfree : D → Bool
  | .non => true
  | .bl _ => true
  | .int _ => true
  | .str _ => true
  | .tup ds => lfreeA ds
  | _ => false
def lfreeA : List D → Bool
  | [] => true
  | d :: ds => lfree d && lfreeA ds
end
def pyE : D → Option PyData
  | .dic ks ds => pyD (.dic ks ds)
  | d => if lfree d then d.py else none
def pyDs : List D → Option (List PyData)
  | [] => some []
  | d :: ds => (pyE d).bind fun x => (pyDs ds).map (x :: ·)
def pyL : D → Option PyData
  | .lst ds => (match (D.lst ds).py with
    | some x => some x
    | none => (pyDs ds).map .list)
  | d => pyD d
def reprD (d : D) : Option Str := (pyL d).bind shX
section
variable {X : Cx} {pins : List (Addr × Obj)} {σ : St} {H : Hp} {s : Shared} {cl : Cl}
theorem flat_reads (I : Inv X pins σ H s) : ∀ {ds : List D} {vs : List V} {us : List Value} {xs : List PyData}, ds.all D.flat = true → pyAll ds = some xs → Reps X.K cl H ds vs → Vals vs us → ReadsAll s.heap us xs []
  | [], _, _, _, _, e, h, r => by
    simp [pyAll] at e; subst e
    cases (show _ = [] from h)
    cases r
    exact .nil
  | d :: ds, _, _, xs, f, e, ⟨v, r, ev, h1, h2⟩, rr => by
    subst ev
    obtain ⟨x, e1, e2⟩ := Option.bind_eq_some_iff.mp (show d.py.bind _ = some xs from e)
    obtain ⟨ys, e3, rfl⟩ := Option.map_eq_some_iff.mp e2
    obtain ⟨f1, f2⟩ := Bool.and_eq_true_iff.mp (show (d.flat && ds.all D.flat) = true from by simpa using f)
    cases rr with
    | cons q1 q2 =>
      refine ReadsAll.cons (as := []) (bs := []) ?_ (flat_reads I f2 e3 h2 q2)
      cases d with
      | non => cases e1; cases (show v = _ from h1); cases q1; exact .none
      | bl b => cases e1; cases (show v = _ from h1); cases q1; exact .bool b
      | int i => cases e1; cases (show v = _ from h1); obtain ⟨t, rfl⟩ := q1; exact .int i t
      | str i => cases e1; cases (show v = _ from h1); obtain ⟨t, rfl⟩ := q1; exact .str i t
      | _ => cases f1
theorem key_reads {P : Program} {w : World} {h : Heap} : ∀ {es : List DictEntry} {kvs : List (Key × Value)}, Pairs (mixKind P w) es kvs → ReadsAll h (es.map (·.key)) (kvs.map fun p => keyPy p.1) [] ∧ es.map (·.val) = kvs.map (·.2)
  | _, _, .nil => ⟨.nil, rfl⟩
  | e :: es, (k, v) :: kvs, .cons h1 h2 t => by
    obtain ⟨r1, r2⟩ := key_reads (h := h) t
    refine ⟨ReadsAll.cons (as := []) (bs := []) ?_ r1, by simp [r2]; exact h2⟩
    rcases keyIs_shape (show keyIs k e.key = true from h1) with ⟨i, t, rfl, e1⟩ | ⟨x, t, rfl, e1⟩
    · show Reads h e.key _ []; rw [e1]; exact .int i t
    · show Reads h e.key _ []; rw [e1]; exact .str x t
theorem kv_split : ∀ {kvs : List (Key × V)} {us : List (Key × Value)}, KV kvs us → us.map (·.1) = kvs.map (·.1) ∧ Vals (kvs.map (·.2)) (us.map (·.2))
  | _, _, .nil => ⟨rfl, .nil⟩
  | _ :: _, _ :: _, .cons h t => let ⟨a, b⟩ := kv_split t; ⟨by simp only [List.map_cons]; rw [a, h.1], .cons h.2 b⟩
theorem pyD_reads (I : Inv X pins σ H s) {d : D} {v : V} {u : Value} {x : PyData} (e : pyD d = some x) (h : Rep X.K cl H d v) (r : RelV v u) : ∃ as, Reads s.heap u x as ∧ (x.hasDict = true → sysModules ∉ as) := by
  have nd : ∀ {d : D}, d.py = some x → Rep X.K cl H d v → x.hasDict = false → ∃ as, Reads s.heap u x as ∧ (x.hasDict = true → sysModules ∉ as) := fun e h n => by
    obtain ⟨as, q⟩ := Dp.reads I x v u (rep_dp _ v x e h) r
    exact ⟨as, q, PyData.noDict_hsm n⟩
  by_cases hd : ∃ ks ds, d = .dic ks ds
  · obtain ⟨ks, ds, rfl⟩ := hd
    unfold pyD at e
    dsimp only at e
    split at e
    · rename_i f
      obtain ⟨xs, e1, rfl⟩ := Option.map_eq_some_iff.mp e
      obtain ⟨a, vs, rfl, g, l, rp⟩ := h
      cases (show u = Value.ref a from r)
      obtain ⟨_, sm, us, kv, o, es, ep, ho, ex, od, _, ps, _⟩ := I.hok a _ g
      obtain ⟨k1, k2⟩ := kv_split kv
      have e3 : (ks.zip vs).map (·.1) = ks := by rw [List.map_fst_zip]; omega
      have e4 : (ks.zip vs).map (·.2) = vs := by rw [List.map_snd_zip]; omega
      rw [e3] at k1
      rw [e4] at k2
      obtain ⟨q1, q2⟩ := key_reads (h := s.heap) ps
      have q3 := flat_reads I f e1 rp k2
      have lx : xs.length = ks.length := by
        have := rp.len
        have : ∀ {ds : List D} {xs : List PyData}, pyAll ds = some xs → xs.length = ds.length := by
          intro ds
          induction ds with
          | nil => intro xs e; simp [pyAll] at e; subst e; rfl
          | cons d ds ih =>
            intro xs e
            obtain ⟨x, _, e2⟩ := Option.bind_eq_some_iff.mp (show d.py.bind _ = some xs from e)
            obtain ⟨ys, e3, rfl⟩ := Option.map_eq_some_iff.mp e2
            simp [ih e3]
        rw [this e1]; omega
      have q1' : ReadsAll s.heap (es.toList.map (·.key)) (((ks.map keyPy).zip xs).map (·.1)) [] := by
        rw [List.map_fst_zip (by rw [List.length_map]; omega), ← k1, List.map_map]
        exact q1
      have q3' : ReadsAll s.heap (es.toList.map (·.val)) (((ks.map keyPy).zip xs).map (·.2)) [] := by
        rw [List.map_snd_zip (by rw [List.length_map]; omega), q2]
        exact q3
      exact ⟨_, .dict ho ex.1 od q1' q3', fun _ m => by
        simp at m
        rw [← m] at sm
        simp at sm⟩
    · cases e
  · have e' : d.py = some x := by
      cases d with
      | dic ks ds => exact (hd ⟨_, _, rfl⟩).elim
      | _ => exact e
    refine nd e' h ?_
    have := rep_dp d v x e' h
    exact dp_noDict this
where
  dp_noDict {K : PySem.W.Frag} {H : Hp} : ∀ {x : PyData} {v : V}, Dp K H v x → x.hasDict = false
    | .none, _, _ => by simp only [PyData.hasDict]
    | .bool _, _, _ => by simp only [PyData.hasDict]
    | .int _, _, _ => by simp only [PyData.hasDict]
    | .str _, _, _ => by simp only [PyData.hasDict]
    | .list xs, _, .lst _ h => by simp only [PyData.hasDict]; exact dps_noDict h
    | .tuple xs, _, .tup _ h => by simp only [PyData.hasDict]; exact dps_noDict h
    | .dict _, _, h => by cases h
  dps_noDict {K : PySem.W.Frag} {H : Hp} : ∀ {xs : List PyData} {vs : List V}, DpAll K H vs xs → PyData.hasDictAll xs = false
    | [], _, _ => by simp only [PyData.hasDictAll]
    | x :: xs, _, .cons h t => by simp only [PyData.hasDictAll, dp_noDict h, dps_noDict t]; rfl
mutual
theorem lf_reads (I : Inv X pins σ H s) : ∀ {d : D} {v : V} {u : Value} {x : PyData}, lfree d = true → d.py = some x → Rep X.K cl H d v → RelV v u → Reads s.heap u x []
  | .non, _, _, _, _, e, h, r => by cases e; cases (show _ = V.non from h); cases r; exact .none
  | .bl b, _, _, _, _, e, h, r => by cases e; cases (show _ = V.bl b from h); cases r; exact .bool b
  | .int i, _, _, _, _, e, h, r => by cases e; cases (show _ = V.int i from h); obtain ⟨t, rfl⟩ := r; exact .int i t
  | .str i, _, _, _, _, e, h, r => by cases e; cases (show _ = V.str i from h); obtain ⟨t, rfl⟩ := r; exact .str i t
  | .tup ds, v, u, x, f, e, ⟨a, vs, ev, q, rp⟩, r => by
    subst ev
    cases (show u = Value.ref a from r)
    obtain ⟨xs, e1, rfl⟩ := Option.map_eq_some_iff.mp (show (pyAll ds).map _ = some x from e)
    obtain ⟨its, rv, ⟨o, ho, hc, n, hd⟩, _⟩ := I.tuple q
    exact .tuple ho hc hd (lfs_reads I (by simpa [lfree] using f) e1 rp rv)
  | .lst _, _, _, _, f, _, _, _ => by cases f
  | .frz _, _, _, _, f, _, _, _ => by cases f
  | .dic _ _, _, _, _, f, _, _, _ => by cases f
  | .ins _ _ _, _, _, _, f, _, _, _ => by cases f
  | .loc _ _, _, _, _, f, _, _, _ => by cases f
  | .xd _ _, _, _, _, f, _, _, _ => by cases f
  | .fn _, _, _, _, f, _, _, _ => by cases f
theorem lfs_reads (I : Inv X pins σ H s) : ∀ {ds : List D} {vs : List V} {us : List Value} {xs : List PyData}, lfreeA ds = true → pyAll ds = some xs → Reps X.K cl H ds vs → Vals vs us → ReadsAll s.heap us xs []
  | [], _, _, _, _, e, h, r => by
    simp [pyAll] at e; subst e
    cases (show _ = [] from h)
    cases r
    exact .nil
  | d :: ds, _, _, xs, f, e, ⟨v, r, ev, h1, h2⟩, rr => by
    subst ev
    obtain ⟨x, e1, e2⟩ := Option.bind_eq_some_iff.mp (show d.py.bind _ = some xs from e)
    obtain ⟨ys, e3, rfl⟩ := Option.map_eq_some_iff.mp e2
    obtain ⟨f1, f2⟩ := Bool.and_eq_true_iff.mp (show (lfree d && lfreeA ds) = true from by simpa [lfreeA] using f)
    cases rr with
    | cons q1 q2 => exact ReadsAll.cons (as := []) (bs := []) (lf_reads I f1 e1 h1 q1) (lfs_reads I f2 e3 h2 q2)
end
theorem pyE_reads (I : Inv X pins σ H s) {d : D} {v : V} {u : Value} {x : PyData} (e : pyE d = some x) (h : Rep X.K cl H d v) (r : RelV v u) : ∃ as, Reads s.heap u x as ∧ sysModules ∉ as := by
  by_cases hd : ∃ ks ds, d = .dic ks ds
  · obtain ⟨ks, ds, rfl⟩ := hd
    obtain ⟨as, q1, q2⟩ := pyD_reads I (show pyD (.dic ks ds) = some x from e) h r
    refine ⟨as, q1, q2 ?_⟩
    have e' : pyD (.dic ks ds) = some x := e
    unfold pyD at e'
    dsimp only at e'
    split at e'
    · obtain ⟨xs, _, rfl⟩ := Option.map_eq_some_iff.mp e'
      simp only [PyData.hasDict]
    · cases e'
  · have e' : (if lfree d then d.py else none) = some x := by
      cases d with
      | dic ks ds => exact (hd ⟨_, _, rfl⟩).elim
      | _ => exact e
    split at e'
    · rename_i f
      exact ⟨[], lf_reads I f e' h r, fun m => nomatch m⟩
    · cases e'
theorem pyDs_reads (I : Inv X pins σ H s) : ∀ {ds : List D} {vs : List V} {us : List Value} {xs : List PyData}, pyDs ds = some xs → Reps X.K cl H ds vs → Vals vs us → ∃ as, ReadsAll s.heap us xs as ∧ sysModules ∉ as
  | [], _, _, _, e, h, r => by
    simp [pyDs] at e; subst e
    cases (show _ = [] from h)
    cases r
    exact ⟨[], .nil, fun m => nomatch m⟩
  | d :: ds, _, _, xs, e, ⟨v, r, ev, h1, h2⟩, rr => by
    subst ev
    obtain ⟨x, e1, e2⟩ := Option.bind_eq_some_iff.mp (show (pyE d).bind _ = some xs from e)
    obtain ⟨ys, e3, rfl⟩ := Option.map_eq_some_iff.mp e2
    cases rr with
    | cons q1 q2 =>
      obtain ⟨as, a1, a2⟩ := pyE_reads I e1 h1 q1
      obtain ⟨bs, b1, b2⟩ := pyDs_reads I e3 h2 q2
      exact ⟨_, .cons a1 b1, fun m => (List.mem_append.mp m).elim a2 b2⟩
/-- repr(x) -/
def rRepr (K : PySem.W.Frag) (cl : Cl) : List V → Hp → VK → Prop := fun xs H Q => ∃ v d z, xs = [v] ∧ Rep K cl H d v ∧ reprD d = some z ∧ Q (.str z) H
theorem call_reprG (hg : X.A.guards = some []) (hu : X.A.units + 64 < cLine) : CallR X (.builtin "repr") (rRepr X.K cl) := by
  intro pins s σ H xs us Q I r h
  obtain ⟨v, d, z, rfl, hr, hz, q⟩ := h
  obtain ⟨u, rfl, ru⟩ := vals1 r
  obtain ⟨x, ex, ez⟩ := Option.bind_eq_some_iff.mp hz
  unfold shX at ez
  split at ez
  case isFalse => cases ez
  rename_i hc
  simp only [Bool.and_eq_true, decide_eq_true_eq] at hc
  obtain ⟨⟨c1, c2⟩, c3⟩ := hc
  cases ez
  have fin : ∀ {h' : Heap} {t : Tok} {tk : Nat}, (∀ b o, s.heap.get? b = some o → h'.get? b = some o) → EP X pins σ Q (.str x.shown t) { s with heap := h', toks := tk } := fun k => ⟨.str x.shown, H, I.kept k, ⟨_, rfl⟩, q⟩
  have gen : ∀ as, Reads s.heap u x as → (x.hasDict = true → sysModules ∉ as) → wpAny (model X.prog X.w) X.A (call (.builtin "repr") [u]) (EP X pins σ Q) X.xe s := fun as rd sm => by
    by_cases ref : ∃ a, u = .ref a
    · obtain ⟨a, rfl⟩ := ref
      exact repr_of_reads' (h₀ := s.heap) rd c1 sm hg (by omega) (fun _ _ e => e) (fun h' t tk k => fin k) c3
    · cases rd with
      | none => exact PySem.P.repr_of_none (fin fun _ _ e => e)
      | bool b => exact PySem.P.repr_of_bool (by have z := fin (h' := s.heap) (t := s.toks) (tk := s.toks + 1) (fun _ _ e => e); rw [PyData.shown] at z; exact z)
      | int i t => exact PySem.P.repr_of_int (by simpa [PyData.showable] using c1) (fin fun _ _ e => e)
      | str y t => exact PySem.P.repr_of_str (fin fun _ _ e => e) c3
      | list _ _ _ _ => exact (ref ⟨_, rfl⟩).elim
      | tuple _ _ _ _ => exact (ref ⟨_, rfl⟩).elim
      | dict _ _ _ _ _ => exact (ref ⟨_, rfl⟩).elim
  by_cases hl : ∃ ds, d = .lst ds
  · obtain ⟨ds, rfl⟩ := hl
    unfold pyL at ex
    dsimp only at ex
    split at ex
    · rename_i y ey
      cases ex
      obtain ⟨as, q1⟩ := Dp.reads I x v u (rep_dp _ v x ey hr) ru
      exact gen as q1 (PyData.noDict_hsm (pyD_reads.dp_noDict (rep_dp _ v x ey hr)))
    · obtain ⟨xs, e1, rfl⟩ := Option.map_eq_some_iff.mp ex
      obtain ⟨a, vs, rfl, g, rp⟩ := hr
      cases (show u = Value.ref a from ru)
      obtain ⟨its, rv, ⟨o, n, ho, hc, _, hd⟩, _⟩ := I.list (SqL.of g)
      obtain ⟨as, h4, hs⟩ := pyDs_reads I e1 rp rv
      have z1 : (listText (PyData.shownAll xs)).length ≤ sizeLine := by simpa only [PyData.shown] using c3
      simp only [PyData.depth] at c2
      obtain ⟨bs, hb, hk⟩ := ReprAllK.of_readsAll (prog := X.prog) (w := X.w) h4 (by simpa [PyData.showable] using c1) (fun _ => hs) (fun t ht => Nat.le_trans (listText_mem_le ht) z1)
      have na : a ∉ bs := not_mem_of_deeper (.list ho hc hd h4) (by simp only [PyData.depth]; omega) hb
      rw [PyData.shown] at fin
      refine call_repr_slot (by omega) ⟨o, ho, hc⟩ F.slot_list_repr.toG ?_
      cases its with
      | nil =>
        cases h4
        simp only [PyData.shownAll, listText_nil] at fin
        exact call_list_repr_empty ⟨o, ho, hc⟩ ho hd ⟨_, _, rfl, fin (h' := s.heap) fun _ _ e => e⟩
      | cons y l =>
        exact call_list_reprK (h₀ := s.heap) ho hc hd na (by simpa using hk.length_eq) (fun i y e => hk.item i y (by simpa using e)) (g := []) hg (fun b _ => Clear.nil b) (by show X.A.units + 1 + _ < cLine; omega) (fun _ _ e => e) (fun h' t tk k => ⟨_, _, rfl, fin k⟩) z1
  · have e' : pyD d = some x := by
      cases d with
      | lst ds => exact (hl ⟨_, rfl⟩).elim
      | _ => exact ex
    obtain ⟨as, q1, q2⟩ := pyD_reads I e' hr ru
    exact gen as q1 q2
end
end Dl
end
section
set_option maxHeartbeats 4000000
/-! DlW: repr as a rule; try on trees. -/
namespace Dl
open PySem PySem.Spec PyProof.Rows L2
section
variable {X : Cx} {M : Mc} {W : WX} {e : Expr} {fe : En → Rs D} {p pos : Pos}
def fRepr (fe : En → Rs D) : En → Rs D := fUn (fun d => (reprD d).map .str) fe
theorem se_repr (hk : M.K = X.K) (hg : X.A.guards = some []) (hu : X.A.units + 64 < cLine) (h : SE X M W e fe) (hm : X.mg "repr" = none) (hgl : Gl X "repr" := by rfl)
    (he : starEach [e] X.env = (false, eval e X.env) :: starEach [] X.env := by rfl) (hpl : (backTo pos (starEach [] X.env)).any (·.1) = false := by rfl) : SE X M W (.Call (.Name "repr" p) [e] [] pos) (fRepr fe) := by
  refine pe_imp (pe_callB (call_reprG (cl := M.cl) hg hu) hgl hm (by decide +kernel) (pa_cons h pa_nil he) (by decide) (by decide) he hpl) fun σ H Q ⟨an, ρ, ts, ds, R, h⟩ => ?_
  refine ⟨an, ρ, ts, ds, R, EOk.bind (P := fun z => EOk M an ts ds W σ z Q) h (fun _ _ _ _ z => z) (fun z => z) fun d ρ1 v H1 R1 h1 => ?_⟩
  cases q : reprD d with
  | none => dsimp only at h1; rw [q] at h1; exact h1.elim
  | some z =>
    dsimp only at h1
    rw [q] at h1
    exact ⟨v, d, z, rfl, by rw [← hk]; exact R1.repH, q, h1 _ _ (R1.pop.push fun _ => rfl)⟩
end
/-! ### try on trees -/
inductive Hd where
  | no (sub : Str → Option Bool) (f : En → Rs Fl)
  | rep (sub : Str → Option Bool) (i : Nat) (c lit fld : Str)
def supE : Rs Fl → Rs Fl
  | .err _ _ _ _ => .stuck
  | r => r
def runH : List Hd → Str → List Str → List D → En → Rs Fl
  | [], c, fs, es, ρ => .err c fs es ρ
  | .no sub f :: r, c, fs, es, ρ => (match sub c with
    | some true => supE (f ρ)
    | some false => runH r c fs es ρ
    | none => .stuck)
  | .rep sub i c' lit fld :: r, c, fs, es, ρ => (match sub c with
    | some true => if c = c' ∧ i < ρ.length then (match getX fld fs es with
      | some d => (match reprD d with
        | some z => if lit.length + z.length ≤ sizeLine then .ok (.ret (.str (lit ++ z))) ρ else .stuck
        | none => .stuck)
      | none => .stuck) else .stuck
    | some false => runH r c fs es ρ
    | none => .stuck)
def fTry (fb : En → Rs Fl) (hs : List Hd) : En → Rs Fl := fun ρ => match fb ρ with
  | .err c fs es ρ1 => runH hs c fs es ρ1
  | r => r
/-- what an exception brings, wherever it was made -/
def ErrW (fs : List Str) (vs : List V) (dx : Option Addr) (H : Hp) : Prop := fs = [] ∨ (fs.length = vs.length ∧ ∃ d, dx = some d ∧ H d = some (.xd (fs.zip vs)))
theorem ErrD.w {fs : List Str} {vs : List V} {dx : Option Addr} {H0 H : Hp} (h : ErrD fs vs dx H0 H) : ErrW fs vs dx H := h.imp id fun ⟨a, d, b, _, e⟩ => ⟨a, d, b, e⟩
def isE : Rs Fl → Bool
  | .err _ _ _ _ => true
  | _ => false
def SubOk (K : PySem.W.Frag) (cl : Cl) (C : Addr) (sub : Str → Option Bool) : Prop := ∀ (c : Str) (C' : Addr), cl c = some C' → ∀ b, sub c = some b → PySem.W.exmOne K (.ref C') (.ref C) = some b
inductive HdsD (X : Cx) (cl : Cl) (Ms : Mc → Prop) : List ExceptHandler → List Hd → Prop
  | nil : HdsD X cl Ms [] []
  | no {x : Str} {C : Addr} {sub : Str → Option Bool} {b₀ : Stmt} {suite : List Stmt} {np pos' : Pos} {hds : List ExceptHandler} {l : List Hd} {f : En → Rs Fl} (hm : X.mg x = some (.ref C)) (hx : SubOk X.K cl C sub)
      (hsu : ∀ (a : Addr) (oe : Obj) (cls : Value) (d : Option Addr) (pn : List (Addr × Obj)), Zc cls d oe → (∃ vs, oe.data = .fields vs) → ∀ M, Ms M → SSs (X.suite a ((a, oe) :: pn)) M W0 (b₀ :: suite) f) (r : HdsD X cl Ms hds l)
      (hg : Gl X x := by rfl) (hdb : (x == ("__debug__" : Str)) = false := by decide) : HdsD X cl Ms (.ExceptHandler (some (.Name x np)) none (b₀ :: suite) pos' :: hds) (.no sub f :: l)
  | rep {x n lit fld : Str} (i : Nat) {C : Addr} {sub : Str → Option Bool} {j : Nat} {p1 p2 p3 p4 p5 p6 np pos' : Pos} {hds : List ExceptHandler} {l : List Hd} (hm : X.mg x = some (.ref C)) (hx : SubOk X.K cl C sub) (hcl : cl x = some C) (T : XfC X.K C)
      (hno : PySem.W.findIn X.K (.ref C) fld = some none) (hrp : X.mg "repr" = none) (hN : X.N.Nodup) (r : HdsD X cl Ms hds l) (hi : X.N[i]? = some n := by rfl) (hln : X.env.kindOf n = some .local := by rfl)
      (hg : Gl X x := by rfl) (hdb : (x == ("__debug__" : Str)) = false := by decide) (hgr : Gl X "repr" := by rfl) (hvi : Vis X.env.scope n := by exact Or.inl rfl) (hnd : (n == ("__debug__" : Str)) = false := by decide) (hcd : (n == ("__classdict__" : Str)) = false := by decide)
      (hb : attributeBase (.Name n p4) fld X.env (eval (.Name n p4) X.env) = eval (.Name n p4) X.env := by rfl)
      (he : starEach [.Attribute (.Name n p4) fld p5] X.env = (false, eval (.Attribute (.Name n p4) fld p5) X.env) :: starEach [] X.env := by rfl) :
      HdsD X cl Ms (.ExceptHandler (some (.Name x np)) (some n) [.Return (some (.BinOp (.Constant (.str lit) j p1) .Add (.Call (.Name "repr" p2) [.Attribute (.Name n p4) fld p5] [] p3) p6)) pos'] pos' :: hds) (.rep sub i x lit fld :: l)
section
variable {X : Cx} {M : Mc} {W : WX} {hds : List ExceptHandler} {hs : List Hd} {body : List Stmt} {fb : En → Rs Fl} {pos : Pos} {h₀ : ExceptHandler}
theorem SOk.sup {an : List (Addr × D)} {ts : List V} {ds : List D} {r : Rs Fl} {Dn : Ends} (h : SOk M an ts ds W (supE r) Dn) : SOk M an ts ds W0 r Dn := by
  cases r with
  | ok fl ρ => cases fl <;> exact h
  | err _ _ _ _ => exact h.elim
  | stuck => exact h
/-- the suite «return lit + repr(n.fld)» -/
def tRep (K : PySem.W.Frag) (cl : Cl) (i : Nat) (C : Addr) (lit fld : Str) (a : Addr) (cls : Value) (d : Option Addr) : TS := fun Dn σ H =>
  σ[i]? = some (some (.ref a)) ∧ cls = .ref C ∧ ∃ (dd : Addr) (fl : List (Str × V)) (v : V) (dv : D) (z : Str), d = some dd ∧ H dd = some (.xd fl) ∧ fl.lookup fld = some v ∧ Rep K cl H dv v ∧ reprD dv = some z ∧ lit.length + z.length ≤ sizeLine ∧ Dn.rt (.str (lit ++ z)) H
theorem hds_run {cl : Cl} {Ms : Mc → Prop} (hg : X.A.guards = some []) (hu : X.A.units + 64 < cLine) (hMs : ∀ M, Ms M → M.K = X.K ∧ M.cl = cl) (hh : HdsD X cl Ms hds hs) : ∃ l, HdsM X hds l ∧ ∀ (M : Mc), Ms M → ∀ (Wout : WX) (Dn : Ends) (an : List (Addr × D)) (ts : List V) (ds : List D) (c : Str) (fs : List Str) (es : List D) (ρ1 : En), SOk M an ts ds Wout (runH hs c fs es ρ1) Dn →
    ∀ (C : Addr) (dx : Option Addr) (H : Hp) (vs : List V) (σ : St), cl c = some C → vs.length = es.length → ErrW fs vs dx H → (isE (runH hs c fs es ρ1) = true → ErrD fs vs dx M.H0 H) → RelX M an ρ1 σ H (vs ++ ts) (es ++ ds) → wMix X.K Wout Dn l (.ref C) dx σ H := by
  induction hh with
  | nil => exact ⟨[], .nil, fun M hM Wout Dn an ts ds c fs es ρ1 h C dx H vs σ h1 h2 h3 h4 R => h σ C dx H vs ((hMs M hM).2 ▸ h1) h2 (h4 rfl) R⟩
  | @no x C sub b₀ suite np pos' hds l f hm hx hsu r hgl hdb ih =>
    obtain ⟨l', m, k⟩ := ih
    refine ⟨.no (.ref C) (fun _ _ _ => fun Dn σ H => ∃ M, Ms M ∧ tSt M W0 f Dn σ H) :: l', .no ⟨hgl, hdb, .inl hm⟩ (fun a oe cls d pn hz hf => ⟨fun pins s σ H Dn I ⟨M, hM, q⟩ => (hsu a oe cls d pn hz hf M hM).run pins s σ H Dn I q⟩) m, fun M hM Wout Dn an ts ds c fs es ρ1 h C' dx H vs σ h1 h2 h3 h4 R => ?_⟩
    unfold runH at h
    cases q : sub c with
    | none => rw [q] at h; exact h.elim
    | some b =>
      rw [q] at h
      cases b with
      | true => exact ⟨true, hx c C' h1 true q, fun _ a _ => ⟨M, hM, an, ρ1, ts, ds, R.drops h2, SOk.sup h⟩, (fun e => nomatch e)⟩
      | false => exact ⟨false, hx c C' h1 false q, (fun e => nomatch e), fun _ => k M hM Wout Dn an ts ds c fs es ρ1 h C' dx H vs σ h1 h2 h3 (fun e => h4 (by unfold runH; rw [q]; exact e)) R⟩
  | @rep x n lit fld i C sub j p1 p2 p3 p4 p5 p6 np pos' hds l hm hx hcl T hno hrp hN r hi hln hgl hdb hgr hvi hnd hcd hb he ih =>
    obtain ⟨l', m, k⟩ := ih
    refine ⟨.as (.ref C) i (tRep X.K cl i C lit fld) :: l', .as hN hi hln ⟨hgl, hdb, .inl hm⟩ (fun a oe cls d pn hz hf => ?_) m, fun M hM Wout Dn an ts ds c fs es ρ1 h C' dx H vs σ h1 h2 h3 h4 R => ?_⟩
    · have hp := pss_one (ps_ret (pos := pos') (pe_op (pos := p6) (op_add_str (X := X.suite a ((a, oe) :: pn))) (pe_str (x := lit) (j := j) (pos := p1))
        (pe_callB (X := X.suite a ((a, oe) :: pn)) (x := "repr") (p := p2) (pos := p3) (call_reprG (cl := cl) hg hu) hgr hrp (by decide +kernel) (pa_cons (pe_xf (pos := p5) T hno hz hf (pe_var (i := i) (pos := p4) hi hvi hnd hcd) hb) pa_nil he) (by decide) (by decide) he rfl)))
      refine pss_imp hp fun D σ H ⟨q1, q2, dd, fl, v, dv, z, q3, q4, q5, q6, q7, q8, q9⟩ => ?_
      exact ⟨.ref a, q1, rfl, q2, dd, fl, v, q3, q4, q5, v, dv, z, rfl, q6, q7, lit, z, rfl, rfl, q8, q9⟩
    · unfold runH at h
      cases q : sub c with
      | none => rw [q] at h; exact h.elim
      | some b =>
        rw [q] at h
        cases b with
        | false => exact ⟨false, hx c C' h1 false q, (fun e => nomatch e), fun _ => k M hM Wout Dn an ts ds c fs es ρ1 h C' dx H vs σ h1 h2 h3 (fun e => h4 (by unfold runH; rw [q]; exact e)) R⟩
        | true =>
          refine ⟨true, hx c C' h1 true q, fun _ a _ => ?_, (fun e => nomatch e)⟩
          dsimp only at h
          split at h
          case isFalse => exact h.elim
          rename_i ec
          have eC : C' = C := Option.some.inj ((ec.1 ▸ h1.symm).trans hcl)
          subst eC
          cases gx : getX fld fs es with
          | none => rw [gx] at h; exact h.elim
          | some dv =>
            rw [gx] at h
            dsimp only at h
            cases rp : reprD dv with
            | none => rw [rp] at h; exact h.elim
            | some z =>
              rw [rp] at h
              dsimp only at h
              split at h
              case isFalse => exact h.elim
              rename_i lz
              have rs := R.repsH
              obtain ⟨r1, _⟩ := Reps.split h2.symm rs
              rcases h3 with e0 | ⟨l1, dd, e1, e2⟩
              · subst e0; cases es <;> cases gx
              · obtain ⟨v, v1, v2⟩ := get_zip l1 r1 gx
                have hl : i < σ.length := by rw [← R.len]; exact ec.2
                refine ⟨List.getElem?_set_self hl, rfl, dd, _, v, dv, z, e1, e2, v1, by rw [← (hMs M hM).1, ← (hMs M hM).2]; exact v2, rp, lz, ?_⟩
                exact h _ σ H ((R.drops h2).push fun _ => rfl)
theorem ss_try (hst : X.stack = X.env :: X.outer) (hf : X.env.frame = some X.env.locals) (tk : Takes X W) (hg : X.A.guards = some []) (hu : X.A.units + 64 < cLine) (hk : M.K = X.K)
    (hb : ∀ (W' : WX) (pn : List (Addr × Obj)) (xe : Value → Shared → Prop), Takes (X.tr pn xe) W' → PassesOwn (model X.prog X.w) X.A X.env xe → SSs (X.tr pn xe) M W' body fb) (hh : HdsD X M.cl (· = M) (h₀ :: hds) hs) :
    SS X M W (.Try body (h₀ :: hds) [] [] pos) (fTry fb hs) := by
  obtain ⟨l, m, k⟩ := hds_run hg hu (fun M' e => by subst e; exact ⟨hk, rfl⟩) hh
  refine ps_imp (ps_try_mix hst hf tk (fun W' pn xe t p => hb W' pn xe t p) m) fun Dn σ H ⟨an, ρ, ts, ds, R, h⟩ => ?_
  refine ⟨an, ρ, ts, ds, R, ?_⟩
  unfold fTry at h
  cases q : fb ρ with
  | stuck => rw [q] at h; exact h
  | ok fl ρ1 => rw [q] at h; cases fl <;> exact h
  | err c fs es ρ1 =>
    rw [q] at h
    exact fun σ1 C dx H' vs h1 h2 h3 R' => k M rfl W Dn an ts ds c fs es ρ1 h C dx H' vs σ1 h1 h2 h3.w (fun _ => h3) R'
end
end Dl
end
section
set_option maxHeartbeats 4000000
/-! DlX: a def that catches what a lambda raises. -/
namespace Dl
open PySem PySem.Spec PyProof.Rows L2 LamX
section
variable {X : Cx} {pins : List (Addr × Obj)} {σ : St} {H : Hp} {s : Shared}
/-- the frame of the def that got the lambda -/
abbrev gEnv (X : Cx) (x : Str) (sg : Scope) (g : Addr) (cdg : Value) (s : Shared) : Env := envOfC x sg s.heap.objs.size g cdg
abbrev gCx (X : Cx) (Ng : List Str) (x : Str) (sg : Scope) (g : Addr) (cdg : Value) (s : Shared) (H : Hp) : Cx := cxOf (L2.CX X.prog X.w) X.prog X.w X.K X.mg X.base Ng x sg g cdg X.A X.stack s H E0
/-- the lambda's call, where it stands -/
theorem actG {Ng : List Str} {x : Str} {sg : Scope} {g f c' : Addr} {cdg pm ctv : Value} {params : Arguments} {body : Expr} {scope : Scope} {k i : Nat} {a : Str} {pn : List (Addr × Obj)} {xe : Value → Shared → Prop} {W : WX} {tb : XK → TE} {p1 p2 : Pos}
    (I : Inv X pins σ H s) (L : LamS X.env.scope scope) (fo : s.heap.get? f = some (PySem.W.kla_obj "<lambda>" (X.env.qual ++ "<lambda>") params body scope (cloFrom X.env.cells scope.names []) pm c' ctv)) (fn : H f = none) (ff : f ∉ frs X.stack)
    (bd : bindArgs (PySem.W.kla_fn "<lambda>" (X.env.qual ++ "<lambda>") params body scope (cloFrom X.env.cells scope.names []) pm (.ref c') ctv) ⟨[], []⟩ = pure [])
    (tk : Takes ((gCx X Ng x sg g cdg s H).tr pn xe) W) (rm : RoomG (k + 1) (X.A.deeper (gEnv X x sg g cdg s)))
    (hb : ∀ (E : XK) (s1 : Shared) (H1 : Hp), RoomG k ((X.A.deeper (gEnv X x sg g cdg s)).deeper (lamEnv X scope s1.heap.objs.size f c')) → PE (lamCx X (X.A.deeper (gEnv X x sg g cdg s)) (gEnv X x sg g cdg s :: X.stack) s1 H1 E scope f c') body (tb E))
    (hN : Ng[i]? = some a) (hv : Vis sg a) (hd : (a == ("__debug__" : Str)) = false) (hcd : (a == ("__classdict__" : Str)) = false) :
    PE ((gCx X Ng x sg g cdg s H).tr pn xe) (.Call (.Name a p1) [] [] p2) (fun σZ HZ Q => σZ[i]? = some (some (.ref f)) ∧ HZ c' = some (CodeO c' (X.env.qual ++ "<lambda>")) ∧ tb (WE W σZ) σ HZ Q) := by
  refine ⟨fun pz sz σz Hz Q IZ ⟨z1, z2, z3⟩ => wpAny_Call_Name_kw (thn ((pe_var (pos := p1) (i := i) hN hv hd hcd).run pz sz σz Hz (fun v H1 => v = .ref f ∧ H1 = Hz) IZ ⟨.ref f, z1, rfl, rfl⟩) fun u t1 ⟨v, H1, J, ru, ev, eH⟩ => ?_)⟩
  subst ev eH
  cases (show u = Value.ref f from ru)
  have fo1 := J.base.keep f _ fo fn ff (List.not_mem_nil)
  obtain ⟨⟨oc, vs, t, c1, c2, c3⟩, _, _⟩ := J.hok c' _ z2
  have rc : codeAny (model X.prog X.w) (X.A.deeper (gEnv X x sg g cdg s)) (.call (.ref f) ⟨[], []⟩) (CR (L2.CX X.prog X.w) (gEnv X x sg g cdg s :: X.stack) X.prog X.w H1 t1 Q (WE W σz)) t1 := by
    refine PySem.W.kla_callFunE rm.r.depth fo1 rfl L.co L.gen rfl ⟨c', oc, vs, t, rfl, c1, c2, c3⟩ ?_
    rw [bd]
    refine wpAny_pure (wpAny_newFunctionEnv (fun y hy => (L.own y hy).2) (fun y hy => absurd hy List.not_mem_nil) (fun h1 ns sb => ⟨J.nolimit.fresh _ sb, ?_⟩) L.kind)
    have kp : ∀ b o, t1.heap.get? b = some o → h1.get? b = some o := fun b o q => sb.extBut b o (Nat.ne_of_lt (Heap.lt_size q)) (Heap.get?_push_of_some _ q)
    have J1 := lam_start2 (tk := t1.toks + ([] : List (Str × Value)).length) (E := WE W σz) (f := f) (c' := c') I L J.env0 rm.r.hd J.base ns kp
    exact PySem.W.kla_codeExpr (wpAny_mono ((hb _ t1 H1 ⟨rm.r.deeper _, rm.g⟩).run [] _ _ H1 Q J1 z3) (fun v s' ⟨y, H', J', rv, q⟩ => ⟨y, H', J'.os, J'.bare, J'.base, J'.hok, rv, q⟩) fun _ _ q => q)
  refine PySem.W.callWith_F0 ⟨_, _, _, _, fo1⟩ (wpAny_call (codeAny_mono rc fun rr s2 e => ?_))
  have q := endG (X := (gCx X Ng x sg g cdg s H).tr pn xe) J (Q' := Q) (fun _ _ z => z) rr e (fun er c => passAt tk σz pz H1 t1 er s2 J c)
  rcases rr with er | fl
  · exact q
  · rcases fl with _ | _ | _ | u
    all_goals exact q
/-- what the def that got it makes of the lambda's reading -/
def GivesG (X : Cx) (Ng : List Str) (x : Str) (sg : Scope) (g : Addr) (cdg : Value) (bg : List Stmt) (a q : Str) (TT : (XK → Hp → VK → Prop) → Hp → VK → Prop) : Prop :=
  ∀ (f c' : Addr) (s : Shared) (H : Hp) (Q : VK) (tl : XK → Hp → VK → Prop), (X.A.deeper (gEnv X x sg g cdg s)).guards = some [] →
    (∀ (W : WX) (pn : List (Addr × Obj)) (xe : Value → Shared → Prop) (p1 p2 : Pos), Takes ((gCx X Ng x sg g cdg s H).tr pn xe) W →
      PE ((gCx X Ng x sg g cdg s H).tr pn xe) (.Call (.Name a p1) [] [] p2) (fun σZ HZ Q => σZ[0]? = some (some (.ref f)) ∧ HZ c' = some (CodeO c' q) ∧ tl (WE W σZ) HZ Q)) →
    H c' = some (CodeO c' q) → TT tl H Q → ∃ t, PSs (gCx X Ng x sg g cdg s H) bg t ∧ t { nx := fun _ H' => Q .non H', rt := Q } (L2.start Ng [.ref f]) H
/-- x(lambda: body) -/
theorem pe_lamG {T : List (Addr × Str)} {TT : (XK → Hp → VK → Prop) → Hp → VK → Prop} {x a : Str} {g c P : Addr} {k : Nat} {pg : Arguments} {bg : List Stmt} {sg : Scope} {dV kV doc pm cdv ct oc : Value} {an od : Option Addr} {osl : Array (Option Value)} {Ng : List Str}
    {params : Arguments} {body : Expr} {scope : Scope} {t : XK → TE} {p lpos pos : Pos} (hg : Gl X x) (hm : X.mg x = some (.ref g)) (hk : PySem.W.keepIn X.K (.ref g) = true)
    (lk : X.K.lookup g = some ⟨oc, od, .func (PySem.W.fnOf x x pg bg sg dV kV doc pm an cdv ct), osl⟩) (hcg : PySem.W.codeIn X.K cdv x = true) (hb : L2.Binds X.K (PySem.W.fnOf x x pg bg sg dV kV doc pm an cdv ct) [a] []) (Sg : FnScope Ng [a] sg) (hNg : Ng[0]? = some a) (hva : Vis sg a)
    (hG : GivesG X Ng x sg g cdv bg a (X.env.qual ++ "<lambda>") TT)
    (TB : TabB X.base X.mg c P) (hcode : X.env.code = .ref c) (hmT : (P, X.env.qual ++ "<lambda>") ∈ T) (hu : ∀ p ∈ T, p.1 = P → p.2 = X.env.qual ++ "<lambda>") (rm : RoomG (k + 2) X.A) (L : LamS X.env.scope scope) (hdef : defaultsOf params X.env = ([], []))
    (hbind : ∀ (q : Str) (cl : List (Str × Addr)) (pm cv ctv : Value), bindArgs (PySem.W.kla_fn "<lambda>" q params body scope cl pm cv ctv) ⟨[], []⟩ = pure [])
    (hbody : ∀ (A : Around) (outer : List Env) (s : Shared) (H : Hp) (E : XK) (f c' : Addr), RoomG k (A.deeper (lamEnv X scope s.heap.objs.size f c')) → PE (lamCx X A outer s H E scope f c') body (t E))
    (hdb : (x == ("__debug__" : Str)) = false) (hd : (a == ("__debug__" : Str)) = false) (hcd : (a == ("__classdict__" : Str)) = false) : PE X (.Call (.Name x p) [.Lambda params body scope lpos] [] pos) (tLam T TT t) := by
  refine ⟨fun pins s σ H Q I ⟨hT, h⟩ => wpAny_Call_Name_kw (ld_glob I hg hm (PySem.W.callWith_K (h₀ := X.base) I.ok.mod.kin hk ?_ (by rfl) (by rfl)) hdb)⟩
  show wpAny _ _ (spliced ((false, eval (.Lambda params body scope lpos) X.env) :: backTo pos (starEach [] X.env))) _ _ s
  refine Calls.spliced_cons (lam_make2 I TB hcode hmT hu hT hdef (L.has I.ok) fun f c' pm' ctv H1 s' I1 eN T1 fo fn ff hco => Calls.spliced_nil ⟨I1.kIn, ?_⟩)
  refine wpAny_call (codeAny_mono (run_ofS (CX := L2.CX X.prog X.w) (E := E0) (Q := Q) (N := Ng) (ps := [a]) (us := [.ref f]) (vs := [.ref f]) lk hcg Sg rm.r I1.env0 (hb s' [.ref f] I1.kIn rfl) (.cons rfl .nil) rfl fun r1 =>
    hG f c' s' H1 Q (fun E H' Q' => t E σ H' Q') rm.g (fun W pn xe p1 p2 tk => actG (tb := fun E => t E) (i := 0) I1 L fo fn ff (hbind _ _ _ _ _) tk ⟨r1, rm.g⟩ (fun E s1 H2 r2 => hbody _ _ s1 H2 E f c' r2) hNg hva hd hcd) hco (h H1 eN T1)) fun r s2 e => ?_)
  rcases r with er | fl
  · exact (no_exc e).elim
  · rcases fl with _ | _ | _ | u
    all_goals first | exact I1.after e | exact False.elim e
end
end Dl
end
section
set_option maxHeartbeats 4000000
/-! DlY: x(lambda: e) on trees, x a def that calls what it gets within a try. -/
namespace Dl
open PySem PySem.Spec PyProof.Rows L2 LamX
section
variable {M : Mc} {an : List (Addr × D)} {ρ : En} {σ : St} {H H' : Hp} {ts : List V} {ds : List D}
/-- only tables have changed -/
theorem RelX.extN (R : RelX M an ρ σ H ts ds) (e : ExtN H H') (t : Tabs M.cl.T H') : RelX M an ρ σ H' ts ds := by
  obtain ⟨G, own, r⟩ := R
  have k : ∀ {b : Addr} {o : HO}, H b = some o → Plain o → H' b = some o := fun h p => e _ _ h p.1
  have sb : Sub G H' := fun b o q => e _ _ (r.sub b o q) fun ps z => r.ntb b ps (z ▸ q)
  refine ⟨G, own, { r with sub := sb, ext := fun b o q w n => e _ _ (r.ext b o q w n) n, tab := t, wok := fun b w => let ⟨o, q, p⟩ := r.wok b w; ⟨o, k q p, p⟩, owp := fun i d h => ?_, bop := fun i d h => ?_, anp := fun p h => ?_ }⟩
  · obtain ⟨a, b, c, d⟩ := r.owp i d h
    exact ⟨a, b.mono Sub.rfl' fun o q => k q (b.plain q), c, d⟩
  · obtain ⟨a, b, c, d⟩ := r.bop i d h
    exact ⟨a, b.mono Sub.rfl' fun o q => k q (b.plain q), c, d⟩
  · obtain ⟨a, b, c⟩ := r.anp p h
    exact ⟨a.mono Sub.rfl' fun o q => k q (a.plain q), b, c⟩
/-- the frame of a def that was called here, seen from now on -/
abbrev Mg (M : Mc) (H0 G0 : Hp) : Mc := ⟨M.K, M.cl, H0, G0, [], fun _ => 0, []⟩
def Ms (M : Mc) : Mc → Prop := fun M' => ∃ H0 G0, M' = Mg M H0 G0
theorem RelG.fresh {G : Hp} {own : Nat → Addr} (r : RelG M an ρ σ H ts ds G own) {n : Nat} {σ0 : St} (l : σ0.length = n) {us : List V} {es : List D} (h : Reps M.K M.cl G es us) : RelX (Mg M H G) [] (List.replicate n none) σ0 H us es := by
  have no : ∀ {i : Nat} {x : Sl}, (List.replicate n (none : Option Sl))[i]? ≠ some (some x) := fun {i x} e => by
    rw [List.getElem?_replicate] at e
    split at e
    · cases e
    · cases e
  have noO : ∀ i, ¬ IsOw (List.replicate n (none : Option Sl)) i := fun i ⟨d, e⟩ => e.elim no no
  exact ⟨G, fun _ => 0, { sub := r.sub, g0 := Sub.rfl', fr := fun a h1 h2 => absurd h2 h1, ext := fun _ _ e _ _ => e, tab := r.tab, ntb := r.ntb, pin := fun _ z => (nomatch z), wok := fun _ z => absurd z List.not_mem_nil, shp := fun i d e => absurd e no, owp := fun i d e => absurd e no, bop := fun i d e => absurd e no, anp := fun _ z => absurd z List.not_mem_nil, inj := fun i _ h => absurd h (noO i), apart := fun i h => absurd h (noO i), anN := List.nodup_nil, len := by rw [l, List.length_replicate], tmp := h }⟩
/-- back from that frame -/
theorem RelG.backG {G G' : Hp} {own own' : Nat → Addr} {an' : List (Addr × D)} {ρ' : En} {σ' : St} {us us' : List V} {es es' : List D} (r : RelG M an ρ σ H us es G own) (q : RelG (Mg M H G) an' ρ' σ' H' us' es' G' own') (h : Reps M.K M.cl G' ds ts) : RelX M an ρ σ H' ts ds :=
  ⟨G', own, r.called (RelG.after (K := M.K) (cl := M.cl) q) (fun _ z => absurd z List.not_mem_nil) (fun _ z => absurd z List.not_mem_nil) (fun _ _ e => .inl ⟨e, fun _ => List.not_mem_nil⟩) rfl rfl (fun _ h => .inl ⟨h, List.not_mem_nil⟩) h⟩
end
def lamR (r : Rs Fl) (ρ1 : En) : Rs D := match r with
  | .ok (.ret d) _ => .ok d ρ1
  | _ => .stuck
/-- try: call() / except ..; rest -/
def fLamE (n : Nat) (hs : List Hd) (fr : En → Rs Fl) (fb : En → Rs D) : En → Rs D := fun ρ => match fb ρ with
  | .ok _ ρ1 => lamR (fr (List.replicate n none)) ρ1
  | .err c fs es ρ1 => lamR (runH hs c fs es (List.replicate n none)) ρ1
  | .stuck => .stuck
/-- try: return k(call()) / except .. -/
def fLamR (n : Nat) (hs : List Hd) (k : D → Option D) (fb : En → Rs D) : En → Rs D := fun ρ => match fb ρ with
  | .ok d ρ1 => (match k d with
    | some d => .ok d ρ1
    | none => .stuck)
  | .err c fs es ρ1 => lamR (runH hs c fs es (List.replicate n none)) ρ1
  | .stuck => .stuck
section
variable {M : Mc} {an : List (Addr × D)} {ρ : En} {σ : St} {H H' : Hp} {ts : List V} {ds : List D}
/-- a block of that frame that returns -/
theorem lamR_end {G : Hp} {own : Nat → Addr} {W : WX} {σc : St} {r : Rs Fl} {ρ1 : En} {Q : VK} {us : List V} {es : List D} (R : RelG M an ρ1 σc H' us es G own) (h : Reps M.K M.cl G ds ts) (q : EOk M an ts ds W σc (lamR r ρ1) Q) (Dn : Ends) (hd : Dn.rt = Q) :
    SOk (Mg M H' G) [] [] [] W0 r Dn ∧ isE r = false := by
  cases r with
  | stuck => exact q.elim
  | err _ _ _ _ => exact q.elim
  | ok fl ρ2 =>
    cases fl with
    | ret d =>
      refine ⟨fun v σ2 H2 R2 => ?_, rfl⟩
      obtain ⟨G2, own2, r2⟩ := R2
      rw [hd]
      exact q v H2 (R.backG r2 (Reps.cons r2.tmp.head (h.mono r2.g0)))
    | nx => exact q.elim
    | brk => exact q.elim
    | cont => exact q.elim
    | retL d => exact q.elim
end
/-- how such a def lies in the text: its frame's names, its clauses, for every entry -/
structure Cat (X : Cx) (M : Mc) (x a : Str) (Ng : List Str) (sg : Scope) (g : Addr) (cdg : Value) (h₀ : ExceptHandler) (hds : List ExceptHandler) (hs : List Hd) : Prop where
  hh : ∀ (s : Shared) (H : Hp), HdsD (gCx X Ng x sg g cdg s H) M.cl (Ms M) (h₀ :: hds) hs
  hu : X.A.units + 3 + 64 < cLine
section
variable {X : Cx} {M : Mc} {W : WX} {x a : Str} {Ng : List Str} {sg : Scope} {g : Addr} {cdg : Value} {h₀ : ExceptHandler} {hds : List ExceptHandler} {hs : List Hd} {q : Str} {fb : En → Rs D} {p1 p2 p3 tpos : Pos} {rest : List Stmt} {fr : En → Rs Fl}
/-- the lambda's reading, the relation and the end of the whole -/
def TTl (M : Mc) (W : WX) (fb fl : En → Rs D) : (XK → Hp → VK → Prop) → Hp → VK → Prop := fun tl H Q => ∃ an ρ ts ds σ, RelX M an ρ σ H ts ds ∧ (tl = fun E H' Q' => tE M (fun cls d _ H => E cls d H) fb σ H' Q') ∧ EOk M an ts ds W σ (fl ρ) Q
theorem start1_len {f : Addr} (h : Ng[0]? = some a) : (L2.start Ng [.ref f]).length = Ng.length := start_len (by have := (List.getElem?_eq_some_iff.mp h).1; simp; omega)
theorem start1_get {f : Addr} : (L2.start Ng [.ref f])[0]? = some (some (.ref f)) := start_get rfl
theorem catE (hk : M.K = X.K) (C : Cat X M x a Ng sg g cdg h₀ hds hs) (hN : Ng[0]? = some a) (hr : ∀ (s : Shared) (H : Hp) (M' : Mc), Ms M M' → SSs (gCx X Ng x sg g cdg s H) M' W0 rest fr)
    (hsw : ∀ (s : Shared) (H : Hp) (pn : List (Addr × Obj)) (xe : Value → Shared → Prop), swapsWith (.Call (.Name a p1) [] [] p2) none p3.line ((gCx X Ng x sg g cdg s H).tr pn xe).env = pure false) :
    GivesG X Ng x sg g cdg (.Try [.Expr (.Call (.Name a p1) [] [] p2) p3] (h₀ :: hds) [] [] tpos :: rest) a q (TTl M W fb (fLamE Ng.length hs fr fb)) := by
  intro f c' s H Q tl gd act hc ⟨an, ρ, ts, ds, σc, R, etl, h⟩
  subst etl
  obtain ⟨l, m, k⟩ := hds_run (X := gCx X Ng x sg g cdg s H) gd C.hu (fun M' ⟨_, _, e⟩ => by subst e; exact ⟨hk, rfl⟩) (C.hh s H)
  have hrest : PSs (gCx X Ng x sg g cdg s H) rest (fun Dn σ H => ∃ M', Ms M M' ∧ tSt M' W0 fr Dn σ H) := ⟨fun pins s1 σ1 H1 Dn I ⟨M', hM, z⟩ => (hr s H M' hM).run pins s1 σ1 H1 Dn I z⟩
  refine ⟨_, pss_cons (ps_try_mix rfl rfl L2.takes0 (fun W' pn xe tk _ => pss_one (ps_expr (act W' pn xe p1 p2 tk) (hsw s H pn xe))) m) hrest, ?_⟩
  refine ⟨start1_get, hc, an, ρ, ts, ds, R, ?_⟩
  unfold fLamE at h
  cases hb : fb ρ with
  | stuck => rw [hb] at h; exact h.elim
  | ok d ρ1 =>
    rw [hb] at h
    intro v H' R'
    obtain ⟨G, own, r⟩ := R'
    have z := lamR_end r r.tmp.tail h { nx := fun _ H' => Q .non H', rt := Q } rfl
    exact ⟨_, ⟨_, _, rfl⟩, [], _, [], [], r.fresh (start1_len hN) Reps.nil, z.1⟩
  | err c fs es ρ1 =>
    rw [hb] at h
    intro C' dx H' vs h1 h2 h3 R'
    obtain ⟨G, own, r⟩ := R'
    have t := Reps.split h2.symm r.tmp
    have z := lamR_end r t.2 h
    exact k _ ⟨_, _, rfl⟩ _ _ [] [] [] c fs es _ (z _ rfl).1 C' dx H' vs _ h1 h2 h3.w (fun e => by rw [(z ⟨fun _ _ => True, Q, fun _ _ => True, fun _ _ => True⟩ rfl).2] at e; cases e) (r.fresh (start1_len hN) (by simpa using t.1))
theorem catR (hk : M.K = X.K) (C : Cat X M x a Ng sg g cdg h₀ hds hs) (hN : Ng[0]? = some a) :
    GivesG X Ng x sg g cdg [.Try [.Return (some (.Call (.Name a p1) [] [] p2)) p3] (h₀ :: hds) [] [] tpos] a q (TTl M W fb (fLamR Ng.length hs some fb)) := by
  intro f c' s H Q tl gd act hc ⟨an, ρ, ts, ds, σc, R, etl, h⟩
  subst etl
  obtain ⟨l, m, k⟩ := hds_run (X := gCx X Ng x sg g cdg s H) gd C.hu (fun M' ⟨_, _, e⟩ => by subst e; exact ⟨hk, rfl⟩) (C.hh s H)
  refine ⟨_, pss_one (ps_try_mix rfl rfl L2.takes0 (fun W' pn xe tk _ => pss_one (ps_ret (act W' pn xe p1 p2 tk))) m), ?_⟩
  refine ⟨start1_get, hc, an, ρ, ts, ds, R, ?_⟩
  unfold fLamR at h
  cases hb : fb ρ with
  | stuck => rw [hb] at h; exact h.elim
  | ok d ρ1 => rw [hb] at h; exact h
  | err c fs es ρ1 =>
    rw [hb] at h
    intro C' dx H' vs h1 h2 h3 R'
    obtain ⟨G, own, r⟩ := R'
    have t := Reps.split h2.symm r.tmp
    have z := lamR_end r t.2 h
    exact k _ ⟨_, _, rfl⟩ _ _ [] [] [] c fs es _ (z _ rfl).1 C' dx H' vs _ h1 h2 h3.w (fun e => by rw [(z ⟨fun _ _ => True, Q, fun _ _ => True, fun _ _ => True⟩ rfl).2] at e; cases e) (r.fresh (start1_len hN) (by simpa using t.1))
/-- the property of what comes -/
def kProp (c : Str) (F : List D → Fr) (d : D) : Option D := if isI c Str.empty d = true then (match F [d] with
  | .ok r [] => some r
  | _ => none) else none
theorem catP {c n : Str} {C1 p f1 : Addr} {F : List D → Fr} {fd : FuncData} {ps : List Str} {j : Nat} {p4 : Pos} (hk : M.K = X.K) (C : Cat X M x a Ng sg g cdg h₀ hds hs) (hN : Ng[0]? = some a) (hc1 : ClsN X.K M.cl c C1) (hp : PropOf X.K C1 n p f1)
    (Fk : FnG X.prog X.w X.K X.mg X.base (L2.CX X.prog X.w) j f1 fd ps (spF M.K M.cl [false] F)) (hrm : RoomG (j + 2) X.A) (bd : Binds X.K fd ps [])
    (ab : ∀ (s : Shared) (H : Hp) (pn : List (Addr × Obj)) (xe : Value → Shared → Prop), attributeBase (.Call (.Name a p1) [] [] p2) n ((gCx X Ng x sg g cdg s H).tr pn xe).env (eval (.Call (.Name a p1) [] [] p2) ((gCx X Ng x sg g cdg s H).tr pn xe).env) = eval (.Call (.Name a p1) [] [] p2) ((gCx X Ng x sg g cdg s H).tr pn xe).env) :
    GivesG X Ng x sg g cdg [.Try [.Return (some (.Attribute (.Call (.Name a p1) [] [] p2) n p4)) p3] (h₀ :: hds) [] [] tpos] a q (TTl M W fb (fLamR Ng.length hs (kProp c F) fb)) := by
  intro f c' s H Q tl gd act hc ⟨an, ρ, ts, ds, σc, R, etl, h⟩
  subst etl
  obtain ⟨l, m, k⟩ := hds_run (X := gCx X Ng x sg g cdg s H) gd C.hu (fun M' ⟨_, _, e⟩ => by subst e; exact ⟨hk, rfl⟩) (C.hh s H)
  refine ⟨_, pss_one (ps_try_mix rfl rfl L2.takes0 (fun W' pn xe tk _ => pss_one (ps_ret (pe_propG (X := (gCx X Ng x sg g cdg s H).tr pn xe) (act W' pn xe p1 p2 tk) hc1.cls hp Fk ⟨hrm.r.deeper _, gd⟩ bd (ab s H pn xe)))) m), ?_⟩
  refine ⟨start1_get, hc, an, ρ, ts, ds, R, ?_⟩
  unfold fLamR at h
  cases hb : fb ρ with
  | stuck => rw [hb] at h; exact h.elim
  | ok d ρ1 =>
    rw [hb] at h
    dsimp only at h
    intro v H' R'
    unfold kProp at h
    by_cases hi : isI c Str.empty d = true
    · rw [if_pos hi] at h
      obtain ⟨G, sb, rp⟩ := R'.rep
      obtain ⟨a1, dx, fs, ev, eG, el⟩ := isI_at hi hc1.at_ rp
      refine ⟨a1, dx, fs, ev, sb _ _ eG, ?_⟩
      subst ev
      refine call_end (as := [none]) (ws := [.ref a1]) (es := [d]) (Wx := W0) (E := E0) (by exact List.nodup_nil) (fun _ _ _ h => h.elim) ⟨_, [], [], rfl, rfl, rfl, rfl⟩ rfl R' ?_
      unfold fFn Rs.bind
      dsimp only [mixD, Option.map]
      cases hF : F [d] with
      | stuck => rw [hF] at h; exact h.elim
      | err _ _ _ _ => rw [hF] at h; exact h.elim
      | ok r bs =>
        rw [hF] at h
        cases bs with
        | nil => exact h
        | cons _ _ => exact h.elim
    · rw [if_neg hi] at h; exact h.elim
  | err c fs es ρ1 =>
    rw [hb] at h
    intro C' dx H' vs h1 h2 h3 R'
    obtain ⟨G, own, r⟩ := R'
    have t := Reps.split h2.symm r.tmp
    have z := lamR_end r t.2 h
    exact k _ ⟨_, _, rfl⟩ _ _ [] [] [] c fs es _ (z _ rfl).1 C' dx H' vs _ h1 h2 h3.w (fun e => by rw [(z ⟨fun _ _ => True, Q, fun _ _ => True, fun _ _ => True⟩ rfl).2] at e; cases e) (r.fresh (start1_len hN) (by simpa using t.1))
end
end Dl
end
section
set_option maxHeartbeats 4000000
/-! DlZ: x(lambda: e); d.get(k, x); {k: v, ..}; xs[a:b] = ys. -/
namespace Dl
open PySem PySem.Spec PyProof.Rows L2 LamX
section
variable {X : Cx} {M : Mc} {W : WX} {x a : Str} {g c P : Addr} {stg : Stmt} {fdg : FuncData} {Ng : List Str} {params : Arguments} {body : Expr} {scope : Scope} {p lpos pos : Pos} {fb fl : En → Rs D} {k : Nat}
theorem se_lam (Fg : Fun X.K x x stg g fdg) (bg : L2.Binds X.K fdg [a] []) (Sg : FnScope Ng [a] (defScope stg)) (hm : X.mg x = some (.ref g)) (hG : ∀ cdv, GivesG X Ng x (defScope stg) g cdv (defBody stg) a (X.env.qual ++ "<lambda>") (TTl M W fb fl))
    (TB : TabB X.base X.mg c P) (hcode : X.env.code = .ref c) (hmT : (P, X.env.qual ++ "<lambda>") ∈ M.cl.T) (hu : ∀ p ∈ M.cl.T, p.1 = P → p.2 = X.env.qual ++ "<lambda>") (rm : RoomG (k + 2) X.A) (L : LamS X.env.scope scope)
    (hbody : ∀ (A : Around) (outer : List Env) (s : Shared) (H : Hp) (E : XK) (f c' : Addr), RoomG k (A.deeper (lamEnv X scope s.heap.objs.size f c')) → SE (lamCx X A outer s H E scope f c') M (fun cls d _ H => E cls d H) body fb)
    (hva : Vis (defScope stg) a := by first | exact Or.inl rfl | exact Or.inr (Or.inl rfl)) (hNg : Ng[0]? = some a := by rfl) (hg : Gl X x := by rfl) (hdef : defaultsOf params X.env = ([], []) := by rfl)
    (hbind : ∀ (q : Str) (cl : List (Str × Addr)) (pm cv ctv : Value), bindArgs (PySem.W.kla_fn "<lambda>" q params body scope cl pm cv ctv) ⟨[], []⟩ = pure [] := by intro _ _ _ _ _; rfl)
    (hdb : (x == ("__debug__" : Str)) = false := by decide) (hd : (a == ("__debug__" : Str)) = false := by decide) (hcd : (a == ("__classdict__" : Str)) = false := by decide) :
    SE X M W (.Call (.Name x p) [.Lambda params body scope lpos] [] pos) fl := by
  obtain ⟨oc, od, kV, doc, pm, an, cdv, ct, osl, rfl, lk, hcd2⟩ := Fg.ex
  refine pe_imp (pe_lamG (T := M.cl.T) (TT := TTl M W fb fl) (t := fun E => tE M (fun cls d _ H => E cls d H) fb) hg hm Fg.kp lk hcd2 bg Sg hNg hva (hG cdv) TB hcode hmT hu rm L hdef hbind hbody hdb hd hcd) fun σ H Q ⟨an, ρ, ts, ds, R, h⟩ => ?_
  obtain ⟨G, own, r⟩ := id R
  exact ⟨r.tab, fun H1 e t => ⟨an, ρ, ts, ds, σ, R.extN e t, rfl, h⟩⟩
end
/-! ### d.get(k, x) -/
def fGet2 (fo fk fx : En → Rs D) : En → Rs D := fun ρ => (fo ρ).bind fun d ρ1 => (match d with
  | .dic _ _ => (fk ρ1).bind fun k ρ2 => (fx ρ2).bind fun x ρ3 => (match d, keyOf k with
    | .dic ks ds, some k => .ok ((dVal ks ds k).getD x) ρ3
    | _, _ => .stuck)
  | _ => .stuck)
section
variable {X : Cx} {M : Mc} {W : WX} {o e f : Expr} {fo fk fx : En → Rs D} {apos cpos : Pos}
theorem dVal_none {K : PySem.W.Frag} {cl : Cl} {G : Hp} {k : Key} : ∀ {ks : List Key} {ds : List D} {vs : List V}, ks.length = vs.length → Reps K cl G ds vs → dVal ks ds k = none → valV (ks.zip vs) k = none
  | [], _, _, _, _, _ => by simp [valV]
  | _ :: _, [], _, l, r, _ => by cases (show _ = [] from r); simp at l
  | j :: ks, d :: ds, _, l, ⟨v, r, ev, h1, h2⟩, e => by
    subst ev
    unfold dVal at e
    split at e
    · cases e
    · rename_i n
      have := dVal_none (k := k) (by simpa using l) h2 e
      unfold valV at this ⊢
      rw [List.zip_cons_cons, List.find?_cons_of_neg (by simpa using n)]
      exact this
theorem se_get2 (hk : M.K = X.K) (hu : X.A.units + 1 < cLine) (ho : SE X M W o fo) (he : SE X M W e fk) (hf : SE X M W f fx) (m : M2 X o "get" apos e f cpos := by exact ⟨rfl, by with_unfolding_all rfl, by with_unfolding_all rfl, rfl⟩) : SE X M W (.Call (.Attribute o "get" apos) [e, f] [] cpos) (fGet2 fo fk fx) := by
  refine pe_imp (pe_dget2 hu ho he hf m) fun σ H Q ⟨an, ρ, ts, ds, R, h⟩ => ?_
  refine ⟨an, ρ, ts, ds, R, EOk.bind (P := fun z => EOk M an ts ds W σ z Q) h (fun _ _ _ _ z => z) (fun z => z) fun d ρ1 v H1 R1 h1 => ?_⟩
  cases d with
  | dic ks dv =>
    obtain ⟨pa, vs, rfl, g, l, rp⟩ := R1.repH
    refine ⟨pa, rfl, .inl ⟨_, .inl g⟩, an, ρ1, _ :: ts, _ :: ds, R1, EOk.bind (P := fun z => EOk M an ts ds W σ z Q) h1 (fun _ _ _ _ z => z.weak1) (fun z => z) fun k ρ2 v2 H2 R2 h2 => ?_⟩
    refine ⟨an, ρ2, _, _, R2, EOk.bind (P := fun z => EOk M an ts ds W σ z Q) h2 (fun _ _ _ _ z => z.weak1.weak1) (fun z => z) fun y ρ3 v3 H3 R3 h3 => ?_⟩
    cases q : keyOf k with
    | none => rw [q] at h3; exact h3.elim
    | some kk =>
      rw [q] at h3
      dsimp only at h3
      have rr := R3.repsH
      have ek := keyOf_v q rr.tail.head
      subst ek
      obtain ⟨pb, us, eb, g3, l3, rp3⟩ := rr.tail.tail.head
      cases eb
      refine ⟨_, DGet.k (k := kk) g3, ?_⟩
      cases qd : dVal ks dv kk with
      | none =>
        rw [qd] at h3
        rw [dVal_none l3 rp3 qd]
        exact h3 _ _ (R3.temps fun G _ z => Reps.cons z.head z.tail.tail.tail)
      | some dd =>
        rw [qd] at h3
        have h4 := R3.temps (us := [.ref pa]) (es := [.dic ks dv]) fun G _ z => Reps.cons z.tail.tail.head Reps.nil
        obtain ⟨v0, e0, _⟩ := dVal_rep l3 rp3 qd
        rw [e0]
        refine h3 _ _ (R3.temps fun G s z => ?_)
        obtain ⟨pc, ws, ec, g4, l4, rp4⟩ := z.tail.tail.head
        cases ec
        have g5 := s _ _ g4
        rw [g3] at g5
        obtain ⟨v1, e1, r1⟩ := dVal_rep l4 rp4 qd
        have e2 : ks.zip us = ks.zip ws := by injection g5 with g6; injection g6
        rw [← e2, e0] at e1
        cases e1
        exact Reps.cons r1 z.tail.tail.tail
  | _ => exact h1.elim
end
/-! ### {k: v, ..} -/
abbrev Fp := (En → Rs D) × (En → Rs D)
def fPrs : List Fp → En → Rs (List D)
  | [], ρ => .ok [] ρ
  | f :: r, ρ => (f.1 ρ).bind fun k ρ1 => (f.2 ρ1).bind fun v ρ2 => (fPrs r ρ2).bind fun l ρ3 => .ok (k :: v :: l) ρ3
def asK2 : List D → Option (List (Key × D))
  | [] => some []
  | k :: d :: ds => (keyOf k).bind fun k => (asK2 ds).map ((k, d) :: ·)
  | _ => none
def fDisp (fs : List Fp) : En → Rs D := fun ρ => (fPrs fs ρ).bind fun l ρ1 => match asK2 l with
  | some kd => if kd.length ≤ 15 then .ok (.dic (mrgD kd [] []).1 (mrgD kd [] []).2) ρ1 else .stuck
  | none => .stuck
inductive SPs (X : Cx) (M : Mc) (W : WX) (pos : Pos) : List (Option Expr) → List Expr → List Fp → Prop
  | nil : SPs X M W pos [] [] []
  | cons {k v : Expr} {ks : List (Option Expr)} {vs : List Expr} {fk fv : En → Rs D} {fs : List Fp} (hk : SE X M W k fk) (hv : SE X M W v fv) (hr : SPs X M W pos ks vs fs) : SPs X M W pos (some k :: ks) (v :: vs) ((fk, fv) :: fs)
section
variable {X : Cx} {M : Mc} {W : WX} {pos : Pos} {keys : List (Option Expr)} {values : List Expr} {fs : List Fp}
theorem SPs.pps (h : SPs X M W pos keys values fs) : PPs X pos keys values (fs.map fun f => (tE M W f.1, tE M W f.2)) := by
  induction h with
  | nil => exact pps_nil
  | cons hk hv _ ih => exact pps_cons hk hv ih
/-- flat keys and values, pair by pair -/
def flatP : List (V × V) → List V
  | [] => []
  | (a, b) :: r => a :: b :: flatP r
theorem prs_run {an : List (Addr × D)} {σ : St} : ∀ {fs : List Fp} {ρ : En} {H : Hp} {ts : List V} {ds : List D} {Q : List (V × V) → Hp → Prop}, RelX M an ρ σ H ts ds →
    (match fPrs fs ρ with
      | .ok l ρ1 => ∀ ps H1, (flatP ps).length = l.length → RelX M an ρ1 σ H1 (flatP ps ++ ts) (l ++ ds) → Q ps H1
      | .err c fs es ρ1 => EErr M an ts ds W σ c fs es ρ1
      | .stuck => False) → tPairs (fs.map fun f => (tE M W f.1, tE M W f.2)) σ H Q := by
  intro fs
  induction fs with
  | nil => intro ρ H ts ds Q R h; exact h [] H rfl R
  | cons f r ih =>
    intro ρ H ts ds Q R h
    unfold fPrs at h
    refine ⟨an, ρ, ts, ds, R, ?_⟩
    unfold EOk
    cases e1 : f.1 ρ with
    | stuck => rw [e1] at h; exact h.elim
    | err c gs es ρ1 => rw [e1] at h; exact h
    | ok k ρ1 =>
      rw [e1] at h
      intro vk H1 R1
      refine ⟨an, ρ1, vk :: ts, k :: ds, R1, ?_⟩
      unfold EOk
      dsimp only [Rs.bind] at h
      cases e2 : f.2 ρ1 with
      | stuck => rw [e2] at h; exact h.elim
      | err c gs es ρ2 => rw [e2] at h; exact EErr.weak1 h
      | ok d ρ2 =>
        rw [e2] at h
        intro vd H2 R2
        refine ih (ds := d :: k :: ds) (ts := vd :: vk :: ts) R2 ?_
        dsimp only at h
        cases e3 : fPrs r ρ2 with
        | stuck => rw [e3] at h; exact h.elim
        | err c gs es ρ3 => rw [e3] at h; exact EErr.weak1 (EErr.weak1 h)
        | ok l ρ3 =>
          rw [e3] at h
          intro ps H3 hl R3
          refine h ((vk, vd) :: ps) H3 (by simp [flatP, hl]) (R3.temps fun G _ z => ?_)
          obtain ⟨z1, z2⟩ := Reps.split hl.symm z
          exact Reps.cons z2.tail.head (Reps.cons z2.head (z1.append z2.tail.tail))
theorem asK2_rep {K : PySem.W.Frag} {cl : Cl} {G : Hp} : ∀ {l : List D} {ps : List (V × V)} {kd : List (Key × D)}, asK2 l = some kd → (flatP ps).length = l.length → Reps K cl G l (flatP ps) → ∃ kvs : List (Key × V), ps = kvs.map (fun kv => (kV kv.1, kv.2)) ∧ kvs.map (·.1) = kd.map (·.1) ∧ Reps K cl G (kd.map (·.2)) (kvs.map (·.2)) ∧ kvs.length = kd.length
  | [], ps, kd, e, hl, _ => by
    cases e
    cases ps with
    | nil => exact ⟨[], rfl, rfl, rfl, rfl⟩
    | cons p r => simp [flatP] at hl
  | [_], ps, kd, e, _, _ => by cases e
  | k :: d :: ds, ps, kd, e, hl, r => by
    obtain ⟨kk, e1, e2⟩ := Option.bind_eq_some_iff.mp (show (keyOf k).bind _ = some kd from e)
    obtain ⟨kd', e3, rfl⟩ := Option.map_eq_some_iff.mp e2
    cases ps with
    | nil => simp [flatP] at hl
    | cons p r' =>
      obtain ⟨a, b⟩ := p
      have ea := keyOf_v e1 (show Rep K cl G k a from r.head)
      obtain ⟨kvs, q1, q2, q3, q4⟩ := asK2_rep e3 (by simpa [flatP] using hl) (show Reps K cl G ds (flatP r') from r.tail.tail)
      refine ⟨(kk, b) :: kvs, by rw [ea, q1]; rfl, by simp [q2], Reps.cons (show Rep K cl G d b from r.tail.head) q3, by simp [q4]⟩
theorem sl_disp (h : SPs X M W pos keys values fs) (hall : keys.all (·.isSome) = true := by rfl) (hl : keys.length = values.length := by rfl) (h0 : keys ≠ [] := by intro z; cases z) (h15 : keys.length ≤ 15 := by decide) : SL X M W (.Dict keys values pos) (fDisp fs) := by
  refine pe_imp (pe_disp h.pps hall hl h0 h15) fun σ H Q ⟨an, ρ, ts, ds, R, q⟩ p hp => ?_
  have R1 : RelX M ((p, .dic [] []) :: an) ρ σ (upd H p (.dK [])) ts ds := R.newAn hp fun G _ z => ⟨⟨[], upd_same, rfl, rfl⟩, z⟩
  refine prs_run R1 ?_
  unfold fDisp at q
  cases e1 : fPrs fs ρ with
  | stuck => rw [e1] at q; exact q.elim
  | err c gs es ρ1 => rw [e1] at q; exact fun C dx H' vs a b c R' => q C dx H' vs a b c R'.anDrop
  | ok l ρ1 =>
    rw [e1] at q
    dsimp only [Rs.bind] at q
    intro ps H1 hl1 R2
    cases e2 : asK2 l with
    | none => rw [e2] at q; exact q.elim
    | some kd =>
      rw [e2] at q
      dsimp only at q
      split at q
      case isFalse => exact q.elim
      rename_i h15'
      obtain ⟨G, ⟨vs0, z1, z2, z3⟩, sb, z4, fin⟩ := R2.anPutG
      obtain ⟨w1, w2⟩ := Reps.split hl1.symm z4
      obtain ⟨kvs, k1, k2, k3, k4⟩ := asK2_rep e2 hl1 w1
      refine ⟨by simpa using z1, kvs, k1, by omega, ?_⟩
      obtain ⟨us, m1, m2, m3⟩ := mrg_zip (kd := kd) (kvs := kvs) (ks := []) (ds := []) (vs := []) k2 k3 rfl Reps.nil
      have m1' : mergeK [] kvs = (mrgD kd [] []).1.zip us := by simpa using m1
      rw [m1']
      exact q p _ (fin (.dK _) (.dic (mrgD kd [] []).1 (mrgD kd [] []).2) ts ds ⟨us, upd_same, m2, m3⟩ w2)
end
/-! ### xs[a:b] = ys -/
theorem RelX.putG2 {M : Mc} {an : List (Addr × D)} {ρ : En} {σ : St} {H : Hp} {us : List V} {es : List D} {i : Nat} {d0 : D} (R : RelX M an ρ σ H us es) (h : owned ρ i = some d0) : ∃ p G, σ[i]? = some (some (.ref p)) ∧ OwAt M.K M.cl G H p d0 ∧ Sub G H ∧ Reps M.K M.cl G es us ∧ G p = none := by
  obtain ⟨G, own, r⟩ := R
  rcases owned_is h with e | e
  · obtain ⟨a, b, c, _⟩ := r.owp i _ e; exact ⟨own i, G, a, b, r.sub, r.tmp, c⟩
  · obtain ⟨a, b, c, _⟩ := r.bop i _ e; exact ⟨own i, G, a, b, r.sub, r.tmp, c⟩
/-- the items before a, others, the items from b on -/
def spl {α : Type} (xs ys : List α) (a b : Nat) : List α := xs.take a ++ ys ++ xs.drop b
def splR (ρ : En) (i : Nat) (o : Option D) (y : D) (a b : Option Int) : Rs Fl := match o, y, a, b with
    | some (.lst ds), .lst es, some a, some b => if 0 ≤ a ∧ a ≤ b ∧ b ≤ ds.length ∧ ds.length + es.length ≤ sizeLine then .ok .nx (putSl ρ i (.lst (spl ds es a.toNat b.toNat))) else .stuck
    | _, _, _, _ => .stuck
def fSpl (i : Nat) (fe : En → Rs D) (fa fb : En → Rs (Option Int)) : En → Rs Fl := fun ρ => (fe ρ).bind fun y ρ1 => match owned ρ1 i with
  | none => .stuck
  | some _ => (fa ρ1).bind fun a ρ2 => (fb ρ2).bind fun b ρ3 => splR ρ3 i (owned ρ3 i) y a b
section
variable {X : Cx} {M : Mc} {W : WX} {e lo hi : Expr} {fe : En → Rs D} {fa fb : En → Rs (Option Int)} {pos : Pos}
def gSpl (to : TE) (ta tb : TO) : TG := fun v σ H Q => to σ H fun x H1 => ta σ H1 fun a H2 => tb σ H2 fun b H3 => ∃ l m xs ys i j, x = .ref l ∧ v = .ref m ∧ a = some i ∧ b = some j ∧ H3 l = some (.lst xs) ∧ H3 m = some (.lst ys) ∧ l ≠ m ∧ 0 ≤ i ∧ i ≤ j ∧ j ≤ xs.length ∧ xs.length + ys.length ≤ sizeLine ∧
  Q σ (upd H3 l (.lst (spl xs ys i.toNat j.toNat)))
theorem part_rel {u : Value} {i : Int} (h : IsPart u (some i)) : RelV (.int i) u := by
  cases h; exact ⟨_, rfl⟩
theorem pg_spl {o : Expr} {to : TE} {ta tb : TO} {p2 tpos : Pos} (ho : PE X o to) (ha : PO X (some lo) ta) (hb : PO X (some hi) tb)
    (as : ∀ v, assign (.Subscript o (.Slice (some lo) (some hi) none p2) tpos) X.env v = (do
      let ov ← holding [v] (eval o X.env)
      let iv ← holding [v, ov] (eval (.Slice (some lo) (some hi) none p2) X.env)
      standAt tpos
      holding [v, ov, iv] (setItem ov iv v)
      release [iv, v, ov] [])) : PG X (.Subscript o (.Slice (some lo) (some hi) none p2) tpos) (gSpl to ta tb) := by
  refine ⟨fun pins s σ H v u Q I r h => ?_⟩
  rw [as]
  refine wpAny_bind (wpAny_holding (thn (ho.run pins s σ H _ I h) fun ov s1 ⟨x, H1, I1, r1, q1⟩ => ?_))
  refine wpAny_bind (wpAny_holding (wpAny_Slice (thn (ha.run pins s1 σ H1 _ I1 q1) fun vl s2 ⟨l, H2, I2, pl, q2⟩ => thn (hb.run pins s2 σ H2 _ I2 q2) fun vu s3 ⟨z, H3, I3, pu, q3⟩ => ?_)))
  rw [evalPart_none]
  refine wpAny_pure ?_
  obtain ⟨lx, m, xs, ys, i, j, ex, ev, el, ez, c1, c2, c3, c4, c5, c6, c7, q⟩ := q3
  subst ex ev el ez
  cases (show ov = Value.ref lx from r1)
  cases (show u = Value.ref m from r)
  have I4 : Inv X pins σ H3 { s3 with heap := s3.heap.push { cls := .type "slice", data := .fields #[vl, vu, .none] } } := I3.kept (t' := s3.toks) fun b ob q => Heap.get?_push_of_some _ q
  exact wpAny_bind (wpAny_standAt (wpAny_bind (wpAny_holding (set_slice (a := i) (c := j) I4 c1 c2 c3 (Heap.IsSliceOf.new ..) (part_rel pl) (part_rel pu) c4 c5 c6 c7 fun s' I5 => wpAny_release ⟨σ, _, I5, q⟩))))
theorem ss_spl (i : Nat) {x : Str} {px p2 tpos : Pos} (he : SE X M W e fe) (ha : PO X (some lo) (tO M W fa)) (hb : PO X (some hi) (tO M W fb)) (hN : X.N[i]? = some x := by rfl) (hv : Vis X.env.scope x := by first | exact Or.inl rfl | exact Or.inr (Or.inl rfl) | exact Or.inr (Or.inr rfl))
    (hd : (x == ("__debug__" : Str)) = false := by decide) (hcd : (x == ("__classdict__" : Str)) = false := by decide)
    (as : ∀ v, assign (.Subscript (.Name x px) (.Slice (some lo) (some hi) none p2) tpos) X.env v = (do
      let ov ← holding [v] (eval (.Name x px) X.env)
      let iv ← holding [v, ov] (eval (.Slice (some lo) (some hi) none p2) X.env)
      standAt tpos
      holding [v, ov, iv] (setItem ov iv v)
      release [iv, v, ov] []) := by intro _; rfl)
    (hs : swapsWithSole [.Subscript (.Name x px) (.Slice (some lo) (some hi) none p2) tpos] e pos.line X.env = pure false := by rfl) (hw : swappedStores [.Subscript (.Name x px) (.Slice (some lo) (some hi) none p2) tpos] e X.env = pure none := by rfl)
    (h1 : (assignEach [.Subscript (.Name x px) (.Slice (some lo) (some hi) none p2) tpos] X.env).map (·.2) = [assign (.Subscript (.Name x px) (.Slice (some lo) (some hi) none p2) tpos) X.env] := by rfl) :
    SS X M W (.Assign [.Subscript (.Name x px) (.Slice (some lo) (some hi) none p2) tpos] e pos) (fSpl i fe fa fb) := by
  refine ps_imp (ps_asg he (pg_spl (pe_var (i := i) hN hv hd hcd) ha hb as) hs hw h1) fun Dn σ H ⟨an, ρ, ts, ds, R, h⟩ => ?_
  refine ⟨an, ρ, ts, ds, R, EOk.toS h fun y ρ1 v H1 R1 h1 => ?_⟩
  cases q0 : owned ρ1 i with
  | none => rw [q0] at h1; exact h1.elim
  | some d0 =>
    rw [q0] at h1
    dsimp only at h1
    obtain ⟨p0, G0, σ0, w0⟩ := R1.putG q0
    refine ⟨.ref p0, σ0, an, ρ1, v :: ts, y :: ds, R1, ?_⟩
    unfold OOk
    cases e2 : fa ρ1 with
    | stuck => rw [e2] at h1; exact h1.elim
    | err c gs es ρ2 => rw [e2] at h1; exact EErr.weak1 (h1 σ)
    | ok a ρ2 =>
      rw [e2] at h1
      dsimp only [Rs.bind] at h1
      intro H2 R2
      refine ⟨an, ρ2, v :: ts, y :: ds, R2, ?_⟩
      unfold OOk
      cases e3 : fb ρ2 with
      | stuck => rw [e3] at h1; exact h1.elim
      | err c gs es ρ3 => rw [e3] at h1; exact EErr.weak1 (h1 σ)
      | ok b ρ3 =>
        rw [e3] at h1
        dsimp only at h1
        intro H3 R4
        generalize q3 : owned ρ3 i = od at h1
        unfold splR at h1
        split at h1
        case h_2 => exact h1.elim
        rename_i ds0 es a1 b1
        split at h1
        case isFalse => exact h1.elim
        rename_i hc
        obtain ⟨p2, G2, σ2, ⟨vs2, u1, u2⟩, sb2, w32, gn⟩ := R4.putG2 q3
        obtain ⟨p1, G, σ1, ⟨vs, w1, w2⟩, sb, w3, fin⟩ := R4.putG q3
        rw [σ0] at σ1 σ2
        cases σ1
        cases σ2
        obtain ⟨m2, ys2, ev2, g12, _⟩ := w32.head
        obtain ⟨m, ys, ev, g1, g2⟩ := w3.head
        rw [ev] at ev2
        cases ev2
        refine ⟨p0, _, vs, ys, a1, b1, rfl, ev, rfl, rfl, w1, sb _ _ g1, ?_, hc.1, hc.2.1, by rw [w2.len]; exact hc.2.2.1, by rw [w2.len, g2.len]; exact hc.2.2.2, ?_⟩
        · rintro rfl
          rw [gn] at g12; cases g12
        · refine h1 σ _ (fin (.lst _) (.lst (spl ds0 es a1.toNat b1.toNat)) ts ds ⟨_, upd_same, ?_⟩ w3.tail)
          exact ((w2.take _).append g2).append (w2.drop _)
end
end Dl
end
section
set_option maxHeartbeats 4000000
/-! DlZa: two names at once, the second one a fresh object. -/
namespace Dl
open PySem PySem.Spec PyProof.Rows L2
section
variable {X : Cx} {M : Mc} {W : WX} {a b : Expr} {fa fb : En → Rs D} {pos : Pos}
def fParM (i j : Nat) (fa fb : En → Rs D) : En → Rs Fl := fun ρ => (fa ρ).bind fun d ρ1 => (fb ρ1).bind fun e ρ2 => if setOk ρ2 i = true && setOk ρ2 j = true then .ok .nx ((ρ2.set i (some (.sh d))).set j (some (.ow e))) else .stuck
theorem ss_parM (i j : Nat) {x y : Str} {px py pt : Pos} {kt k2 pt2} (hc : X.calm = true) (hN : X.N.Nodup) (hij : i ≠ j) (ha : SE X M W a fa) (hb : SL X M W b fb) (hi : X.N[i]? = some x := by rfl) (hj : X.N[j]? = some y := by rfl)
    (hx : X.env.scope.names.lookup x = some .local := by rfl) (hy : X.env.scope.names.lookup y = some .local := by rfl)
    (hw : swappedStores [.Tuple [.Name x px, .Name y py] kt pt] (.Tuple [a, b] k2 pt2) X.env = pure (some [x, y]) := by rfl)
    (hs : swapsWithSole [.Tuple [.Name x px, .Name y py] kt pt] (.Tuple [a, b] k2 pt2) pos.line X.env = pure false := by rfl)
    (h1 : starEach (a :: [b]) X.env = (false, eval a X.env) :: starEach [b] X.env := by rfl) (h2 : starEach [b] X.env = (false, eval b X.env) :: starEach [] X.env := by rfl) :
    SS X M W (.Assign [.Tuple [.Name x px, .Name y py] kt pt] (.Tuple [a, b] k2 pt2) pos) (fParM i j fa fb) := by
  refine ps_imp (ps_par hc hN hi hj hij hx hy (pa_cons ha (pa_cons hb pa_nil h2) h1) hw hs) fun Dn σ H ⟨an, ρ, ts, ds, R, h⟩ => ?_
  refine ⟨an, ρ, ts, ds, R, EOk.toS h fun d ρ1 v H1 R1 h1 => ?_⟩
  refine ⟨an, ρ1, v :: ts, d :: ds, R1, LOk.bind (P := fun z => SOk M an ts ds W z Dn) h1 (fun _ _ _ _ z => (z σ).weak1) (fun z => z) fun e ρ2 p H2 R2 h2 => ?_⟩
  by_cases c : (setOk ρ2 i = true && setOk ρ2 j = true) = true
  · rw [if_pos c] at h2
    simp only [Bool.and_eq_true, decide_eq_true_eq] at c
    exact ⟨v, .ref p, rfl, h2 _ _ (RelX.setOw (RelX.setSh R2 c.1) (setOk_set (by intro _ q; cases q) c.2 c.1))⟩
  · rw [if_neg c] at h2; exact h2.elim
def fParN (i j : Nat) (fa fb : En → Rs D) : En → Rs Fl := fun ρ => (fa ρ).bind fun d ρ1 => (fb ρ1).bind fun e ρ2 => if setOk ρ2 i = true && setOk ρ2 j = true then .ok .nx ((ρ2.set i (some (.ow d))).set j (some (.sh e))) else .stuck
theorem ss_parN (i j : Nat) {x y : Str} {px py pt : Pos} {kt k2 pt2} (hc : X.calm = true) (hN : X.N.Nodup) (hij : i ≠ j) (ha : SL X M W a fa) (hb : SE X M W b fb) (hi : X.N[i]? = some x := by rfl) (hj : X.N[j]? = some y := by rfl)
    (hx : X.env.scope.names.lookup x = some .local := by rfl) (hy : X.env.scope.names.lookup y = some .local := by rfl)
    (hw : swappedStores [.Tuple [.Name x px, .Name y py] kt pt] (.Tuple [a, b] k2 pt2) X.env = pure (some [x, y]) := by rfl)
    (hs : swapsWithSole [.Tuple [.Name x px, .Name y py] kt pt] (.Tuple [a, b] k2 pt2) pos.line X.env = pure false := by rfl)
    (h1 : starEach (a :: [b]) X.env = (false, eval a X.env) :: starEach [b] X.env := by rfl) (h2 : starEach [b] X.env = (false, eval b X.env) :: starEach [] X.env := by rfl) :
    SS X M W (.Assign [.Tuple [.Name x px, .Name y py] kt pt] (.Tuple [a, b] k2 pt2) pos) (fParN i j fa fb) := by
  refine ps_imp (ps_par hc hN hi hj hij hx hy (pa_cons ha (pa_cons hb pa_nil h2) h1) hw hs) fun Dn σ H ⟨an, ρ, ts, ds, R, h⟩ => ?_
  refine ⟨an, ρ, ts, ds, R, LOk.bind (P := fun z => SOk M an ts ds W z Dn) h (fun _ _ _ _ z => z σ) (fun z => z) fun d ρ1 p H1 R1 h1 => ?_⟩
  have er : ∀ c fs es ρ, SOk M an ts ds W (.err c fs es ρ) Dn → EErr M ((p, d) :: an) ts ds W σ c fs es ρ := fun c fs es ρ z C dx H' vs q1 q2 q3 R => z σ C dx H' vs q1 q2 q3 R.anDrop
  refine ⟨(p, d) :: an, ρ1, ts, ds, R1, EOk.bind (P := fun z => SOk M an ts ds W z Dn) h1 er (fun z => z) fun e ρ2 v H2 R2 h2 => ?_⟩
  by_cases c : (setOk ρ2 i = true && setOk ρ2 j = true) = true
  · rw [if_pos c] at h2
    simp only [Bool.and_eq_true, decide_eq_true_eq] at c
    exact ⟨.ref p, v, rfl, h2 _ _ (RelX.setSh (RelX.setOw R2 c.1) (setOk_set (by intro _ q; cases q) c.2 c.1))⟩
  · rw [if_neg c] at h2; exact h2.elim
end
end Dl
end
section
set_option maxHeartbeats 4000000
namespace Dl
open PySem PySem.Spec PyProof.Rows L2
def top (i : Nat) : Stmt := PySem.Challenge.pw_rimtwists_k22_whole_exchanges.main.body.getD i (.Pass ⟨0, 0, 0, 0⟩)
abbrev s__law_dice : Stmt := top 20
abbrev s__law_roll : Stmt := top 21
abbrev s__law_mixed : Stmt := top 22
abbrev s__law_order : Stmt := top 26
abbrev s_is_whole : Stmt := top 8
abbrev s_is_integer : Stmt := top 9
abbrev s_rest_of : Stmt := top 12
abbrev s_are_numbers : Stmt := top 13
abbrev s_Order___init__ : Stmt := inClass (top 18) 0
abbrev s__law_value : Stmt := top 23
abbrev s__law_knots : Stmt := top 24
abbrev s__law_swapped : Stmt := top 27
abbrev s__law_ends_changed : Stmt := top 29
abbrev s_Order_neighbours_checked : Stmt := inClass (top 18) 13
abbrev s_Order_starts_exchanged : Stmt := inClass (top 18) 14
abbrev s_Order_numbers : Stmt := inClass (top 18) 2
abbrev s__law_is_order : Stmt := top 25
abbrev s_falling_in : Stmt := top 16
abbrev s_Order_level : Stmt := inClass (top 18) 5
abbrev s_value_at : Stmt := top 14
abbrev s_knots_in : Stmt := top 17
abbrev s_Order_knots : Stmt := inClass (top 18) 6
abbrev s_Order_ends_exchanged : Stmt := inClass (top 18) 15
abbrev s__law_standing : Stmt := top 28
abbrev s_brought : Stmt := top 15
abbrev s_Order_dual : Stmt := inClass (top 18) 10
abbrev s_Order___eq__ : Stmt := inClass (top 18) 21
abbrev s__law_index_right : Stmt := top 31
abbrev s_law : Stmt := top 32
/-! ### what the text says -/
abbrev s__law_told : Stmt := top 30
def mkA (K : PySem.W.Frag) : List Addr := [(He.ga K "_law_index_right")]
def tbT (K : PySem.W.Frag) : List (Addr × Str) := [((tabAt K (He.ga K "_law_index_right")).2, (envOfC "_law_index_right" (defScope s__law_index_right) 0 0 .none).qual ++ "<lambda>")]
def sub_InvalidOperation : Str → Option Bool := fun c => if c = "InvalidOperation" then some true else if c = "InvalidOrder" then some false else  none
structure Txt (K : PySem.W.Frag) (mg : Str → Option Value) (cl : Cl) : Prop where
  b_abs : mg "abs" = none
  b_all : mg "all" = none
  b_bool : mg "bool" = none
  b_enumerate : mg "enumerate" = none
  b_int : mg "int" = none
  b_isinstance : mg "isinstance" = none
  b_len : mg "len" = none
  b_list : mg "list" = none
  b_max : mg "max" = none
  b_min : mg "min" = none
  b_range : mg "range" = none
  b_repr : mg "repr" = none
  b_set : mg "set" = none
  b_sorted : mg "sorted" = none
  b_tuple : mg "tuple" = none
  c_GREAT : ∃ t, mg "GREAT" = some (.int (1000000000000000000000000000000000000000000000000000000000000) t)
  c_MOST : ∃ t, mg "MOST" = some (.int (8) t)
  u__law_dice : ∃ fd, Fun K "_law_dice" "_law_dice" s__law_dice (He.ga K "_law_dice") fd
  g__law_dice : mg "_law_dice" = some (.ref (He.ga K "_law_dice"))
  k__law_dice : PySem.W.keepIn K (.ref (He.ga K "_law_dice")) = true
  u__law_roll : ∃ fd, Fun K "_law_roll" "_law_roll" s__law_roll (He.ga K "_law_roll") fd
  g__law_roll : mg "_law_roll" = some (.ref (He.ga K "_law_roll"))
  k__law_roll : PySem.W.keepIn K (.ref (He.ga K "_law_roll")) = true
  u__law_mixed : ∃ fd, Fun K "_law_mixed" "_law_mixed" s__law_mixed (He.ga K "_law_mixed") fd
  g__law_mixed : mg "_law_mixed" = some (.ref (He.ga K "_law_mixed"))
  k__law_mixed : PySem.W.keepIn K (.ref (He.ga K "_law_mixed")) = true
  u__law_order : ∃ fd, Fun K "_law_order" "_law_order" s__law_order (He.ga K "_law_order") fd
  g__law_order : mg "_law_order" = some (.ref (He.ga K "_law_order"))
  k__law_order : PySem.W.keepIn K (.ref (He.ga K "_law_order")) = true
  u_is_whole : ∃ fd, Fun K "is_whole" "is_whole" s_is_whole (He.ga K "is_whole") fd
  g_is_whole : mg "is_whole" = some (.ref (He.ga K "is_whole"))
  k_is_whole : PySem.W.keepIn K (.ref (He.ga K "is_whole")) = true
  u_is_integer : ∃ fd, Fun K "is_integer" "is_integer" s_is_integer (He.ga K "is_integer") fd
  g_is_integer : mg "is_integer" = some (.ref (He.ga K "is_integer"))
  k_is_integer : PySem.W.keepIn K (.ref (He.ga K "is_integer")) = true
  u_rest_of : ∃ fd, Fun K "rest_of" "rest_of" s_rest_of (He.ga K "rest_of") fd
  g_rest_of : mg "rest_of" = some (.ref (He.ga K "rest_of"))
  k_rest_of : PySem.W.keepIn K (.ref (He.ga K "rest_of")) = true
  u_are_numbers : ∃ fd, Fun K "are_numbers" "are_numbers" s_are_numbers (He.ga K "are_numbers") fd
  g_are_numbers : mg "are_numbers" = some (.ref (He.ga K "are_numbers"))
  k_are_numbers : PySem.W.keepIn K (.ref (He.ga K "are_numbers")) = true
  u_Order___init__ : ∃ fd, Fun K "__init__" "Order.__init__" s_Order___init__ (He.ma K (He.ga K "Order") "__init__") fd
  u__law_value : ∃ fd, Fun K "_law_value" "_law_value" s__law_value (He.ga K "_law_value") fd
  g__law_value : mg "_law_value" = some (.ref (He.ga K "_law_value"))
  k__law_value : PySem.W.keepIn K (.ref (He.ga K "_law_value")) = true
  u__law_knots : ∃ fd, Fun K "_law_knots" "_law_knots" s__law_knots (He.ga K "_law_knots") fd
  g__law_knots : mg "_law_knots" = some (.ref (He.ga K "_law_knots"))
  k__law_knots : PySem.W.keepIn K (.ref (He.ga K "_law_knots")) = true
  u__law_swapped : ∃ fd, Fun K "_law_swapped" "_law_swapped" s__law_swapped (He.ga K "_law_swapped") fd
  g__law_swapped : mg "_law_swapped" = some (.ref (He.ga K "_law_swapped"))
  k__law_swapped : PySem.W.keepIn K (.ref (He.ga K "_law_swapped")) = true
  u__law_ends_changed : ∃ fd, Fun K "_law_ends_changed" "_law_ends_changed" s__law_ends_changed (He.ga K "_law_ends_changed") fd
  g__law_ends_changed : mg "_law_ends_changed" = some (.ref (He.ga K "_law_ends_changed"))
  k__law_ends_changed : PySem.W.keepIn K (.ref (He.ga K "_law_ends_changed")) = true
  u_Order_neighbours_checked : ∃ fd, Fun K "neighbours_checked" "Order.neighbours_checked" s_Order_neighbours_checked (He.ma K (He.ga K "Order") "neighbours_checked") fd
  m_Order_neighbours_checked : Meth K (He.ga K "Order") "neighbours_checked" (He.ma K (He.ga K "Order") "neighbours_checked")
  u_Order_starts_exchanged : ∃ fd, Fun K "starts_exchanged" "Order.starts_exchanged" s_Order_starts_exchanged (He.ma K (He.ga K "Order") "starts_exchanged") fd
  m_Order_starts_exchanged : Meth K (He.ga K "Order") "starts_exchanged" (He.ma K (He.ga K "Order") "starts_exchanged")
  u_Order_numbers : ∃ fd, Fun K "numbers" "Order.numbers" s_Order_numbers (ge K (He.ga K "Order") "numbers") fd
  pr_Order_numbers : PropOf K (He.ga K "Order") "numbers" (He.ma K (He.ga K "Order") "numbers") (ge K (He.ga K "Order") "numbers")
  u__law_is_order : ∃ fd, Fun K "_law_is_order" "_law_is_order" s__law_is_order (He.ga K "_law_is_order") fd
  g__law_is_order : mg "_law_is_order" = some (.ref (He.ga K "_law_is_order"))
  k__law_is_order : PySem.W.keepIn K (.ref (He.ga K "_law_is_order")) = true
  u_falling_in : ∃ fd, Fun K "falling_in" "falling_in" s_falling_in (He.ga K "falling_in") fd
  g_falling_in : mg "falling_in" = some (.ref (He.ga K "falling_in"))
  k_falling_in : PySem.W.keepIn K (.ref (He.ga K "falling_in")) = true
  u_Order_level : ∃ fd, Fun K "level" "Order.level" s_Order_level (ge K (He.ga K "Order") "level") fd
  pr_Order_level : PropOf K (He.ga K "Order") "level" (He.ma K (He.ga K "Order") "level") (ge K (He.ga K "Order") "level")
  u_value_at : ∃ fd, Fun K "value_at" "value_at" s_value_at (He.ga K "value_at") fd
  g_value_at : mg "value_at" = some (.ref (He.ga K "value_at"))
  k_value_at : PySem.W.keepIn K (.ref (He.ga K "value_at")) = true
  u_knots_in : ∃ fd, Fun K "knots_in" "knots_in" s_knots_in (He.ga K "knots_in") fd
  g_knots_in : mg "knots_in" = some (.ref (He.ga K "knots_in"))
  k_knots_in : PySem.W.keepIn K (.ref (He.ga K "knots_in")) = true
  u_Order_knots : ∃ fd, Fun K "knots" "Order.knots" s_Order_knots (ge K (He.ga K "Order") "knots") fd
  pr_Order_knots : PropOf K (He.ga K "Order") "knots" (He.ma K (He.ga K "Order") "knots") (ge K (He.ga K "Order") "knots")
  u_Order_ends_exchanged : ∃ fd, Fun K "ends_exchanged" "Order.ends_exchanged" s_Order_ends_exchanged (He.ma K (He.ga K "Order") "ends_exchanged") fd
  m_Order_ends_exchanged : Meth K (He.ga K "Order") "ends_exchanged" (He.ma K (He.ga K "Order") "ends_exchanged")
  u__law_standing : ∃ fd, Fun K "_law_standing" "_law_standing" s__law_standing (He.ga K "_law_standing") fd
  g__law_standing : mg "_law_standing" = some (.ref (He.ga K "_law_standing"))
  k__law_standing : PySem.W.keepIn K (.ref (He.ga K "_law_standing")) = true
  u_brought : ∃ fd, Fun K "brought" "brought" s_brought (He.ga K "brought") fd
  g_brought : mg "brought" = some (.ref (He.ga K "brought"))
  k_brought : PySem.W.keepIn K (.ref (He.ga K "brought")) = true
  u_Order_dual : ∃ fd, Fun K "dual" "Order.dual" s_Order_dual (ge K (He.ga K "Order") "dual") fd
  pr_Order_dual : PropOf K (He.ga K "Order") "dual" (He.ma K (He.ga K "Order") "dual") (ge K (He.ga K "Order") "dual")
  u_Order___eq__ : ∃ fd, Fun K "__eq__" "Order.__eq__" s_Order___eq__ (He.ma K (He.ga K "Order") "__eq__") fd
  m_Order___eq__ : Meth K (He.ga K "Order") "__eq__" (He.ma K (He.ga K "Order") "__eq__")
  u__law_index_right : ∃ fd, Fun K "_law_index_right" "_law_index_right" s__law_index_right (He.ga K "_law_index_right") fd
  g__law_index_right : mg "_law_index_right" = some (.ref (He.ga K "_law_index_right"))
  k__law_index_right : PySem.W.keepIn K (.ref (He.ga K "_law_index_right")) = true
  u_law : ∃ fd, Fun K "law" "law" s_law (He.ga K "law") fd
  g_law : mg "law" = some (.ref (He.ga K "law"))
  k_law : PySem.W.keepIn K (.ref (He.ga K "law")) = true
  cn_Order : ClsN K cl "Order" (He.ga K "Order")
  g_Order : mg "Order" = some (.ref (He.ga K "Order"))
  mk_Order : L2.Mk K (He.ga K "Order") (He.ma K (He.ga K "Order") "__init__")
  ic_Order : InsC K (He.ga K "Order")
  eq_Order : eqB K (He.ga K "Order") = true
  u__law_told : ∃ fd, Fun K "_law_told" "_law_told" s__law_told (He.ga K "_law_told") fd
  g__law_told : mg "_law_told" = some (.ref (He.ga K "_law_told"))
  tk__law_index_right : tabOk K (He.ga K "_law_index_right") = true
  mt__law_index_right : tabAt K (He.ga K "_law_index_right") ∈ mkT mkA K
  tT__law_index_right : ((tabAt K (He.ga K "_law_index_right")).2, (envOfC "_law_index_right" (defScope s__law_index_right) 0 0 .none).qual ++ "<lambda>") ∈ cl.T
  tU__law_index_right : ∀ p ∈ cl.T, p.1 = (tabAt K (He.ga K "_law_index_right")).2 → p.2 = (envOfC "_law_index_right" (defScope s__law_index_right) 0 0 .none).qual ++ "<lambda>"
  cl_InvalidOperation : cl "InvalidOperation" = some (He.ga K "InvalidOperation")
  g_InvalidOperation : mg "InvalidOperation" = some (.ref (He.ga K "InvalidOperation"))
  cl_InvalidOrder : cl "InvalidOrder" = some (He.ga K "InvalidOrder")
  g_InvalidOrder : mg "InvalidOrder" = some (.ref (He.ga K "InvalidOrder"))
  x_InvalidOperation : XcN K mg cl "InvalidOperation" [.type "ValueError", .type "Exception", .type "BaseException", .type "object"] "ValueError" "ValueError.__new__" "ValueError.__init__" (He.ga K "InvalidOperation")
  m_InvalidOperation_InvalidOperation : PySem.W.exmOne K (.ref (He.ga K "InvalidOperation")) (.ref (He.ga K "InvalidOperation")) = some true
  x_InvalidOrder : XcN K mg cl "InvalidOrder" [.type "ValueError", .type "Exception", .type "BaseException", .type "object"] "ValueError" "ValueError.__new__" "ValueError.__init__" (He.ga K "InvalidOrder")
  m_InvalidOrder_InvalidOperation : PySem.W.exmOne K (.ref (He.ga K "InvalidOrder")) (.ref (He.ga K "InvalidOperation")) = some false
  na_Order_own_numbers : NoAttr K (He.ga K "Order") "own_numbers"
/-! ### mirrors -/
def m__law_dice : En → Rs Fl :=
  (fSeq (fSet 2 (fIf (fTr (fBin opLt (fVar 1) (fCall gLen (fCons (fVar 0) fNil)))) (fCall gInt (fCons (fBin opIx (fVar 0) (fVar 1)) fNil)) (fBin opAdd (fBin opMul (fC (.int 61)) (fVar 1)) (fC (.int 17)))))
  (fSeq (fSet 3 (fBin opMod (fCall gMax (fCons (fC (.int 0)) (fCons (fBin opSub (fCall gAbs (fCons (fVar 2) fNil)) (fBin opPow (fC (.int 10)) (fC (.int 16)))) fNil))) (fBin opMul (fBin opPow (fC (.int 10)) (fC (.int 60))) (fBin opPow (fC (.int 10)) (fC (.int 60))))))
  (fRetL (fLst (fCons (fVar 3) (fCons (fBin opAdd (fBin opAdd (fBin opAdd (fBin opMul (fBin opMod (fCall gAbs (fCons (fVar 2) fNil)) (fC (.int 1152921504606846869))) (fC (.int 43))) (fBin opMul (fC (.int 811)) (fVar 1))) (fBin opMul (fC (.int 29)) (fCall gInt (fCons (fBin opLt (fVar 2) (fC (.int 0))) fNil)))) (fC (.int 5))) (fCons (fC (.int 0)) fNil)))))))
def F__law_dice : List D → Fr := bodyL [false, false] 4 m__law_dice
def m__law_roll : En → Rs Fl :=
  (fSeq (fIfS (fTr (fBin opGt (fIxO 0 (fC (.int 0))) (fC (.int 0)))) (fSeq (fSet 2 (fBin opMod (fCall gInt (fCons (fIxO 0 (fC (.int 0))) fNil)) (fVar 1)))
  (fSeq (fSto 0 (fC (.int 0)) (fBin opDiv (fIxO 0 (fC (.int 0))) (fVar 1)))
  (fRet (fVar 2)))) fSkip)
  (fSeq (fSto 0 (fC (.int 2)) (fBin opAdd (fIxO 0 (fC (.int 2))) (fC (.int 1))))
  (fSeq (fSet 3 (fBin opMod (fCall gInt (fCons (fBin opAdd (fIxO 0 (fC (.int 1))) (fBin opMul (fC (.int 49979687)) (fIxO 0 (fC (.int 2))))) fNil)) (fC (.int 2305843009213693669))))
  (fSeq (fSet 4 (fBin opAdd (fBin opMul (fBin opMod (fCall gInt (fCons (fBin opAdd (fBin opMul (fVar 3) (fVar 3)) (fBin opMul (fC (.int 89)) (fIxO 0 (fC (.int 2))))) fNil)) (fC (.int 2305843009213693907))) (fC (.int 7368791))) (fVar 3)))
  (fRet (fBin opMod (fCall gInt (fCons (fBin opDiv (fVar 4) (fC (.int 65536))) fNil)) (fVar 1)))))))
def F__law_roll : List D → Fr := bodyF [true, false] 5 m__law_roll
def m__law_mixed : En → Rs Fl :=
  (fSeq (fParL 2 3 (fCall gList (fCons (fVar 1) fNil)) (fLst fNil))
  (fSeq (fFor (iRg1 (fCall gLen (fCons (fVar 1) fNil))) (gN 4) (fExp (fApp 3 (fPopAt 2 (fFn [some 0, none] F__law_roll (fLent 0 (fCons (fLenO 2) fNil)))))))
  (fRet (fVar 3))))
def F__law_mixed : List D → Fr := bodyF [true, false] 5 m__law_mixed
def m__law_order : En → Rs Fl :=
  (fSeq (fSet 2 (fFn [some 0, none] F__law_mixed (fLent 0 (fCons (fRg2 (fC (.int 1)) (fBin opAdd (fVar 1) (fC (.int 1)))) fNil))))
  (fSeq (fSetL 3 (fLst fNil))
  (fSeq (fFor (iRg1 (fVar 1)) (gN 4) (fSeq (fSet 5 (fBin opIx (fVar 2) (fVar 4)))
  (fSeq (fSet 6 (fOr (fBin opLt (fVar 5) (fBin opAdd (fVar 4) (fC (.int 1)))) (fAnd (fBin opEq (fVar 5) (fBin opAdd (fVar 4) (fC (.int 1)))) (fBin opEq (fFn [some 0, none] F__law_roll (fLent 0 (fCons (fC (.int 2)) fNil))) (fC (.int 0))))))
  (fExp (fApp 3 (fBin opAdd (fVar 5) (fBin opMul (fVar 1) (fCall gInt (fCons (fVar 6) fNil)))))))))
  (fRet (fCall gTuple (fCons (fVar 3) fNil))))))
def F__law_order : List D → Fr := bodyF [true, false] 7 m__law_order
def m_is_whole : En → Rs Fl :=
  (fRet (fAnd (fIsi isInt (fVar 0)) (fNot (fIsi isBool (fVar 0)))))
def F_is_whole : List D → Fr := bodyF [false] 1 m_is_whole
def m_is_integer : En → Rs Fl :=
  (fRet (fAnd (fFn [none] F_is_whole (fCons (fVar 0) fNil)) (fChain opLt opLt (fUn opNeg (fC (.int (1000000000000000000000000000000000000000000000000000000000000)))) (fVar 0) (fC (.int (1000000000000000000000000000000000000000000000000000000000000))))))
def F_is_integer : List D → Fr := bodyF [false] 1 m_is_integer
def m_rest_of : En → Rs Fl :=
  (fRet (fBin opAdd (fBin opMod (fBin opSub (fVar 1) (fC (.int 1))) (fVar 0)) (fC (.int 1))))
def F_rest_of : List D → Fr := bodyF [false, false] 2 m_rest_of
def m_are_numbers : En → Rs Fl :=
  (fSeq (fIfS (fOrB (fNotB (fTr (fIsi isTup (fVar 0)))) (fNotB (fTr (fChain opLe opLe (fC (.int 1)) (fCall gLen (fCons (fVar 0) fNil)) (fC (.int (8))))))) (fRet (fC (.bl false))) fSkip)
  (fSeq (fIfS (fNotB (fTr (fCall gAll (fCons (fLc [1] (iSeq (fVar 0)) (gN 1) fYes (fFn [none] F_is_integer (fCons (fVar 1) fNil))) fNil)))) (fRet (fC (.bl false))) fSkip)
  (fSeq (fSet 2 (fCall gLen (fCons (fVar 0) fNil)))
  (fSeq (fIfS (fNotB (fTr (fCall gAll (fCons (fLc [3, 1] (iEn 1 (fVar 0)) (gT (gsCons (gN 3) (gsCons (gN 1) gsNil)) 2) fYes (fChain opLe opLe (fVar 3) (fVar 1) (fBin opAdd (fVar 3) (fVar 2)))) fNil)))) (fRet (fC (.bl false))) fSkip)
  (fRet (fBin opEq (fUn gLenSet (fLc [1] (iSeq (fVar 0)) (gN 1) fYes (fFn [none, none] F_rest_of (fCons (fVar 2) (fCons (fVar 1) fNil))))) (fVar 2)))))))
def F_are_numbers : List D → Fr := bodyF [false] 4 m_are_numbers
def m_Order___init__ : En → Rs Fl :=
  (fSeq (fIfS (fNotB (fTr (fFn [none] F_are_numbers (fCons (fVar 1) fNil)))) (fRaise "InvalidOrder") fSkip)
  (fFldS "Order" "own_numbers" 0 (fVar 1)))
def F_Order___init__ : List D → Fr := bodyF [true, false] 2 m_Order___init__
def m__law_value : En → Rs Fl :=
  (fSeq (fSet 2 (fCall gLen (fCons (fVar 0) fNil)))
  (fSeq (fSet 3 (fBin opDiv (fBin opSub (fVar 1) (fC (.int 1))) (fVar 2)))
  (fRet (fBin opAdd (fBin opIx (fVar 0) (fBin opSub (fBin opSub (fVar 1) (fC (.int 1))) (fBin opMul (fVar 3) (fVar 2)))) (fBin opMul (fVar 3) (fVar 2))))))
def F__law_value : List D → Fr := bodyF [false, false] 4 m__law_value
def m__law_knots : En → Rs Fl :=
  (fSeq (fParN 1 2 (fLst fNil) (fCall gLen (fCons (fVar 0) fNil)))
  (fSeq (fFor (iRg2 (fC (.int 1)) (fBin opAdd (fVar 2) (fC (.int 1)))) (gN 3) (fFor (iRg2 (fBin opAdd (fVar 3) (fC (.int 1))) (fBin opAdd (fVar 3) (fVar 2))) (gN 4) (fIfS (fTr (fBin opGt (fFn [none, none] F__law_value (fCons (fVar 0) (fCons (fVar 3) fNil))) (fFn [none, none] F__law_value (fCons (fVar 0) (fCons (fVar 4) fNil))))) (fExp (fApp 1 (fTup (fCons (fVar 3) (fCons (fVar 4) fNil))))) fSkip)))
  (fRet (fVar 1))))
def F__law_knots : List D → Fr := bodyF [false] 5 m__law_knots
def m__law_swapped : En → Rs Fl :=
  (fSeq (fSetL 2 (fCall gList (fCons (fVar 0) fNil)))
  (fSeq (fSto 2 (fBin opSub (fVar 1) (fC (.int 1))) (fBin opIx (fVar 0) (fVar 1)))
  (fSeq (fSto 2 (fVar 1) (fBin opIx (fVar 0) (fBin opSub (fVar 1) (fC (.int 1)))))
  (fRet (fCall gTuple (fCons (fVar 2) fNil))))))
def F__law_swapped : List D → Fr := bodyF [false, false] 3 m__law_swapped
def m__law_ends_changed : En → Rs Fl :=
  (fSeq (fParM 2 3 (fCall gLen (fCons (fVar 0) fNil)) (fLst fNil))
  (fSeq (fFor (iSeq (fVar 0)) (gN 4) (fIfS (fTr (fBin opEq (fBin opMod (fCall gInt (fCons (fBin opSub (fVar 4) (fVar 1)) fNil)) (fVar 2)) (fC (.int 0)))) (fExp (fApp 3 (fBin opAdd (fVar 4) (fC (.int 1))))) (fExp (fApp 3 (fIf (fTr (fBin opEq (fBin opMod (fCall gInt (fCons (fBin opSub (fBin opSub (fVar 4) (fVar 1)) (fC (.int 1))) fNil)) (fVar 2)) (fC (.int 0)))) (fBin opSub (fVar 4) (fC (.int 1))) (fVar 4))))))
  (fRet (fCall gTuple (fCons (fVar 3) fNil)))))
def F__law_ends_changed : List D → Fr := bodyF [false, false] 5 m__law_ends_changed
def m_Order_neighbours_checked : En → Rs Fl :=
  (fIfS (fOrB (fNotB (fTr (fFn [none] F_is_integer (fCons (fVar 1) fNil)))) (fNotB (fTr (fChain opLe opLt (fC (.int 1)) (fVar 1) (fCall gLen (fCons (fFld "Order" "own_numbers" (fVar 0)) fNil)))))) (fun _ => .stuck) fSkip)
def F_Order_neighbours_checked : List D → Fr := bodyF [false, false] 2 m_Order_neighbours_checked
def m_Order_starts_exchanged : En → Rs Fl :=
  (fSeq (fExp (fMeth "Order" "neighbours_checked" [none] F_Order_neighbours_checked (fVar 0) (fCons (fVar 1) fNil)))
  (fSeq (fSetL 2 (fCall gList (fCons (fFld "Order" "own_numbers" (fVar 0)) fNil)))
  (fSeq (fSpl 2 (fLst (fCons (fIxO 2 (fVar 1)) (fCons (fIxO 2 (fBin opSub (fVar 1) (fC (.int 1)))) fNil))) (fPart (fBin opSub (fVar 1) (fC (.int 1)))) (fPart (fBin opAdd (fVar 1) (fC (.int 1)))))
  (fSeq (fIfS (fNotB (fTr (fFn [none] F_are_numbers (fCons (fCall gTuple (fCons (fVar 2) fNil)) fNil)))) (fRaise "InvalidOperation") fSkip)
  (fRet (fMk "Order" [none] F_Order___init__ (fCons (fCall gTuple (fCons (fVar 2) fNil)) fNil)))))))
def F_Order_starts_exchanged : List D → Fr := bodyF [false, false] 3 m_Order_starts_exchanged
def m_Order_numbers : En → Rs Fl :=
  (fRet (fFld "Order" "own_numbers" (fVar 0)))
def F_Order_numbers : List D → Fr := bodyF [false] 1 m_Order_numbers
def m__law_is_order : En → Rs Fl :=
  (fSeq (fSet 1 (fCall gLen (fCons (fVar 0) fNil)))
  (fSeq (fIfS (fTr (fBin opNe (fLc [2] (iRg1 (fVar 1)) (gN 2) (fNotB (fTr (fChain opLt opLe (fVar 2) (fBin opIx (fVar 0) (fVar 2)) (fBin opAdd (fBin opAdd (fVar 2) (fC (.int 1))) (fVar 1))))) (fVar 2)) (fLst fNil))) (fRet (fC (.bl false))) fSkip)
  (fRet (fBin opEq (fUn gLenSet (fLc [3] (iSeq (fVar 0)) (gN 3) fYes (fBin opMod (fCall gInt (fCons (fVar 3) fNil)) (fVar 1)))) (fVar 1)))))
def F__law_is_order : List D → Fr := bodyF [false] 4 m__law_is_order
def m_falling_in : En → Rs Fl :=
  (fRet (fLc [1, 2] (iEn 1 (fVar 0)) (gT (gsCons (gN 1) (gsCons (gN 2) gsNil)) 2) (fTr (fBin opGt (fVar 2) (fCall gLen (fCons (fVar 0) fNil)))) (fVar 1)))
def F_falling_in : List D → Fr := bodyF [false] 3 m_falling_in
def m_Order_level : En → Rs Fl :=
  (fRet (fCall gLen (fCons (fFn [none] F_falling_in (fCons (fFld "Order" "own_numbers" (fVar 0)) fNil)) fNil)))
def F_Order_level : List D → Fr := bodyF [false] 1 m_Order_level
def m_value_at : En → Rs Fl :=
  (fSeq (fSet 2 (fFn [none, none] F_rest_of (fCons (fCall gLen (fCons (fVar 0) fNil)) (fCons (fVar 1) fNil))))
  (fRet (fBin opSub (fBin opAdd (fBin opIx (fVar 0) (fBin opSub (fVar 2) (fC (.int 1)))) (fVar 1)) (fVar 2))))
def F_value_at : List D → Fr := bodyF [false, false] 3 m_value_at
def m_knots_in : En → Rs Fl :=
  (fSeq (fSet 1 (fCall gLen (fCons (fVar 0) fNil)))
  (fSeq (fSetL 2 (fLc2 [3, 4] [4] (iRg2 (fC (.int 1)) (fBin opAdd (fVar 1) (fC (.int 1)))) (gN 3) fYes (iRg2 (fBin opAdd (fVar 3) (fC (.int 1))) (fBin opAdd (fVar 3) (fVar 1))) (gN 4) fYes (fTup (fCons (fVar 3) (fCons (fVar 4) fNil)))))
  (fRet (fLc [3, 4] (iSeq (fVar 2)) (gT (gsCons (gN 3) (gsCons (gN 4) gsNil)) 2) (fTr (fBin opGt (fBin opIx (fVar 0) (fBin opSub (fVar 3) (fC (.int 1)))) (fFn [none, none] F_value_at (fCons (fVar 0) (fCons (fVar 4) fNil))))) (fTup (fCons (fVar 3) (fCons (fVar 4) fNil)))))))
def F_knots_in : List D → Fr := bodyF [false] 5 m_knots_in
def m_Order_knots : En → Rs Fl :=
  (fRet (fCall gLen (fCons (fFn [none] F_knots_in (fCons (fFld "Order" "own_numbers" (fVar 0)) fNil)) fNil)))
def F_Order_knots : List D → Fr := bodyF [false] 1 m_Order_knots
def m_Order_ends_exchanged : En → Rs Fl :=
  (fSeq (fExp (fMeth "Order" "neighbours_checked" [none] F_Order_neighbours_checked (fVar 0) (fCons (fVar 1) fNil)))
  (fSeq (fSet 2 (fCall gLen (fCons (fFld "Order" "own_numbers" (fVar 0)) fNil)))
  (fSeq (fSet 3 (fDisp [((fVar 1), (fC (.int 1))), ((fBin opAdd (fVar 1) (fC (.int 1))), (fUn opNeg (fC (.int 1))))]))
  (fSeq (fSet 4 (fCall gTuple (fCons (fLc [5] (iSeq (fFld "Order" "own_numbers" (fVar 0))) (gN 5) fYes (fBin opAdd (fVar 5) (fGet2 (fVar 3) (fFn [none, none] F_rest_of (fCons (fVar 2) (fCons (fVar 5) fNil))) (fC (.int 0))))) fNil)))
  (fSeq (fIfS (fNotB (fTr (fFn [none] F_are_numbers (fCons (fVar 4) fNil)))) (fRaise "InvalidOperation") fSkip)
  (fRet (fMk "Order" [none] F_Order___init__ (fCons (fVar 4) fNil))))))))
def F_Order_ends_exchanged : List D → Fr := bodyF [false, false] 6 m_Order_ends_exchanged
def m__law_standing : En → Rs Fl :=
  (fSeq (fSet 2 (fCall gLen (fCons (fVar 0) fNil)))
  (fSeq (fFor (iRg1 (fVar 2)) (gN 3) (fIfS (fTr (fBin opEq (fBin opMod (fCall gInt (fCons (fBin opSub (fBin opIx (fVar 0) (fVar 3)) (fVar 1)) fNil)) (fVar 2)) (fC (.int 0)))) (fRet (fBin opSub (fBin opAdd (fBin opAdd (fVar 3) (fC (.int 1))) (fVar 1)) (fBin opIx (fVar 0) (fVar 3)))) fSkip))
  (fRet (fC .non))))
def F__law_standing : List D → Fr := bodyF [false, false] 4 m__law_standing
def m_brought : En → Rs Fl :=
  (fSeq (fSet 2 (fCall gSortP (fCons (fLc [3, 4] (iSeq (fVar 1)) (gT (gsCons (gN 3) (gsCons (gN 4) gsNil)) 2) fYes (fTup (fCons (fFn [none, none] F_rest_of (fCons (fVar 0) (fCons (fVar 3) fNil))) (fCons (fBin opAdd (fBin opSub (fVar 4) (fVar 3)) (fFn [none, none] F_rest_of (fCons (fVar 0) (fCons (fVar 3) fNil)))) fNil)))) fNil)))
  (fRet (fCall gTuple (fCons (fLc [5, 4] (iSeq (fVar 2)) (gT (gsCons (gN 5) (gsCons (gN 4) gsNil)) 2) fYes (fVar 4)) fNil))))
def F_brought : List D → Fr := bodyF [false, false] 6 m_brought
def m_Order_dual : En → Rs Fl :=
  (fSeq (fSet 1 (fCall gLen (fCons (fFld "Order" "own_numbers" (fVar 0)) fNil)))
  (fSeq (fSetL 2 (fLc [3, 4] (iEn 1 (fFld "Order" "own_numbers" (fVar 0))) (gT (gsCons (gN 3) (gsCons (gN 4) gsNil)) 2) fYes (fTup (fCons (fVar 4) (fCons (fBin opAdd (fVar 3) (fVar 1)) fNil)))))
  (fRet (fMk "Order" [none] F_Order___init__ (fCons (fFn [none, none] F_brought (fCons (fVar 1) (fCons (fVar 2) fNil))) fNil)))))
def F_Order_dual : List D → Fr := bodyF [false] 5 m_Order_dual
def m_Order___eq__ : En → Rs Fl :=
  (fRet (fAnd (fIsi (isC "Order") (fVar 1)) (fBin opEq (fFld "Order" "own_numbers" (fVar 0)) (fFld "Order" "own_numbers" (fVar 1)))))
def F_Order___eq__ : List D → Fr := bodyF [false, false] 2 m_Order___eq__
def u_opEq : D → D → Option D := orG opEq (orG (opOwn "Order" F_Order___eq__ false) opEqDic)
def u_opNe : D → D → Option D := orG opNe (orG (opOwn "Order" F_Order___eq__ true) opNeDic)
def m__law_index_right : En → Rs Fl :=
  (fSeq (fAsg (fTup (fCons (fMk "Order" [none] F_Order___init__ (fCons (fVar 0) fNil)) (fCons (fCall gLen (fCons (fFn [none] F__law_knots (fCons (fVar 0) fNil)) fNil)) fNil))) (gT (gsCons (gN 2) (gsCons (gN 3) gsNil)) 2))
  (fSeq (fPar 4 5 (fFn [none, none] F__law_swapped (fCons (fVar 0) (fCons (fVar 1) fNil))) (fFn [none, none] F__law_ends_changed (fCons (fVar 0) (fCons (fVar 1) fNil))))
  (fSeq (fSet 6 (fLamR 1 [.no sub_InvalidOperation (fRet (fC .non))] (kProp "Order" F_Order_numbers) (fMeth "Order" "starts_exchanged" [none] F_Order_starts_exchanged (fVar 2) (fCons (fVar 1) fNil))))
  (fSeq (fIfS (fTr (fBin u_opNe (fVar 6) (fIf (fTr (fFn [none] F__law_is_order (fCons (fVar 4) fNil))) (fVar 4) (fC .non)))) (fRet (fC (.bl false))) fSkip)
  (fSeq (fIfS (fTr (fBin opIsNot (fVar 6) (fC .non))) (fSeq (fSet 7 (fMk "Order" [none] F_Order___init__ (fCons (fVar 6) fNil)))
  (fSeq (fIfS (fOrB (fTr (fBin u_opNe (fProp "Order" F_Order_level (fVar 7)) (fProp "Order" F_Order_level (fVar 2)))) (fTr (fBin u_opNe (fProp "Order" F_Order_knots (fVar 7)) (fBin opAdd (fVar 3) (fIf (fTr (fBin opGt (fBin opIx (fVar 0) (fBin opSub (fVar 1) (fC (.int 1)))) (fBin opIx (fVar 0) (fVar 1)))) (fUn opNeg (fC (.int 1))) (fC (.int 1))))))) (fRet (fC (.bl false))) fSkip)
  (fIfS (fTr (fBin u_opNe (fMeth "Order" "starts_exchanged" [none] F_Order_starts_exchanged (fVar 7) (fCons (fVar 1) fNil)) (fVar 2))) (fRet (fC (.bl false))) fSkip))) fSkip)
  (fSeq (fSet 6 (fLamR 1 [.no sub_InvalidOperation (fRet (fC .non))] (kProp "Order" F_Order_numbers) (fMeth "Order" "ends_exchanged" [none] F_Order_ends_exchanged (fVar 2) (fCons (fVar 1) fNil))))
  (fSeq (fIfS (fTr (fBin u_opNe (fVar 6) (fIf (fTr (fFn [none] F__law_is_order (fCons (fVar 5) fNil))) (fVar 5) (fC .non)))) (fRet (fC (.bl false))) fSkip)
  (fSeq (fIfS (fTr (fBin opIsNot (fVar 6) (fC .non))) (fSeq (fPar 8 9 (fFn [none, none] F__law_standing (fCons (fVar 0) (fCons (fVar 1) fNil))) (fFn [none, none] F__law_standing (fCons (fVar 0) (fCons (fBin opAdd (fVar 1) (fC (.int 1))) fNil))))
  (fSeq (fIfS (fOrB (fTr (fBin u_opNe (fProp "Order" F_Order_knots (fMk "Order" [none] F_Order___init__ (fCons (fVar 6) fNil))) (fBin opAdd (fVar 3) (fIf (fTr (fBin opLt (fVar 9) (fVar 8))) (fUn opNeg (fC (.int 1))) (fC (.int 1)))))) (fTr (fBin u_opNe (fMeth "Order" "ends_exchanged" [none] F_Order_ends_exchanged (fMk "Order" [none] F_Order___init__ (fCons (fVar 6) fNil)) (fCons (fVar 1) fNil)) (fVar 2)))) (fRet (fC (.bl false))) fSkip)
  (fRet (fBin u_opEq (fMeth "Order" "starts_exchanged" [none] F_Order_starts_exchanged (fProp "Order" F_Order_dual (fVar 2)) (fCons (fVar 1) fNil)) (fProp "Order" F_Order_dual (fMk "Order" [none] F_Order___init__ (fCons (fVar 6) fNil))))))) fSkip)
  (fRet (fBin opIs (fLamR 1 [.no sub_InvalidOperation (fRet (fC .non))] (kProp "Order" F_Order_numbers) (fMeth "Order" "starts_exchanged" [none] F_Order_starts_exchanged (fProp "Order" F_Order_dual (fVar 2)) (fCons (fVar 1) fNil))) (fC .non)))))))))))
def F__law_index_right : List D → Fr := bodyF [false, false] 10 m__law_index_right
def m_law : En → Rs Fl :=
  (fSeq (fFor (iRg1 (fCall gMax (fCons (fC (.int 1)) (fCons (fCall gMin (fCons (fC (.int 3)) (fCons (fCall gLen (fCons (fVar 0) fNil)) fNil))) fNil)))) (gN 1) (fSeq (fSetL 2 (fFn [none, none] F__law_dice (fCons (fVar 0) (fCons (fVar 1) fNil))))
  (fFor (iRg1 (fC (.int 2))) (gN 3) (fSeq (fSet 4 (fFn [some 2, none] F__law_order (fLent 2 (fCons (fBin opAdd (fC (.int 2)) (fFn [some 2, none] F__law_roll (fLent 2 (fCons (fC (.int 7)) fNil)))) fNil))))
  (fIfS (fTr (fBin opNe (fLc [5] (iRg2 (fC (.int 1)) (fCall gLen (fCons (fVar 4) fNil))) (gN 5) (fNotB (fTr (fFn [none, none] F__law_index_right (fCons (fVar 4) (fCons (fVar 5) fNil))))) (fVar 5)) (fLst fNil))) (fRet (fC (.bl false))) fSkip)))))
  (fSeq (fSet 6 (fMk "Order" [none] F_Order___init__ (fCons (fTup (fCons (fC (.int 4)) (fCons (fC (.int 3)) (fCons (fC (.int 6)) (fCons (fC (.int 5)) fNil))))) fNil)))
  (fSeq (fSet 7 (fLst (fCons (fProp "Order" F_Order_numbers (fMeth "Order" "starts_exchanged" [none] F_Order_starts_exchanged (fVar 6) (fCons (fC (.int 1)) fNil))) (fCons (fProp "Order" F_Order_numbers (fMeth "Order" "ends_exchanged" [none] F_Order_ends_exchanged (fVar 6) (fCons (fC (.int 1)) fNil))) (fCons (fProp "Order" F_Order_knots (fVar 6)) (fCons (fProp "Order" F_Order_knots (fMeth "Order" "ends_exchanged" [none] F_Order_ends_exchanged (fVar 6) (fCons (fC (.int 1)) fNil))) fNil))))))
  (fRet (fBin opEq (fRepr (fVar 7)) (fRepr (fLst (fCons (fTup (fCons (fC (.int 3)) (fCons (fC (.int 4)) (fCons (fC (.int 6)) (fCons (fC (.int 5)) fNil))))) (fCons (fTup (fCons (fC (.int 4)) (fCons (fC (.int 3)) (fCons (fC (.int 5)) (fCons (fC (.int 6)) fNil))))) (fCons (fC (.int 2)) (fCons (fC (.int 1)) fNil)))))))))))
def F_law : List D → Fr := bodyF [false] 8 m_law
section
variable {P : Program} {w : World} {K : PySem.W.Frag} {mg : Str → Option Value} {cl : Cl}
theorem sub_InvalidOperation_ok (T : Txt K mg cl) : SubOk K cl (He.ga K "InvalidOperation") sub_InvalidOperation := fun c C hc b hb => by
  unfold sub_InvalidOperation at hb
  by_cases e_InvalidOperation : c = "InvalidOperation"
  · subst e_InvalidOperation
    rw [if_pos rfl] at hb
    cases hb
    have := T.cl_InvalidOperation.symm.trans hc
    cases this
    exact T.m_InvalidOperation_InvalidOperation
  rw [if_neg e_InvalidOperation] at hb
  by_cases e_InvalidOrder : c = "InvalidOrder"
  · subst e_InvalidOrder
    rw [if_pos rfl] at hb
    cases hb
    have := T.cl_InvalidOrder.symm.trans hc
    cases this
    exact T.m_InvalidOrder_InvalidOperation
  rw [if_neg e_InvalidOrder] at hb
  cases hb
theorem S__law_told : FnScope ["call"] ["call"] (defScope s__law_told) := ⟨rfl, rfl, rfl, by decide +kernel, rfl, by decide +kernel, by decide +kernel⟩
theorem S__law_dice : FnScope ["script", "spot", "cell", "left"] ["script", "spot"] (defScope s__law_dice) := ⟨rfl, rfl, rfl, by decide +kernel, rfl, by decide +kernel, by decide +kernel⟩
theorem ok__law_dice (T : Txt K mg cl) : OkF P w K mg (mkT mkA K) 1 (He.ga K "_law_dice") ["script", "spot"] (spL K cl [false, false] F__law_dice) := by
  obtain ⟨fd, F⟩ := T.u__law_dice
  refine ok_mk F (fun _ _ _ _ _ _ us hl => match us, hl with | [_, _], _ => rfl) (fun base hB => fn_okL F S__law_dice rfl (by decide) (fun cdv hcd A outer s H E H0 G0 W B hr => ?_))
  have hu := hu_of hr.r
  have hu64 := hr.units
  have hu65 := hu65_of hr
  have tk := takes_of (X := cxOf (L2.CX P w) P w K mg base ["script", "spot", "cell", "left"] "_law_dice" (defScope s__law_dice) (He.ga K "_law_dice") cdv A outer s H E) rfl rfl rfl rfl
  exact (sss_cons (ss_set 2 S__law_dice.nd (se_if (sb_cmp op_ltU bs_lt (se_var 1) (se_callB ca_len call_lenU T.b_len (by decide +kernel) (sa_cons (se_var 0) sa_nil)) (nomark _)) (se_callT ca_int call_int1 T.b_int (by decide +kernel) (sa_cons (se_ix hu rfl (se_var 0) (se_var 1) (by intro _ _; rfl)) sa_nil)) (se_bin op_addU bs_add (se_bin op_mulU bs_mul se_int (se_var 1)) se_int)))
      (sss_cons (ss_set 3 S__law_dice.nd (se_bin op_mod bs_mod (se_callB ca_max (call_max2 rfl) T.b_max (by decide +kernel) (sa_cons se_int (sa_cons (se_bin op_sub bs_sub (se_callB ca_abs call_abs T.b_abs (by decide +kernel) (sa_cons (se_var 2) sa_nil)) (se_bin op_pow bs_pow se_int se_int)) sa_nil))) (se_bin op_mulU bs_mul (se_bin op_pow bs_pow se_int se_int) (se_bin op_pow bs_pow se_int se_int))))
      (sss_one (ss_retL (sl_lst (sa_cons (se_var 3) (sa_cons (se_bin op_addU bs_add (se_bin op_addU bs_add (se_bin op_addU bs_add (se_bin op_mulU bs_mul (se_bin op_mod bs_mod (se_callB ca_abs call_abs T.b_abs (by decide +kernel) (sa_cons (se_var 2) sa_nil)) se_int) se_int) (se_bin op_mulU bs_mul se_int (se_var 1))) (se_bin op_mulU bs_mul se_int (se_callT ca_int call_int1 T.b_int (by decide +kernel) (sa_cons (se_cmp op_ltU bs_lt (se_var 2) se_int (nomark _)) sa_nil)))) se_int) (sa_cons se_int sa_nil))))))))
theorem S__law_roll : FnScope ["dice", "total", "found", "one", "two"] ["dice", "total"] (defScope s__law_roll) := ⟨rfl, rfl, rfl, by decide +kernel, rfl, by decide +kernel, by decide +kernel⟩
theorem ok__law_roll (T : Txt K mg cl) : OkF P w K mg (mkT mkA K) 1 (He.ga K "_law_roll") ["dice", "total"] (spF K cl [true, false] F__law_roll) := by
  obtain ⟨fd, F⟩ := T.u__law_roll
  refine ok_mk F (fun _ _ _ _ _ _ us hl => match us, hl with | [_, _], _ => rfl) (fun base hB => fn_ok F S__law_roll rfl (by decide) (fun cdv hcd A outer s H E H0 G0 W B hr => ?_))
  have hu := hu_of hr.r
  have hu64 := hr.units
  have hu65 := hu65_of hr
  have tk := takes_of (X := cxOf (L2.CX P w) P w K mg base ["dice", "total", "found", "one", "two"] "_law_roll" (defScope s__law_roll) (He.ga K "_law_roll") cdv A outer s H E) rfl rfl rfl rfl
  exact (sss_cons (ss_if (sb_cmp op_gt bs_gt (se_ixO 0 se_int (by intro _ _; rfl)) se_int (nomark _)) (sss_cons (ss_set 2 S__law_roll.nd (se_bin op_mod bs_mod (se_callT ca_int call_int1 T.b_int (by decide +kernel) (sa_cons (se_ixO 0 se_int (by intro _ _; rfl)) sa_nil)) (se_var 1)))
      (sss_cons (ss_sto 0 (se_bin op_fdivW bs_div (se_ixO 0 se_int (by intro _ _; rfl)) (se_var 1)) se_int)
      (sss_one (ss_ret (se_var 2))))) sss_nil)
      (sss_cons (ss_sto 0 (se_bin op_addU bs_add (se_ixO 0 se_int (by intro _ _; rfl)) se_int) se_int)
      (sss_cons (ss_set 3 S__law_roll.nd (se_bin op_mod bs_mod (se_callT ca_int call_int1 T.b_int (by decide +kernel) (sa_cons (se_bin op_addU bs_add (se_ixO 0 se_int (by intro _ _; rfl)) (se_bin op_mulU bs_mul se_int (se_ixO 0 se_int (by intro _ _; rfl)))) sa_nil)) se_int))
      (sss_cons (ss_set 4 S__law_roll.nd (se_bin op_addU bs_add (se_bin op_mulU bs_mul (se_bin op_mod bs_mod (se_callT ca_int call_int1 T.b_int (by decide +kernel) (sa_cons (se_bin op_addU bs_add (se_bin op_mulU bs_mul (se_var 3) (se_var 3)) (se_bin op_mulU bs_mul se_int (se_ixO 0 se_int (by intro _ _; rfl)))) sa_nil)) se_int) se_int) (se_var 3)))
      (sss_one (ss_ret (se_bin op_mod bs_mod (se_callT ca_int call_int1 T.b_int (by decide +kernel) (sa_cons (se_bin op_fdivW bs_div (se_var 4) se_int) sa_nil)) (se_var 1))))))))
theorem S__law_mixed : FnScope ["dice", "items", "left", "found", "turn"] ["dice", "items"] (defScope s__law_mixed) := ⟨rfl, rfl, rfl, by decide +kernel, rfl, by decide +kernel, by decide +kernel⟩
theorem ok__law_mixed (T : Txt K mg cl) : OkF P w K mg (mkT mkA K) 2 (He.ga K "_law_mixed") ["dice", "items"] (spF K cl [true, false] F__law_mixed) := by
  obtain ⟨fd, F⟩ := T.u__law_mixed
  obtain ⟨fd__law_roll, _, b__law_roll, G__law_roll⟩ := ok__law_roll (P := P) (w := w) T
  refine ok_mk F (fun _ _ _ _ _ _ us hl => match us, hl with | [_, _], _ => rfl) (fun base hB => fn_ok F S__law_mixed rfl (by decide) (fun cdv hcd A outer s H E H0 G0 W B hr => ?_))
  have F__law_roll := G__law_roll base hB
  have hu := hu_of hr.r
  have hu64 := hr.units
  have hu65 := hu65_of hr
  have tk := takes_of (X := cxOf (L2.CX P w) P w K mg base ["dice", "items", "left", "found", "turn"] "_law_mixed" (defScope s__law_mixed) (He.ga K "_law_mixed") cdv A outer s H E) rfl rfl rfl rfl
  exact (sss_cons (ss_parL 2 3 rfl S__law_mixed.nd (by decide) (sl_callT cf_list call_list_of T.b_list (by decide +kernel) (sa_cons (se_var 1) sa_nil)) (sl_lst sa_nil))
      (sss_cons (ss_for (vs := [4]) (passes_of rfl) rfl (si_range1 T.b_range (se_callB ca_len call_lenU T.b_len (by decide +kernel) (sa_cons (se_var 1) sa_nil))) (sg_name 4 S__law_mixed.nd) (sss_one (ss_exp (se_app 3 (se_popAt 2 (se_fn (as := [some 0, none]) F__law_roll (hr.mono (by decide)) tk T.g__law_roll T.k__law_roll b__law_roll (sab_b 0 (sab_v (se_lenO 2 T.b_len) sab_nil))) mt_popAt) mt_append))))
      (sss_one (ss_ret (se_var 3)))))
theorem S__law_order : FnScope ["dice", "times", "images", "found", "at", "place", "falls"] ["dice", "times"] (defScope s__law_order) := ⟨rfl, rfl, rfl, by decide +kernel, rfl, by decide +kernel, by decide +kernel⟩
theorem ok__law_order (T : Txt K mg cl) : OkF P w K mg (mkT mkA K) 3 (He.ga K "_law_order") ["dice", "times"] (spF K cl [true, false] F__law_order) := by
  obtain ⟨fd, F⟩ := T.u__law_order
  obtain ⟨fd__law_mixed, _, b__law_mixed, G__law_mixed⟩ := ok__law_mixed (P := P) (w := w) T
  obtain ⟨fd__law_roll, _, b__law_roll, G__law_roll⟩ := ok__law_roll (P := P) (w := w) T
  refine ok_mk F (fun _ _ _ _ _ _ us hl => match us, hl with | [_, _], _ => rfl) (fun base hB => fn_ok F S__law_order rfl (by decide) (fun cdv hcd A outer s H E H0 G0 W B hr => ?_))
  have F__law_mixed := G__law_mixed base hB
  have F__law_roll := G__law_roll base hB
  have hu := hu_of hr.r
  have hu64 := hr.units
  have hu65 := hu65_of hr
  have tk := takes_of (X := cxOf (L2.CX P w) P w K mg base ["dice", "times", "images", "found", "at", "place", "falls"] "_law_order" (defScope s__law_order) (He.ga K "_law_order") cdv A outer s H E) rfl rfl rfl rfl
  exact (sss_cons (ss_set 2 S__law_order.nd (se_fn (as := [some 0, none]) F__law_mixed (hr.mono (by decide)) tk T.g__law_mixed T.k__law_mixed b__law_mixed (sab_b 0 (sab_v (se_l (sl_lrg2 rfl T.b_list T.b_range se_int (se_bin op_addU bs_add (se_var 1) se_int))) sab_nil))))
      (sss_cons (ss_setL 3 S__law_order.nd (sl_lst sa_nil))
      (sss_cons (ss_for (vs := [4]) (passes_of rfl) rfl (si_range1 T.b_range (se_var 1)) (sg_name 4 S__law_order.nd) (sss_cons (ss_set 5 S__law_order.nd (se_ix hu rfl (se_var 2) (se_var 4) (by intro _ _; rfl)))
      (sss_cons (ss_set 6 S__law_order.nd (se_or (se_cmp op_ltU bs_lt (se_var 5) (se_bin op_addU bs_add (se_var 4) se_int) (nomark _)) (se_one (se_and (se_cmp (op_eqD hu64) bs_eq (se_var 5) (se_bin op_addU bs_add (se_var 4) se_int) (nomark _)) (se_one (se_cmp (op_eqD hu64) bs_eq (se_fn (as := [some 0, none]) F__law_roll (hr.mono (by decide)) tk T.g__law_roll T.k__law_roll b__law_roll (sab_b 0 (sab_v se_int sab_nil))) se_int (nomark _)))))))
      (sss_one (ss_exp (se_app 3 (se_bin op_addU bs_add (se_var 5) (se_bin op_mulU bs_mul (se_var 1) (se_callT ca_int call_int1 T.b_int (by decide +kernel) (sa_cons (se_var 6) sa_nil)))) mt_append))))))
      (sss_one (ss_ret (se_callT ca_tuple call_tuple_of T.b_tuple (by decide +kernel) (sa_cons (se_var 3) sa_nil)))))))
theorem S_is_whole : FnScope ["value"] ["value"] (defScope s_is_whole) := ⟨rfl, rfl, rfl, by decide +kernel, rfl, by decide +kernel, by decide +kernel⟩
theorem ok_is_whole (T : Txt K mg cl) : OkF P w K mg (mkT mkA K) 1 (He.ga K "is_whole") ["value"] (spF K cl [false] F_is_whole) := by
  obtain ⟨fd, F⟩ := T.u_is_whole
  refine ok_mk F (fun _ _ _ _ _ _ us hl => match us, hl with | [_], _ => rfl) (fun base hB => fn_ok F S_is_whole rfl (by decide) (fun cdv hcd A outer s H E H0 G0 W B hr => ?_))
  have hu := hu_of hr.r
  have hu64 := hr.units
  have hu65 := hu65_of hr
  have tk := takes_of (X := cxOf (L2.CX P w) P w K mg base ["value"] "is_whole" (defScope s_is_whole) (He.ga K "is_whole") cdv A outer s H E) rfl rfl rfl rfl
  exact (sss_one (ss_ret (se_and (se_isi rfl isi_int (se_var 0) T.b_isinstance T.b_int (by decide +kernel)) (se_one (se_not (se_isi rfl isi_bool (se_var 0) T.b_isinstance T.b_bool (by decide +kernel)))))))
theorem S_is_integer : FnScope ["value"] ["value"] (defScope s_is_integer) := ⟨rfl, rfl, rfl, by decide +kernel, rfl, by decide +kernel, by decide +kernel⟩
theorem ok_is_integer (T : Txt K mg cl) : OkF P w K mg (mkT mkA K) 2 (He.ga K "is_integer") ["value"] (spF K cl [false] F_is_integer) := by
  obtain ⟨fd, F⟩ := T.u_is_integer
  obtain ⟨fd_is_whole, _, b_is_whole, G_is_whole⟩ := ok_is_whole (P := P) (w := w) T
  obtain ⟨tt_GREAT, t_GREAT⟩ := T.c_GREAT
  refine ok_mk F (fun _ _ _ _ _ _ us hl => match us, hl with | [_], _ => rfl) (fun base hB => fn_ok F S_is_integer rfl (by decide) (fun cdv hcd A outer s H E H0 G0 W B hr => ?_))
  have F_is_whole := G_is_whole base hB
  have hu := hu_of hr.r
  have hu64 := hr.units
  have hu65 := hu65_of hr
  have tk := takes_of (X := cxOf (L2.CX P w) P w K mg base ["value"] "is_integer" (defScope s_is_integer) (He.ga K "is_integer") cdv A outer s H E) rfl rfl rfl rfl
  exact (sss_one (ss_ret (se_and (se_fn (as := [none]) F_is_whole (hr.mono (by decide)) tk T.g_is_whole T.k_is_whole b_is_whole (sab_v (se_var 0) sab_nil)) (se_one (se_chain op_ltU op_ltU cs_lt bs_lt (se_neg (se_globI t_GREAT)) (se_var 0) (se_globI t_GREAT))))))
theorem S_rest_of : FnScope ["many", "number"] ["many", "number"] (defScope s_rest_of) := ⟨rfl, rfl, rfl, by decide +kernel, rfl, by decide +kernel, by decide +kernel⟩
theorem ok_rest_of (T : Txt K mg cl) : OkF P w K mg (mkT mkA K) 1 (He.ga K "rest_of") ["many", "number"] (spF K cl [false, false] F_rest_of) := by
  obtain ⟨fd, F⟩ := T.u_rest_of
  refine ok_mk F (fun _ _ _ _ _ _ us hl => match us, hl with | [_, _], _ => rfl) (fun base hB => fn_ok F S_rest_of rfl (by decide) (fun cdv hcd A outer s H E H0 G0 W B hr => ?_))
  have hu := hu_of hr.r
  have hu64 := hr.units
  have hu65 := hu65_of hr
  have tk := takes_of (X := cxOf (L2.CX P w) P w K mg base ["many", "number"] "rest_of" (defScope s_rest_of) (He.ga K "rest_of") cdv A outer s H E) rfl rfl rfl rfl
  exact (sss_one (ss_ret (se_bin op_addU bs_add (se_bin op_mod bs_mod (se_bin op_sub bs_sub (se_var 1) se_int) (se_var 0)) se_int)))
theorem S_are_numbers : FnScope ["value", "number", "many", "index"] ["value"] (defScope s_are_numbers) := ⟨rfl, rfl, rfl, by decide +kernel, rfl, by decide +kernel, by decide +kernel⟩
theorem ok_are_numbers (T : Txt K mg cl) : OkF P w K mg (mkT mkA K) 3 (He.ga K "are_numbers") ["value"] (spF K cl [false] F_are_numbers) := by
  obtain ⟨fd, F⟩ := T.u_are_numbers
  obtain ⟨fd_is_integer, _, b_is_integer, G_is_integer⟩ := ok_is_integer (P := P) (w := w) T
  obtain ⟨fd_rest_of, _, b_rest_of, G_rest_of⟩ := ok_rest_of (P := P) (w := w) T
  obtain ⟨tt_MOST, t_MOST⟩ := T.c_MOST
  refine ok_mk F (fun _ _ _ _ _ _ us hl => match us, hl with | [_], _ => rfl) (fun base hB => fn_ok F S_are_numbers rfl (by decide) (fun cdv hcd A outer s H E H0 G0 W B hr => ?_))
  have F_is_integer := G_is_integer base hB
  have F_rest_of := G_rest_of base hB
  have hu := hu_of hr.r
  have hu64 := hr.units
  have hu65 := hu65_of hr
  have tk := takes_of (X := cxOf (L2.CX P w) P w K mg base ["value", "number", "many", "index"] "are_numbers" (defScope s_are_numbers) (He.ga K "are_numbers") cdv A outer s H E) rfl rfl rfl rfl
  exact (sss_cons (ss_if (sb_w (sw_or (sb_not (sb_val (se_isi rfl isi_tup (se_var 0) T.b_isinstance T.b_tuple (by decide +kernel)))) (sw_or1 (sb_not (sb_chain op_le op_le cs_le bs_le se_int (se_callB ca_len call_lenU T.b_len (by decide +kernel) (sa_cons (se_var 0) sa_nil)) (se_globI t_MOST)))))) (sss_one (ss_ret se_bl)) sss_nil)
      (sss_cons (ss_if (sb_not (sb_val (se_callB ca_all (cr_all rfl) T.b_all (by decide +kernel) (sa_cons (se_l (sl_lc (own := ([("number", 1)] : List (Str × Nat))) (vs := [1]) rfl S_are_numbers.nd (si_seq rfl (se_var 0)) (blkOk_by (N := ["value", "number", "many", "index"]) (sc := defScope s_are_numbers) (by decide +kernel)) rfl (fun _ _ _ _ _ => (sg_name 1 S_are_numbers.nd)) (fun _ _ _ _ _ => sts_nil) (fun _ _ _ _ _ => (se_fn (as := [none]) F_is_integer (hr.mono (by decide)) L2.takes0 T.g_is_integer T.k_is_integer b_is_integer (sab_v (se_var 1) sab_nil))))) sa_nil)))) (sss_one (ss_ret se_bl)) sss_nil)
      (sss_cons (ss_set 2 S_are_numbers.nd (se_callB ca_len call_lenU T.b_len (by decide +kernel) (sa_cons (se_var 0) sa_nil)))
      (sss_cons (ss_if (sb_not (sb_val (se_callB ca_all (cr_all rfl) T.b_all (by decide +kernel) (sa_cons (se_l (sl_lc (own := ([("index", 3), ("number", 1)] : List (Str × Nat))) (vs := [3, 1]) rfl S_are_numbers.nd (si_enStart (k0 := 1) rfl T.b_enumerate (se_var 0)) (blkOk_by (N := ["value", "number", "many", "index"]) (sc := defScope s_are_numbers) (by decide +kernel)) rfl (fun _ _ _ _ _ => (sg_tup rfl rfl (sgs_cons (sg_name 3 S_are_numbers.nd) (sgs_cons (sg_name 1 S_are_numbers.nd) sgs_nil)))) (fun _ _ _ _ _ => sts_nil) (fun _ _ _ _ _ => (se_chain op_le op_le cs_le bs_le (se_var 3) (se_var 1) (se_bin op_addU bs_add (se_var 3) (se_var 2)))))) sa_nil)))) (sss_one (ss_ret se_bl)) sss_nil)
      (sss_one (ss_ret (se_cmp (op_eqD hu64) bs_eq (se_lenSet rfl rfl T.b_len T.b_set (se_l (sl_lc (own := ([("number", 1)] : List (Str × Nat))) (vs := [1]) rfl S_are_numbers.nd (si_seq rfl (se_var 0)) (blkOk_by (N := ["value", "number", "many", "index"]) (sc := defScope s_are_numbers) (by decide +kernel)) rfl (fun _ _ _ _ _ => (sg_name 1 S_are_numbers.nd)) (fun _ _ _ _ _ => sts_nil) (fun _ _ _ _ _ => (se_fn (as := [none, none]) F_rest_of (hr.mono (by decide)) L2.takes0 T.g_rest_of T.k_rest_of b_rest_of (sab_v (se_var 2) (sab_v (se_var 1) sab_nil))))))) (se_var 2) (nomark _))))))))
theorem S_Order___init__ : FnScope ["self", "numbers"] ["self", "numbers"] (defScope s_Order___init__) := ⟨rfl, rfl, rfl, by decide +kernel, rfl, by decide +kernel, by decide +kernel⟩
theorem ok_Order___init__ (T : Txt K mg cl) : OkF P w K mg (mkT mkA K) 4 (He.ma K (He.ga K "Order") "__init__") ["self", "numbers"] (spF K cl [true, false] F_Order___init__) := by
  obtain ⟨fd, F⟩ := T.u_Order___init__
  obtain ⟨fd_are_numbers, _, b_are_numbers, G_are_numbers⟩ := ok_are_numbers (P := P) (w := w) T
  refine ok_mk F (fun _ _ _ _ _ _ us hl => match us, hl with | [_, _], _ => rfl) (fun base hB => fn_ok F S_Order___init__ rfl (by decide) (fun cdv hcd A outer s H E H0 G0 W B hr => ?_))
  have F_are_numbers := G_are_numbers base hB
  have hu := hu_of hr.r
  have hu64 := hr.units
  have hu65 := hu65_of hr
  have tk := takes_of (X := cxOf (L2.CX P w) P w K mg base ["self", "numbers"] "Order.__init__" (defScope s_Order___init__) (He.ma K (He.ga K "Order") "__init__") cdv A outer s H E) rfl rfl rfl rfl
  exact (sss_cons (ss_if (sb_not (sb_val (se_fn (as := [none]) F_are_numbers (hr.mono (by decide)) tk T.g_are_numbers T.k_are_numbers b_are_numbers (sab_v (se_var 1) sab_nil)))) (sss_one (ss_raise rfl tk PySem.F.excBase_ValueError T.x_InvalidOrder)) sss_nil)
      (sss_one (ss_fld 0 rfl T.cn_Order T.na_Order_own_numbers (se_var 1))))
theorem S__law_value : FnScope ["numbers", "index", "times", "turns"] ["numbers", "index"] (defScope s__law_value) := ⟨rfl, rfl, rfl, by decide +kernel, rfl, by decide +kernel, by decide +kernel⟩
theorem ok__law_value (T : Txt K mg cl) : OkF P w K mg (mkT mkA K) 1 (He.ga K "_law_value") ["numbers", "index"] (spF K cl [false, false] F__law_value) := by
  obtain ⟨fd, F⟩ := T.u__law_value
  refine ok_mk F (fun _ _ _ _ _ _ us hl => match us, hl with | [_, _], _ => rfl) (fun base hB => fn_ok F S__law_value rfl (by decide) (fun cdv hcd A outer s H E H0 G0 W B hr => ?_))
  have hu := hu_of hr.r
  have hu64 := hr.units
  have hu65 := hu65_of hr
  have tk := takes_of (X := cxOf (L2.CX P w) P w K mg base ["numbers", "index", "times", "turns"] "_law_value" (defScope s__law_value) (He.ga K "_law_value") cdv A outer s H E) rfl rfl rfl rfl
  exact (sss_cons (ss_set 2 S__law_value.nd (se_callB ca_len call_lenU T.b_len (by decide +kernel) (sa_cons (se_var 0) sa_nil)))
      (sss_cons (ss_set 3 S__law_value.nd (se_bin op_fdivW bs_div (se_bin op_sub bs_sub (se_var 1) se_int) (se_var 2)))
      (sss_one (ss_ret (se_bin op_addU bs_add (se_ix hu rfl (se_var 0) (se_bin op_sub bs_sub (se_bin op_sub bs_sub (se_var 1) se_int) (se_bin op_mulU bs_mul (se_var 3) (se_var 2))) (by intro _ _; rfl)) (se_bin op_mulU bs_mul (se_var 3) (se_var 2)))))))
theorem S__law_knots : FnScope ["numbers", "found", "times", "i", "j"] ["numbers"] (defScope s__law_knots) := ⟨rfl, rfl, rfl, by decide +kernel, rfl, by decide +kernel, by decide +kernel⟩
theorem ok__law_knots (T : Txt K mg cl) : OkF P w K mg (mkT mkA K) 2 (He.ga K "_law_knots") ["numbers"] (spF K cl [false] F__law_knots) := by
  obtain ⟨fd, F⟩ := T.u__law_knots
  obtain ⟨fd__law_value, _, b__law_value, G__law_value⟩ := ok__law_value (P := P) (w := w) T
  refine ok_mk F (fun _ _ _ _ _ _ us hl => match us, hl with | [_], _ => rfl) (fun base hB => fn_ok F S__law_knots rfl (by decide) (fun cdv hcd A outer s H E H0 G0 W B hr => ?_))
  have F__law_value := G__law_value base hB
  have hu := hu_of hr.r
  have hu64 := hr.units
  have hu65 := hu65_of hr
  have tk := takes_of (X := cxOf (L2.CX P w) P w K mg base ["numbers", "found", "times", "i", "j"] "_law_knots" (defScope s__law_knots) (He.ga K "_law_knots") cdv A outer s H E) rfl rfl rfl rfl
  exact (sss_cons (ss_parN 1 2 rfl S__law_knots.nd (by decide) (sl_lst sa_nil) (se_callB ca_len call_lenU T.b_len (by decide +kernel) (sa_cons (se_var 0) sa_nil)))
      (sss_cons (ss_for (vs := [3]) (passes_of rfl) rfl (si_range2 T.b_range se_int (se_bin op_addU bs_add (se_var 2) se_int)) (sg_name 3 S__law_knots.nd) (sss_one (ss_for (vs := [4]) (passes_of rfl) rfl (si_range2 T.b_range (se_bin op_addU bs_add (se_var 3) se_int) (se_bin op_addU bs_add (se_var 3) (se_var 2))) (sg_name 4 S__law_knots.nd) (sss_one (ss_if (sb_cmp op_gt bs_gt (se_fn (as := [none, none]) F__law_value (hr.mono (by decide)) tk T.g__law_value T.k__law_value b__law_value (sab_v (se_var 0) (sab_v (se_var 3) sab_nil))) (se_fn (as := [none, none]) F__law_value (hr.mono (by decide)) tk T.g__law_value T.k__law_value b__law_value (sab_v (se_var 0) (sab_v (se_var 4) sab_nil))) (nomark _)) (sss_one (ss_exp (se_app 1 (se_tup (sa_cons (se_var 3) (sa_cons (se_var 4) sa_nil))) mt_append))) sss_nil)))))
      (sss_one (ss_ret (se_var 1)))))
theorem S__law_swapped : FnScope ["numbers", "index", "found"] ["numbers", "index"] (defScope s__law_swapped) := ⟨rfl, rfl, rfl, by decide +kernel, rfl, by decide +kernel, by decide +kernel⟩
theorem ok__law_swapped (T : Txt K mg cl) : OkF P w K mg (mkT mkA K) 1 (He.ga K "_law_swapped") ["numbers", "index"] (spF K cl [false, false] F__law_swapped) := by
  obtain ⟨fd, F⟩ := T.u__law_swapped
  refine ok_mk F (fun _ _ _ _ _ _ us hl => match us, hl with | [_, _], _ => rfl) (fun base hB => fn_ok F S__law_swapped rfl (by decide) (fun cdv hcd A outer s H E H0 G0 W B hr => ?_))
  have hu := hu_of hr.r
  have hu64 := hr.units
  have hu65 := hu65_of hr
  have tk := takes_of (X := cxOf (L2.CX P w) P w K mg base ["numbers", "index", "found"] "_law_swapped" (defScope s__law_swapped) (He.ga K "_law_swapped") cdv A outer s H E) rfl rfl rfl rfl
  exact (sss_cons (ss_setL 2 S__law_swapped.nd (sl_callT cf_list call_list_of T.b_list (by decide +kernel) (sa_cons (se_var 0) sa_nil)))
      (sss_cons (ss_sto 2 (se_ix hu rfl (se_var 0) (se_var 1) (by intro _ _; rfl)) (se_bin op_sub bs_sub (se_var 1) se_int))
      (sss_cons (ss_sto 2 (se_ix hu rfl (se_var 0) (se_bin op_sub bs_sub (se_var 1) se_int) (by intro _ _; rfl)) (se_var 1))
      (sss_one (ss_ret (se_callT ca_tuple call_tuple_of T.b_tuple (by decide +kernel) (sa_cons (se_var 2) sa_nil)))))))
theorem S__law_ends_changed : FnScope ["numbers", "index", "times", "found", "number"] ["numbers", "index"] (defScope s__law_ends_changed) := ⟨rfl, rfl, rfl, by decide +kernel, rfl, by decide +kernel, by decide +kernel⟩
theorem ok__law_ends_changed (T : Txt K mg cl) : OkF P w K mg (mkT mkA K) 1 (He.ga K "_law_ends_changed") ["numbers", "index"] (spF K cl [false, false] F__law_ends_changed) := by
  obtain ⟨fd, F⟩ := T.u__law_ends_changed
  refine ok_mk F (fun _ _ _ _ _ _ us hl => match us, hl with | [_, _], _ => rfl) (fun base hB => fn_ok F S__law_ends_changed rfl (by decide) (fun cdv hcd A outer s H E H0 G0 W B hr => ?_))
  have hu := hu_of hr.r
  have hu64 := hr.units
  have hu65 := hu65_of hr
  have tk := takes_of (X := cxOf (L2.CX P w) P w K mg base ["numbers", "index", "times", "found", "number"] "_law_ends_changed" (defScope s__law_ends_changed) (He.ga K "_law_ends_changed") cdv A outer s H E) rfl rfl rfl rfl
  exact (sss_cons (ss_parM 2 3 rfl S__law_ends_changed.nd (by decide) (se_callB ca_len call_lenU T.b_len (by decide +kernel) (sa_cons (se_var 0) sa_nil)) (sl_lst sa_nil))
      (sss_cons (ss_for (vs := [4]) (passes_of rfl) rfl (si_seq rfl (se_var 0)) (sg_name 4 S__law_ends_changed.nd) (sss_one (ss_if (sb_cmp (op_eqD hu64) bs_eq (se_bin op_mod bs_mod (se_callT ca_int call_int1 T.b_int (by decide +kernel) (sa_cons (se_bin op_sub bs_sub (se_var 4) (se_var 1)) sa_nil)) (se_var 2)) se_int (nomark _)) (sss_one (ss_exp (se_app 3 (se_bin op_addU bs_add (se_var 4) se_int) mt_append))) (sss_one (ss_exp (se_app 3 (se_if (sb_cmp (op_eqD hu64) bs_eq (se_bin op_mod bs_mod (se_callT ca_int call_int1 T.b_int (by decide +kernel) (sa_cons (se_bin op_sub bs_sub (se_bin op_sub bs_sub (se_var 4) (se_var 1)) se_int) sa_nil)) (se_var 2)) se_int (nomark _)) (se_bin op_sub bs_sub (se_var 4) se_int) (se_var 4)) mt_append))))))
      (sss_one (ss_ret (se_callT ca_tuple call_tuple_of T.b_tuple (by decide +kernel) (sa_cons (se_var 3) sa_nil))))))
theorem S_Order_neighbours_checked : FnScope ["self", "index"] ["self", "index"] (defScope s_Order_neighbours_checked) := ⟨rfl, rfl, rfl, by decide +kernel, rfl, by decide +kernel, by decide +kernel⟩
theorem ok_Order_neighbours_checked (T : Txt K mg cl) : OkF P w K mg (mkT mkA K) 3 (He.ma K (He.ga K "Order") "neighbours_checked") ["self", "index"] (spF K cl [false, false] F_Order_neighbours_checked) := by
  obtain ⟨fd, F⟩ := T.u_Order_neighbours_checked
  obtain ⟨fd_is_integer, _, b_is_integer, G_is_integer⟩ := ok_is_integer (P := P) (w := w) T
  refine ok_mk F (fun _ _ _ _ _ _ us hl => match us, hl with | [_, _], _ => rfl) (fun base hB => fn_ok F S_Order_neighbours_checked rfl (by decide) (fun cdv hcd A outer s H E H0 G0 W B hr => ?_))
  have F_is_integer := G_is_integer base hB
  have hu := hu_of hr.r
  have hu64 := hr.units
  have hu65 := hu65_of hr
  have tk := takes_of (X := cxOf (L2.CX P w) P w K mg base ["self", "index"] "Order.neighbours_checked" (defScope s_Order_neighbours_checked) (He.ma K (He.ga K "Order") "neighbours_checked") cdv A outer s H E) rfl rfl rfl rfl
  exact (sss_one (ss_if (sb_w (sw_or (sb_not (sb_val (se_fn (as := [none]) F_is_integer (hr.mono (by decide)) tk T.g_is_integer T.k_is_integer b_is_integer (sab_v (se_var 1) sab_nil)))) (sw_or1 (sb_not (sb_chain op_le op_ltU cs_le bs_lt se_int (se_var 1) (se_callB ca_len call_lenU T.b_len (by decide +kernel) (sa_cons (se_fld rfl T.cn_Order T.na_Order_own_numbers (se_var 0)) sa_nil))))))) (sss_one ss_stuck) sss_nil))
theorem S_Order_starts_exchanged : FnScope ["self", "index", "row"] ["self", "index"] (defScope s_Order_starts_exchanged) := ⟨rfl, rfl, rfl, by decide +kernel, rfl, by decide +kernel, by decide +kernel⟩
theorem ok_Order_starts_exchanged (T : Txt K mg cl) : OkF P w K mg (mkT mkA K) 6 (He.ma K (He.ga K "Order") "starts_exchanged") ["self", "index"] (spF K cl [false, false] F_Order_starts_exchanged) := by
  obtain ⟨fd, F⟩ := T.u_Order_starts_exchanged
  obtain ⟨fd_Order_neighbours_checked, _, b_Order_neighbours_checked, G_Order_neighbours_checked⟩ := ok_Order_neighbours_checked (P := P) (w := w) T
  obtain ⟨fd_are_numbers, _, b_are_numbers, G_are_numbers⟩ := ok_are_numbers (P := P) (w := w) T
  obtain ⟨fd_Order___init__, _, b_Order___init__, G_Order___init__⟩ := ok_Order___init__ (P := P) (w := w) T
  refine ok_mk F (fun _ _ _ _ _ _ us hl => match us, hl with | [_, _], _ => rfl) (fun base hB => fn_ok F S_Order_starts_exchanged rfl (by decide) (fun cdv hcd A outer s H E H0 G0 W B hr => ?_))
  have F_Order_neighbours_checked := G_Order_neighbours_checked base hB
  have F_are_numbers := G_are_numbers base hB
  have F_Order___init__ := G_Order___init__ base hB
  have hu := hu_of hr.r
  have hu64 := hr.units
  have hu65 := hu65_of hr
  have tk := takes_of (X := cxOf (L2.CX P w) P w K mg base ["self", "index", "row"] "Order.starts_exchanged" (defScope s_Order_starts_exchanged) (He.ma K (He.ga K "Order") "starts_exchanged") cdv A outer s H E) rfl rfl rfl rfl
  exact (sss_cons (ss_exp (se_meth (as := [none]) T.cn_Order T.m_Order_neighbours_checked F_Order_neighbours_checked (hr.mono (by decide)) tk b_Order_neighbours_checked (se_var 0) (sab_v (se_var 1) sab_nil)))
      (sss_cons (ss_setL 2 S_Order_starts_exchanged.nd (sl_callT cf_list call_list_of T.b_list (by decide +kernel) (sa_cons (se_fld rfl T.cn_Order T.na_Order_own_numbers (se_var 0)) sa_nil)))
      (sss_cons (ss_spl 2 (se_l (sl_lst (sa_cons (se_ixO 2 (se_var 1) (by intro _ _; rfl)) (sa_cons (se_ixO 2 (se_bin op_sub bs_sub (se_var 1) se_int) (by intro _ _; rfl)) sa_nil)))) (so_some (se_bin op_sub bs_sub (se_var 1) se_int)) (so_some (se_bin op_addU bs_add (se_var 1) se_int)))
      (sss_cons (ss_if (sb_not (sb_val (se_fn (as := [none]) F_are_numbers (hr.mono (by decide)) tk T.g_are_numbers T.k_are_numbers b_are_numbers (sab_v (se_callT ca_tuple call_tuple_of T.b_tuple (by decide +kernel) (sa_cons (se_var 2) sa_nil)) sab_nil)))) (sss_one (ss_raise rfl tk PySem.F.excBase_ValueError T.x_InvalidOperation)) sss_nil)
      (sss_one (ss_ret (se_mk (as := [none]) T.cn_Order.at_ T.mk_Order F_Order___init__ (hr.mono (by decide)) tk T.g_Order b_Order___init__ (sab_v (se_callT ca_tuple call_tuple_of T.b_tuple (by decide +kernel) (sa_cons (se_var 2) sa_nil)) sab_nil))))))))
theorem S_Order_numbers : FnScope ["self"] ["self"] (defScope s_Order_numbers) := ⟨rfl, rfl, rfl, by decide +kernel, rfl, by decide +kernel, by decide +kernel⟩
theorem ok_Order_numbers (T : Txt K mg cl) : OkF P w K mg (mkT mkA K) 1 (ge K (He.ga K "Order") "numbers") ["self"] (spF K cl [false] F_Order_numbers) := by
  obtain ⟨fd, F⟩ := T.u_Order_numbers
  refine ok_mk F (fun _ _ _ _ _ _ us hl => match us, hl with | [_], _ => rfl) (fun base hB => fn_ok F S_Order_numbers rfl (by decide) (fun cdv hcd A outer s H E H0 G0 W B hr => ?_))
  have hu := hu_of hr.r
  have hu64 := hr.units
  have hu65 := hu65_of hr
  have tk := takes_of (X := cxOf (L2.CX P w) P w K mg base ["self"] "Order.numbers" (defScope s_Order_numbers) (ge K (He.ga K "Order") "numbers") cdv A outer s H E) rfl rfl rfl rfl
  exact (sss_one (ss_ret (se_fld rfl T.cn_Order T.na_Order_own_numbers (se_var 0))))
theorem S__law_is_order : FnScope ["numbers", "times", "at", "number"] ["numbers"] (defScope s__law_is_order) := ⟨rfl, rfl, rfl, by decide +kernel, rfl, by decide +kernel, by decide +kernel⟩
theorem ok__law_is_order (T : Txt K mg cl) : OkF P w K mg (mkT mkA K) 1 (He.ga K "_law_is_order") ["numbers"] (spF K cl [false] F__law_is_order) := by
  obtain ⟨fd, F⟩ := T.u__law_is_order
  refine ok_mk F (fun _ _ _ _ _ _ us hl => match us, hl with | [_], _ => rfl) (fun base hB => fn_ok F S__law_is_order rfl (by decide) (fun cdv hcd A outer s H E H0 G0 W B hr => ?_))
  have hu := hu_of hr.r
  have hu64 := hr.units
  have hu65 := hu65_of hr
  have tk := takes_of (X := cxOf (L2.CX P w) P w K mg base ["numbers", "times", "at", "number"] "_law_is_order" (defScope s__law_is_order) (He.ga K "_law_is_order") cdv A outer s H E) rfl rfl rfl rfl
  exact (sss_cons (ss_set 1 S__law_is_order.nd (se_callB ca_len call_lenU T.b_len (by decide +kernel) (sa_cons (se_var 0) sa_nil)))
      (sss_cons (ss_if (sb_cmp (op_neD hu64) bs_ne (se_l (sl_lc (own := ([("at", 2)] : List (Str × Nat))) (vs := [2]) rfl S__law_is_order.nd (si_range1 T.b_range (se_var 1)) (blkOk_by (N := ["numbers", "times", "at", "number"]) (sc := defScope s__law_is_order) (by decide +kernel)) rfl (fun _ _ _ _ _ => (sg_name 2 S__law_is_order.nd)) (fun _ _ _ _ _ => (sts_one (sb_not (sb_chain op_ltU op_le cs_lt bs_le (se_var 2) (se_ix hu rfl (se_var 0) (se_var 2) (by intro _ _; rfl)) (se_bin op_addU bs_add (se_bin op_addU bs_add (se_var 2) se_int) (se_var 1)))))) (fun _ _ _ _ _ => (se_var 2)))) (se_l (sl_lst sa_nil)) (nomark _)) (sss_one (ss_ret se_bl)) sss_nil)
      (sss_one (ss_ret (se_cmp (op_eqD hu64) bs_eq (se_lenSet rfl rfl T.b_len T.b_set (se_l (sl_lc (own := ([("number", 3)] : List (Str × Nat))) (vs := [3]) rfl S__law_is_order.nd (si_seq rfl (se_var 0)) (blkOk_by (N := ["numbers", "times", "at", "number"]) (sc := defScope s__law_is_order) (by decide +kernel)) rfl (fun _ _ _ _ _ => (sg_name 3 S__law_is_order.nd)) (fun _ _ _ _ _ => sts_nil) (fun _ _ _ _ _ => (se_bin op_mod bs_mod (se_callT ca_int call_int1 T.b_int (by decide +kernel) (sa_cons (se_var 3) sa_nil)) (se_var 1)))))) (se_var 1) (nomark _))))))
theorem S_falling_in : FnScope ["numbers", "index", "number"] ["numbers"] (defScope s_falling_in) := ⟨rfl, rfl, rfl, by decide +kernel, rfl, by decide +kernel, by decide +kernel⟩
theorem ok_falling_in (T : Txt K mg cl) : OkF P w K mg (mkT mkA K) 1 (He.ga K "falling_in") ["numbers"] (spF K cl [false] F_falling_in) := by
  obtain ⟨fd, F⟩ := T.u_falling_in
  refine ok_mk F (fun _ _ _ _ _ _ us hl => match us, hl with | [_], _ => rfl) (fun base hB => fn_ok F S_falling_in rfl (by decide) (fun cdv hcd A outer s H E H0 G0 W B hr => ?_))
  have hu := hu_of hr.r
  have hu64 := hr.units
  have hu65 := hu65_of hr
  have tk := takes_of (X := cxOf (L2.CX P w) P w K mg base ["numbers", "index", "number"] "falling_in" (defScope s_falling_in) (He.ga K "falling_in") cdv A outer s H E) rfl rfl rfl rfl
  exact (sss_one (ss_ret (se_l (sl_lc (own := ([("index", 1), ("number", 2)] : List (Str × Nat))) (vs := [1, 2]) rfl S_falling_in.nd (si_enStart (k0 := 1) rfl T.b_enumerate (se_var 0)) (blkOk_by (N := ["numbers", "index", "number"]) (sc := defScope s_falling_in) (by decide +kernel)) rfl (fun _ _ _ _ _ => (sg_tup rfl rfl (sgs_cons (sg_name 1 S_falling_in.nd) (sgs_cons (sg_name 2 S_falling_in.nd) sgs_nil)))) (fun _ _ _ _ _ => (sts_one (sb_cmp op_gt bs_gt (se_var 2) (se_callB ca_len call_lenU T.b_len (by decide +kernel) (sa_cons (se_var 0) sa_nil)) (nomark _)))) (fun _ _ _ _ _ => (se_var 1))))))
theorem S_Order_level : FnScope ["self"] ["self"] (defScope s_Order_level) := ⟨rfl, rfl, rfl, by decide +kernel, rfl, by decide +kernel, by decide +kernel⟩
theorem ok_Order_level (T : Txt K mg cl) : OkF P w K mg (mkT mkA K) 2 (ge K (He.ga K "Order") "level") ["self"] (spF K cl [false] F_Order_level) := by
  obtain ⟨fd, F⟩ := T.u_Order_level
  obtain ⟨fd_falling_in, _, b_falling_in, G_falling_in⟩ := ok_falling_in (P := P) (w := w) T
  refine ok_mk F (fun _ _ _ _ _ _ us hl => match us, hl with | [_], _ => rfl) (fun base hB => fn_ok F S_Order_level rfl (by decide) (fun cdv hcd A outer s H E H0 G0 W B hr => ?_))
  have F_falling_in := G_falling_in base hB
  have hu := hu_of hr.r
  have hu64 := hr.units
  have hu65 := hu65_of hr
  have tk := takes_of (X := cxOf (L2.CX P w) P w K mg base ["self"] "Order.level" (defScope s_Order_level) (ge K (He.ga K "Order") "level") cdv A outer s H E) rfl rfl rfl rfl
  exact (sss_one (ss_ret (se_callB ca_len call_lenU T.b_len (by decide +kernel) (sa_cons (se_fn (as := [none]) F_falling_in (hr.mono (by decide)) tk T.g_falling_in T.k_falling_in b_falling_in (sab_v (se_fld rfl T.cn_Order T.na_Order_own_numbers (se_var 0)) sab_nil)) sa_nil))))
theorem S_value_at : FnScope ["numbers", "number", "index"] ["numbers", "number"] (defScope s_value_at) := ⟨rfl, rfl, rfl, by decide +kernel, rfl, by decide +kernel, by decide +kernel⟩
theorem ok_value_at (T : Txt K mg cl) : OkF P w K mg (mkT mkA K) 2 (He.ga K "value_at") ["numbers", "number"] (spF K cl [false, false] F_value_at) := by
  obtain ⟨fd, F⟩ := T.u_value_at
  obtain ⟨fd_rest_of, _, b_rest_of, G_rest_of⟩ := ok_rest_of (P := P) (w := w) T
  refine ok_mk F (fun _ _ _ _ _ _ us hl => match us, hl with | [_, _], _ => rfl) (fun base hB => fn_ok F S_value_at rfl (by decide) (fun cdv hcd A outer s H E H0 G0 W B hr => ?_))
  have F_rest_of := G_rest_of base hB
  have hu := hu_of hr.r
  have hu64 := hr.units
  have hu65 := hu65_of hr
  have tk := takes_of (X := cxOf (L2.CX P w) P w K mg base ["numbers", "number", "index"] "value_at" (defScope s_value_at) (He.ga K "value_at") cdv A outer s H E) rfl rfl rfl rfl
  exact (sss_cons (ss_set 2 S_value_at.nd (se_fn (as := [none, none]) F_rest_of (hr.mono (by decide)) tk T.g_rest_of T.k_rest_of b_rest_of (sab_v (se_callB ca_len call_lenU T.b_len (by decide +kernel) (sa_cons (se_var 0) sa_nil)) (sab_v (se_var 1) sab_nil))))
      (sss_one (ss_ret (se_bin op_sub bs_sub (se_bin op_addU bs_add (se_ix hu rfl (se_var 0) (se_bin op_sub bs_sub (se_var 2) se_int) (by intro _ _; rfl)) (se_var 1)) (se_var 2)))))
theorem S_knots_in : FnScope ["numbers", "many", "places", "one", "other"] ["numbers"] (defScope s_knots_in) := ⟨rfl, rfl, rfl, by decide +kernel, rfl, by decide +kernel, by decide +kernel⟩
theorem ok_knots_in (T : Txt K mg cl) : OkF P w K mg (mkT mkA K) 3 (He.ga K "knots_in") ["numbers"] (spF K cl [false] F_knots_in) := by
  obtain ⟨fd, F⟩ := T.u_knots_in
  obtain ⟨fd_value_at, _, b_value_at, G_value_at⟩ := ok_value_at (P := P) (w := w) T
  refine ok_mk F (fun _ _ _ _ _ _ us hl => match us, hl with | [_], _ => rfl) (fun base hB => fn_ok F S_knots_in rfl (by decide) (fun cdv hcd A outer s H E H0 G0 W B hr => ?_))
  have F_value_at := G_value_at base hB
  have hu := hu_of hr.r
  have hu64 := hr.units
  have hu65 := hu65_of hr
  have tk := takes_of (X := cxOf (L2.CX P w) P w K mg base ["numbers", "many", "places", "one", "other"] "knots_in" (defScope s_knots_in) (He.ga K "knots_in") cdv A outer s H E) rfl rfl rfl rfl
  exact (sss_cons (ss_set 1 S_knots_in.nd (se_callB ca_len call_lenU T.b_len (by decide +kernel) (sa_cons (se_var 0) sa_nil)))
      (sss_cons (ss_setLc2 2 (own := ([("one", 3), ("other", 4)] : List (Str × Nat))) (vs := [3, 4]) (vs1 := [4]) rfl S_knots_in.nd (by rfl) (si_range2 T.b_range se_int (se_bin op_addU bs_add (se_var 1) se_int)) (blkOk_by (N := ["numbers", "many", "places", "one", "other"]) (sc := defScope s_knots_in) (by decide +kernel)) rfl (by decide) (fun _ _ _ _ _ => (sg_name 3 S_knots_in.nd)) (fun _ _ _ _ _ => sts_nil) (fun _ _ _ _ _ => (si_range2 T.b_range (se_bin op_addU bs_add (se_var 3) se_int) (se_bin op_addU bs_add (se_var 3) (se_var 1)))) (fun _ _ _ _ _ => (sg_name 4 S_knots_in.nd)) (fun _ _ _ _ _ => sts_nil) (fun _ _ _ _ _ => (se_tup (sa_cons (se_var 3) (sa_cons (se_var 4) sa_nil)))))
      (sss_one (ss_ret (se_l (sl_lc (own := ([("one", 3), ("other", 4)] : List (Str × Nat))) (vs := [3, 4]) rfl S_knots_in.nd (si_seq rfl (se_var 2)) (blkOk_by (N := ["numbers", "many", "places", "one", "other"]) (sc := defScope s_knots_in) (by decide +kernel)) rfl (fun _ _ _ _ _ => (sg_tup rfl rfl (sgs_cons (sg_name 3 S_knots_in.nd) (sgs_cons (sg_name 4 S_knots_in.nd) sgs_nil)))) (fun _ _ _ _ _ => (sts_one (sb_cmp op_gt bs_gt (se_ix hu rfl (se_var 0) (se_bin op_sub bs_sub (se_var 3) se_int) (by intro _ _; rfl)) (se_fn (as := [none, none]) F_value_at (hr.mono (by decide)) L2.takes0 T.g_value_at T.k_value_at b_value_at (sab_v (se_var 0) (sab_v (se_var 4) sab_nil))) (nomark _)))) (fun _ _ _ _ _ => (se_tup (sa_cons (se_var 3) (sa_cons (se_var 4) sa_nil))))))))))
theorem S_Order_knots : FnScope ["self"] ["self"] (defScope s_Order_knots) := ⟨rfl, rfl, rfl, by decide +kernel, rfl, by decide +kernel, by decide +kernel⟩
theorem ok_Order_knots (T : Txt K mg cl) : OkF P w K mg (mkT mkA K) 4 (ge K (He.ga K "Order") "knots") ["self"] (spF K cl [false] F_Order_knots) := by
  obtain ⟨fd, F⟩ := T.u_Order_knots
  obtain ⟨fd_knots_in, _, b_knots_in, G_knots_in⟩ := ok_knots_in (P := P) (w := w) T
  refine ok_mk F (fun _ _ _ _ _ _ us hl => match us, hl with | [_], _ => rfl) (fun base hB => fn_ok F S_Order_knots rfl (by decide) (fun cdv hcd A outer s H E H0 G0 W B hr => ?_))
  have F_knots_in := G_knots_in base hB
  have hu := hu_of hr.r
  have hu64 := hr.units
  have hu65 := hu65_of hr
  have tk := takes_of (X := cxOf (L2.CX P w) P w K mg base ["self"] "Order.knots" (defScope s_Order_knots) (ge K (He.ga K "Order") "knots") cdv A outer s H E) rfl rfl rfl rfl
  exact (sss_one (ss_ret (se_callB ca_len call_lenU T.b_len (by decide +kernel) (sa_cons (se_fn (as := [none]) F_knots_in (hr.mono (by decide)) tk T.g_knots_in T.k_knots_in b_knots_in (sab_v (se_fld rfl T.cn_Order T.na_Order_own_numbers (se_var 0)) sab_nil)) sa_nil))))
theorem S_Order_ends_exchanged : FnScope ["self", "index", "many", "steps", "row", "number"] ["self", "index"] (defScope s_Order_ends_exchanged) := ⟨rfl, rfl, rfl, by decide +kernel, rfl, by decide +kernel, by decide +kernel⟩
theorem ok_Order_ends_exchanged (T : Txt K mg cl) : OkF P w K mg (mkT mkA K) 6 (He.ma K (He.ga K "Order") "ends_exchanged") ["self", "index"] (spF K cl [false, false] F_Order_ends_exchanged) := by
  obtain ⟨fd, F⟩ := T.u_Order_ends_exchanged
  obtain ⟨fd_Order_neighbours_checked, _, b_Order_neighbours_checked, G_Order_neighbours_checked⟩ := ok_Order_neighbours_checked (P := P) (w := w) T
  obtain ⟨fd_rest_of, _, b_rest_of, G_rest_of⟩ := ok_rest_of (P := P) (w := w) T
  obtain ⟨fd_are_numbers, _, b_are_numbers, G_are_numbers⟩ := ok_are_numbers (P := P) (w := w) T
  obtain ⟨fd_Order___init__, _, b_Order___init__, G_Order___init__⟩ := ok_Order___init__ (P := P) (w := w) T
  refine ok_mk F (fun _ _ _ _ _ _ us hl => match us, hl with | [_, _], _ => rfl) (fun base hB => fn_ok F S_Order_ends_exchanged rfl (by decide) (fun cdv hcd A outer s H E H0 G0 W B hr => ?_))
  have F_Order_neighbours_checked := G_Order_neighbours_checked base hB
  have F_rest_of := G_rest_of base hB
  have F_are_numbers := G_are_numbers base hB
  have F_Order___init__ := G_Order___init__ base hB
  have hu := hu_of hr.r
  have hu64 := hr.units
  have hu65 := hu65_of hr
  have tk := takes_of (X := cxOf (L2.CX P w) P w K mg base ["self", "index", "many", "steps", "row", "number"] "Order.ends_exchanged" (defScope s_Order_ends_exchanged) (He.ma K (He.ga K "Order") "ends_exchanged") cdv A outer s H E) rfl rfl rfl rfl
  exact (sss_cons (ss_exp (se_meth (as := [none]) T.cn_Order T.m_Order_neighbours_checked F_Order_neighbours_checked (hr.mono (by decide)) tk b_Order_neighbours_checked (se_var 0) (sab_v (se_var 1) sab_nil)))
      (sss_cons (ss_set 2 S_Order_ends_exchanged.nd (se_callB ca_len call_lenU T.b_len (by decide +kernel) (sa_cons (se_fld rfl T.cn_Order T.na_Order_own_numbers (se_var 0)) sa_nil)))
      (sss_cons (ss_set 3 S_Order_ends_exchanged.nd (se_l (sl_disp (.cons (se_var 1) se_int (.cons (se_bin op_addU bs_add (se_var 1) se_int) (se_neg se_int) .nil)))))
      (sss_cons (ss_set 4 S_Order_ends_exchanged.nd (se_callT ca_tuple call_tuple_of T.b_tuple (by decide +kernel) (sa_cons (se_l (sl_lc (own := ([("number", 5)] : List (Str × Nat))) (vs := [5]) rfl S_Order_ends_exchanged.nd (si_seq rfl (se_fld rfl T.cn_Order T.na_Order_own_numbers (se_var 0))) (blkOk_by (N := ["self", "index", "many", "steps", "row", "number"]) (sc := defScope s_Order_ends_exchanged) (by decide +kernel)) rfl (fun _ _ _ _ _ => (sg_name 5 S_Order_ends_exchanged.nd)) (fun _ _ _ _ _ => sts_nil) (fun _ _ _ _ _ => (se_bin op_addU bs_add (se_var 5) (se_get2 rfl hu (se_var 3) (se_fn (as := [none, none]) F_rest_of (hr.mono (by decide)) L2.takes0 T.g_rest_of T.k_rest_of b_rest_of (sab_v (se_var 2) (sab_v (se_var 5) sab_nil))) se_int))))) sa_nil)))
      (sss_cons (ss_if (sb_not (sb_val (se_fn (as := [none]) F_are_numbers (hr.mono (by decide)) tk T.g_are_numbers T.k_are_numbers b_are_numbers (sab_v (se_var 4) sab_nil)))) (sss_one (ss_raise rfl tk PySem.F.excBase_ValueError T.x_InvalidOperation)) sss_nil)
      (sss_one (ss_ret (se_mk (as := [none]) T.cn_Order.at_ T.mk_Order F_Order___init__ (hr.mono (by decide)) tk T.g_Order b_Order___init__ (sab_v (se_var 4) sab_nil)))))))))
theorem S__law_standing : FnScope ["numbers", "value", "times", "at"] ["numbers", "value"] (defScope s__law_standing) := ⟨rfl, rfl, rfl, by decide +kernel, rfl, by decide +kernel, by decide +kernel⟩
theorem ok__law_standing (T : Txt K mg cl) : OkF P w K mg (mkT mkA K) 1 (He.ga K "_law_standing") ["numbers", "value"] (spF K cl [false, false] F__law_standing) := by
  obtain ⟨fd, F⟩ := T.u__law_standing
  refine ok_mk F (fun _ _ _ _ _ _ us hl => match us, hl with | [_, _], _ => rfl) (fun base hB => fn_ok F S__law_standing rfl (by decide) (fun cdv hcd A outer s H E H0 G0 W B hr => ?_))
  have hu := hu_of hr.r
  have hu64 := hr.units
  have hu65 := hu65_of hr
  have tk := takes_of (X := cxOf (L2.CX P w) P w K mg base ["numbers", "value", "times", "at"] "_law_standing" (defScope s__law_standing) (He.ga K "_law_standing") cdv A outer s H E) rfl rfl rfl rfl
  exact (sss_cons (ss_set 2 S__law_standing.nd (se_callB ca_len call_lenU T.b_len (by decide +kernel) (sa_cons (se_var 0) sa_nil)))
      (sss_cons (ss_for (vs := [3]) (passes_of rfl) rfl (si_range1 T.b_range (se_var 2)) (sg_name 3 S__law_standing.nd) (sss_one (ss_if (sb_cmp (op_eqD hu64) bs_eq (se_bin op_mod bs_mod (se_callT ca_int call_int1 T.b_int (by decide +kernel) (sa_cons (se_bin op_sub bs_sub (se_ix hu rfl (se_var 0) (se_var 3) (by intro _ _; rfl)) (se_var 1)) sa_nil)) (se_var 2)) se_int (nomark _)) (sss_one (ss_ret (se_bin op_sub bs_sub (se_bin op_addU bs_add (se_bin op_addU bs_add (se_var 3) se_int) (se_var 1)) (se_ix hu rfl (se_var 0) (se_var 3) (by intro _ _; rfl))))) sss_nil)))
      (sss_one (ss_ret se_non))))
theorem S_brought : FnScope ["many", "pairs", "found", "number", "value", "index"] ["many", "pairs"] (defScope s_brought) := ⟨rfl, rfl, rfl, by decide +kernel, rfl, by decide +kernel, by decide +kernel⟩
theorem ok_brought (T : Txt K mg cl) : OkF P w K mg (mkT mkA K) 2 (He.ga K "brought") ["many", "pairs"] (spF K cl [false, false] F_brought) := by
  obtain ⟨fd, F⟩ := T.u_brought
  obtain ⟨fd_rest_of, _, b_rest_of, G_rest_of⟩ := ok_rest_of (P := P) (w := w) T
  refine ok_mk F (fun _ _ _ _ _ _ us hl => match us, hl with | [_, _], _ => rfl) (fun base hB => fn_ok F S_brought rfl (by decide) (fun cdv hcd A outer s H E H0 G0 W B hr => ?_))
  have F_rest_of := G_rest_of base hB
  have hu := hu_of hr.r
  have hu64 := hr.units
  have hu65 := hu65_of hr
  have tk := takes_of (X := cxOf (L2.CX P w) P w K mg base ["many", "pairs", "found", "number", "value", "index"] "brought" (defScope s_brought) (He.ga K "brought") cdv A outer s H E) rfl rfl rfl rfl
  exact (sss_cons (ss_set 2 S_brought.nd (se_l (sl_callB cf_sortP cr_sortedT T.b_sorted (by decide +kernel) (sa_cons (se_l (sl_lc (own := ([("number", 3), ("value", 4)] : List (Str × Nat))) (vs := [3, 4]) rfl S_brought.nd (si_seq rfl (se_var 1)) (blkOk_by (N := ["many", "pairs", "found", "number", "value", "index"]) (sc := defScope s_brought) (by decide +kernel)) rfl (fun _ _ _ _ _ => (sg_tup rfl rfl (sgs_cons (sg_name 3 S_brought.nd) (sgs_cons (sg_name 4 S_brought.nd) sgs_nil)))) (fun _ _ _ _ _ => sts_nil) (fun _ _ _ _ _ => (se_tup (sa_cons (se_fn (as := [none, none]) F_rest_of (hr.mono (by decide)) L2.takes0 T.g_rest_of T.k_rest_of b_rest_of (sab_v (se_var 0) (sab_v (se_var 3) sab_nil))) (sa_cons (se_bin op_addU bs_add (se_bin op_sub bs_sub (se_var 4) (se_var 3)) (se_fn (as := [none, none]) F_rest_of (hr.mono (by decide)) L2.takes0 T.g_rest_of T.k_rest_of b_rest_of (sab_v (se_var 0) (sab_v (se_var 3) sab_nil)))) sa_nil)))))) sa_nil))))
      (sss_one (ss_ret (se_callT ca_tuple call_tuple_of T.b_tuple (by decide +kernel) (sa_cons (se_l (sl_lc (own := ([("index", 5), ("value", 4)] : List (Str × Nat))) (vs := [5, 4]) rfl S_brought.nd (si_seq rfl (se_var 2)) (blkOk_by (N := ["many", "pairs", "found", "number", "value", "index"]) (sc := defScope s_brought) (by decide +kernel)) rfl (fun _ _ _ _ _ => (sg_tup rfl rfl (sgs_cons (sg_name 5 S_brought.nd) (sgs_cons (sg_name 4 S_brought.nd) sgs_nil)))) (fun _ _ _ _ _ => sts_nil) (fun _ _ _ _ _ => (se_var 4)))) sa_nil)))))
theorem S_Order_dual : FnScope ["self", "many", "pairs", "index", "number"] ["self"] (defScope s_Order_dual) := ⟨rfl, rfl, rfl, by decide +kernel, rfl, by decide +kernel, by decide +kernel⟩
theorem ok_Order_dual (T : Txt K mg cl) : OkF P w K mg (mkT mkA K) 6 (ge K (He.ga K "Order") "dual") ["self"] (spF K cl [false] F_Order_dual) := by
  obtain ⟨fd, F⟩ := T.u_Order_dual
  obtain ⟨fd_Order___init__, _, b_Order___init__, G_Order___init__⟩ := ok_Order___init__ (P := P) (w := w) T
  obtain ⟨fd_brought, _, b_brought, G_brought⟩ := ok_brought (P := P) (w := w) T
  refine ok_mk F (fun _ _ _ _ _ _ us hl => match us, hl with | [_], _ => rfl) (fun base hB => fn_ok F S_Order_dual rfl (by decide) (fun cdv hcd A outer s H E H0 G0 W B hr => ?_))
  have F_Order___init__ := G_Order___init__ base hB
  have F_brought := G_brought base hB
  have hu := hu_of hr.r
  have hu64 := hr.units
  have hu65 := hu65_of hr
  have tk := takes_of (X := cxOf (L2.CX P w) P w K mg base ["self", "many", "pairs", "index", "number"] "Order.dual" (defScope s_Order_dual) (ge K (He.ga K "Order") "dual") cdv A outer s H E) rfl rfl rfl rfl
  exact (sss_cons (ss_set 1 S_Order_dual.nd (se_callB ca_len call_lenU T.b_len (by decide +kernel) (sa_cons (se_fld rfl T.cn_Order T.na_Order_own_numbers (se_var 0)) sa_nil)))
      (sss_cons (ss_setLc 2 (own := ([("index", 3), ("number", 4)] : List (Str × Nat))) (vs := [3, 4]) rfl S_Order_dual.nd (by rfl) (si_enStart (k0 := 1) rfl T.b_enumerate (se_fld rfl T.cn_Order T.na_Order_own_numbers (se_var 0))) (blkOk_by (N := ["self", "many", "pairs", "index", "number"]) (sc := defScope s_Order_dual) (by decide +kernel)) rfl (fun _ _ _ _ _ => (sg_tup rfl rfl (sgs_cons (sg_name 3 S_Order_dual.nd) (sgs_cons (sg_name 4 S_Order_dual.nd) sgs_nil)))) (fun _ _ _ _ _ => sts_nil) (fun _ _ _ _ _ => (se_tup (sa_cons (se_var 4) (sa_cons (se_bin op_addU bs_add (se_var 3) (se_var 1)) sa_nil)))))
      (sss_one (ss_ret (se_mk (as := [none]) T.cn_Order.at_ T.mk_Order F_Order___init__ (hr.mono (by decide)) tk T.g_Order b_Order___init__ (sab_v (se_fn (as := [none, none]) F_brought (hr.mono (by decide)) tk T.g_brought T.k_brought b_brought (sab_v (se_var 1) (sab_v (se_var 2) sab_nil))) sab_nil))))))
theorem S_Order___eq__ : FnScope ["self", "other"] ["self", "other"] (defScope s_Order___eq__) := ⟨rfl, rfl, rfl, by decide +kernel, rfl, by decide +kernel, by decide +kernel⟩
theorem ok_Order___eq__ (T : Txt K mg cl) : OkF P w K mg (mkT mkA K) 1 (He.ma K (He.ga K "Order") "__eq__") ["self", "other"] (spF K cl [false, false] F_Order___eq__) := by
  obtain ⟨fd, F⟩ := T.u_Order___eq__
  refine ok_mk F (fun _ _ _ _ _ _ us hl => match us, hl with | [_, _], _ => rfl) (fun base hB => fn_ok F S_Order___eq__ rfl (by decide) (fun cdv hcd A outer s H E H0 G0 W B hr => ?_))
  have hu := hu_of hr.r
  have hu64 := hr.units
  have hu65 := hu65_of hr
  have tk := takes_of (X := cxOf (L2.CX P w) P w K mg base ["self", "other"] "Order.__eq__" (defScope s_Order___eq__) (He.ma K (He.ga K "Order") "__eq__") cdv A outer s H E) rfl rfl rfl rfl
  exact (sss_one (ss_ret (se_and (se_isiC rfl T.cn_Order.at_ T.ic_Order (se_var 1) T.b_isinstance T.g_Order) (se_one (se_cmp (op_eqD hu64) bs_eq (se_fld rfl T.cn_Order T.na_Order_own_numbers (se_var 0)) (se_fld rfl T.cn_Order T.na_Order_own_numbers (se_var 1)) (nomark _))))))
theorem S__law_index_right : FnScope ["numbers", "index", "order", "knots", "starts", "ends", "told", "later", "first", "second"] ["numbers", "index"] (defScope s__law_index_right) := ⟨rfl, rfl, rfl, by decide +kernel, rfl, by decide +kernel, by decide +kernel⟩
theorem ok__law_index_right (T : Txt K mg cl) : OkF P w K mg (mkT mkA K) 10 (He.ga K "_law_index_right") ["numbers", "index"] (spF K cl [false, false] F__law_index_right) := by
  obtain ⟨fd, F⟩ := T.u__law_index_right
  obtain ⟨fd_Order___init__, _, b_Order___init__, G_Order___init__⟩ := ok_Order___init__ (P := P) (w := w) T
  obtain ⟨fd__law_knots, _, b__law_knots, G__law_knots⟩ := ok__law_knots (P := P) (w := w) T
  obtain ⟨fd__law_swapped, _, b__law_swapped, G__law_swapped⟩ := ok__law_swapped (P := P) (w := w) T
  obtain ⟨fd__law_ends_changed, _, b__law_ends_changed, G__law_ends_changed⟩ := ok__law_ends_changed (P := P) (w := w) T
  obtain ⟨fd_Order_starts_exchanged, _, b_Order_starts_exchanged, G_Order_starts_exchanged⟩ := ok_Order_starts_exchanged (P := P) (w := w) T
  obtain ⟨fd_Order_numbers, _, b_Order_numbers, G_Order_numbers⟩ := ok_Order_numbers (P := P) (w := w) T
  obtain ⟨fd__law_is_order, _, b__law_is_order, G__law_is_order⟩ := ok__law_is_order (P := P) (w := w) T
  obtain ⟨fd_Order_level, _, b_Order_level, G_Order_level⟩ := ok_Order_level (P := P) (w := w) T
  obtain ⟨fd_Order_knots, _, b_Order_knots, G_Order_knots⟩ := ok_Order_knots (P := P) (w := w) T
  obtain ⟨fd_Order_ends_exchanged, _, b_Order_ends_exchanged, G_Order_ends_exchanged⟩ := ok_Order_ends_exchanged (P := P) (w := w) T
  obtain ⟨fd__law_standing, _, b__law_standing, G__law_standing⟩ := ok__law_standing (P := P) (w := w) T
  obtain ⟨fd_Order_dual, _, b_Order_dual, G_Order_dual⟩ := ok_Order_dual (P := P) (w := w) T
  obtain ⟨fd_Order___eq__, _, b_Order___eq__, G_Order___eq__⟩ := ok_Order___eq__ (P := P) (w := w) T
  obtain ⟨fdc__law_told, Fc__law_told⟩ := T.u__law_told
  have bc__law_told : L2.Binds K fdc__law_told ["call"] [] := Fc__law_told.binds (fun _ _ _ _ _ _ us hl => match us, hl with | [_], _ => rfl)
  refine ok_mk F (fun _ _ _ _ _ _ us hl => match us, hl with | [_, _], _ => rfl) (fun base hB => fn_ok F S__law_index_right rfl (by decide) (fun cdv hcd A outer s H E H0 G0 W B hr => ?_))
  have F_Order___init__ := G_Order___init__ base hB
  have F__law_knots := G__law_knots base hB
  have F__law_swapped := G__law_swapped base hB
  have F__law_ends_changed := G__law_ends_changed base hB
  have F_Order_starts_exchanged := G_Order_starts_exchanged base hB
  have F_Order_numbers := G_Order_numbers base hB
  have F__law_is_order := G__law_is_order base hB
  have F_Order_level := G_Order_level base hB
  have F_Order_knots := G_Order_knots base hB
  have F_Order_ends_exchanged := G_Order_ends_exchanged base hB
  have F__law_standing := G__law_standing base hB
  have F_Order_dual := G_Order_dual base hB
  have F_Order___eq__ := G_Order___eq__ base hB
  have hce := hcd.ref T.tk__law_index_right
  subst hce
  have hu := hu_of hr.r
  have hu64 := hr.units
  have hu65 := hu65_of hr
  have tk := takes_of (X := cxOf (L2.CX P w) P w K mg base ["numbers", "index", "order", "knots", "starts", "ends", "told", "later", "first", "second"] "_law_index_right" (defScope s__law_index_right) (He.ga K "_law_index_right") (.ref (tabAt K (He.ga K "_law_index_right")).1) A outer s H E) rfl rfl rfl rfl
  obtain ⟨e1, e2⟩ := He.ba T.eq_Order
  obtain ⟨e2, e3⟩ := He.ba e2
  have u_eq := op_orR (X := cxOf (L2.CX P w) P w K mg base ["numbers", "index", "order", "knots", "starts", "ends", "told", "later", "first", "second"] "_law_index_right" (defScope s__law_index_right) (He.ga K "_law_index_right") (.ref (tabAt K (He.ga K "_law_index_right")).1) A outer s H E) (op_eqD hu64) (op_orR (op_ownEq F_Order___eq__ (hr.mono (by decide : 1 ≤ 9)) (He.eqO_ok e1) e2 b_Order___eq__) (op_eq_dictA (Nat.lt_of_succ_lt hu)))
  have u_ne := op_orR (X := cxOf (L2.CX P w) P w K mg base ["numbers", "index", "order", "knots", "starts", "ends", "told", "later", "first", "second"] "_law_index_right" (defScope s__law_index_right) (He.ga K "_law_index_right") (.ref (tabAt K (He.ga K "_law_index_right")).1) A outer s H E) (op_neD hu64) (op_orR (op_ownNe F_Order___eq__ (hr.mono (by decide : 2 ≤ 9)) e3 e2 b_Order___eq__) (op_ne_dictA (Nat.lt_of_succ_lt hu)))
  have ub_eq := bs_orR (M := ⟨K, cl, H0, G0, W, B, []⟩) bs_eq (bs_orR (bs_own (F := Dl.F_Order___eq__) (n := false) T.cn_Order.at_) bs_eqDic)
  have ub_ne := bs_orR (M := ⟨K, cl, H0, G0, W, B, []⟩) bs_ne (bs_orR (bs_own (F := Dl.F_Order___eq__) (n := true) T.cn_Order.at_) bs_neDic)
  exact (sss_cons (ss_asg (vs := [2, 3]) (se_tup (sa_cons (se_mk (as := [none]) T.cn_Order.at_ T.mk_Order F_Order___init__ (hr.mono (by decide)) tk T.g_Order b_Order___init__ (sab_v (se_var 0) sab_nil)) (sa_cons (se_callB ca_len call_lenU T.b_len (by decide +kernel) (sa_cons (se_fn (as := [none]) F__law_knots (hr.mono (by decide)) tk T.g__law_knots T.k__law_knots b__law_knots (sab_v (se_var 0) sab_nil)) sa_nil)) sa_nil))) (sg_tup rfl rfl (sgs_cons (sg_name 2 S__law_index_right.nd) (sgs_cons (sg_name 3 S__law_index_right.nd) sgs_nil))))
      (sss_cons (ss_par 4 5 rfl S__law_index_right.nd (by decide) (se_fn (as := [none, none]) F__law_swapped (hr.mono (by decide)) tk T.g__law_swapped T.k__law_swapped b__law_swapped (sab_v (se_var 0) (sab_v (se_var 1) sab_nil))) (se_fn (as := [none, none]) F__law_ends_changed (hr.mono (by decide)) tk T.g__law_ends_changed T.k__law_ends_changed b__law_ends_changed (sab_v (se_var 0) (sab_v (se_var 1) sab_nil))))
      (sss_cons (ss_set 6 S__law_index_right.nd (se_lam (k := 6) Fc__law_told bc__law_told S__law_told T.g__law_told (fun cdv => catP rfl ⟨fun s H => (HdsD.no T.g_InvalidOperation (sub_InvalidOperation_ok T) (fun _ _ _ _ _ _ _ _ _ => (sss_one (ss_ret se_non))) .nil), hu67_of hr⟩ rfl T.cn_Order T.pr_Order_numbers F_Order_numbers (hr.mono (by decide)) b_Order_numbers (fun _ _ _ _ => rfl)) (hB _ T.mt__law_index_right) rfl T.tT__law_index_right T.tU__law_index_right (hr.mono (by decide)) (LamX.lamS_by (sc := defScope s__law_index_right) (by decide +kernel)) (fun A outer s H E f c' hr => by
        have hu := hu_of hr.r
        have hu64 := hr.units
        have hu65 := hu65_of hr
        exact (se_meth (as := [none]) T.cn_Order T.m_Order_starts_exchanged F_Order_starts_exchanged (hr.mono (by decide)) (takes_of rfl rfl rfl rfl) b_Order_starts_exchanged (se_var 2) (sab_v (se_var 1) sab_nil)))))
      (sss_cons (ss_if (sb_cmp u_ne ub_ne (se_var 6) (se_if (sb_val (se_fn (as := [none]) F__law_is_order (hr.mono (by decide)) tk T.g__law_is_order T.k__law_is_order b__law_is_order (sab_v (se_var 4) sab_nil))) (se_var 4) se_non) (nomark _)) (sss_one (ss_ret se_bl)) sss_nil)
      (sss_cons (ss_if (sb_cmp op_isNotU bs_isNot (se_var 6) se_non (nomark _)) (sss_cons (ss_set 7 S__law_index_right.nd (se_mk (as := [none]) T.cn_Order.at_ T.mk_Order F_Order___init__ (hr.mono (by decide)) tk T.g_Order b_Order___init__ (sab_v (se_var 6) sab_nil)))
      (sss_cons (ss_if (sb_w (sw_or (sb_cmp u_ne ub_ne (se_prop rfl T.cn_Order T.pr_Order_level F_Order_level (hr.mono (by decide)) b_Order_level (se_var 7)) (se_prop rfl T.cn_Order T.pr_Order_level F_Order_level (hr.mono (by decide)) b_Order_level (se_var 2)) (nomark _)) (sw_or1 (sb_cmp u_ne ub_ne (se_prop rfl T.cn_Order T.pr_Order_knots F_Order_knots (hr.mono (by decide)) b_Order_knots (se_var 7)) (se_bin op_addU bs_add (se_var 3) (se_if (sb_cmp op_gt bs_gt (se_ix hu rfl (se_var 0) (se_bin op_sub bs_sub (se_var 1) se_int) (by intro _ _; rfl)) (se_ix hu rfl (se_var 0) (se_var 1) (by intro _ _; rfl)) (nomark _)) (se_neg se_int) se_int)) (nomark _))))) (sss_one (ss_ret se_bl)) sss_nil)
      (sss_one (ss_if (sb_cmp u_ne ub_ne (se_meth (as := [none]) T.cn_Order T.m_Order_starts_exchanged F_Order_starts_exchanged (hr.mono (by decide)) tk b_Order_starts_exchanged (se_var 7) (sab_v (se_var 1) sab_nil)) (se_var 2) (nomark _)) (sss_one (ss_ret se_bl)) sss_nil)))) sss_nil)
      (sss_cons (ss_set 6 S__law_index_right.nd (se_lam (k := 6) Fc__law_told bc__law_told S__law_told T.g__law_told (fun cdv => catP rfl ⟨fun s H => (HdsD.no T.g_InvalidOperation (sub_InvalidOperation_ok T) (fun _ _ _ _ _ _ _ _ _ => (sss_one (ss_ret se_non))) .nil), hu67_of hr⟩ rfl T.cn_Order T.pr_Order_numbers F_Order_numbers (hr.mono (by decide)) b_Order_numbers (fun _ _ _ _ => rfl)) (hB _ T.mt__law_index_right) rfl T.tT__law_index_right T.tU__law_index_right (hr.mono (by decide)) (LamX.lamS_by (sc := defScope s__law_index_right) (by decide +kernel)) (fun A outer s H E f c' hr => by
        have hu := hu_of hr.r
        have hu64 := hr.units
        have hu65 := hu65_of hr
        exact (se_meth (as := [none]) T.cn_Order T.m_Order_ends_exchanged F_Order_ends_exchanged (hr.mono (by decide)) (takes_of rfl rfl rfl rfl) b_Order_ends_exchanged (se_var 2) (sab_v (se_var 1) sab_nil)))))
      (sss_cons (ss_if (sb_cmp u_ne ub_ne (se_var 6) (se_if (sb_val (se_fn (as := [none]) F__law_is_order (hr.mono (by decide)) tk T.g__law_is_order T.k__law_is_order b__law_is_order (sab_v (se_var 5) sab_nil))) (se_var 5) se_non) (nomark _)) (sss_one (ss_ret se_bl)) sss_nil)
      (sss_cons (ss_if (sb_cmp op_isNotU bs_isNot (se_var 6) se_non (nomark _)) (sss_cons (ss_par 8 9 rfl S__law_index_right.nd (by decide) (se_fn (as := [none, none]) F__law_standing (hr.mono (by decide)) tk T.g__law_standing T.k__law_standing b__law_standing (sab_v (se_var 0) (sab_v (se_var 1) sab_nil))) (se_fn (as := [none, none]) F__law_standing (hr.mono (by decide)) tk T.g__law_standing T.k__law_standing b__law_standing (sab_v (se_var 0) (sab_v (se_bin op_addU bs_add (se_var 1) se_int) sab_nil))))
      (sss_cons (ss_if (sb_w (sw_or (sb_cmp u_ne ub_ne (se_prop rfl T.cn_Order T.pr_Order_knots F_Order_knots (hr.mono (by decide)) b_Order_knots (se_mk (as := [none]) T.cn_Order.at_ T.mk_Order F_Order___init__ (hr.mono (by decide)) tk T.g_Order b_Order___init__ (sab_v (se_var 6) sab_nil))) (se_bin op_addU bs_add (se_var 3) (se_if (sb_cmp op_ltU bs_lt (se_var 9) (se_var 8) (nomark _)) (se_neg se_int) se_int)) (nomark _)) (sw_or1 (sb_cmp u_ne ub_ne (se_meth (as := [none]) T.cn_Order T.m_Order_ends_exchanged F_Order_ends_exchanged (hr.mono (by decide)) tk b_Order_ends_exchanged (se_mk (as := [none]) T.cn_Order.at_ T.mk_Order F_Order___init__ (hr.mono (by decide)) tk T.g_Order b_Order___init__ (sab_v (se_var 6) sab_nil)) (sab_v (se_var 1) sab_nil)) (se_var 2) (nomark _))))) (sss_one (ss_ret se_bl)) sss_nil)
      (sss_one (ss_ret (se_cmp u_eq ub_eq (se_meth (as := [none]) T.cn_Order T.m_Order_starts_exchanged F_Order_starts_exchanged (hr.mono (by decide)) tk b_Order_starts_exchanged (se_prop rfl T.cn_Order T.pr_Order_dual F_Order_dual (hr.mono (by decide)) b_Order_dual (se_var 2)) (sab_v (se_var 1) sab_nil)) (se_prop rfl T.cn_Order T.pr_Order_dual F_Order_dual (hr.mono (by decide)) b_Order_dual (se_mk (as := [none]) T.cn_Order.at_ T.mk_Order F_Order___init__ (hr.mono (by decide)) tk T.g_Order b_Order___init__ (sab_v (se_var 6) sab_nil))) (nomark _)))))) sss_nil)
      (sss_one (ss_ret (se_cmp op_isU bs_is (se_lam (k := 7) Fc__law_told bc__law_told S__law_told T.g__law_told (fun cdv => catP rfl ⟨fun s H => (HdsD.no T.g_InvalidOperation (sub_InvalidOperation_ok T) (fun _ _ _ _ _ _ _ _ _ => (sss_one (ss_ret se_non))) .nil), hu67_of hr⟩ rfl T.cn_Order T.pr_Order_numbers F_Order_numbers (hr.mono (by decide)) b_Order_numbers (fun _ _ _ _ => rfl)) (hB _ T.mt__law_index_right) rfl T.tT__law_index_right T.tU__law_index_right (hr.mono (by decide)) (LamX.lamS_by (sc := defScope s__law_index_right) (by decide +kernel)) (fun A outer s H E f c' hr => by
        have hu := hu_of hr.r
        have hu64 := hr.units
        have hu65 := hu65_of hr
        exact (se_meth (as := [none]) T.cn_Order T.m_Order_starts_exchanged F_Order_starts_exchanged (hr.mono (by decide)) (takes_of rfl rfl rfl rfl) b_Order_starts_exchanged (se_prop rfl T.cn_Order T.pr_Order_dual F_Order_dual (hr.mono (by decide)) b_Order_dual (se_var 2)) (sab_v (se_var 1) sab_nil)))) se_non (nomark _))))))))))))
theorem S_law : FnScope ["script", "spot", "dice", "turn", "numbers", "index", "some", "told"] ["script"] (defScope s_law) := ⟨rfl, rfl, rfl, by decide +kernel, rfl, by decide +kernel, by decide +kernel⟩
theorem ok_law (T : Txt K mg cl) : OkF P w K mg (mkT mkA K) 11 (He.ga K "law") ["script"] (spF K cl [false] F_law) := by
  obtain ⟨fd, F⟩ := T.u_law
  obtain ⟨fd__law_dice, _, b__law_dice, G__law_dice⟩ := ok__law_dice (P := P) (w := w) T
  obtain ⟨fd__law_order, _, b__law_order, G__law_order⟩ := ok__law_order (P := P) (w := w) T
  obtain ⟨fd__law_roll, _, b__law_roll, G__law_roll⟩ := ok__law_roll (P := P) (w := w) T
  obtain ⟨fd__law_index_right, _, b__law_index_right, G__law_index_right⟩ := ok__law_index_right (P := P) (w := w) T
  obtain ⟨fd_Order___init__, _, b_Order___init__, G_Order___init__⟩ := ok_Order___init__ (P := P) (w := w) T
  obtain ⟨fd_Order_starts_exchanged, _, b_Order_starts_exchanged, G_Order_starts_exchanged⟩ := ok_Order_starts_exchanged (P := P) (w := w) T
  obtain ⟨fd_Order_numbers, _, b_Order_numbers, G_Order_numbers⟩ := ok_Order_numbers (P := P) (w := w) T
  obtain ⟨fd_Order_ends_exchanged, _, b_Order_ends_exchanged, G_Order_ends_exchanged⟩ := ok_Order_ends_exchanged (P := P) (w := w) T
  obtain ⟨fd_Order_knots, _, b_Order_knots, G_Order_knots⟩ := ok_Order_knots (P := P) (w := w) T
  refine ok_mk F (fun _ _ _ _ _ _ us hl => match us, hl with | [_], _ => rfl) (fun base hB => fn_ok F S_law rfl (by decide) (fun cdv hcd A outer s H E H0 G0 W B hr => ?_))
  have F__law_dice := G__law_dice base hB
  have F__law_order := G__law_order base hB
  have F__law_roll := G__law_roll base hB
  have F__law_index_right := G__law_index_right base hB
  have F_Order___init__ := G_Order___init__ base hB
  have F_Order_starts_exchanged := G_Order_starts_exchanged base hB
  have F_Order_numbers := G_Order_numbers base hB
  have F_Order_ends_exchanged := G_Order_ends_exchanged base hB
  have F_Order_knots := G_Order_knots base hB
  have hu := hu_of hr.r
  have hu64 := hr.units
  have hu65 := hu65_of hr
  have tk := takes_of (X := cxOf (L2.CX P w) P w K mg base ["script", "spot", "dice", "turn", "numbers", "index", "some", "told"] "law" (defScope s_law) (He.ga K "law") cdv A outer s H E) rfl rfl rfl rfl
  exact (sss_cons (ss_for (vs := [1]) (passes_of rfl) rfl (si_range1 T.b_range (se_callB ca_max (call_max2 rfl) T.b_max (by decide +kernel) (sa_cons se_int (sa_cons (se_callB ca_min (call_min2 rfl) T.b_min (by decide +kernel) (sa_cons se_int (sa_cons (se_callB ca_len call_lenU T.b_len (by decide +kernel) (sa_cons (se_var 0) sa_nil)) sa_nil))) sa_nil)))) (sg_name 1 S_law.nd) (sss_cons (ss_setL 2 S_law.nd (sl_fn (as := [none, none]) F__law_dice (hr.mono (by decide)) tk T.g__law_dice T.k__law_dice b__law_dice (sab_v (se_var 0) (sab_v (se_var 1) sab_nil))))
      (sss_one (ss_for (vs := [3]) (passes_of rfl) rfl (si_range1 T.b_range se_int) (sg_name 3 S_law.nd) (sss_cons (ss_set 4 S_law.nd (se_fn (as := [some 2, none]) F__law_order (hr.mono (by decide)) tk T.g__law_order T.k__law_order b__law_order (sab_b 2 (sab_v (se_bin op_addU bs_add se_int (se_fn (as := [some 2, none]) F__law_roll (hr.mono (by decide)) tk T.g__law_roll T.k__law_roll b__law_roll (sab_b 2 (sab_v se_int sab_nil)))) sab_nil))))
      (sss_one (ss_if (sb_cmp (op_neD hu64) bs_ne (se_l (sl_lc (own := ([("index", 5)] : List (Str × Nat))) (vs := [5]) rfl S_law.nd (si_range2 T.b_range se_int (se_callB ca_len call_lenU T.b_len (by decide +kernel) (sa_cons (se_var 4) sa_nil))) (blkOk_by (N := ["script", "spot", "dice", "turn", "numbers", "index", "some", "told"]) (sc := defScope s_law) (by decide +kernel)) rfl (fun _ _ _ _ _ => (sg_name 5 S_law.nd)) (fun _ _ _ _ _ => (sts_one (sb_not (sb_val (se_fn (as := [none, none]) F__law_index_right (hr.mono (by decide)) L2.takes0 T.g__law_index_right T.k__law_index_right b__law_index_right (sab_v (se_var 4) (sab_v (se_var 5) sab_nil))))))) (fun _ _ _ _ _ => (se_var 5)))) (se_l (sl_lst sa_nil)) (nomark _)) (sss_one (ss_ret se_bl)) sss_nil)))))))
      (sss_cons (ss_set 6 S_law.nd (se_mk (as := [none]) T.cn_Order.at_ T.mk_Order F_Order___init__ (hr.mono (by decide)) tk T.g_Order b_Order___init__ (sab_v (se_tup (sa_cons se_int (sa_cons se_int (sa_cons se_int (sa_cons se_int sa_nil))))) sab_nil)))
      (sss_cons (ss_set 7 S_law.nd (se_l (sl_lst (sa_cons (se_prop rfl T.cn_Order T.pr_Order_numbers F_Order_numbers (hr.mono (by decide)) b_Order_numbers (se_meth (as := [none]) T.cn_Order T.m_Order_starts_exchanged F_Order_starts_exchanged (hr.mono (by decide)) tk b_Order_starts_exchanged (se_var 6) (sab_v se_int sab_nil))) (sa_cons (se_prop rfl T.cn_Order T.pr_Order_numbers F_Order_numbers (hr.mono (by decide)) b_Order_numbers (se_meth (as := [none]) T.cn_Order T.m_Order_ends_exchanged F_Order_ends_exchanged (hr.mono (by decide)) tk b_Order_ends_exchanged (se_var 6) (sab_v se_int sab_nil))) (sa_cons (se_prop rfl T.cn_Order T.pr_Order_knots F_Order_knots (hr.mono (by decide)) b_Order_knots (se_var 6)) (sa_cons (se_prop rfl T.cn_Order T.pr_Order_knots F_Order_knots (hr.mono (by decide)) b_Order_knots (se_meth (as := [none]) T.cn_Order T.m_Order_ends_exchanged F_Order_ends_exchanged (hr.mono (by decide)) tk b_Order_ends_exchanged (se_var 6) (sab_v se_int sab_nil))) sa_nil)))))))
      (sss_one (ss_ret (se_cmp (op_eqD hu64) bs_eq (se_repr rfl hr.g hu64 (se_var 7) T.b_repr) (se_repr rfl hr.g hu64 (se_l (sl_lst (sa_cons (se_tup (sa_cons se_int (sa_cons se_int (sa_cons se_int (sa_cons se_int sa_nil))))) (sa_cons (se_tup (sa_cons se_int (sa_cons se_int (sa_cons se_int (sa_cons se_int sa_nil))))) (sa_cons se_int (sa_cons se_int sa_nil)))))) T.b_repr) (nomark _)))))))
end
end Dl
end
section
set_option maxHeartbeats 4000000
namespace Dl
open PySem PySem.Spec PyProof.Rows L2
theorem setOk_ok {ρ : En} {i : Nat} {s : Option Sl} (h : ρ[i]? = some s) (hb : ∀ d, s ≠ some (.bo d)) : setOk ρ i = true := by
  unfold setOk; rw [h]; cases s with
  | none => rfl
  | some x => cases x with
    | bo d => exact absurd rfl (hb d)
    | _ => rfl
def T (xs : List Int) : D := .tup (xs.map .int)
def O (xs : List Int) : D := .ins "Order" ["own_numbers"] [T xs]
theorem c_rest {m x : Int} (h : 0 < m) : F_rest_of [.int m, .int x] = .ok (.int ((x - 1) % m + 1)) [] := by
  simp [F_rest_of, m_rest_of, bodyF, enE, fRet, fBin, fVar, fC, Rs.bind, opSub, opMod, opAdd, h, bosD]
theorem c_is_whole {x : Int} : F_is_whole [.int x] = .ok (.bl true) [] := by
  simp [F_is_whole, m_is_whole, bodyF, enE, fRet, fAnd, fIsi, fUn, fNot, fTr, fVar, Rs.bind, isInt, isBool, bosD]
abbrev Gt : Int := 1000000000000000000000000000000000000000000000000000000000000
theorem c_is_integer {x : Int} (h1 : -Gt < x) (h2 : x < Gt) : F_is_integer [.int x] = .ok (.bl true) [] := by
  simp [F_is_integer, m_is_integer, bodyF, enE, fRet, fAnd, fTr, fFn, fCons, fNil, fVar, Rs.bind, mixD, putB, c_is_whole, fChain, fUn, opNeg, fC, opLt, bosD, h1, h2]
end Dl
end
section
set_option maxHeartbeats 4000000
namespace Dl
open PySem PySem.Spec PyProof.Rows L2
theorem sz {n : Nat} (h : n ≤ 1000) : n < sizeLine := small1000 h
section
variable {α : Type} {vs : List Nat} {g : D → En → Rs Unit} {ft : En → Rs Bool} {fe : En → Rs D} {ρ0 : En} {c h : α → D} {p : α → Bool}
def StepF (vs : List Nat) (g : D → En → Rs Unit) (ft : En → Rs Bool) (fe : En → Rs D) (ρ0 : En) (d : D) (b : Bool) (r : D) : Prop := ∃ ρ1, g d ρ0 = .ok () ρ1 ∧ ∃ ρ2, ft ρ1 = .ok b ρ2 ∧ (b = true → ∃ ρ3, fe ρ2 = .ok r ρ3 ∧ okW ρ3 vs = true ∧ wipeR ρ3 vs = ρ0) ∧ (b = false → okW ρ2 vs = true ∧ wipeR ρ2 vs = ρ0)
theorem lcD_filter : ∀ (l : List α) (acc : List D), acc.length + l.length ≤ 1000 → (∀ x ∈ l, StepF vs g ft fe ρ0 (c x) (p x) (h x)) → lcD vs g ft fe (l.map c) acc ρ0 = .ok (acc ++ (l.filter p).map h) ρ0
  | [], acc, _, _ => by simp [lcD]
  | x :: l, acc, hl, hs => by
    obtain ⟨ρ1, e1, ρ2, e2, e3, e4⟩ := hs x List.mem_cons_self
    have hs' := fun y hy => hs y (List.mem_cons_of_mem _ hy)
    have hl1 : acc.length < sizeLine := sz (by simp at hl; omega)
    cases hp : p x with
    | true =>
      obtain ⟨ρ3, f1, f2, f3⟩ := e3 hp
      have ih := lcD_filter l (acc ++ [h x]) (by simp at hl ⊢; omega) hs'
      simp only [List.map_cons, lcD, e1, e2, hp, f1, hl1, decide_true, f2, Bool.and_self, if_true, f3, ih]
      simp [List.filter_cons, hp]
    | false =>
      obtain ⟨f2, f3⟩ := e4 hp
      have ih := lcD_filter l acc (by simp at hl ⊢; omega) hs'
      simp only [List.map_cons, lcD, e1, e2, hp, f2, if_true, f3, ih]
      simp [List.filter_cons, hp]
theorem fLc_filter {fi : En → Rs (List D)} {ρ ρ1 : En} {l : List α} (hfi : fi ρ = .ok (l.map c) ρ1) (hok : okW ρ1 vs = true) (hw : wipeR ρ1 vs = ρ0) (hl : l.length ≤ 1000) (hs : ∀ x ∈ l, StepF vs g ft fe ρ0 (c x) (p x) (h x)) :
    fLc vs fi g ft fe ρ = .ok (.lst ((l.filter p).map h)) ρ0 := by
  unfold fLc
  rw [hfi]
  simp only [Rs.bind, hok, if_true, hw]
  rw [lcD_filter l [] (by simpa using hl) hs]
  simp [lcEnd]
theorem fLc_map {fi : En → Rs (List D)} {ρ ρ1 : En} {l : List α} (hfi : fi ρ = .ok (l.map c) ρ1) (hok : okW ρ1 vs = true) (hw : wipeR ρ1 vs = ρ0) (hl : l.length ≤ 1000) (hs : ∀ x ∈ l, StepF vs g ft fe ρ0 (c x) true (h x)) :
    fLc vs fi g ft fe ρ = .ok (.lst (l.map h)) ρ0 := by
  have := fLc_filter (p := fun _ => true) hfi hok hw hl hs
  rw [this, List.filter_eq_self.mpr (fun _ _ => rfl)]
end
theorem step_s {vs : List Nat} {g : D → En → Rs Unit} {ft : En → Rs Bool} {fe : En → Rs D} {ρ0 : En} {d r : D} {b : Bool} (ρ1 : En) (h1 : g d ρ0 = .ok () ρ1) (h2 : ft ρ1 = .ok b ρ1) (h3 : b = true → fe ρ1 = .ok r ρ1) (h4 : okW ρ1 vs = true) (h5 : wipeR ρ1 vs = ρ0) : StepF vs g ft fe ρ0 d b r :=
  ⟨ρ1, h1, ρ1, h2, fun h => ⟨ρ1, h3 h, h4, h5⟩, fun _ => ⟨h4, h5⟩⟩
/-- numbers with their indices -/
def enumL : Int → List Int → List (Int × Int)
  | _, [] => []
  | k, x :: xs => (k, x) :: enumL (k + 1) xs
theorem enumD_ints : ∀ (xs : List Int) (k : Int), enumD k (xs.map .int) = (enumL k xs).map pD
  | [], _ => rfl
  | x :: xs, k => by simp [enumD, enumL, pD, enumD_ints xs]
theorem enumL_len : ∀ (xs : List Int) (k : Int), (enumL k xs).length = xs.length
  | [], _ => rfl
  | x :: xs, k => by simp [enumL, enumL_len xs]
theorem enumL_mem : ∀ {xs : List Int} {k : Int} {p : Int × Int}, p ∈ enumL k xs ↔ ∃ i : Nat, xs[i]? = some p.2 ∧ p.1 = k + (i : Nat)
  | [], k, p => by simp [enumL]
  | x :: xs, k, p => by
    simp only [enumL, List.mem_cons, enumL_mem (xs := xs)]
    constructor
    · rintro (rfl | ⟨i, h1, h2⟩)
      · exact ⟨0, by simp, by simp⟩
      · exact ⟨i + 1, by simpa using h1, by rw [h2]; push_cast; omega⟩
    · rintro ⟨i, h1, h2⟩
      cases i with
      | zero => left; simp at h1 h2; exact Prod.ext h2 h1.symm
      | succ i => right; exact ⟨i, by simpa using h1, by rw [h2]; push_cast; omega⟩
theorem asB_map {α : Type} (q : α → Bool) : ∀ l : List α, asB (l.map fun x => .bl (q x)) = some (l.map q)
  | [] => rfl
  | x :: l => by simp [asB, asB_map q l]
theorem asI_map : ∀ l : List Int, asI (l.map .int) = some l
  | [] => rfl
  | x :: l => by simp [asI, asI_map l]
theorem asP_map : ∀ l : List (Int × Int), asP (l.map pD) = some l
  | [] => rfl
  | x :: l => by
    show asP (.tup [.int x.1, .int x.2] :: l.map pD) = _
    simp [asP, asP_map l]
def rest (n x : Int) : Int := (x - 1) % n + 1
structure Valid (xs : List Int) : Prop where
  len : 1 ≤ xs.length ∧ xs.length ≤ 8
  bd : ∀ (i : Nat) (x : Int), xs[i]? = some x → (i : Int) + 1 ≤ x ∧ x ≤ i + 1 + xs.length
  nd : (xs.map (rest xs.length)).Nodup
theorem atI_nat {α : Type} {xs : List α} {i : Nat} {x : α} (h : xs[i]? = some x) : atI xs (i : Int) = some x := by
  have hl := (List.getElem?_eq_some_iff.mp h).1
  simp [atI, ixN, hl]; exact (List.getElem?_eq_some_iff.mp h).2
end Dl
end
section
set_option maxHeartbeats 4000000
namespace Dl
open PySem PySem.Spec PyProof.Rows L2
def level (xs : List Int) : Nat := ((enumL 1 xs).filter fun q => decide ((xs.length : Int) < q.2)).length
theorem c_falling {xs : List Int} (h : xs.length ≤ 8) : F_falling_in [T xs] = .ok (.lst (((enumL 1 xs).filter fun q => decide ((xs.length : Int) < q.2)).map fun q => .int q.1)) [] := by
  have : fLc [1, 2] (iEn 1 (fVar 0)) (gT (gsCons (gN 1) (gsCons (gN 2) gsNil)) 2) (fTr (fBin opGt (fVar 2) (fCall gLen (fCons (fVar 0) fNil)))) (fVar 1) [some (.sh (T xs)), none, none] = .ok (.lst (((enumL 1 xs).filter fun q => decide ((xs.length : Int) < q.2)).map fun q => .int q.1)) [some (.sh (T xs)), none, none] := by
    refine fLc_filter (c := pD) (ρ1 := [some (.sh (T xs)), none, none]) ?_ (by rfl) (by rfl) (by rw [enumL_len]; omega) fun q hq => ?_
    · simp [iEn, fVar, Rs.bind, T, enumD_ints]
    · refine step_s [some (.sh (T xs)), some (.sh (.int q.1)), some (.sh (.int q.2))] (by simp [gT, pD, gsCons, gN, gsNil, Rs.bind, setOk]) (by simp [fTr, fBin, fVar, fCall, fCons, fNil, Rs.bind, gLen, opGt, T]) (fun _ => by simp [fVar]) (by simp [okW, setOk]) (by simp [wipeR])
  simp [F_falling_in, m_falling_in, bodyF, enE, fRet, this, Rs.bind, bosD]
theorem c_level {xs : List Int} (h : xs.length ≤ 8) : F_Order_level [O xs] = .ok (.int (level xs)) [] := by
  simp [F_Order_level, m_Order_level, bodyF, enE, fRet, fCall, fCons, fNil, fFn, fFld, fVar, O, Rs.bind, getX, mixD, putB, c_falling h, gLen, bosD, level]
theorem c_numbers {xs : List Int} : F_Order_numbers [O xs] = .ok (T xs) [] := by
  simp [F_Order_numbers, m_Order_numbers, bodyF, enE, fRet, fFld, fVar, O, Rs.bind, getX, bosD]
end Dl
end
section
set_option maxHeartbeats 4000000
namespace Dl
open PySem PySem.Spec PyProof.Rows L2
theorem sz2 : 2 ≤ sizeLine := by decide
theorem opEq_int {i j : Int} : opEq (.int i) (.int j) = some (.bl (decide (i = j))) := by
  simp [opEq, deq, D.py, PyData.eqv, SeqAt.shaped, PyData.depth, PyData.canLay0, Bool.beq_eq_decide_eq]
def brought (n : Int) (ps : List (Int × Int)) : List Int := (srtP (ps.map fun q => (rest n q.1, q.2 - q.1 + rest n q.1))).map (·.2)
theorem srtP_len (l : List (Int × Int)) : (srtP l).length = l.length := srtP_perm.length_eq
theorem c_brought {n : Int} {ps : List (Int × Int)} (hn : 0 < n) (hl : ps.length ≤ 1000) : F_brought [.int n, .lst (ps.map pD)] = .ok (T (brought n ps)) [] := by
  have e1 : fLc [3, 4] (iSeq (fVar 1)) (gT (gsCons (gN 3) (gsCons (gN 4) gsNil)) 2) fYes (fTup (fCons (fFn [none, none] F_rest_of (fCons (fVar 0) (fCons (fVar 3) fNil))) (fCons (fBin opAdd (fBin opSub (fVar 4) (fVar 3)) (fFn [none, none] F_rest_of (fCons (fVar 0) (fCons (fVar 3) fNil)))) fNil)))
      [some (.sh (.int n)), some (.sh (.lst (ps.map pD))), none, none, none, none] = .ok (.lst (ps.map fun q => pD (rest n q.1, q.2 - q.1 + rest n q.1))) [some (.sh (.int n)), some (.sh (.lst (ps.map pD))), none, none, none, none] := by
    refine fLc_map (c := pD) (ρ1 := [some (.sh (.int n)), some (.sh (.lst (ps.map pD))), none, none, none, none]) (by simp [iSeq, fVar, Rs.bind]) (by rfl) (by rfl) hl fun q _ => ?_
    refine step_s [some (.sh (.int n)), some (.sh (.lst (ps.map pD))), none, some (.sh (.int q.1)), some (.sh (.int q.2)), none] (by simp [gT, pD, gsCons, gN, gsNil, Rs.bind, setOk]) rfl (fun _ => ?_) (by simp [okW, setOk]) (by simp [wipeR])
    simp [fTup, fCons, fNil, fFn, fVar, Rs.bind, mixD, putB, c_rest hn, fBin, opSub, opAdd, sz2, pD, rest]
  have e2 : ∀ l : List (Int × Int), l.length ≤ 1000 → fLc [5, 4] (iSeq (fVar 2)) (gT (gsCons (gN 5) (gsCons (gN 4) gsNil)) 2) fYes (fVar 4)
      [some (.sh (.int n)), some (.sh (.lst (ps.map pD))), some (.sh (.lst (l.map pD))), none, none, none] = .ok (.lst (l.map fun q => .int q.2)) [some (.sh (.int n)), some (.sh (.lst (ps.map pD))), some (.sh (.lst (l.map pD))), none, none, none] := fun l hl => by
    refine fLc_map (c := pD) (ρ1 := [some (.sh (.int n)), some (.sh (.lst (ps.map pD))), some (.sh (.lst (l.map pD))), none, none, none]) (by simp [iSeq, fVar, Rs.bind]) (by rfl) (by rfl) hl fun q _ => ?_
    exact step_s [some (.sh (.int n)), some (.sh (.lst (ps.map pD))), some (.sh (.lst (l.map pD))), none, some (.sh (.int q.2)), some (.sh (.int q.1))] (by simp [gT, pD, gsCons, gN, gsNil, Rs.bind, setOk]) rfl (fun _ => by simp [fVar]) (by simp [okW, setOk]) (by simp [wipeR])
  have e3 := e2 (srtP (ps.map fun q => (rest n q.1, q.2 - q.1 + rest n q.1))) (by rw [srtP_len]; simpa using hl)
  have e4 : gSortP [.lst (ps.map fun q => pD (rest n q.1, q.2 - q.1 + rest n q.1))] = some (.lst ((srtP (ps.map fun q => (rest n q.1, q.2 - q.1 + rest n q.1))).map pD)) := by
    have := asP_map (ps.map fun q => (rest n q.1, q.2 - q.1 + rest n q.1))
    rw [List.map_map] at this
    show (asP _).map _ = _
    rw [show (ps.map fun q => pD (rest n q.1, q.2 - q.1 + rest n q.1)) = ps.map (pD ∘ fun q => (rest n q.1, q.2 - q.1 + rest n q.1)) from rfl, this]
    rfl
  simp [F_brought, m_brought, bodyF, enE, fSeq, fSet, fRet, fCall, fCons, fNil, e1, e4, e3, Rs.bind, bosD, setOk, gTuple, T, brought]
theorem Valid.mem {xs : List Int} (h : Valid xs) {x : Int} (hx : x ∈ xs) : 1 ≤ x ∧ x ≤ 16 := by
  obtain ⟨i, hi⟩ := List.mem_iff_getElem?.mp hx
  have hl := (List.getElem?_eq_some_iff.mp hi).1
  have := h.bd i x hi
  have := h.len
  omega
theorem c_are {xs : List Int} (h : Valid xs) : F_are_numbers [T xs] = .ok (.bl true) [] := by
  obtain ⟨h1, h2⟩ := h.len
  have hn : (0 : Int) < xs.length := by omega
  have a1 : fLc [1] (iSeq (fVar 0)) (gN 1) fYes (fFn [none] F_is_integer (fCons (fVar 1) fNil)) [some (.sh (T xs)), none, none, none] = .ok (.lst (xs.map fun _ => .bl true)) [some (.sh (T xs)), none, none, none] := by
    refine fLc_map (c := D.int) (ρ1 := [some (.sh (T xs)), none, none, none]) (by simp [iSeq, fVar, Rs.bind, T]) (by rfl) (by rfl) (by omega) fun x hx => ?_
    have := h.mem hx
    exact step_s [some (.sh (T xs)), some (.sh (.int x)), none, none] (by simp [gN, setOk]) rfl (fun _ => by simp [fFn, fCons, fNil, fVar, Rs.bind, mixD, putB, c_is_integer (x := x) (by unfold Gt; omega) (by unfold Gt; omega)]) (by simp [okW, setOk]) (by simp [wipeR])
  have a2 : fLc [3, 1] (iEn 1 (fVar 0)) (gT (gsCons (gN 3) (gsCons (gN 1) gsNil)) 2) fYes (fChain opLe opLe (fVar 3) (fVar 1) (fBin opAdd (fVar 3) (fVar 2))) [some (.sh (T xs)), none, some (.sh (.int xs.length)), none] = .ok (.lst ((enumL 1 xs).map fun _ => .bl true)) [some (.sh (T xs)), none, some (.sh (.int xs.length)), none] := by
    refine fLc_map (c := pD) (ρ1 := [some (.sh (T xs)), none, some (.sh (.int xs.length)), none]) (by simp [iEn, fVar, Rs.bind, T, enumD_ints]) (by rfl) (by rfl) (by rw [enumL_len]; omega) fun q hq => ?_
    obtain ⟨i, hi, hq1⟩ := enumL_mem.mp hq
    have hb := h.bd i q.2 hi
    have b1 : q.1 ≤ q.2 := by omega
    have b2 : q.2 ≤ q.1 + xs.length := by omega
    exact step_s [some (.sh (T xs)), some (.sh (.int q.2)), some (.sh (.int xs.length)), some (.sh (.int q.1))] (by simp [gT, pD, gsCons, gN, gsNil, Rs.bind, setOk]) rfl (fun _ => by simp [fChain, fVar, Rs.bind, opLe, fBin, opAdd, b1, b2]) (by simp [okW, setOk]) (by simp [wipeR])
  have a3 : fLc [1] (iSeq (fVar 0)) (gN 1) fYes (fFn [none, none] F_rest_of (fCons (fVar 2) (fCons (fVar 1) fNil))) [some (.sh (T xs)), none, some (.sh (.int xs.length)), none] = .ok (.lst (xs.map fun x => .int (rest xs.length x))) [some (.sh (T xs)), none, some (.sh (.int xs.length)), none] := by
    refine fLc_map (c := D.int) (ρ1 := [some (.sh (T xs)), none, some (.sh (.int xs.length)), none]) (by simp [iSeq, fVar, Rs.bind, T]) (by rfl) (by rfl) (by omega) fun x hx => ?_
    exact step_s [some (.sh (T xs)), some (.sh (.int x)), some (.sh (.int xs.length)), none] (by simp [gN, setOk]) rfl (fun _ => by simp [fFn, fCons, fNil, fVar, Rs.bind, mixD, putB, c_rest hn, rest]) (by simp [okW, setOk]) (by simp [wipeR])
  have g1 : gAll [.lst (xs.map fun _ => .bl true)] = some (.bl true) := by simp [gAll, asB_map (fun _ : Int => true)]
  have g2 : gAll [.lst ((enumL 1 xs).map fun _ => .bl true)] = some (.bl true) := by simp [gAll, asB_map (fun _ : Int × Int => true)]
  have g3 : gLenSet (.lst (xs.map fun x => .int (rest xs.length x))) = some (.int xs.length) := by
    have := asI_map (xs.map (rest xs.length))
    rw [List.map_map] at this
    show (asI _).bind _ = _
    rw [show (xs.map fun x => D.int (rest xs.length x)) = xs.map (D.int ∘ rest xs.length) from rfl, this]
    simp [h.nd]; omega
  have c1 : (1 : Int) ≤ xs.length := by omega
  have c2 : (xs.length : Int) ≤ 8 := by omega
  have i1 : isTup (T xs) = some true := rfl
  have l1 : gLen [T xs] = some (.int xs.length) := by simp [gLen, T]
  simp [F_are_numbers, m_are_numbers, bodyF, enE, fSeq, fIfS, fOrB, fNotB, fTr, fIsi, fUn, fVar, fChain, fC, fCall, fCons, fNil, Rs.bind, i1, l1, opLe, c1, c2, fSkip, a1, g1, fSet, setOk, a2, g2, fRet, fBin, a3, g3, opEq_int, bosD]
theorem c_init {xs : List Int} (h : Valid xs) : F_Order___init__ [.ins "Order" [] [], T xs] = .ok .non [O xs] := by
  simp [F_Order___init__, m_Order___init__, bodyF, enE, fSeq, fIfS, fNotB, fTr, fFn, fCons, fNil, fVar, Rs.bind, mixD, putB, c_are h, fSkip, fFldS, owned, putSl, putK, putX, bosD, O]
end Dl
end
section
set_option maxHeartbeats 4000000
namespace Dl
open PySem PySem.Spec PyProof.Rows L2
def dual (xs : List Int) : List Int := brought xs.length ((enumL 1 xs).map fun q => (q.2, q.1 + xs.length))
theorem fld_O {xs : List Int} {ρ : En} (h : ρ[0]? = some (some (.sh (O xs)))) : fFld "Order" "own_numbers" (fVar 0) ρ = .ok (T xs) ρ := by
  simp [fFld, fVar, h, O, Rs.bind, getX]
theorem fld_O1 {xs : List Int} {r : En} : fFld "Order" "own_numbers" (fVar 0) (some (.sh (O xs)) :: r) = .ok (T xs) (some (.sh (O xs)) :: r) := fld_O rfl
theorem len_T {xs : List Int} : gLen [T xs] = some (.int xs.length) := by simp [gLen, T]
theorem iEn_T {xs : List Int} {f : En → Rs D} {ρ : En} (h : f ρ = .ok (T xs) ρ) : iEn 1 f ρ = .ok ((enumL 1 xs).map pD) ρ := by
  simp [iEn, h, Rs.bind, T, enumD_ints]
theorem mk_O {ρ : En} {f : En → Rs D} {ρ1 : En} {ys : List Int} (h : f ρ = .ok (T ys) ρ1) (hv : Valid ys) : fMk "Order" [none] F_Order___init__ (fCons f fNil) ρ = .ok (O ys) ρ1 := by
  simp [fMk, fCons, fNil, h, Rs.bind, mixD, putB, c_init hv]
theorem c_dual {xs : List Int} (h1 : 1 ≤ xs.length) (h2 : xs.length ≤ 8) (hv : Valid (dual xs)) : F_Order_dual [O xs] = .ok (O (dual xs)) [] := by
  have hn : (0 : Int) < xs.length := by omega
  have e1 : fLc [3, 4] (iEn 1 (fFld "Order" "own_numbers" (fVar 0))) (gT (gsCons (gN 3) (gsCons (gN 4) gsNil)) 2) fYes (fTup (fCons (fVar 4) (fCons (fBin opAdd (fVar 3) (fVar 1)) fNil)))
      [some (.sh (O xs)), some (.sh (.int xs.length)), none, none, none] = .ok (.lst ((enumL 1 xs).map fun q => pD (q.2, q.1 + xs.length))) [some (.sh (O xs)), some (.sh (.int xs.length)), none, none, none] := by
    refine fLc_map (c := pD) (ρ1 := [some (.sh (O xs)), some (.sh (.int xs.length)), none, none, none]) (iEn_T (fld_O rfl)) (by rfl) (by rfl) (by rw [enumL_len]; omega) fun q hq => ?_
    exact step_s [some (.sh (O xs)), some (.sh (.int xs.length)), none, some (.sh (.int q.1)), some (.sh (.int q.2))] (by simp [gT, pD, gsCons, gN, gsNil, Rs.bind, setOk]) rfl (fun _ => by simp [fTup, fCons, fNil, fVar, fBin, opAdd, Rs.bind, sz2, pD]) (by simp [okW, setOk]) (by simp [wipeR])
  have e2 := c_brought (n := xs.length) (ps := (enumL 1 xs).map fun q => (q.2, q.1 + xs.length)) hn (by simp [enumL_len]; omega)
  rw [List.map_map] at e2
  have e4 : fFn [none, none] F_brought (fCons (fVar 1) (fCons (fVar 2) fNil)) [some (.sh (O xs)), some (.sh (.int xs.length)), some (.ow (.lst ((enumL 1 xs).map fun q => pD (q.2, q.1 + xs.length)))), none, none] = .ok (T (dual xs)) [some (.sh (O xs)), some (.sh (.int xs.length)), some (.sh (.lst ((enumL 1 xs).map fun q => pD (q.2, q.1 + xs.length)))), none, none] := by
    have e2' : F_brought [.int xs.length, .lst ((enumL 1 xs).map fun q => pD (q.2, q.1 + xs.length))] = .ok (T (dual xs)) [] := e2
    simp [fFn, fCons, fNil, fVar, Rs.bind, mixD, putB, e2']
  have e5 := mk_O e4 hv
  simp [F_Order_dual, m_Order_dual, bodyF, enE, fSeq, fSet, fSetL, fRet, fCall, fCons, fNil, Rs.bind, fld_O1, len_T, e1, setOk, bosD] at e5 ⊢
  rw [e5]; rfl
end Dl
end
section
set_option maxHeartbeats 4000000
namespace Dl
open PySem PySem.Spec PyProof.Rows L2
/-- the order at any integer -/
def Vx (xs : List Int) (v : Int) : Int := xs.getD ((v - 1) % xs.length).toNat 0 + v - rest xs.length v
theorem ix_T {xs : List Int} {i : Int} {j : Nat} (h : i = j) (hj : j < xs.length) : opIx (T xs) (.int i) = some (.int (xs.getD j 0)) := by
  subst h
  have e : (xs.map D.int)[j]? = some (.int (xs.getD j 0)) := by simp [List.getElem?_map, hj]
  exact atI_nat e
theorem mod_nat {v n : Int} (hn : 0 < n) : ∃ j : Nat, v % n = j ∧ (j : Int) < n ∧ (v % n).toNat = j := by
  have a := Int.emod_nonneg v (Int.ne_of_gt hn)
  have b := Int.emod_lt_of_pos v hn
  exact ⟨(v % n).toNat, by omega, by omega, rfl⟩
theorem c_value_at {xs : List Int} {v : Int} (h1 : 1 ≤ xs.length) : F_value_at [T xs, .int v] = .ok (.int (Vx xs v)) [] := by
  have hn : (0 : Int) < xs.length := by omega
  obtain ⟨j, e1, e2, e3⟩ := mod_nat (v := v - 1) hn
  have e4 : opIx (T xs) (.int ((v - 1) % xs.length)) = some (.int (xs.getD j 0)) := ix_T e1 (by omega)
  simp [F_value_at, m_value_at, bodyF, enE, fSeq, fSet, fFn, fCons, fNil, fCall, fVar, Rs.bind, len_T, mixD, putB, c_rest hn, setOk, fRet, fBin, fC, opSub, e4, opAdd, bosD, Vx, e3, rest]
theorem c_law_value {xs : List Int} {v : Int} (h1 : 1 ≤ xs.length) (h2 : xs.length ≤ 8) (hv : ((v - 1) / xs.length).natAbs < 2 ^ 4000) : F__law_value [T xs, .int v] = .ok (.int (Vx xs v)) [] := by
  have hn : (0 : Int) < xs.length := by omega
  obtain ⟨j, e1, e2, e3⟩ := mod_nat (v := v - 1) hn
  have w2 : wid ((v - 1) / xs.length) = true := decide_eq_true hv
  have hd0 := Int.emod_def (v - 1) xs.length
  have hc : (xs.length : Int) * ((v - 1) / xs.length) = (v - 1) / xs.length * xs.length := Int.mul_comm _ _
  generalize hz : (v - 1) / (xs.length : Int) = z at *
  have hd : v - 1 - z * xs.length = j := by omega
  have e4 : opIx (T xs) (.int (v - 1 - z * xs.length)) = some (.int (xs.getD j 0)) := ix_T hd (by omega)
  have w1 : wid (xs.length : Int) = true := by
    unfold wid
    have : ((xs.length : Int)).natAbs < 2 ^ 4000 := Nat.lt_of_le_of_lt (by omega : ((xs.length : Int)).natAbs ≤ 2 ^ 4) (Nat.pow_lt_pow_right (by decide) (by decide))
    exact decide_eq_true this
  have e5 : xs.getD j 0 + z * xs.length = Vx xs v := by
    unfold Vx rest
    rw [e3]; omega
  simp [F__law_value, m__law_value, bodyF, enE, fSeq, fSet, fCons, fNil, fCall, fVar, Rs.bind, len_T, setOk, fRet, fBin, fC, opSub, opDiv, opMul, (show 0 < xs.length from h1), hz, w1, w2, e4, opAdd, bosD]
  rw [← e5, List.getD_eq_getElem?_getD]
end Dl
end
section
set_option maxHeartbeats 4000000
namespace Dl
open PySem PySem.Spec PyProof.Rows L2
/-! ### two clauses -/
theorem lc2D_map {α : Type} {β : Type} {vs vs1 : List Nat} {g g1 : D → En → Rs Unit} {ft ft1 : En → Rs Bool} {fi1 : En → Rs (List D)} {fe : En → Rs D} {ρ0 : En} {c : α → D} {c1 : α → β → D} {inner : α → List β} {h : α → β → D} :
    ∀ (l : List α) (acc : List D), acc.length + (l.flatMap inner).length ≤ 1000 → (∀ x ∈ l, ∃ ρ1 ρ2, g (c x) ρ0 = .ok () ρ1 ∧ ft ρ1 = .ok true ρ1 ∧ fi1 ρ1 = .ok ((inner x).map (c1 x)) ρ1 ∧ okW ρ1 vs1 = true ∧ wipeR ρ1 vs1 = ρ2 ∧ (∀ y ∈ inner x, StepF vs1 g1 ft1 fe ρ2 (c1 x y) true (h x y)) ∧ okW ρ2 vs = true ∧ wipeR ρ2 vs = ρ0) →
      lc2D vs vs1 g ft fi1 g1 ft1 fe (l.map c) acc ρ0 = .ok (acc ++ l.flatMap fun x => (inner x).map (h x)) ρ0
  | [], acc, _, _ => by simp [lc2D]
  | x :: l, acc, hl, hs => by
    obtain ⟨ρ1, ρ2, e1, e2, e3, e4, e5, e6, e7, e8⟩ := hs x List.mem_cons_self
    simp only [List.flatMap_cons, List.length_append] at hl
    have q := lcD_filter (p := fun _ => true) (inner x) acc (by omega) e6
    rw [List.filter_eq_self.mpr (fun _ _ => rfl)] at q
    have ih := lc2D_map l (acc ++ (inner x).map (h x)) (by rw [List.length_append, List.length_map]; omega) (fun y hy => hs y (List.mem_cons_of_mem _ hy))
    simp only [List.map_cons, lc2D, e1, e2, e3, e4, if_true, e5, q, e7, e8, ih]
    simp [List.append_assoc]
theorem p62 : (2 : Int) ^ 62 = 4611686018427387904 := by decide
theorem iRg2_ok {fa fb : En → Rs D} {ρ ρ1 ρ2 : En} {i j : Int} (ha : fa ρ = .ok (.int i) ρ1) (hb : fb ρ1 = .ok (.int j) ρ2) (h : -1000 ≤ i ∧ i ≤ 1000 ∧ -1000 ≤ j ∧ j ≤ 1000) : iRg2 fa fb ρ = .ok ((List.range (j - i).toNat).map fun (k : Nat) => D.int (i + (k : Nat))) ρ2 := by
  unfold iRg2
  rw [ha]
  dsimp only [Rs.bind]
  rw [hb]
  dsimp only
  rw [p62, if_pos (by omega)]
theorem iRg1_ok {fa : En → Rs D} {ρ ρ1 : En} {j : Int} (ha : fa ρ = .ok (.int j) ρ1) (h : -1000 ≤ j ∧ j ≤ 1000) : iRg1 fa ρ = .ok ((List.range j.toNat).map fun (k : Nat) => D.int (k : Nat)) ρ1 := by
  unfold iRg1
  rw [ha]
  dsimp only [Rs.bind]
  rw [p62, if_pos (by omega)]
def places (n : Nat) : List (Int × Int) := (List.range n).flatMap fun i => (List.range (n - 1)).map fun k => ((1 : Int) + (i : Nat), (1 : Int) + (i : Nat) + 1 + (k : Nat))
def knotsL (xs : List Int) : List (Int × Int) := (places xs.length).filter fun q => decide (Vx xs q.2 < Vx xs q.1)
theorem fm_len (n m : Nat) : ((List.range n).flatMap fun _ => List.range m).length = n * m := by
  rw [List.length_flatMap]; simp [List.map_const', List.sum_replicate_nat]
theorem places_mem {n : Nat} {q : Int × Int} (h : q ∈ places n) : 1 ≤ q.1 ∧ q.1 ≤ n ∧ q.1 < q.2 ∧ q.2 < q.1 + n := by
  unfold places at h
  obtain ⟨i, hi, h⟩ := List.mem_flatMap.mp h
  obtain ⟨k, hk, rfl⟩ := List.mem_map.mp h
  have := List.mem_range.mp hi
  have := List.mem_range.mp hk
  simp only
  omega
theorem places_len (n : Nat) : (places n).length = n * (n - 1) := by
  unfold places
  rw [List.length_flatMap]; simp [List.map_const', List.sum_replicate_nat]
end Dl
end
section
set_option maxHeartbeats 4000000
namespace Dl
open PySem PySem.Spec PyProof.Rows L2
theorem kn_places {xs : List Int} (h1 : 1 ≤ xs.length) (h2 : xs.length ≤ 8) : fLc2 [3, 4] [4] (iRg2 (fC (.int 1)) (fBin opAdd (fVar 1) (fC (.int 1)))) (gN 3) fYes (iRg2 (fBin opAdd (fVar 3) (fC (.int 1))) (fBin opAdd (fVar 3) (fVar 1))) (gN 4) fYes (fTup (fCons (fVar 3) (fCons (fVar 4) fNil)))
      [some (.sh (T xs)), some (.sh (.int xs.length)), none, none, none] = .ok (.lst ((places xs.length).map pD)) [some (.sh (T xs)), some (.sh (.int xs.length)), none, none, none] := by
  have hm : xs.length * (xs.length - 1) ≤ 56 := Nat.le_trans (Nat.mul_le_mul h2 (Nat.sub_le_sub_right h2 1)) (by decide)
  have e0 : iRg2 (fC (.int 1)) (fBin opAdd (fVar 1) (fC (.int 1))) [some (.sh (T xs)), some (.sh (.int xs.length)), none, none, none] = .ok ((List.range xs.length).map fun (k : Nat) => D.int (1 + (k : Nat))) [some (.sh (T xs)), some (.sh (.int xs.length)), none, none, none] := by
    have := iRg2_ok (ρ := [some (.sh (T xs)), some (.sh (.int xs.length)), none, none, none]) (fa := fC (.int 1)) (fb := fBin opAdd (fVar 1) (fC (.int 1))) (i := 1) (j := xs.length + 1) rfl rfl (by omega)
    rw [show ((xs.length : Int) + 1 - 1).toNat = xs.length by omega] at this
    exact this
  have e1 := lc2D_map (vs := [3, 4]) (vs1 := [4]) (g := gN 3) (g1 := gN 4) (ft := fYes) (ft1 := fYes) (fi1 := iRg2 (fBin opAdd (fVar 3) (fC (.int 1))) (fBin opAdd (fVar 3) (fVar 1))) (fe := fTup (fCons (fVar 3) (fCons (fVar 4) fNil))) (ρ0 := [some (.sh (T xs)), some (.sh (.int xs.length)), none, none, none])
    (c := fun (k : Nat) => D.int (1 + (k : Nat))) (c1 := fun (i k : Nat) => D.int (1 + (i : Nat) + 1 + (k : Nat))) (inner := fun _ => List.range (xs.length - 1)) (h := fun (i k : Nat) => pD (1 + (i : Nat), 1 + (i : Nat) + 1 + (k : Nat))) (List.range xs.length) []
    (by rw [fm_len, List.length_nil, Nat.zero_add]; exact Nat.le_trans hm (by decide)) (fun i hi => by
      have hi' := List.mem_range.mp hi
      refine ⟨[some (.sh (T xs)), some (.sh (.int xs.length)), none, some (.sh (.int (1 + (i : Nat)))), none], [some (.sh (T xs)), some (.sh (.int xs.length)), none, some (.sh (.int (1 + (i : Nat)))), none], rfl, rfl, ?_, rfl, rfl, fun k hk => ?_, rfl, rfl⟩
      · have := iRg2_ok (ρ := [some (.sh (T xs)), some (.sh (.int xs.length)), none, some (.sh (.int (1 + (i : Nat)))), none]) (fa := fBin opAdd (fVar 3) (fC (.int 1))) (fb := fBin opAdd (fVar 3) (fVar 1)) (i := 1 + i + 1) (j := 1 + i + xs.length) rfl rfl (by omega)
        rw [show ((1 : Int) + i + xs.length - (1 + i + 1)).toNat = xs.length - 1 by omega] at this
        exact this
      · exact step_s [some (.sh (T xs)), some (.sh (.int xs.length)), none, some (.sh (.int (1 + (i : Nat)))), some (.sh (.int (1 + (i : Nat) + 1 + (k : Nat))))] rfl rfl (fun _ => by simp [fTup, fCons, fNil, fVar, Rs.bind, sz2, pD]) rfl rfl)
  unfold fLc2
  rw [e0]
  simp only [Rs.bind]
  rw [if_pos (show okW [some (.sh (T xs)), some (.sh (.int xs.length)), none, none, none] [3, 4] = true from rfl)]
  rw [show wipeR [some (.sh (T xs)), some (.sh (.int xs.length)), none, none, none] [3, 4] = [some (.sh (T xs)), some (.sh (.int xs.length)), none, none, none] from rfl, e1]
  simp only [lcEnd, List.nil_append, places, List.map_flatMap, List.map_map, Function.comp_def]
end Dl
end
section
set_option maxHeartbeats 4000000
namespace Dl
open PySem PySem.Spec PyProof.Rows L2
theorem kn_filter {xs : List Int} (h1 : 1 ≤ xs.length) (h2 : xs.length ≤ 8) : fLc [3, 4] (iSeq (fVar 2)) (gT (gsCons (gN 3) (gsCons (gN 4) gsNil)) 2) (fTr (fBin opGt (fBin opIx (fVar 0) (fBin opSub (fVar 3) (fC (.int 1)))) (fFn [none, none] F_value_at (fCons (fVar 0) (fCons (fVar 4) fNil))))) (fTup (fCons (fVar 3) (fCons (fVar 4) fNil)))
      [some (.sh (T xs)), some (.sh (.int xs.length)), some (.ow (.lst ((places xs.length).map pD))), none, none] = .ok (.lst ((knotsL xs).map pD)) [some (.sh (T xs)), some (.sh (.int xs.length)), some (.sh (.lst ((places xs.length).map pD))), none, none] := by
  have hm : (places xs.length).length ≤ 1000 := by rw [places_len]; exact Nat.le_trans (Nat.mul_le_mul h2 (Nat.sub_le_sub_right h2 1)) (by decide)
  refine fLc_filter (c := pD) (ρ1 := [some (.sh (T xs)), some (.sh (.int xs.length)), some (.sh (.lst ((places xs.length).map pD))), none, none]) (by simp [iSeq, fVar, Rs.bind]) rfl rfl hm fun q hq => ?_
  obtain ⟨p1, p2, p3, p4⟩ := places_mem hq
  have m1 : (q.1 - 1) % (xs.length : Int) = q.1 - 1 := Int.emod_eq_of_lt (by omega) (by omega)
  have e4 : opIx (T xs) (.int (q.1 - 1)) = some (.int (xs.getD (q.1 - 1).toNat 0)) := ix_T (by omega) (by omega)
  have e5 : xs.getD (q.1 - 1).toNat 0 = Vx xs q.1 := by unfold Vx rest; rw [m1]; omega
  rw [e5] at e4
  exact step_s [some (.sh (T xs)), some (.sh (.int xs.length)), some (.sh (.lst ((places xs.length).map pD))), some (.sh (.int q.1)), some (.sh (.int q.2))] rfl (by simp [fTr, fBin, fVar, fC, opSub, Rs.bind, e4, fFn, fCons, fNil, mixD, putB, c_value_at h1, opGt]) (fun _ => by simp [fTup, fCons, fNil, fVar, Rs.bind, sz2, pD]) rfl rfl
theorem fin3 {c : En → Rs D} {A B : En → Rs D} {x y z w : D} {ρ2 : En} (h0 : c [some (.sh x), none, none, none, none] = .ok y [some (.sh x), none, none, none, none]) (h1 : A [some (.sh x), some (.sh y), none, none, none] = .ok z [some (.sh x), some (.sh y), none, none, none])
    (h2 : B [some (.sh x), some (.sh y), some (.ow z), none, none] = .ok w ρ2) (h3 : ∃ a ρ3, ρ2 = a :: ρ3) : bodyF [false] 5 (fSeq (fSet 1 c) (fSeq (fSetL 2 A) (fRet B))) [x] = .ok w [] := by
  obtain ⟨a, ρ3, rfl⟩ := h3
  simp [bodyF, enE, fSeq, fSet, fSetL, fRet, Rs.bind, h0, setOk, h1, h2, bosD]
theorem c_knots {xs : List Int} (h1 : 1 ≤ xs.length) (h2 : xs.length ≤ 8) : F_knots_in [T xs] = .ok (.lst ((knotsL xs).map pD)) [] := by
  have e0 : fCall gLen (fCons (fVar 0) fNil) [some (.sh (T xs)), none, none, none, none] = .ok (.int xs.length) [some (.sh (T xs)), none, none, none, none] := by
    simp only [fCall, fCons, fNil, fVar, Rs.bind, len_T, List.getElem?_cons_zero]
  exact fin3 e0 (kn_places h1 h2) (kn_filter h1 h2) ⟨_, _, rfl⟩
end Dl
end
section
set_option maxHeartbeats 4000000
namespace Dl
open PySem PySem.Spec PyProof.Rows L2
theorem level_le (xs : List Int) : level xs ≤ xs.length := by
  unfold level
  exact Nat.le_trans (List.length_filter_le _ _) (by rw [enumL_len]; exact Nat.le_refl _)
theorem wid_s {i : Int} (h : i.natAbs ≤ 1000) : wid i = true := by
  unfold wid
  refine decide_eq_true (Nat.lt_of_lt_of_le (Nat.lt_of_le_of_lt h (by decide : 1000 < 2 ^ 10)) (Nat.pow_le_pow_right (by decide) (by decide)))
theorem fn1 {F : List D → Fr} {f : En → Rs D} {ρ ρ1 : En} {d r : D} (h : f ρ = .ok d ρ1) (hF : F [d] = .ok r []) : fFn [none] F (fCons f fNil) ρ = .ok r ρ1 := by
  simp [fFn, fCons, fNil, h, Rs.bind, mixD, putB, hF]
theorem fn2 {F : List D → Fr} {f g : En → Rs D} {ρ ρ1 ρ2 : En} {d e r : D} (h : f ρ = .ok d ρ1) (h2 : g ρ1 = .ok e ρ2) (hF : F [d, e] = .ok r []) : fFn [none, none] F (fCons f (fCons g fNil)) ρ = .ok r ρ2 := by
  simp [fFn, fCons, fNil, h, h2, Rs.bind, mixD, putB, hF]
theorem cl1 {g : List D → Option D} {f : En → Rs D} {ρ ρ1 : En} {d r : D} (h : f ρ = .ok d ρ1) (hg : g [d] = some r) : fCall g (fCons f fNil) ρ = .ok r ρ1 := by
  simp [fCall, fCons, fNil, h, Rs.bind, hg]
theorem bin1 {g : D → D → Option D} {f h : En → Rs D} {ρ ρ1 ρ2 : En} {a b r : D} (h1 : f ρ = .ok a ρ1) (h2 : h ρ1 = .ok b ρ2) (hg : g a b = some r) : fBin g f h ρ = .ok r ρ2 := by
  simp [fBin, h1, h2, Rs.bind, hg]
theorem ret1 {bor : List Bool} {n : Nat} {f : En → Rs D} {ds : List D} {r : D} {ρ : En} {bs : List D} (hl : ds.length = bor.length) (h : f (enE bor ds n) = .ok r ρ) (hb : bosD bor ρ = some bs) : bodyF bor n (fRet f) ds = .ok r bs := by
  simp [bodyF, hl, fRet, h, Rs.bind, hb]
end Dl
end
section
set_option maxHeartbeats 4000000
namespace Dl
open PySem PySem.Spec PyProof.Rows L2
/-! ### equal data -/
theorem eq_refl {d : D} {x : PyData} (h : d.py = some x) (hs : SeqAt.shaped x = true) : opEq d d = some (.bl true) ∧ opNe d d = some (.bl false) := by
  have e : PyData.eqv x x = true := SeqAt.eqv_refl x (by unfold SeqAt.shaped at hs; exact (Bool.and_eq_true_iff.mp hs).1)
  constructor
  · simp [opEq, deq, h, hs, e]
  · simp [opNe, deq, h, hs, e]
theorem pyAll_ints : ∀ xs : List Int, pyAll (xs.map .int) = some (xs.map PyData.int)
  | [] => rfl
  | x :: xs => by simp [pyAll, D.py, pyAll_ints xs]
theorem T_py (xs : List Int) : (T xs).py = some (.tuple (xs.map .int)) := by
  show (pyAll (xs.map .int)).map _ = _
  rw [pyAll_ints]; rfl
/-! ### the first match in a loop -/
theorem forD_ret {g : D → En → Rs Unit} {fb : En → Rs Fl} {ρf : Option Sl → En} {d r : D} {post : List D} {ρ' : En} (hg : ∀ e s, (s = none ∨ ∃ d, s = some (Sl.sh d)) → g e (ρf s) = .ok () (ρf (some (.sh e)))) (hd : fb (ρf (some (.sh d))) = .ok (.ret r) ρ') :
    ∀ (pre : List D), (∀ e ∈ pre, fb (ρf (some (.sh e))) = .ok .nx (ρf (some (.sh e)))) → ∀ s, (s = none ∨ ∃ d, s = some (Sl.sh d)) → forD g fb (pre ++ d :: post) (ρf s) = .ok (.ret r) ρ'
  | [], _, s, hs => by simp [forD, hg _ _ hs, hd, Rs.bind]
  | e :: pre, h, s, hs => by
    have ih := forD_ret (post := post) hg hd pre (fun x hx => h x (List.mem_cons_of_mem _ hx)) (some (.sh e)) (.inr ⟨e, rfl⟩)
    simp only [List.cons_append, forD, hg _ _ hs, h e List.mem_cons_self, Rs.bind]
    exact ih
theorem range_split {n i : Nat} (h : i < n) : ∃ r, List.range n = List.range i ++ i :: r := by
  refine ⟨(List.range (n - i - 1)).map (· + (i + 1)), ?_⟩
  have : n = i + (1 + (n - i - 1)) := by omega
  rw [this, List.range_add, List.range_add]
  simp [Nat.add_assoc]
  intro a _; omega
/-- where the value v stands -/
def ixOf (xs : List Int) (v : Int) : Nat := xs.findIdx fun x => decide ((x - v) % (xs.length : Int) = 0)
def inv (xs : List Int) (v : Int) : Int := (ixOf xs v : Int) + 1 + v - xs.getD (ixOf xs v) 0
theorem ixOf_lt {xs : List Int} {v : Int} (h : ∃ x ∈ xs, (x - v) % (xs.length : Int) = 0) : ixOf xs v < xs.length := by
  obtain ⟨x, hx, e⟩ := h
  exact List.findIdx_lt_length_of_exists ⟨x, hx, by simpa using e⟩
theorem ixOf_at {xs : List Int} {v : Int} (h : ixOf xs v < xs.length) : (xs.getD (ixOf xs v) 0 - v) % (xs.length : Int) = 0 := by
  have := List.findIdx_getElem (p := fun x => decide ((x - v) % (xs.length : Int) = 0)) (w := h)
  have e : xs.getD (ixOf xs v) 0 = xs[ixOf xs v] := by simp [List.getD_eq_getElem?_getD, h]
  rw [e]; exact of_decide_eq_true this
theorem ixOf_no {xs : List Int} {v : Int} {j : Nat} (h : j < ixOf xs v) (hl : j < xs.length) : ¬ (xs.getD j 0 - v) % (xs.length : Int) = 0 := by
  have := List.not_of_lt_findIdx (p := fun x => decide ((x - v) % (xs.length : Int) = 0)) h
  have e : xs.getD j 0 = xs[j] := by simp [List.getD_eq_getElem?_getD, hl]
  rw [e]; simpa using this
theorem shape_stand {A : En → Rs D} {B : En → Rs (List D)} {fb : En → Rs Fl} {x y n r : D} {es : List D} {s : Option Sl} (hA : A [some (.sh x), some (.sh y), none, none] = .ok n [some (.sh x), some (.sh y), none, none])
    (hB : B [some (.sh x), some (.sh y), some (.sh n), none] = .ok es [some (.sh x), some (.sh y), some (.sh n), none]) (hf : forD (gN 3) fb es [some (.sh x), some (.sh y), some (.sh n), none] = .ok (.ret r) [some (.sh x), some (.sh y), some (.sh n), s]) :
    bodyF [false, false] 4 (fSeq (fSet 2 A) (fSeq (fFor B (gN 3) fb) (fRet (fC .non)))) [x, y] = .ok r [] := by
  simp [bodyF, enE, fSeq, fSet, fFor, fRet, Rs.bind, hA, setOk, hB, hf, bosD]
theorem c_standing {xs : List Int} {v : Int} (h1 : 1 ≤ xs.length) (h2 : xs.length ≤ 8) (h : ∃ x ∈ xs, (x - v) % (xs.length : Int) = 0) : F__law_standing [T xs, .int v] = .ok (.int (inv xs v)) [] := by
  have hn : (0 : Int) < xs.length := by omega
  have hn' : 0 < xs.length := h1
  have hlt := ixOf_lt h
  obtain ⟨post, hp⟩ := range_split hlt
  have body : ∀ j : Nat, j < xs.length → fIfS (fTr (fBin opEq (fBin opMod (fCall gInt (fCons (fBin opSub (fBin opIx (fVar 0) (fVar 3)) (fVar 1)) fNil)) (fVar 2)) (fC (.int 0)))) (fRet (fBin opSub (fBin opAdd (fBin opAdd (fVar 3) (fC (.int 1))) (fVar 1)) (fBin opIx (fVar 0) (fVar 3)))) fSkip
      [some (.sh (T xs)), some (.sh (.int v)), some (.sh (.int xs.length)), some (.sh (.int (j : Nat)))] = (if (xs.getD j 0 - v) % (xs.length : Int) = 0 then .ok (.ret (.int ((j : Int) + 1 + v - xs.getD j 0))) [some (.sh (T xs)), some (.sh (.int v)), some (.sh (.int xs.length)), some (.sh (.int (j : Nat)))] else .ok .nx [some (.sh (T xs)), some (.sh (.int v)), some (.sh (.int xs.length)), some (.sh (.int (j : Nat)))]) := fun j hj => by
    have e4 : opIx (T xs) (.int (j : Nat)) = some (.int (xs.getD j 0)) := ix_T rfl hj
    generalize xs.getD j 0 = z at e4 ⊢
    by_cases c : (z - v) % (xs.length : Int) = 0
    · simp [fIfS, fTr, fBin, fCall, fCons, fNil, fVar, fC, Rs.bind, e4, opSub, gInt, opMod, hn', opEq_int, c, fRet, opAdd]
    · simp [fIfS, fTr, fBin, fCall, fCons, fNil, fVar, fC, Rs.bind, e4, opSub, gInt, opMod, hn', opEq_int, c, fSkip]
  refine shape_stand (cl1 (show fVar 0 _ = .ok (T xs) _ from rfl) len_T) (iRg1_ok (show fVar 2 _ = .ok (.int xs.length) _ from rfl) (by omega)) (s := some (.sh (.int (ixOf xs v : Nat)))) ?_
  rw [Int.toNat_natCast, hp, List.map_append, List.map_cons]
  refine forD_ret (ρf := fun s => [some (.sh (T xs)), some (.sh (.int v)), some (.sh (.int xs.length)), s]) (fun e s hs => ?_) ?_ _ (fun e he => ?_) none (.inl rfl)
  · rcases hs with rfl | ⟨d, rfl⟩ <;> rfl
  · rw [body _ hlt, if_pos (ixOf_at hlt)]; rfl
  · obtain ⟨j, hj, rfl⟩ := List.mem_map.mp he
    have hj' := List.mem_range.mp hj
    rw [body j (by omega), if_neg (ixOf_no hj' (by omega))]
end Dl
end
section
set_option maxHeartbeats 4000000
namespace Dl
open PySem PySem.Spec PyProof.Rows L2
/-- 1 .. n -/
def upto (n : Nat) : List Int := (List.range n).map fun (k : Nat) => (1 : Int) + (k : Nat)
theorem upto_mem {n : Nat} {v : Int} : v ∈ upto n ↔ 1 ≤ v ∧ v ≤ n := by
  unfold upto
  constructor
  · intro h
    obtain ⟨k, hk, rfl⟩ := List.mem_map.mp h
    have := List.mem_range.mp hk
    omega
  · intro h
    exact List.mem_map.mpr ⟨(v - 1).toNat, List.mem_range.mpr (by omega), by omega⟩
theorem upto_len (n : Nat) : (upto n).length = n := by simp [upto]
/-- every value stands somewhere -/
def Full (xs : List Int) : Prop := ∀ v : Int, ∃ x ∈ xs, (x - v) % (xs.length : Int) = 0
def dualL (xs : List Int) : List Int := (upto xs.length).map fun v => inv xs v + xs.length
def mirrL (xs : List Int) : List Int := (upto xs.length).map fun v => xs.length + 1 - inv xs (xs.length + 1 - v)
def turnL (xs : List Int) (b : Int) : List Int := (upto xs.length).map fun v => Vx xs (v - b) + b
theorem src_upto {n : Nat} {f : En → Rs D} {ρ : En} (hn : n ≤ 8) (h : f ρ = .ok (.int (n + 1)) ρ) : iRg2 (fC (.int 1)) f ρ = .ok ((upto n).map .int) ρ := by
  have := iRg2_ok (fa := fC (.int 1)) (fb := f) (ρ := ρ) (i := 1) (j := n + 1) rfl h (by omega)
  rw [show ((n : Int) + 1 - 1).toNat = n by omega] at this
  rw [this]
  simp [upto, List.map_map, Function.comp_def]
theorem gTup {l : List Int} : gTuple [.lst (l.map .int)] = some (T l) := rfl
/-! ### ends, == -/
theorem dep_ints : ∀ xs : List Int, PyData.depthAll (xs.map PyData.int) = 0
  | [] => rfl
  | x :: xs => by simp [PyData.depthAll, PyData.depth, dep_ints xs]
theorem lay_ints : ∀ xs : List Int, PyData.canLayAll0 (xs.map PyData.int) = true
  | [] => rfl
  | x :: xs => by simp [PyData.canLayAll0, PyData.canLay0, lay_ints xs]
theorem T_shaped {xs : List Int} : SeqAt.shaped (.tuple (xs.map PyData.int)) = true := by
  unfold SeqAt.shaped
  simp [PyData.canLay0, PyData.depth, dep_ints, lay_ints]
theorem c_eq {xs : List Int} : F_Order___eq__ [O xs, O xs] = .ok (.bl true) [] := by
  have e := (eq_refl (T_py xs) T_shaped).1
  have f1 : fFld "Order" "own_numbers" (fVar 1) [some (.sh (O xs)), some (.sh (O xs))] = .ok (T xs) [some (.sh (O xs)), some (.sh (O xs))] := by simp [fFld, fVar, O, Rs.bind, getX]
  refine ret1 (by rfl) (show fAnd _ _ _ = .ok (.bl true) [some (.sh (O xs)), some (.sh (O xs))] from ?_) rfl
  have i1 : fIsi (isC "Order") (fVar 1) [some (.sh (O xs)), some (.sh (O xs))] = .ok (.bl true) [some (.sh (O xs)), some (.sh (O xs))] := by simp [fIsi, fUn, fVar, Rs.bind, isC, O]
  simp only [fAnd, fTr, i1, Rs.bind, if_true]
  exact bin1 fld_O1 f1 e
end Dl
end
section
set_option maxHeartbeats 4000000
namespace Dl
/-! ### the mathematics: orders as functions on all integers -/
theorem perm_of_sub {α : Type} [DecidableEq α] : ∀ {l1 l2 : List α}, l1.Nodup → (∀ a ∈ l1, a ∈ l2) → l2.length ≤ l1.length → l1.Perm l2
  | [], l2, _, _, h => by
    have : l2 = [] := List.length_eq_zero_iff.mp (Nat.le_zero.mp h)
    rw [this]
  | a :: l1, l2, nd, sub, h => by
    have nd' := List.nodup_cons.mp nd
    have ha := sub a List.mem_cons_self
    have p := List.perm_cons_erase ha
    refine (List.Perm.cons a (perm_of_sub nd'.2 (fun b hb => ?_) ?_)).trans p.symm
    · have hne : b ≠ a := fun e => nd'.1 (e ▸ hb)
      exact (List.mem_erase_of_ne hne).mpr (sub b (List.mem_cons_of_mem _ hb))
    · rw [List.length_erase_of_mem ha]
      simp at h
      omega
theorem rest_bd {n x : Int} (hn : 0 < n) : 1 ≤ rest n x ∧ rest n x ≤ n := by
  unfold rest
  have := Int.emod_nonneg (x - 1) (Int.ne_of_gt hn)
  have := Int.emod_lt_of_pos (x - 1) hn
  omega
theorem rest_eq {n x y : Int} : rest n x = rest n y ↔ (x - y) % n = 0 := by
  unfold rest
  rw [show x - y = (x - 1) - (y - 1) by omega, ← Int.emod_eq_emod_iff_emod_sub_eq_zero]
  omega
theorem rest_add {n x k : Int} : rest n (x + n * k) = rest n x := by
  rw [rest_eq]
  rw [show x + n * k - x = n * k by omega]
  exact Int.mul_emod_right n k
/-- each integer stands in a place of the period -/
theorem split {n : Nat} (hn : 0 < n) (v : Int) : ∃ (i : Nat) (k : Int), i < n ∧ v = (i : Int) + 1 + n * k ∧ ((v - 1) % n).toNat = i := by
  have h0 : (0 : Int) < n := by omega
  obtain ⟨j, e1, e2, e3⟩ := mod_nat (v := v - 1) h0
  refine ⟨j, (v - 1) / n, by omega, ?_, e3⟩
  have := Int.emod_def (v - 1) n
  omega
section
variable {xs ys : List Int}
theorem Vx_at {i : Nat} {k : Int} (hi : i < xs.length) : Vx xs ((i : Int) + 1 + xs.length * k) = xs.getD i 0 + xs.length * k := by
  have e : ((i : Int) + 1 + xs.length * k - 1) % xs.length = i := by
    rw [show (i : Int) + 1 + xs.length * k - 1 = i + xs.length * k by omega, Int.add_mul_emod_self_left]
    exact Int.emod_eq_of_lt (by omega) (by omega)
  unfold Vx rest
  rw [e]
  simp
  omega
theorem Vx_one {i : Nat} (hi : i < xs.length) : Vx xs ((i : Int) + 1) = xs.getD i 0 := by
  have := Vx_at (xs := xs) (k := 0) hi
  simpa using this
theorem Vx_add (h : 0 < xs.length) (v k : Int) : Vx xs (v + xs.length * k) = Vx xs v + xs.length * k := by
  obtain ⟨i, m, hi, e, _⟩ := split h v
  rw [e, show (i : Int) + 1 + xs.length * m + xs.length * k = (i : Int) + 1 + xs.length * (m + k) by rw [Int.mul_add]; omega, Vx_at hi, Vx_at hi, Int.mul_add]
  omega
theorem getD_at {i : Nat} (hi : i < xs.length) : xs[i]? = some (xs.getD i 0) := by simp [List.getD_eq_getElem?_getD, hi]
theorem ext_V (hl : xs.length = ys.length) (h : ∀ v : Int, Vx xs v = Vx ys v) : xs = ys := by
  refine List.ext_getElem? fun i => ?_
  by_cases hi : i < xs.length
  · rw [getD_at hi, getD_at (hl ▸ hi), ← Vx_one hi, ← Vx_one (hl ▸ hi), h]
  · rw [List.getElem?_eq_none (by omega), List.getElem?_eq_none (by omega)]
theorem Valid.pos (h : Valid xs) : 0 < xs.length := h.len.1
theorem Valid.V_bd (h : Valid xs) (v : Int) : v ≤ Vx xs v ∧ Vx xs v ≤ v + xs.length := by
  obtain ⟨i, k, hi, e, _⟩ := split h.pos v
  rw [e, Vx_at hi]
  have := h.bd i _ (getD_at hi)
  omega
theorem Valid.perm (h : Valid xs) : (xs.map (rest xs.length)).Perm (upto xs.length) := by
  have hp : (0 : Int) < xs.length := by have := h.pos; omega
  refine perm_of_sub h.nd (fun a ha => ?_) (by rw [upto_len, List.length_map]; exact Nat.le_refl _)
  obtain ⟨x, _, rfl⟩ := List.mem_map.mp ha
  exact upto_mem.mpr (rest_bd hp)
theorem Valid.full (h : Valid xs) : Full xs := fun v => by
  have hp : (0 : Int) < xs.length := by have := h.pos; omega
  have := h.perm.mem_iff.mpr (upto_mem.mpr (rest_bd (x := v) hp))
  obtain ⟨x, hx, e⟩ := List.mem_map.mp this
  exact ⟨x, hx, rest_eq.mp e⟩
theorem nodup_getD {α β : Type} {f : α → β} {l : List α} (h : (l.map f).Nodup) {i j : Nat} {a b : α} (hi : l[i]? = some a) (hj : l[j]? = some b) (e : f a = f b) : i = j := by
  have h1 : (l.map f)[i]? = some (f a) := by rw [List.getElem?_map, hi]; rfl
  have h2 : (l.map f)[j]? = some (f b) := by rw [List.getElem?_map, hj]; rfl
  have li := (List.getElem?_eq_some_iff.mp h1).1
  exact (List.getElem?_inj li h).mp (by rw [h1, h2, e])
theorem Valid.V_modinj (h : Valid xs) {u w : Int} (e : (Vx xs u - Vx xs w) % (xs.length : Int) = 0) : ∃ k, u = w + xs.length * k := by
  obtain ⟨i, k, hi, e1, _⟩ := split h.pos u
  obtain ⟨j, m, hj, e2, _⟩ := split h.pos w
  rw [e1, e2, Vx_at hi, Vx_at hj] at e
  have e' : (xs.getD i 0 - xs.getD j 0) % (xs.length : Int) = 0 := by
    rw [show xs.getD i 0 + xs.length * k - (xs.getD j 0 + xs.length * m) = xs.getD i 0 - xs.getD j 0 + xs.length * (k - m) by rw [Int.mul_sub]; omega, Int.add_mul_emod_self_left] at e
    exact e
  have := nodup_getD h.nd (getD_at hi) (getD_at hj) (rest_eq.mpr e')
  subst this
  exact ⟨k - m, by rw [e1, e2, Int.mul_sub]; omega⟩
theorem Valid.V_inj (h : Valid xs) {u w : Int} (e : Vx xs u = Vx xs w) : u = w := by
  obtain ⟨k, hk⟩ := h.V_modinj (u := u) (w := w) (by rw [e]; simp)
  rw [hk, Vx_add h.pos] at e
  omega
theorem V_inv (h : Valid xs) (v : Int) : Vx xs (inv xs v) = v := by
  have hlt := ixOf_lt (h.full v)
  have e := ixOf_at hlt
  obtain ⟨k, hk⟩ := Int.dvd_of_emod_eq_zero e
  unfold inv
  rw [show (ixOf xs v : Int) + 1 + v - xs.getD (ixOf xs v) 0 = (ixOf xs v : Int) + 1 + xs.length * (-k) by rw [Int.mul_neg]; omega, Vx_at hlt, Int.mul_neg]
  omega
theorem inv_V (h : Valid xs) (u : Int) : inv xs (Vx xs u) = u := h.V_inj (V_inv h _)
/-! ### what brought tells -/
theorem enumL_srt : ∀ (l : List Int) (k : Int), SrP (enumL k l)
  | [], _ => List.Pairwise.nil
  | x :: l, k => List.pairwise_cons.mpr ⟨fun q hq => by
      obtain ⟨i, _, e⟩ := enumL_mem.mp hq
      exact SrtO.lexB_no.mpr (by simp only; omega), enumL_srt l (k + 1)⟩
theorem enumL_snd : ∀ (l : List Int) (k : Int), (enumL k l).map (·.2) = l
  | [], _ => rfl
  | x :: l, k => by simp [enumL, enumL_snd l]
theorem nodup_of_map {α β : Type} {f : α → β} : ∀ {l : List α}, (l.map f).Nodup → l.Nodup
  | [], _ => List.nodup_nil
  | a :: l, h => by
    have h' := List.nodup_cons.mp (show (f a :: l.map f).Nodup from h)
    exact List.nodup_cons.mpr ⟨fun z => h'.1 (List.mem_map.mpr ⟨a, z, rfl⟩), nodup_of_map h'.2⟩
theorem brought_eq {ps : List (Int × Int)} (hl : ps.length = ys.length) (hp : 0 < ys.length) (nd : (ps.map fun q => rest ys.length q.1).Nodup) (hV : ∀ q ∈ ps, Vx ys q.1 = q.2) : brought ys.length ps = ys := by
  have hp' : (0 : Int) < ys.length := by omega
  have perm : (ps.map fun q => (rest ys.length q.1, q.2 - q.1 + rest ys.length q.1)).Perm (enumL 1 ys) := by
    refine perm_of_sub (nodup_of_map (f := Prod.fst) (by rw [List.map_map]; exact nd)) (fun a ha => ?_) (by rw [enumL_len, List.length_map, hl]; exact Nat.le_refl _)
    obtain ⟨q, hq, rfl⟩ := List.mem_map.mp ha
    obtain ⟨i, k, hi, e1, e2⟩ := split hp q.1
    refine enumL_mem.mpr ⟨i, ?_, ?_⟩
    · rw [getD_at hi]
      have := hV q hq
      unfold Vx at this
      rw [e2] at this
      simp only [Option.some.injEq]
      omega
    · simp only
      rw [e1, rest_add]
      unfold rest
      rw [show (i : Int) + 1 - 1 = i by omega, Int.emod_eq_of_lt (by omega) (by omega)]
      omega
  unfold brought
  rw [srP_uniq srtP_srt (enumL_srt ys 1) (srtP_perm.trans perm), enumL_snd]
end
end Dl
end
section
set_option maxHeartbeats 4000000
namespace Dl
section
variable {xs ys : List Int}
theorem enumL_eq : ∀ (l : List Int) (k : Int), enumL k l = (List.range l.length).map fun i => (k + (i : Nat), l.getD i 0)
  | [], _ => rfl
  | x :: l, k => by
    rw [enumL, enumL_eq l (k + 1), List.length_cons, List.range_succ_eq_map, List.map_cons, List.map_map]
    simp [Function.comp_def]
    intro a _
    omega
theorem nd_enum {φ : Int × Int → Int} (h : ∀ i j : Nat, i < xs.length → j < xs.length → (φ ((i : Int) + 1, xs.getD i 0) - φ ((j : Int) + 1, xs.getD j 0)) % (xs.length : Int) = 0 → i = j) : ((enumL 1 xs).map fun q => rest xs.length (φ q)).Nodup := by
  rw [enumL_eq, List.map_map]
  refine nodup_mapI List.nodup_range fun i hi j hj e => h i j (List.mem_range.mp hi) (List.mem_range.mp hj) ?_
  have := rest_eq.mp e
  rw [Int.add_comm (i : Int) 1, Int.add_comm (j : Int) 1]
  exact this
theorem enum_at {q : Int × Int} (h : q ∈ enumL 1 xs) : ∃ i : Nat, i < xs.length ∧ q.1 = (i : Int) + 1 ∧ q.2 = xs.getD i 0 := by
  obtain ⟨i, h1, h2⟩ := enumL_mem.mp h
  have hi := (List.getElem?_eq_some_iff.mp h1).1
  refine ⟨i, hi, by omega, ?_⟩
  rw [getD_at hi] at h1
  exact (Option.some.inj h1).symm
/-- a list told value by value -/
def tell (n : Nat) (h : Int → Int) : List Int := (upto n).map h
theorem tell_len (n : Nat) (h : Int → Int) : (tell n h).length = n := by simp [tell, upto_len]
theorem tell_get {n i : Nat} {h : Int → Int} (hi : i < n) : (tell n h).getD i 0 = h ((i : Int) + 1) := by
  simp [tell, upto, List.getD_eq_getElem?_getD, List.getElem?_map, List.getElem?_range, hi, Int.add_comm]
theorem tell_V {n : Nat} {h : Int → Int} (hn : 0 < n) (eq : ∀ v k : Int, h (v + n * k) = h v + n * k) (v : Int) : Vx (tell n h) v = h v := by
  obtain ⟨i, k, hi, e, _⟩ := split hn v
  have hl := tell_len n h
  rw [e]
  have := Vx_at (xs := tell n h) (i := i) (k := k) (by rw [hl]; exact hi)
  rw [hl] at this
  rw [this, tell_get hi, ← eq]
theorem tell_valid {n : Nat} {h : Int → Int} (h1 : 1 ≤ n) (h8 : n ≤ 8) (bd : ∀ v : Int, v ≤ h v ∧ h v ≤ v + n) (inj : ∀ u w : Int, (h u - h w) % (n : Int) = 0 → ∃ k, u = w + n * k) : Valid (tell n h) := by
  have hl := tell_len n h
  refine ⟨by omega, fun i x hx => ?_, ?_⟩
  · have hi := (List.getElem?_eq_some_iff.mp hx).1
    rw [getD_at hi] at hx
    cases hx
    rw [tell_get (hl ▸ hi), hl]
    have := bd ((i : Int) + 1)
    omega
  · rw [hl]
    unfold tell upto
    rw [List.map_map, List.map_map]
    refine nodup_mapI List.nodup_range fun i hi j hj e => ?_
    have hi' := List.mem_range.mp hi
    have hj' := List.mem_range.mp hj
    obtain ⟨k, hk⟩ := inj _ _ (rest_eq.mp (show rest n (h (1 + (i : Nat))) = rest n (h (1 + (j : Nat))) from e))
    have h3 : (i : Int) - j = n * k := by omega
    have hk0 : k = 0 := by
      rcases Int.lt_trichotomy k 0 with q | q | q
      · have : (n : Int) * k ≤ n * (-1) := Int.mul_le_mul_of_nonneg_left (by omega) (by omega)
        omega
      · exact q
      · have : (n : Int) * 1 ≤ n * k := Int.mul_le_mul_of_nonneg_left (by omega) (by omega)
        omega
    subst hk0
    omega
theorem inv_add (h : Valid xs) (v k : Int) : inv xs (v + xs.length * k) = inv xs v + xs.length * k := h.V_inj (by rw [V_inv h, Vx_add h.pos, V_inv h])
theorem dualL_tell : dualL xs = tell xs.length fun v => inv xs v + xs.length := rfl
theorem mirrL_tell : mirrL xs = tell xs.length fun v => xs.length + 1 - inv xs (xs.length + 1 - v) := rfl
theorem turnL_tell {b : Int} : turnL xs b = tell xs.length fun v => Vx xs (v - b) + b := rfl
theorem V_dualL (h : Valid xs) (v : Int) : Vx (dualL xs) v = inv xs v + xs.length := by
  rw [dualL_tell]
  exact tell_V h.pos (fun v k => by rw [inv_add h]; omega) v
theorem V_mirrL (h : Valid xs) (v : Int) : Vx (mirrL xs) v = xs.length + 1 - inv xs (xs.length + 1 - v) := by
  rw [mirrL_tell]
  refine tell_V h.pos (fun v k => ?_) v
  rw [show (xs.length : Int) + 1 - (v + xs.length * k) = (xs.length + 1 - v) + xs.length * (-k) by rw [Int.mul_neg]; omega, inv_add h, Int.mul_neg]
  omega
theorem V_turnL (h : Valid xs) (b v : Int) : Vx (turnL xs b) v = Vx xs (v - b) + b := by
  rw [turnL_tell]
  refine tell_V h.pos (fun v k => ?_) v
  rw [show v + (xs.length : Int) * k - b = (v - b) + xs.length * k by omega, Vx_add h.pos]
  omega
theorem inv_modinj (h : Valid xs) {u w : Int} (e : (inv xs u - inv xs w) % (xs.length : Int) = 0) : ∃ k, u = w + xs.length * k := by
  obtain ⟨k, hk⟩ := Int.dvd_of_emod_eq_zero e
  refine ⟨k, ?_⟩
  have : inv xs u = inv xs w + xs.length * k := by omega
  have e2 := V_inv h u
  rw [this, Vx_add h.pos, V_inv h] at e2
  omega
theorem valid_dualL (h : Valid xs) : Valid (dualL xs) := by
  rw [dualL_tell]
  refine tell_valid h.len.1 h.len.2 (fun v => ?_) fun u w e => inv_modinj h (by rw [show inv xs u - inv xs w = (inv xs u + xs.length) - (inv xs w + xs.length) by omega]; exact e)
  have := h.V_bd (inv xs v)
  rw [V_inv h] at this
  omega
theorem valid_mirrL (h : Valid xs) : Valid (mirrL xs) := by
  rw [mirrL_tell]
  refine tell_valid h.len.1 h.len.2 (fun v => ?_) fun u w e => ?_
  · have := h.V_bd (inv xs (xs.length + 1 - v))
    rw [V_inv h] at this
    omega
  · obtain ⟨k, hk⟩ := inv_modinj h (u := xs.length + 1 - w) (w := xs.length + 1 - u) (by rw [← e]; congr 1; omega)
    exact ⟨k, by omega⟩
theorem valid_turnL (h : Valid xs) (b : Int) : Valid (turnL xs b) := by
  rw [turnL_tell]
  refine tell_valid h.len.1 h.len.2 (fun v => ?_) fun u w e => ?_
  · have := h.V_bd (v - b); omega
  · obtain ⟨k, hk⟩ := h.V_modinj (u := u - b) (w := w - b) (by rw [← e]; congr 1; omega)
    exact ⟨k, by omega⟩
theorem dual_eq (h : Valid xs) : dual xs = dualL xs := by
  have hl : (dualL xs).length = xs.length := by rw [dualL_tell, tell_len]
  have := brought_eq (ys := dualL xs) (ps := (enumL 1 xs).map fun q => (q.2, q.1 + xs.length)) (by rw [hl]; simp [enumL_len]) (by rw [hl]; exact h.pos) (by
    rw [hl, List.map_map]
    refine nd_enum (φ := fun q => q.2) fun i j hi hj e => ?_
    exact nodup_getD h.nd (getD_at hi) (getD_at hj) (rest_eq.mpr e)) fun q hq => by
    obtain ⟨q0, hq0, rfl⟩ := List.mem_map.mp hq
    obtain ⟨i, hi, e1, e2⟩ := enum_at hq0
    simp only
    rw [V_dualL h, e2, e1, ← Vx_one hi, inv_V h]
  rw [hl] at this
  exact this
end
end Dl
end
section
set_option maxHeartbeats 4000000
namespace Dl
section
variable {xs ys : List Int}
theorem dualL_len : (dualL xs).length = xs.length := by rw [dualL_tell, tell_len]
theorem mirrL_len : (mirrL xs).length = xs.length := by rw [mirrL_tell, tell_len]
theorem turnL_len {b : Int} : (turnL xs b).length = xs.length := by rw [turnL_tell, tell_len]
theorem inv_of (h : Valid xs) {u v : Int} (e : Vx xs u = v) : inv xs v = u := by rw [← e, inv_V h]
theorem inv_dualL (h : Valid xs) (v : Int) : inv (dualL xs) v = Vx xs v - xs.length := by
  refine inv_of (valid_dualL h) ?_
  rw [V_dualL h]
  have := inv_add h (Vx xs v) (-1)
  rw [inv_V h] at this
  rw [show Vx xs v - (xs.length : Int) = Vx xs v + xs.length * (-1) by omega, this]
  omega
theorem inv_mirrL (h : Valid xs) (v : Int) : inv (mirrL xs) v = xs.length + 1 - Vx xs (xs.length + 1 - v) := by
  refine inv_of (valid_mirrL h) ?_
  rw [V_mirrL h, show (xs.length : Int) + 1 - (xs.length + 1 - Vx xs (xs.length + 1 - v)) = Vx xs (xs.length + 1 - v) by omega, inv_V h]
  omega
theorem inv_turnL (h : Valid xs) (b v : Int) : inv (turnL xs b) v = inv xs (v - b) + b := by
  refine inv_of (valid_turnL h b) ?_
  rw [V_turnL h, show inv xs (v - b) + b - b = inv xs (v - b) by omega, V_inv h]
  omega
theorem dual_dual (h : Valid xs) : dualL (dualL xs) = xs := ext_V (by rw [dualL_len, dualL_len]) fun v => by
  rw [V_dualL (valid_dualL h), inv_dualL h, dualL_len]; omega
theorem mirr_mirr (h : Valid xs) : mirrL (mirrL xs) = xs := ext_V (by rw [mirrL_len, mirrL_len]) fun v => by
  rw [V_mirrL (valid_mirrL h), inv_mirrL h, mirrL_len, show (xs.length : Int) + 1 - (xs.length + 1 - v) = v by omega]; omega
theorem turn_turn (h : Valid xs) (b c : Int) : turnL (turnL xs b) c = turnL xs (b + c) := ext_V (by rw [turnL_len, turnL_len, turnL_len]) fun v => by
  rw [V_turnL (valid_turnL h b), V_turnL h, V_turnL h, show v - c - b = v - (b + c) by omega]; omega
theorem turn_all (h : Valid xs) (k : Int) : turnL xs (xs.length * k) = xs := ext_V turnL_len fun v => by
  have := Vx_add h.pos v (-k)
  rw [Int.mul_neg] at this
  rw [V_turnL h, show v - (xs.length : Int) * k = v + -(xs.length * k) by omega, this]; omega
theorem turn_zero (h : Valid xs) : turnL xs 0 = xs := by have := turn_all h 0; simpa using this
theorem turn_back (h : Valid xs) (b : Int) : turnL (turnL xs b) (-b) = xs := by
  rw [turn_turn h, show b + -b = 0 by omega, turn_zero h]
theorem turn_more (h : Valid xs) (b : Int) : turnL xs (b + xs.length) = turnL xs b := by
  have e := turn_all h 1
  rw [show (xs.length : Int) * 1 = xs.length by omega] at e
  have := turn_turn h xs.length b
  rw [e, Int.add_comm] at this
  exact this.symm
theorem mirr_dual (h : Valid xs) : mirrL (dualL xs) = dualL (mirrL xs) := ext_V (by rw [mirrL_len, dualL_len, dualL_len, mirrL_len]) fun v => by
  rw [V_mirrL (valid_dualL h), V_dualL (valid_mirrL h), inv_dualL h, inv_mirrL h, dualL_len, mirrL_len]; omega
theorem dual_turn (h : Valid xs) (b : Int) : dualL (turnL xs b) = turnL (dualL xs) b := ext_V (by rw [turnL_len, dualL_len, dualL_len, turnL_len]) fun v => by
  rw [V_dualL (valid_turnL h b), V_turnL (valid_dualL h), inv_turnL h, V_dualL h, turnL_len]; omega
theorem mirr_turn (h : Valid xs) (b : Int) : mirrL (turnL xs b) = turnL (mirrL xs) (-b) := ext_V (by rw [turnL_len, mirrL_len, mirrL_len, turnL_len]) fun v => by
  rw [V_mirrL (valid_turnL h b), V_turnL (valid_mirrL h), inv_turnL h, V_mirrL h, turnL_len, show (xs.length : Int) + 1 - v - b = xs.length + 1 - (v - -b) by omega]; omega
/-! ### sums over a period -/
theorem perm_sum {l m : List Int} (p : l.Perm m) : l.sum = m.sum := by
  induction p with
  | nil => rfl
  | cons x _ ih => simp [ih]
  | swap x y l => simp; omega
  | trans _ _ h1 h2 => exact h1.trans h2
theorem rest_form {n : Nat} (hn : 0 < n) (v : Int) : ∃ k : Int, rest n v = v + n * k := by
  refine ⟨-((v - 1) / n), ?_⟩
  unfold rest
  have := Int.emod_def (v - 1) n
  rw [Int.mul_neg]
  omega
theorem upto_nodup (n : Nat) : (upto n).Nodup := by
  unfold upto
  exact nodup_mapI List.nodup_range fun i _ j _ e => by omega
/-- a sum over a period may be taken at any places that differ within it -/
theorem psum {n : Nat} (hn : 0 < n) {h σ : Int → Int} (hp : ∀ v k : Int, h (v + n * k) = h v) (hs : ∀ u w : Int, (σ u - σ w) % (n : Int) = 0 → ∃ k, u = w + n * k) : ((upto n).map fun u => h (σ u)).sum = ((upto n).map h).sum := by
  have e : ((upto n).map fun u => h (σ u)) = ((upto n).map fun u => rest n (σ u)).map h := by
    rw [List.map_map]
    refine List.map_congr_left fun u _ => ?_
    obtain ⟨k, hk⟩ := rest_form hn (σ u)
    show h (σ u) = h (rest n (σ u))
    rw [hk, hp]
  rw [e]
  refine perm_sum (List.Perm.map h (perm_of_sub ?_ (fun a ha => ?_) (by rw [upto_len, List.length_map, upto_len]; exact Nat.le_refl _)))
  · refine nodup_mapI (upto_nodup n) fun u hu w hw e => ?_
    obtain ⟨k, hk⟩ := hs u w (rest_eq.mp e)
    have a := upto_mem.mp hu
    have b := upto_mem.mp hw
    have hk0 : k = 0 := by
      rcases Int.lt_trichotomy k 0 with q | q | q
      · have : (n : Int) * k ≤ n * (-1) := Int.mul_le_mul_of_nonneg_left (by omega) (by omega)
        omega
      · exact q
      · have : (n : Int) * 1 ≤ n * k := Int.mul_le_mul_of_nonneg_left (by omega) (by omega)
        omega
    subst hk0
    omega
  · obtain ⟨u, _, rfl⟩ := List.mem_map.mp ha
    exact upto_mem.mpr (rest_bd (by omega))
/-! ### the level -/
def S (xs : List Int) : Int := ((upto xs.length).map fun v => Vx xs v - v).sum
theorem upto_V : (upto xs.length).map (Vx xs) = xs := by
  have : tell xs.length (Vx xs) = xs := by
    refine List.ext_getElem? fun i => ?_
    by_cases hi : i < xs.length
    · rw [getD_at (by rw [tell_len]; exact hi), tell_get hi, Vx_one hi, ← getD_at hi]
    · rw [List.getElem?_eq_none (by rw [tell_len]; omega), List.getElem?_eq_none (by omega)]
  exact this
theorem sum_sub (l : List Int) (f g : Int → Int) : (l.map fun v => f v - g v).sum = (l.map f).sum - (l.map g).sum := by
  induction l with
  | nil => rfl
  | cons a l ih => simp [ih]; omega
theorem enum_filter (p : Int → Bool) : ∀ (l : List Int) (k : Int), ((enumL k l).filter fun q => p q.2).length = (l.filter p).length
  | [], _ => rfl
  | x :: l, k => by
    simp only [enumL, List.filter_cons]
    cases p x <;> simp [enum_filter p l]
theorem S_level (h : Valid xs) : S xs = xs.length * level xs := by
  have hp : (0 : Int) < xs.length := by have := h.pos; omega
  unfold S
  rw [sum_sub, upto_V, List.map_id']
  have e1 : (xs.map (rest xs.length)).sum = (upto xs.length).sum := perm_sum h.perm
  have e2 : ∀ l : List Int, (∀ x ∈ l, 1 ≤ x ∧ x ≤ 2 * (xs.length : Int)) → l.sum = (l.map (rest xs.length)).sum + xs.length * ((l.filter fun x => decide ((xs.length : Int) < x)).length : Int) := by
    intro l
    induction l with
    | nil => intro _; simp
    | cons x l ih =>
      intro hb
      have ih' := ih fun y hy => hb y (List.mem_cons_of_mem _ hy)
      have bx := hb x List.mem_cons_self
      simp only [List.sum_cons, List.map_cons, List.filter_cons]
      by_cases c : (xs.length : Int) < x
      · have r : rest xs.length x = x - xs.length := by
          unfold rest
          rw [show x - 1 = (x - 1 - xs.length) + xs.length * 1 by omega, Int.add_mul_emod_self_left, Int.emod_eq_of_lt (by omega) (by omega)]
          omega
        simp only [c, decide_true, if_true, List.length_cons]
        rw [r, ih']
        push_cast
        rw [Int.mul_add]
        omega
      · have r : rest xs.length x = x := by
          unfold rest
          rw [Int.emod_eq_of_lt (by omega) (by omega)]
          omega
        simp only [c, decide_false, Bool.false_eq_true, if_false]
        rw [r, ih']
        omega
  have e3 := e2 xs fun x hx => by
    obtain ⟨i, hi⟩ := List.mem_iff_getElem?.mp hx
    have hl := (List.getElem?_eq_some_iff.mp hi).1
    have := h.bd i x hi
    omega
  have e4 : (level xs : Int) = ((xs.filter fun x => decide ((xs.length : Int) < x)).length : Int) := by
    unfold level
    rw [enum_filter (fun x => decide ((xs.length : Int) < x))]
  rw [e4, e3, e1]
  omega
theorem S_per (h : Valid xs) (v k : Int) : Vx xs (v + xs.length * k) - (v + xs.length * k) = Vx xs v - v := by rw [Vx_add h.pos]; omega
theorem level_of {a b : Nat} {n : Nat} (hn : 0 < n) (e : (n : Int) * a = n * b) : a = b := by
  have := Int.eq_of_mul_eq_mul_left (by omega) e
  omega
theorem level_mirrL (h : Valid xs) : level (mirrL xs) = level xs := by
  have e1 := S_level (valid_mirrL h)
  have e2 := S_level h
  rw [mirrL_len] at e1
  refine level_of h.pos (e1.symm.trans (Eq.trans ?_ e2))
  unfold S
  rw [mirrL_len, ← psum h.pos (σ := fun u => xs.length + 1 - Vx xs u) (fun v k => by have := S_per (valid_mirrL h) v k; rw [mirrL_len] at this; exact this) (fun u w e => by
    obtain ⟨k, hk⟩ := h.V_modinj (u := w) (w := u) (by rw [← e]; congr 1; omega)
    exact ⟨-k, by rw [Int.mul_neg]; omega⟩)]
  congr 1
  refine List.map_congr_left fun u _ => ?_
  rw [V_mirrL h, show (xs.length : Int) + 1 - (xs.length + 1 - Vx xs u) = Vx xs u by omega, inv_V h]
  omega
theorem level_turnL (h : Valid xs) (b : Int) : level (turnL xs b) = level xs := by
  have e1 := S_level (valid_turnL h b)
  have e2 := S_level h
  rw [turnL_len] at e1
  refine level_of h.pos (e1.symm.trans (Eq.trans ?_ e2))
  unfold S
  rw [turnL_len, ← psum h.pos (σ := fun u => u + b) (fun v k => by have := S_per (valid_turnL h b) v k; rw [turnL_len] at this; exact this) (fun u w e => by
    obtain ⟨k, hk⟩ := Int.dvd_of_emod_eq_zero e
    exact ⟨k, by omega⟩)]
  congr 1
  refine List.map_congr_left fun u _ => ?_
  rw [V_turnL h, show u + b - b = u by omega]
  omega
theorem sum_const (n : Nat) (c : Int) : ((upto n).map fun _ => c).sum = n * c := by
  have : ∀ l : List Int, (l.map fun _ => c).sum = l.length * c := by
    intro l
    induction l with
    | nil => simp
    | cons a l ih => simp [ih, Int.add_mul]; omega
  rw [this, upto_len]
theorem level_dualL (h : Valid xs) : (level (dualL xs) : Int) = xs.length - level xs := by
  have e1 := S_level (valid_dualL h)
  have e2 := S_level h
  rw [dualL_len] at e1
  have e3 : S (dualL xs) = xs.length * xs.length - S xs := by
    unfold S
    rw [dualL_len, ← psum h.pos (σ := fun u => Vx xs u) (fun v k => by have := S_per (valid_dualL h) v k; rw [dualL_len] at this; exact this) (fun u w e => h.V_modinj e), ← sum_const xs.length xs.length, ← sum_sub]
    congr 1
    refine List.map_congr_left fun u _ => ?_
    rw [V_dualL h, inv_V h]
    omega
  have hp : (xs.length : Int) ≠ 0 := by have := h.pos; omega
  rw [e1, e2, ← Int.mul_sub] at e3
  exact Int.eq_of_mul_eq_mul_left hp e3
end
end Dl
end
section
set_option maxHeartbeats 4000000
namespace Dl
theorem len_sub {α : Type} [DecidableEq α] : ∀ {l1 l2 : List α}, l1.Nodup → (∀ a ∈ l1, a ∈ l2) → l1.length ≤ l2.length
  | [], l2, _, _ => Nat.zero_le _
  | a :: l1, l2, nd, sub => by
    have nd' := List.nodup_cons.mp nd
    have ha := sub a List.mem_cons_self
    have ih := len_sub (l2 := l2.erase a) nd'.2 fun b hb => by
      have hne : b ≠ a := fun e => nd'.1 (by rw [← e]; exact hb)
      exact (List.mem_erase_of_ne hne).mpr (sub b (List.mem_cons_of_mem _ hb))
    rw [List.length_erase_of_mem ha] at ih
    have := List.length_pos_of_mem ha
    simp
    omega
section
variable {xs ys : List Int}
/-- the places behind v that stand below it; those ahead of it that stand above it -/
def aft (xs : List Int) (v : Int) : List Int := ((List.range (xs.length - 1)).map fun (k : Nat) => v + 1 + (k : Nat)).filter fun w => decide (Vx xs w < Vx xs v)
def bef (xs : List Int) (v : Int) : List Int := ((List.range (xs.length - 1)).map fun (k : Nat) => v - 1 - (k : Nat)).filter fun w => decide (Vx xs v < Vx xs w)
theorem aft_mem {v w : Int} : w ∈ aft xs v ↔ v < w ∧ w < v + xs.length ∧ Vx xs w < Vx xs v := by
  unfold aft
  rw [List.mem_filter, List.mem_map]
  constructor
  · rintro ⟨⟨k, hk, rfl⟩, h⟩
    have := List.mem_range.mp hk
    exact ⟨by omega, by omega, of_decide_eq_true h⟩
  · rintro ⟨h1, h2, h3⟩
    exact ⟨⟨(w - v - 1).toNat, List.mem_range.mpr (by omega), by omega⟩, decide_eq_true h3⟩
theorem bef_mem {v w : Int} : w ∈ bef xs v ↔ w < v ∧ v < w + xs.length ∧ Vx xs v < Vx xs w := by
  unfold bef
  rw [List.mem_filter, List.mem_map]
  constructor
  · rintro ⟨⟨k, hk, rfl⟩, h⟩
    have := List.mem_range.mp hk
    exact ⟨by omega, by omega, of_decide_eq_true h⟩
  · rintro ⟨h1, h2, h3⟩
    exact ⟨⟨(v - w - 1).toNat, List.mem_range.mpr (by omega), by omega⟩, decide_eq_true h3⟩
theorem aft_nd {v : Int} : (aft xs v).Nodup := List.Pairwise.filter _ (nodup_mapI List.nodup_range fun i _ j _ e => by omega)
theorem bef_nd {v : Int} : (bef xs v).Nodup := List.Pairwise.filter _ (nodup_mapI List.nodup_range fun i _ j _ e => by omega)
/-- by two maps there and back the lists are of one length -/
theorem len_eq {l m : List Int} (nl : l.Nodup) (nm : m.Nodup) (f g : Int → Int) (h1 : ∀ a ∈ l, f a ∈ m) (h2 : ∀ b ∈ m, g b ∈ l) (h3 : ∀ a, g (f a) = a) (h4 : ∀ b, f (g b) = b) : l.length = m.length := by
  have a := len_sub (l1 := l.map f) (l2 := m) (nodup_mapI nl fun x _ y _ e => by rw [← h3 x, ← h3 y, e]) (fun x hx => by obtain ⟨y, hy, rfl⟩ := List.mem_map.mp hx; exact h1 y hy)
  have b := len_sub (l1 := m.map g) (l2 := l) (nodup_mapI nm fun x _ y _ e => by rw [← h4 x, ← h4 y, e]) (fun x hx => by obtain ⟨y, hy, rfl⟩ := List.mem_map.mp hx; exact h2 y hy)
  rw [List.length_map] at a b
  omega
theorem knots_sum : ((knotsL xs).length : Int) = ((upto xs.length).map fun v => ((aft xs v).length : Int)).sum := by
  unfold knotsL places upto
  rw [List.map_map]
  generalize List.range xs.length = l
  induction l with
  | nil => rfl
  | cons i l ih =>
    rw [List.flatMap_cons, List.filter_append, List.length_append, List.map_cons, List.sum_cons]
    push_cast
    rw [ih]
    congr 1
    unfold aft
    simp only [Function.comp]
    rw [List.filter_map, List.filter_map, List.length_map, List.length_map]
    rfl
theorem aft_per (h : Valid xs) (v k : Int) : ((aft xs (v + xs.length * k)).length : Int) = (aft xs v).length := by
  have e := len_eq (aft_nd (xs := xs) (v := v)) (aft_nd (xs := xs) (v := v + xs.length * k)) (fun w => w + xs.length * k) (fun w => w - xs.length * k) (fun a ha => by
    have := aft_mem.mp ha
    refine aft_mem.mpr ⟨by omega, by omega, ?_⟩
    rw [Vx_add h.pos, Vx_add h.pos]; omega) (fun b hb => by
    have := aft_mem.mp hb
    have e := Vx_add h.pos (b - xs.length * k) k
    rw [show b - (xs.length : Int) * k + xs.length * k = b by omega] at e
    have e2 := Vx_add h.pos v k
    refine aft_mem.mpr ⟨by omega, by omega, ?_⟩
    omega) (fun a => by omega) (fun b => by omega)
  omega
theorem V_far (h : Valid xs) {u w : Int} (h1 : u < w) (h2 : Vx xs w < Vx xs u) : w < u + xs.length := by
  have a := h.V_bd u
  have b := h.V_bd w
  omega
theorem knots_mirrL (h : Valid xs) : (knotsL (mirrL xs)).length = (knotsL xs).length := by
  have hm := valid_mirrL h
  have e : ((knotsL (mirrL xs)).length : Int) = (knotsL xs).length := by
    rw [knots_sum, knots_sum, mirrL_len, ← psum h.pos (σ := fun u => xs.length + 1 - Vx xs u) (fun v k => by have := aft_per hm v k; rw [mirrL_len] at this; exact this) (fun u w e => by
      obtain ⟨k, hk⟩ := h.V_modinj (u := w) (w := u) (by rw [← e]; congr 1; omega)
      exact ⟨-k, by rw [Int.mul_neg]; omega⟩)]
    congr 1
    refine List.map_congr_left fun u _ => ?_
    have key : ∀ w, Vx (mirrL xs) (xs.length + 1 - Vx xs w) = xs.length + 1 - w := fun w => by
      rw [V_mirrL h, show (xs.length : Int) + 1 - (xs.length + 1 - Vx xs w) = Vx xs w by omega, inv_V h]
    have := len_eq (aft_nd (xs := mirrL xs) (v := xs.length + 1 - Vx xs u)) (aft_nd (xs := xs) (v := u)) (fun j => inv xs (xs.length + 1 - j)) (fun w => xs.length + 1 - Vx xs w) (fun j hj => by
      obtain ⟨w, rfl⟩ : ∃ w, j = xs.length + 1 - Vx xs w := ⟨inv xs (xs.length + 1 - j), by rw [V_inv h]; omega⟩
      have := aft_mem.mp hj
      rw [key, key] at this
      rw [show (xs.length : Int) + 1 - (xs.length + 1 - Vx xs w) = Vx xs w by omega, inv_V h]
      have c1 : u < w := by omega
      have c2 : Vx xs w < Vx xs u := by omega
      exact aft_mem.mpr ⟨c1, V_far h c1 c2, c2⟩) (fun w hw => by
      have m := aft_mem.mp hw
      have b1 := h.V_bd u
      have b2 := h.V_bd w
      refine aft_mem.mpr ⟨by omega, by rw [mirrL_len]; omega, ?_⟩
      rw [key, key]; omega) (fun j => by rw [V_inv h]; omega) (fun w => by
      rw [show (xs.length : Int) + 1 - (xs.length + 1 - Vx xs w) = Vx xs w by omega, inv_V h])
    omega
  omega
theorem knots_turnL (h : Valid xs) (b : Int) : (knotsL (turnL xs b)).length = (knotsL xs).length := by
  have hm := valid_turnL h b
  have e : ((knotsL (turnL xs b)).length : Int) = (knotsL xs).length := by
    rw [knots_sum, knots_sum, turnL_len, ← psum h.pos (σ := fun u => u + b) (fun v k => by have := aft_per hm v k; rw [turnL_len] at this; exact this) (fun u w e => by
      obtain ⟨k, hk⟩ := Int.dvd_of_emod_eq_zero e
      exact ⟨k, by omega⟩)]
    congr 1
    refine List.map_congr_left fun u _ => ?_
    have key : ∀ w, Vx (turnL xs b) (w + b) = Vx xs w + b := fun w => by rw [V_turnL h, show w + b - b = w by omega]
    have := len_eq (aft_nd (xs := turnL xs b) (v := u + b)) (aft_nd (xs := xs) (v := u)) (fun j => j - b) (fun w => w + b) (fun j hj => by
      have m := aft_mem.mp hj
      have k1 := key (j - b)
      have k2 := key u
      rw [show j - b + b = j by omega] at k1
      rw [turnL_len] at m
      exact aft_mem.mpr ⟨by omega, by omega, by omega⟩) (fun w hw => by
      have m := aft_mem.mp hw
      refine aft_mem.mpr ⟨by omega, by rw [turnL_len]; omega, ?_⟩
      rw [key, key]; omega) (fun j => by omega) (fun w => by omega)
    omega
  omega
/-! ### counted from either side -/
def ind (b : Bool) : Int := if b then 1 else 0
theorem filter_ind {α : Type} (p : α → Bool) : ∀ l : List α, ((l.filter p).length : Int) = (l.map fun x => ind (p x)).sum
  | [] => rfl
  | x :: l => by
    have := filter_ind p l
    rw [List.filter_cons, List.map_cons, List.sum_cons]
    cases h : p x
    · simp [ind, this]
    · simp [ind, this]; omega
theorem sum_zero {β : Type} : ∀ m : List β, (m.map fun _ => (0 : Int)).sum = 0
  | [] => rfl
  | b :: m => by rw [List.map_cons, List.sum_cons, sum_zero m]; rfl
theorem sum_swap {α β : Type} (f : α → β → Int) (m : List β) : ∀ l : List α, (l.map fun a => (m.map fun b => f a b).sum).sum = (m.map fun b => (l.map fun a => f a b).sum).sum
  | [] => by
    show (0 : Int) = (m.map fun _ => (0 : Int)).sum
    rw [sum_zero]
  | a :: l => by
    have ih := sum_swap f m l
    rw [List.map_cons, List.sum_cons, ih]
    clear ih
    induction m with
    | nil => rfl
    | cons b m ih => simp at ih ⊢; omega
theorem bef_sum (h : Valid xs) : ((upto xs.length).map fun v => ((bef xs v).length : Int)).sum = ((upto xs.length).map fun v => ((aft xs v).length : Int)).sum := by
  have e1 : ∀ v, ((bef xs v).length : Int) = ((List.range (xs.length - 1)).map fun (k : Nat) => ind (decide (Vx xs v < Vx xs (v - 1 - (k : Nat))))).sum := fun v => by
    unfold bef
    rw [filter_ind, List.map_map]; rfl
  have e2 : ∀ v, ((aft xs v).length : Int) = ((List.range (xs.length - 1)).map fun (k : Nat) => ind (decide (Vx xs (v + 1 + (k : Nat)) < Vx xs v))).sum := fun v => by
    unfold aft
    rw [filter_ind, List.map_map]; rfl
  have s := fun (F : Int → Nat → Int) => sum_swap F (List.range (xs.length - 1)) (upto xs.length)
  rw [List.map_congr_left fun v _ => e1 v, List.map_congr_left fun v _ => e2 v, s, s]
  congr 1
  refine List.map_congr_left fun k _ => ?_
  rw [← psum h.pos (h := fun v => ind (decide (Vx xs v < Vx xs (v - 1 - (k : Nat))))) (σ := fun u => u + 1 + (k : Nat)) (fun v m => by
    rw [Vx_add h.pos, show v + (xs.length : Int) * m - 1 - (k : Nat) = (v - 1 - (k : Nat)) + xs.length * m by omega, Vx_add h.pos]
    congr 1
    exact decide_eq_decide.mpr (by omega)) (fun u w e => by
    obtain ⟨m, hm⟩ := Int.dvd_of_emod_eq_zero e
    exact ⟨m, by omega⟩)]
  congr 1
  refine List.map_congr_left fun u _ => ?_
  rw [show u + 1 + (k : Int) - 1 - (k : Nat) = u by omega]
theorem knots_dualL (h : Valid xs) : (knotsL (dualL xs)).length = (knotsL xs).length := by
  have hm := valid_dualL h
  have e : ((knotsL (dualL xs)).length : Int) = (knotsL xs).length := by
    rw [knots_sum, knots_sum, ← bef_sum h, dualL_len, ← psum h.pos (σ := fun u => Vx xs u) (fun v k => by have := aft_per hm v k; rw [dualL_len] at this; exact this) (fun u w e => h.V_modinj e)]
    congr 1
    refine List.map_congr_left fun w _ => ?_
    have key : ∀ u, Vx (dualL xs) (Vx xs u) = u + xs.length := fun u => by rw [V_dualL h, inv_V h]
    have := len_eq (aft_nd (xs := dualL xs) (v := Vx xs w)) (bef_nd (xs := xs) (v := w)) (fun j => inv xs j) (fun u => Vx xs u) (fun j hj => by
      obtain ⟨u, rfl⟩ : ∃ u, j = Vx xs u := ⟨inv xs j, by rw [V_inv h]⟩
      have m := aft_mem.mp hj
      rw [key, key] at m
      rw [inv_V h]
      have c1 : u < w := by omega
      exact bef_mem.mpr ⟨c1, V_far h c1 (by omega), by omega⟩) (fun u hu => by
      have m := bef_mem.mp hu
      have b1 := h.V_bd u
      have b2 := h.V_bd w
      refine aft_mem.mpr ⟨by omega, by rw [dualL_len]; omega, ?_⟩
      rw [key, key]; omega) (fun j => V_inv h j) (fun u => inv_V h u)
    omega
  omega
end
end Dl
end
section
set_option maxHeartbeats 4000000
namespace Dl
/-! ### neighbours exchanged -/
/-- the places that stand as i and i + 1 change -/
def sw (n i v : Int) : Int := if (v - i) % n = 0 then v + 1 else if (v - i - 1) % n = 0 then v - 1 else v
def N28 (n : Int) : Prop := n = 2 ∨ n = 3 ∨ n = 4 ∨ n = 5 ∨ n = 6 ∨ n = 7 ∨ n = 8
theorem n28 {n : Int} (h : 2 ≤ n) (h8 : n ≤ 8) : N28 n := by unfold N28; omega
theorem sw_add {n : Int} (hn : N28 n) (i v k : Int) : sw n i (v + n * k) = sw n i v + n * k := by
  unfold sw
  rcases hn with rfl | rfl | rfl | rfl | rfl | rfl | rfl <;> (repeat' split) <;> omega
theorem sw_sw {n : Int} (hn : N28 n) (i v : Int) : sw n i (sw n i v) = v := by
  unfold sw
  rcases hn with rfl | rfl | rfl | rfl | rfl | rfl | rfl <;> (repeat' split) <;> omega
theorem sw_i {n : Int} (i : Int) : sw n i i = i + 1 := by unfold sw; simp
theorem sw_i1 {n : Int} (hn : N28 n) (i : Int) : sw n i (i + 1) = i := by
  have := sw_sw hn i i
  rwa [sw_i] at this
theorem sw_inj {n : Int} (hn : N28 n) (i : Int) {u w : Int} (e : (sw n i u - sw n i w) % n = 0) : ∃ k, u = w + n * k := by
  obtain ⟨k, hk⟩ := Int.dvd_of_emod_eq_zero e
  refine ⟨k, ?_⟩
  have h : sw n i u = sw n i w + n * k := by omega
  rw [← sw_sw hn i u, h, sw_add hn, sw_sw hn]
/-- among 1 .. n -/
theorem sw_in {n i v : Int} (hn : N28 n) (hi : 1 ≤ i ∧ i < n) (hv : 1 ≤ v ∧ v ≤ n) : sw n i v = if v = i then i + 1 else if v = i + 1 then i else v := by
  unfold sw
  rcases hn with rfl | rfl | rfl | rfl | rfl | rfl | rfl <;> (repeat' split) <;> omega
theorem sw_rg {n i v a : Int} (hn : N28 n) (hi : 1 ≤ i ∧ i < n) (hv : 1 ≤ v ∧ v ≤ n) (h1 : v ≠ i) (h2 : v ≠ i + 1) (ha : v < a ∧ a < v + n) : v < sw n i a ∧ sw n i a < v + n := by
  unfold sw
  rcases hn with rfl | rfl | rfl | rfl | rfl | rfl | rfl <;> (repeat' split) <;> omega
theorem sw_fix {n i v : Int} (hn : N28 n) (hi : 1 ≤ i ∧ i < n) (hv : 1 ≤ v ∧ v ≤ n) (h1 : v ≠ i) (h2 : v ≠ i + 1) : sw n i v = v := by rw [sw_in hn hi hv, if_neg h1, if_neg h2]
/-- between the two -/
theorem sw_mid {n i a : Int} (hn : N28 n) (ha : i + 1 < a ∧ a < i + n) : i + 1 < sw n i a ∧ sw n i a < i + n := by
  unfold sw
  rcases hn with rfl | rfl | rfl | rfl | rfl | rfl | rfl <;> (repeat' split) <;> omega
theorem sw_bd {n i v : Int} : v - 1 ≤ sw n i v ∧ sw n i v ≤ v + 1 := by
  unfold sw
  (repeat' split) <;> omega
section
variable {xs : List Int} {i : Int}
def swL (xs : List Int) (i : Int) : List Int := tell xs.length fun v => Vx xs (sw xs.length i v)
def echL (xs : List Int) (i : Int) : List Int := xs.map (sw xs.length i)
theorem echL_tell : echL xs i = tell xs.length fun v => sw xs.length i (Vx xs v) := by
  unfold echL tell
  conv => lhs; rw [← upto_V (xs := xs)]
  rw [List.map_map]
  simp [upto_len, upto_V, Function.comp_def]
theorem swL_len : (swL xs i).length = xs.length := tell_len _ _
theorem echL_len : (echL xs i).length = xs.length := by simp [echL]
theorem pos_of (hn : N28 xs.length) : 0 < xs.length := by unfold N28 at hn; omega
theorem V_swL (hn : N28 xs.length) (v : Int) : Vx (swL xs i) v = Vx xs (sw xs.length i v) :=
  tell_V (pos_of hn) (fun v k => by rw [sw_add hn, Vx_add (pos_of hn)]) v
theorem V_echL (hn : N28 xs.length) (v : Int) : Vx (echL xs i) v = sw xs.length i (Vx xs v) := by
  rw [echL_tell]
  exact tell_V (pos_of hn) (fun v k => by rw [Vx_add (pos_of hn), sw_add hn]) v
theorem sw_twice (hn : N28 xs.length) : swL (swL xs i) i = xs := ext_V (by rw [swL_len, swL_len]) fun v => by
  rw [V_swL (by rw [swL_len]; exact hn), swL_len, V_swL hn, sw_sw hn]
theorem ech_twice (hn : N28 xs.length) : echL (echL xs i) i = xs := ext_V (by rw [echL_len, echL_len]) fun v => by
  rw [V_echL (by rw [echL_len]; exact hn), echL_len, V_echL hn, sw_sw hn]
/-! ### which of them are orders -/
theorem tell_nd {n : Nat} {h : Int → Int} (inj : ∀ u w : Int, (h u - h w) % (n : Int) = 0 → ∃ k, u = w + n * k) : ((tell n h).map (rest n)).Nodup := by
  unfold tell upto
  rw [List.map_map, List.map_map]
  refine nodup_mapI List.nodup_range fun i hi j hj e => ?_
  have hi' := List.mem_range.mp hi
  have hj' := List.mem_range.mp hj
  obtain ⟨k, hk⟩ := inj _ _ (rest_eq.mp (show rest n (h (1 + (i : Nat))) = rest n (h (1 + (j : Nat))) from e))
  have h3 : (i : Int) - j = n * k := by omega
  have hk0 : k = 0 := by
    rcases Int.lt_trichotomy k 0 with q | q | q
    · have : (n : Int) * k ≤ n * (-1) := Int.mul_le_mul_of_nonneg_left (by omega) (by omega)
      omega
    · exact q
    · have : (n : Int) * 1 ≤ n * k := Int.mul_le_mul_of_nonneg_left (by omega) (by omega)
      omega
  subst hk0
  omega
theorem nd_swL (h : Valid xs) (hn : N28 xs.length) : ((swL xs i).map (rest xs.length)).Nodup := tell_nd fun u w e => by
  obtain ⟨k, hk⟩ := h.V_modinj e
  refine sw_inj hn i (by rw [hk, show sw xs.length i w + (xs.length : Int) * k - sw xs.length i w = xs.length * k by omega]; exact Int.mul_emod_right _ _)
theorem nd_echL (h : Valid xs) (hn : N28 xs.length) : ((echL xs i).map (rest xs.length)).Nodup := by
  rw [echL_tell]
  refine tell_nd fun u w e => ?_
  obtain ⟨k, hk⟩ := sw_inj hn i e
  refine h.V_modinj (by rw [hk, show Vx xs w + (xs.length : Int) * k - Vx xs w = xs.length * k by omega]; exact Int.mul_emod_right _ _)
/-- the bounds alone -/
def bB (ys : List Int) : Bool := (enumL 1 ys).all fun q => decide (q.1 ≤ q.2) && decide (q.2 ≤ q.1 + ys.length)
theorem bB_valid {ys : List Int} (hl : 1 ≤ ys.length ∧ ys.length ≤ 8) (nd : (ys.map (rest ys.length)).Nodup) : bB ys = true ↔ Valid ys := by
  unfold bB
  rw [List.all_eq_true]
  constructor
  · intro h
    refine ⟨hl, fun j x hx => ?_, nd⟩
    have := h ((1 : Int) + (j : Nat), x) (enumL_mem.mpr ⟨j, hx, rfl⟩)
    simp only [Bool.and_eq_true, decide_eq_true_eq] at this
    omega
  · intro h q hq
    obtain ⟨j, h1, h2⟩ := enumL_mem.mp hq
    have := h.bd j _ h1
    simp only [Bool.and_eq_true, decide_eq_true_eq]
    omega
theorem sw_valid (h : Valid xs) (hn : N28 xs.length) : bB (swL xs i) = true ↔ Valid (swL xs i) := bB_valid (by rw [swL_len]; exact h.len) (by rw [swL_len]; exact nd_swL h hn)
theorem ech_valid (h : Valid xs) (hn : N28 xs.length) : bB (echL xs i) = true ↔ Valid (echL xs i) := bB_valid (by rw [echL_len]; exact h.len) (by rw [echL_len]; exact nd_echL h hn)
/-- by the dual the one is the other -/
theorem ech_dual (h : Valid xs) (hn : N28 xs.length) (he : Valid (echL xs i)) : dualL (echL xs i) = swL (dualL xs) i := ext_V (by rw [dualL_len, echL_len, swL_len, dualL_len]) fun v => by
  rw [V_dualL he, V_swL (by rw [dualL_len]; exact hn), dualL_len, V_dualL h, echL_len]
  congr 1
  refine inv_of he ?_
  rw [V_echL hn, V_inv h, sw_sw hn]
theorem dual_ech (h : Valid xs) (hn : N28 xs.length) (hs : Valid (swL (dualL xs) i)) : Valid (echL xs i) := by
  have e : dualL (swL (dualL xs) i) = echL xs i := ext_V (by rw [dualL_len, swL_len, dualL_len, echL_len]) fun v => by
    have hd : N28 (dualL xs).length := by rw [dualL_len]; exact hn
    rw [V_dualL hs, swL_len, dualL_len, V_echL hn]
    have q : inv (swL (dualL xs) i) v = sw xs.length i (Vx xs v) - xs.length := by
      refine inv_of hs ?_
      rw [V_swL hd, dualL_len, V_dualL h]
      have a := sw_add hn i (sw xs.length i (Vx xs v)) (-1)
      rw [show sw (xs.length : Int) i (Vx xs v) + xs.length * -1 = sw xs.length i (Vx xs v) - xs.length by omega, sw_sw hn] at a
      rw [a]
      have b := inv_add h (Vx xs v) (-1)
      rw [b, inv_V h]
      omega
    rw [q]
    omega
  rw [← e]
  exact valid_dualL hs
theorem ech_iff (h : Valid xs) (hn : N28 xs.length) : Valid (echL xs i) ↔ Valid (swL (dualL xs) i) := ⟨fun he => by rw [← ech_dual h hn he]; exact valid_dualL he, dual_ech h hn⟩
/-! ### the level -/
theorem sum_at {l : List Int} (nd : l.Nodup) {a c : Int} (ha : a ∈ l) : (l.map fun v => if v = a then c else 0).sum = c := by
  induction l with
  | nil => cases ha
  | cons b l ih =>
    rw [List.nodup_cons] at nd
    rw [List.map_cons, List.sum_cons]
    by_cases e : b = a
    · subst e
      have z : (l.map fun v => if v = b then c else 0) = l.map fun _ => (0 : Int) := List.map_congr_left fun v hv => by
        rw [if_neg]
        rintro rfl
        exact nd.1 hv
      rw [z, sum_zero]; simp
    · rw [if_neg e, ih nd.2 ((List.mem_cons.mp ha).resolve_left fun q => e q.symm)]
      omega
theorem sum_add (l : List Int) (f g : Int → Int) : (l.map fun v => f v + g v).sum = (l.map f).sum + (l.map g).sum := by
  induction l with
  | nil => rfl
  | cons a l ih => simp [ih]; omega
theorem level_swL (h : Valid xs) (hn : N28 xs.length) (hi : 1 ≤ i ∧ i < xs.length) (hs : Valid (swL xs i)) : level (swL xs i) = level xs := by
  have e1 := S_level hs
  have e2 := S_level h
  rw [swL_len] at e1
  refine level_of h.pos (e1.symm.trans (Eq.trans ?_ e2))
  unfold S
  rw [swL_len, ← psum h.pos (h := fun v => Vx xs v - v) (σ := sw xs.length i) (fun v k => S_per h v k) (fun u w e => sw_inj hn i e)]
  have e : ((upto xs.length).map fun v => Vx (swL xs i) v - v) = (upto xs.length).map fun v => (Vx xs (sw xs.length i v) - sw xs.length i v) + ((if v = i then 1 else 0) + if v = i + 1 then -1 else 0) := List.map_congr_left fun v hv => by
    have hv' := upto_mem.mp hv
    rw [V_swL hn]
    have := sw_in hn hi hv'
    split at this
    · rename_i q; subst q; simp; omega
    · split at this
      · rename_i q1 q2; subst q2; simp; omega
      · rename_i q1 q2; simp [q1, q2]; omega
  rw [e, sum_add, sum_add, sum_at (upto_nodup _) (upto_mem.mpr (by omega)), sum_at (upto_nodup _) (upto_mem.mpr (by omega))]
  omega
/-! ### the knots -/
theorem cnt {l : List Int} (b : Int) : (l.length : Int) = (l.erase b).length + if b ∈ l then 1 else 0 := by
  by_cases h : b ∈ l
  · rw [if_pos h, List.length_erase_of_mem h]
    have := List.length_pos_of_mem h
    omega
  · rw [if_neg h, List.erase_of_not_mem h]; omega
theorem knots_swL (h : Valid xs) (hn : N28 xs.length) (hi : 1 ≤ i ∧ i < xs.length) (hs : Valid (swL xs i)) : ((knotsL (swL xs i)).length : Int) = (knotsL xs).length + if Vx xs (i + 1) < Vx xs i then -1 else 1 := by
  have hne : Vx xs (i + 1) ≠ Vx xs i := fun e => by have := h.V_inj e; omega
  have b1 := h.V_bd i
  have b2 := h.V_bd (i + 1)
  have b3 := hs.V_bd (i + 1)
  rw [V_swL hn, sw_i1 hn, swL_len] at b3
  have A : ∀ v, 1 ≤ v ∧ v ≤ (xs.length : Int) → v ≠ i → v ≠ i + 1 → (aft (swL xs i) v).length = (aft xs v).length := fun v hv h1 h2 => by
    have fx := sw_fix hn hi hv h1 h2
    refine len_eq aft_nd aft_nd (sw xs.length i) (sw xs.length i) (fun a ha => ?_) (fun b hb => ?_) (sw_sw hn i) (sw_sw hn i)
    · have m := aft_mem.mp ha
      rw [swL_len, V_swL hn, V_swL hn, fx] at m
      have r := sw_rg hn hi hv h1 h2 ⟨m.1, m.2.1⟩
      exact aft_mem.mpr ⟨r.1, r.2, m.2.2⟩
    · have m := aft_mem.mp hb
      have r := sw_rg hn hi hv h1 h2 ⟨m.1, m.2.1⟩
      refine aft_mem.mpr ⟨r.1, by rw [swL_len]; exact r.2, ?_⟩
      rw [V_swL hn, V_swL hn, fx, sw_sw hn]; exact m.2.2
  have B : ((aft (swL xs i) (i + 1)).length : Int) = (aft xs i).length + if Vx xs (i + 1) < Vx xs i then -1 else 0 := by
    have e : (aft (swL xs i) (i + 1)).length = ((aft xs i).erase (i + 1)).length := by
      refine len_eq aft_nd (List.Nodup.erase _ aft_nd) (sw xs.length i) (sw xs.length i) (fun a ha => ?_) (fun b hb => ?_) (sw_sw hn i) (sw_sw hn i)
      · have m := aft_mem.mp ha
        rw [swL_len, V_swL hn, V_swL hn, sw_i1 hn] at m
        have ne : a ≠ i + xs.length := fun q => by
          have z := sw_add hn i i 1
          rw [show i + (xs.length : Int) * 1 = a by omega, sw_i] at z
          have y := Vx_add h.pos (i + 1) 1
          rw [← z] at y
          omega
        have r := sw_mid hn (i := i) (a := a) (by omega)
        exact (List.Nodup.mem_erase_iff aft_nd).mpr ⟨by omega, aft_mem.mpr ⟨by omega, by omega, m.2.2⟩⟩
      · obtain ⟨m1, m2⟩ := (List.Nodup.mem_erase_iff aft_nd).mp hb
        have m := aft_mem.mp m2
        have r := sw_mid hn (i := i) (a := b) (by omega)
        refine aft_mem.mpr ⟨by omega, by rw [swL_len]; omega, ?_⟩
        rw [V_swL hn, V_swL hn, sw_sw hn, sw_i1 hn]; exact m.2.2
    have c := cnt (l := aft xs i) (i + 1)
    have mm : i + 1 ∈ aft xs i ↔ Vx xs (i + 1) < Vx xs i := by rw [aft_mem]; omega
    by_cases q : Vx xs (i + 1) < Vx xs i
    · rw [if_pos (mm.mpr q)] at c; rw [if_pos q]; omega
    · rw [if_neg (fun z => q (mm.mp z))] at c; rw [if_neg q]; omega
  have C : ((aft (swL xs i) i).length : Int) = (aft xs (i + 1)).length + if Vx xs (i + 1) < Vx xs i then 0 else 1 := by
    have e : ((aft (swL xs i) i).erase (i + 1)).length = (aft xs (i + 1)).length := by
      refine len_eq (List.Nodup.erase _ aft_nd) aft_nd (sw xs.length i) (sw xs.length i) (fun a ha => ?_) (fun b hb => ?_) (sw_sw hn i) (sw_sw hn i)
      · obtain ⟨m1, m2⟩ := (List.Nodup.mem_erase_iff aft_nd).mp ha
        have m := aft_mem.mp m2
        rw [swL_len, V_swL hn, V_swL hn, sw_i] at m
        have r := sw_mid hn (i := i) (a := a) (by omega)
        exact aft_mem.mpr ⟨by omega, by omega, m.2.2⟩
      · have m := aft_mem.mp hb
        have ne : b ≠ i + xs.length := fun q => by
          have y := Vx_add h.pos i 1
          rw [show i + (xs.length : Int) * 1 = b by omega] at y
          omega
        have r := sw_mid hn (i := i) (a := b) (by omega)
        refine (List.Nodup.mem_erase_iff aft_nd).mpr ⟨by omega, aft_mem.mpr ⟨by omega, by rw [swL_len]; omega, ?_⟩⟩
        rw [V_swL hn, V_swL hn, sw_sw hn, sw_i]; exact m.2.2
    have c := cnt (l := aft (swL xs i) i) (i + 1)
    have mm : i + 1 ∈ aft (swL xs i) i ↔ ¬ Vx xs (i + 1) < Vx xs i := by rw [aft_mem, V_swL hn, V_swL hn, sw_i, sw_i1 hn, swL_len]; omega
    by_cases q : Vx xs (i + 1) < Vx xs i
    · rw [if_neg (fun z => mm.mp z q)] at c; rw [if_pos q]; omega
    · rw [if_pos (mm.mpr q)] at c; rw [if_neg q]; omega
  rw [knots_sum, knots_sum, swL_len, ← psum h.pos (h := fun v => ((aft (swL xs i) v).length : Int)) (σ := sw xs.length i) (fun v k => by have := aft_per hs v k; rw [swL_len] at this; exact this) (fun u w e => sw_inj hn i e)]
  have e : ((upto xs.length).map fun v => ((aft (swL xs i) (sw xs.length i v)).length : Int)) = (upto xs.length).map fun v => ((aft xs v).length : Int) + ((if v = i then (if Vx xs (i + 1) < Vx xs i then -1 else 0) else 0) + if v = i + 1 then (if Vx xs (i + 1) < Vx xs i then 0 else 1) else 0) := List.map_congr_left fun v hv => by
    have hv' := upto_mem.mp hv
    by_cases q1 : v = i
    · subst q1
      rw [sw_i, B, if_pos rfl, if_neg (show ¬ v = v + 1 by omega)]
      omega
    · by_cases q2 : v = i + 1
      · subst q2
        rw [sw_i1 hn, C, if_neg q1, if_pos rfl]
        omega
      · rw [sw_fix hn hi hv' q1 q2, A v hv' q1 q2, if_neg q1, if_neg q2]
        omega
  rw [e, sum_add, sum_add, sum_at (upto_nodup _) (upto_mem.mpr (by omega)), sum_at (upto_nodup _) (upto_mem.mpr (by omega))]
  split <;> omega
theorem knots_echL (h : Valid xs) (hn : N28 xs.length) (hi : 1 ≤ i ∧ i < xs.length) (he : Valid (echL xs i)) : ((knotsL (echL xs i)).length : Int) = (knotsL xs).length + if inv xs (i + 1) < inv xs i then -1 else 1 := by
  have hs := (ech_iff h hn).mp he
  have k := knots_swL (valid_dualL h) (i := i) (by rw [dualL_len]; exact hn) (by rw [dualL_len]; exact hi) hs
  rw [← ech_dual h hn he, knots_dualL he, knots_dualL h, V_dualL h, V_dualL h] at k
  rw [k]
  by_cases q : inv xs (i + 1) < inv xs i
  · rw [if_pos q, if_pos (by omega)]
  · rw [if_neg q, if_neg (by omega)]
end
end Dl
end
section
set_option maxHeartbeats 4000000
namespace Dl
open PySem PySem.Spec PyProof.Rows L2
theorem p64 : (2 : Nat) ^ 64 = 18446744073709551616 := by decide
theorem wid_64 {i : Int} (h : i.natAbs ≤ 18446744073709551616) : wid i = true := by
  unfold wid
  refine decide_eq_true (Nat.lt_of_le_of_lt h ?_)
  rw [← p64]
  exact Nat.pow_lt_pow_right (by decide) (by decide)
/-- the dice: c counts the rolls -/
def Dice (m : Nat) (d : D) : Prop := ∃ a b c : Int, d = .lst [.int a, .int b, .int c] ∧ 0 ≤ c ∧ c ≤ m
def rollB (a b c t : Int) : Int × D := if 0 < a then (a % t, .lst [.int (a / t), .int b, .int c]) else
  (((((b + 49979687 * (c + 1)) % 2305843009213693669 * ((b + 49979687 * (c + 1)) % 2305843009213693669) + 89 * (c + 1)) % 2305843009213693907 * 7368791 + (b + 49979687 * (c + 1)) % 2305843009213693669) / 65536) % t, .lst [.int a, .int b, .int (c + 1)])
theorem ixO_at {ρ : En} {i : Nat} {l : List D} {j : Nat} {d : D} (h : cont ρ i = some (.lst l)) (hj : l[j]? = some d) : fIxO i (fC (.int (j : Nat))) ρ = .ok d ρ := by
  have e : atI l (j : Int) = some d := atI_nat hj
  simp [fIxO, h, fC, Rs.bind, e]
theorem sto_at {ρ ρ1 : En} {i : Nat} {l : List D} {j : Nat} {d : D} {f : En → Rs D} (hf : f ρ = .ok d ρ1) (h : owned ρ1 i = some (.lst l)) (hj : j < l.length) : fSto i (fC (.int (j : Nat))) f ρ = .ok .nx (putSl ρ1 i (.lst (l.set j d))) := by
  have e : ixN l.length (j : Int) = some j := by simp [ixN, hj]
  simp [fSto, hf, Rs.bind, h, fC, e]
theorem c_roll_pos {a b c t : Int} (ha : 0 < a) (ht : 0 < t) (h9 : t ≤ 1000) : F__law_roll [.lst [.int a, .int b, .int c], .int t] = .ok (.int (a % t)) [.lst [.int (a / t), .int b, .int c]] := by
  have w := wid_s (i := t) (by omega)
  have g0 : ∀ ρ : En, fIxO 0 (fC (.int 0)) (some (.bo (.lst [.int a, .int b, .int c])) :: ρ) = .ok (.int a) (some (.bo (.lst [.int a, .int b, .int c])) :: ρ) := fun ρ => ixO_at (j := 0) (l := [.int a, .int b, .int c]) rfl rfl
  have s0 := sto_at (i := 0) (j := 0) (l := [.int a, .int b, .int c]) (ρ := [some (.bo (.lst [.int a, .int b, .int c])), some (.sh (.int t)), some (.sh (.int (a % t))), none, none]) (f := fBin opDiv (fIxO 0 (fC (.int 0))) (fVar 1)) (d := .int (a / t)) (bin1 (g0 _) (show fVar 1 _ = .ok (.int t) _ from rfl) (by simp [opDiv, ht, w])) rfl (by simp)
  unfold F__law_roll m__law_roll bodyF
  rw [if_pos (by rfl)]
  simp only [enE, fSeq, fIfS, fTr, List.replicate]
  rw [bin1 (g := opGt) (g0 _) (show fC (.int 0) _ = .ok (.int 0) _ from rfl) (show _ = some (.bl true) by simp [opGt, ha])]
  simp only [Rs.bind, if_true, fSet]
  rw [bin1 (g := opMod) (cl1 (g := gInt) (g0 _) rfl) (show fVar 1 _ = .ok (.int t) _ from rfl) (show _ = some (.int (a % t)) by simp [opMod, ht])]
  simp only [Rs.bind]
  rw [if_pos (by rfl)]
  simp only [List.set]
  rw [show (fSto 0 (fC (.int 0)) (fBin opDiv (fIxO 0 (fC (.int 0))) (fVar 1))) [some (.bo (.lst [.int a, .int b, .int c])), some (.sh (.int t)), some (.sh (.int (a % t))), none, none] = _ from s0]
  rfl
theorem c_roll_neg {a b c t : Int} (ha : ¬ 0 < a) (ht : 0 < t) (hc : 0 ≤ c) (hc2 : c ≤ 100000) : F__law_roll [.lst [.int a, .int b, .int c], .int t] = .ok (.int (rollB a b c t).1) [.lst [.int a, .int b, .int (c + 1)]] := by
  have g0 : ∀ ρ : En, fIxO 0 (fC (.int 0)) (some (.bo (.lst [.int a, .int b, .int c])) :: ρ) = .ok (.int a) (some (.bo (.lst [.int a, .int b, .int c])) :: ρ) := fun ρ => ixO_at (j := 0) (l := [.int a, .int b, .int c]) rfl rfl
  have g2 : ∀ ρ : En, fIxO 0 (fC (.int 2)) (some (.bo (.lst [.int a, .int b, .int c])) :: ρ) = .ok (.int c) (some (.bo (.lst [.int a, .int b, .int c])) :: ρ) := fun ρ => ixO_at (j := 2) (l := [.int a, .int b, .int c]) rfl rfl
  have k1 : ∀ ρ : En, fIxO 0 (fC (.int 1)) (some (.bo (.lst [.int a, .int b, .int (c + 1)])) :: ρ) = .ok (.int b) (some (.bo (.lst [.int a, .int b, .int (c + 1)])) :: ρ) := fun ρ => ixO_at (j := 1) (l := [.int a, .int b, .int (c + 1)]) rfl rfl
  have k2 : ∀ ρ : En, fIxO 0 (fC (.int 2)) (some (.bo (.lst [.int a, .int b, .int (c + 1)])) :: ρ) = .ok (.int (c + 1)) (some (.bo (.lst [.int a, .int b, .int (c + 1)])) :: ρ) := fun ρ => ixO_at (j := 2) (l := [.int a, .int b, .int (c + 1)]) rfl rfl
  have s0 := sto_at (i := 0) (j := 2) (l := [.int a, .int b, .int c]) (ρ := [some (.bo (.lst [.int a, .int b, .int c])), some (.sh (.int t)), none, none, none]) (f := fBin opAdd (fIxO 0 (fC (.int 2))) (fC (.int 1))) (d := .int (c + 1)) (bin1 (g2 _) (show fC (.int 1) _ = .ok (.int 1) _ from rfl) rfl) rfl (by simp)
  have wc := wid_s (i := 89) (by decide)
  have w1 := wid_64 (i := 49979687) (by decide)
  have w2 := wid_64 (i := c + 1) (by omega)
  have w3 := wid_64 (i := 7368791) (by decide)
  have w4 := wid_64 (i := 65536) (by decide)
  generalize ho : (b + 49979687 * (c + 1)) % 2305843009213693669 = o
  have ob : 0 ≤ o ∧ o < 2305843009213693669 := by rw [← ho]; exact ⟨Int.emod_nonneg _ (by decide), Int.emod_lt_of_pos _ (by decide)⟩
  have w5 := wid_64 (i := o) (by omega)
  generalize hq : (o * o + 89 * (c + 1)) % 2305843009213693907 = q
  have qb : 0 ≤ q ∧ q < 2305843009213693907 := by rw [← hq]; exact ⟨Int.emod_nonneg _ (by decide), Int.emod_lt_of_pos _ (by decide)⟩
  have w6 := wid_64 (i := q) (by omega)
  have er : (rollB a b c t).1 = (q * 7368791 + o) / 65536 % t := by
    unfold rollB
    rw [if_neg ha]
    simp only [ho, hq]
  rw [er]
  unfold F__law_roll m__law_roll bodyF
  rw [if_pos (by rfl)]
  simp only [enE, fSeq, fIfS, fTr, List.replicate]
  rw [bin1 (g := opGt) (g0 _) (show fC (.int 0) _ = .ok (.int 0) _ from rfl) (show _ = some (.bl false) by simp [opGt, ha])]
  simp only [Rs.bind, Bool.false_eq_true, if_false, fSkip]
  rw [show (fSto 0 (fC (.int 2)) (fBin opAdd (fIxO 0 (fC (.int 2))) (fC (.int 1)))) [some (.bo (.lst [.int a, .int b, .int c])), some (.sh (.int t)), none, none, none] = .ok .nx [some (.bo (.lst [.int a, .int b, .int (c + 1)])), some (.sh (.int t)), none, none, none] from s0]
  simp only [fSet]
  rw [bin1 (g := opMod) (cl1 (g := gInt) (bin1 (g := opAdd) (k1 _) (bin1 (g := opMul) (show fC (.int 49979687) _ = .ok (.int 49979687) _ from rfl) (k2 _) (show _ = some (.int (49979687 * (c + 1))) by simp [opMul, w1, w2])) rfl) rfl) (show fC (.int 2305843009213693669) _ = .ok (.int 2305843009213693669) _ from rfl) (show _ = some (.int o) by simp [opMod, ho])]
  simp only [Rs.bind]
  rw [if_pos (by rfl)]
  simp only [List.set]
  rw [bin1 (g := opAdd) (bin1 (g := opMul) (bin1 (g := opMod) (cl1 (g := gInt) (bin1 (g := opAdd) (bin1 (g := opMul) (show fVar 3 [some (.bo (.lst [.int a, .int b, .int (c + 1)])), some (.sh (.int t)), none, some (.sh (.int o)), none] = .ok (.int o) _ from rfl) (show fVar 3 _ = .ok (.int o) _ from rfl) (show _ = some (.int (o * o)) by simp [opMul, w5])) (bin1 (g := opMul) (show fC (.int 89) _ = .ok (.int 89) _ from rfl) (k2 _) (show _ = some (.int (89 * (c + 1))) by simp [opMul, wc, w2])) rfl) rfl) (show fC (.int 2305843009213693907) _ = .ok (.int 2305843009213693907) _ from rfl) (show _ = some (.int q) by simp [opMod, hq])) (show fC (.int 7368791) _ = .ok (.int 7368791) _ from rfl) (show _ = some (.int (q * 7368791)) by simp [opMul, w6, w3])) (show fVar 3 _ = .ok (.int o) _ from rfl) rfl]
  simp only [Rs.bind]
  rw [if_pos (by rfl)]
  simp only [List.set, fRet]
  rw [bin1 (g := opMod) (cl1 (g := gInt) (bin1 (g := opDiv) (show fVar 4 _ = .ok (.int (q * 7368791 + o)) _ from rfl) (show fC (.int 65536) _ = .ok (.int 65536) _ from rfl) (show _ = some (.int ((q * 7368791 + o) / 65536)) by simp [opDiv, w4])) rfl) (show fVar 1 _ = .ok (.int t) _ from rfl) (show _ = some (.int ((q * 7368791 + o) / 65536 % t)) by simp [opMod, ht])]
  rfl
theorem c_roll {m : Nat} {d : D} {t : Int} (hd : Dice m d) (hm : m ≤ 100000) (ht : 0 < t) (h9 : t ≤ 1000) : ∃ r d', F__law_roll [d, .int t] = .ok (.int r) [d'] ∧ 0 ≤ r ∧ r < t ∧ Dice (m + 1) d' := by
  obtain ⟨a, b, c, rfl, h1, h2⟩ := hd
  by_cases ha : 0 < a
  · exact ⟨_, _, c_roll_pos ha ht h9, Int.emod_nonneg _ (by omega), Int.emod_lt_of_pos _ ht, a / t, b, c, rfl, h1, by push_cast; omega⟩
  · refine ⟨_, _, c_roll_neg ha ht h1 (by omega), ?_, ?_, a, b, c + 1, rfl, by omega, by push_cast; omega⟩
    · unfold rollB; rw [if_neg ha]; exact Int.emod_nonneg _ (by omega)
    · unfold rollB; rw [if_neg ha]; exact Int.emod_lt_of_pos _ ht
end Dl
end
section
set_option maxHeartbeats 4000000
namespace Dl
open PySem PySem.Spec PyProof.Rows L2
theorem fnB {F : List D → Fr} {f : En → Rs D} {r0 : En} {d e r d' : D} (h : f (some (.bo d) :: r0) = .ok e (some (.bo d) :: r0)) (hF : F [d, e] = .ok r [d']) : fFn [some 0, none] F (fLent 0 (fCons f fNil)) (some (.bo d) :: r0) = .ok r (some (.bo d') :: r0) := by
  simp [fFn, fLent, owned, fCons, fNil, h, Rs.bind, mixD, hF, putB, putSl]
theorem seqIx {j : Int} {n : Nat} (h0 : 0 ≤ j) (h1 : j < n) : seqIndex? j n = some j.toNat := by
  have e : ¬ j < 0 := by omega
  simp [seqIndex?, e, h0, h1]
theorem p63 : (2 : Int) ^ 63 = 9223372036854775808 := by decide
theorem pop_at {f : En → Rs D} {ρ ρ1 : En} {i : Nat} {l0 l : List D} {j : Int} {x : D} (h0 : owned ρ i = some (.lst l0)) (hf : f ρ = .ok (.int j) ρ1) (h1 : owned ρ1 i = some (.lst l)) (hj : 0 ≤ j) (hl : j < l.length) (h8 : l.length ≤ 1000) (hx : l[j.toNat]? = some x) :
    fPopAt i f ρ = .ok x (putSl ρ1 i (.lst (l.eraseIdx j.toNat))) := by
  unfold fPopAt
  rw [h0]
  dsimp only
  rw [hf]
  dsimp only [Rs.bind]
  rw [h1]
  dsimp only
  rw [seqIx hj hl]
  dsimp only
  rw [hx]
  dsimp only
  rw [p63, if_pos (by omega)]
theorem app_at {f : En → Rs D} {ρ ρ1 : En} {i : Nat} {l0 l : List D} {x : D} (h0 : owned ρ i = some (.lst l0)) (hf : f ρ = .ok x ρ1) (h1 : owned ρ1 i = some (.lst l)) (h8 : l.length ≤ 1000) : fApp i f ρ = .ok .non (putSl ρ1 i (.lst (l ++ [x]))) := by
  unfold fApp
  rw [h0]
  dsimp only
  rw [hf]
  dsimp only [Rs.bind]
  rw [h1]
  dsimp only
  rw [if_pos (sz h8)]
theorem eraseIdx_mapI (f : Int → D) : ∀ (l : List Int) (r : Nat), (l.map f).eraseIdx r = (l.eraseIdx r).map f
  | [], _ => by simp
  | x :: l, 0 => rfl
  | x :: l, r + 1 => by
    show f x :: (l.map f).eraseIdx r = f x :: (l.eraseIdx r).map f
    rw [eraseIdx_mapI f l r]
theorem mix_step {L Fd : List Int} {d : D} {it s : Option Sl} {m : Nat} (hL : 0 < L.length) (h8 : L.length + Fd.length ≤ 8) (hd : Dice m d) (hm : m ≤ 100000) : ∃ (r : Nat) (d' : D), r < L.length ∧ Dice (m + 1) d' ∧
    fExp (fApp 3 (fPopAt 2 (fFn [some 0, none] F__law_roll (fLent 0 (fCons (fLenO 2) fNil))))) [some (.bo d), it, some (.ow (.lst (L.map .int))), some (.ow (.lst (Fd.map .int))), s] =
      .ok .nx [some (.bo d'), it, some (.ow (.lst ((L.eraseIdx r).map .int))), some (.ow (.lst ((Fd ++ [L.getD r 0]).map .int))), s] := by
  obtain ⟨r, d', e, r0, r1, hd'⟩ := c_roll hd hm (t := L.length) (by omega) (by omega)
  have hr : r.toNat < L.length := by omega
  refine ⟨r.toNat, d', hr, hd', ?_⟩
  have e1 : fFn [some 0, none] F__law_roll (fLent 0 (fCons (fLenO 2) fNil)) [some (.bo d), it, some (.ow (.lst (L.map .int))), some (.ow (.lst (Fd.map .int))), s] = .ok (.int r) [some (.bo d'), it, some (.ow (.lst (L.map .int))), some (.ow (.lst (Fd.map .int))), s] :=
    fnB (by simp [fLenO, cont]) e
  have hx : (L.map D.int)[r.toNat]? = some (.int (L.getD r.toNat 0)) := by rw [List.getElem?_map, getD_at hr]; rfl
  have e2 := pop_at (i := 2) (l0 := L.map .int) rfl e1 (show owned _ 2 = some (.lst (L.map .int)) from rfl) r0 (by rw [List.length_map]; exact r1) (by rw [List.length_map]; omega) hx
  have e3 := app_at (i := 3) (l0 := Fd.map .int) rfl e2 (show owned _ 3 = some (.lst (Fd.map .int)) from rfl) (by rw [List.length_map]; omega)
  unfold fExp
  rw [e3]
  have q : (L.map D.int).eraseIdx r.toNat = (L.eraseIdx r.toNat).map .int := eraseIdx_mapI _ _ _
  simp only [Rs.bind, q]
  rw [List.map_append]
  rfl
theorem erase_perm : ∀ {L : List Int} {r : Nat}, r < L.length → (L.getD r 0 :: L.eraseIdx r).Perm L
  | x :: L, 0, _ => List.Perm.refl _
  | x :: L, r + 1, h => by
    have ih := erase_perm (L := L) (r := r) (by simpa using h)
    show (L.getD r 0 :: x :: L.eraseIdx r).Perm (x :: L)
    exact (List.Perm.swap _ _ _).trans (List.Perm.cons x ih)
theorem mix_loop {it : Option Sl} : ∀ (es : List D) (L Fd : List Int) (d : D) (m : Nat) (s : Option Sl), es.length = L.length → L.length + Fd.length ≤ 8 → Dice m d → m + L.length ≤ 100000 → (s = none ∨ ∃ z, s = some (Sl.sh z)) →
    ∃ (l' : List Int) (d' : D) (s' : Option Sl), forD (gN 4) (fExp (fApp 3 (fPopAt 2 (fFn [some 0, none] F__law_roll (fLent 0 (fCons (fLenO 2) fNil)))))) es [some (.bo d), it, some (.ow (.lst (L.map .int))), some (.ow (.lst (Fd.map .int))), s] =
      .ok .nx [some (.bo d'), it, some (.ow (.lst [])), some (.ow (.lst (l'.map .int))), s'] ∧ l'.Perm (Fd ++ L) ∧ Dice (m + L.length) d'
  | [], L, Fd, d, m, s, hl, h8, hd, hm, hs => by
    have : L = [] := List.length_eq_zero_iff.mp hl.symm
    subst this
    exact ⟨Fd, d, s, rfl, by simp, by simpa using hd⟩
  | e :: es, L, Fd, d, m, s, hl, h8, hd, hm, hs => by
    have hL : 0 < L.length := by rw [← hl]; simp
    obtain ⟨r, d1, hr, hd1, e1⟩ := mix_step (it := it) (s := some (.sh e)) hL h8 hd (by omega)
    have hle : (L.eraseIdx r).length = L.length - 1 := by rw [List.length_eraseIdx]; simp [hr]
    obtain ⟨l', d', s', e2, p, hd'⟩ := mix_loop (it := it) es (L.eraseIdx r) (Fd ++ [L.getD r 0]) d1 (m + 1) (some (.sh e)) (by rw [hle, ← hl]; simp) (by rw [hle]; simp; omega) hd1 (by rw [hle]; omega) (.inr ⟨e, rfl⟩)
    refine ⟨l', d', s', ?_, p.trans ?_, by rw [hle] at hd'; rw [show m + L.length = m + 1 + (L.length - 1) by omega]; exact hd'⟩
    · have hg : gN 4 e [some (.bo d), it, some (.ow (.lst (L.map .int))), some (.ow (.lst (Fd.map .int))), s] = .ok () [some (.bo d), it, some (.ow (.lst (L.map .int))), some (.ow (.lst (Fd.map .int))), some (.sh e)] := by
        rcases hs with rfl | ⟨z, rfl⟩ <;> rfl
      simp only [forD, hg, e1, Rs.bind, e2]
    · rw [List.append_assoc]
      exact List.Perm.append_left _ (erase_perm hr)
end Dl
end
section
set_option maxHeartbeats 4000000
namespace Dl
open PySem PySem.Spec PyProof.Rows L2
theorem shape_mixed {A fb : En → Rs Fl} {C : En → Rs (List D)} {x y z : D} {x' : D} {l0 : D} {es : List D} {s' : Option Sl} (hA : A [some (.bo x), some (.sh y), none, none, none] = .ok .nx [some (.bo x), some (.sh y), some (.ow l0), some (.ow (.lst [])), none])
    (hC : C [some (.bo x), some (.sh y), some (.ow l0), some (.ow (.lst [])), none] = .ok es [some (.bo x), some (.sh y), some (.ow l0), some (.ow (.lst [])), none]) (hf : forD (gN 4) fb es [some (.bo x), some (.sh y), some (.ow l0), some (.ow (.lst [])), none] = .ok .nx [some (.bo x'), some (.sh y), some (.ow (.lst [])), some (.ow z), s']) :
    bodyF [true, false] 5 (fSeq A (fSeq (fFor C (gN 4) fb) (fRet (fVar 3)))) [x, y] = .ok z [x'] := by
  simp [bodyF, enE, fSeq, fFor, hA, Rs.bind, hC, hf, fRet, fVar, bosD]
theorem c_mixed {l : List Int} {d : D} {m : Nat} (h8 : l.length ≤ 8) (hd : Dice m d) (hm : m + l.length ≤ 100000) : ∃ (l' : List Int) (d' : D), F__law_mixed [d, .lst (l.map .int)] = .ok (.lst (l'.map .int)) [d'] ∧ l'.Perm l ∧ Dice (m + l.length) d' := by
  obtain ⟨l', d', s', e, p, hd'⟩ := mix_loop (it := some (.sh (.lst (l.map .int)))) ((List.range l.length).map fun (k : Nat) => D.int (k : Nat)) l [] d m none (by simp) (by simpa using h8) hd hm (.inl rfl)
  refine ⟨l', d', ?_, by simpa using p, hd'⟩
  have e1 : fParL 2 3 (fCall gList (fCons (fVar 1) fNil)) (fLst fNil) [some (.bo d), some (.sh (.lst (l.map .int))), none, none, none] = .ok .nx [some (.bo d), some (.sh (.lst (l.map .int))), some (.ow (.lst (l.map .int))), some (.ow (.lst [])), none] := by
    unfold fParL
    rw [cl1 (g := gList) (show fVar 1 _ = .ok (.lst (l.map .int)) _ from rfl) rfl]
    simp [Rs.bind, fLst, fNil, setOk]
  have e2 : iRg1 (fCall gLen (fCons (fVar 1) fNil)) [some (.bo d), some (.sh (.lst (l.map .int))), some (.ow (.lst (l.map .int))), some (.ow (.lst [])), none] = .ok ((List.range l.length).map fun (k : Nat) => D.int (k : Nat)) [some (.bo d), some (.sh (.lst (l.map .int))), some (.ow (.lst (l.map .int))), some (.ow (.lst [])), none] := by
    have := iRg1_ok (cl1 (g := gLen) (show fVar 1 [some (.bo d), some (.sh (.lst (l.map .int))), some (.ow (.lst (l.map .int))), some (.ow (.lst [])), none] = .ok (.lst (l.map .int)) _ from rfl) (by simp [gLen] : gLen [.lst (l.map D.int)] = some (.int l.length))) (by omega)
    rw [this, Int.toNat_natCast]
  exact shape_mixed e1 e2 e
end Dl
end
section
set_option maxHeartbeats 4000000
namespace Dl
open PySem PySem.Spec PyProof.Rows L2
/-- what the drawn order has at a place -/
def DrawAt (l : List Int) (n : Nat) (k : Nat) (y : Int) : Prop := (y = l.getD k 0 ∧ (k : Int) + 1 ≤ l.getD k 0) ∨ (y = l.getD k 0 + n ∧ l.getD k 0 ≤ (k : Int) + 1)
theorem dice_mono {m k : Nat} {d : D} (h : Dice m d) (e : m ≤ k) : Dice k d := by
  obtain ⟨a, b, c, r, h1, h2⟩ := h
  exact ⟨a, b, c, r, h1, by omega⟩
abbrev ordBody : En → Rs Fl := fSeq (fSet 5 (fBin opIx (fVar 2) (fVar 4)))
  (fSeq (fSet 6 (fOr (fBin opLt (fVar 5) (fBin opAdd (fVar 4) (fC (.int 1)))) (fAnd (fBin opEq (fVar 5) (fBin opAdd (fVar 4) (fC (.int 1)))) (fBin opEq (fFn [some 0, none] F__law_roll (fLent 0 (fCons (fC (.int 2)) fNil))) (fC (.int 0))))))
  (fExp (fApp 3 (fBin opAdd (fVar 5) (fBin opMul (fVar 1) (fCall gInt (fCons (fVar 6) fNil)))))))
abbrev fallsE : En → Rs D := fOr (fBin opLt (fVar 5) (fBin opAdd (fVar 4) (fC (.int 1)))) (fAnd (fBin opEq (fVar 5) (fBin opAdd (fVar 4) (fC (.int 1)))) (fBin opEq (fFn [some 0, none] F__law_roll (fLent 0 (fCons (fC (.int 2)) fNil))) (fC (.int 0))))
theorem shape_ord {d d' im : D} {n : D} {p fl y : D} {Fd : List D} {k : D} {A B C : En → Rs D} {s5 s6 : Option Sl} (h5 : s5 = none ∨ ∃ z, s5 = some (Sl.sh z)) (h6 : s6 = none ∨ ∃ z, s6 = some (Sl.sh z))
    (hA : A [some (.bo d), some (.sh n), some (.sh im), some (.ow (.lst Fd)), some (.sh k), s5, s6] = .ok p [some (.bo d), some (.sh n), some (.sh im), some (.ow (.lst Fd)), some (.sh k), s5, s6])
    (hB : B [some (.bo d), some (.sh n), some (.sh im), some (.ow (.lst Fd)), some (.sh k), some (.sh p), s6] = .ok fl [some (.bo d'), some (.sh n), some (.sh im), some (.ow (.lst Fd)), some (.sh k), some (.sh p), s6])
    (hC : C [some (.bo d'), some (.sh n), some (.sh im), some (.ow (.lst Fd)), some (.sh k), some (.sh p), some (.sh fl)] = .ok y [some (.bo d'), some (.sh n), some (.sh im), some (.ow (.lst Fd)), some (.sh k), some (.sh p), some (.sh fl)]) (hl : Fd.length ≤ 1000) :
    fSeq (fSet 5 A) (fSeq (fSet 6 B) (fExp (fApp 3 C))) [some (.bo d), some (.sh n), some (.sh im), some (.ow (.lst Fd)), some (.sh k), s5, s6] = .ok .nx [some (.bo d'), some (.sh n), some (.sh im), some (.ow (.lst (Fd ++ [y]))), some (.sh k), some (.sh p), some (.sh fl)] := by
  have e := app_at (i := 3) (l0 := Fd) rfl hC (show owned _ 3 = some (.lst Fd) from rfl) hl
  rcases h5 with rfl | ⟨z, rfl⟩ <;> rcases h6 with rfl | ⟨z2, rfl⟩ <;>
    (unfold fSeq fSet fExp; rw [hA]; simp only [Rs.bind]; rw [if_pos (by rfl)]; simp only [List.set]; rw [hB]; simp only; rw [if_pos (by rfl)]; simp only [List.set]; rw [e]; rfl)
theorem ord_step {l Fd : List Int} {d : D} {n k m : Nat} {s5 s6 : Option Sl} (hk : k < l.length) (hn : n ≤ 8) (h8 : Fd.length ≤ 8) (hd : Dice m d) (hm : m ≤ 100000) (h5 : s5 = none ∨ ∃ z, s5 = some (Sl.sh z)) (h6 : s6 = none ∨ ∃ z, s6 = some (Sl.sh z)) :
    ∃ (y : Int) (d' : D) (z5 z6 : D), DrawAt l n k y ∧ Dice (m + 1) d' ∧ ordBody [some (.bo d), some (.sh (.int n)), some (.sh (.lst (l.map .int))), some (.ow (.lst (Fd.map .int))), some (.sh (.int (k : Nat))), s5, s6] =
      .ok .nx [some (.bo d'), some (.sh (.int n)), some (.sh (.lst (l.map .int))), some (.ow (.lst ((Fd ++ [y]).map .int))), some (.sh (.int (k : Nat))), some (.sh z5), some (.sh z6)] := by
  have hx : opIx (.lst (l.map .int)) (.int (k : Nat)) = some (.int (l.getD k 0)) := atI_nat (xs := l.map D.int) (by rw [List.getElem?_map, getD_at hk]; rfl)
  have wn := wid_s (i := n) (by omega)
  have w0 := wid_s (i := 0) (by decide)
  have w1 := wid_s (i := 1) (by decide)
  generalize hp : l.getD k 0 = p at hx
  have hA : ∀ (a b s5 s6 : Option Sl), fBin opIx (fVar 2) (fVar 4) [a, b, some (.sh (.lst (l.map .int))), some (.ow (.lst (Fd.map .int))), some (.sh (.int (k : Nat))), s5, s6] = .ok (.int p) [a, b, some (.sh (.lst (l.map .int))), some (.ow (.lst (Fd.map .int))), some (.sh (.int (k : Nat))), s5, s6] := fun a b s5 s6 => bin1 rfl rfl hx
  have fin : ∀ (b : Bool) (d' : D), fBin opAdd (fVar 5) (fBin opMul (fVar 1) (fCall gInt (fCons (fVar 6) fNil))) [some (.bo d'), some (.sh (.int n)), some (.sh (.lst (l.map .int))), some (.ow (.lst (Fd.map .int))), some (.sh (.int (k : Nat))), some (.sh (.int p)), some (.sh (.bl b))] =
      .ok (.int (p + n * (if b then 1 else 0))) [some (.bo d'), some (.sh (.int n)), some (.sh (.lst (l.map .int))), some (.ow (.lst (Fd.map .int))), some (.sh (.int (k : Nat))), some (.sh (.int p)), some (.sh (.bl b))] := fun b d' => by
    refine bin1 rfl (bin1 rfl (cl1 (d := .bl b) rfl rfl) (r := .int (n * (if b then 1 else 0))) ?_) rfl
    cases b <;> simp [opMul, wn, w0, w1]
  by_cases c1 : p < (k : Int) + 1
  · refine ⟨p + n, d, .int p, .bl true, .inr ⟨by rw [hp], by rw [hp]; omega⟩, dice_mono hd (by omega), ?_⟩
    have hB : ∀ s6, fallsE [some (.bo d), some (.sh (.int n)), some (.sh (.lst (l.map .int))), some (.ow (.lst (Fd.map .int))), some (.sh (.int (k : Nat))), some (.sh (.int p)), s6] = .ok (.bl true) [some (.bo d), some (.sh (.int n)), some (.sh (.lst (l.map .int))), some (.ow (.lst (Fd.map .int))), some (.sh (.int (k : Nat))), some (.sh (.int p)), s6] := fun s6 => by
      simp [fallsE, fOr, fTr, fBin, fVar, fC, Rs.bind, opAdd, opLt, c1]
    have := shape_ord h5 h6 (hA _ _ s5 s6) (hB s6) (fin true d) (by rw [List.length_map]; omega)
    rw [List.map_append, show p + (n : Int) = p + n * (if (true : Bool) = true then 1 else 0) by simp]
    exact this
  · by_cases c2 : p = (k : Int) + 1
    · obtain ⟨r, d', e, r0, r1, hd'⟩ := c_roll hd hm (t := 2) (by decide) (by decide)
      have hB : ∀ s6, fOr (fBin opLt (fVar 5) (fBin opAdd (fVar 4) (fC (.int 1)))) (fAnd (fBin opEq (fVar 5) (fBin opAdd (fVar 4) (fC (.int 1)))) (fBin opEq (fFn [some 0, none] F__law_roll (fLent 0 (fCons (fC (.int 2)) fNil))) (fC (.int 0)))) [some (.bo d), some (.sh (.int n)), some (.sh (.lst (l.map .int))), some (.ow (.lst (Fd.map .int))), some (.sh (.int (k : Nat))), some (.sh (.int p)), s6] =
          .ok (.bl (decide (r = 0))) [some (.bo d'), some (.sh (.int n)), some (.sh (.lst (l.map .int))), some (.ow (.lst (Fd.map .int))), some (.sh (.int (k : Nat))), some (.sh (.int p)), s6] := fun s6 => by
        have e2 := bin1 (g := opEq) (fnB (f := fC (.int 2)) (r0 := [some (.sh (.int n)), some (.sh (.lst (l.map .int))), some (.ow (.lst (Fd.map .int))), some (.sh (.int (k : Nat))), some (.sh (.int p)), s6]) rfl e) (show fC (.int 0) _ = .ok (.int 0) _ from rfl) opEq_int
        have e3 : fTr (fBin opLt (fVar 5) (fBin opAdd (fVar 4) (fC (.int 1)))) [some (.bo d), some (.sh (.int n)), some (.sh (.lst (l.map .int))), some (.ow (.lst (Fd.map .int))), some (.sh (.int (k : Nat))), some (.sh (.int p)), s6] = .ok false [some (.bo d), some (.sh (.int n)), some (.sh (.lst (l.map .int))), some (.ow (.lst (Fd.map .int))), some (.sh (.int (k : Nat))), some (.sh (.int p)), s6] := by
          simp [fTr, fBin, fVar, fC, Rs.bind, opAdd, opLt, c1]
        have e4 : fTr (fBin opEq (fVar 5) (fBin opAdd (fVar 4) (fC (.int 1)))) [some (.bo d), some (.sh (.int n)), some (.sh (.lst (l.map .int))), some (.ow (.lst (Fd.map .int))), some (.sh (.int (k : Nat))), some (.sh (.int p)), s6] = .ok true [some (.bo d), some (.sh (.int n)), some (.sh (.lst (l.map .int))), some (.ow (.lst (Fd.map .int))), some (.sh (.int (k : Nat))), some (.sh (.int p)), s6] := by
          simp [fTr, fBin, fVar, fC, Rs.bind, opAdd, opEq_int, c2]
        unfold fOr fAnd
        rw [e3]
        simp only [Rs.bind, Bool.false_eq_true, if_false]
        rw [e4]
        simp only [if_true]
        exact e2
      have := shape_ord h5 h6 (hA _ _ s5 s6) (hB s6) (fin (decide (r = 0)) d') (by rw [List.length_map]; omega)
      refine ⟨p + n * (if decide (r = 0) then 1 else 0), d', .int p, .bl (decide (r = 0)), ?_, hd', ?_⟩
      · by_cases z : r = 0
        · right; rw [hp]; simp [z]; omega
        · left; rw [hp]; simp [z]; omega
      · rw [List.map_append]
        exact this
    · refine ⟨p, d, .int p, .bl false, .inl ⟨by rw [hp], by rw [hp]; omega⟩, dice_mono hd (by omega), ?_⟩
      have hB : ∀ s6, fallsE [some (.bo d), some (.sh (.int n)), some (.sh (.lst (l.map .int))), some (.ow (.lst (Fd.map .int))), some (.sh (.int (k : Nat))), some (.sh (.int p)), s6] = .ok (.bl false) [some (.bo d), some (.sh (.int n)), some (.sh (.lst (l.map .int))), some (.ow (.lst (Fd.map .int))), some (.sh (.int (k : Nat))), some (.sh (.int p)), s6] := fun s6 => by
        simp [fallsE, fOr, fAnd, fTr, fBin, fVar, fC, Rs.bind, opAdd, opLt, c1, opEq_int, c2]
      have := shape_ord h5 h6 (hA _ _ s5 s6) (hB s6) (fin false d) (by rw [List.length_map]; omega)
      rw [show p + (n : Int) * (if (false : Bool) = true then 1 else 0) = p by simp] at this
      rw [List.map_append]
      exact this
end Dl
end
section
set_option maxHeartbeats 4000000
namespace Dl
open PySem PySem.Spec PyProof.Rows L2
theorem ord_loop {l : List Int} {n : Nat} (hn : n ≤ 8) : ∀ (ks : List Nat) (Fd : List Int) (d : D) (m : Nat) (s4 s5 s6 : Option Sl), (∀ k ∈ ks, k < l.length) → ks.length + Fd.length ≤ 8 → Dice m d → m + ks.length ≤ 100000 →
    (s4 = none ∨ ∃ z, s4 = some (Sl.sh z)) → (s5 = none ∨ ∃ z, s5 = some (Sl.sh z)) → (s6 = none ∨ ∃ z, s6 = some (Sl.sh z)) →
    ∃ (ys : List Int) (d' : D) (t4 t5 t6 : Option Sl), forD (gN 4) ordBody (ks.map fun (k : Nat) => D.int (k : Nat)) [some (.bo d), some (.sh (.int n)), some (.sh (.lst (l.map .int))), some (.ow (.lst (Fd.map .int))), s4, s5, s6] =
      .ok .nx [some (.bo d'), some (.sh (.int n)), some (.sh (.lst (l.map .int))), some (.ow (.lst ((Fd ++ ys).map .int))), t4, t5, t6] ∧ A2 (DrawAt l n) ks ys ∧ Dice (m + ks.length) d'
  | [], Fd, d, m, s4, s5, s6, _, _, hd, _, _, _, _ => ⟨[], d, s4, s5, s6, by simp [forD], trivial, hd⟩
  | k :: ks, Fd, d, m, s4, s5, s6, hk, h8, hd, hm, h4, h5, h6 => by
    simp only [List.length_cons] at h8 hm
    obtain ⟨y, d1, z5, z6, hy, hd1, e1⟩ := ord_step (hk k List.mem_cons_self) hn (Fd := Fd) (by omega) hd (by omega) h5 h6
    obtain ⟨ys, d', t4, t5, t6, e2, p, hd'⟩ := ord_loop hn ks (Fd ++ [y]) d1 (m + 1) (some (.sh (.int (k : Nat)))) (some (.sh z5)) (some (.sh z6)) (fun j hj => hk j (List.mem_cons_of_mem _ hj)) (by simp; omega) hd1 (by omega) (.inr ⟨_, rfl⟩) (.inr ⟨_, rfl⟩) (.inr ⟨_, rfl⟩)
    refine ⟨y :: ys, d', t4, t5, t6, ?_, ⟨hy, p⟩, by rw [show m + (k :: ks).length = m + 1 + ks.length by simp; omega]; exact hd'⟩
    have hg : gN 4 (.int (k : Nat)) [some (.bo d), some (.sh (.int n)), some (.sh (.lst (l.map .int))), some (.ow (.lst (Fd.map .int))), s4, s5, s6] = .ok () [some (.bo d), some (.sh (.int n)), some (.sh (.lst (l.map .int))), some (.ow (.lst (Fd.map .int))), some (.sh (.int (k : Nat))), s5, s6] := by
      rcases h4 with rfl | ⟨z, rfl⟩ <;> rfl
    rw [List.map_cons]
    unfold forD
    rw [hg]
    dsimp only
    rw [e1]
    simp only [Rs.bind]
    rw [e2, List.append_assoc]
    rfl
theorem A2.get {α β : Type} {R : α → β → Prop} : ∀ {as : List α} {bs : List β}, A2 R as bs → ∀ (i : Nat) (a : α), as[i]? = some a → ∃ b, bs[i]? = some b ∧ R a b
  | [], [], _, i, a, h => by simp at h
  | a :: as, b :: bs, h, 0, x, e => by simp at e; subst e; exact ⟨b, rfl, h.1⟩
  | a :: as, b :: bs, h, i + 1, x, e => by simpa using A2.get h.2 i x (by simpa using e)
  | [], _ :: _, h, _, _, _ => h.elim
  | _ :: _, [], h, _, _, _ => h.elim
theorem draw_valid {l ys : List Int} {n : Nat} (h1 : 1 ≤ n) (h8 : n ≤ 8) (hp : l.Perm (upto n)) (h : A2 (DrawAt l n) (List.range n) ys) : Valid ys := by
  have hl : ys.length = n := by rw [← h.len, List.length_range]
  have hll : l.length = n := by rw [hp.length_eq, upto_len]
  have at_ : ∀ i, i < n → DrawAt l n i (ys.getD i 0) := fun i hi => by
    obtain ⟨b, hb, r⟩ := h.get i i (by rw [List.getElem?_range hi])
    rw [getD_at (by omega)] at hb
    cases hb
    exact r
  have inr : ∀ i, i < n → 1 ≤ l.getD i 0 ∧ l.getD i 0 ≤ n := fun i hi => by
    have hm : l.getD i 0 ∈ l := List.mem_of_getElem? (getD_at (by omega))
    exact upto_mem.mp (hp.mem_iff.mp hm)
  have rst : ∀ i, i < n → rest n (ys.getD i 0) = l.getD i 0 := fun i hi => by
    have a := inr i hi
    have base : rest n (l.getD i 0) = l.getD i 0 := by
      unfold rest
      rw [Int.emod_eq_of_lt (by omega) (by omega)]; omega
    rcases at_ i hi with ⟨e, _⟩ | ⟨e, _⟩
    · rw [e, base]
    · rw [e, show l.getD i 0 + (n : Int) = l.getD i 0 + n * 1 by omega, rest_add, base]
  refine ⟨by omega, fun i x hx => ?_, ?_⟩
  · have hi := (List.getElem?_eq_some_iff.mp hx).1
    rw [getD_at hi] at hx
    cases hx
    have a := inr i (by omega)
    rw [hl]
    rcases at_ i (by omega) with ⟨e, c⟩ | ⟨e, c⟩ <;> rw [e] <;> omega
  · rw [hl]
    have e : ys.map (rest n) = l := by
      refine List.ext_getElem? fun i => ?_
      rw [List.getElem?_map]
      by_cases hi : i < n
      · rw [getD_at (by omega), getD_at (by omega)]
        simp only [Option.map]
        rw [rst i hi]
      · rw [List.getElem?_eq_none (by omega), List.getElem?_eq_none (by omega)]
        rfl
    rw [e]
    exact hp.nodup_iff.mpr (upto_nodup n)
theorem shape_order {A : En → Rs D} {C : En → Rs (List D)} {fb : En → Rs Fl} {x x1 x2 y im : D} {es : List D} {zs : List D} {t4 t5 t6 : Option Sl} (hA : A [some (.bo x), some (.sh y), none, none, none, none, none] = .ok im [some (.bo x1), some (.sh y), none, none, none, none, none])
    (hC : C [some (.bo x1), some (.sh y), some (.sh im), some (.ow (.lst [])), none, none, none] = .ok es [some (.bo x1), some (.sh y), some (.sh im), some (.ow (.lst [])), none, none, none])
    (hf : forD (gN 4) fb es [some (.bo x1), some (.sh y), some (.sh im), some (.ow (.lst [])), none, none, none] = .ok .nx [some (.bo x2), some (.sh y), some (.sh im), some (.ow (.lst zs)), t4, t5, t6]) :
    bodyF [true, false] 7 (fSeq (fSet 2 A) (fSeq (fSetL 3 (fLst fNil)) (fSeq (fFor C (gN 4) fb) (fRet (fCall gTuple (fCons (fVar 3) fNil)))))) [x, y] = .ok (.tup zs) [x2] := by
  simp [bodyF, enE, fSeq, fSet, fSetL, fLst, fNil, setOk, fFor, hA, Rs.bind, hC, hf, fRet, fCall, fCons, fVar, gTuple, bosD]
theorem c_order {d : D} {m n : Nat} (h1 : 1 ≤ n) (h8 : n ≤ 8) (hd : Dice m d) (hm : m ≤ 1000) : ∃ (ys : List Int) (d' : D), F__law_order [d, .int n] = .ok (T ys) [d'] ∧ Valid ys ∧ Dice (m + 16) d' ∧ ys.length = n := by
  obtain ⟨l, d1, e1, p1, hd1⟩ := c_mixed (l := upto n) (by rw [upto_len]; exact h8) hd (by rw [upto_len]; omega)
  rw [upto_len] at hd1
  have hll : l.length = n := by rw [p1.length_eq, upto_len]
  obtain ⟨ys, d2, t4, t5, t6, e2, p2, hd2⟩ := ord_loop (l := l) h8 (List.range n) [] d1 (m + n) none none none (fun k hk => by rw [hll]; exact List.mem_range.mp hk) (by simp; exact h8) hd1 (by simp; omega) (.inl rfl) (.inl rfl) (.inl rfl)
  rw [List.length_range] at hd2
  refine ⟨ys, d2, ?_, draw_valid h1 h8 p1 p2, dice_mono hd2 (by omega), by rw [← p2.len, List.length_range]⟩
  have e3 : fFn [some 0, none] F__law_mixed (fLent 0 (fCons (fRg2 (fC (.int 1)) (fBin opAdd (fVar 1) (fC (.int 1)))) fNil)) [some (.bo d), some (.sh (.int n)), none, none, none, none, none] = .ok (.lst (l.map .int)) [some (.bo d1), some (.sh (.int n)), none, none, none, none, none] := by
    refine fnB (e := .lst ((upto n).map .int)) ?_ e1
    have hr : rgD 1 (n + 1) = some (.lst ((upto n).map .int)) := by
      unfold rgD
      rw [if_pos (by omega), show ((n : Int) + 1 - 1).toNat = n by omega]
      simp [upto, List.map_map, Function.comp_def]
    exact bin1 rfl (bin1 rfl rfl rfl) hr
  have e4 : iRg1 (fVar 1) [some (.bo d1), some (.sh (.int n)), some (.sh (.lst (l.map .int))), some (.ow (.lst [])), none, none, none] = .ok ((List.range n).map fun (k : Nat) => D.int (k : Nat)) [some (.bo d1), some (.sh (.int n)), some (.sh (.lst (l.map .int))), some (.ow (.lst [])), none, none, none] := by
    have := iRg1_ok (show fVar 1 [some (.bo d1), some (.sh (.int n)), some (.sh (.lst (l.map .int))), some (.ow (.lst [])), none, none, none] = .ok (.int n) _ from rfl) (by omega)
    rw [this, Int.toNat_natCast]
  exact shape_order e3 e4 e2
end Dl
end
section
set_option maxHeartbeats 4000000
namespace Dl
open PySem PySem.Spec PyProof.Rows L2
section
variable {xs : List Int}
theorem isI_O {m : Str} (h : m ≠ "own_numbers") : isI "Order" m (O xs) = true := by
  simp [isI, O, h]
theorem prop1 {F : List D → Fr} {f : En → Rs D} {ρ : En} {r : D} (h : f ρ = .ok (O xs) ρ) (hF : F [O xs] = .ok r []) : fProp "Order" F f ρ = .ok r ρ := by
  have e := isI_O (xs := xs) (m := Str.empty) (by decide)
  simp [fProp, h, Rs.bind, e, fFn, mixD, hF, putB, noErr]
theorem propL1 {F : List D → Fr} {f : En → Rs D} {ρ : En} {r : D} (h : f ρ = .ok (O xs) ρ) (hF : F [O xs] = .ok r []) : fPropL "Order" F f ρ = .ok r ρ := prop1 h hF
theorem meth1 {F : List D → Fr} {f g : En → Rs D} {ρ : En} {m : Str} {b r : D} (hm : m ≠ "own_numbers") (h : f ρ = .ok (O xs) ρ) (hg : g ρ = .ok b ρ) (hF : F [O xs, b] = .ok r []) : fMeth "Order" m [none] F f (fCons g fNil) ρ = .ok r ρ := by
  have e := isI_O (xs := xs) hm
  simp [fMeth, h, Rs.bind, e, fFn, fCons, fNil, hg, mixD, hF, putB]
theorem cD (h : Valid xs) : F_Order_dual [O xs] = .ok (O (dualL xs)) [] := by
  have e := dual_eq h
  have := c_dual h.len.1 h.len.2 (by rw [e]; exact valid_dualL h)
  rw [e] at this; exact this
/-! ### tests that say no -/
theorem ne_py {d : D} {x : PyData} (h : d.py = some x) (hs : SeqAt.shaped x = true) : u_opNe d d = some (.bl false) := by
  unfold u_opNe orG
  rw [(eq_refl h hs).2]
theorem ne_O : u_opNe (O xs) (O xs) = some (.bl false) := by
  have e := isI_O (xs := xs) (m := Str.empty) (by decide)
  have n1 : opNe (O xs) (O xs) = none := by simp [opNe, deq, O, D.py]
  have n2 : opOwn "Order" F_Order___eq__ true (O xs) (O xs) = some (.bl false) := by simp [opOwn, e, c_eq]
  unfold u_opNe orG
  rw [n1]
  dsimp only
  rw [n2]
theorem ne_no {f g : En → Rs D} {ρ : En} {d : D} (hf : f ρ = .ok d ρ) (hg : g ρ = .ok d ρ) (h : u_opNe d d = some (.bl false)) : fTr (fBin u_opNe f g) ρ = .ok false ρ := by
  unfold fTr
  rw [bin1 hf hg h]
  rfl
theorem or_no {f g : En → Rs Bool} {ρ : En} (hf : f ρ = .ok false ρ) (hg : g ρ = .ok false ρ) : fOrB f g ρ = .ok false ρ := by
  simp [fOrB, hf, Rs.bind, hg]
theorem if_no {c : En → Rs Bool} {a : En → Rs Fl} {ρ : En} (h : c ρ = .ok false ρ) : fIfS c a fSkip ρ = .ok .nx ρ := by
  simp [fIfS, h, Rs.bind, fSkip]
theorem sq {f g : En → Rs Fl} {ρ ρ1 : En} {r : Rs Fl} (h : f ρ = .ok .nx ρ1) (h2 : g ρ1 = r) : fSeq f g ρ = r := by
  simp [fSeq, h, Rs.bind, h2]
theorem py_int {i : Int} : u_opNe (.int i) (.int i) = some (.bl false) := ne_py (x := .int i) rfl (by simp [SeqAt.shaped, PyData.canLay0, PyData.depth])
/-- lists of ints and of orders' numbers -/
theorem ne_ints (l : List Int) : u_opNe (.lst (l.map .int)) (.lst (l.map .int)) = some (.bl false) := by
  refine ne_py (x := .list (l.map .int)) ?_ ?_
  · show (pyAll (l.map .int)).map _ = _
    rw [pyAll_ints]; rfl
  · unfold SeqAt.shaped
    simp [PyData.canLay0, PyData.depth, dep_ints, lay_ints]
theorem ne_T3 (a b c : List Int) : u_opNe (.lst [T a, T b, T c]) (.lst [T a, T b, T c]) = some (.bl false) := by
  refine ne_py (x := .list [.tuple (a.map .int), .tuple (b.map .int), .tuple (c.map .int)]) ?_ ?_
  · show (pyAll [T a, T b, T c]).map _ = _
    simp [pyAll, T_py]
  · unfold SeqAt.shaped
    simp [PyData.canLay0, PyData.canLayAll0, PyData.depth, PyData.depthAll, dep_ints, lay_ints]
/-! ### the dice once more: one of three -/
end
end Dl
end
section
set_option maxHeartbeats 4000000
namespace Dl
open PySem PySem.Spec PyProof.Rows L2
theorem lst3 {f g h : En → Rs D} {ρ : En} {x y z : D} (a : f ρ = .ok x ρ) (b : g ρ = .ok y ρ) (c : h ρ = .ok z ρ) : fLst (fCons f (fCons g (fCons h fNil))) ρ = .ok (.lst [x, y, z]) ρ := by
  have e : 3 ≤ sizeLine := by decide
  simp [fLst, fCons, fNil, a, b, c, Rs.bind, e]
theorem lst2 {f g : En → Rs D} {ρ : En} {x y : D} (a : f ρ = .ok x ρ) (b : g ρ = .ok y ρ) : fLst (fCons f (fCons g fNil)) ρ = .ok (.lst [x, y]) ρ := by
  simp [fLst, fCons, fNil, a, b, Rs.bind, sz2]
theorem lst1 {f : En → Rs D} {ρ : En} {x : D} (a : f ρ = .ok x ρ) : fLst (fCons f fNil) ρ = .ok (.lst [x]) ρ := by
  have e : 1 ≤ sizeLine := by decide
  simp [fLst, fCons, fNil, a, Rs.bind, e]

theorem set1 {f : En → Rs D} {i : Nat} {ρ ρ1 : En} {x : D} (a : f ρ = .ok x ρ1) (h : setOk ρ1 i = true) : fSet i f ρ = .ok .nx (ρ1.set i (some (.sh x))) := by
  simp [fSet, a, Rs.bind, h]
theorem pow_ok {j : Nat} (hj : j ≤ 1000) : opPow (.int 10) (.int j) = some (.int (10 ^ j)) := by
  have h : (j : Int) ≤ 1000 := by omega
  simp [opPow, h]
theorem sqr {f : En → Rs D} {ρ ρ1 : En} {x : D} (h : f ρ = .ok x ρ1) : fRet f ρ = .ok (.ret x) ρ1 := by simp [fRet, h, Rs.bind]
theorem forD_inv {K : Nat} {I : Nat → En → Prop} {g : D → En → Rs Unit} {fb : En → Rs Fl} : ∀ (es : List D) (k : Nat) (ρ : En), (∀ e ∈ es, ∀ k ρ, I k ρ → k < K → ∃ ρ1 ρ2, g e ρ = .ok () ρ1 ∧ fb ρ1 = .ok .nx ρ2 ∧ I (k + 1) ρ2) → k + es.length ≤ K → I k ρ → ∃ ρ', forD g fb es ρ = .ok .nx ρ' ∧ I (k + es.length) ρ'
  | [], k, ρ, _, _, h => ⟨ρ, rfl, h⟩
  | e :: es, k, ρ, st, hl, h => by
    simp only [List.length_cons] at hl
    obtain ⟨ρ1, ρ2, e1, e2, h2⟩ := st e List.mem_cons_self k ρ h (by omega)
    obtain ⟨ρ', e3, h3⟩ := forD_inv es (k + 1) ρ2 (fun x hx => st x (List.mem_cons_of_mem _ hx)) (by omega) h2
    refine ⟨ρ', ?_, by rw [List.length_cons, show k + (es.length + 1) = k + 1 + es.length by omega]; exact h3⟩
    unfold forD
    rw [e1]
    dsimp only
    rw [e2]
    exact e3
theorem fnO2 {F : List D → Fr} {f : En → Rs D} {a b : Option Sl} {r0 r1 : En} {d d1 e r d' : D} (h : f (a :: b :: some (.ow d) :: r0) = .ok e (a :: b :: some (.ow d1) :: r1)) (hF : F [d1, e] = .ok r [d']) : fFn [some 2, none] F (fLent 2 (fCons f fNil)) (a :: b :: some (.ow d) :: r0) = .ok r (a :: b :: some (.ow d') :: r1) := by
  simp [fFn, fLent, owned, fCons, fNil, h, Rs.bind, mixD, hF, putB, putSl]
theorem eq_O {xs : List Int} : u_opEq (O xs) (O xs) = some (.bl true) := by
  have e := isI_O (xs := xs) (m := Str.empty) (by decide)
  have n1 : opEq (O xs) (O xs) = none := by simp [opEq, deq, O, D.py]
  have n2 : opOwn "Order" F_Order___eq__ false (O xs) (O xs) = some (.bl true) := by simp [opOwn, e, c_eq]
  unfold u_opEq orG
  rw [n1]
  dsimp only
  rw [n2]
theorem lst4 {f g h k : En → Rs D} {ρ : En} {x y z w : D} (a : f ρ = .ok x ρ) (b : g ρ = .ok y ρ) (c : h ρ = .ok z ρ) (e : k ρ = .ok w ρ) : fLst (fCons f (fCons g (fCons h (fCons k fNil)))) ρ = .ok (.lst [x, y, z, w]) ρ := by
  have q : 4 ≤ sizeLine := by decide
  simp [fLst, fCons, fNil, a, b, c, e, Rs.bind, q]
theorem tup4 {f g h k : En → Rs D} {ρ : En} {x y z w : D} (a : f ρ = .ok x ρ) (b : g ρ = .ok y ρ) (c : h ρ = .ok z ρ) (e : k ρ = .ok w ρ) : fTup (fCons f (fCons g (fCons h (fCons k fNil)))) ρ = .ok (.tup [x, y, z, w]) ρ := by
  have q : 4 ≤ sizeLine := by decide
  simp [fTup, fCons, fNil, a, b, c, e, Rs.bind, q]
theorem end_law {S : D} {s1 s2 s3 s4 s5 : Option Sl} {f : En → Rs Fl} (h : f [some (.sh S), none, none, none, none, none] = .ok (.ret (.bl true)) [some (.sh S), s1, s2, s3, s4, s5]) : bodyF [false] 6 f [S] = .ok (.bl true) [] := by
  simp [bodyF, enE, h, bosD]
end Dl
end
section
set_option maxHeartbeats 4000000
namespace Dl
open PySem PySem.Spec PyProof.Rows L2
theorem shape_dice {A B C : En → Rs D} {x y u v r : D} (hA : A [some (.sh x), some (.sh y), none, none] = .ok u [some (.sh x), some (.sh y), none, none]) (hB : B [some (.sh x), some (.sh y), some (.sh u), none] = .ok v [some (.sh x), some (.sh y), some (.sh u), none])
    (hC : C [some (.sh x), some (.sh y), some (.sh u), some (.sh v)] = .ok r [some (.sh x), some (.sh y), some (.sh u), some (.sh v)]) : bodyL [false, false] 4 (fSeq (fSet 2 A) (fSeq (fSet 3 B) (fRetL C))) [x, y] = .ok r [] := by
  simp [bodyL, enE, fSeq, fSet, fRetL, Rs.bind, hA, setOk, hB, hC, bosD]
theorem wid_200 {i : Int} (h : i.natAbs < 2 ^ 210) : wid i = true := by
  unfold wid
  exact decide_eq_true (Nat.lt_of_lt_of_le h (Nat.pow_le_pow_right (by decide) (by decide)))
theorem cl2 {g : List D → Option D} {f h : En → Rs D} {ρ ρ1 ρ2 : En} {d e r : D} (h1 : f ρ = .ok d ρ1) (h2 : h ρ1 = .ok e ρ2) (hg : g [d, e] = some r) : fCall g (fCons f (fCons h fNil)) ρ = .ok r ρ2 := by
  simp [fCall, fCons, fNil, h1, h2, Rs.bind, hg]
theorem c_dice {ns : List Int} {k : Nat} (hk : k ≤ 10) : ∃ d, F__law_dice [.frz (ns.map .int), .int k] = .ok d [] ∧ Dice 0 d := by
  have hx : ∃ cell : Int, fIf (fTr (fBin opLt (fVar 1) (fCall gLen (fCons (fVar 0) fNil)))) (fCall gInt (fCons (fBin opIx (fVar 0) (fVar 1)) fNil)) (fBin opAdd (fBin opMul (fC (.int 61)) (fVar 1)) (fC (.int 17))) [some (.sh (.frz (ns.map .int))), some (.sh (.int k)), none, none] = .ok (.int cell) [some (.sh (.frz (ns.map .int))), some (.sh (.int k)), none, none] := by
    have e1 : fTr (fBin opLt (fVar 1) (fCall gLen (fCons (fVar 0) fNil))) [some (.sh (.frz (ns.map .int))), some (.sh (.int k)), none, none] = .ok (decide ((k : Int) < ns.length)) [some (.sh (.frz (ns.map .int))), some (.sh (.int k)), none, none] := by
      unfold fTr
      rw [bin1 (g := opLt) (f := fVar 1) (h := fCall gLen (fCons (fVar 0) fNil)) (a := .int k) (b := .int ns.length) rfl (cl1 (d := .frz (ns.map .int)) rfl (by simp [gLen])) rfl]
      rfl
    unfold fIf
    rw [e1]
    simp only [Rs.bind]
    by_cases c : (k : Int) < ns.length
    · rw [if_pos (by simpa using c)]
      have hk' : k < ns.length := by omega
      have hix : opIx (.frz (ns.map .int)) (.int (k : Nat)) = some (.int (ns.getD k 0)) := atI_nat (xs := ns.map D.int) (by rw [List.getElem?_map, getD_at hk']; rfl)
      exact ⟨_, cl1 (bin1 (a := .frz (ns.map .int)) (b := .int k) rfl rfl hix) rfl⟩
    · rw [if_neg (by simpa using c)]
      have w1 := wid_s (i := 61) (by decide)
      have w2 := wid_s (i := (k : Int)) (by omega)
      exact ⟨_, bin1 (bin1 (a := .int 61) (b := .int k) (r := .int (61 * k)) rfl rfl (by simp [opMul, w1, w2])) (b := .int 17) rfl rfl⟩
  obtain ⟨cell, eA⟩ := hx
  generalize ha : (if cell < 0 then -cell else cell) = ab at *
  have w10 := wid_200 (i := 10 ^ 60) (by decide)
  have eB : fBin opMod (fCall gMax (fCons (fC (.int 0)) (fCons (fBin opSub (fCall gAbs (fCons (fVar 2) fNil)) (fBin opPow (fC (.int 10)) (fC (.int 16)))) fNil))) (fBin opMul (fBin opPow (fC (.int 10)) (fC (.int 60))) (fBin opPow (fC (.int 10)) (fC (.int 60)))) [some (.sh (.frz (ns.map .int))), some (.sh (.int k)), some (.sh (.int cell)), none] =
      .ok (.int ((if ab - 10 ^ 16 > 0 then ab - 10 ^ 16 else 0) % (10 ^ 60 * 10 ^ 60))) [some (.sh (.frz (ns.map .int))), some (.sh (.int k)), some (.sh (.int cell)), none] := by
    refine bin1 (cl2 (d := .int 0) (e := .int (ab - 10 ^ 16)) rfl (bin1 (cl1 (d := .int cell) rfl (r := .int ab) (by simp only [gAbs, ha])) (bin1 (a := .int 10) (b := .int 16) rfl rfl (pow_ok (j := 16) (by decide))) rfl) rfl) (bin1 (bin1 (a := .int 10) (b := .int 60) rfl rfl (pow_ok (j := 60) (by decide))) (bin1 (a := .int 10) (b := .int 60) rfl rfl (pow_ok (j := 60) (by decide))) (r := .int (10 ^ 60 * 10 ^ 60)) ?_) ?_
    · simp only [opMul, w10, Bool.and_self, if_true]
    · simp only [opMod]
      rw [if_pos (by decide)]
  generalize hv : (if ab - 10 ^ 16 > 0 then ab - 10 ^ 16 else 0) % (10 ^ 60 * 10 ^ 60 : Int) = v at eB
  have mb : 0 ≤ ab % 1152921504606846869 ∧ ab % 1152921504606846869 < 1152921504606846869 := ⟨Int.emod_nonneg _ (by decide), Int.emod_lt_of_pos _ (by decide)⟩
  have w3 := wid_64 (i := ab % 1152921504606846869) (by omega)
  have w4 := wid_s (i := 43) (by decide)
  have w5 := wid_s (i := 811) (by decide)
  have w6 := wid_s (i := (k : Int)) (by omega)
  have w7 := wid_s (i := 29) (by decide)
  have w8 : ∀ z : Bool, wid (if z then 1 else 0) = true := fun z => wid_s (by cases z <;> decide)
  have eC := lst3 (ρ := [some (.sh (.frz (ns.map .int))), some (.sh (.int k)), some (.sh (.int cell)), some (.sh (.int v))]) (f := fVar 3) (h := fC (.int 0)) (x := .int v) (z := .int 0)
    (g := fBin opAdd (fBin opAdd (fBin opAdd (fBin opMul (fBin opMod (fCall gAbs (fCons (fVar 2) fNil)) (fC (.int 1152921504606846869))) (fC (.int 43))) (fBin opMul (fC (.int 811)) (fVar 1))) (fBin opMul (fC (.int 29)) (fCall gInt (fCons (fBin opLt (fVar 2) (fC (.int 0))) fNil)))) (fC (.int 5))) rfl
    (bin1 (bin1 (bin1 (bin1 (bin1 (cl1 (d := .int cell) rfl (r := .int ab) (by simp only [gAbs, ha])) (b := .int 1152921504606846869) rfl (r := .int (ab % 1152921504606846869)) (by simp [opMod])) (b := .int 43) rfl (r := .int (ab % 1152921504606846869 * 43)) (by simp [opMul, w3, w4])) (bin1 (a := .int 811) (b := .int k) rfl rfl (r := .int (811 * k)) (by simp [opMul, w5, w6])) rfl)
      (bin1 (a := .int 29) rfl (cl1 (d := .bl (decide (cell < 0))) (bin1 (a := .int cell) (b := .int 0) rfl rfl rfl) rfl) (r := .int (29 * (if decide (cell < 0) then 1 else 0))) (by simp only [opMul, w7, w8, Bool.and_self, if_true])) rfl) (b := .int 5) rfl rfl) rfl
  exact ⟨_, shape_dice eA eB eC, _, _, 0, rfl, by decide, by decide⟩
end Dl
end
section
set_option maxHeartbeats 4000000
namespace Dl
open PySem PySem.Spec PyProof.Rows L2
def Bd (ys : List Int) : Prop := ∀ x ∈ ys, -1000 ≤ x ∧ x ≤ 1000
theorem set2 {ys : List Int} (nd : ys.Nodup) (h : ys.length ≤ 1000) : gLenSet (.lst (ys.map .int)) = some (.int ys.length) := by
  show (asI _).bind _ = _
  rw [asI_map]
  simp [nd]; omega
/-- are_numbers at ints whose rests differ -/
theorem c_areB {xs : List Int} (hl : 1 ≤ xs.length ∧ xs.length ≤ 8) (nd : (xs.map (rest xs.length)).Nodup) (hb : Bd xs) : F_are_numbers [T xs] = .ok (.bl (bB xs)) [] := by
  obtain ⟨h1, h2⟩ := hl
  have hn : (0 : Int) < xs.length := by omega
  have a1 : fLc [1] (iSeq (fVar 0)) (gN 1) fYes (fFn [none] F_is_integer (fCons (fVar 1) fNil)) [some (.sh (T xs)), none, none, none] = .ok (.lst (xs.map fun _ => .bl true)) [some (.sh (T xs)), none, none, none] := by
    refine fLc_map (c := D.int) (ρ1 := [some (.sh (T xs)), none, none, none]) (by simp [iSeq, fVar, Rs.bind, T]) (by rfl) (by rfl) (by omega) fun x hx => ?_
    have := hb x hx
    exact step_s [some (.sh (T xs)), some (.sh (.int x)), none, none] rfl rfl (fun _ => fn1 rfl (c_is_integer (x := x) (by unfold Gt; omega) (by unfold Gt; omega))) rfl rfl
  have a2 : fLc [3, 1] (iEn 1 (fVar 0)) (gT (gsCons (gN 3) (gsCons (gN 1) gsNil)) 2) fYes (fChain opLe opLe (fVar 3) (fVar 1) (fBin opAdd (fVar 3) (fVar 2))) [some (.sh (T xs)), none, some (.sh (.int xs.length)), none] = .ok (.lst ((enumL 1 xs).map fun (q : Int × Int) => D.bl (decide (q.1 ≤ q.2) && decide (q.2 ≤ q.1 + (xs.length : Int))))) [some (.sh (T xs)), none, some (.sh (.int xs.length)), none] := by
    refine fLc_map (c := pD) (ρ1 := [some (.sh (T xs)), none, some (.sh (.int xs.length)), none]) (by simp [iEn, fVar, Rs.bind, T, enumD_ints]) (by rfl) (by rfl) (by rw [enumL_len]; omega) fun q hq => ?_
    refine step_s [some (.sh (T xs)), some (.sh (.int q.2)), some (.sh (.int xs.length)), some (.sh (.int q.1))] (by simp [gT, pD, gsCons, gN, gsNil, Rs.bind, setOk]) rfl (fun _ => ?_) (by simp [okW, setOk]) (by simp [wipeR])
    by_cases b1 : q.1 ≤ q.2
    · simp [fChain, fVar, Rs.bind, opLe, fBin, opAdd, b1]
    · simp [fChain, fVar, Rs.bind, opLe, fBin, opAdd, b1]
  have a3 : fLc [1] (iSeq (fVar 0)) (gN 1) fYes (fFn [none, none] F_rest_of (fCons (fVar 2) (fCons (fVar 1) fNil))) [some (.sh (T xs)), none, some (.sh (.int xs.length)), none] = .ok (.lst ((xs.map (rest xs.length)).map .int)) [some (.sh (T xs)), none, some (.sh (.int xs.length)), none] := by
    rw [List.map_map]
    refine fLc_map (c := D.int) (ρ1 := [some (.sh (T xs)), none, some (.sh (.int xs.length)), none]) (by simp [iSeq, fVar, Rs.bind, T]) (by rfl) (by rfl) (by omega) fun x hx => ?_
    exact step_s [some (.sh (T xs)), some (.sh (.int x)), some (.sh (.int xs.length)), none] rfl rfl (fun _ => fn2 rfl rfl (c_rest hn)) rfl rfl
  have g1 : gAll [.lst (xs.map fun _ => .bl true)] = some (.bl true) := by simp [gAll, asB_map (fun _ : Int => true)]
  have g2 : gAll [.lst ((enumL 1 xs).map fun (q : Int × Int) => D.bl (decide (q.1 ≤ q.2) && decide (q.2 ≤ q.1 + (xs.length : Int))))] = some (.bl (bB xs)) := by
    show (asB _).map _ = _
    rw [asB_map (fun q : Int × Int => decide (q.1 ≤ q.2) && decide (q.2 ≤ q.1 + (xs.length : Int)))]
    simp [bB, List.all_map, Function.comp_def]
  have g3 := set2 nd (by rw [List.length_map]; omega)
  rw [List.length_map] at g3
  rw [List.map_map] at a3 g3
  have c1 : (1 : Int) ≤ xs.length := by omega
  have c2 : (xs.length : Int) ≤ 8 := by omega
  have i1 : isTup (T xs) = some true := rfl
  have l1 : gLen [T xs] = some (.int xs.length) := by simp [gLen, T]
  generalize bB xs = b at g2 ⊢
  cases b
  · simp [F_are_numbers, m_are_numbers, bodyF, enE, fSeq, fIfS, fOrB, fNotB, fTr, fIsi, fUn, fVar, fChain, fC, fCall, fCons, fNil, Rs.bind, i1, l1, opLe, c1, c2, fSkip, a1, g1, fSet, setOk, a2, g2, fRet, bosD]
  · simp [F_are_numbers, m_are_numbers, bodyF, enE, fSeq, fIfS, fOrB, fNotB, fTr, fIsi, fUn, fVar, fChain, fC, fCall, fCons, fNil, Rs.bind, i1, l1, opLe, c1, c2, fSkip, a1, g1, fSet, setOk, a2, g2, fRet, fBin, a3, g3, opEq_int, bosD]
theorem nodup_other {α β γ : Type} {f : α → β} {g : α → γ} {l : List α} (h : (l.map g).Nodup) (e : ∀ x y, f x = f y → g x = g y) : (l.map f).Nodup := by
  unfold List.Nodup at h ⊢
  rw [List.pairwise_map] at h ⊢
  exact h.imp fun {a b} n q => n (e a b q)
theorem ne_nil (l : List Int) : opNe (.lst (l.map .int)) (.lst []) = some (.bl (!l.isEmpty)) := by
  have e1 : (D.lst (l.map .int)).py = some (.list (l.map .int)) := by
    show (pyAll (l.map .int)).map _ = _
    rw [pyAll_ints]; rfl
  have e2 : (D.lst []).py = some (.list []) := rfl
  have s1 : SeqAt.shaped (.list (l.map PyData.int)) = true := by
    unfold SeqAt.shaped
    simp [PyData.canLay0, PyData.depth, dep_ints, lay_ints]
  have s2 : SeqAt.shaped (.list []) = true := by simp [SeqAt.shaped, PyData.canLay0, PyData.canLayAll0, PyData.depth, PyData.depthAll]
  unfold opNe deq
  rw [e1, e2]
  simp only [Option.bind_some, s1, s2, Bool.and_self, if_true, Option.map_some]
  cases l with
  | nil => simp [PyData.eqv, PyData.eqvAll]
  | cons a l => simp [PyData.eqv, PyData.eqvAll]
def badK (xs : List Int) (k : Nat) : Bool := !(decide ((k : Int) < xs.getD k 0) && decide (xs.getD k 0 ≤ (k : Int) + 1 + (xs.length : Int)))
theorem all_none {α : Type} {p q : α → Bool} (h : ∀ a, p a = !q a) : ∀ l : List α, l.all p = (l.filter q).isEmpty
  | [] => rfl
  | a :: l => by
    rw [List.all_cons, List.filter_cons, h, all_none h l]
    cases q a <;> simp
theorem bB_range {xs : List Int} : bB xs = ((List.range xs.length).filter (badK xs)).isEmpty := by
  unfold bB
  rw [enumL_eq, List.all_map]
  refine all_none (fun k => ?_) _
  unfold badK
  rw [Bool.not_not]
  simp only [Function.comp]
  exact congr (congrArg _ (decide_eq_decide.mpr (by omega))) (decide_eq_decide.mpr (by omega))
/-- as the law tells it -/
theorem isord_a {xs : List Int} (h2 : xs.length ≤ 8) : fLc [2] (iRg1 (fVar 1)) (gN 2) (fNotB (fTr (fChain opLt opLe (fVar 2) (fBin opIx (fVar 0) (fVar 2)) (fBin opAdd (fBin opAdd (fVar 2) (fC (.int 1))) (fVar 1))))) (fVar 2) [some (.sh (T xs)), some (.sh (.int xs.length)), none, none] =
      .ok (.lst (((List.range xs.length).filter (badK xs)).map fun (k : Nat) => D.int (k : Nat))) [some (.sh (T xs)), some (.sh (.int xs.length)), none, none] := by
  refine fLc_filter (c := fun (k : Nat) => D.int (k : Nat)) (ρ1 := [some (.sh (T xs)), some (.sh (.int xs.length)), none, none]) ?_ rfl rfl (by rw [List.length_range]; omega) fun k hk => ?_
  · have := iRg1_ok (show fVar 1 [some (.sh (T xs)), some (.sh (.int xs.length)), none, none] = .ok (.int xs.length) _ from rfl) (by omega)
    rw [this, Int.toNat_natCast]
  · have hk' := List.mem_range.mp hk
    have ix : opIx (T xs) (.int (k : Nat)) = some (.int (xs.getD k 0)) := ix_T rfl hk'
    refine step_s [some (.sh (T xs)), some (.sh (.int xs.length)), some (.sh (.int (k : Nat))), none] rfl ?_ (fun _ => rfl) rfl rfl
    unfold badK
    generalize xs.getD k 0 = z at ix ⊢
    by_cases b1 : (k : Int) < z
    · simp [fNotB, fTr, fChain, fVar, Rs.bind, fBin, ix, opLt, opLe, opAdd, fC, b1]
    · simp [fNotB, fTr, fChain, fVar, Rs.bind, fBin, ix, opLt, opLe, opAdd, fC, b1]
theorem isord_b {xs : List Int} (h1 : 1 ≤ xs.length) (h2 : xs.length ≤ 8) : fLc [3] (iSeq (fVar 0)) (gN 3) fYes (fBin opMod (fCall gInt (fCons (fVar 3) fNil)) (fVar 1)) [some (.sh (T xs)), some (.sh (.int xs.length)), none, none] = .ok (.lst ((xs.map fun x => x % (xs.length : Int)).map .int)) [some (.sh (T xs)), some (.sh (.int xs.length)), none, none] := by
  have hn : (0 : Int) < xs.length := by omega
  rw [List.map_map]
  refine fLc_map (c := D.int) (ρ1 := [some (.sh (T xs)), some (.sh (.int xs.length)), none, none]) (by simp [iSeq, fVar, Rs.bind, T]) rfl rfl (by omega) fun x hx => ?_
  exact step_s [some (.sh (T xs)), some (.sh (.int xs.length)), none, some (.sh (.int x))] rfl rfl (fun _ => bin1 (cl1 (d := .int x) rfl rfl) (b := .int xs.length) rfl (by simp only [opMod]; rw [if_pos hn]; rfl)) rfl rfl
theorem shape_isord {A B : En → Rs D} {x : D} {n : Int} {l1 l2 : List D} {b : Bool} (h0 : gLen [x] = some (.int n)) (hA : A [some (.sh x), some (.sh (.int n)), none, none] = .ok (.lst l1) [some (.sh x), some (.sh (.int n)), none, none])
    (hN : opNe (.lst l1) (.lst []) = some (.bl (!b))) (hB : B [some (.sh x), some (.sh (.int n)), none, none] = .ok (.lst l2) [some (.sh x), some (.sh (.int n)), none, none]) (hS : gLenSet (.lst l2) = some (.int n)) :
    bodyF [false] 4 (fSeq (fSet 1 (fCall gLen (fCons (fVar 0) fNil))) (fSeq (fIfS (fTr (fBin opNe A (fLst fNil))) (fRet (fC (.bl false))) fSkip) (fRet (fBin opEq (fUn gLenSet B) (fVar 1))))) [x] = .ok (.bl b) [] := by
  cases b
  · simp [bodyF, enE, fSeq, fSet, fCall, fCons, fNil, fVar, Rs.bind, h0, setOk, fIfS, fTr, fBin, hA, fLst, hN, fRet, fC, bosD]
  · simp [bodyF, enE, fSeq, fSet, fCall, fCons, fNil, fVar, Rs.bind, h0, setOk, fIfS, fTr, fBin, hA, fLst, hN, fRet, fC, fSkip, fUn, hB, hS, opEq_int, bosD]
theorem c_isord {xs : List Int} (hl : 1 ≤ xs.length ∧ xs.length ≤ 8) (nd : (xs.map (rest xs.length)).Nodup) : F__law_is_order [T xs] = .ok (.bl (bB xs)) [] := by
  have e := ne_nil (((List.range xs.length).filter (badK xs)).map fun (k : Nat) => (k : Int))
  rw [List.isEmpty_map, ← bB_range, List.map_map] at e
  have g3 := set2 (ys := xs.map fun x => x % (xs.length : Int)) (nodup_other nd fun x y e => rest_eq.mpr (Int.emod_eq_emod_iff_emod_sub_eq_zero.mp e)) (by rw [List.length_map]; omega)
  rw [List.length_map] at g3
  exact shape_isord len_T (isord_a hl.2) e (isord_b hl.1 hl.2) g3
end Dl
end
section
set_option maxHeartbeats 4000000
namespace Dl
open PySem PySem.Spec PyProof.Rows L2
theorem body_ret {bor : List Bool} {n : Nat} {f : En → Rs Fl} {ds : List D} {r : D} {ρ : En} {bs : List D} (h : f (enE bor ds n) = .ok (.ret r) ρ) (hl : ds.length = bor.length := by rfl) (hb : bosD bor ρ = some bs := by rfl) : bodyF bor n f ds = .ok r bs := by
  unfold bodyF
  rw [if_pos hl, h]
  dsimp only
  rw [hb]
theorem body_nx {bor : List Bool} {n : Nat} {f : En → Rs Fl} {ds : List D} {ρ : En} {bs : List D} (h : f (enE bor ds n) = .ok .nx ρ) (hl : ds.length = bor.length := by rfl) (hb : bosD bor ρ = some bs := by rfl) : bodyF bor n f ds = .ok .non bs := by
  unfold bodyF
  rw [if_pos hl, h]
  dsimp only
  rw [hb]
theorem body_err {bor : List Bool} {n : Nat} {f : En → Rs Fl} {ds : List D} {c : Str} {fs : List Str} {es : List D} {ρ : En} {bs : List D} (h : f (enE bor ds n) = .err c fs es ρ) (hl : ds.length = bor.length := by rfl) (hb : bosD bor ρ = some bs := by rfl) : bodyF bor n f ds = .err c fs es bs := by
  unfold bodyF
  rw [if_pos hl, h]
  dsimp only
  rw [hb]
section
variable {xs : List Int} {j : Nat}
/-! ### the list with two neighbours changed -/
theorem swL_get (hn : N28 xs.length) (hj : j + 1 < xs.length) {k : Nat} (hk : k < xs.length) : (swL xs ((j : Int) + 1)).getD k 0 = if k = j then xs.getD (j + 1) 0 else if k = j + 1 then xs.getD j 0 else xs.getD k 0 := by
  unfold swL
  rw [tell_get hk, sw_in hn (by omega) (by omega)]
  by_cases q1 : k = j
  · subst q1
    rw [if_pos rfl, if_pos rfl, ← Vx_one hj]
    congr 1
  · by_cases q2 : k = j + 1
    · subst q2
      rw [if_neg (by omega), if_pos (by omega), if_neg q1, if_pos rfl, ← Vx_one (by omega)]
    · rw [if_neg (by omega), if_neg (by omega), if_neg q1, if_neg q2, ← Vx_one hk]
theorem swL_set (hn : N28 xs.length) (hj : j + 1 < xs.length) : (xs.set j (xs.getD (j + 1) 0)).set (j + 1) (xs.getD j 0) = swL xs ((j : Int) + 1) := by
  refine List.ext_getElem? fun k => ?_
  by_cases hk : k < xs.length
  · rw [getD_at (xs := swL xs ((j : Int) + 1)) (by rw [swL_len]; exact hk), swL_get hn hj hk, List.getElem?_set, List.getElem?_set]
    simp only [List.length_set]
    by_cases q1 : k = j
    · subst q1
      rw [if_neg (by omega), if_pos rfl, if_pos hk, if_pos rfl]
    · by_cases q2 : k = j + 1
      · subst q2
        rw [if_pos rfl, if_pos hk, if_neg q1, if_pos rfl]
      · rw [if_neg (by omega), if_neg (by omega), if_neg q1, if_neg q2, getD_at hk]
  · rw [List.getElem?_eq_none (by simp; omega), List.getElem?_eq_none (by rw [swL_len]; omega)]
theorem swL_spl (hn : N28 xs.length) (hj : j + 1 < xs.length) : spl xs [xs.getD (j + 1) 0, xs.getD j 0] j (j + 2) = swL xs ((j : Int) + 1) := by
  refine List.ext_getElem? fun k => ?_
  unfold spl
  have hlt : (xs.take j).length = j := by rw [List.length_take]; omega
  by_cases hk : k < xs.length
  · rw [getD_at (xs := swL xs ((j : Int) + 1)) (by rw [swL_len]; exact hk), swL_get hn hj hk]
    by_cases q1 : k = j
    · subst q1
      rw [List.append_assoc, List.getElem?_append_right (by omega), hlt, if_pos rfl]
      simp
    · by_cases q2 : k = j + 1
      · subst q2
        rw [List.append_assoc, List.getElem?_append_right (by omega), hlt, if_neg q1, if_pos rfl, show j + 1 - j = 1 by omega]
        simp
      · rw [if_neg q1, if_neg q2, ← getD_at hk]
        by_cases q3 : k < j
        · rw [List.append_assoc, List.getElem?_append_left (by omega), List.getElem?_take_of_lt q3]
        · rw [List.getElem?_append_right (by simp; omega), List.getElem?_drop]
          congr 1
          simp
          omega
  · rw [List.getElem?_eq_none (by simp; omega), List.getElem?_eq_none (by rw [swL_len]; omega)]
/-! ### the law's own exchanges -/
theorem sto_g {ρ ρ1 ρ2 : En} {i : Nat} {l l0 : List D} {k : Nat} {d : D} {f g : En → Rs D} (hf : f ρ = .ok d ρ1) (h0 : owned ρ1 i = some (.lst l0)) (hg : g ρ1 = .ok (.int (k : Nat)) ρ2) (h : owned ρ2 i = some (.lst l)) (hk : k < l.length) : fSto i g f ρ = .ok .nx (putSl ρ2 i (.lst (l.set k d))) := by
  have e : ixN l.length (k : Int) = some k := by simp [ixN, hk]
  simp [fSto, hf, Rs.bind, h0, hg, h, e]
theorem c_swapped (hn : N28 xs.length) (hj : j + 1 < xs.length) : F__law_swapped [T xs, .int ((j : Int) + 1)] = .ok (T (swL xs ((j : Int) + 1))) [] := by
  have ix0 : opIx (T xs) (.int (j : Nat)) = some (.int (xs.getD j 0)) := ix_T rfl (by omega)
  have ix1 : opIx (T xs) (.int ((j : Int) + 1)) = some (.int (xs.getD (j + 1) 0)) := ix_T (j := j + 1) (by omega) hj
  have m1 : ∀ ρ : En, fBin opSub (fVar 1) (fC (.int 1)) (some (.sh (T xs)) :: some (.sh (.int ((j : Int) + 1))) :: ρ) = .ok (.int (j : Nat)) (some (.sh (T xs)) :: some (.sh (.int ((j : Int) + 1))) :: ρ) := fun ρ => bin1 rfl rfl (by simp only [opSub]; rw [show (j : Int) + 1 - 1 = j by omega])
  have e1 := sto_g (ρ := [some (.sh (T xs)), some (.sh (.int ((j : Int) + 1))), some (.ow (.lst (xs.map .int)))]) (i := 2) (k := j) (l := xs.map .int) (l0 := xs.map .int) (f := fBin opIx (fVar 0) (fVar 1)) (g := fBin opSub (fVar 1) (fC (.int 1))) (bin1 rfl rfl ix1) rfl (m1 _) rfl (by rw [List.length_map]; omega)
  have e2 := sto_g (ρ := [some (.sh (T xs)), some (.sh (.int ((j : Int) + 1))), some (.ow (.lst ((xs.map D.int).set j (.int (xs.getD (j + 1) 0)))))]) (i := 2) (k := j + 1) (l := (xs.map .int).set j (.int (xs.getD (j + 1) 0))) (l0 := (xs.map .int).set j (.int (xs.getD (j + 1) 0))) (f := fBin opIx (fVar 0) (fBin opSub (fVar 1) (fC (.int 1)))) (g := fVar 1) (bin1 rfl (m1 _) ix0) rfl rfl rfl (by rw [List.length_set, List.length_map]; exact hj)
  have e3 : ((xs.map D.int).set j (.int (xs.getD (j + 1) 0))).set (j + 1) (.int (xs.getD j 0)) = (swL xs ((j : Int) + 1)).map .int := by
    rw [← swL_set hn hj, List.map_set, List.map_set]
  rw [e3] at e2
  have e0 : fSetL 2 (fCall gList (fCons (fVar 0) fNil)) [some (.sh (T xs)), some (.sh (.int ((j : Int) + 1))), none] = .ok .nx [some (.sh (T xs)), some (.sh (.int ((j : Int) + 1))), some (.ow (.lst (xs.map .int)))] := rfl
  have q : m__law_swapped (enE [false, false] [T xs, .int ((j : Int) + 1)] 3) = .ok (.ret (T (swL xs ((j : Int) + 1)))) [some (.sh (T xs)), some (.sh (.int ((j : Int) + 1))), some (.sh (.lst ((swL xs ((j : Int) + 1)).map .int)))] := sq e0 (sq e1 (sq e2 rfl))
  exact body_ret q
/-- a loop that appends -/
theorem app_loop {α : Type} {fb : En → Rs Fl} {ρf : Option Sl → List D → En} {c h : α → D} (hg : ∀ d s l, (s = none ∨ ∃ d, s = some (Sl.sh d)) → gN 4 d (ρf s l) = .ok () (ρf (some (.sh d)) l)) :
    ∀ (es : List α) (l : List D) (s : Option Sl), (∀ e ∈ es, ∀ l : List D, l.length ≤ 1000 → fb (ρf (some (.sh (c e))) l) = .ok .nx (ρf (some (.sh (c e))) (l ++ [h e]))) → l.length + es.length ≤ 1000 → (s = none ∨ ∃ d, s = some (Sl.sh d)) → ∃ t, forD (gN 4) fb (es.map c) (ρf s l) = .ok .nx (ρf t (l ++ es.map h)) ∧ (t = none ∨ ∃ d, t = some (Sl.sh d))
  | [], l, s, _, _, hs => ⟨s, by simp [forD], hs⟩
  | e :: es, l, s, hb, hl, hs => by
    simp only [List.length_cons] at hl
    obtain ⟨t, ht, hs'⟩ := app_loop hg es (l ++ [h e]) (some (.sh (c e))) (fun x hx => hb x (List.mem_cons_of_mem _ hx)) (by rw [List.length_append, List.length_singleton]; omega) (.inr ⟨_, rfl⟩)
    refine ⟨t, ?_, hs'⟩
    rw [List.map_cons]
    unfold forD
    rw [hg _ _ _ hs]
    dsimp only
    rw [hb e List.mem_cons_self l (by omega)]
    simp only [Rs.bind]
    rw [ht, List.map_cons, List.append_assoc, List.singleton_append]
theorem sub_mod {a b n : Int} (hn : 0 < n) {f g h : En → Rs D} {ρ : En} (hf : f ρ = .ok (.int a) ρ) (hg : g ρ = .ok (.int b) ρ) (hh : h ρ = .ok (.int n) ρ) : fTr (fBin opEq (fBin opMod (fCall gInt (fCons (fBin opSub f g) fNil)) h) (fC (.int 0))) ρ = .ok (decide ((a - b) % n = 0)) ρ := by
  unfold fTr
  rw [bin1 (bin1 (cl1 (d := .int (a - b)) (bin1 hf hg rfl) rfl) hh (r := .int ((a - b) % n)) (by simp only [opMod]; rw [if_pos hn])) (show fC (.int 0) ρ = .ok (.int 0) ρ from rfl) opEq_int]
  rfl
theorem c_ends_changed {i : Int} (hn : N28 xs.length) : F__law_ends_changed [T xs, .int i] = .ok (T (echL xs i)) [] := by
  have h0 : (0 : Int) < xs.length := by unfold N28 at hn; omega
  have h8 : xs.length ≤ 8 := by unfold N28 at hn; omega
  obtain ⟨t, e1, ht⟩ := app_loop (fb := fIfS (fTr (fBin opEq (fBin opMod (fCall gInt (fCons (fBin opSub (fVar 4) (fVar 1)) fNil)) (fVar 2)) (fC (.int 0)))) (fExp (fApp 3 (fBin opAdd (fVar 4) (fC (.int 1))))) (fExp (fApp 3 (fIf (fTr (fBin opEq (fBin opMod (fCall gInt (fCons (fBin opSub (fBin opSub (fVar 4) (fVar 1)) (fC (.int 1))) fNil)) (fVar 2)) (fC (.int 0)))) (fBin opSub (fVar 4) (fC (.int 1))) (fVar 4)))))
    (ρf := fun s l => [some (.sh (T xs)), some (.sh (.int i)), some (.sh (.int xs.length)), some (.ow (.lst l)), s]) (c := D.int) (h := fun x => .int (sw xs.length i x)) (fun d s l hs => by rcases hs with rfl | ⟨z, rfl⟩ <;> rfl) xs [] none (fun x hx l hl => by
      generalize hρ : ([some (.sh (T xs)), some (.sh (.int i)), some (.sh (.int xs.length)), some (.ow (.lst l)), some (.sh (.int x))] : En) = ρ
      have v1 : fVar 1 ρ = .ok (.int i) ρ := by subst hρ; rfl
      have v2 : fVar 2 ρ = .ok (.int xs.length) ρ := by subst hρ; rfl
      have v4 : fVar 4 ρ = .ok (.int x) ρ := by subst hρ; rfl
      have own : owned ρ 3 = some (.lst l) := by subst hρ; rfl
      have ap : ∀ {f : En → Rs D} {z : Int}, f ρ = .ok (.int z) ρ → fExp (fApp 3 f) ρ = .ok .nx (putSl ρ 3 (.lst (l ++ [.int z]))) := fun h => by
        unfold fExp
        rw [app_at own h own hl]
        rfl
      have pt : ∀ z : D, putSl ρ 3 (.lst (l ++ [z])) = [some (.sh (T xs)), some (.sh (.int i)), some (.sh (.int xs.length)), some (.ow (.lst (l ++ [z]))), some (.sh (.int x))] := fun z => by subst hρ; rfl
      unfold fIfS
      rw [sub_mod h0 v4 v1 v2]
      simp only [Rs.bind]
      unfold sw
      by_cases q1 : (x - i) % (xs.length : Int) = 0
      · rw [if_pos (decide_eq_true q1), if_pos q1, ap (f := fBin opAdd (fVar 4) (fC (.int 1))) (z := x + 1) (bin1 v4 rfl rfl), pt]
      · rw [if_neg (by simpa using q1), if_neg q1]
        have e := sub_mod h0 (f := fBin opSub (fVar 4) (fVar 1)) (g := fC (.int 1)) (a := x - i) (b := 1) (bin1 v4 v1 rfl) rfl v2
        by_cases q2 : (x - i - 1) % (xs.length : Int) = 0
        · rw [if_pos q2, ap (z := x - 1), pt]
          unfold fIf
          rw [e]
          simp only [Rs.bind]
          rw [if_pos (decide_eq_true q2)]
          exact bin1 v4 rfl rfl
        · rw [if_neg q2, ap (z := x), pt]
          unfold fIf
          rw [e]
          simp only [Rs.bind]
          rw [if_neg (by simpa using q2)]
          exact v4) (by simp; omega) (.inl rfl)
  have q : m__law_ends_changed (enE [false, false] [T xs, .int i] 5) = .ok (.ret (T (echL xs i))) [some (.sh (T xs)), some (.sh (.int i)), some (.sh (.int xs.length)), some (.sh (.lst ((echL xs i).map .int))), t] := by
    refine sq (ρ1 := [some (.sh (T xs)), some (.sh (.int i)), some (.sh (.int xs.length)), some (.ow (.lst [])), none]) ?_ (sq (ρ1 := [some (.sh (T xs)), some (.sh (.int i)), some (.sh (.int xs.length)), some (.ow (.lst ((echL xs i).map .int))), t]) ?_ rfl)
    · simp [fParM, enE, fCall, fCons, fNil, fVar, Rs.bind, len_T, fLst, setOk]
    · have : (echL xs i).map D.int = [] ++ xs.map fun x => .int (sw xs.length i x) := by simp [echL, List.map_map, Function.comp_def]
      rw [this]
      exact e1
  exact body_ret q
end
end Dl
end
section
set_option maxHeartbeats 4000000
namespace Dl
open PySem PySem.Spec PyProof.Rows L2
section
variable {xs : List Int} {j : Nat}
theorem lv {v : Int} (h1 : 1 ≤ xs.length) (h2 : xs.length ≤ 8) (hv : 1 ≤ v ∧ v ≤ 16) : F__law_value [T xs, .int v] = .ok (.int (Vx xs v)) [] := by
  have hq : ((v - 1) / (xs.length : Int)).natAbs ≤ 1010 := by
    have := Int.natAbs_ediv_le_natAbs (v - 1) (xs.length : Int)
    omega
  exact c_law_value h1 h2 (Nat.lt_of_lt_of_le (Nat.lt_of_le_of_lt hq (by decide : 1010 < 2 ^ 10)) (Nat.pow_le_pow_right (by decide) (by decide)))
/-- a loop that appends some -/
theorem fil_loop {α : Type} {g : D → En → Rs Unit} {fb : En → Rs Fl} {ρf : Option Sl → List D → En} {c h : α → D} {p : α → Bool} (hg : ∀ d s l, (s = none ∨ ∃ d, s = some (Sl.sh d)) → g d (ρf s l) = .ok () (ρf (some (.sh d)) l)) :
    ∀ (es : List α) (l : List D) (s : Option Sl), (∀ e ∈ es, ∀ l : List D, l.length ≤ 1000 → fb (ρf (some (.sh (c e))) l) = .ok .nx (ρf (some (.sh (c e))) (if p e = true then l ++ [h e] else l))) → l.length + es.length ≤ 1000 → (s = none ∨ ∃ d, s = some (Sl.sh d)) → ∃ t, forD g fb (es.map c) (ρf s l) = .ok .nx (ρf t (l ++ (es.filter p).map h)) ∧ (t = none ∨ ∃ d, t = some (Sl.sh d))
  | [], l, s, _, _, hs => ⟨s, by simp [forD], hs⟩
  | e :: es, l, s, hb, hl, hs => by
    simp only [List.length_cons] at hl
    have hb0 := hb e List.mem_cons_self l (by omega)
    cases hp : p e with
    | true =>
      rw [hp, if_pos rfl] at hb0
      obtain ⟨t, ht, hs'⟩ := fil_loop hg es (l ++ [h e]) (some (.sh (c e))) (fun x hx => hb x (List.mem_cons_of_mem _ hx)) (by rw [List.length_append, List.length_singleton]; omega) (.inr ⟨_, rfl⟩)
      refine ⟨t, ?_, hs'⟩
      rw [List.map_cons]
      unfold forD
      rw [hg _ _ _ hs]
      dsimp only
      rw [hb0]
      simp only [Rs.bind]
      rw [ht, List.filter_cons, hp, if_pos rfl, List.map_cons, List.append_assoc, List.singleton_append]
    | false =>
      rw [hp, if_neg (by decide)] at hb0
      obtain ⟨t, ht, hs'⟩ := fil_loop hg es l (some (.sh (c e))) (fun x hx => hb x (List.mem_cons_of_mem _ hx)) (by omega) (.inr ⟨_, rfl⟩)
      refine ⟨t, ?_, hs'⟩
      rw [List.map_cons]
      unfold forD
      rw [hg _ _ _ hs]
      dsimp only
      rw [hb0]
      simp only [Rs.bind]
      rw [ht, List.filter_cons, hp, if_neg (by decide)]
abbrev knB : En → Rs Fl := fIfS (fTr (fBin opGt (fFn [none, none] F__law_value (fCons (fVar 0) (fCons (fVar 3) fNil))) (fFn [none, none] F__law_value (fCons (fVar 0) (fCons (fVar 4) fNil))))) (fExp (fApp 1 (fTup (fCons (fVar 3) (fCons (fVar 4) fNil))))) fSkip
abbrev knR (xs : List Int) (s3 s4 : Option Sl) (l : List D) : En := [some (.sh (T xs)), some (.ow (.lst l)), some (.sh (.int xs.length)), s3, s4]
theorem kn_step {v w : Int} {l : List D} (h1 : 1 ≤ xs.length) (h2 : xs.length ≤ 8) (hv : 1 ≤ v ∧ v ≤ 16) (hw : 1 ≤ w ∧ w ≤ 16) (hl : l.length ≤ 1000) : knB (knR xs (some (.sh (.int v))) (some (.sh (.int w))) l) = .ok .nx (knR xs (some (.sh (.int v))) (some (.sh (.int w))) (if decide (Vx xs w < Vx xs v) = true then l ++ [pD (v, w)] else l)) := by
  have e1 : fBin opGt (fFn [none, none] F__law_value (fCons (fVar 0) (fCons (fVar 3) fNil))) (fFn [none, none] F__law_value (fCons (fVar 0) (fCons (fVar 4) fNil))) (knR xs (some (.sh (.int v))) (some (.sh (.int w))) l) = .ok (.bl (decide (Vx xs w < Vx xs v))) (knR xs (some (.sh (.int v))) (some (.sh (.int w))) l) := bin1 (fn2 rfl rfl (lv h1 h2 hv)) (fn2 rfl rfl (lv h1 h2 hw)) rfl
  have e2 : fExp (fApp 1 (fTup (fCons (fVar 3) (fCons (fVar 4) fNil)))) (knR xs (some (.sh (.int v))) (some (.sh (.int w))) l) = .ok .nx (knR xs (some (.sh (.int v))) (some (.sh (.int w))) (l ++ [pD (v, w)])) := by
    unfold fExp
    rw [app_at (l0 := l) (l := l) (x := pD (v, w)) rfl (ρ1 := knR xs (some (.sh (.int v))) (some (.sh (.int w))) l) (by simp [fTup, fCons, fNil, fVar, Rs.bind, sz2, pD]) rfl hl]
    rfl
  unfold knB fIfS fTr
  rw [e1]
  simp only [Rs.bind]
  by_cases q : Vx xs w < Vx xs v
  · rw [decide_eq_true q]
    simp only [if_true]
    exact e2
  · rw [decide_eq_false q]
    simp [fSkip]
theorem kn_inner {k : Nat} {l : List D} {s4 : Option Sl} (h2 : xs.length ≤ 8) (hk : k < xs.length) (hl : l.length ≤ 900) (hs : s4 = none ∨ ∃ d, s4 = some (Sl.sh d)) : ∃ t, fFor (iRg2 (fBin opAdd (fVar 3) (fC (.int 1))) (fBin opAdd (fVar 3) (fVar 2))) (gN 4) knB (knR xs (some (.sh (.int (1 + (k : Nat))))) s4 l) =
      .ok .nx (knR xs (some (.sh (.int (1 + (k : Nat))))) t (l ++ ((((List.range (xs.length - 1)).map fun (m : Nat) => ((1 : Int) + (k : Nat), (1 : Int) + (k : Nat) + 1 + (m : Nat))).filter fun q => decide (Vx xs q.2 < Vx xs q.1)).map pD))) ∧ (t = none ∨ ∃ d, t = some (Sl.sh d)) := by
  obtain ⟨t, e, ht⟩ := fil_loop (g := gN 4) (fb := knB) (ρf := fun s l => knR xs (some (.sh (.int (1 + (k : Nat))))) s l) (c := fun (m : Nat) => D.int (1 + (k : Nat) + 1 + (m : Nat))) (h := fun (m : Nat) => pD (1 + (k : Nat), 1 + (k : Nat) + 1 + (m : Nat))) (p := fun (m : Nat) => decide (Vx xs (1 + (k : Nat) + 1 + (m : Nat)) < Vx xs (1 + (k : Nat))))
    (fun d s l hs => by rcases hs with rfl | ⟨z, rfl⟩ <;> rfl) (List.range (xs.length - 1)) l s4 (fun m hm l hl => by
      have hm' := List.mem_range.mp hm
      exact kn_step (by omega) h2 (by omega) (by omega) hl) (by rw [List.length_range]; omega) hs
  refine ⟨t, ?_, ht⟩
  unfold fFor
  have r := iRg2_ok (ρ := knR xs (some (.sh (.int (1 + (k : Nat))))) s4 l) (fa := fBin opAdd (fVar 3) (fC (.int 1))) (fb := fBin opAdd (fVar 3) (fVar 2)) (i := 1 + k + 1) (j := 1 + k + xs.length) rfl rfl (by omega)
  rw [show ((1 : Int) + k + xs.length - (1 + k + 1)).toNat = xs.length - 1 by omega] at r
  rw [r]
  simp only [Rs.bind]
  rw [e, List.filter_map, List.map_map]
  rfl
theorem kn_outer (h2 : xs.length ≤ 8) : ∀ (ks : List Nat) (l : List D) (s3 s4 : Option Sl), (∀ k ∈ ks, k < xs.length) → l.length + ks.length * 8 ≤ 900 → (s3 = none ∨ ∃ d, s3 = some (Sl.sh d)) → (s4 = none ∨ ∃ d, s4 = some (Sl.sh d)) →
    ∃ t3 t4, forD (gN 3) (fFor (iRg2 (fBin opAdd (fVar 3) (fC (.int 1))) (fBin opAdd (fVar 3) (fVar 2))) (gN 4) knB) (ks.map fun (k : Nat) => D.int (1 + (k : Nat))) (knR xs s3 s4 l) = .ok .nx (knR xs t3 t4 (l ++ ks.flatMap fun (k : Nat) => (((List.range (xs.length - 1)).map fun (m : Nat) => ((1 : Int) + (k : Nat), (1 : Int) + (k : Nat) + 1 + (m : Nat))).filter fun q => decide (Vx xs q.2 < Vx xs q.1)).map pD))
  | [], l, s3, s4, _, _, _, _ => ⟨s3, s4, by simp [forD]⟩
  | k :: ks, l, s3, s4, hk, hl, h3, h4 => by
    simp only [List.length_cons] at hl
    obtain ⟨t, e, ht⟩ := kn_inner (k := k) (l := l) (s4 := s4) h2 (hk k List.mem_cons_self) (by omega) h4
    have hle : ((((List.range (xs.length - 1)).map fun (m : Nat) => ((1 : Int) + (k : Nat), (1 : Int) + (k : Nat) + 1 + (m : Nat))).filter fun q => decide (Vx xs q.2 < Vx xs q.1)).map pD).length ≤ 8 := by
      rw [List.length_map]
      exact Nat.le_trans (List.length_filter_le _ _) (by rw [List.length_map, List.length_range]; omega)
    generalize hz : ((((List.range (xs.length - 1)).map fun (m : Nat) => ((1 : Int) + (k : Nat), (1 : Int) + (k : Nat) + 1 + (m : Nat))).filter fun q => decide (Vx xs q.2 < Vx xs q.1)).map pD) = z at e hle
    obtain ⟨t3, t4, e2⟩ := kn_outer h2 ks (l ++ z) (some (.sh (.int (1 + (k : Nat))))) t (fun m hm => hk m (List.mem_cons_of_mem _ hm)) (by rw [List.length_append]; omega) (.inr ⟨_, rfl⟩) ht
    refine ⟨t3, t4, ?_⟩
    rw [List.map_cons]
    unfold forD
    rw [show gN 3 (.int (1 + (k : Nat))) (knR xs s3 s4 l) = .ok () (knR xs (some (.sh (.int (1 + (k : Nat))))) s4 l) by rcases h3 with rfl | ⟨z, rfl⟩ <;> rfl]
    dsimp only
    rw [e]
    simp only [Rs.bind]
    rw [e2, List.flatMap_cons, hz, List.append_assoc]
theorem c_law_knots (h1 : 1 ≤ xs.length) (h2 : xs.length ≤ 8) : F__law_knots [T xs] = .ok (.lst ((knotsL xs).map pD)) [] := by
  obtain ⟨t3, t4, e⟩ := kn_outer h2 (List.range xs.length) [] none none (fun k hk => List.mem_range.mp hk) (by rw [List.length_range, List.length_nil]; omega) (.inl rfl) (.inl rfl)
  have r := iRg2_ok (ρ := knR xs none none []) (fa := fC (.int 1)) (fb := fBin opAdd (fVar 2) (fC (.int 1))) (i := 1) (j := xs.length + 1) rfl rfl (by omega)
  rw [show ((xs.length : Int) + 1 - 1).toNat = xs.length by omega] at r
  have q : m__law_knots (enE [false] [T xs] 5) = .ok (.ret (.lst ((knotsL xs).map pD))) [some (.sh (T xs)), some (.sh (.lst ((knotsL xs).map pD))), some (.sh (.int xs.length)), t3, t4] := by
    refine sq (ρ1 := knR xs none none []) ?_ (sq (ρ1 := knR xs t3 t4 ((knotsL xs).map pD)) ?_ rfl)
    · simp [fParN, enE, fCall, fCons, fNil, fVar, Rs.bind, len_T, fLst, setOk]
    · unfold fFor
      rw [r]
      simp only [Rs.bind]
      rw [List.nil_append] at e
      unfold knotsL places
      rw [List.filter_flatMap, List.map_flatMap]
      exact e
  exact body_ret q
theorem c_neigh {i : Int} (hi : 1 ≤ i ∧ i < xs.length) (h8 : xs.length ≤ 8) : F_Order_neighbours_checked [O xs, .int i] = .ok .non [] := by
  have e1 := fn1 (F := F_is_integer) (f := fVar 1) (ρ := [some (.sh (O xs)), some (.sh (.int i))]) (d := .int i) rfl (c_is_integer (x := i) (by unfold Gt; omega) (by unfold Gt; omega))
  have e3 := cl1 (fld_O1 (xs := xs) (r := [some (.sh (.int i))])) len_T
  have q : m_Order_neighbours_checked (enE [false, false] [O xs, .int i] 2) = .ok .nx [some (.sh (O xs)), some (.sh (.int i))] := by
    refine if_no (or_no ?_ ?_)
    · unfold fNotB fTr
      rw [show enE [false, false] [O xs, .int i] 2 = [some (.sh (O xs)), some (.sh (.int i))] from rfl, e1]; rfl
    · unfold fNotB fTr fChain
      rw [show enE [false, false] [O xs, .int i] 2 = [some (.sh (O xs)), some (.sh (.int i))] from rfl]
      simp [fC, fVar, Rs.bind, opLe, hi.1, e3, opLt, hi.2]
  exact body_nx q
end
end Dl
end
section
set_option maxHeartbeats 4000000
namespace Dl
open PySem PySem.Spec PyProof.Rows L2
section
variable {xs ys : List Int} {j : Nat}
/-- an order or a refusal -/
def ordR (ys : List Int) : Fr := if bB ys = true then .ok (O ys) [] else .err "InvalidOperation" [] [] []
theorem sw_bdd (h : Valid xs) {i : Int} : Bd (echL xs i) := fun x hx => by
  obtain ⟨y, hy, rfl⟩ := List.mem_map.mp hx
  have a := h.mem hy
  have b := sw_bd (n := xs.length) (i := i) (v := y)
  omega
theorem swL_bdd (h : Valid xs) (hn : N28 xs.length) (hj : j + 1 < xs.length) : Bd (swL xs ((j : Int) + 1)) := fun x hx => by
  obtain ⟨k, hk⟩ := List.mem_iff_getElem?.mp hx
  have hl := (List.getElem?_eq_some_iff.mp hk).1
  rw [getD_at hl] at hk
  cases hk
  rw [swL_len] at hl
  have g : ∀ m, m < xs.length → -1000 ≤ xs.getD m 0 ∧ xs.getD m 0 ≤ 1000 := fun m hm => by
    have := h.mem (List.mem_of_getElem? (getD_at hm))
    omega
  rw [swL_get hn hj hl]
  split
  · exact g _ hj
  · split
    · exact g _ (by omega)
    · exact g _ hl
theorem are_sw (h : Valid xs) (hn : N28 xs.length) (hj : j + 1 < xs.length) : F_are_numbers [T (swL xs ((j : Int) + 1))] = .ok (.bl (bB (swL xs ((j : Int) + 1)))) [] :=
  c_areB (by rw [swL_len]; exact h.len) (by rw [swL_len]; exact nd_swL h hn) (swL_bdd h hn hj)
theorem are_ech (h : Valid xs) (hn : N28 xs.length) {i : Int} : F_are_numbers [T (echL xs i)] = .ok (.bl (bB (echL xs i))) [] :=
  c_areB (by rw [echL_len]; exact h.len) (by rw [echL_len]; exact nd_echL h hn) (sw_bdd h)
/-- the end of both: a refusal, or the order -/
theorem fin_ord {n : Nat} {pre : En → Rs Fl} {f : En → Rs D} {ds : List D} {bor : List Bool} {ρ ρ2 : En} (hpre : pre (enE bor ds n) = .ok .nx ρ) (hf : f ρ = .ok (T ys) ρ2) (hf2 : f ρ2 = .ok (T ys) ρ2) (hB : F_are_numbers [T ys] = .ok (.bl (bB ys)) []) (hV : bB ys = true → Valid ys) (hl : ds.length = bor.length) (hb : bosD bor ρ2 = some []) :
    ∀ m, m = fSeq pre (fSeq (fIfS (fNotB (fTr (fFn [none] F_are_numbers (fCons f fNil)))) (fRaise "InvalidOperation") fSkip) (fRet (fMk "Order" [none] F_Order___init__ (fCons f fNil)))) → bodyF bor n m ds = ordR ys := fun m hm => by
  subst hm
  have e1 : fNotB (fTr (fFn [none] F_are_numbers (fCons f fNil))) ρ = .ok (!bB ys) ρ2 := by
    unfold fNotB fTr
    rw [fn1 hf hB]; rfl
  unfold ordR
  cases hq : bB ys with
  | true =>
    rw [if_pos rfl]
    refine body_ret (ρ := ρ2) (sq hpre (sq (ρ1 := ρ2) ?_ (sqr (mk_O hf2 (hV hq))))) hl hb
    unfold fIfS
    rw [e1, hq]
    rfl
  | false =>
    rw [if_neg (by decide)]
    refine body_err (ρ := ρ2) ?_ hl hb
    unfold fSeq
    rw [hpre]
    simp only [Rs.bind]
    unfold fIfS
    rw [e1, hq]
    rfl
theorem exp1 {f : En → Rs D} {ρ ρ1 : En} {d : D} (h : f ρ = .ok d ρ1) : fExp f ρ = .ok .nx ρ1 := by
  unfold fExp
  rw [h]; rfl
theorem setL1 {f : En → Rs D} {i : Nat} {ρ ρ1 : En} {x : D} (a : f ρ = .ok x ρ1) (h : setOk ρ1 i = true) : fSetL i f ρ = .ok .nx (ρ1.set i (some (.ow x))) := by
  unfold fSetL
  rw [a]
  simp only [Rs.bind]
  rw [if_pos h]
theorem fSeq_assoc {a b c : En → Rs Fl} : fSeq a (fSeq b c) = fSeq (fSeq a b) c := by
  funext ρ
  unfold fSeq
  cases a ρ with
  | ok f ρ1 => cases f <;> rfl
  | err _ _ _ _ => rfl
  | stuck => rfl
theorem ixO_g {ρ ρ1 : En} {i : Nat} {l l0 : List D} {k : Nat} {d : D} {f : En → Rs D} (h0 : cont ρ i = some (.lst l0)) (hf : f ρ = .ok (.int (k : Nat)) ρ1) (h : cont ρ1 i = some (.lst l)) (hk : l[k]? = some d) : fIxO i f ρ = .ok d ρ1 := by
  have e : atI l (k : Int) = some d := atI_nat hk
  simp [fIxO, h0, hf, h, Rs.bind, e]
theorem c_starts (h : Valid xs) (hn : N28 xs.length) (hj : j + 1 < xs.length) : F_Order_starts_exchanged [O xs, .int ((j : Int) + 1)] = ordR (swL xs ((j : Int) + 1)) := by
  have h8 := h.len.2
  have e1 : fExp (fMeth "Order" "neighbours_checked" [none] F_Order_neighbours_checked (fVar 0) (fCons (fVar 1) fNil)) [some (.sh (O xs)), some (.sh (.int ((j : Int) + 1))), none] = .ok .nx [some (.sh (O xs)), some (.sh (.int ((j : Int) + 1))), none] := exp1 (meth1 (by decide) (xs := xs) rfl (b := .int ((j : Int) + 1)) rfl (c_neigh (by omega) h8))
  have e2 : fSetL 2 (fCall gList (fCons (fFld "Order" "own_numbers" (fVar 0)) fNil)) [some (.sh (O xs)), some (.sh (.int ((j : Int) + 1))), none] = .ok .nx [some (.sh (O xs)), some (.sh (.int ((j : Int) + 1))), some (.ow (.lst (xs.map .int)))] := setL1 (cl1 fld_O1 (show gList [T xs] = some (.lst (xs.map .int)) from rfl)) rfl
  have g0 : (xs.map D.int)[j]? = some (.int (xs.getD j 0)) := by rw [List.getElem?_map, getD_at (by omega)]; rfl
  have g1 : (xs.map D.int)[j + 1]? = some (.int (xs.getD (j + 1) 0)) := by rw [List.getElem?_map, getD_at hj]; rfl
  have m1 : fBin opSub (fVar 1) (fC (.int 1)) [some (.sh (O xs)), some (.sh (.int ((j : Int) + 1))), some (.ow (.lst (xs.map .int)))] = .ok (.int (j : Nat)) [some (.sh (O xs)), some (.sh (.int ((j : Int) + 1))), some (.ow (.lst (xs.map .int)))] := bin1 rfl rfl (by simp only [opSub]; rw [show (j : Int) + 1 - 1 = j by omega])
  have m2 : fBin opAdd (fVar 1) (fC (.int 1)) [some (.sh (O xs)), some (.sh (.int ((j : Int) + 1))), some (.ow (.lst (xs.map .int)))] = .ok (.int ((j + 2 : Nat) : Int)) [some (.sh (O xs)), some (.sh (.int ((j : Int) + 1))), some (.ow (.lst (xs.map .int)))] := bin1 rfl rfl (by simp only [opAdd]; rw [show (j : Int) + 1 + 1 = ((j + 2 : Nat) : Int) by omega])
  have e3 : fSpl 2 (fLst (fCons (fIxO 2 (fVar 1)) (fCons (fIxO 2 (fBin opSub (fVar 1) (fC (.int 1)))) fNil))) (fPart (fBin opSub (fVar 1) (fC (.int 1)))) (fPart (fBin opAdd (fVar 1) (fC (.int 1)))) [some (.sh (O xs)), some (.sh (.int ((j : Int) + 1))), some (.ow (.lst (xs.map .int)))] =
      .ok .nx [some (.sh (O xs)), some (.sh (.int ((j : Int) + 1))), some (.ow (.lst ((swL xs ((j : Int) + 1)).map .int)))] := by
    have eL : fLst (fCons (fIxO 2 (fVar 1)) (fCons (fIxO 2 (fBin opSub (fVar 1) (fC (.int 1)))) fNil)) [some (.sh (O xs)), some (.sh (.int ((j : Int) + 1))), some (.ow (.lst (xs.map .int)))] = .ok (.lst [.int (xs.getD (j + 1) 0), .int (xs.getD j 0)]) [some (.sh (O xs)), some (.sh (.int ((j : Int) + 1))), some (.ow (.lst (xs.map .int)))] := lst2 (ixO_g (k := j + 1) rfl rfl rfl g1) (ixO_g (k := j) rfl m1 rfl g0)
    unfold fSpl
    rw [eL]
    simp only [Rs.bind]
    rw [show owned [some (.sh (O xs)), some (.sh (.int ((j : Int) + 1))), some (.ow (.lst (xs.map .int)))] 2 = some (.lst (xs.map .int)) from rfl]
    simp only [fPart]
    rw [m1]
    simp only [Rs.bind]
    rw [m2]
    simp only [Rs.bind]
    unfold splR
    rw [show owned [some (.sh (O xs)), some (.sh (.int ((j : Int) + 1))), some (.ow (.lst (xs.map .int)))] 2 = some (.lst (xs.map .int)) from rfl]
    dsimp only
    have := sz (n := 100) (by decide)
    rw [if_pos (by simp only [List.length_map, List.length_cons, List.length_nil]; omega), Int.toNat_natCast, Int.toNat_natCast, ← swL_spl hn hj]
    unfold spl
    simp [putSl, List.map_take, List.map_drop]
  have tp : ∀ r : Sl, (r = .ow (.lst ((swL xs ((j : Int) + 1)).map .int)) ∨ r = .sh (.lst ((swL xs ((j : Int) + 1)).map .int))) → fCall gTuple (fCons (fVar 2) fNil) [some (.sh (O xs)), some (.sh (.int ((j : Int) + 1))), some r] = .ok (T (swL xs ((j : Int) + 1))) [some (.sh (O xs)), some (.sh (.int ((j : Int) + 1))), some (.sh (.lst ((swL xs ((j : Int) + 1)).map .int)))] := fun r hr => by
    rcases hr with rfl | rfl <;> exact cl1 (d := .lst ((swL xs ((j : Int) + 1)).map .int)) rfl rfl
  refine fin_ord (bor := [false, false]) (n := 3) (ds := [O xs, .int ((j : Int) + 1)]) (ys := swL xs ((j : Int) + 1)) (ρ := [some (.sh (O xs)), some (.sh (.int ((j : Int) + 1))), some (.ow (.lst ((swL xs ((j : Int) + 1)).map .int)))]) (ρ2 := [some (.sh (O xs)), some (.sh (.int ((j : Int) + 1))), some (.sh (.lst ((swL xs ((j : Int) + 1)).map .int)))]) (pre := fSeq (fSeq _ _) _) (f := fCall gTuple (fCons (fVar 2) fNil)) (sq (sq e1 e2) e3) (tp _ (.inl rfl)) (tp _ (.inr rfl)) (are_sw h hn hj) (fun q => (sw_valid h hn).mp q) rfl rfl _ ?_
  unfold m_Order_starts_exchanged
  rw [fSeq_assoc, fSeq_assoc]
theorem mrg2 {i : Int} {x y : D} : mrgD [(.inl i, x), (.inl (i + 1), y)] [] [] = ([.inl i, .inl (i + 1)], [x, y]) := by
  have : (Sum.inl i : Key) ≠ .inl (i + 1) := fun e => by injection e with e; omega
  simp [mrgD, pKs, pXs, hasK, this]
theorem c_endsx (h : Valid xs) (hn : N28 xs.length) {i : Int} (hi : 1 ≤ i ∧ i < xs.length) : F_Order_ends_exchanged [O xs, .int i] = ordR (echL xs i) := by
  have h8 := h.len.2
  have h0 : (0 : Int) < xs.length := by omega
  have e1 : fExp (fMeth "Order" "neighbours_checked" [none] F_Order_neighbours_checked (fVar 0) (fCons (fVar 1) fNil)) [some (.sh (O xs)), some (.sh (.int i)), none, none, none, none] = .ok .nx [some (.sh (O xs)), some (.sh (.int i)), none, none, none, none] := exp1 (meth1 (by decide) (xs := xs) rfl (b := .int i) rfl (c_neigh hi h8))
  have e2 : fSet 2 (fCall gLen (fCons (fFld "Order" "own_numbers" (fVar 0)) fNil)) [some (.sh (O xs)), some (.sh (.int i)), none, none, none, none] = .ok .nx [some (.sh (O xs)), some (.sh (.int i)), some (.sh (.int xs.length)), none, none, none] := set1 (cl1 fld_O1 len_T) rfl
  have e3 : fSet 3 (fDisp [((fVar 1), (fC (.int 1))), ((fBin opAdd (fVar 1) (fC (.int 1))), (fUn opNeg (fC (.int 1))))]) [some (.sh (O xs)), some (.sh (.int i)), some (.sh (.int xs.length)), none, none, none] = .ok .nx [some (.sh (O xs)), some (.sh (.int i)), some (.sh (.int xs.length)), some (.sh (.dic [.inl i, .inl (i + 1)] [.int 1, .int (-1)])), none, none] := by
    refine set1 (ρ1 := [some (.sh (O xs)), some (.sh (.int i)), some (.sh (.int xs.length)), none, none, none]) (x := .dic [.inl i, .inl (i + 1)] [.int 1, .int (-1)]) ?_ rfl
    simp [fDisp, fPrs, fVar, fC, fBin, opAdd, fUn, opNeg, Rs.bind, asK2, keyOf, mrg2]
  have e4 : fSet 4 (fCall gTuple (fCons (fLc [5] (iSeq (fFld "Order" "own_numbers" (fVar 0))) (gN 5) fYes (fBin opAdd (fVar 5) (fGet2 (fVar 3) (fFn [none, none] F_rest_of (fCons (fVar 2) (fCons (fVar 5) fNil))) (fC (.int 0))))) fNil)) [some (.sh (O xs)), some (.sh (.int i)), some (.sh (.int xs.length)), some (.sh (.dic [.inl i, .inl (i + 1)] [.int 1, .int (-1)])), none, none] =
      .ok .nx [some (.sh (O xs)), some (.sh (.int i)), some (.sh (.int xs.length)), some (.sh (.dic [.inl i, .inl (i + 1)] [.int 1, .int (-1)])), some (.sh (T (echL xs i))), none] := by
    refine set1 (ρ1 := [some (.sh (O xs)), some (.sh (.int i)), some (.sh (.int xs.length)), some (.sh (.dic [.inl i, .inl (i + 1)] [.int 1, .int (-1)])), none, none]) (x := T (echL xs i)) ?_ rfl
    have q := fLc_map (vs := [5]) (g := gN 5) (ft := fYes) (fi := iSeq (fFld "Order" "own_numbers" (fVar 0))) (fe := fBin opAdd (fVar 5) (fGet2 (fVar 3) (fFn [none, none] F_rest_of (fCons (fVar 2) (fCons (fVar 5) fNil))) (fC (.int 0)))) (c := D.int) (h := fun x => .int (sw xs.length i x)) (l := xs) (ρ := [some (.sh (O xs)), some (.sh (.int i)), some (.sh (.int xs.length)), some (.sh (.dic [.inl i, .inl (i + 1)] [.int 1, .int (-1)])), none, none]) (ρ1 := [some (.sh (O xs)), some (.sh (.int i)), some (.sh (.int xs.length)), some (.sh (.dic [.inl i, .inl (i + 1)] [.int 1, .int (-1)])), none, none]) (ρ0 := [some (.sh (O xs)), some (.sh (.int i)), some (.sh (.int xs.length)), some (.sh (.dic [.inl i, .inl (i + 1)] [.int 1, .int (-1)])), none, none]) (by simp [iSeq, fld_O1, Rs.bind, T]) rfl rfl (by omega) (fun x hx => by
      refine step_s [some (.sh (O xs)), some (.sh (.int i)), some (.sh (.int xs.length)), some (.sh (.dic [.inl i, .inl (i + 1)] [.int 1, .int (-1)])), none, some (.sh (.int x))] rfl rfl (fun _ => ?_) rfl rfl
      have er := fn2 (F := F_rest_of) (f := fVar 2) (g := fVar 5) (ρ := [some (.sh (O xs)), some (.sh (.int i)), some (.sh (.int xs.length)), some (.sh (.dic [.inl i, .inl (i + 1)] [.int 1, .int (-1)])), none, some (.sh (.int x))]) (d := .int xs.length) (e := .int x) rfl rfl (c_rest h0)
      have ri : ∀ k : Int, 1 ≤ k → k ≤ xs.length → ((x - 1) % (xs.length : Int) + 1 = k ↔ (x - k) % (xs.length : Int) = 0) := fun k k1 k2 => by
        rw [← rest_eq]
        have : rest xs.length k = k := by
          unfold rest
          rw [Int.emod_eq_of_lt (by omega) (by omega)]; omega
        rw [this]; rfl
      have r1 := ri i hi.1 (by omega)
      have r2 := ri (i + 1) (by omega) (by omega)
      generalize (x - 1) % (xs.length : Int) + 1 = r at er r1 r2
      have eg : ∀ z : Int, (dVal [.inl i, .inl (i + 1)] [.int 1, .int (-1)] (.inl r)).getD (.int 0) = D.int z → fGet2 (fVar 3) (fFn [none, none] F_rest_of (fCons (fVar 2) (fCons (fVar 5) fNil))) (fC (.int 0)) [some (.sh (O xs)), some (.sh (.int i)), some (.sh (.int xs.length)), some (.sh (.dic [.inl i, .inl (i + 1)] [.int 1, .int (-1)])), none, some (.sh (.int x))] = .ok (.int z) [some (.sh (O xs)), some (.sh (.int i)), some (.sh (.int xs.length)), some (.sh (.dic [.inl i, .inl (i + 1)] [.int 1, .int (-1)])), none, some (.sh (.int x))] := fun z hz => by
        unfold fGet2
        rw [show fVar 3 [some (.sh (O xs)), some (.sh (.int i)), some (.sh (.int xs.length)), some (.sh (.dic [.inl i, .inl (i + 1)] [.int 1, .int (-1)])), none, some (.sh (.int x))] = .ok (.dic [.inl i, .inl (i + 1)] [.int 1, .int (-1)]) _ from rfl]
        simp only [Rs.bind]
        rw [er]
        simp only [fC, keyOf]
        rw [hz]
      have inl_iff : ∀ a b : Int, ((Sum.inl a : Key) = .inl b) ↔ a = b := fun a b => ⟨fun e => by injection e, fun e => by rw [e]⟩
      unfold sw
      by_cases q1 : (x - i) % (xs.length : Int) = 0
      · have := r1.mpr q1
        rw [if_pos q1]
        exact bin1 (a := .int x) (b := .int 1) rfl (eg 1 (by simp [dVal, inl_iff, this])) rfl
      · have n1 : ¬ i = r := fun e => q1 (r1.mp e.symm)
        rw [if_neg q1]
        by_cases q2 : (x - i - 1) % (xs.length : Int) = 0
        · have := r2.mpr (by rw [show x - (i + 1) = x - i - 1 by omega]; exact q2)
          rw [if_pos q2]
          exact bin1 (a := .int x) (b := .int (-1)) (r := .int (x - 1)) rfl (eg (-1) (by simp [dVal, inl_iff, this, (show ¬ i = i + 1 by omega)])) rfl
        · have n2 : ¬ i + 1 = r := fun e => q2 (by have := r2.mp e.symm; rwa [show x - (i + 1) = x - i - 1 by omega] at this)
          rw [if_neg q2]
          exact bin1 (a := .int x) (b := .int 0) (r := .int x) rfl (eg 0 (by simp [dVal, inl_iff, n1, n2])) (by simp [opAdd]))
    rw [show (xs.map fun x => D.int (sw xs.length i x)) = (echL xs i).map .int by simp [echL, List.map_map, Function.comp_def]] at q
    exact cl1 q rfl
  refine fin_ord (bor := [false, false]) (n := 6) (ds := [O xs, .int i]) (ys := echL xs i) (ρ := [some (.sh (O xs)), some (.sh (.int i)), some (.sh (.int xs.length)), some (.sh (.dic [.inl i, .inl (i + 1)] [.int 1, .int (-1)])), some (.sh (T (echL xs i))), none]) (ρ2 := [some (.sh (O xs)), some (.sh (.int i)), some (.sh (.int xs.length)), some (.sh (.dic [.inl i, .inl (i + 1)] [.int 1, .int (-1)])), some (.sh (T (echL xs i))), none]) (pre := fSeq (fSeq (fSeq _ _) _) _) (f := fVar 4) (sq (sq (sq e1 e2) e3) e4) rfl rfl (are_ech h hn) (fun q => (ech_valid h hn).mp q) rfl rfl _ ?_
  unfold m_Order_ends_exchanged
  rw [fSeq_assoc, fSeq_assoc, fSeq_assoc]
end
end Dl
end
section
set_option maxHeartbeats 4000000
namespace Dl
open PySem PySem.Spec PyProof.Rows L2
section
variable {xs ys : List Int} {j : Nat} {ρ : En}
def toldD (ys : List Int) : D := if bB ys = true then T ys else .non
abbrev tell1 (fb : En → Rs D) : En → Rs D := fLamR 1 [.no sub_InvalidOperation (fRet (fC .non))] (kProp "Order" F_Order_numbers) fb
theorem meth_ord {F : List D → Fr} {f g : En → Rs D} {m : Str} {b : D} (hm : m ≠ "own_numbers") (h : f ρ = .ok (O xs) ρ) (hg : g ρ = .ok b ρ) (hF : F [O xs, b] = ordR ys) : fMeth "Order" m [none] F f (fCons g fNil) ρ = if bB ys = true then .ok (O ys) ρ else .err "InvalidOperation" [] [] ρ := by
  have e := isI_O (xs := xs) hm
  unfold ordR at hF
  by_cases q : bB ys = true
  · rw [if_pos q] at hF ⊢
    simp [fMeth, h, Rs.bind, e, fFn, fCons, fNil, hg, mixD, hF, putB]
  · rw [if_neg q] at hF ⊢
    simp [fMeth, h, Rs.bind, e, fFn, fCons, fNil, hg, mixD, hF, putB]
theorem told1 {fb : En → Rs D} (h : fb ρ = if bB ys = true then .ok (O ys) ρ else .err "InvalidOperation" [] [] ρ) : tell1 fb ρ = .ok (toldD ys) ρ := by
  unfold tell1 fLamR toldD
  rw [h]
  by_cases q : bB ys = true
  · rw [if_pos q, if_pos q]
    have e := isI_O (xs := ys) (m := Str.empty) (by decide)
    simp [kProp, e, c_numbers]
  · rw [if_neg q, if_neg q]
    have e : sub_InvalidOperation "InvalidOperation" = some true := by unfold sub_InvalidOperation; rw [if_pos rfl]
    dsimp only
    unfold runH
    rw [e]
    rfl
theorem ne_told : u_opNe (toldD ys) (toldD ys) = some (.bl false) := by
  unfold toldD
  split
  · exact ne_py (T_py ys) T_shaped
  · exact ne_py (x := .none) rfl (by simp [SeqAt.shaped, PyData.canLay0, PyData.depth])
theorem c_Oknots (h1 : 1 ≤ xs.length) (h2 : xs.length ≤ 8) : F_Order_knots [O xs] = .ok (.int (knotsL xs).length) [] :=
  ret1 (bor := [false]) (n := 1) (ds := [O xs]) rfl (cl1 (fn1 (fld_O1 (xs := xs) (r := [])) (c_knots h1 h2)) (by simp [gLen] : gLen [.lst ((knotsL xs).map pD)] = some (.int (knotsL xs).length))) rfl
theorem par1 {i k : Nat} {f g : En → Rs D} {ρ ρ1 ρ2 : En} {x y : D} (h1 : f ρ = .ok x ρ1) (h2 : g ρ1 = .ok y ρ2) (a : setOk ρ2 i = true) (b : setOk ρ2 k = true) : fPar i k f g ρ = .ok .nx ((ρ2.set i (some (.sh x))).set k (some (.sh y))) := by
  unfold fPar
  rw [h1]
  simp only [Rs.bind]
  rw [h2]
  simp only [Rs.bind]
  rw [a, b]
  rfl
theorem if_yes {c : En → Rs Bool} {a b : En → Rs Fl} (h : c ρ = .ok true ρ) : fIfS c a b ρ = a ρ := by
  simp [fIfS, h, Rs.bind]
theorem if_not {c : En → Rs Bool} {a b : En → Rs Fl} (h : c ρ = .ok false ρ) : fIfS c a b ρ = b ρ := by
  simp [fIfS, h, Rs.bind]
theorem tr_bl {f : En → Rs D} {b : Bool} (h : f ρ = .ok (.bl b) ρ) : fTr f ρ = .ok b ρ := by
  unfold fTr
  rw [h]; rfl
theorem isn_yes (h : fVar 6 ρ = .ok (T ys) ρ) : fTr (fBin opIsNot (fVar 6) (fC .non)) ρ = .ok true ρ := tr_bl (bin1 h (b := .non) rfl rfl)
theorem isn_no (h : fVar 6 ρ = .ok .non ρ) : fTr (fBin opIsNot (fVar 6) (fC .non)) ρ = .ok false ρ := tr_bl (bin1 h (b := .non) rfl rfl)
/-- numbers if they are an order, else None -/
theorem if_told {f g : En → Rs D} (hf : f ρ = .ok (T ys) ρ) (hg : g ρ = .ok (.bl (bB ys)) ρ) : fIf (fTr g) f (fC .non) ρ = .ok (toldD ys) ρ := by
  unfold fIf toldD
  rw [tr_bl hg]
  simp only [Rs.bind]
  split
  · exact hf
  · rfl
theorem step_if {c : Bool} {g : En → Rs Bool} {k z : Int} {f : En → Rs D} (hf : f ρ = .ok (.int k) ρ) (hg : g ρ = .ok c ρ) (e : z = k + if c = true then -1 else 1) : fBin opAdd f (fIf g (fUn opNeg (fC (.int 1))) (fC (.int 1))) ρ = .ok (.int z) ρ := by
  subst e
  refine bin1 hf (b := .int (if c = true then -1 else 1)) (r := .int (k + if c = true then -1 else 1)) ?_ rfl
  unfold fIf
  rw [hg]
  cases c <;> rfl
theorem ne_nat {a b : Int} (e : a = b) : u_opNe (.int a) (.int b) = some (.bl false) := by rw [e]; exact py_int
theorem ne_no2 {f g : En → Rs D} {d e : D} (hf : f ρ = .ok d ρ) (hg : g ρ = .ok e ρ) (h : u_opNe d e = some (.bl false)) : fTr (fBin u_opNe f g) ρ = .ok false ρ := by
  unfold fTr
  rw [bin1 hf hg h]
  rfl
theorem bB_swL2 (h : Valid xs) (hn : N28 xs.length) {i : Int} : bB (swL (swL xs i) i) = true := by
  rw [sw_twice hn]
  exact (bB_valid h.len h.nd).mpr h
theorem bB_ech2 (h : Valid xs) (hn : N28 xs.length) {i : Int} : bB (echL (echL xs i) i) = true := by
  rw [ech_twice hn]
  exact (bB_valid h.len h.nd).mpr h
theorem tup2 {f g : En → Rs D} {x y : D} (a : f ρ = .ok x ρ) (b : g ρ = .ok y ρ) : fTup (fCons f (fCons g fNil)) ρ = .ok (.tup [x, y]) ρ := by
  simp [fTup, fCons, fNil, a, b, Rs.bind, sz2]
/-- the slots -/
abbrev Er (xs : List Int) (i : Int) (t s7 s8 s9 : Option Sl) : En := [some (.sh (T xs)), some (.sh (.int i)), some (.sh (O xs)), some (.sh (.int (knotsL xs).length)), some (.sh (T (swL xs i))), some (.sh (T (echL xs i))), t, s7, s8, s9]
/-- the first half -/
theorem half1 (h : Valid xs) (hn : N28 xs.length) (hj : j + 1 < xs.length) : ∃ s7, (s7 = none ∨ ∃ z, s7 = some (Sl.sh z)) ∧ fIfS (fTr (fBin opIsNot (fVar 6) (fC .non))) (fSeq (fSet 7 (fMk "Order" [none] F_Order___init__ (fCons (fVar 6) fNil)))
  (fSeq (fIfS (fOrB (fTr (fBin u_opNe (fProp "Order" F_Order_level (fVar 7)) (fProp "Order" F_Order_level (fVar 2)))) (fTr (fBin u_opNe (fProp "Order" F_Order_knots (fVar 7)) (fBin opAdd (fVar 3) (fIf (fTr (fBin opGt (fBin opIx (fVar 0) (fBin opSub (fVar 1) (fC (.int 1)))) (fBin opIx (fVar 0) (fVar 1)))) (fUn opNeg (fC (.int 1))) (fC (.int 1))))))) (fRet (fC (.bl false))) fSkip)
  (fIfS (fTr (fBin u_opNe (fMeth "Order" "starts_exchanged" [none] F_Order_starts_exchanged (fVar 7) (fCons (fVar 1) fNil)) (fVar 2))) (fRet (fC (.bl false))) fSkip))) fSkip (Er xs ((j : Int) + 1) (some (.sh (toldD (swL xs ((j : Int) + 1))))) none none none) = .ok .nx (Er xs ((j : Int) + 1) (some (.sh (toldD (swL xs ((j : Int) + 1))))) s7 none none) := by
  by_cases q : bB (swL xs ((j : Int) + 1)) = true
  · have hs := (sw_valid h hn).mp q
    have hl := hs.len
    refine ⟨some (.sh (O (swL xs ((j : Int) + 1)))), .inr ⟨_, rfl⟩, ?_⟩
    rw [show toldD (swL xs ((j : Int) + 1)) = T (swL xs ((j : Int) + 1)) by unfold toldD; rw [if_pos q]]
    refine (if_yes (isn_yes (ys := swL xs ((j : Int) + 1)) rfl)).trans ?_
    refine sq (set1 (mk_O (ys := swL xs ((j : Int) + 1)) rfl hs) rfl) ?_
    refine sq (ρ1 := Er xs ((j : Int) + 1) (some (.sh (T (swL xs ((j : Int) + 1))))) (some (.sh (O (swL xs ((j : Int) + 1))))) none none) (if_no (or_no ?_ ?_)) (if_no ?_)
    · refine ne_no2 (prop1 (xs := swL xs ((j : Int) + 1)) rfl (c_level hl.2)) (prop1 (xs := xs) rfl (c_level h.len.2)) (ne_nat ?_)
      rw [level_swL h hn (by omega) hs]
    · have k := knots_swL h hn (i := (j : Int) + 1) (by omega) hs
      have v1 : Vx xs ((j : Int) + 1 + 1) = xs.getD (j + 1) 0 := by have := Vx_one (xs := xs) hj; rw [← this]; congr 1
      rw [v1, Vx_one (show j < xs.length by omega)] at k
      have i0 : opIx (T xs) (.int (j : Nat)) = some (.int (xs.getD j 0)) := ix_T rfl (by omega)
      have i1 : opIx (T xs) (.int ((j : Int) + 1)) = some (.int (xs.getD (j + 1) 0)) := ix_T (j := j + 1) (by omega) hj
      refine ne_no2 (prop1 (xs := swL xs ((j : Int) + 1)) rfl (c_Oknots hl.1 hl.2)) (step_if (k := (knotsL xs).length) (c := decide (xs.getD (j + 1) 0 < xs.getD j 0)) (z := (knotsL (swL xs ((j : Int) + 1))).length) rfl (tr_bl (bin1 (bin1 (a := T xs) (b := .int (j : Nat)) rfl (bin1 (a := .int ((j : Int) + 1)) (b := .int 1) (r := .int (j : Nat)) rfl rfl ?_) i0) (bin1 (a := T xs) (b := .int ((j : Int) + 1)) rfl rfl i1) rfl)) ?_) py_int
      · simp only [opSub]; rw [show (j : Int) + 1 - 1 = j by omega]
      · rw [k]
        simp only [decide_eq_true_eq]
    · have e := meth_ord (ρ := Er xs ((j : Int) + 1) (some (.sh (T (swL xs ((j : Int) + 1))))) (some (.sh (O (swL xs ((j : Int) + 1))))) none none) (f := fVar 7) (g := fVar 1) (m := "starts_exchanged") (by decide) (xs := swL xs ((j : Int) + 1)) rfl rfl (c_starts hs (by rw [swL_len]; exact hn) (by rw [swL_len]; exact hj))
      rw [if_pos (bB_swL2 h hn), sw_twice hn] at e
      exact ne_no2 e rfl ne_O
  · refine ⟨none, .inl rfl, ?_⟩
    rw [show toldD (swL xs ((j : Int) + 1)) = .non by unfold toldD; rw [if_neg q]]
    refine (if_not (isn_no rfl)).trans ?_
    rfl
/-- the second half -/
theorem half2 {s7 : Option Sl} (h : Valid xs) (hn : N28 xs.length) (hj : j + 1 < xs.length) : ∃ s8 s9, fSeq (fIfS (fTr (fBin opIsNot (fVar 6) (fC .non))) (fSeq (fPar 8 9 (fFn [none, none] F__law_standing (fCons (fVar 0) (fCons (fVar 1) fNil))) (fFn [none, none] F__law_standing (fCons (fVar 0) (fCons (fBin opAdd (fVar 1) (fC (.int 1))) fNil))))
  (fSeq (fIfS (fOrB (fTr (fBin u_opNe (fProp "Order" F_Order_knots (fMk "Order" [none] F_Order___init__ (fCons (fVar 6) fNil))) (fBin opAdd (fVar 3) (fIf (fTr (fBin opLt (fVar 9) (fVar 8))) (fUn opNeg (fC (.int 1))) (fC (.int 1)))))) (fTr (fBin u_opNe (fMeth "Order" "ends_exchanged" [none] F_Order_ends_exchanged (fMk "Order" [none] F_Order___init__ (fCons (fVar 6) fNil)) (fCons (fVar 1) fNil)) (fVar 2)))) (fRet (fC (.bl false))) fSkip)
  (fRet (fBin u_opEq (fMeth "Order" "starts_exchanged" [none] F_Order_starts_exchanged (fProp "Order" F_Order_dual (fVar 2)) (fCons (fVar 1) fNil)) (fProp "Order" F_Order_dual (fMk "Order" [none] F_Order___init__ (fCons (fVar 6) fNil))))))) fSkip)
  (fRet (fBin opIs (tell1 (fMeth "Order" "starts_exchanged" [none] F_Order_starts_exchanged (fProp "Order" F_Order_dual (fVar 2)) (fCons (fVar 1) fNil))) (fC .non))) (Er xs ((j : Int) + 1) (some (.sh (toldD (echL xs ((j : Int) + 1))))) s7 none none) = .ok (.ret (.bl true)) (Er xs ((j : Int) + 1) (some (.sh (toldD (echL xs ((j : Int) + 1))))) s7 s8 s9) := by
  have hdn : N28 (dualL xs).length := by rw [dualL_len]; exact hn
  have hdj : j + 1 < (dualL xs).length := by rw [dualL_len]; exact hj
  have cs := c_starts (valid_dualL h) hdn hdj
  have vi := ech_iff (i := (j : Int) + 1) h hn
  have b1 := ech_valid (i := (j : Int) + 1) h hn
  have b2 := sw_valid (i := (j : Int) + 1) (valid_dualL h) hdn
  by_cases q : bB (echL xs ((j : Int) + 1)) = true
  · have he := b1.mp q
    have hl := he.len
    refine ⟨some (.sh (.int (inv xs ((j : Int) + 1)))), some (.sh (.int (inv xs ((j : Int) + 1 + 1)))), ?_⟩
    rw [show toldD (echL xs ((j : Int) + 1)) = T (echL xs ((j : Int) + 1)) by unfold toldD; rw [if_pos q]]
    generalize hρ : Er xs ((j : Int) + 1) (some (.sh (T (echL xs ((j : Int) + 1))))) s7 (some (.sh (.int (inv xs ((j : Int) + 1))))) (some (.sh (.int (inv xs ((j : Int) + 1 + 1))))) = ρ
    have w6 : fVar 6 ρ = .ok (T (echL xs ((j : Int) + 1))) ρ := by subst hρ; rfl
    have w3 : fVar 3 ρ = .ok (.int (knotsL xs).length) ρ := by subst hρ; rfl
    have w2 : fVar 2 ρ = .ok (O xs) ρ := by subst hρ; rfl
    have w1 : fVar 1 ρ = .ok (.int ((j : Int) + 1)) ρ := by subst hρ; rfl
    have w8 : fVar 8 ρ = .ok (.int (inv xs ((j : Int) + 1))) ρ := by subst hρ; rfl
    have w9 : fVar 9 ρ = .ok (.int (inv xs ((j : Int) + 1 + 1))) ρ := by subst hρ; rfl
    have mo : fMk "Order" [none] F_Order___init__ (fCons (fVar 6) fNil) ρ = .ok (O (echL xs ((j : Int) + 1))) ρ := mk_O w6 he
    have t1 : fTr (fBin u_opNe (fProp "Order" F_Order_knots (fMk "Order" [none] F_Order___init__ (fCons (fVar 6) fNil))) (fBin opAdd (fVar 3) (fIf (fTr (fBin opLt (fVar 9) (fVar 8))) (fUn opNeg (fC (.int 1))) (fC (.int 1))))) ρ = .ok false ρ := by
      refine ne_no2 (prop1 mo (c_Oknots hl.1 hl.2)) (step_if (k := (knotsL xs).length) (c := decide (inv xs ((j : Int) + 1 + 1) < inv xs ((j : Int) + 1))) (z := (knotsL (echL xs ((j : Int) + 1))).length) w3 (tr_bl (bin1 w9 w8 rfl)) ?_) py_int
      rw [knots_echL h hn (by omega) he]
      simp only [decide_eq_true_eq]
    have t2 : fTr (fBin u_opNe (fMeth "Order" "ends_exchanged" [none] F_Order_ends_exchanged (fMk "Order" [none] F_Order___init__ (fCons (fVar 6) fNil)) (fCons (fVar 1) fNil)) (fVar 2)) ρ = .ok false ρ := by
      have e := meth_ord (m := "ends_exchanged") (by decide) mo w1 (c_endsx he (by rw [echL_len]; exact hn) (i := (j : Int) + 1) (by rw [echL_len]; omega))
      rw [if_pos (bB_ech2 h hn), ech_twice hn] at e
      exact ne_no2 e w2 ne_O
    have t3 : fBin u_opEq (fMeth "Order" "starts_exchanged" [none] F_Order_starts_exchanged (fProp "Order" F_Order_dual (fVar 2)) (fCons (fVar 1) fNil)) (fProp "Order" F_Order_dual (fMk "Order" [none] F_Order___init__ (fCons (fVar 6) fNil))) ρ = .ok (.bl true) ρ := by
      have e := meth_ord (m := "starts_exchanged") (by decide) (prop1 w2 (cD h)) w1 cs
      rw [if_pos (b2.mpr (vi.mp he)), ← ech_dual h hn he] at e
      exact bin1 e (prop1 mo (cD he)) eq_O
    have pr := par1 (i := 8) (k := 9) (ρ := Er xs ((j : Int) + 1) (some (.sh (T (echL xs ((j : Int) + 1))))) s7 none none) (fn2 (f := fVar 0) (g := fVar 1) (d := T xs) (e := .int ((j : Int) + 1)) rfl rfl (c_standing h.len.1 h.len.2 (h.full _))) (fn2 (f := fVar 0) (g := fBin opAdd (fVar 1) (fC (.int 1))) (d := T xs) (e := .int ((j : Int) + 1 + 1)) rfl rfl (c_standing h.len.1 h.len.2 (h.full _))) rfl rfl
    unfold fSeq
    rw [if_yes (isn_yes (ρ := Er xs ((j : Int) + 1) (some (.sh (T (echL xs ((j : Int) + 1))))) s7 none none) (ys := echL xs ((j : Int) + 1)) rfl)]
    rw [pr]
    simp only [Rs.bind]
    rw [show ((Er xs ((j : Int) + 1) (some (.sh (T (echL xs ((j : Int) + 1))))) s7 none none).set 8 (some (.sh (.int (inv xs ((j : Int) + 1)))))).set 9 (some (.sh (.int (inv xs ((j : Int) + 1 + 1))))) = ρ from hρ]
    rw [if_no (or_no t1 t2)]
    simp only [Rs.bind]
    rw [sqr t3]
  · refine ⟨none, none, ?_⟩
    have hs : ¬ bB (swL (dualL xs) ((j : Int) + 1)) = true := fun z => q (b1.mpr (vi.mpr (b2.mp z)))
    rw [show toldD (echL xs ((j : Int) + 1)) = .non by unfold toldD; rw [if_neg q]]
    refine sq (ρ1 := Er xs ((j : Int) + 1) (some (.sh .non)) s7 none none) ?_ (sqr (bin1 (told1 (ys := swL (dualL xs) ((j : Int) + 1)) (meth_ord (m := "starts_exchanged") (by decide) (prop1 (xs := xs) rfl (cD h)) rfl cs)) rfl ?_))
    · refine (if_not (isn_no rfl)).trans ?_
      rfl
    · unfold toldD
      rw [if_neg hs]
      rfl
theorem c_index_right (h : Valid xs) (hn : N28 xs.length) (hj : j + 1 < xs.length) : F__law_index_right [T xs, .int ((j : Int) + 1)] = .ok (.bl true) [] := by
  obtain ⟨s7, h7, e7⟩ := half1 h hn hj
  obtain ⟨s8, s9, e8⟩ := half2 (s7 := s7) h hn hj
  have e1 : fAsg (fTup (fCons (fMk "Order" [none] F_Order___init__ (fCons (fVar 0) fNil)) (fCons (fCall gLen (fCons (fFn [none] F__law_knots (fCons (fVar 0) fNil)) fNil)) fNil))) (gT (gsCons (gN 2) (gsCons (gN 3) gsNil)) 2) [some (.sh (T xs)), some (.sh (.int ((j : Int) + 1))), none, none, none, none, none, none, none, none] =
      .ok .nx [some (.sh (T xs)), some (.sh (.int ((j : Int) + 1))), some (.sh (O xs)), some (.sh (.int (knotsL xs).length)), none, none, none, none, none, none] := by
    have a := mk_O (ρ := [some (.sh (T xs)), some (.sh (.int ((j : Int) + 1))), none, none, none, none, none, none, none, none]) (f := fVar 0) (ys := xs) rfl h
    have b := cl1 (g := gLen) (r := .int (knotsL xs).length) (fn1 (ρ := [some (.sh (T xs)), some (.sh (.int ((j : Int) + 1))), none, none, none, none, none, none, none, none]) (f := fVar 0) (d := T xs) rfl (c_law_knots h.len.1 h.len.2)) (by simp [gLen])
    have c : fTup (fCons (fMk "Order" [none] F_Order___init__ (fCons (fVar 0) fNil)) (fCons (fCall gLen (fCons (fFn [none] F__law_knots (fCons (fVar 0) fNil)) fNil)) fNil)) [some (.sh (T xs)), some (.sh (.int ((j : Int) + 1))), none, none, none, none, none, none, none, none] = .ok (.tup [O xs, .int (knotsL xs).length]) [some (.sh (T xs)), some (.sh (.int ((j : Int) + 1))), none, none, none, none, none, none, none, none] := tup2 a b
    unfold fAsg
    rw [c]
    rfl
  have e2 := par1 (i := 4) (k := 5) (ρ := [some (.sh (T xs)), some (.sh (.int ((j : Int) + 1))), some (.sh (O xs)), some (.sh (.int (knotsL xs).length)), none, none, none, none, none, none]) (fn2 (f := fVar 0) (g := fVar 1) (d := T xs) (e := .int ((j : Int) + 1)) rfl rfl (c_swapped hn hj)) (fn2 (f := fVar 0) (g := fVar 1) (d := T xs) (e := .int ((j : Int) + 1)) rfl rfl (c_ends_changed hn)) rfl rfl
  have e3 : fSet 6 (tell1 (fMeth "Order" "starts_exchanged" [none] F_Order_starts_exchanged (fVar 2) (fCons (fVar 1) fNil))) (Er xs ((j : Int) + 1) none none none none) = .ok .nx (Er xs ((j : Int) + 1) (some (.sh (toldD (swL xs ((j : Int) + 1))))) none none none) :=
    set1 (ρ := Er xs ((j : Int) + 1) none none none none) (ρ1 := Er xs ((j : Int) + 1) none none none none) (x := toldD (swL xs ((j : Int) + 1))) (told1 (meth_ord (m := "starts_exchanged") (by decide) (xs := xs) rfl rfl (c_starts h hn hj))) rfl
  have e4 : fIfS (fTr (fBin u_opNe (fVar 6) (fIf (fTr (fFn [none] F__law_is_order (fCons (fVar 4) fNil))) (fVar 4) (fC .non)))) (fRet (fC (.bl false))) fSkip (Er xs ((j : Int) + 1) (some (.sh (toldD (swL xs ((j : Int) + 1))))) none none none) = .ok .nx (Er xs ((j : Int) + 1) (some (.sh (toldD (swL xs ((j : Int) + 1))))) none none none) :=
    if_no (ne_no2 (d := toldD (swL xs ((j : Int) + 1))) rfl (if_told rfl (fn1 (d := T (swL xs ((j : Int) + 1))) rfl (c_isord (by rw [swL_len]; exact h.len) (by rw [swL_len]; exact nd_swL h hn)))) ne_told)
  have e5 : fSet 6 (tell1 (fMeth "Order" "ends_exchanged" [none] F_Order_ends_exchanged (fVar 2) (fCons (fVar 1) fNil))) (Er xs ((j : Int) + 1) (some (.sh (toldD (swL xs ((j : Int) + 1))))) s7 none none) = .ok .nx (Er xs ((j : Int) + 1) (some (.sh (toldD (echL xs ((j : Int) + 1))))) s7 none none) :=
    set1 (ρ := Er xs ((j : Int) + 1) (some (.sh (toldD (swL xs ((j : Int) + 1))))) s7 none none) (ρ1 := Er xs ((j : Int) + 1) (some (.sh (toldD (swL xs ((j : Int) + 1))))) s7 none none) (x := toldD (echL xs ((j : Int) + 1))) (told1 (meth_ord (m := "ends_exchanged") (by decide) (xs := xs) rfl rfl (c_endsx h hn (by omega)))) rfl
  have e6 : fIfS (fTr (fBin u_opNe (fVar 6) (fIf (fTr (fFn [none] F__law_is_order (fCons (fVar 5) fNil))) (fVar 5) (fC .non)))) (fRet (fC (.bl false))) fSkip (Er xs ((j : Int) + 1) (some (.sh (toldD (echL xs ((j : Int) + 1))))) s7 none none) = .ok .nx (Er xs ((j : Int) + 1) (some (.sh (toldD (echL xs ((j : Int) + 1))))) s7 none none) :=
    if_no (ne_no2 (d := toldD (echL xs ((j : Int) + 1))) rfl (if_told rfl (fn1 (d := T (echL xs ((j : Int) + 1))) rfl (c_isord (by rw [echL_len]; exact h.len) (by rw [echL_len]; exact nd_echL h hn)))) ne_told)
  exact body_ret (ρ := Er xs ((j : Int) + 1) (some (.sh (toldD (echL xs ((j : Int) + 1))))) s7 s8 s9) (sq e1 (sq e2 (sq e3 (sq e4 (sq e7 (sq e5 (sq e6 e8)))))))
end
end Dl
end
section
set_option maxHeartbeats 4000000
namespace Dl
open PySem PySem.Spec PyProof.Rows L2
abbrev ckB : En → Rs Fl := fIfS (fTr (fBin opNe (fLc [5] (iRg2 (fC (.int 1)) (fCall gLen (fCons (fVar 4) fNil))) (gN 5) (fNotB (fTr (fFn [none, none] F__law_index_right (fCons (fVar 4) (fCons (fVar 5) fNil))))) (fVar 5)) (fLst fNil))) (fRet (fC (.bl false))) fSkip
theorem ck_step {xs : List Int} {S sp t : Option Sl} {d : D} (h : Valid xs) (hn : N28 xs.length) : ckB [S, sp, some (.ow d), t, some (.sh (T xs)), none, none, none] = .ok .nx [S, sp, some (.ow d), t, some (.sh (T xs)), none, none, none] := by
  have h8 := h.len
  refine if_no ?_
  have r := iRg2_ok (ρ := [S, sp, some (.ow d), t, some (.sh (T xs)), none, none, none]) (fa := fC (.int 1)) (fb := fCall gLen (fCons (fVar 4) fNil)) (i := 1) (j := xs.length) rfl (cl1 rfl len_T) (by omega)
  have e := fLc_filter (vs := [5]) (g := gN 5) (ft := fNotB (fTr (fFn [none, none] F__law_index_right (fCons (fVar 4) (fCons (fVar 5) fNil))))) (fe := fVar 5) (c := fun (k : Nat) => D.int (1 + (k : Nat))) (h := fun (k : Nat) => D.int (1 + (k : Nat))) (p := fun _ => false) r (ρ0 := [S, sp, some (.ow d), t, some (.sh (T xs)), none, none, none]) rfl rfl (by rw [List.length_range]; omega) (fun k hk => by
    have hk' := List.mem_range.mp hk
    refine step_s [S, sp, some (.ow d), t, some (.sh (T xs)), some (.sh (.int (1 + (k : Nat)))), none, none] rfl ?_ (fun z => by cases z) rfl rfl
    have q := c_index_right h hn (j := k) (by omega)
    rw [show ((k : Int) + 1) = 1 + (k : Nat) by omega] at q
    unfold fNotB fTr
    rw [fn2 (f := fVar 4) (g := fVar 5) (ρ := [S, sp, some (.ow d), t, some (.sh (T xs)), some (.sh (.int (1 + (k : Nat)))), none, none]) (d := T xs) (e := .int (1 + (k : Nat))) rfl rfl q]
    rfl)
  rw [show ((List.range ((xs.length : Int) - 1).toNat).filter fun _ => false) = [] from List.filter_eq_nil_iff.mpr (fun _ _ => by decide)] at e
  exact tr_bl (bin1 e (show fLst fNil _ = .ok (.lst []) _ by simp [fLst, fNil, Rs.bind]) (ne_nil []))
theorem in_step {a b c : Option Sl} {s4 : Option Sl} {d : D} {m : Nat} (hd : Dice m d) (hm : m ≤ 500) (h4 : s4 = none ∨ ∃ z, s4 = some (Sl.sh z)) : ∃ d' z, fSeq (fSet 4 (fFn [some 2, none] F__law_order (fLent 2 (fCons (fBin opAdd (fC (.int 2)) (fFn [some 2, none] F__law_roll (fLent 2 (fCons (fC (.int 7)) fNil)))) fNil)))) ckB [a, b, some (.ow d), c, s4, none, none, none] = .ok .nx [a, b, some (.ow d'), c, some (.sh z), none, none, none] ∧ Dice (m + 17) d' := by
  obtain ⟨r, d1, e1, r0', r1, hd1⟩ := c_roll hd (by omega) (t := 7) (by decide) (by decide)
  obtain ⟨ys, d2, e2, hv, hd2, hl⟩ := c_order (n := (2 + r).toNat) (by omega) (by omega) hd1 (by omega)
  rw [show (((2 + r).toNat : Nat) : Int) = 2 + r by omega] at e2
  refine ⟨d2, T ys, ?_, dice_mono hd2 (by omega)⟩
  have q1 : fBin opAdd (fC (.int 2)) (fFn [some 2, none] F__law_roll (fLent 2 (fCons (fC (.int 7)) fNil))) [a, b, some (.ow d), c, s4, none, none, none] = .ok (.int (2 + r)) [a, b, some (.ow d1), c, s4, none, none, none] := bin1 (a := .int 2) rfl (fnO2 rfl e1) rfl
  have q2 := fnO2 q1 e2
  exact sq (set1 q2 (by rcases h4 with rfl | ⟨z, rfl⟩ <;> rfl)) (ck_step hv (n28 (by omega) (by omega)))
def JnI (S sp : Option Sl) (k : Nat) (ρ : En) : Prop := ∃ d s3 s4, ρ = [S, sp, some (.ow d), s3, s4, none, none, none] ∧ Dice (17 * k) d ∧ (s3 = none ∨ ∃ z, s3 = some (Sl.sh z)) ∧ (s4 = none ∨ ∃ z, s4 = some (Sl.sh z))
abbrev turnB : En → Rs Fl := fSeq (fSet 4 (fFn [some 2, none] F__law_order (fLent 2 (fCons (fBin opAdd (fC (.int 2)) (fFn [some 2, none] F__law_roll (fLent 2 (fCons (fC (.int 7)) fNil)))) fNil)))) ckB
theorem in_loop {S sp s3 s4 : Option Sl} {d : D} (h3 : s3 = none ∨ ∃ z, s3 = some (Sl.sh z)) (h4 : s4 = none ∨ ∃ z, s4 = some (Sl.sh z)) (hd : Dice 0 d) : ∃ d' t3 t4, fFor (iRg1 (fC (.int 2))) (gN 3) turnB [S, sp, some (.ow d), s3, s4, none, none, none] = .ok .nx [S, sp, some (.ow d'), t3, t4, none, none, none] ∧ (t3 = none ∨ ∃ z, t3 = some (Sl.sh z)) ∧ (t4 = none ∨ ∃ z, t4 = some (Sl.sh z)) := by
  obtain ⟨ρ', e, d', t3, t4, rfl, _, ht, ht4⟩ := forD_inv (K := 2) (I := JnI S sp) (g := gN 3) (fb := turnB) ((List.range 2).map fun (k : Nat) => D.int (k : Nat)) 0 [S, sp, some (.ow d), s3, s4, none, none, none] (by
    intro e he k ρ hI hk
    obtain ⟨d0, s, s', rfl, hd0, hs, hs'⟩ := hI
    obtain ⟨d1, z, e1, hd1⟩ := in_step (a := S) (b := sp) (c := some (.sh e)) hd0 (by omega) hs'
    refine ⟨[S, sp, some (.ow d0), some (.sh e), s', none, none, none], _, by rcases hs with rfl | ⟨z, rfl⟩ <;> rfl, e1, d1, some (.sh e), some (.sh z), rfl, by rw [show 17 * (k + 1) = 17 * k + 17 by omega]; exact hd1, .inr ⟨e, rfl⟩, .inr ⟨z, rfl⟩⟩) (by simp) ⟨d, s3, s4, rfl, hd, h3, h4⟩
  refine ⟨d', t3, t4, ?_, ht, ht4⟩
  unfold fFor
  rw [iRg1_ok (fa := fC (.int 2)) (j := 2) rfl (by omega)]
  exact e
def QutI (S : D) (_ : Nat) (ρ : En) : Prop := ∃ s1 s2 s3 s4, ρ = [some (.sh S), s1, s2, s3, s4, none, none, none] ∧ (s1 = none ∨ ∃ z, s1 = some (Sl.sh z)) ∧ (s2 = none ∨ ∃ z, s2 = some (Sl.ow z)) ∧ (s3 = none ∨ ∃ z, s3 = some (Sl.sh z)) ∧ (s4 = none ∨ ∃ z, s4 = some (Sl.sh z))
theorem out_loop {ns : List Int} : ∃ s1 s2 s3 s4, fFor (iRg1 (fCall gMax (fCons (fC (.int 1)) (fCons (fCall gMin (fCons (fC (.int 3)) (fCons (fCall gLen (fCons (fVar 0) fNil)) fNil))) fNil)))) (gN 1) (fSeq (fSetL 2 (fFn [none, none] F__law_dice (fCons (fVar 0) (fCons (fVar 1) fNil)))) (fFor (iRg1 (fC (.int 2))) (gN 3) turnB)) [some (.sh (.frz (ns.map .int))), none, none, none, none, none, none, none] = .ok .nx [some (.sh (.frz (ns.map .int))), s1, s2, s3, s4, none, none, none] := by
  obtain ⟨t, ht, t1, t2⟩ : ∃ t : Nat, (if (if (ns.length : Int) < 3 then (ns.length : Int) else 3) > 1 then (if (ns.length : Int) < 3 then (ns.length : Int) else 3) else 1) = (t : Int) ∧ 1 ≤ t ∧ t ≤ 3 := by
    refine ⟨(if (if (ns.length : Int) < 3 then (ns.length : Int) else 3) > 1 then (if (ns.length : Int) < 3 then (ns.length : Int) else 3) else 1).toNat, ?_, ?_, ?_⟩ <;> split <;> split <;> omega
  have e0 : iRg1 (fCall gMax (fCons (fC (.int 1)) (fCons (fCall gMin (fCons (fC (.int 3)) (fCons (fCall gLen (fCons (fVar 0) fNil)) fNil))) fNil))) [some (.sh (.frz (ns.map .int))), none, none, none, none, none, none, none] = .ok ((List.range t).map fun (k : Nat) => D.int (k : Nat)) [some (.sh (.frz (ns.map .int))), none, none, none, none, none, none, none] := by
    have := iRg1_ok (cl2 (g := gMax) (f := fC (.int 1)) (ρ := [some (.sh (.frz (ns.map .int))), none, none, none, none, none, none, none]) (d := .int 1) rfl (cl2 (g := gMin) (f := fC (.int 3)) (d := .int 3) rfl (cl1 (f := fVar 0) (d := .frz (ns.map .int)) rfl (r := .int ns.length) (by simp [gLen] : gLen [.frz (ns.map D.int)] = some (.int ns.length))) rfl) (congrArg (fun z => some (D.int z)) ht)) (by omega)
    rw [this, Int.toNat_natCast]
  obtain ⟨ρ', e, s1, s2, s3, s4, rfl, _⟩ := forD_inv (K := 3) (I := QutI (.frz (ns.map .int))) (g := gN 1) (fb := fSeq (fSetL 2 (fFn [none, none] F__law_dice (fCons (fVar 0) (fCons (fVar 1) fNil)))) (fFor (iRg1 (fC (.int 2))) (gN 3) turnB)) ((List.range t).map fun (k : Nat) => D.int (k : Nat)) 0 [some (.sh (.frz (ns.map .int))), none, none, none, none, none, none, none] (by
    intro e he k ρ hI hk
    obtain ⟨s1, s2, s3, s4, rfl, h1, h2, h3, h4⟩ := hI
    obtain ⟨j, hj, rfl⟩ := List.mem_map.mp he
    have hj' := List.mem_range.mp hj
    obtain ⟨dd, ed, hdd⟩ := c_dice (ns := ns) (k := j) (by omega)
    obtain ⟨d', t3, t4, el, ht3, ht4⟩ := in_loop (S := some (.sh (.frz (ns.map .int)))) (sp := some (.sh (.int (j : Nat)))) (s3 := s3) (s4 := s4) h3 h4 hdd
    refine ⟨[some (.sh (.frz (ns.map .int))), some (.sh (.int (j : Nat))), s2, s3, s4, none, none, none], _, by rcases h1 with rfl | ⟨z, rfl⟩ <;> rfl, sq (ρ1 := [some (.sh (.frz (ns.map .int))), some (.sh (.int (j : Nat))), some (.ow dd), s3, s4, none, none, none]) ?_ el, _, _, _, _, rfl, .inr ⟨_, rfl⟩, .inr ⟨_, rfl⟩, ht3, ht4⟩
    unfold fSetL
    rw [fn2 (f := fVar 0) (g := fVar 1) (d := .frz (ns.map .int)) (e := .int (j : Nat)) rfl rfl ed]
    simp only [Rs.bind]
    rcases h2 with rfl | ⟨z, rfl⟩ <;> rfl) (by simp; omega) ⟨none, none, none, none, rfl, .inl rfl, .inl rfl, .inl rfl, .inl rfl⟩
  refine ⟨s1, s2, s3, s4, ?_⟩
  unfold fFor
  rw [e0]
  exact e
/-! ### the told pair -/
abbrev x0 : List Int := [4, 3, 6, 5]
theorem valid0 : Valid x0 := ⟨by decide, fun i x h => by rcases i with _ | _ | _ | _ | i <;> simp [x0] at h ⊢ <;> omega, by decide⟩
abbrev told0 : D := .lst [T [3, 4, 6, 5], T [4, 3, 5, 6], .int 2, .int 1]
theorem repr0 : ∃ z, reprD told0 = some z ∧ PyData.strOk z = true := (Option.any_eq_true_iff_get PyData.strOk (reprD told0)).mp (by decide +kernel) |>.elim fun h e => ⟨_, (Option.some_get h).symm, e⟩
theorem eq_str {z : Str} (ok : PyData.strOk z = true) : opEq (.str z) (.str z) = some (.bl true) := (eq_refl (d := .str z) (x := .str z) rfl (by simp [SeqAt.shaped, PyData.canLay0, PyData.depth, ok])).1
theorem repr1 {f : En → Rs D} {ρ : En} {d : D} {z : Str} (h : f ρ = .ok d ρ) (e : reprD d = some z) : fRepr f ρ = .ok (.str z) ρ := by
  simp [fRepr, fUn, h, Rs.bind, e]
theorem c_law (ns : List Int) : F_law [.frz (ns.map .int)] = .ok (.bl true) [] := by
  obtain ⟨s1, s2, s3, s4, e1⟩ := out_loop (ns := ns)
  obtain ⟨z, hz, hok⟩ := repr0
  have n4 : N28 ((x0.length : Nat) : Int) := n28 (by decide) (by decide)
  have cs : F_Order_starts_exchanged [O x0, .int 1] = ordR (swL x0 1) := c_starts (j := 0) valid0 n4 (by decide)
  have ce : F_Order_ends_exchanged [O x0, .int 1] = ordR (echL x0 1) := c_endsx (i := 1) valid0 n4 (by decide)
  have q1 : ∀ ρ : En, fVar 6 ρ = .ok (O x0) ρ → fMeth "Order" "starts_exchanged" [none] F_Order_starts_exchanged (fVar 6) (fCons (fC (.int 1)) fNil) ρ = .ok (O [3, 4, 6, 5]) ρ := fun ρ h => by
    have e := meth_ord (m := "starts_exchanged") (by decide) h (g := fC (.int 1)) rfl cs
    rw [show swL x0 1 = [3, 4, 6, 5] by decide, if_pos (by decide)] at e
    exact e
  have q2 : ∀ ρ : En, fVar 6 ρ = .ok (O x0) ρ → fMeth "Order" "ends_exchanged" [none] F_Order_ends_exchanged (fVar 6) (fCons (fC (.int 1)) fNil) ρ = .ok (O [4, 3, 5, 6]) ρ := fun ρ h => by
    have e := meth_ord (m := "ends_exchanged") (by decide) h (g := fC (.int 1)) rfl ce
    rw [show echL x0 1 = [4, 3, 5, 6] by decide, if_pos (by decide)] at e
    exact e
  have k1 : F_Order_knots [O x0] = .ok (.int 2) [] := by
    have := c_Oknots (xs := x0) (by decide) (by decide)
    rw [show (knotsL x0).length = 2 by decide] at this
    exact this
  have k2 : F_Order_knots [O [4, 3, 5, 6]] = .ok (.int 1) [] := by
    have := c_Oknots (xs := [4, 3, 5, 6]) (by decide) (by decide)
    rw [show (knotsL [4, 3, 5, 6]).length = 1 by decide] at this
    exact this
  generalize hρ : ([some (.sh (.frz (ns.map .int))), s1, s2, s3, s4, none, some (.sh (O x0)), none] : En) = ρ at *
  have w6 : fVar 6 ρ = .ok (O x0) ρ := by subst hρ; rfl
  have e7 := lst4 (prop1 (q1 ρ w6) c_numbers) (prop1 (q2 ρ w6) c_numbers) (prop1 w6 k1) (prop1 (q2 ρ w6) k2)
  refine body_ret (ρ := [some (.sh (.frz (ns.map .int))), s1, s2, s3, s4, none, some (.sh (O x0)), some (.sh told0)]) (sq e1 (sq (ρ1 := ρ) ?_ (sq (set1 e7 (by subst hρ; rfl)) ?_)))
  · have := set1 (i := 6) (mk_O (ρ := [some (.sh (.frz (ns.map .int))), s1, s2, s3, s4, none, none, none]) (ys := x0) (tup4 (f := fC (.int 4)) (g := fC (.int 3)) (h := fC (.int 6)) (k := fC (.int 5)) rfl rfl rfl rfl) valid0) rfl
    rw [this, ← hρ]
    rfl
  · subst hρ
    refine sqr (bin1 (repr1 (d := told0) rfl hz) (repr1 (d := told0) (lst4 (tup4 rfl rfl rfl rfl) (tup4 rfl rfl rfl rfl) rfl rfl) hz) (eq_str hok))
end Dl
end
namespace Dl
open PySem PySem.Spec PyProof.Rows L2
def d__law_dice : He5.DefA := ⟨fun K => (He.ga K "_law_dice"), "_law_dice", "_law_dice", defArgs s__law_dice, defBody s__law_dice, defScope s__law_dice, [], []⟩
def d__law_roll : He5.DefA := ⟨fun K => (He.ga K "_law_roll"), "_law_roll", "_law_roll", defArgs s__law_roll, defBody s__law_roll, defScope s__law_roll, [], []⟩
def d__law_mixed : He5.DefA := ⟨fun K => (He.ga K "_law_mixed"), "_law_mixed", "_law_mixed", defArgs s__law_mixed, defBody s__law_mixed, defScope s__law_mixed, [], []⟩
def d__law_order : He5.DefA := ⟨fun K => (He.ga K "_law_order"), "_law_order", "_law_order", defArgs s__law_order, defBody s__law_order, defScope s__law_order, [], []⟩
def d_is_whole : He5.DefA := ⟨fun K => (He.ga K "is_whole"), "is_whole", "is_whole", defArgs s_is_whole, defBody s_is_whole, defScope s_is_whole, [], []⟩
def d_is_integer : He5.DefA := ⟨fun K => (He.ga K "is_integer"), "is_integer", "is_integer", defArgs s_is_integer, defBody s_is_integer, defScope s_is_integer, [], []⟩
def d_rest_of : He5.DefA := ⟨fun K => (He.ga K "rest_of"), "rest_of", "rest_of", defArgs s_rest_of, defBody s_rest_of, defScope s_rest_of, [], []⟩
def d_are_numbers : He5.DefA := ⟨fun K => (He.ga K "are_numbers"), "are_numbers", "are_numbers", defArgs s_are_numbers, defBody s_are_numbers, defScope s_are_numbers, [], []⟩
def d_Order___init__ : He5.DefA := ⟨fun K => (He.ma K (He.ga K "Order") "__init__"), "__init__", "Order.__init__", defArgs s_Order___init__, defBody s_Order___init__, defScope s_Order___init__, [], []⟩
def d__law_value : He5.DefA := ⟨fun K => (He.ga K "_law_value"), "_law_value", "_law_value", defArgs s__law_value, defBody s__law_value, defScope s__law_value, [], []⟩
def d__law_knots : He5.DefA := ⟨fun K => (He.ga K "_law_knots"), "_law_knots", "_law_knots", defArgs s__law_knots, defBody s__law_knots, defScope s__law_knots, [], []⟩
def d__law_swapped : He5.DefA := ⟨fun K => (He.ga K "_law_swapped"), "_law_swapped", "_law_swapped", defArgs s__law_swapped, defBody s__law_swapped, defScope s__law_swapped, [], []⟩
def d__law_ends_changed : He5.DefA := ⟨fun K => (He.ga K "_law_ends_changed"), "_law_ends_changed", "_law_ends_changed", defArgs s__law_ends_changed, defBody s__law_ends_changed, defScope s__law_ends_changed, [], []⟩
def d_Order_neighbours_checked : He5.DefA := ⟨fun K => (He.ma K (He.ga K "Order") "neighbours_checked"), "neighbours_checked", "Order.neighbours_checked", defArgs s_Order_neighbours_checked, defBody s_Order_neighbours_checked, defScope s_Order_neighbours_checked, [], []⟩
def d_Order_starts_exchanged : He5.DefA := ⟨fun K => (He.ma K (He.ga K "Order") "starts_exchanged"), "starts_exchanged", "Order.starts_exchanged", defArgs s_Order_starts_exchanged, defBody s_Order_starts_exchanged, defScope s_Order_starts_exchanged, [], []⟩
def d_Order_numbers : He5.DefA := ⟨fun K => (ge K (He.ga K "Order") "numbers"), "numbers", "Order.numbers", defArgs s_Order_numbers, defBody s_Order_numbers, defScope s_Order_numbers, [], []⟩
def d__law_is_order : He5.DefA := ⟨fun K => (He.ga K "_law_is_order"), "_law_is_order", "_law_is_order", defArgs s__law_is_order, defBody s__law_is_order, defScope s__law_is_order, [], []⟩
def d_falling_in : He5.DefA := ⟨fun K => (He.ga K "falling_in"), "falling_in", "falling_in", defArgs s_falling_in, defBody s_falling_in, defScope s_falling_in, [], []⟩
def d_Order_level : He5.DefA := ⟨fun K => (ge K (He.ga K "Order") "level"), "level", "Order.level", defArgs s_Order_level, defBody s_Order_level, defScope s_Order_level, [], []⟩
def d_value_at : He5.DefA := ⟨fun K => (He.ga K "value_at"), "value_at", "value_at", defArgs s_value_at, defBody s_value_at, defScope s_value_at, [], []⟩
def d_knots_in : He5.DefA := ⟨fun K => (He.ga K "knots_in"), "knots_in", "knots_in", defArgs s_knots_in, defBody s_knots_in, defScope s_knots_in, [], []⟩
def d_Order_knots : He5.DefA := ⟨fun K => (ge K (He.ga K "Order") "knots"), "knots", "Order.knots", defArgs s_Order_knots, defBody s_Order_knots, defScope s_Order_knots, [], []⟩
def d_Order_ends_exchanged : He5.DefA := ⟨fun K => (He.ma K (He.ga K "Order") "ends_exchanged"), "ends_exchanged", "Order.ends_exchanged", defArgs s_Order_ends_exchanged, defBody s_Order_ends_exchanged, defScope s_Order_ends_exchanged, [], []⟩
def d__law_standing : He5.DefA := ⟨fun K => (He.ga K "_law_standing"), "_law_standing", "_law_standing", defArgs s__law_standing, defBody s__law_standing, defScope s__law_standing, [], []⟩
def d_brought : He5.DefA := ⟨fun K => (He.ga K "brought"), "brought", "brought", defArgs s_brought, defBody s_brought, defScope s_brought, [], []⟩
def d_Order_dual : He5.DefA := ⟨fun K => (ge K (He.ga K "Order") "dual"), "dual", "Order.dual", defArgs s_Order_dual, defBody s_Order_dual, defScope s_Order_dual, [], []⟩
def d_Order___eq__ : He5.DefA := ⟨fun K => (He.ma K (He.ga K "Order") "__eq__"), "__eq__", "Order.__eq__", defArgs s_Order___eq__, defBody s_Order___eq__, defScope s_Order___eq__, [], []⟩
def d__law_index_right : He5.DefA := ⟨fun K => (He.ga K "_law_index_right"), "_law_index_right", "_law_index_right", defArgs s__law_index_right, defBody s__law_index_right, defScope s__law_index_right, [], []⟩
def d_law : He5.DefA := ⟨fun K => (He.ga K "law"), "law", "law", defArgs s_law, defBody s_law, defScope s_law, [], []⟩
def d__law_told : He5.DefA := ⟨fun K => (He.ga K "_law_told"), "_law_told", "_law_told", defArgs s__law_told, defBody s__law_told, defScope s__law_told, [], []⟩
def fnl : List He5.DefA := [d__law_dice, d__law_roll, d__law_mixed, d__law_order, d_is_whole, d_is_integer, d_rest_of, d_are_numbers, d_Order___init__, d__law_value, d__law_knots, d__law_swapped, d__law_ends_changed, d_Order_neighbours_checked, d_Order_starts_exchanged, d_Order_numbers, d__law_is_order, d_falling_in, d_Order_level, d_value_at, d_knots_in, d_Order_knots, d_Order_ends_exchanged, d__law_standing, d_brought, d_Order_dual, d_Order___eq__, d__law_index_right, d_law, d__law_told]
def exl (K : PySem.W.Frag) : List Bool := [(He.Fa.free "abs").ok K,
  (He.Fa.free "all").ok K,
  (He.Fa.free "bool").ok K,
  (He.Fa.free "enumerate").ok K,
  (He.Fa.free "int").ok K,
  (He.Fa.free "isinstance").ok K,
  (He.Fa.free "len").ok K,
  (He.Fa.free "list").ok K,
  (He.Fa.free "max").ok K,
  (He.Fa.free "min").ok K,
  (He.Fa.free "range").ok K,
  (He.Fa.free "repr").ok K,
  (He.Fa.free "set").ok K,
  (He.Fa.free "sorted").ok K,
  (He.Fa.free "tuple").ok K,
  (He.Fa.int "GREAT" (1000000000000000000000000000000000000000000000000000000000000)).ok K,
  (He.Fa.int "MOST" (8)).ok K,
  (He.Fa.glo "_law_dice").ok K,
  (He.Fa.glo "_law_roll").ok K,
  (He.Fa.glo "_law_mixed").ok K,
  (He.Fa.glo "_law_order").ok K,
  (He.Fa.glo "is_whole").ok K,
  (He.Fa.glo "is_integer").ok K,
  (He.Fa.glo "rest_of").ok K,
  (He.Fa.glo "are_numbers").ok K,
  (He.Fa.glo "_law_value").ok K,
  (He.Fa.glo "_law_knots").ok K,
  (He.Fa.glo "_law_swapped").ok K,
  (He.Fa.glo "_law_ends_changed").ok K,
  (He.Fa.meth "Order" "neighbours_checked").ok K,
  (He.Fa.meth "Order" "starts_exchanged").ok K,
  propB K (He.ga K "Order") "numbers",
  (He.Fa.glo "_law_is_order").ok K,
  (He.Fa.glo "falling_in").ok K,
  propB K (He.ga K "Order") "level",
  (He.Fa.glo "value_at").ok K,
  (He.Fa.glo "knots_in").ok K,
  propB K (He.ga K "Order") "knots",
  (He.Fa.meth "Order" "ends_exchanged").ok K,
  (He.Fa.glo "_law_standing").ok K,
  (He.Fa.glo "brought").ok K,
  propB K (He.ga K "Order") "dual",
  (He.Fa.meth "Order" "__eq__").ok K,
  (He.Fa.glo "_law_index_right").ok K,
  (He.Fa.glo "law").ok K,
  (He.Fa.cls "Order").ok K,
  (He.Fa.glo "Order").ok K,
  (He.Fa.mkr "Order").ok K,
  insCB K (He.ga K "Order"),
  eqB K (He.ga K "Order"),
  (He.Fa.glo "_law_told").ok K,
  (He.Fa.glo "InvalidOperation").ok K,
  (He.Fa.glo "InvalidOrder").ok K,
  (He.Fa.exc "InvalidOperation").ok K,
  (He.Fa.exm "InvalidOperation" "InvalidOperation" true).ok K,
  (He.Fa.exc "InvalidOrder").ok K,
  (He.Fa.exm "InvalidOrder" "InvalidOperation" false).ok K,
  tabOk K (He.ga K "_law_index_right"),
  (mkT mkA K).all fun p => PySem.W.codeHdIn K p.1 p.2,
  decide (((tbT K).map (·.1)).Nodup),
  (He.Fa.noat "Order" "own_numbers").ok K]
def exB (K : PySem.W.Frag) : Bool := (exl K).all id
theorem ex_at {K : PySem.W.Frag} (h : exB K = true) (i : Nat) {b : Bool} (e : (exl K)[i]? = some b) : b = true := List.all_eq_true.mp h b (List.mem_of_getElem? e)
def clK (K : PySem.W.Frag) : Cl := ⟨fun c => if c = "Order" then some (He.ga K "Order") else if c = "InvalidOperation" then some (He.ga K "InvalidOperation") else if c = "InvalidOrder" then some (He.ga K "InvalidOrder") else  none, tbT K⟩
theorem tU_of {T : List (Addr × Str)} (h : (T.map (·.1)).Nodup) {a : Addr} {q : Str} (m : (a, q) ∈ T) : ∀ p ∈ T, p.1 = a → p.2 = q := by
  induction T with
  | nil => cases m
  | cons z r ih =>
    rw [List.map_cons, List.nodup_cons] at h
    intro p hp e
    rcases List.mem_cons.mp m with rfl | m1
    · rcases List.mem_cons.mp hp with rfl | h1
      · rfl
      · exact (h.1 (e ▸ List.mem_map_of_mem (f := (·.1)) h1)).elim
    · rcases List.mem_cons.mp hp with rfl | h1
      · exact (h.1 (e ▸ List.mem_map_of_mem (f := (·.1)) m1)).elim
      · exact ih h.2 m1 p h1 e
theorem txt_of {K : PySem.W.Frag} {h : Heap} {mg : Str → Option Value} (X : K.In h) (G : h.Ns mainGlobals mg) (c : SaysZ exB fnl K) : Txt K mg (clK K) := by
  have e := c.more
  exact {
    b_abs := He.free_ok X G (ex_at e 0 rfl)
    b_all := He.free_ok X G (ex_at e 1 rfl)
    b_bool := He.free_ok X G (ex_at e 2 rfl)
    b_enumerate := He.free_ok X G (ex_at e 3 rfl)
    b_int := He.free_ok X G (ex_at e 4 rfl)
    b_isinstance := He.free_ok X G (ex_at e 5 rfl)
    b_len := He.free_ok X G (ex_at e 6 rfl)
    b_list := He.free_ok X G (ex_at e 7 rfl)
    b_max := He.free_ok X G (ex_at e 8 rfl)
    b_min := He.free_ok X G (ex_at e 9 rfl)
    b_range := He.free_ok X G (ex_at e 10 rfl)
    b_repr := He.free_ok X G (ex_at e 11 rfl)
    b_set := He.free_ok X G (ex_at e 12 rfl)
    b_sorted := He.free_ok X G (ex_at e 13 rfl)
    b_tuple := He.free_ok X G (ex_at e 14 rfl)
    c_GREAT := He.int_ok X G (ex_at e 15 rfl)
    c_MOST := He.int_ok X G (ex_at e 16 rfl)
    u__law_dice := (c.def_ (d := d__law_dice) (List.mem_of_getElem? (i := 0) rfl)).imp fun _ F => He5.fun_of F
    g__law_dice := He.glo_ok X G (ex_at e 17 rfl)
    k__law_dice := (c.def_ (d := d__law_dice) (List.mem_of_getElem? (i := 0) rfl)).elim fun _ F => F.kp
    u__law_roll := (c.def_ (d := d__law_roll) (List.mem_of_getElem? (i := 1) rfl)).imp fun _ F => He5.fun_of F
    g__law_roll := He.glo_ok X G (ex_at e 18 rfl)
    k__law_roll := (c.def_ (d := d__law_roll) (List.mem_of_getElem? (i := 1) rfl)).elim fun _ F => F.kp
    u__law_mixed := (c.def_ (d := d__law_mixed) (List.mem_of_getElem? (i := 2) rfl)).imp fun _ F => He5.fun_of F
    g__law_mixed := He.glo_ok X G (ex_at e 19 rfl)
    k__law_mixed := (c.def_ (d := d__law_mixed) (List.mem_of_getElem? (i := 2) rfl)).elim fun _ F => F.kp
    u__law_order := (c.def_ (d := d__law_order) (List.mem_of_getElem? (i := 3) rfl)).imp fun _ F => He5.fun_of F
    g__law_order := He.glo_ok X G (ex_at e 20 rfl)
    k__law_order := (c.def_ (d := d__law_order) (List.mem_of_getElem? (i := 3) rfl)).elim fun _ F => F.kp
    u_is_whole := (c.def_ (d := d_is_whole) (List.mem_of_getElem? (i := 4) rfl)).imp fun _ F => He5.fun_of F
    g_is_whole := He.glo_ok X G (ex_at e 21 rfl)
    k_is_whole := (c.def_ (d := d_is_whole) (List.mem_of_getElem? (i := 4) rfl)).elim fun _ F => F.kp
    u_is_integer := (c.def_ (d := d_is_integer) (List.mem_of_getElem? (i := 5) rfl)).imp fun _ F => He5.fun_of F
    g_is_integer := He.glo_ok X G (ex_at e 22 rfl)
    k_is_integer := (c.def_ (d := d_is_integer) (List.mem_of_getElem? (i := 5) rfl)).elim fun _ F => F.kp
    u_rest_of := (c.def_ (d := d_rest_of) (List.mem_of_getElem? (i := 6) rfl)).imp fun _ F => He5.fun_of F
    g_rest_of := He.glo_ok X G (ex_at e 23 rfl)
    k_rest_of := (c.def_ (d := d_rest_of) (List.mem_of_getElem? (i := 6) rfl)).elim fun _ F => F.kp
    u_are_numbers := (c.def_ (d := d_are_numbers) (List.mem_of_getElem? (i := 7) rfl)).imp fun _ F => He5.fun_of F
    g_are_numbers := He.glo_ok X G (ex_at e 24 rfl)
    k_are_numbers := (c.def_ (d := d_are_numbers) (List.mem_of_getElem? (i := 7) rfl)).elim fun _ F => F.kp
    u_Order___init__ := (c.def_ (d := d_Order___init__) (List.mem_of_getElem? (i := 8) rfl)).imp fun _ F => He5.fun_of F
    u__law_value := (c.def_ (d := d__law_value) (List.mem_of_getElem? (i := 9) rfl)).imp fun _ F => He5.fun_of F
    g__law_value := He.glo_ok X G (ex_at e 25 rfl)
    k__law_value := (c.def_ (d := d__law_value) (List.mem_of_getElem? (i := 9) rfl)).elim fun _ F => F.kp
    u__law_knots := (c.def_ (d := d__law_knots) (List.mem_of_getElem? (i := 10) rfl)).imp fun _ F => He5.fun_of F
    g__law_knots := He.glo_ok X G (ex_at e 26 rfl)
    k__law_knots := (c.def_ (d := d__law_knots) (List.mem_of_getElem? (i := 10) rfl)).elim fun _ F => F.kp
    u__law_swapped := (c.def_ (d := d__law_swapped) (List.mem_of_getElem? (i := 11) rfl)).imp fun _ F => He5.fun_of F
    g__law_swapped := He.glo_ok X G (ex_at e 27 rfl)
    k__law_swapped := (c.def_ (d := d__law_swapped) (List.mem_of_getElem? (i := 11) rfl)).elim fun _ F => F.kp
    u__law_ends_changed := (c.def_ (d := d__law_ends_changed) (List.mem_of_getElem? (i := 12) rfl)).imp fun _ F => He5.fun_of F
    g__law_ends_changed := He.glo_ok X G (ex_at e 28 rfl)
    k__law_ends_changed := (c.def_ (d := d__law_ends_changed) (List.mem_of_getElem? (i := 12) rfl)).elim fun _ F => F.kp
    u_Order_neighbours_checked := (c.def_ (d := d_Order_neighbours_checked) (List.mem_of_getElem? (i := 13) rfl)).imp fun _ F => He5.fun_of F
    m_Order_neighbours_checked := He.meth_ok (ex_at e 29 rfl)
    u_Order_starts_exchanged := (c.def_ (d := d_Order_starts_exchanged) (List.mem_of_getElem? (i := 14) rfl)).imp fun _ F => He5.fun_of F
    m_Order_starts_exchanged := He.meth_ok (ex_at e 30 rfl)
    u_Order_numbers := (c.def_ (d := d_Order_numbers) (List.mem_of_getElem? (i := 15) rfl)).imp fun _ F => He5.fun_of F
    pr_Order_numbers := propB_ok (ex_at e 31 rfl)
    u__law_is_order := (c.def_ (d := d__law_is_order) (List.mem_of_getElem? (i := 16) rfl)).imp fun _ F => He5.fun_of F
    g__law_is_order := He.glo_ok X G (ex_at e 32 rfl)
    k__law_is_order := (c.def_ (d := d__law_is_order) (List.mem_of_getElem? (i := 16) rfl)).elim fun _ F => F.kp
    u_falling_in := (c.def_ (d := d_falling_in) (List.mem_of_getElem? (i := 17) rfl)).imp fun _ F => He5.fun_of F
    g_falling_in := He.glo_ok X G (ex_at e 33 rfl)
    k_falling_in := (c.def_ (d := d_falling_in) (List.mem_of_getElem? (i := 17) rfl)).elim fun _ F => F.kp
    u_Order_level := (c.def_ (d := d_Order_level) (List.mem_of_getElem? (i := 18) rfl)).imp fun _ F => He5.fun_of F
    pr_Order_level := propB_ok (ex_at e 34 rfl)
    u_value_at := (c.def_ (d := d_value_at) (List.mem_of_getElem? (i := 19) rfl)).imp fun _ F => He5.fun_of F
    g_value_at := He.glo_ok X G (ex_at e 35 rfl)
    k_value_at := (c.def_ (d := d_value_at) (List.mem_of_getElem? (i := 19) rfl)).elim fun _ F => F.kp
    u_knots_in := (c.def_ (d := d_knots_in) (List.mem_of_getElem? (i := 20) rfl)).imp fun _ F => He5.fun_of F
    g_knots_in := He.glo_ok X G (ex_at e 36 rfl)
    k_knots_in := (c.def_ (d := d_knots_in) (List.mem_of_getElem? (i := 20) rfl)).elim fun _ F => F.kp
    u_Order_knots := (c.def_ (d := d_Order_knots) (List.mem_of_getElem? (i := 21) rfl)).imp fun _ F => He5.fun_of F
    pr_Order_knots := propB_ok (ex_at e 37 rfl)
    u_Order_ends_exchanged := (c.def_ (d := d_Order_ends_exchanged) (List.mem_of_getElem? (i := 22) rfl)).imp fun _ F => He5.fun_of F
    m_Order_ends_exchanged := He.meth_ok (ex_at e 38 rfl)
    u__law_standing := (c.def_ (d := d__law_standing) (List.mem_of_getElem? (i := 23) rfl)).imp fun _ F => He5.fun_of F
    g__law_standing := He.glo_ok X G (ex_at e 39 rfl)
    k__law_standing := (c.def_ (d := d__law_standing) (List.mem_of_getElem? (i := 23) rfl)).elim fun _ F => F.kp
    u_brought := (c.def_ (d := d_brought) (List.mem_of_getElem? (i := 24) rfl)).imp fun _ F => He5.fun_of F
    g_brought := He.glo_ok X G (ex_at e 40 rfl)
    k_brought := (c.def_ (d := d_brought) (List.mem_of_getElem? (i := 24) rfl)).elim fun _ F => F.kp
    u_Order_dual := (c.def_ (d := d_Order_dual) (List.mem_of_getElem? (i := 25) rfl)).imp fun _ F => He5.fun_of F
    pr_Order_dual := propB_ok (ex_at e 41 rfl)
    u_Order___eq__ := (c.def_ (d := d_Order___eq__) (List.mem_of_getElem? (i := 26) rfl)).imp fun _ F => He5.fun_of F
    m_Order___eq__ := He.meth_ok (ex_at e 42 rfl)
    u__law_index_right := (c.def_ (d := d__law_index_right) (List.mem_of_getElem? (i := 27) rfl)).imp fun _ F => He5.fun_of F
    g__law_index_right := He.glo_ok X G (ex_at e 43 rfl)
    k__law_index_right := (c.def_ (d := d__law_index_right) (List.mem_of_getElem? (i := 27) rfl)).elim fun _ F => F.kp
    u_law := (c.def_ (d := d_law) (List.mem_of_getElem? (i := 28) rfl)).imp fun _ F => He5.fun_of F
    g_law := He.glo_ok X G (ex_at e 44 rfl)
    k_law := (c.def_ (d := d_law) (List.mem_of_getElem? (i := 28) rfl)).elim fun _ F => F.kp
    cn_Order := ⟨(by show (clK K).f _ = _; unfold clK; dsimp only; rw [if_pos rfl]), He.cls_ok (ex_at e 45 rfl)⟩
    g_Order := He.glo_ok X G (ex_at e 46 rfl)
    mk_Order := He.mkr_ok (ex_at e 47 rfl)
    ic_Order := insCB_ok (He.cls_ok (ex_at e 45 rfl)) (ex_at e 48 rfl)
    eq_Order := ex_at e 49 rfl
    u__law_told := (c.def_ (d := d__law_told) (List.mem_of_getElem? (i := 29) rfl)).imp fun _ F => He5.fun_of F
    g__law_told := He.glo_ok X G (ex_at e 50 rfl)
    tk__law_index_right := ex_at e 57 rfl
    mt__law_index_right := List.mem_map_of_mem (f := tabAt K) (by simp [mkA])
    tT__law_index_right := by show _ ∈ tbT K; simp [tbT]
    tU__law_index_right := tU_of (of_decide_eq_true (ex_at e 59 rfl)) (by show _ ∈ tbT K; simp [tbT])
    cl_InvalidOperation := (by show (clK K).f _ = _; unfold clK; dsimp only; rw [if_neg (by decide), if_pos rfl])
    g_InvalidOperation := He.glo_ok X G (ex_at e 51 rfl)
    cl_InvalidOrder := (by show (clK K).f _ = _; unfold clK; dsimp only; rw [if_neg (by decide), if_neg (by decide), if_pos rfl])
    g_InvalidOrder := He.glo_ok X G (ex_at e 52 rfl)
    x_InvalidOperation := ⟨(by show (clK K).f _ = _; unfold clK; dsimp only; rw [if_neg (by decide), if_pos rfl]), (He.exc_ok (ex_at e 53 rfl)).1, He.glo_ok X G (ex_at e 51 rfl), (He.exc_ok (ex_at e 53 rfl)).2.1, (He.exc_ok (ex_at e 53 rfl)).2.2.1, (He.exc_ok (ex_at e 53 rfl)).2.2.2⟩
    m_InvalidOperation_InvalidOperation := He.exm_ok (ex_at e 54 rfl)
    x_InvalidOrder := ⟨(by show (clK K).f _ = _; unfold clK; dsimp only; rw [if_neg (by decide), if_neg (by decide), if_pos rfl]), (He.exc_ok (ex_at e 55 rfl)).1, He.glo_ok X G (ex_at e 52 rfl), (He.exc_ok (ex_at e 55 rfl)).2.1, (He.exc_ok (ex_at e 55 rfl)).2.2.1, (He.exc_ok (ex_at e 55 rfl)).2.2.2⟩
    m_InvalidOrder_InvalidOperation := He.exm_ok (ex_at e 56 rfl)
    na_Order_own_numbers := He.noat_ok (ex_at e 60 rfl) }
theorem tabs0 {K : PySem.W.Frag} {H : Hp} (h : ∀ p ∈ mkT mkA K, H p.2 = some (.tbl #[])) : LamX.Tabs (tbT K) H := fun p hp => by
  simp only [tbT, List.mem_cons, List.not_mem_nil, or_false] at hp
  rcases hp with rfl
  all_goals exact LamX.TabS.nil (h (tabAt K _) (List.mem_map_of_mem (f := tabAt K) (by simp [mkA])))
abbrev R0 : PySem.W.OpenRow := PySem.W.OpenLaw.row PySem.Challenge.rw_rimtwists_k22_whole_exchanges
abbrev hkZ : PySem.W.Hook := hookZ 5 mkA exB fnl
def obZ (s : PySem.W.SharedT) : Bool × List He.FnW := obsZG 5 mkA exB fnl (HandSHeadRun.getT s)
theorem obZ_eq (s : PySem.W.SharedT) : obZ s = hkZ.obs s.abs := obsZG_eq (HandSHeadRun.getT_eq s)
def nms : List PySem.Str := (["_wall", "DiscError", "InvalidOrder", "InvalidOperation", "InvalidNumber", "GREAT", "is_whole", "is_integer", "MOST", "rest_of", "are_numbers", "value_at", "brought", "falling_in", "knots_in", "Order", "_law_dice", "_law_roll", "_law_mixed", "_law_value", "_law_knots", "_law_is_order", "_law_order", "_law_swapped", "_law_standing", "_law_ends_changed", "_law_told", "_law_index_right"] : List PySem.Str)
theorem runZ (w : World) : HandSHeadRun.RunEq R0 (PySem.W.view R0.prog [32]) hkZ obZ 5000 nms w := by
  intro os
  kernel_rfl
end Dl
open PySem PySem.W PySem.Calls PyProof.Rows
theorem holds_of (hlaw : ∀ ns : List Int, ns.length ≤ 63 → Dl.F_law [.frz (ns.map Dl.D.int)] = .ok (.bl true) []) : PySem.Challenge.rw_rimtwists_k22_whole_exchanges.Holds := by
  w_on; o_law
  refine HandSHeadRun.head_any (r := OpenLaw.row PySem.Challenge.rw_rimtwists_k22_whole_exchanges) (q := view (OpenLaw.row PySem.Challenge.rw_rimtwists_k22_whole_exchanges).prog [32]) (H := Dl.hkZ) (ob := Dl.obZ) (M := 5000) (loose := Dl.nms) (d := HandSHeadRun.topDef (OpenLaw.row PySem.Challenge.rw_rimtwists_k22_whole_exchanges).prog 32) (kwd := []) Dl.obZ_eq
    (by kernel_rfl) (fun s => by kernel_rfl) Dl.runZ (by kernel_rfl) (by kernel_rfl) (by kernel_rfl) (by rfl) (by first | assumption | decide +kernel) (by decide +kernel) ⟨rfl, rfl, rfl, rfl, rfl, by decide +kernel⟩ ?hw ?hc
  case hw => w_witness2
  case hc =>
    refine Dl.walk_G (l := PySem.Challenge.rw_rimtwists_k22_whole_exchanges) (n := 63) (k := 11) (x := "script") rfl (by decide) (by kernel_rfl) ⟨⟨rfl, by decide, by decide⟩, rfl⟩ ?F
    case F =>
      intro w mg fa h Y G hmg0
      obtain ⟨K, KX, c, t⟩ := Y
      have hmg : mg ("law" : PySem.Str) = some (.ref fa) := by
        have e : (HandSHeadRun.topDef (OpenLaw.row PySem.Challenge.rw_rimtwists_k22_whole_exchanges).prog 32).name = ("law" : PySem.Str) := by kernel_rfl
        rw [← e]
        exact hmg0
      have T := Dl.txt_of KX G c
      have e := hmg.symm.trans T.g_law
      cases e
      obtain ⟨fd, b, _, F⟩ := Dl.ok_law (P := (PySem.Challenge.rw_rimtwists_k22_whole_exchanges).prog) (w := w) T
      refine ⟨K, fd, Dl.spLaw K (Dl.tbT K), Dl.mkT Dl.mkA K, KX, fun s u => b s [u] rfl, fun p hp => (t p hp).1, fun p hp => (t p hp).2, fun p hp => PySem.W.codeHd_of_K KX (List.all_eq_true.mp (Dl.ex_at c.more 58 rfl) p hp), fun H a ns hl hT hS => ⟨a, ns, rfl, hS, hl, Dl.tabs0 hT, fun _ => rfl⟩, fun base KB _ hB => Dl.to_cx0 (F base hB) (Dl.law_sp (cl := Dl.clK K) hlaw)⟩
theorem PySem.Challenge.cw_rimtwists_k22_whole_exchanges_holds : PySem.Challenge.rw_rimtwists_k22_whole_exchanges.Holds := by
  exact holds_of fun ns _ => Dl.c_law ns
