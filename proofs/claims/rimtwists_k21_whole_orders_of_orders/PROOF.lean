import PyProof.Rows.All
import Wide.All
import OpenK.AllK
import Wide.FinOn
import HandS.ForMost
import HandS.WordsExc
import HandS.ExcOwn
import HandS.Wide
import HandS.TupAny
import HandS.Deep
import HandS.Style
import HandS.IsInst
import HandS.Conv
import HandS.Strs
import HandS.TupLe
import HandS.Flow
import HandS.WordsDict
import HandS.Zip
import HandS.SortKw
import KE.GoesEnumKw
import HandS.DictComp
import HandS.ExcSuper
import HandS.Property
import HandS.SortRule
import HandS.HeadNt
import HandS.HeadEnd
import HandS.Head2
import HandS.Head0
import HandS.Head1
import KE.KStateDown
import PySem.Challenge.RW_rimtwists_k21_whole_orders_of_orders
set_option Elab.async false
set_option linter.all false
set_option autoImplicit false
set_option maxRecDepth 100000
set_option maxHeartbeats 0
section
set_option maxHeartbeats 4000000
/-! DlA: values as trees, locals by content, and how both lie in the abstract heap. -/
namespace Dl
open PySem PySem.Spec PyProof.Rows L2

inductive D where
  | non | bl (b : Bool) | int (i : Int) | str (x : Str)
  | tup (ds : List D) | lst (ds : List D) | frz (ds : List D)
  | dic (ks : List Key) (ds : List D)
  | ins (c : Str) (fs : List Str) (ds : List D)
  | loc (o : Unit → Obj) (kvs : List (Key × V))
  deriving Inhabited

/-- a local: shared, owned, lent by the caller -/
inductive Sl where
  | sh (d : D) | ow (d : D) | bo (d : D)
abbrev En := List (Option Sl)
/-- how a piece of code ends -/
inductive Rs (α : Type) where
  | ok (a : α) (r : En)
  | err (c : Str) (fs : List Str) (ds : List D) (r : En)
  | stuck
def Rs.bind {α β : Type} (x : Rs α) (f : α → En → Rs β) : Rs β := match x with
  | .ok a r => f a r
  | .err c fs ds r => .err c fs ds r
  | .stuck => .stuck
/-- what a statement does -/
inductive Fl where
  | nx | brk | cont | ret (d : D) | retL (d : D)

/-- what is fixed through a def's body -/
structure Mc where
  K : PySem.W.Frag
  cl : Str → Option Addr
  H0 : Hp
  G0 : Hp
  W : List Addr
  B : Nat → Addr

section
variable (K : PySem.W.Frag) (cl : Str → Option Addr) (G : Hp)
mutual
def Rep : D → V → Prop
  | .non, v => v = .non
  | .bl b, v => v = .bl b
  | .int i, v => v = .int i
  | .str x, v => v = .str x
  | .tup ds, v => ∃ a vs, v = .ref a ∧ SqT K G a vs ∧ Reps ds vs
  | .lst ds, v => ∃ a vs, v = .ref a ∧ G a = some (.lst vs) ∧ Reps ds vs
  | .frz ds, v => ∃ a vs, v = .ref a ∧ SqL K G a vs ∧ Reps ds vs
  | .dic ks ds, v => ∃ a vs, v = .ref a ∧ G a = some (.dK (ks.zip vs)) ∧ ks.length = vs.length ∧ Reps ds vs
  | .ins c fs ds, v => ∃ a C dx vs, v = .ref a ∧ cl c = some C ∧ G a = some (.ins C dx (fs.zip vs)) ∧ fs.length = vs.length ∧ Reps ds vs
  | .loc o kvs, v => ∃ a, v = .ref a ∧ G a = some (.frz (o ()) (.dK kvs))
def Reps : List D → List V → Prop
  | [], vs => vs = []
  | d :: ds, vs => ∃ v r, vs = v :: r ∧ Rep d v ∧ Reps ds r
end
end
section
variable {K : PySem.W.Frag} {cl : Str → Option Addr} {G G' H : Hp}
abbrev Sub (G G' : Hp) : Prop := ∀ a o, G a = some o → G' a = some o
theorem Sub.rfl' : Sub G G := fun _ _ h => h
theorem Sub.rd {a : Addr} {u : HO} (s : Sub G G') (h : Rd G a u) : Rd G' a u := by
  rcases h with h | ⟨o, h⟩
  · exact .inl (s _ _ h)
  · exact .inr ⟨o, s _ _ h⟩
theorem Sub.sqL {a : Addr} {xs : List V} (s : Sub G G') (h : SqL K G a xs) : SqL K G' a xs := by
  rcases h with h | h
  · exact .inl (s.rd h)
  · exact .inr h
theorem Sub.sqT {a : Addr} {xs : List V} (s : Sub G G') (h : SqT K G a xs) : SqT K G' a xs := by
  rcases h with h | h
  · exact .inl (s.rd h)
  · exact .inr h
mutual
theorem Rep.mono (s : Sub G G') : ∀ (d : D) (v : V), Rep K cl G d v → Rep K cl G' d v
  | .non, _, h => h
  | .bl _, _, h => h
  | .int _, _, h => h
  | .str _, _, h => h
  | .tup ds, _, ⟨a, vs, e, q, r⟩ => ⟨a, vs, e, s.sqT q, Reps.mono s ds vs r⟩
  | .lst ds, _, ⟨a, vs, e, q, r⟩ => ⟨a, vs, e, s _ _ q, Reps.mono s ds vs r⟩
  | .frz ds, _, ⟨a, vs, e, q, r⟩ => ⟨a, vs, e, s.sqL q, Reps.mono s ds vs r⟩
  | .dic ks ds, _, ⟨a, vs, e, q, l, r⟩ => ⟨a, vs, e, s _ _ q, l, Reps.mono s ds vs r⟩
  | .ins c fs ds, _, ⟨a, C, dx, vs, e, q, h, l, r⟩ => ⟨a, C, dx, vs, e, q, s _ _ h, l, Reps.mono s ds vs r⟩
  | .loc _ _, _, ⟨a, e, q⟩ => ⟨a, e, s _ _ q⟩
theorem Reps.mono (s : Sub G G') : ∀ (ds : List D) (vs : List V), Reps K cl G ds vs → Reps K cl G' ds vs
  | [], _, h => h
  | d :: ds, _, ⟨v, r, e, h, t⟩ => ⟨v, r, e, Rep.mono s d v h, Reps.mono s ds r t⟩
end
theorem Reps.nil : Reps K cl G [] [] := rfl
theorem Reps.cons {d : D} {v : V} {ds : List D} {vs : List V} (h : Rep K cl G d v) (t : Reps K cl G ds vs) : Reps K cl G (d :: ds) (v :: vs) := ⟨v, vs, rfl, h, t⟩
theorem Reps.head {d : D} {v : V} {ds : List D} {vs : List V} (h : Reps K cl G (d :: ds) (v :: vs)) : Rep K cl G d v := by
  obtain ⟨_, _, e, h1, _⟩ := h; cases e; exact h1
theorem Reps.tail {d : D} {v : V} {ds : List D} {vs : List V} (h : Reps K cl G (d :: ds) (v :: vs)) : Reps K cl G ds vs := by
  obtain ⟨_, _, e, _, h1⟩ := h; cases e; exact h1
theorem Reps.len : ∀ {ds : List D} {vs : List V}, Reps K cl G ds vs → vs.length = ds.length
  | [], _, h => by cases (show _ = [] from h); rfl
  | _ :: ds, _, ⟨v, r, e, _, t⟩ => by subst e; simp [Reps.len t]
theorem Reps.append : ∀ {ds : List D} {vs : List V} {es : List D} {us : List V}, Reps K cl G ds vs → Reps K cl G es us → Reps K cl G (ds ++ es) (vs ++ us)
  | [], _, _, _, h, t => by cases (show _ = [] from h); exact t
  | _ :: ds, _, _, _, ⟨v, r, e, h, q⟩, t => by subst e; exact ⟨v, _, rfl, h, Reps.append q t⟩
theorem Reps.split : ∀ {ds : List D} {es : List D} {vs us : List V}, ds.length = vs.length → Reps K cl G (ds ++ es) (vs ++ us) → Reps K cl G ds vs ∧ Reps K cl G es us
  | [], _, [], _, _, h => ⟨rfl, h⟩
  | [], _, _ :: _, _, l, _ => by simp at l
  | _ :: _, _, [], _, l, _ => by simp at l
  | d :: ds, es, v :: vs, us, l, h => by
    have q := Reps.split (ds := ds) (es := es) (vs := vs) (us := us) (by simpa using l) h.tail
    exact ⟨Reps.cons h.head q.1, q.2⟩
theorem Reps.get : ∀ {ds : List D} {vs : List V} {i : Nat} {d : D}, Reps K cl G ds vs → ds[i]? = some d → ∃ v, vs[i]? = some v ∧ Rep K cl G d v
  | [], _, _, _, _, e => by simp at e
  | _ :: ds, _, 0, _, ⟨v, r, e, h, _⟩, e2 => by subst e; simp at e2; subst e2; exact ⟨v, rfl, h⟩
  | _ :: ds, _, i + 1, _, ⟨v, r, e, _, t⟩, e2 => by
    subst e
    obtain ⟨w, a, b⟩ := Reps.get (i := i) t (by simpa using e2)
    exact ⟨w, by simpa using a, b⟩
theorem Reps.set : ∀ {ds : List D} {vs : List V} (i : Nat) {d : D} {v : V}, Reps K cl G ds vs → Rep K cl G d v → Reps K cl G (ds.set i d) (vs.set i v)
  | [], _, _, _, _, h, _ => by cases (show _ = [] from h); exact rfl
  | _ :: ds, _, 0, _, _, ⟨v, r, e, _, t⟩, q => by subst e; exact ⟨_, r, rfl, q, t⟩
  | _ :: ds, _, i + 1, _, _, ⟨v, r, e, h, t⟩, q => by subst e; exact ⟨v, _, rfl, h, Reps.set i t q⟩
theorem Reps.take : ∀ {ds : List D} {vs : List V} (n : Nat), Reps K cl G ds vs → Reps K cl G (ds.take n) (vs.take n)
  | ds, vs, 0, _ => by simpa using Reps.nil
  | [], _, n + 1, h => by cases (show _ = [] from h); exact rfl
  | _ :: ds, _, n + 1, ⟨v, r, e, h, t⟩ => by subst e; exact ⟨v, _, rfl, h, Reps.take n t⟩
theorem Reps.drop : ∀ {ds : List D} {vs : List V} (n : Nat), Reps K cl G ds vs → Reps K cl G (ds.drop n) (vs.drop n)
  | ds, vs, 0, h => by simpa using h
  | [], _, n + 1, h => by cases (show _ = [] from h); exact rfl
  | _ :: ds, _, n + 1, ⟨v, r, e, _, t⟩ => by subst e; simpa using Reps.drop n t
end

/-- an object that one place alone holds -/
def OwAt (K : PySem.W.Frag) (cl : Str → Option Addr) (G H : Hp) (a : Addr) : D → Prop
  | .lst ds => ∃ vs, H a = some (.lst vs) ∧ Reps K cl G ds vs
  | .dic ks ds => ∃ vs, H a = some (.dK (ks.zip vs)) ∧ ks.length = vs.length ∧ Reps K cl G ds vs
  | .ins c fs ds => ∃ C dx vs, cl c = some C ∧ H a = some (.ins C dx (fs.zip vs)) ∧ fs.length = vs.length ∧ Reps K cl G ds vs
  | .loc o kvs => H a = some (.frz (o ()) (.dK kvs))
  | _ => False
section
variable {K : PySem.W.Frag} {cl : Str → Option Addr} {G G' H H' : Hp} {a : Addr}
theorem OwAt.mono {d : D} (s : Sub G G') (hH : ∀ o, H a = some o → H' a = some o) (h : OwAt K cl G H a d) : OwAt K cl G' H' a d := by
  cases d with
  | lst ds => obtain ⟨vs, e, r⟩ := h; exact ⟨vs, hH _ e, Reps.mono s _ _ r⟩
  | dic ks ds => obtain ⟨vs, e, l, r⟩ := h; exact ⟨vs, hH _ e, l, Reps.mono s _ _ r⟩
  | ins c fs ds => obtain ⟨C, dx, vs, q, e, l, r⟩ := h; exact ⟨C, dx, vs, q, hH _ e, l, Reps.mono s _ _ r⟩
  | loc o ks => exact hH _ h
  | _ => exact h.elim
theorem OwAt.there {d : D} (h : OwAt K cl G H a d) : ∃ o, H a = some o := by
  cases d with
  | lst ds => obtain ⟨vs, e, r⟩ := h; exact ⟨_, e⟩
  | dic ks ds => obtain ⟨vs, e, l, r⟩ := h; exact ⟨_, e⟩
  | ins c fs ds => obtain ⟨C, dx, vs, q, e, l, r⟩ := h; exact ⟨_, e⟩
  | loc o ks => exact ⟨_, h⟩
  | _ => exact h.elim
/-- what is held alone becomes shared -/
theorem OwAt.rep {d : D} (h : OwAt K cl G H a d) {o : HO} (ho : H a = some o) (s : Sub G G') (g : G' a = some o) : Rep K cl G' d (.ref a) := by
  cases d with
  | lst ds => obtain ⟨vs, e, r⟩ := h; rw [ho] at e; cases e; exact ⟨a, vs, rfl, g, Reps.mono s _ _ r⟩
  | dic ks ds => obtain ⟨vs, e, l, r⟩ := h; rw [ho] at e; cases e; exact ⟨a, vs, rfl, g, l, Reps.mono s _ _ r⟩
  | ins c fs ds => obtain ⟨C, dx, vs, q, e, l, r⟩ := h; rw [ho] at e; cases e; exact ⟨a, C, dx, vs, rfl, q, g, l, Reps.mono s _ _ r⟩
  | loc o ks => have e : H a = _ := h; rw [ho] at e; cases e; exact ⟨a, rfl, g⟩
  | _ => exact h.elim
end

def IsOw (ρ : En) (i : Nat) : Prop := ∃ d, ρ[i]? = some (some (.ow d)) ∨ ρ[i]? = some (some (.bo d))

structure RelG (M : Mc) (an : List (Addr × D)) (ρ : En) (σ : L2.St) (H : Hp) (ts : List V) (ds : List D) (G : Hp) (own : Nat → Addr) : Prop where
  sub : Sub G H
  g0 : Sub M.G0 G
  fr : ∀ a : Addr, G a ≠ none → M.G0 a = none → M.H0 a = none
  ext : ∀ (a : Addr) (o : HO), M.H0 a = some o → a ∉ M.W → H a = some o
  wok : ∀ a ∈ M.W, ∃ o, H a = some o
  shp : ∀ (i : Nat) (d : D), ρ[i]? = some (some (Sl.sh d)) → ∃ v, σ[i]? = some (some v) ∧ Rep M.K M.cl G d v
  owp : ∀ (i : Nat) (d : D), ρ[i]? = some (some (Sl.ow d)) → σ[i]? = some (some (V.ref (own i))) ∧ OwAt M.K M.cl G H (own i) d ∧ G (own i) = none ∧ M.H0 (own i) = none
  bop : ∀ (i : Nat) (d : D), ρ[i]? = some (some (Sl.bo d)) → σ[i]? = some (some (V.ref (own i))) ∧ OwAt M.K M.cl G H (own i) d ∧ G (own i) = none ∧ own i ∈ M.W ∧ own i = M.B i
  anp : ∀ p ∈ an, OwAt M.K M.cl G H p.1 p.2 ∧ G p.1 = none ∧ M.H0 p.1 = none
  inj : ∀ i j : Nat, IsOw ρ i → IsOw ρ j → own i = own j → i = j
  apart : ∀ i : Nat, IsOw ρ i → ∀ p ∈ an, own i ≠ p.1
  anN : (an.map (·.1)).Nodup
  len : ρ.length = σ.length
  tmp : Reps M.K M.cl G ds ts

def RelX (M : Mc) (an : List (Addr × D)) (ρ : En) (σ : L2.St) (H : Hp) (ts : List V) (ds : List D) : Prop := ∃ G own, RelG M an ρ σ H ts ds G own

section
variable {M : Mc} {an : List (Addr × D)} {ρ : En} {σ : L2.St} {H H' : Hp} {ts us : List V} {ds es : List D} {G : Hp} {own : Nat → Addr} {a p : Addr} {o : HO} {i : Nat} {d e : D} {v : V}
/-- other temporaries -/
theorem RelX.temps (R : RelX M an ρ σ H ts ds) (h : ∀ G, Sub G H → Reps M.K M.cl G ds ts → Reps M.K M.cl G es us) : RelX M an ρ σ H us es := by
  obtain ⟨G, own, r⟩ := R
  exact ⟨G, own, { r with tmp := h G r.sub r.tmp }⟩
theorem RelX.pop (R : RelX M an ρ σ H (v :: ts) (d :: ds)) : RelX M an ρ σ H ts ds := R.temps fun _ _ h => h.tail
theorem RelX.pop2 {v2 : V} {d2 : D} (R : RelX M an ρ σ H (v2 :: v :: ts) (d2 :: d :: ds)) : RelX M an ρ σ H ts ds := R.temps fun _ _ h => h.tail.tail
theorem RelX.drops (l : us.length = es.length) (R : RelX M an ρ σ H (us ++ ts) (es ++ ds)) : RelX M an ρ σ H ts ds := R.temps fun _ _ h => (Reps.split l.symm h).2
theorem RelX.rep (R : RelX M an ρ σ H (v :: ts) (d :: ds)) : ∃ G, Sub G H ∧ Rep M.K M.cl G d v := by
  obtain ⟨G, own, r⟩ := R
  exact ⟨G, r.sub, r.tmp.head⟩
theorem RelX.repH (R : RelX M an ρ σ H (v :: ts) (d :: ds)) : Rep M.K M.cl H d v := let ⟨_, s, r⟩ := R.rep; Rep.mono s _ _ r
theorem RelX.repsH (R : RelX M an ρ σ H ts ds) : Reps M.K M.cl H ds ts := let ⟨_, _, r⟩ := R; Reps.mono r.sub _ _ r.tmp
theorem RelX.len (R : RelX M an ρ σ H ts ds) : ρ.length = σ.length := let ⟨_, _, r⟩ := R; r.len
theorem RelG.owned (r : RelG M an ρ σ H ts ds G own) (h : IsOw ρ i) : ∃ o, H (own i) = some o := by
  obtain ⟨d, h | h⟩ := h
  · exact (r.owp i d h).2.1.there
  · exact (r.bop i d h).2.1.there
theorem RelG.h0 (r : RelG M an ρ σ H ts ds G own) (n : H p = none) : M.H0 p = none := by
  cases q : M.H0 p with
  | none => rfl
  | some o =>
    by_cases w : p ∈ M.W
    · obtain ⟨o', e⟩ := r.wok p w; rw [n] at e; cases e
    · rw [r.ext p o q w] at n; cases n
theorem sub_upd (n : H p = none) : Sub H (upd H p o) := fun b u e => by rw [upd_ne (ne_of_none e n)]; exact e
theorem sub_updG (s : Sub G H) (n : H p = none) : Sub (upd G p o) (upd H p o) := fun b u e => by
  by_cases hb : b = p
  · subst hb; rw [upd_same] at e; rw [upd_same]; exact e
  · rw [upd_ne hb] at e; rw [upd_ne hb]; exact s b u e
/-- the heap has grown by a new object that all may see -/
theorem RelG.grow (r : RelG M an ρ σ H ts ds G own) (n : H p = none) : RelG M an ρ σ (upd H p o) ts ds (upd G p o) own := by
  have gn : G p = none := by
    cases q : G p with
    | none => rfl
    | some u => rw [r.sub p u q] at n; cases n
  have s1 : Sub H (upd H p o) := sub_upd n
  have s2 : Sub G (upd G p o) := sub_upd gn
  have np : ∀ {b : Addr}, (∃ u, H b = some u) → b ≠ p := fun ⟨u, e⟩ => ne_of_none e n
  refine { sub := sub_updG r.sub n, g0 := fun b u e => s2 b u (r.g0 b u e), fr := fun b hb h0 => ?_, ext := fun b u e w => s1 b u (r.ext b u e w), wok := fun b w => let ⟨u, e⟩ := r.wok b w; ⟨u, s1 b u e⟩, shp := fun i d h => ?_, owp := fun i d h => ?_, bop := fun i d h => ?_, anp := fun q hq => ?_, inj := r.inj, apart := r.apart, anN := r.anN, len := r.len, tmp := Reps.mono s2 _ _ r.tmp }
  · by_cases hbp : b = p
    · subst hbp; exact r.h0 n
    · rw [upd_ne hbp] at hb; exact r.fr b hb h0
  · obtain ⟨v, e, q⟩ := r.shp i d h; exact ⟨v, e, Rep.mono s2 _ _ q⟩
  · obtain ⟨e, q, g, z⟩ := r.owp i d h
    exact ⟨e, q.mono s2 fun u hu => s1 _ u hu, by rw [upd_ne (np q.there)]; exact g, z⟩
  · obtain ⟨e, q, g, z⟩ := r.bop i d h
    exact ⟨e, q.mono s2 fun u hu => s1 _ u hu, by rw [upd_ne (np q.there)]; exact g, z⟩
  · obtain ⟨q1, g, z⟩ := r.anp q hq
    exact ⟨q1.mono s2 fun u hu => s1 _ u hu, by rw [upd_ne (np q1.there)]; exact g, z⟩
/-- the heap has grown by a new object that nobody sees -/
theorem RelG.growH (r : RelG M an ρ σ H ts ds G own) (n : H p = none) : RelG M an ρ σ (upd H p o) ts ds G own := by
  have s1 : Sub H (upd H p o) := sub_upd n
  refine { r with sub := fun b u e => s1 b u (r.sub b u e), ext := fun b u e w => s1 b u (r.ext b u e w), wok := fun b w => let ⟨u, e⟩ := r.wok b w; ⟨u, s1 b u e⟩, owp := fun i d h => ?_, bop := fun i d h => ?_, anp := fun q hq => ?_ }
  · obtain ⟨e, q, g, z⟩ := r.owp i d h
    exact ⟨e, q.mono Sub.rfl' fun u hu => s1 _ u hu, g, z⟩
  · obtain ⟨e, q, g, z⟩ := r.bop i d h
    exact ⟨e, q.mono Sub.rfl' fun u hu => s1 _ u hu, g, z⟩
  · obtain ⟨q1, g, z⟩ := r.anp q hq
    exact ⟨q1.mono Sub.rfl' fun u hu => s1 _ u hu, g, z⟩
theorem RelG.gn (r : RelG M an ρ σ H ts ds G own) (n : H p = none) : G p = none := by
  cases q : G p with
  | none => rfl
  | some u => rw [r.sub p u q] at n; cases n
/-- a new object that all may see, other temporaries -/
theorem RelG.new (r : RelG M an ρ σ H us es G own) (n : H p = none) (h : Sub G (upd G p o) → Reps M.K M.cl (upd G p o) ds ts) : RelX M an ρ σ (upd H p o) ts ds :=
  ⟨_, own, { r.grow n with tmp := h (sub_upd (r.gn n)) }⟩
theorem RelG.keep (r : RelG M an ρ σ H us es G own) (h : Reps M.K M.cl G ds ts) : RelX M an ρ σ H ts ds := ⟨_, own, { r with tmp := h }⟩
theorem RelX.growH (R : RelX M an ρ σ H ts ds) (n : H p = none) : RelX M an ρ σ (upd H p o) ts ds := let ⟨G, own, r⟩ := R; ⟨G, own, r.growH n⟩
/-- a new object, shared: h tells what it holds -/
theorem RelX.new (R : RelX M an ρ σ H us es) (n : H p = none) (h : ∀ G, Reps M.K M.cl G es us → G p = some o → Reps M.K M.cl G ds ts) : RelX M an ρ σ (upd H p o) ts ds := by
  obtain ⟨G, own, r⟩ := R
  have r' := r.grow (o := o) n
  exact ⟨_, own, { r' with tmp := h _ r'.tmp upd_same }⟩
theorem RelX.newTup {vs : List V} {fs : List D} (R : RelX M an ρ σ H (vs ++ ts) (fs ++ ds)) (l : vs.length = fs.length) (n : H p = none) : RelX M an ρ σ (upd H p (.tup vs)) (.ref p :: ts) (.tup fs :: ds) :=
  R.new n fun _ r g => let ⟨a, b⟩ := Reps.split l.symm r; Reps.cons ⟨p, vs, rfl, SqT.of g, a⟩ b
theorem RelX.newLst {vs : List V} {fs : List D} (R : RelX M an ρ σ H (vs ++ ts) (fs ++ ds)) (l : vs.length = fs.length) (n : H p = none) : RelX M an ρ σ (upd H p (.lst vs)) (.ref p :: ts) (.lst fs :: ds) :=
  R.new n fun _ r g => let ⟨a, b⟩ := Reps.split l.symm r; Reps.cons ⟨p, vs, rfl, g, a⟩ b
/-- a new object, held aside: h tells what it holds -/
theorem RelX.newAn (R : RelX M an ρ σ H us es) (n : H p = none) (h : ∀ G, Sub G H → Reps M.K M.cl G es us → OwAt M.K M.cl G (upd H p o) p d ∧ Reps M.K M.cl G ds ts) : RelX M ((p, d) :: an) ρ σ (upd H p o) ts ds := by
  obtain ⟨G, own, r⟩ := R
  have r' := r.growH (o := o) n
  have gn : G p = none := by
    cases q : G p with
    | none => rfl
    | some u => rw [r.sub p u q] at n; cases n
  have z := h G r.sub r.tmp
  refine ⟨G, own, { r' with anp := fun q hq => ?_, apart := fun i hi q hq => ?_, anN := ?_, tmp := z.2 }⟩
  · rcases List.mem_cons.mp hq with e | hq
    · subst e; exact ⟨z.1, gn, r.h0 n⟩
    · exact r'.anp q hq
  · rcases List.mem_cons.mp hq with e | hq
    · subst e
      obtain ⟨u, hu⟩ := r.owned hi
      exact ne_of_none hu n
    · exact r.apart i hi q hq
  · rw [List.map_cons, List.nodup_cons]
    refine ⟨fun hm => ?_, r.anN⟩
    obtain ⟨q, hq, e⟩ := List.mem_map.mp hm
    obtain ⟨u, hu⟩ := (r.anp q hq).1.there
    rw [e, n] at hu; cases hu
theorem RelX.newAnLst {vs : List V} {fs : List D} (R : RelX M an ρ σ H (vs ++ ts) (fs ++ ds)) (l : vs.length = fs.length) (n : H p = none) : RelX M ((p, .lst fs) :: an) ρ σ (upd H p (.lst vs)) ts ds :=
  R.newAn n fun _ _ r => let ⟨a, b⟩ := Reps.split l.symm r; ⟨⟨vs, upd_same, a⟩, b⟩
/-- what is held aside is forgotten -/
theorem RelX.anDrop {q : Addr × D} (R : RelX M (q :: an) ρ σ H ts ds) : RelX M an ρ σ H ts ds := by
  obtain ⟨G, own, r⟩ := R
  exact ⟨G, own, { r with anp := fun x hx => r.anp x (List.mem_cons_of_mem _ hx), apart := fun i hi x hx => r.apart i hi x (List.mem_cons_of_mem _ hx), anN := (List.nodup_cons.mp (show (q.1 :: an.map (·.1)).Nodup from r.anN)).2 }⟩
/-- one place more becomes seen -/
theorem RelG.see (r : RelG M an ρ σ H ts ds G own) (ho : H a = some o) (h0 : M.H0 a = none) (nw : ∀ i, IsOw ρ i → own i ≠ a) (na : ∀ q ∈ an, q.1 ≠ a) (gn : G a = none) : RelG M an ρ σ H ts ds (upd G a o) own := by
  have s2 : Sub G (upd G a o) := sub_upd gn
  refine { r with sub := fun b u e => ?_, g0 := fun b u e => s2 b u (r.g0 b u e), fr := fun b hb h => ?_, shp := fun i d h => ?_, owp := fun i d h => ?_, bop := fun i d h => ?_, anp := fun q hq => ?_, tmp := Reps.mono s2 _ _ r.tmp }
  · by_cases hb : b = a
    · subst hb; rw [upd_same] at e; rw [← e]; exact ho
    · rw [upd_ne hb] at e; exact r.sub b u e
  · by_cases hba : b = a
    · subst hba; exact h0
    · rw [upd_ne hba] at hb; exact r.fr b hb h
  · obtain ⟨v, e, q⟩ := r.shp i d h; exact ⟨v, e, Rep.mono s2 _ _ q⟩
  · obtain ⟨e, q, g, z⟩ := r.owp i d h
    exact ⟨e, q.mono s2 fun _ hu => hu, by rw [upd_ne (nw i ⟨d, .inl h⟩)]; exact g, z⟩
  · obtain ⟨e, q, g, z⟩ := r.bop i d h
    exact ⟨e, q.mono s2 fun _ hu => hu, by rw [upd_ne (nw i ⟨d, .inr h⟩)]; exact g, z⟩
  · obtain ⟨q1, g, z⟩ := r.anp q hq
    exact ⟨q1.mono s2 fun _ hu => hu, by rw [upd_ne (na q hq)]; exact g, z⟩
/-- what is held aside becomes a shared value -/
theorem RelX.anShare (R : RelX M ((p, d) :: an) ρ σ H ts ds) : RelX M an ρ σ H (.ref p :: ts) (d :: ds) := by
  obtain ⟨G, own, r⟩ := id R
  obtain ⟨q, g, z⟩ := r.anp (p, d) List.mem_cons_self
  obtain ⟨o, ho⟩ := q.there
  have nd := List.nodup_cons.mp (show (p :: an.map (·.1)).Nodup from r.anN)
  have r1 : RelG M an ρ σ H ts ds G own := { r with anp := fun x hx => r.anp x (List.mem_cons_of_mem _ hx), apart := fun i hi x hx => r.apart i hi x (List.mem_cons_of_mem _ hx), anN := nd.2 }
  have r2 := r1.see ho z (fun i hi => r.apart i hi (p, d) List.mem_cons_self) (fun x hx e => nd.1 (List.mem_map.mpr ⟨x, hx, e⟩)) g
  have gs : (upd G p o) p = some o := upd_same
  exact ⟨_, own, { r2 with tmp := Reps.cons (q.rep ho (sub_upd g) gs) r2.tmp }⟩
end
end Dl
end
section
set_option maxHeartbeats 4000000
/-! DlB: the judgements, names, constants, operators, tests. -/
namespace Dl
open PySem PySem.Spec PyProof.Rows L2
abbrev St := L2.St

theorem pe_imp {X : Cx} {e : Expr} {t t' : TE} (h : PE X e t) (i : ∀ σ H Q, t' σ H Q → t σ H Q) : PE X e t' := ⟨fun pins s σ H Q I q => h.run pins s σ H Q I (i σ H Q q)⟩
theorem pt_imp {X : Cx} {e : Expr} {t t' : TT} (h : PT X e t) (i : ∀ σ H Q, t' σ H Q → t σ H Q) : PT X e t' := ⟨fun pins s σ H Q I q => h.run pins s σ H Q I (i σ H Q q)⟩
theorem pw_imp {X : Cx} {e : Expr} {t t' : TT} (h : PW X e t) (i : ∀ σ H Q, t' σ H Q → t σ H Q) : PW X e t' := ⟨fun w pins s σ H Q I q => h.run w pins s σ H Q I (i σ H Q q)⟩
theorem pa_imp {X : Cx} {es : List Expr} {t t' : TA} (h : PA X es t) (i : ∀ σ H Q, t' σ H Q → t σ H Q) : PA X es t' := ⟨fun p pins s σ H Q I q => h.run p pins s σ H Q I (i σ H Q q)⟩
theorem ps_imp {X : Cx} {st : Stmt} {t t' : TS} (h : PS X st t) (i : ∀ Dn σ H, t' Dn σ H → t Dn σ H) : PS X st t' := ⟨fun pins s σ H Dn I q => h.run pins s σ H Dn I (i Dn σ H q)⟩
theorem pss_imp {X : Cx} {st : List Stmt} {t t' : TS} (h : PSs X st t) (i : ∀ Dn σ H, t' Dn σ H → t Dn σ H) : PSs X st t' := ⟨fun pins s σ H Dn I q => h.run pins s σ H Dn I (i Dn σ H q)⟩
theorem pi_imp {X : Cx} {tg e : Expr} {t t' : TI} (h : PI X tg e t) (i : ∀ σ H R, t' σ H R → t σ H R) : PI X tg e t' := ⟨fun pins s σ H R I q => h.run pins s σ H R I (i σ H R q)⟩

/-- what an exception brings: its class, its fields -/
def ErrD (fs : List Str) (vs : List V) (dx : Option Addr) (H : Hp) : Prop := fs = [] ∨ (fs.length = vs.length ∧ ∃ d, dx = some d ∧ H d = some (.xd (fs.zip vs)))
def EErr (M : Mc) (an : List (Addr × D)) (ts : List V) (ds : List D) (W : WX) (σ : St) (c : Str) (fs : List Str) (es : List D) (ρ : En) : Prop :=
  ∀ (C : Addr) (dx : Option Addr) (H' : Hp) (vs : List V), M.cl c = some C → vs.length = es.length → ErrD fs vs dx H' → RelX M an ρ σ H' (vs ++ ts) (es ++ ds) → W (.ref C) dx σ H'
/-- the ends of an expression, of a test, of arguments, of a fresh object, of a statement -/
def EOk (M : Mc) (an : List (Addr × D)) (ts : List V) (ds : List D) (W : WX) (σ : St) (r : Rs D) (Q : VK) : Prop := match r with
  | .ok d ρ => ∀ v H', RelX M an ρ σ H' (v :: ts) (d :: ds) → Q v H'
  | .err c fs es ρ => EErr M an ts ds W σ c fs es ρ
  | .stuck => False
def BOk (M : Mc) (an : List (Addr × D)) (ts : List V) (ds : List D) (W : WX) (σ : St) (r : Rs Bool) (Q : Bool → Hp → Prop) : Prop := match r with
  | .ok b ρ => ∀ H', RelX M an ρ σ H' ts ds → Q b H'
  | .err c fs es ρ => EErr M an ts ds W σ c fs es ρ
  | .stuck => False
def AOk (M : Mc) (an : List (Addr × D)) (ts : List V) (ds : List D) (W : WX) (σ : St) (r : Rs (List D)) (Q : List V → Hp → Prop) : Prop := match r with
  | .ok es ρ => ∀ vs H', vs.length = es.length → RelX M an ρ σ H' (vs ++ ts) (es ++ ds) → Q vs H'
  | .err c fs es ρ => EErr M an ts ds W σ c fs es ρ
  | .stuck => False
def LOk (M : Mc) (an : List (Addr × D)) (ts : List V) (ds : List D) (W : WX) (σ : St) (r : Rs D) (Q : VK) : Prop := match r with
  | .ok d ρ => ∀ p H', RelX M ((p, d) :: an) ρ σ H' ts ds → Q (.ref p) H'
  | .err c fs es ρ => EErr M an ts ds W σ c fs es ρ
  | .stuck => False
def SOk (M : Mc) (an : List (Addr × D)) (ts : List V) (ds : List D) (W : WX) (r : Rs Fl) (Dn : Ends) : Prop := match r with
  | .ok .nx ρ => ∀ σ H', RelX M an ρ σ H' ts ds → Dn.nx σ H'
  | .ok .brk ρ => ∀ σ H', RelX M an ρ σ H' ts ds → Dn.bk σ H'
  | .ok .cont ρ => ∀ σ H', RelX M an ρ σ H' ts ds → Dn.ct σ H'
  | .ok (.ret d) ρ => ∀ v σ H', RelX M an ρ σ H' (v :: ts) (d :: ds) → Dn.rt v H'
  | .ok (.retL d) ρ => ∀ p σ H', RelX M ((p, d) :: an) ρ σ H' ts ds → Dn.rt (.ref p) H'
  | .err c fs es ρ => ∀ σ, EErr M an ts ds W σ c fs es ρ
  | .stuck => False
def tE (M : Mc) (W : WX) (f : En → Rs D) : TE := fun σ H Q => ∃ an ρ ts ds, RelX M an ρ σ H ts ds ∧ EOk M an ts ds W σ (f ρ) Q
def tB1 (M : Mc) (W : WX) (f : En → Rs Bool) : TT := fun σ H Q => ∃ an ρ ts ds, RelX M an ρ σ H ts ds ∧ BOk M an ts ds W σ (f ρ) Q
def tAr (M : Mc) (W : WX) (f : En → Rs (List D)) : TA := fun σ H Q => ∃ an ρ ts ds, RelX M an ρ σ H ts ds ∧ AOk M an ts ds W σ (f ρ) Q
def tLs (M : Mc) (W : WX) (f : En → Rs D) : TE := fun σ H Q => ∃ an ρ ts ds, RelX M an ρ σ H ts ds ∧ LOk M an ts ds W σ (f ρ) Q
def tSt (M : Mc) (W : WX) (f : En → Rs Fl) : TS := fun Dn σ H => ∃ an ρ ts ds, RelX M an ρ σ H ts ds ∧ SOk M an ts ds W (f ρ) Dn
abbrev SE (X : Cx) (M : Mc) (W : WX) (e : Expr) (f : En → Rs D) : Prop := PE X e (tE M W f)
abbrev SL (X : Cx) (M : Mc) (W : WX) (e : Expr) (f : En → Rs D) : Prop := PE X e (tLs M W f)
abbrev SB (X : Cx) (M : Mc) (W : WX) (e : Expr) (f : En → Rs Bool) : Prop := PT X e (tB1 M W f)
abbrev SW (X : Cx) (M : Mc) (W : WX) (e : Expr) (f : En → Rs Bool) : Prop := PW X e (tB1 M W f)
abbrev SA (X : Cx) (M : Mc) (W : WX) (es : List Expr) (f : En → Rs (List D)) : Prop := PA X es (tAr M W f)
abbrev SS (X : Cx) (M : Mc) (W : WX) (st : Stmt) (f : En → Rs Fl) : Prop := PS X st (tSt M W f)
abbrev SSs (X : Cx) (M : Mc) (W : WX) (st : List Stmt) (f : En → Rs Fl) : Prop := PSs X st (tSt M W f)

section
variable {M : Mc} {an : List (Addr × D)} {ts : List V} {ds : List D} {W : WX} {σ : St} {ρ : En} {H : Hp}
theorem EErr.weak {us : List V} {es' : List D} {c : Str} {fs : List Str} {es : List D} (h : EErr M an ts ds W σ c fs es ρ) (l : us.length = es'.length) : EErr M an (us ++ ts) (es' ++ ds) W σ c fs es ρ := fun C dx H' vs h1 h2 h3 R =>
  h C dx H' vs h1 h2 h3 (R.temps fun _ _ q => let ⟨a, b⟩ := Reps.split h2.symm q; Reps.append a (Reps.split l.symm b).2)
theorem EErr.weak1 {v : V} {d : D} {c : Str} {fs : List Str} {es : List D} (h : EErr M an ts ds W σ c fs es ρ) : EErr M an (v :: ts) (d :: ds) W σ c fs es ρ := h.weak (us := [v]) (es' := [d]) rfl
/-- one after the other -/
theorem EOk.bind {β : Type} {r : Rs D} {g : D → En → Rs β} {Q1 : VK} {P : Rs β → Prop} (h : P (r.bind g)) (he : ∀ c fs es ρ, P (.err c fs es ρ) → EErr M an ts ds W σ c fs es ρ) (hs : ¬ P .stuck)
    (k : ∀ d ρ1 v H1, RelX M an ρ1 σ H1 (v :: ts) (d :: ds) → P (g d ρ1) → Q1 v H1) : EOk M an ts ds W σ r Q1 := by
  cases r with
  | ok d ρ1 => exact fun v H' R => k d ρ1 v H' R h
  | err c fs es ρ1 => exact he _ _ _ _ h
  | stuck => exact hs h
theorem BOk.bind {β : Type} {r : Rs Bool} {g : Bool → En → Rs β} {Q1 : Bool → Hp → Prop} {P : Rs β → Prop} (h : P (r.bind g)) (he : ∀ c fs es ρ, P (.err c fs es ρ) → EErr M an ts ds W σ c fs es ρ) (hs : ¬ P .stuck)
    (k : ∀ b ρ1 H1, RelX M an ρ1 σ H1 ts ds → P (g b ρ1) → Q1 b H1) : BOk M an ts ds W σ r Q1 := by
  cases r with
  | ok d ρ1 => exact fun H' R => k d ρ1 H' R h
  | err c fs es ρ1 => exact he _ _ _ _ h
  | stuck => exact hs h
theorem AOk.bind {β : Type} {r : Rs (List D)} {g : List D → En → Rs β} {Q1 : List V → Hp → Prop} {P : Rs β → Prop} (h : P (r.bind g)) (he : ∀ c fs es ρ, P (.err c fs es ρ) → EErr M an ts ds W σ c fs es ρ) (hs : ¬ P .stuck)
    (k : ∀ es ρ1 vs H1, vs.length = es.length → RelX M an ρ1 σ H1 (vs ++ ts) (es ++ ds) → P (g es ρ1) → Q1 vs H1) : AOk M an ts ds W σ r Q1 := by
  cases r with
  | ok d ρ1 => exact fun vs H' l R => k d ρ1 vs H' l R h
  | err c fs es ρ1 => exact he _ _ _ _ h
  | stuck => exact hs h
theorem LOk.bind {β : Type} {r : Rs D} {g : D → En → Rs β} {Q1 : VK} {P : Rs β → Prop} (h : P (r.bind g)) (he : ∀ c fs es ρ, P (.err c fs es ρ) → EErr M an ts ds W σ c fs es ρ) (hs : ¬ P .stuck)
    (k : ∀ d ρ1 p H1, RelX M ((p, d) :: an) ρ1 σ H1 ts ds → P (g d ρ1) → Q1 (.ref p) H1) : LOk M an ts ds W σ r Q1 := by
  cases r with
  | ok d ρ1 => exact fun p H' R => k d ρ1 p H' R h
  | err c fs es ρ1 => exact he _ _ _ _ h
  | stuck => exact hs h
theorem SOk.bind {β : Type} {r : Rs Fl} {g : Fl → En → Rs β} {P : Rs β → Prop} {Dn : Ends} (h : P (r.bind g)) (he : ∀ c fs es ρ, P (.err c fs es ρ) → ∀ σ, EErr M an ts ds W σ c fs es ρ) (hs : ¬ P .stuck)
    (k1 : ∀ ρ1 σ1 H1, RelX M an ρ1 σ1 H1 ts ds → P (g .nx ρ1) → Dn.nx σ1 H1) (k2 : ∀ ρ1 σ1 H1, RelX M an ρ1 σ1 H1 ts ds → P (g .brk ρ1) → Dn.bk σ1 H1) (k3 : ∀ ρ1 σ1 H1, RelX M an ρ1 σ1 H1 ts ds → P (g .cont ρ1) → Dn.ct σ1 H1)
    (k4 : ∀ d ρ1 v σ1 H1, RelX M an ρ1 σ1 H1 (v :: ts) (d :: ds) → P (g (.ret d) ρ1) → Dn.rt v H1) (k5 : ∀ d ρ1 p σ1 H1, RelX M ((p, d) :: an) ρ1 σ1 H1 ts ds → P (g (.retL d) ρ1) → Dn.rt (.ref p) H1) : SOk M an ts ds W r Dn := by
  cases r with
  | ok d ρ1 =>
    cases d with
    | nx => exact fun σ1 H' R => k1 ρ1 σ1 H' R h
    | brk => exact fun σ1 H' R => k2 ρ1 σ1 H' R h
    | cont => exact fun σ1 H' R => k3 ρ1 σ1 H' R h
    | ret d => exact fun v σ1 H' R => k4 d ρ1 v σ1 H' R h
    | retL d => exact fun p σ1 H' R => k5 d ρ1 p σ1 H' R h
  | err c fs es ρ1 => exact he _ _ _ _ h
  | stuck => exact hs h
end

/-! ### names and constants -/
def fVar (i : Nat) : En → Rs D := fun ρ => match ρ[i]? with
  | some (some (.sh d)) => .ok d ρ
  | some (some (.ow d)) => .ok d (ρ.set i (some (.sh d)))
  | _ => .stuck
section
variable {X : Cx} {M : Mc} {W : WX}
theorem RelX.var {an : List (Addr × D)} {ρ : En} {σ : St} {H : Hp} {ts : List V} {ds : List D} {i : Nat} {d : D} (R : RelX M an ρ σ H ts ds) (h : ρ[i]? = some (some (.sh d))) : ∃ v, σ[i]? = some (some v) ∧ RelX M an ρ σ H (v :: ts) (d :: ds) := by
  obtain ⟨G, own, r⟩ := R
  obtain ⟨v, e, q⟩ := r.shp i d h
  exact ⟨v, e, G, own, { r with tmp := Reps.cons q r.tmp }⟩
theorem isOw_set {ρ : En} {i j : Nat} {d : D} (h : IsOw (ρ.set i (some (.sh d))) j) : IsOw ρ j := by
  obtain ⟨e, h⟩ := h
  by_cases hij : i = j
  · subst hij
    by_cases hl : i < ρ.length
    · rw [List.getElem?_set_self hl] at h; rcases h with h | h <;> cases h
    · rw [List.set_eq_of_length_le (Nat.le_of_not_lt hl)] at h; exact ⟨e, h⟩
  · rw [List.getElem?_set_ne hij] at h; exact ⟨e, h⟩
theorem not_isOw_set {ρ : En} {i : Nat} {d : D} (hl : i < ρ.length) : ¬ IsOw (ρ.set i (some (.sh d))) i := by
  rintro ⟨e, h⟩
  rw [List.getElem?_set_self hl] at h; rcases h with h | h <;> cases h
/-- an owned one is given away -/
theorem RelX.release {an : List (Addr × D)} {ρ : En} {σ : St} {H : Hp} {ts : List V} {ds : List D} {i : Nat} {d : D} (R : RelX M an ρ σ H ts ds) (h : ρ[i]? = some (some (.ow d))) :
    ∃ v, σ[i]? = some (some v) ∧ RelX M an (ρ.set i (some (.sh d))) σ H (v :: ts) (d :: ds) := by
  obtain ⟨G, own, r⟩ := R
  obtain ⟨e, q, g, z⟩ := r.owp i d h
  obtain ⟨o, ho⟩ := q.there
  have hl : i < ρ.length := (List.getElem?_eq_some_iff.mp h).1
  have s2 : Sub G (upd G (own i) o) := sub_upd g
  have rp : Rep M.K M.cl (upd G (own i) o) d (.ref (own i)) := q.rep ho s2 upd_same
  have r1 : RelG M an (ρ.set i (some (.sh d))) σ H ts ds (upd G (own i) o) own := by
    refine { sub := fun b u eb => ?_, g0 := fun b u eb => s2 b u (r.g0 b u eb), fr := fun b hb h0 => ?_, ext := r.ext, wok := r.wok, shp := fun j d' hj => ?_, owp := fun j d' hj => ?_, bop := fun j d' hj => ?_, anp := fun x hx => ?_, inj := fun j k hj hk => r.inj j k (isOw_set hj) (isOw_set hk), apart := fun j hj => r.apart j (isOw_set hj), anN := r.anN, len := by simpa using r.len, tmp := Reps.mono s2 _ _ r.tmp }
    · by_cases hb : b = own i
      · subst hb; rw [upd_same] at eb; rw [← eb]; exact ho
      · rw [upd_ne hb] at eb; exact r.sub b u eb
    · by_cases hb' : b = own i
      · subst hb'; exact z
      · rw [upd_ne hb'] at hb; exact r.fr b hb h0
    · by_cases hij : i = j
      · subst hij; rw [List.getElem?_set_self hl] at hj; cases hj
        exact ⟨_, e, rp⟩
      · rw [List.getElem?_set_ne hij] at hj
        obtain ⟨v, e', q'⟩ := r.shp j d' hj; exact ⟨v, e', Rep.mono s2 _ _ q'⟩
    · by_cases hij : i = j
      · subst hij; rw [List.getElem?_set_self hl] at hj; cases hj
      · rw [List.getElem?_set_ne hij] at hj
        obtain ⟨e', q', g', z'⟩ := r.owp j d' hj
        have ne : own j ≠ own i := fun c => hij (r.inj j i ⟨d', .inl hj⟩ ⟨d, .inl h⟩ c).symm
        exact ⟨e', q'.mono s2 fun _ hu => hu, by rw [upd_ne ne]; exact g', z'⟩
    · by_cases hij : i = j
      · subst hij; rw [List.getElem?_set_self hl] at hj; cases hj
      · rw [List.getElem?_set_ne hij] at hj
        obtain ⟨e', q', g', z'⟩ := r.bop j d' hj
        have ne : own j ≠ own i := fun c => hij (r.inj j i ⟨d', .inr hj⟩ ⟨d, .inl h⟩ c).symm
        exact ⟨e', q'.mono s2 fun _ hu => hu, by rw [upd_ne ne]; exact g', z'⟩
    · obtain ⟨q1, g1, z1⟩ := r.anp x hx
      exact ⟨q1.mono s2 fun _ hu => hu, by rw [upd_ne (Ne.symm (r.apart i ⟨d, .inl h⟩ x hx))]; exact g1, z1⟩
  exact ⟨_, e, _, own, { r1 with tmp := Reps.cons rp r1.tmp }⟩
theorem se_var (i : Nat) {x : Str} {pos : Pos} (hN : X.N[i]? = some x := by rfl) (hv : Vis X.env.scope x := by first | exact Or.inl rfl | exact Or.inr (Or.inl rfl) | exact Or.inr (Or.inr rfl)) (hd : (x == ("__debug__" : Str)) = false := by decide)
    (hcd : (x == ("__classdict__" : Str)) = false := by decide) : SE X M W (.Name x pos) (fVar i) := by
  refine pe_imp (pe_var hN hv hd hcd) fun σ H Q ⟨an, ρ, ts, ds, R, h⟩ => ?_
  unfold fVar at h
  cases q : ρ[i]? with
  | none => rw [q] at h; exact h.elim
  | some o =>
    rw [q] at h
    cases o with
    | none => exact h.elim
    | some s =>
      cases s with
      | sh d => obtain ⟨v, e, R'⟩ := R.var q; exact ⟨v, e, h v H R'⟩
      | ow d => obtain ⟨v, e, R'⟩ := R.release q; exact ⟨v, e, h v H R'⟩
      | bo d => exact h.elim
def fC (d : D) : En → Rs D := fun ρ => .ok d ρ
theorem RelX.push {an : List (Addr × D)} {ρ : En} {σ : St} {H : Hp} {ts : List V} {ds : List D} {v : V} {d : D} (R : RelX M an ρ σ H ts ds) (h : ∀ G, Rep M.K M.cl G d v) : RelX M an ρ σ H (v :: ts) (d :: ds) := R.temps fun G _ q => Reps.cons (h G) q
theorem se_c {e : Expr} {v : V} {d : D} (he : PE X e (tC v)) (h : ∀ G, Rep M.K M.cl G d v) : SE X M W e (fC d) :=
  pe_imp he fun σ H Q ⟨an, ρ, ts, ds, R, k⟩ => k v H (R.push h)
theorem se_int {i j pos} : SE X M W (.Constant (.int i) j pos) (fC (.int i)) := se_c pe_int fun _ => rfl
theorem se_bl {b j pos} : SE X M W (.Constant (.bool b) j pos) (fC (.bl b)) := se_c pe_bl fun _ => rfl
theorem se_non {j pos} : SE X M W (.Constant .none j pos) (fC .non) := se_c pe_non fun _ => rfl
theorem se_str {x j pos} : SE X M W (.Constant (.str x) j pos) (fC (.str x)) := se_c pe_str fun _ => rfl
/-- a module's constant -/
theorem se_globI {x : Str} {i : Int} {t : Tok} {pos : Pos} (hm : X.mg x = some (.int i t)) (hg : Gl X x := by rfl) (hd : (x == ("__debug__" : Str)) = false := by decide) : SE X M W (.Name x pos) (fC (.int i)) := se_c (pe_glob (v := .int i) hg hm ⟨t, rfl⟩ hd) fun _ => rfl
theorem se_globS {x : Str} {i : Str} {t : Tok} {pos : Pos} (hm : X.mg x = some (.str i t)) (hg : Gl X x := by rfl) (hd : (x == ("__debug__" : Str)) = false := by decide) : SE X M W (.Name x pos) (fC (.str i)) := se_c (pe_glob (v := .str i) hg hm ⟨t, rfl⟩ hd) fun _ => rfl
end

/-! ### operators -/
def fBin (g : D → D → Option D) (fa fb : En → Rs D) : En → Rs D := fun ρ => (fa ρ).bind fun a ρ1 => (fb ρ1).bind fun b ρ2 => match g a b with
  | some d => .ok d ρ2
  | none => .stuck
/-- an operation on values does on trees what g says -/
def BinS (M : Mc) (r : R2) (g : D → D → Option D) : Prop := ∀ (an : List (Addr × D)) (ρ : En) (σ : St) (H : Hp) (ts : List V) (ds : List D) (a b d : D) (x y : V) (Q : VK), g a b = some d → RelX M an ρ σ H (y :: x :: ts) (b :: a :: ds) →
  (∀ v H', RelX M an ρ σ H' (v :: ts) (d :: ds) → Q v H') → r x y H Q
section
variable {X : Cx} {M : Mc} {W : WX} {a b c : Expr} {fa fb fc : En → Rs D} {pos : Pos} {r : R2} {g : D → D → Option D}
theorem bin_core (hs : BinS M r g) {σ : St} {H : Hp} {Q : VK} (h : tE M W (fBin g fa fb) σ H Q) : tOp r (tE M W fa) (tE M W fb) σ H Q := by
  obtain ⟨an, ρ, ts, ds, R, h⟩ := h
  refine ⟨an, ρ, ts, ds, R, EOk.bind (P := fun z => EOk M an ts ds W σ z Q) h (fun _ _ _ _ z => z) id fun d ρ1 v H1 R1 h1 => ?_⟩
  refine ⟨an, ρ1, v :: ts, d :: ds, R1, EOk.bind (P := fun z => EOk M an ts ds W σ z Q) h1 (fun _ _ _ _ z => z.weak1) id fun d2 ρ2 v2 H2 R2 h2 => ?_⟩
  cases q : g d d2 with
  | none => rw [q] at h2; exact h2.elim
  | some z => rw [q] at h2; exact hs an ρ2 σ H2 ts ds d d2 z v v2 Q q R2 h2
theorem se_bin {op : Operator} (ho : OpR X (binaryOp op) r) (hs : BinS M r g) (ha : SE X M W a fa) (hb : SE X M W b fb) : SE X M W (.BinOp a op b pos) (fBin g fa fb) :=
  pe_imp (pe_op ho ha hb) fun _ _ _ h => bin_core hs h
theorem se_cmp {op : CmpOp} (ho : OpR X (compareOp op) r) (hs : BinS M r g) (ha : SE X M W a fa) (hb : SE X M W b fb) (hm : behindInMarks op b = false) : SE X M W (.Compare a [op] [b] pos) (fBin g fa fb) :=
  pe_imp (pe_cmpR ho ha hb hm) fun _ _ _ h => bin_core hs h
/-- a truth value as a test -/
def fTr (f : En → Rs D) : En → Rs Bool := fun ρ => (f ρ).bind fun d ρ1 => match d with
  | .bl b => .ok b ρ1
  | _ => .stuck
theorem tr_core {f : En → Rs D} {σ : St} {H : Hp} {Q : Bool → Hp → Prop} (h : tB1 M W (fTr f) σ H Q) : tE M W f σ H fun x H' => ∃ k, x = .bl k ∧ Q k H' := by
  obtain ⟨an, ρ, ts, ds, R, h⟩ := h
  refine ⟨an, ρ, ts, ds, R, EOk.bind (P := fun z => BOk M an ts ds W σ z Q) h (fun _ _ _ _ z => z) id fun d ρ1 v H1 R1 h1 => ?_⟩
  cases d with
  | bl k =>
    have e : v = .bl k := R1.repH
    exact ⟨k, e, h1 H1 R1.pop⟩
  | _ => exact h1.elim
theorem sb_val {e : Expr} {f : En → Rs D} (h : SE X M W e f) (he : ∀ whole, isTrue e X.env whole = (do let v ← whole; standAt e.pos; holding [v] (truthy v)) := by intro _; rfl) : SB X M W e (fTr f) :=
  pt_imp (pt_val h he) fun _ _ _ q => tr_core q
theorem sb_cmp {op : CmpOp} (ho : OpR X (compareOp op) r) (hs : BinS M r g) (ha : SE X M W a fa) (hb : SE X M W b fb) (hm : behindInMarks op b = false) : SB X M W (.Compare a [op] [b] pos) (fTr (fBin g fa fb)) :=
  pt_imp (pt_cmpR ho ha hb hm) fun _ _ _ q => bin_core hs (tr_core q)
/-- a op1 b op2 c -/
def fChain (g g2 : D → D → Option D) (fa fb fc : En → Rs D) : En → Rs D := fun ρ => (fa ρ).bind fun a ρ1 => (fb ρ1).bind fun b ρ2 => match g a b with
  | some (.bl true) => (fc ρ2).bind fun c ρ3 => match g2 b c with
    | some d => .ok d ρ3
    | none => .stuck
  | some (.bl false) => .ok (.bl false) ρ2
  | _ => .stuck
end
/-- an operation whose answer is a scalar and that leaves the heap -/
def CmpS (M : Mc) (r : R2) (g : D → D → Option D) : Prop := ∀ (H : Hp) (a b : D) (k : Bool) (x y : V) (Q : VK), g a b = some (.bl k) → Rep M.K M.cl H a x → Rep M.K M.cl H b y → Q (.bl k) H → r x y H Q
section
variable {X : Cx} {M : Mc} {W : WX} {a b c : Expr} {fa fb fc : En → Rs D} {pos : Pos} {r r2 : R2} {g g2 : D → D → Option D}
theorem CmpS.bin (h : CmpS M r g) (hg : ∀ a b d, g a b = some d → ∃ k, d = .bl k) : BinS M r g := fun an ρ σ H ts ds a b d x y Q e R k => by
  obtain ⟨kk, rfl⟩ := hg _ _ _ e
  have q := R.repsH
  exact h H a b kk x y Q e q.tail.head q.head (k _ _ (R.pop2.push fun _ => rfl))
theorem chain_core (hs : CmpS M r g) (hs2 : BinS M r2 g2) {σ : St} {H : Hp} {Q : VK} (h : tE M W (fChain g g2 fa fb fc) σ H Q) : tChain r r2 (tE M W fa) (tE M W fb) (tE M W fc) σ H Q := by
  obtain ⟨an, ρ, ts, ds, R, h⟩ := h
  refine ⟨an, ρ, ts, ds, R, EOk.bind (P := fun z => EOk M an ts ds W σ z Q) h (fun _ _ _ _ z => z) id fun d ρ1 v H1 R1 h1 => ?_⟩
  refine ⟨an, ρ1, v :: ts, d :: ds, R1, EOk.bind (P := fun z => EOk M an ts ds W σ z Q) h1 (fun _ _ _ _ z => z.weak1) id fun d2 ρ2 v2 H2 R2 h2 => ?_⟩
  have q := R2.repsH
  have main : ∀ k, g d d2 = some (.bl k) → (∃ k', V.bl k = .bl k' ∧ (if k' = true then tE M W fc σ H2 fun w' H4 => r2 v2 w' H4 Q else Q (.bl false) H2)) → r v v2 H2 fun z H3 => ∃ k', z = .bl k' ∧ (if k' = true then tE M W fc σ H3 fun w' H4 => r2 v2 w' H4 Q else Q (.bl false) H3) :=
    fun k e z => hs H2 d d2 k v v2 _ e q.tail.head q.head z
  cases e : g d d2 with
  | none => rw [e] at h2; exact h2.elim
  | some z =>
    rw [e] at h2
    cases z with
    | bl k =>
      refine main k e ⟨k, rfl, ?_⟩
      cases k with
      | false => exact iteF (h2 _ _ (R2.pop2.push fun _ => rfl))
      | true =>
        refine iteT ⟨an, ρ2, v2 :: ts, d2 :: ds, R2.temps fun _ _ q => Reps.cons q.head q.tail.tail, EOk.bind (P := fun z => EOk M an ts ds W σ z Q) h2 (fun _ _ _ _ z => z.weak1) id fun d3 ρ3 v3 H3 R3 h3 => ?_⟩
        cases e3 : g2 d2 d3 with
        | none => rw [e3] at h3; exact h3.elim
        | some z => rw [e3] at h3; exact hs2 an ρ3 σ H3 ts ds d2 d3 z v2 v3 Q e3 R3 h3
    | _ => exact h2.elim
theorem se_chain {op op' : CmpOp} (ho : OpR X (compareOp op) r) (ho' : OpR X (compareOp op') r2) (hs : CmpS M r g) (hs2 : BinS M r2 g2) (ha : SE X M W a fa) (hb : SE X M W b fb) (hc : SE X M W c fc) (hm : lastMarks [op, op'] [b, c] = false := by with_unfolding_all rfl) :
    SE X M W (.Compare a [op, op'] [b, c] pos) (fChain g g2 fa fb fc) := pe_imp (pe_chain ho ho' ha hb hc hm) fun _ _ _ h => chain_core hs hs2 h
theorem sb_chain {op op' : CmpOp} (ho : OpR X (compareOp op) r) (ho' : OpR X (compareOp op') r2) (hs : CmpS M r g) (hs2 : BinS M r2 g2) (ha : SE X M W a fa) (hb : SE X M W b fb) (hc : SE X M W c fc) (hm : lastMarks [op, op'] [b, c] = false := by with_unfolding_all rfl) :
    SB X M W (.Compare a [op, op'] [b, c] pos) (fTr (fChain g g2 fa fb fc)) := pt_imp (pt_chain ho ho' ha hb hc hm) fun _ _ _ h => chain_core hs hs2 (tr_core h)
end
/-! ### and, or, not, a if t else b -/
def fAndB (fa fb : En → Rs Bool) : En → Rs Bool := fun ρ => (fa ρ).bind fun a ρ1 => if a = true then fb ρ1 else .ok false ρ1
def fOrB (fa fb : En → Rs Bool) : En → Rs Bool := fun ρ => (fa ρ).bind fun a ρ1 => if a = true then .ok true ρ1 else fb ρ1
def fNotB (fa : En → Rs Bool) : En → Rs Bool := fun ρ => (fa ρ).bind fun a ρ1 => .ok (!a) ρ1
def fAnd (fa fb : En → Rs D) : En → Rs D := fun ρ => (fTr fa ρ).bind fun a ρ1 => if a = true then fb ρ1 else .ok (.bl false) ρ1
def fOr (fa fb : En → Rs D) : En → Rs D := fun ρ => (fTr fa ρ).bind fun a ρ1 => if a = true then .ok (.bl true) ρ1 else fb ρ1
def fNot (fa : En → Rs D) : En → Rs D := fun ρ => (fTr fa ρ).bind fun a ρ1 => .ok (.bl (!a)) ρ1
def fIf (fc : En → Rs Bool) (fa fb : En → Rs D) : En → Rs D := fun ρ => (fc ρ).bind fun c ρ1 => if c = true then fa ρ1 else fb ρ1
section
variable {X : Cx} {M : Mc} {W : WX} {a b c : Expr} {fa fb : En → Rs D} {ga gb : En → Rs Bool} {pos : Pos} {rest : List Expr}
theorem sw_and1 (ha : SB X M W a ga) : SW X M W (.BoolOp .And [a] pos) ga := pw_and1 ha
theorem sw_or1 (ha : SB X M W a ga) : SW X M W (.BoolOp .Or [a] pos) ga := pw_or1 ha
theorem sw_and (ha : SB X M W a ga) (hb : SW X M W (.BoolOp .And (b :: rest) pos) gb) : SW X M W (.BoolOp .And (a :: b :: rest) pos) (fAndB ga gb) := by
  refine pw_imp (pw_and ha hb) fun σ H Q ⟨an, ρ, ts, ds, R, h⟩ => ?_
  refine ⟨an, ρ, ts, ds, R, BOk.bind (P := fun z => BOk M an ts ds W σ z Q) h (fun _ _ _ _ z => z) id fun b ρ1 H1 R1 h1 => ?_⟩
  cases b with
  | true => exact iteT ⟨an, ρ1, ts, ds, R1, h1⟩
  | false => exact iteF (h1 _ R1)
theorem sw_or (ha : SB X M W a ga) (hb : SW X M W (.BoolOp .Or (b :: rest) pos) gb) : SW X M W (.BoolOp .Or (a :: b :: rest) pos) (fOrB ga gb) := by
  refine pw_imp (pw_or ha hb) fun σ H Q ⟨an, ρ, ts, ds, R, h⟩ => ?_
  refine ⟨an, ρ, ts, ds, R, BOk.bind (P := fun z => BOk M an ts ds W σ z Q) h (fun _ _ _ _ z => z) id fun b ρ1 H1 R1 h1 => ?_⟩
  cases b with
  | true => exact iteT (h1 _ R1)
  | false => exact iteF ⟨an, ρ1, ts, ds, R1, h1⟩
theorem sb_w {e : Expr} (h : SW X M W e ga) : SB X M W e ga := PW.pt h
theorem sb_not (ha : SB X M W a ga) : SB X M W (.UnaryOp .Not a pos) (fNotB ga) := by
  refine pt_imp (pt_not ha) fun σ H Q ⟨an, ρ, ts, ds, R, h⟩ => ?_
  exact ⟨an, ρ, ts, ds, R, BOk.bind (P := fun z => BOk M an ts ds W σ z Q) h (fun _ _ _ _ z => z) id fun b ρ1 H1 R1 h1 => h1 _ R1⟩
theorem se_one {op} (h : SE X M W a fa) : SE X M W (.BoolOp op [a] pos) fa := pe_one h
theorem se_and (ha : SE X M W a fa) (hb : SE X M W (.BoolOp .And (b :: rest) pos) fb) : SE X M W (.BoolOp .And (a :: b :: rest) pos) (fAnd fa fb) := by
  refine pe_imp (pe_and ha hb) fun σ H Q ⟨an, ρ, ts, ds, R, h⟩ => ?_
  refine tr_core (Q := fun c H1 => if c = true then tE M W fb σ H1 Q else Q (.bl false) H1) ⟨an, ρ, ts, ds, R, BOk.bind (P := fun z => EOk M an ts ds W σ z Q) h (fun _ _ _ _ z => z) id fun b ρ1 H1 R1 h1 => ?_⟩
  cases b with
  | true => exact iteT ⟨an, ρ1, ts, ds, R1, h1⟩
  | false => exact iteF (h1 _ _ (R1.push fun _ => rfl))
theorem se_or (ha : SE X M W a fa) (hb : SE X M W (.BoolOp .Or (b :: rest) pos) fb) : SE X M W (.BoolOp .Or (a :: b :: rest) pos) (fOr fa fb) := by
  refine pe_imp (pe_or ha hb) fun σ H Q ⟨an, ρ, ts, ds, R, h⟩ => ?_
  refine tr_core (Q := fun c H1 => if c = true then Q (.bl true) H1 else tE M W fb σ H1 Q) ⟨an, ρ, ts, ds, R, BOk.bind (P := fun z => EOk M an ts ds W σ z Q) h (fun _ _ _ _ z => z) id fun b ρ1 H1 R1 h1 => ?_⟩
  cases b with
  | true => exact iteT (h1 _ _ (R1.push fun _ => rfl))
  | false => exact iteF ⟨an, ρ1, ts, ds, R1, h1⟩
theorem se_not (ha : SE X M W a fa) : SE X M W (.UnaryOp .Not a pos) (fNot fa) := by
  refine pe_imp (pe_not ha) fun σ H Q ⟨an, ρ, ts, ds, R, h⟩ => ?_
  exact tr_core (Q := fun c H1 => Q (.bl (!c)) H1) ⟨an, ρ, ts, ds, R, BOk.bind (P := fun z => EOk M an ts ds W σ z Q) h (fun _ _ _ _ z => z) id fun b ρ1 H1 R1 h1 => h1 _ _ (R1.push fun _ => rfl)⟩
theorem se_if (hc : SB X M W c ga) (ha : SE X M W a fa) (hb : SE X M W b fb) : SE X M W (.IfExp c a b pos) (fIf ga fa fb) := by
  refine pe_imp (pe_ifExp hc ha hb) fun σ H Q ⟨an, ρ, ts, ds, R, h⟩ => ?_
  refine ⟨an, ρ, ts, ds, R, BOk.bind (P := fun z => EOk M an ts ds W σ z Q) h (fun _ _ _ _ z => z) id fun b ρ1 H1 R1 h1 => ?_⟩
  cases b with
  | true => exact iteT ⟨an, ρ1, ts, ds, R1, h1⟩
  | false => exact iteF ⟨an, ρ1, ts, ds, R1, h1⟩
end
/-! ### argument lists, displays -/
def fNil : En → Rs (List D) := fun ρ => .ok [] ρ
def fCons (f : En → Rs D) (g : En → Rs (List D)) : En → Rs (List D) := fun ρ => (f ρ).bind fun d ρ1 => (g ρ1).bind fun ds ρ2 => .ok (d :: ds) ρ2
def fTup (g : En → Rs (List D)) : En → Rs D := fun ρ => (g ρ).bind fun ds ρ1 => if ds.length ≤ sizeLine then .ok (.tup ds) ρ1 else .stuck
def fLst (g : En → Rs (List D)) : En → Rs D := fun ρ => (g ρ).bind fun ds ρ1 => if ds.length ≤ sizeLine then .ok (.lst ds) ρ1 else .stuck
section
variable {X : Cx} {M : Mc} {W : WX} {e : Expr} {es : List Expr} {f : En → Rs D} {g : En → Rs (List D)} {pos : Pos}
theorem sa_nil : SA X M W [] fNil := pa_imp pa_nil fun σ H Q ⟨an, ρ, ts, ds, R, h⟩ => h [] H rfl R
theorem sa_cons (he : SE X M W e f) (hr : SA X M W es g) (hs : starEach (e :: es) X.env = (false, eval e X.env) :: starEach es X.env := by rfl) : SA X M W (e :: es) (fCons f g) := by
  refine pa_imp (pa_cons he hr hs) fun σ H Q ⟨an, ρ, ts, ds, R, h⟩ => ?_
  refine ⟨an, ρ, ts, ds, R, EOk.bind (P := fun z => AOk M an ts ds W σ z Q) h (fun _ _ _ _ z => z) id fun d ρ1 v H1 R1 h1 => ?_⟩
  refine ⟨an, ρ1, v :: ts, d :: ds, R1, AOk.bind (P := fun z => AOk M an ts ds W σ z Q) h1 (fun _ _ _ _ z => z.weak1) id fun es ρ2 vs H2 l R2 h2 => ?_⟩
  refine h2 (v :: vs) H2 (by simp [l]) (R2.temps fun _ _ q => ?_)
  obtain ⟨q1, q2⟩ := Reps.split l.symm q
  exact Reps.cons q2.head (Reps.append q1 q2.tail)
theorem se_tup {x1} (h : SA X M W es g) : SE X M W (.Tuple es x1 pos) (fTup g) := by
  refine pe_imp (pe_tup h) fun σ H Q ⟨an, ρ, ts, ds, R, h⟩ => ?_
  refine ⟨an, ρ, ts, ds, R, AOk.bind (P := fun z => EOk M an ts ds W σ z Q) h (fun _ _ _ _ z => z) id fun es ρ1 vs H1 l R1 h1 => ?_⟩
  by_cases c : es.length ≤ sizeLine
  · rw [if_pos c] at h1
    exact ⟨by rw [l]; exact c, fun p hp => h1 _ _ (R1.newTup l hp)⟩
  · rw [if_neg c] at h1; exact h1.elim
theorem sl_lst (h : SA X M W es g) : SL X M W (.List es pos) (fLst g) := by
  refine pe_imp (pe_lst h) fun σ H Q ⟨an, ρ, ts, ds, R, h⟩ => ?_
  refine ⟨an, ρ, ts, ds, R, AOk.bind (P := fun z => LOk M an ts ds W σ z Q) h (fun _ _ _ _ z => z) id fun es ρ1 vs H1 l R1 h1 => ?_⟩
  by_cases c : es.length ≤ sizeLine
  · rw [if_pos c] at h1
    exact ⟨by rw [l]; exact c, fun p hp => h1 _ _ (R1.newAnLst l hp)⟩
  · rw [if_neg c] at h1; exact h1.elim
/-- a fresh object as a value -/
theorem se_l (h : SL X M W e f) : SE X M W e f := pe_imp h fun σ H Q ⟨an, ρ, ts, ds, R, k⟩ => ⟨an, ρ, ts, ds, R, by
  cases q : f ρ with
  | ok d ρ1 => rw [q] at k; exact fun p H' R1 => k _ _ R1.anShare
  | err c fs es ρ1 => rw [q] at k; exact k
  | stuck => rw [q] at k; exact k⟩
end
end Dl
end
section
set_option maxHeartbeats 4000000
/-! DlC: the operators on trees. -/
namespace Dl
open PySem PySem.Spec PyProof.Rows L2
/-! ### plain data -/
mutual
def D.py : D → Option PyData
  | .non => some .none
  | .bl b => some (.bool b)
  | .int i => some (.int i)
  | .str x => some (.str x)
  | .tup ds => (pyAll ds).map .tuple
  | .lst ds => (pyAll ds).map .list
  | .frz ds => (pyAll ds).map .list
  | .dic _ _ => none
  | .ins _ _ _ => none
  | .loc _ _ => none
def pyAll : List D → Option (List PyData)
  | [] => some []
  | d :: ds => d.py.bind fun x => (pyAll ds).map (x :: ·)
end
section
variable {K : PySem.W.Frag} {cl : Str → Option Addr} {H : Hp}
mutual
theorem rep_dp : ∀ (d : D) (v : V) (x : PyData), d.py = some x → Rep K cl H d v → Dp K H v x
  | .non, v, x, e, h => by simp [D.py] at e; subst e; cases (show v = _ from h); exact .non
  | .bl b, v, x, e, h => by simp [D.py] at e; subst e; cases (show v = _ from h); exact .bl b
  | .int i, v, x, e, h => by simp [D.py] at e; subst e; cases (show v = _ from h); exact .int i
  | .str z, v, x, e, h => by simp [D.py] at e; subst e; cases (show v = _ from h); exact .str z
  | .tup ds, v, x, e, h => by
    obtain ⟨xs, e1, rfl⟩ := Option.map_eq_some_iff.mp (show (pyAll ds).map _ = some x from e)
    obtain ⟨a, vs, rfl, q, r⟩ := h
    exact .tup q (rep_dps ds vs xs e1 r)
  | .lst ds, v, x, e, h => by
    obtain ⟨xs, e1, rfl⟩ := Option.map_eq_some_iff.mp (show (pyAll ds).map _ = some x from e)
    obtain ⟨a, vs, rfl, q, r⟩ := h
    exact .lst (SqL.of q) (rep_dps ds vs xs e1 r)
  | .frz ds, v, x, e, h => by
    obtain ⟨xs, e1, rfl⟩ := Option.map_eq_some_iff.mp (show (pyAll ds).map _ = some x from e)
    obtain ⟨a, vs, rfl, q, r⟩ := h
    exact .lst q (rep_dps ds vs xs e1 r)
  | .dic _ _, v, x, e, h => by simp [D.py] at e
  | .ins _ _ _, v, x, e, h => by simp [D.py] at e
  | .loc _ _, v, x, e, h => by simp [D.py] at e
theorem rep_dps : ∀ (ds : List D) (vs : List V) (xs : List PyData), pyAll ds = some xs → Reps K cl H ds vs → DpAll K H vs xs
  | [], vs, xs, e, h => by simp [pyAll] at e; subst e; cases (show vs = _ from h); exact .nil
  | d :: ds, vs, xs, e, h => by
    obtain ⟨x, e1, e2⟩ := Option.bind_eq_some_iff.mp (show d.py.bind _ = some xs from e)
    obtain ⟨ys, e3, rfl⟩ := Option.map_eq_some_iff.mp e2
    obtain ⟨v, r, rfl, h1, h2⟩ := h
    exact .cons (rep_dp d v x e1 h1) (rep_dps ds r ys e3 h2)
end
end

def wid (i : Int) : Bool := decide (i.natAbs < 2 ^ 4000)
/-! ### arithmetic -/
def opAdd : D → D → Option D
  | .int i, .int j => some (.int (i + j))
  | .str x, .str y => if x.length + y.length ≤ sizeLine then some (.str (x ++ y)) else none
  | .lst xs, .lst ys => if xs.length + ys.length ≤ sizeLine then some (.lst (xs ++ ys)) else none
  | .tup xs, .tup ys => if xs.length + ys.length ≤ sizeLine then some (.tup (xs ++ ys)) else none
  | _, _ => none
def opSub : D → D → Option D
  | .int i, .int j => some (.int (i - j))
  | _, _ => none
def opMul : D → D → Option D
  | .int i, .int j => if wid i && wid j then some (.int (i * j)) else none
  | .lst xs, .int k => if 0 ≤ k ∧ k ≤ 100000 ∧ xs.length * k.toNat ≤ sizeLine then some (.lst (List.replicate k.toNat xs).flatten) else none
  | _, _ => none
def opDiv : D → D → Option D
  | .int i, .int j => if 0 < j && wid j then some (.int (i / j)) else none
  | _, _ => none
def opMod : D → D → Option D
  | .int i, .int j => if 0 < j then some (.int (i % j)) else none
  | _, _ => none
def opPow : D → D → Option D
  | .int i, .int j => if 0 ≤ j ∧ j ≤ 1000 ∧ i.natAbs < 2 ^ 64 then some (.int (i ^ j.toNat)) else none
  | _, _ => none
section
variable {X : Cx} {M : Mc}
theorem BinS.or {r r' : R2} {g : D → D → Option D} (h : ∀ a b d, g a b = some d → (∀ an ρ σ H ts ds x y Q, RelX M an ρ σ H (y :: x :: ts) (b :: a :: ds) → (∀ v H', RelX M an ρ σ H' (v :: ts) (d :: ds) → Q v H') → r x y H Q) ∨
    (∀ an ρ σ H ts ds x y Q, RelX M an ρ σ H (y :: x :: ts) (b :: a :: ds) → (∀ v H', RelX M an ρ σ H' (v :: ts) (d :: ds) → Q v H') → r' x y H Q)) : BinS M (fun x y H Q => r x y H Q ∨ r' x y H Q) g := fun an ρ σ H ts ds a b d x y Q e R k => by
  rcases h a b d e with z | z
  · exact .inl (z an ρ σ H ts ds x y Q R k)
  · exact .inr (z an ρ σ H ts ds x y Q R k)
abbrev rAddS : R2 := fun x y H Q => ∃ i j, x = .str i ∧ y = .str j ∧ i.length + j.length ≤ sizeLine ∧ Q (.str (i ++ j)) H
abbrev rAddU (K : PySem.W.Frag) : R2 := fun x y H Q => (rI0 fun i j => .int (i + j)) x y H Q ∨ rAddS x y H Q ∨ rCat x y H Q ∨ rCatA K x y H Q
theorem op_addU : OpR X (binaryOp .Add) (rAddU X.K) := OpR.or op_add (OpR.or op_add_str (OpR.or op_cat op_catA))
theorem bs_add : BinS M (rAddU M.K) opAdd := fun an ρ σ H ts ds a b d x y Q e R k => by
  obtain ⟨G, own, r⟩ := R
  have qa := r.tmp.tail.head
  have qb := r.tmp.head
  have qt := r.tmp.tail.tail
  unfold opAdd at e
  split at e
  · rename_i i j
    cases e; cases (show x = _ from qa); cases (show y = _ from qb)
    exact .inl ⟨i, j, rfl, rfl, k _ _ (r.keep (Reps.cons rfl qt))⟩
  · rename_i i j
    split at e
    · rename_i hl
      cases e; cases (show x = _ from qa); cases (show y = _ from qb)
      exact .inr (.inl ⟨i, j, rfl, rfl, hl, k _ _ (r.keep (Reps.cons rfl qt))⟩)
    · cases e
  · rename_i xs ys
    split at e
    · rename_i hl
      cases e
      obtain ⟨pa, va, rfl, ha, ra⟩ := qa
      obtain ⟨pb, vb, rfl, hb, rb⟩ := qb
      refine .inr (.inr (.inl ⟨pa, pb, va, vb, rfl, rfl, r.sub _ _ ha, r.sub _ _ hb, by rw [ra.len, rb.len]; exact hl, fun p hp => k _ _ ?_⟩))
      exact r.new hp fun s => Reps.cons ⟨p, va ++ vb, rfl, upd_same, Reps.mono s _ _ (Reps.append ra rb)⟩ (Reps.mono s _ _ qt)
    · cases e
  · rename_i xs ys
    split at e
    · rename_i hl
      cases e
      obtain ⟨pa, va, rfl, ha, ra⟩ := qa
      obtain ⟨pb, vb, rfl, hb, rb⟩ := qb
      refine .inr (.inr (.inr ⟨pa, pb, va, vb, rfl, rfl, r.sub.sqT ha, r.sub.sqT hb, by rw [ra.len, rb.len]; exact hl, fun ea => ?_, fun na eb => ?_, fun na nb p hp => k _ _ ?_⟩))
      · subst ea
        refine k _ _ (r.keep (Reps.cons ⟨pb, vb, rfl, hb, ?_⟩ qt))
        have : xs = [] := List.length_eq_zero_iff.mp (by have := ra.len; simpa using this.symm)
        subst this; exact rb
      · subst eb
        refine k _ _ (r.keep (Reps.cons ⟨pa, va, rfl, ha, ?_⟩ qt))
        have : ys = [] := List.length_eq_zero_iff.mp (by have := rb.len; simpa using this.symm)
        subst this; simpa using ra
      · exact r.new hp fun s => Reps.cons ⟨p, va ++ vb, rfl, SqT.of upd_same, Reps.mono s _ _ (Reps.append ra rb)⟩ (Reps.mono s _ _ qt)
    · cases e
  · cases e
theorem bs_I {C : Int → Int → Prop} {f : Int → Int → V} {h : D → D → Option D} (hh : ∀ a b d, h a b = some d → ∃ i j, a = .int i ∧ b = .int j ∧ C i j ∧ ∀ G, Rep M.K M.cl G d (f i j)) : BinS M (rI C f) h := fun an ρ σ H ts ds a b d x y Q e R k => by
  obtain ⟨i, j, rfl, rfl, c, z⟩ := hh _ _ _ e
  have q := R.repsH
  cases (show x = _ from q.tail.head); cases (show y = _ from q.head)
  exact ⟨i, j, rfl, rfl, c, k _ _ (R.pop2.push z)⟩
theorem bs_I0 {f : Int → Int → V} {h : D → D → Option D} (hh : ∀ a b d, h a b = some d → ∃ i j, a = .int i ∧ b = .int j ∧ ∀ G, Rep M.K M.cl G d (f i j)) : BinS M (rI0 f) h := fun an ρ σ H ts ds a b d x y Q e R k => by
  obtain ⟨i, j, rfl, rfl, z⟩ := hh _ _ _ e
  have q := R.repsH
  cases (show x = _ from q.tail.head); cases (show y = _ from q.head)
  exact ⟨i, j, rfl, rfl, k _ _ (R.pop2.push z)⟩
theorem bs_sub : BinS M (rI0 fun i j => .int (i - j)) opSub := bs_I0 fun a b d e => by
  unfold opSub at e
  split at e
  · cases e; exact ⟨_, _, rfl, rfl, fun _ => rfl⟩
  · cases e
theorem wid_ok {i : Int} (h : wid i = true) : i.natAbs < 2 ^ 4000 := of_decide_eq_true h
abbrev rMulU (K : PySem.W.Frag) : R2 := fun x y H Q => (rI CMulW fun i j => .int (i * j)) x y H Q ∨ rRep x y H Q
theorem op_mulU : OpR X (binaryOp .Mult) (rMulU X.K) := OpR.or op_mulW op_rep
theorem reps_rep {K : PySem.W.Frag} {cl : Str → Option Addr} {G : Hp} {ds : List D} {vs : List V} (h : Reps K cl G ds vs) : ∀ n : Nat, Reps K cl G (List.replicate n ds).flatten (List.replicate n vs).flatten
  | 0 => Reps.nil
  | n + 1 => by
    rw [List.replicate_succ, List.replicate_succ, List.flatten_cons, List.flatten_cons]
    exact Reps.append h (reps_rep h n)
theorem bs_mul : BinS M (rMulU M.K) opMul := fun an ρ σ H ts ds a b d x y Q e R k => by
  obtain ⟨G, own, r⟩ := R
  have qa := r.tmp.tail.head
  have qb := r.tmp.head
  have qt := r.tmp.tail.tail
  unfold opMul at e
  split at e
  · rename_i i j
    split at e
    · rename_i hc
      obtain ⟨h1, h2⟩ := Bool.and_eq_true_iff.mp hc
      cases e; cases (show x = _ from qa); cases (show y = _ from qb)
      exact .inl ⟨i, j, rfl, rfl, wide_mul (wid_ok h1) (wid_ok h2) (by decide) (by decide) (by decide), k _ _ (r.keep (Reps.cons rfl qt))⟩
    · cases e
  · rename_i xs n
    split at e
    · rename_i hc
      cases e
      obtain ⟨pa, va, rfl, ha, ra⟩ := qa
      cases (show y = _ from qb)
      refine .inr ⟨pa, n, va, rfl, rfl, r.sub _ _ ha, by omega, by omega, by rw [ra.len]; exact hc.2.2, fun p hp => k _ _ ?_⟩
      exact r.new hp fun s => Reps.cons ⟨p, _, rfl, upd_same, Reps.mono s _ _ (reps_rep ra _)⟩ (Reps.mono s _ _ qt)
    · cases e
  · cases e
theorem bs_div : BinS M (rI CDivW fun i j => .int (i / j)) opDiv := bs_I fun a b d e => by
  unfold opDiv at e
  split at e
  · split at e
    · rename_i hc
      obtain ⟨h1, h2⟩ := Bool.and_eq_true_iff.mp hc
      cases e; exact ⟨_, _, rfl, rfl, wide_div (of_decide_eq_true h1) (wid_ok h2) (by decide) (by decide), fun _ => rfl⟩
    · cases e
  · cases e
theorem bs_mod : BinS M (rI (fun _ j => 0 < j) fun i j => .int (i % j)) opMod := bs_I fun a b d e => by
  unfold opMod at e
  split at e
  · split at e
    · rename_i hc
      cases e; exact ⟨_, _, rfl, rfl, hc, fun _ => rfl⟩
    · cases e
  · cases e
theorem bs_pow : BinS M (rI CPow fun i j => .int (i ^ j.toNat)) opPow := bs_I fun a b d e => by
  unfold opPow at e
  split at e
  · split at e
    · rename_i hc
      cases e; exact ⟨_, _, rfl, rfl, ⟨hc.1, by omega, hc.2.2⟩, fun _ => rfl⟩
    · cases e
  · cases e

/-! ### one operand -/
def fUn (g : D → Option D) (f : En → Rs D) : En → Rs D := fun ρ => (f ρ).bind fun a ρ1 => match g a with
  | some d => .ok d ρ1
  | none => .stuck
def opNeg : D → Option D
  | .int i => some (.int (-i))
  | _ => none
theorem se_neg {W : WX} {e : Expr} {f : En → Rs D} {pos : Pos} (h : SE X M W e f) : SE X M W (.UnaryOp .USub e pos) (fUn opNeg f) := by
  refine pe_imp (pe_un un_neg h) fun σ H Q ⟨an, ρ, ts, ds, R, h⟩ => ?_
  refine ⟨an, ρ, ts, ds, R, EOk.bind (P := fun z => EOk M an ts ds W σ z Q) h (fun _ _ _ _ z => z) id fun d ρ1 v H1 R1 h1 => ?_⟩
  cases d with
  | int i =>
    cases (show v = _ from R1.repH)
    exact ⟨i, rfl, h1 _ _ (R1.pop.push fun _ => rfl)⟩
  | _ => exact h1.elim
/-! ### comparisons -/
def opLt : D → D → Option D
  | .int i, .int j => some (.bl (decide (i < j)))
  | .str i, .str j => some (.bl (decide (i.cps.toList < j.cps.toList)))
  | _, _ => none
def opLe : D → D → Option D
  | .int i, .int j => some (.bl (decide (i ≤ j)))
  | _, _ => none
def opGt : D → D → Option D
  | .int i, .int j => some (.bl (decide (j < i)))
  | _, _ => none
def opGe : D → D → Option D
  | .int i, .int j => some (.bl (decide (j ≤ i)))
  | _, _ => none
abbrev rLtU : R2 := fun x y H Q => (rI0 fun i j => .bl (decide (i < j))) x y H Q ∨ (fun x y H Q => ∃ i j, x = .str i ∧ y = .str j ∧ Q (.bl (decide (i.cps.toList < j.cps.toList))) H) x y H Q
theorem op_ltU : OpR X (compareOp .Lt) rLtU := OpR.or op_lt op_lt_str
theorem cs_lt : CmpS M rLtU opLt := fun H a b k x y Q e ha hb q => by
  unfold opLt at e
  split at e
  · cases e; cases (show x = _ from ha); cases (show y = _ from hb); exact .inl ⟨_, _, rfl, rfl, q⟩
  · cases e; cases (show x = _ from ha); cases (show y = _ from hb); exact .inr ⟨_, _, rfl, rfl, q⟩
  · cases e
theorem cs_le : CmpS M (rI0 fun i j => .bl (decide (i ≤ j))) opLe := fun H a b k x y Q e ha hb q => by
  unfold opLe at e
  split at e
  · cases e; cases (show x = _ from ha); cases (show y = _ from hb); exact ⟨_, _, rfl, rfl, q⟩
  · cases e
theorem cs_gt : CmpS M (rI0 fun i j => .bl (decide (j < i))) opGt := fun H a b k x y Q e ha hb q => by
  unfold opGt at e
  split at e
  · cases e; cases (show x = _ from ha); cases (show y = _ from hb); exact ⟨_, _, rfl, rfl, q⟩
  · cases e
theorem cs_ge : CmpS M (rI0 fun i j => .bl (decide (j ≤ i))) opGe := fun H a b k x y Q e ha hb q => by
  unfold opGe at e
  split at e
  · cases e; cases (show x = _ from ha); cases (show y = _ from hb); exact ⟨_, _, rfl, rfl, q⟩
  · cases e
theorem bs_lt : BinS M rLtU opLt := cs_lt.bin fun a b d e => by unfold opLt at e; split at e <;> cases e <;> exact ⟨_, rfl⟩
theorem bs_le : BinS M (rI0 fun i j => .bl (decide (i ≤ j))) opLe := cs_le.bin fun a b d e => by unfold opLe at e; split at e <;> cases e <;> exact ⟨_, rfl⟩
theorem bs_gt : BinS M (rI0 fun i j => .bl (decide (j < i))) opGt := cs_gt.bin fun a b d e => by unfold opGt at e; split at e <;> cases e <;> exact ⟨_, rfl⟩
theorem bs_ge : BinS M (rI0 fun i j => .bl (decide (j ≤ i))) opGe := cs_ge.bin fun a b d e => by unfold opGe at e; split at e <;> cases e <;> exact ⟨_, rfl⟩
/-- == of data -/
def deq (a b : D) : Option Bool := a.py.bind fun x => b.py.bind fun y => if SeqAt.shaped x && SeqAt.shaped y then some (PyData.eqv x y) else none
theorem deq_of {a b : D} {k : Bool} (h : deq a b = some k) : ∃ x y, a.py = some x ∧ b.py = some y ∧ SeqAt.shaped x = true ∧ SeqAt.shaped y = true ∧ k = PyData.eqv x y := by
  obtain ⟨x, e1, h⟩ := Option.bind_eq_some_iff.mp (show a.py.bind _ = some k from h)
  obtain ⟨y, e2, h⟩ := Option.bind_eq_some_iff.mp h
  split at h
  · rename_i c
    obtain ⟨c1, c2⟩ := Bool.and_eq_true_iff.mp c
    cases h; exact ⟨x, y, e1, e2, c1, c2, rfl⟩
  · cases h
def opEq (a b : D) : Option D := (deq a b).map .bl
def opNe (a b : D) : Option D := (deq a b).map fun k => .bl (!k)
theorem cs_eq : CmpS M (rEqD M.K) opEq := fun H a b k x y Q e ha hb q => by
  obtain ⟨k', e1, e2⟩ := Option.map_eq_some_iff.mp (show (deq a b).map _ = some _ from e)
  cases e2
  obtain ⟨u, w, e3, e4, s1, s2, rfl⟩ := deq_of e1
  exact ⟨u, w, rep_dp a x u e3 ha, rep_dp b y w e4 hb, s1, s2, q⟩
theorem cs_ne : CmpS M (rNeD M.K) opNe := fun H a b k x y Q e ha hb q => by
  obtain ⟨k', e1, e2⟩ := Option.map_eq_some_iff.mp (show (deq a b).map _ = some _ from e)
  cases e2
  obtain ⟨u, w, e3, e4, s1, s2, rfl⟩ := deq_of e1
  exact ⟨u, w, rep_dp a x u e3 ha, rep_dp b y w e4 hb, s1, s2, q⟩
theorem bs_eq : BinS M (rEqD M.K) opEq := cs_eq.bin fun a b d e => by
  obtain ⟨k', _, rfl⟩ := Option.map_eq_some_iff.mp (show (deq a b).map _ = some _ from e); exact ⟨_, rfl⟩
theorem bs_ne : BinS M (rNeD M.K) opNe := cs_ne.bin fun a b d e => by
  obtain ⟨k', _, rfl⟩ := Option.map_eq_some_iff.mp (show (deq a b).map _ = some _ from e); exact ⟨_, rfl⟩
/-- is None, is True, is False -/
def isNon : D → Bool
  | .non => true
  | _ => false
def opIs : D → D → Option D
  | a, .non => some (.bl (isNon a))
  | .bl a, .bl b => some (.bl (decide (a = b)))
  | _, _ => none
def opIsNot : D → D → Option D
  | a, .non => some (.bl (!isNon a))
  | .bl a, .bl b => some (.bl (!decide (a = b)))
  | _, _ => none
abbrev rIsN1 : R2 := fun x y H Q => y = .non ∧ Q (.bl (decide (x = .non))) H
abbrev rNotN1 : R2 := fun x y H Q => y = .non ∧ Q (.bl (!decide (x = .non))) H
abbrev rIsU : R2 := fun x y H Q => rIsN1 x y H Q ∨ rIsB x y H Q
abbrev rIsNotU : R2 := fun x y H Q => rNotN1 x y H Q ∨ rNotB x y H Q
theorem op_isU : OpR X (compareOp .Is) rIsU := OpR.or op_isN op_isBl
theorem op_isNotU : OpR X (compareOp .IsNot) rIsNotU := OpR.or op_notN op_notBl
theorem rep_non {K : PySem.W.Frag} {cl : Str → Option Addr} {G : Hp} {d : D} {v : V} (h : Rep K cl G d v) : decide (v = .non) = isNon d := by
  cases d with
  | non => cases (show v = _ from h); rfl
  | bl b => cases (show v = _ from h); rfl
  | int b => cases (show v = _ from h); rfl
  | str b => cases (show v = _ from h); rfl
  | tup b => obtain ⟨a, vs, rfl, _⟩ := h; rfl
  | lst b => obtain ⟨a, vs, rfl, _⟩ := h; rfl
  | frz b => obtain ⟨a, vs, rfl, _⟩ := h; rfl
  | dic k b => obtain ⟨a, vs, rfl, _⟩ := h; rfl
  | ins c k b => obtain ⟨a, C, dx, vs, rfl, _⟩ := h; rfl
  | loc c k => obtain ⟨a, rfl, _⟩ := h; rfl
theorem cs_is : CmpS M rIsU opIs := fun H a b k x y Q e ha hb q => by
  unfold opIs at e
  split at e
  · cases (show y = _ from hb)
    have z := rep_non ha
    refine .inl ⟨rfl, ?_⟩
    rw [z]
    cases e
    exact q
  · cases e; cases (show x = _ from ha); cases (show y = _ from hb); exact .inr ⟨_, _, rfl, rfl, q⟩
  · cases e
theorem cs_isNot : CmpS M rIsNotU opIsNot := fun H a b k x y Q e ha hb q => by
  unfold opIsNot at e
  split at e
  · cases (show y = _ from hb)
    have z := rep_non ha
    refine .inl ⟨rfl, ?_⟩
    rw [z]
    cases e
    exact q
  · cases e; cases (show x = _ from ha); cases (show y = _ from hb); exact .inr ⟨_, _, rfl, rfl, q⟩
  · cases e
theorem bs_is : BinS M rIsU opIs := cs_is.bin fun a b d e => by unfold opIs at e; split at e <;> cases e <;> exact ⟨_, rfl⟩
theorem bs_isNot : BinS M rIsNotU opIsNot := cs_isNot.bin fun a b d e => by unfold opIsNot at e; split at e <;> cases e <;> exact ⟨_, rfl⟩
/-! ### in -/
/-- a flat value -/
def D.flat : D → Bool
  | .non => true
  | .bl _ => true
  | .int _ => true
  | .str _ => true
  | _ => false
def D.v : D → V
  | .bl b => .bl b
  | .int i => .int i
  | .str x => .str x
  | _ => .non
theorem flat_v {K : PySem.W.Frag} {cl : Str → Option Addr} {G : Hp} {d : D} {x : V} (h : d.flat = true) (r : Rep K cl G d x) : x = d.v ∧ flatV x = true := by
  cases d with
  | non => cases (show x = _ from r); exact ⟨rfl, rfl⟩
  | bl b => cases (show x = _ from r); exact ⟨rfl, rfl⟩
  | int b => cases (show x = _ from r); exact ⟨rfl, rfl⟩
  | str b => cases (show x = _ from r); exact ⟨rfl, rfl⟩
  | _ => cases h
theorem flats_v {K : PySem.W.Frag} {cl : Str → Option Addr} {G : Hp} : ∀ {ds : List D} {xs : List V}, ds.all D.flat = true → Reps K cl G ds xs → xs = ds.map D.v ∧ xs.all flatV = true
  | [], _, _, r => by cases (show _ = [] from r); exact ⟨rfl, rfl⟩
  | d :: ds, _, h, ⟨v, vs, rfl, r, t⟩ => by
    rw [List.all_cons] at h
    obtain ⟨h1, h2⟩ := Bool.and_eq_true_iff.mp h
    obtain ⟨e1, f1⟩ := flat_v h1 r
    obtain ⟨e2, f2⟩ := flats_v h2 t
    exact ⟨by rw [e1, e2]; rfl, by rw [List.all_cons, f1, f2]; rfl⟩
def keyOf : D → Option Key
  | .int i => some (.inl i)
  | .str x => some (.inr x)
  | _ => none
theorem keyOf_v {K : PySem.W.Frag} {cl : Str → Option Addr} {G : Hp} {d : D} {k : Key} {x : V} (h : keyOf d = some k) (r : Rep K cl G d x) : x = kV k := by
  cases d with
  | int i => cases h; exact r
  | str i => cases h; exact r
  | _ => cases h
def dIn : D → D → Option Bool
  | a, .lst ds => a.py.bind fun x => (pyAll ds).bind fun xs => if SeqAt.shaped x && SeqAt.shaped (.list xs) then some (xs.any fun z => PyData.eqv z x) else none
  | a, .tup ds => if a.flat && ds.all D.flat then some (inV a.v (ds.map D.v)) else none
  | .str x, .str y => some (!(Builtin.Str.occurrences y x 0 y.length 1).isEmpty)
  | a, .dic ks _ => (keyOf a).map fun k => ks.any fun j => decide (j = k)
  | _, _ => none
def opIn (a b : D) : Option D := (dIn a b).map .bl
def opNotIn (a b : D) : Option D := (dIn a b).map fun k => .bl (!k)
abbrev rInDic : R2 := fun x y H Q => ∃ a ov, y = .ref a ∧ DGet H a x ov ∧ Q (.bl ov.isSome) H
abbrev rNotInDic : R2 := fun x y H Q => ∃ a ov, y = .ref a ∧ DGet H a x ov ∧ Q (.bl (!ov.isSome)) H
theorem op_inDic (hu : X.A.units + 1 < cLine) : OpR X (compareOp .In) rInDic := fun pins s σ H x y v u Q I rx ry q => by
  obtain ⟨a, ov, rfl, g, q⟩ := q
  obtain rfl : u = Value.ref a := ry
  exact d_in hu I g rx fun s3 I3 => ⟨.bl ov.isSome, H, I3, rfl, q⟩
theorem op_notInDic (hu : X.A.units + 1 < cLine) : OpR X (compareOp .NotIn) rNotInDic := fun pins s σ H x y v u Q I rx ry q => by
  obtain ⟨a, ov, rfl, g, q⟩ := q
  obtain rfl : u = Value.ref a := ry
  exact d_notIn hu I g rx fun s3 I3 => ⟨.bl (!ov.isSome), H, I3, rfl, q⟩
abbrev rInStr (neg : Bool) : R2 := fun x y H Q => ∃ i j, x = .str i ∧ y = .str j ∧ Q (.bl (if neg then !(!(Builtin.Str.occurrences j i 0 j.length 1).isEmpty) else !(Builtin.Str.occurrences j i 0 j.length 1).isEmpty)) H
abbrev rInU (K : PySem.W.Frag) : R2 := fun x y H Q => rInD K x y H Q ∨ rIn K false x y H Q ∨ rInStr false x y H Q ∨ rInDic x y H Q
abbrev rNotInU (K : PySem.W.Frag) : R2 := fun x y H Q => rNotInD K x y H Q ∨ rIn K true x y H Q ∨ rInStr true x y H Q ∨ rNotInDic x y H Q
theorem op_inU (hu : X.A.units + 65 < cLine) : OpR X (compareOp .In) (rInU X.K) := OpR.or (op_inD hu) (OpR.or op_in_seq (OpR.or op_in_str (op_inDic (by omega))))
theorem op_notInU (hu : X.A.units + 65 < cLine) : OpR X (compareOp .NotIn) (rNotInU X.K) := OpR.or (op_notInD hu) (OpR.or op_notIn_seq (OpR.or op_notIn_str (op_notInDic (by omega))))
theorem valV_some {ks : List Key} {vs : List V} {k : Key} (l : ks.length = vs.length) : (valV (ks.zip vs) k).isSome = ks.any fun j => decide (j = k) := by
  rw [← valV_any k (ks.zip vs)]
  induction ks generalizing vs with
  | nil => rfl
  | cons a r ih =>
    cases vs with
    | nil => cases l
    | cons b t =>
      rw [List.zip_cons_cons, List.any_cons, List.any_cons, ih (by simpa using l)]
theorem cs_inW {neg : Bool} {H : Hp} {a b : D} {k : Bool} {x y : V} (e : dIn a b = some k) (ha : Rep M.K M.cl H a x) (hb : Rep M.K M.cl H b y) :
    (∃ d ds, Dp M.K H x d ∧ Dp M.K H y (.list ds) ∧ SeqAt.shaped d = true ∧ SeqAt.shaped (.list ds) = true ∧ k = ds.any fun z => PyData.eqv z d) ∨
    (∃ p xs, y = .ref p ∧ SqT M.K H p xs ∧ flatV x = true ∧ xs.all flatV = true ∧ k = inV x xs) ∨ (∃ i j, x = .str i ∧ y = .str j ∧ k = !(Builtin.Str.occurrences j i 0 j.length 1).isEmpty) ∨ (∃ p ov, y = .ref p ∧ DGet H p x ov ∧ k = ov.isSome) := by
  unfold dIn at e
  split at e
  · rename_i a ds
    obtain ⟨u, e1, e⟩ := Option.bind_eq_some_iff.mp e
    obtain ⟨us, e2, e⟩ := Option.bind_eq_some_iff.mp e
    split at e
    · rename_i c
      obtain ⟨c1, c2⟩ := Bool.and_eq_true_iff.mp c
      cases e
      refine .inl ⟨u, us, rep_dp _ _ _ e1 ha, ?_, c1, c2, rfl⟩
      obtain ⟨p, vs, rfl, q, r⟩ := hb
      exact .lst (SqL.of q) (rep_dps ds vs us e2 r)
    · cases e
  · rename_i a ds
    split at e
    · rename_i c
      obtain ⟨c1, c2⟩ := Bool.and_eq_true_iff.mp c
      cases e
      obtain ⟨p, vs, rfl, q, r⟩ := hb
      obtain ⟨e1, f1⟩ := flat_v c1 ha
      obtain ⟨e2, f2⟩ := flats_v c2 r
      exact .inr (.inl ⟨p, vs, rfl, q, f1, f2, by rw [e1, e2]⟩)
    · cases e
  · cases e
    cases (show x = _ from ha); cases (show y = _ from hb)
    exact .inr (.inr (.inl ⟨_, _, rfl, rfl, rfl⟩))
  · rename_i a ks es
    obtain ⟨j, e1, rfl⟩ := Option.map_eq_some_iff.mp e
    obtain ⟨p, vs, rfl, q, l, r⟩ := hb
    refine .inr (.inr (.inr ⟨p, _, rfl, .inl ⟨_, j, .inl q, keyOf_v e1 ha, rfl⟩, (valV_some l).symm⟩))
  · cases e
theorem cs_in : CmpS M (rInU M.K) opIn := fun H a b k x y Q e ha hb q => by
  obtain ⟨k', e1, e2⟩ := Option.map_eq_some_iff.mp (show (dIn a b).map _ = some _ from e)
  cases e2
  rcases cs_inW (neg := false) e1 ha hb with ⟨d, ds, h1, h2, h3, h4, rfl⟩ | ⟨p, xs, rfl, h1, h2, h3, rfl⟩ | ⟨i, j, rfl, rfl, rfl⟩ | ⟨p, ov, rfl, h1, rfl⟩
  · exact .inl ⟨d, ds, h1, h2, h3, h4, q⟩
  · exact .inr (.inl ⟨p, xs, rfl, .inr h1, h2, h3, q⟩)
  · exact .inr (.inr (.inl ⟨i, j, rfl, rfl, q⟩))
  · exact .inr (.inr (.inr ⟨p, ov, rfl, h1, q⟩))
theorem cs_notIn : CmpS M (rNotInU M.K) opNotIn := fun H a b k x y Q e ha hb q => by
  obtain ⟨k', e1, e2⟩ := Option.map_eq_some_iff.mp (show (dIn a b).map _ = some _ from e)
  cases e2
  rcases cs_inW (neg := false) e1 ha hb with ⟨d, ds, h1, h2, h3, h4, rfl⟩ | ⟨p, xs, rfl, h1, h2, h3, rfl⟩ | ⟨i, j, rfl, rfl, rfl⟩ | ⟨p, ov, rfl, h1, rfl⟩
  · exact .inl ⟨d, ds, h1, h2, h3, h4, q⟩
  · exact .inr (.inl ⟨p, xs, rfl, .inr h1, h2, h3, q⟩)
  · exact .inr (.inr (.inl ⟨i, j, rfl, rfl, q⟩))
  · exact .inr (.inr (.inr ⟨p, ov, rfl, h1, q⟩))
theorem bs_in : BinS M (rInU M.K) opIn := cs_in.bin fun a b d e => by
  obtain ⟨k', _, rfl⟩ := Option.map_eq_some_iff.mp (show (dIn a b).map _ = some _ from e); exact ⟨_, rfl⟩
theorem bs_notIn : BinS M (rNotInU M.K) opNotIn := cs_notIn.bin fun a b d e => by
  obtain ⟨k', _, rfl⟩ := Option.map_eq_some_iff.mp (show (dIn a b).map _ = some _ from e); exact ⟨_, rfl⟩
end
end Dl
end
section
set_option maxHeartbeats 4000000
/-! DlD: items, slices, built-in functions, methods of lists and texts. -/
namespace Dl
open PySem PySem.Spec PyProof.Rows L2
/-! ### items -/
def dVal : List Key → List D → Key → Option D
  | k :: ks, d :: ds, j => if k = j then some d else dVal ks ds j
  | _, _, _ => none
def opIx : D → D → Option D
  | .lst ds, .int i => atI ds i
  | .tup ds, .int i => atI ds i
  | .frz ds, .int i => atI ds i
  | .str z, .int i => if z.length ≤ sizeLine then (atI z.cps.toList i).map fun c => .str ⟨#[c]⟩ else none
  | .dic ks ds, k => (keyOf k).bind fun k => dVal ks ds k
  | _, _ => none
section
variable {X : Cx} {M : Mc} {W : WX}
theorem dVal_rep {K : PySem.W.Frag} {cl : Str → Option Addr} {G : Hp} {k : Key} {d : D} : ∀ {ks : List Key} {ds : List D} {vs : List V}, ks.length = vs.length → Reps K cl G ds vs → dVal ks ds k = some d → ∃ v, valV (ks.zip vs) k = some v ∧ Rep K cl G d v
  | [], _, _, _, _, e => by cases e
  | _ :: _, [], _, _, _, e => by cases e
  | j :: ks, d' :: ds, _, l, hr, e => by
    obtain ⟨v, r, rfl, h, t⟩ := hr
    unfold dVal at e
    rw [List.zip_cons_cons]
    by_cases c : j = k
    · rw [if_pos c] at e; cases e
      exact ⟨v, valV_pos (p := (j, v)) c, h⟩
    · rw [if_neg c] at e
      obtain ⟨w, h1, h2⟩ := dVal_rep (by simpa using l) t e
      exact ⟨w, (valV_neg (p := (j, v)) c).trans h1, h2⟩
abbrev rIxDic : R2 := fun x y H Q => ∃ a v, x = .ref a ∧ DGet H a y (some v) ∧ Q v H
theorem ix_dic (hu : X.A.units + 1 < cLine) : IxR X rIxDic := by
  intro value slice pins s σ H x y v u Q I rx ry h hs
  obtain ⟨a, z, rfl, g, q⟩ := h
  obtain rfl : v = Value.ref a := rx
  unfold subscriptTail
  refine wpAny_bind ?_
  rw [getitemInPython_of_ne (dict_typeIs I g).not_modules]
  refine wpAny_bind (wpAny_specialOf (dict_typeIs I g) PySem.F.slot_dict_getitem.lookup ?_)
  have fin : wpAny (model X.prog X.w) X.A (subscripted slice false (.ref a) u) (fun r s₃ => wpAny (model X.prog X.w) X.A (letTemporaryGo value (.ref a) r >>= fun _ => pure r) (EP X pins σ Q) X.xe s₃) X.xe s := by
    rw [hs]
    exact wpAny_operating (d_getItem hu I g ry fun w' s3 I3 rw' => wpAny_bind (wpAny_letTemporaryGo (wpAny_pure ⟨z, H, I3, rw', q⟩)))
  first
    | exact wpAny_pure (wpAny_bind fin)
    | exact wpAny_bind (wpAny_pure (wpAny_bind fin))
    | exact wpAny_bind fin
abbrev rIxU (K : PySem.W.Frag) : R2 := fun x y H Q => rIx K x y H Q ∨ rIxDic x y H Q
theorem ix_U (hu : X.A.units + 1 < cLine) : IxR X (rIxU X.K) := IxR.or ix_seq (ix_dic hu)
theorem atI_rep {K : PySem.W.Frag} {cl : Str → Option Addr} {G : Hp} {ds : List D} {vs : List V} {i : Int} {d : D} (r : Reps K cl G ds vs) (e : atI ds i = some d) : ∃ v, atI vs i = some v ∧ Rep K cl G d v := by
  unfold atI at e ⊢
  rw [r.len]
  obtain ⟨j, e1, e2⟩ := Option.bind_eq_some_iff.mp e
  obtain ⟨v, h1, h2⟩ := r.get e2
  exact ⟨v, by rw [e1]; exact h1, h2⟩
theorem bs_ix : BinS M (rIxU M.K) opIx := fun an ρ σ H ts ds a b d x y Q e R k => by
  obtain ⟨G, own, r⟩ := R
  have qa := r.tmp.tail.head
  have qb := r.tmp.head
  have qt := r.tmp.tail.tail
  unfold opIx at e
  split at e
  · cases (show y = _ from qb)
    obtain ⟨p, vs, rfl, h, t⟩ := qa
    obtain ⟨v, h1, h2⟩ := atI_rep t e
    exact .inl (.inl ⟨p, vs, _, v, rfl, rfl, SqL.of (r.sub _ _ h), h1, k _ _ (r.keep (Reps.cons h2 qt))⟩)
  · cases (show y = _ from qb)
    obtain ⟨p, vs, rfl, h, t⟩ := qa
    obtain ⟨v, h1, h2⟩ := atI_rep t e
    exact .inl (.inr (.inl ⟨p, vs, _, v, rfl, rfl, r.sub.sqT h, h1, k _ _ (r.keep (Reps.cons h2 qt))⟩))
  · cases (show y = _ from qb)
    obtain ⟨p, vs, rfl, h, t⟩ := qa
    obtain ⟨v, h1, h2⟩ := atI_rep t e
    exact .inl (.inl ⟨p, vs, _, v, rfl, rfl, r.sub.sqL h, h1, k _ _ (r.keep (Reps.cons h2 qt))⟩)
  · cases (show y = _ from qb); cases (show x = _ from qa)
    split at e
    · rename_i hl
      obtain ⟨c, e1, rfl⟩ := Option.map_eq_some_iff.mp e
      exact .inl (.inr (.inr ⟨_, _, c, rfl, rfl, hl, e1, k _ _ (r.keep (Reps.cons rfl qt))⟩))
    · cases e
  · obtain ⟨j, e1, e2⟩ := Option.bind_eq_some_iff.mp e
    obtain ⟨p, vs, rfl, h, l, t⟩ := qa
    obtain ⟨v, h1, h2⟩ := dVal_rep l t e2
    exact .inr ⟨p, v, rfl, .inl ⟨_, j, .inl (r.sub _ _ h), keyOf_v e1 qb, h1.symm⟩, k _ _ (r.keep (Reps.cons h2 qt))⟩
  · cases e
theorem se_ix {a b : Expr} {fa fb : En → Rs D} {pos : Pos} (hu : X.A.units + 1 < cLine) (hk : M.K = X.K) (ha : SE X M W a fa) (hb : SE X M W b fb) (hs : PlainIx b) : SE X M W (.Subscript a b pos) (fBin opIx fa fb) := by
  refine pe_imp (pe_ix (ix_U hu) ha hb hs) fun _ _ _ h => ?_
  have q := bin_core bs_ix h
  rw [hk] at q
  exact q
/-- an item of a local that is held alone -/
def cont (ρ : En) (i : Nat) : Option D := match ρ[i]? with
  | some (some (.sh d)) => some d
  | some (some (.ow d)) => some d
  | some (some (.bo d)) => some d
  | _ => none
def fIxO (i : Nat) (fb : En → Rs D) : En → Rs D := fun ρ => match cont ρ i with
  | none => .stuck
  | some _ => (fb ρ).bind fun k ρ1 => match cont ρ1 i with
    | some (.lst ds) => (match k with
      | .int j => (match atI ds j with
        | some d => .ok d ρ1
        | none => .stuck)
      | _ => .stuck)
    | _ => .stuck
theorem RelX.cont_at {an : List (Addr × D)} {ρ : En} {σ : St} {H : Hp} {ts : List V} {ds : List D} {i : Nat} {d : D} (R : RelX M an ρ σ H ts ds) (h : cont ρ i = some d) : ∃ v, σ[i]? = some (some v) ∧ (∀ es, d = .lst es → ∃ p vs, v = .ref p ∧ H p = some (.lst vs) ∧
    (∀ j e, atI es j = some e → ∃ u, atI vs j = some u ∧ RelX M an ρ σ H (u :: ts) (e :: ds)) ∧ vs.length = es.length) := by
  obtain ⟨G, own, r⟩ := R
  unfold cont at h
  have main : ∀ es p vs, H p = some (.lst vs) → Reps M.K M.cl G es vs → ∃ p' vs', V.ref p = .ref p' ∧ H p' = some (.lst vs') ∧ (∀ j e, atI es j = some e → ∃ u, atI vs' j = some u ∧ RelX M an ρ σ H (u :: ts) (e :: ds)) ∧ vs'.length = es.length := fun es p vs h1 h2 =>
    ⟨p, vs, rfl, h1, fun j e he => let ⟨u, a, b⟩ := atI_rep h2 he; ⟨u, a, r.keep (Reps.cons b r.tmp)⟩, h2.len⟩
  split at h
  · rename_i q
    cases h
    obtain ⟨v, e, z⟩ := r.shp i _ q
    refine ⟨v, e, fun es hes => ?_⟩
    subst hes
    obtain ⟨p, vs, rfl, h1, h2⟩ := z
    exact main es p vs (r.sub _ _ h1) h2
  · rename_i q
    cases h
    obtain ⟨e, z, _⟩ := r.owp i _ q
    refine ⟨_, e, fun es hes => ?_⟩
    subst hes
    obtain ⟨vs, h1, h2⟩ := z
    exact main es _ vs h1 h2
  · rename_i q
    cases h
    obtain ⟨e, z, _⟩ := r.bop i _ q
    refine ⟨_, e, fun es hes => ?_⟩
    subst hes
    obtain ⟨vs, h1, h2⟩ := z
    exact main es _ vs h1 h2
  · cases h
theorem se_ixO (i : Nat) {x : Str} {b : Expr} {fb : En → Rs D} {p pos : Pos} (hb : SE X M W b fb) (hs : PlainIx b) (hN : X.N[i]? = some x := by rfl) (hv : Vis X.env.scope x := by first | exact Or.inl rfl | exact Or.inr (Or.inl rfl) | exact Or.inr (Or.inr rfl))
    (hd : (x == ("__debug__" : Str)) = false := by decide) (hcd : (x == ("__classdict__" : Str)) = false := by decide) : SE X M W (.Subscript (.Name x p) b pos) (fIxO i fb) := by
  refine pe_imp (pe_ix ix_list (pe_var hN hv hd hcd) hb hs) fun σ H Q ⟨an, ρ, ts, ds, R, h⟩ => ?_
  unfold fIxO at h
  cases q : cont ρ i with
  | none => rw [q] at h; exact h.elim
  | some d0 =>
    rw [q] at h
    obtain ⟨v, ev, _⟩ := R.cont_at q
    refine ⟨v, ev, an, ρ, ts, ds, R, EOk.bind (P := fun z => EOk M an ts ds W σ z Q) h (fun _ _ _ _ z => z) id fun d ρ1 u H1 R1 h1 => ?_⟩
    cases q1 : cont ρ1 i with
    | none => rw [q1] at h1; exact h1.elim
    | some d1 =>
      rw [q1] at h1
      obtain ⟨v', ev', z⟩ := R1.pop.cont_at q1
      rw [ev] at ev'; cases ev'
      cases d1 with
      | lst es =>
        obtain ⟨pa, vs, rfl, h3, h4, _⟩ := z es rfl
        cases d with
        | int j =>
          cases (show u = _ from R1.repH)
          cases e : atI es j with
          | none => dsimp only at h1; rw [e] at h1; exact h1.elim
          | some d2 =>
            dsimp only at h1
            rw [e] at h1
            obtain ⟨w, h5, h6⟩ := h4 j d2 e
            exact ⟨pa, vs, j, w, rfl, rfl, SqL.of h3, h5, h1 _ _ h6⟩
        | _ => exact h1.elim
      | _ => exact h1.elim
end
/-! ### slices -/
def fPart (f : En → Rs D) : En → Rs (Option Int) := fun ρ => (f ρ).bind fun d ρ1 => match d with
  | .int i => .ok (some i) ρ1
  | _ => .stuck
def fNoPart : En → Rs (Option Int) := fun ρ => .ok none ρ
def OOk (M : Mc) (an : List (Addr × D)) (ts : List V) (ds : List D) (W : WX) (σ : St) (r : Rs (Option Int)) (Q : Option Int → Hp → Prop) : Prop := match r with
  | .ok b ρ => ∀ H', RelX M an ρ σ H' ts ds → Q b H'
  | .err c fs es ρ => EErr M an ts ds W σ c fs es ρ
  | .stuck => False
def tO (M : Mc) (W : WX) (f : En → Rs (Option Int)) : TO := fun σ H Q => ∃ an ρ ts ds, RelX M an ρ σ H ts ds ∧ OOk M an ts ds W σ (f ρ) Q
theorem OOk.bind {M : Mc} {an : List (Addr × D)} {ts : List V} {ds : List D} {W : WX} {σ : St} {β : Type} {r : Rs (Option Int)} {g : Option Int → En → Rs β} {Q1 : Option Int → Hp → Prop} {P : Rs β → Prop} (h : P (r.bind g)) (he : ∀ c fs es ρ, P (.err c fs es ρ) → EErr M an ts ds W σ c fs es ρ) (hs : ¬ P .stuck)
    (k : ∀ b ρ1 H1, RelX M an ρ1 σ H1 ts ds → P (g b ρ1) → Q1 b H1) : OOk M an ts ds W σ r Q1 := by
  cases r with
  | ok d ρ1 => exact fun H' R => k d ρ1 H' R h
  | err c fs es ρ1 => exact he _ _ _ _ h
  | stuck => exact hs h
def cutD (xs : List D) (lo hi : Option Int) : List D := (xs.drop (HT.sIx xs.length 0 lo)).take (HT.sIx xs.length xs.length hi - HT.sIx xs.length 0 lo)
def dSl : D → Option Int → Option Int → Option D
  | .lst ds, lo, hi => some (.lst (cutD ds lo hi))
  | .tup ds, lo, hi => some (.tup (cutD ds lo hi))
  | _, _, _ => none
def fSl (f : En → Rs D) (fl fh : En → Rs (Option Int)) : En → Rs D := fun ρ => (f ρ).bind fun d ρ1 => (fl ρ1).bind fun l ρ2 => (fh ρ2).bind fun h ρ3 => match dSl d l h with
  | some d => .ok d ρ3
  | none => .stuck
section
variable {X : Cx} {M : Mc} {W : WX} {e a b : Expr} {f : En → Rs D} {fl fh : En → Rs (Option Int)} {pos p2 : Pos} {lo hi : Option Expr}
theorem so_none : PO X none (tO M W fNoPart) := ⟨fun pins s σ H Q I ⟨an, ρ, ts, ds, R, h⟩ => po_none.run pins s σ H Q I (h H R)⟩
theorem so_some (h : SE X M W e f) : PO X (some e) (tO M W (fPart f)) := ⟨fun pins s σ H Q I ⟨an, ρ, ts, ds, R, q⟩ => (po_some h).run pins s σ H Q I ⟨an, ρ, ts, ds, R, EOk.bind (P := fun z => OOk M an ts ds W σ z Q) q (fun _ _ _ _ z => z) id fun d ρ1 v H1 R1 h1 => by
  cases d with
  | int i => exact ⟨i, R1.repH, h1 _ R1.pop⟩
  | _ => exact h1.elim⟩⟩
theorem reps_cut {K : PySem.W.Frag} {cl : Str → Option Addr} {G : Hp} {ds : List D} {vs : List V} (h : Reps K cl G ds vs) (lo hi : Option Int) : Reps K cl G (cutD ds lo hi) (cutV vs lo hi) := by
  unfold cutD cutV
  rw [h.len]
  exact Reps.take _ (Reps.drop _ h)
abbrev rSlU (K : PySem.W.Frag) : V → Option Int → Option Int → Hp → VK → Prop := fun x lo hi H Q => rSlL K x lo hi H Q ∨ rSlA K x lo hi H Q
theorem cutD_whole {ds : List D} {lo hi : Option Int} (h : HT.sIx ds.length 0 lo = 0 ∧ HT.sIx ds.length ds.length hi = ds.length) : cutD ds lo hi = ds := by
  unfold cutD; rw [h.1, h.2]; simp
theorem se_slice (h : SE X M W e f) (hl : PO X lo (tO M W fl)) (hh : PO X hi (tO M W fh)) (hk : M.K = X.K) : SE X M W (.Subscript e (.Slice lo hi none p2) pos) (fSl f fl fh) := by
  refine pe_imp (pe_slice (SlR.or sl_list sl_tupA) h hl hh) fun σ H Q ⟨an, ρ, ts, ds, R, h⟩ => ?_
  refine ⟨an, ρ, ts, ds, R, EOk.bind (P := fun z => EOk M an ts ds W σ z Q) h (fun _ _ _ _ z => z) id fun d ρ1 v H1 R1 h1 => ?_⟩
  refine ⟨an, ρ1, v :: ts, d :: ds, R1, OOk.bind (P := fun z => EOk M an ts ds W σ z Q) h1 (fun _ _ _ _ z => z.weak1) id fun l ρ2 H2 R2 h2 => ?_⟩
  refine ⟨an, ρ2, v :: ts, d :: ds, R2, OOk.bind (P := fun z => EOk M an ts ds W σ z Q) h2 (fun _ _ _ _ z => z.weak1) id fun u ρ3 H3 R3 h3 => ?_⟩
  rw [← hk]
  obtain ⟨G, own, r⟩ := R3
  have qa := r.tmp.head
  have qt := r.tmp.tail
  cases d with
  | lst es =>
    obtain ⟨p, vs, rfl, h4, h5⟩ := qa
    refine .inl ⟨p, vs, rfl, SqL.of (r.sub _ _ h4), fun q hq => h3 _ _ ?_⟩
    exact r.new hq fun s => Reps.cons ⟨q, _, rfl, upd_same, Reps.mono s _ _ (reps_cut h5 l u)⟩ (Reps.mono s _ _ qt)
  | tup es =>
    obtain ⟨p, vs, rfl, h4, h5⟩ := qa
    refine .inr ⟨p, vs, rfl, r.sub.sqT h4, fun hw => ?_, fun hw q hq => h3 _ _ ?_⟩
    · rw [h5.len] at hw
      refine h3 _ _ (r.keep (Reps.cons ⟨p, vs, rfl, h4, ?_⟩ qt))
      rw [cutD_whole hw]; exact h5
    · exact r.new hq fun s => Reps.cons ⟨q, _, rfl, SqT.of upd_same, Reps.mono s _ _ (reps_cut h5 l u)⟩ (Reps.mono s _ _ qt)
  | _ => exact h3.elim
end
/-! ### built-in functions by values -/
def fCall (g : List D → Option D) (fa : En → Rs (List D)) : En → Rs D := fun ρ => (fa ρ).bind fun es ρ1 => match g es with
  | some d => .ok d ρ1
  | none => .stuck
/-- a function on values does on trees what g says -/
def CallS (M : Mc) (r : List V → Hp → VK → Prop) (g : List D → Option D) : Prop := ∀ (an : List (Addr × D)) (ρ : En) (σ : St) (H : Hp) (ts : List V) (ds es : List D) (d : D) (vs : List V) (Q : VK), g es = some d → vs.length = es.length → RelX M an ρ σ H (vs ++ ts) (es ++ ds) →
  (∀ v H', RelX M an ρ σ H' (v :: ts) (d :: ds) → Q v H') → r vs H Q
/-- .. and its answer is fresh -/
def CallF (M : Mc) (r : List V → Hp → VK → Prop) (g : List D → Option D) : Prop := ∀ (an : List (Addr × D)) (ρ : En) (σ : St) (H : Hp) (ts : List V) (ds es : List D) (d : D) (vs : List V) (Q : VK), g es = some d → vs.length = es.length → RelX M an ρ σ H (vs ++ ts) (es ++ ds) →
  (∀ p H', RelX M ((p, d) :: an) ρ σ H' ts ds → Q (.ref p) H') → r vs H Q
section
variable {X : Cx} {M : Mc} {W : WX} {r : List V → Hp → VK → Prop} {g : List D → Option D} {fa : En → Rs (List D)} {e : Expr} {es : List Expr} {x : Str} {id T : String} {p pos : Pos}
theorem call_core (hs : CallS M r g) {σ : St} {H : Hp} {Q : VK} (h : tE M W (fCall g fa) σ H Q) : tCB r (tAr M W fa) σ H Q := by
  obtain ⟨an, ρ, ts, ds, R, h⟩ := h
  refine ⟨an, ρ, ts, ds, R, AOk.bind (P := fun z => EOk M an ts ds W σ z Q) h (fun _ _ _ _ z => z) (fun z => z) fun es ρ1 vs H1 l R1 h1 => ?_⟩
  cases q : g es with
  | none => rw [q] at h1; exact h1.elim
  | some d => rw [q] at h1; exact hs an ρ1 σ H1 ts ds es d vs Q q l R1 h1
theorem callF_core (hs : CallF M r g) {σ : St} {H : Hp} {Q : VK} (h : tLs M W (fCall g fa) σ H Q) : tCB r (tAr M W fa) σ H Q := by
  obtain ⟨an, ρ, ts, ds, R, h⟩ := h
  refine ⟨an, ρ, ts, ds, R, AOk.bind (P := fun z => LOk M an ts ds W σ z Q) h (fun _ _ _ _ z => z) (fun z => z) fun es ρ1 vs H1 l R1 h1 => ?_⟩
  cases q : g es with
  | none => rw [q] at h1; exact h1.elim
  | some d => rw [q] at h1; exact hs an ρ1 σ H1 ts ds es d vs Q q l R1 h1
theorem se_callB (hs : CallS M r g) (hc : CallR X (.builtin id) r) (hm : X.mg x = none) (hv : bootBuiltins x = some (.builtin id)) (ha : SA X M W (e :: es) fa) (hg : Gl X x := by rfl) (hn : x ≠ "__name__" := by decide) (hdb : (x == ("__debug__" : Str)) = false := by decide)
    (he : starEach (e :: es) X.env = (false, eval e X.env) :: starEach es X.env := by rfl) (hpl : (backTo pos (starEach es X.env)).any (·.1) = false := by rfl) : SE X M W (.Call (.Name x p) (e :: es) [] pos) (fCall g fa) :=
  pe_imp (pe_callB hc hg hm hv ha hn hdb he hpl) fun _ _ _ h => call_core hs h
theorem se_callT (hs : CallS M r g) (hc : CallR X (.type T) r) (hm : X.mg x = none) (hv : bootBuiltins x = some (.type T)) (ha : SA X M W (e :: es) fa) (hg : Gl X x := by rfl) (hn : x ≠ "__name__" := by decide) (hdb : (x == ("__debug__" : Str)) = false := by decide)
    (he : starEach (e :: es) X.env = (false, eval e X.env) :: starEach es X.env := by rfl) (hpl : (backTo pos (starEach es X.env)).any (·.1) = false := by rfl) : SE X M W (.Call (.Name x p) (e :: es) [] pos) (fCall g fa) :=
  pe_imp (pe_callTy hc hg hm hv ha hn hdb he hpl) fun _ _ _ h => call_core hs h
theorem sl_callB (hs : CallF M r g) (hc : CallR X (.builtin id) r) (hm : X.mg x = none) (hv : bootBuiltins x = some (.builtin id)) (ha : SA X M W (e :: es) fa) (hg : Gl X x := by rfl) (hn : x ≠ "__name__" := by decide) (hdb : (x == ("__debug__" : Str)) = false := by decide)
    (he : starEach (e :: es) X.env = (false, eval e X.env) :: starEach es X.env := by rfl) (hpl : (backTo pos (starEach es X.env)).any (·.1) = false := by rfl) : SL X M W (.Call (.Name x p) (e :: es) [] pos) (fCall g fa) :=
  pe_imp (pe_callB hc hg hm hv ha hn hdb he hpl) fun _ _ _ h => callF_core hs h
theorem sl_callT (hs : CallF M r g) (hc : CallR X (.type T) r) (hm : X.mg x = none) (hv : bootBuiltins x = some (.type T)) (ha : SA X M W (e :: es) fa) (hg : Gl X x := by rfl) (hn : x ≠ "__name__" := by decide) (hdb : (x == ("__debug__" : Str)) = false := by decide)
    (he : starEach (e :: es) X.env = (false, eval e X.env) :: starEach es X.env := by rfl) (hpl : (backTo pos (starEach es X.env)).any (·.1) = false := by rfl) : SL X M W (.Call (.Name x p) (e :: es) [] pos) (fCall g fa) :=
  pe_imp (pe_callTy hc hg hm hv ha hn hdb he hpl) fun _ _ _ h => callF_core hs h
/-! #### abs, int, len, max, min, str, all, any, sum -/
def gAbs : List D → Option D
  | [.int i] => some (.int (if i < 0 then -i else i))
  | _ => none
theorem len1 {es : List D} {vs : List V} {a : D} (l : vs.length = [a].length) : ∃ v, vs = [v] := by
  match vs, l with
  | [v], _ => exact ⟨v, rfl⟩
theorem len2 {vs : List V} {a b : D} (l : vs.length = [a, b].length) : ∃ v u, vs = [v, u] := by
  match vs, l with
  | [v, u], _ => exact ⟨v, u, rfl⟩
theorem ca_abs : CallS M (fun xs H Q => ∃ i, xs = [.int i] ∧ Q (.int (if i < 0 then -i else i)) H) gAbs := fun an ρ σ H ts ds es d vs Q e l R k => by
  unfold gAbs at e
  split at e
  · cases e
    obtain ⟨v, rfl⟩ := len1 (es := []) l
    cases (show v = _ from R.repH)
    exact ⟨_, rfl, k _ _ (R.pop.push fun _ => rfl)⟩
  · cases e
def gInt : List D → Option D
  | [.int i] => some (.int i)
  | [.bl b] => some (.int (if b then 1 else 0))
  | _ => none
theorem ca_int : CallS M (fun xs H Q => (∃ i, xs = [V.int i] ∧ Q (.int i) H) ∨ ∃ k, xs = [V.bl k] ∧ Q (.int (if k then 1 else 0)) H) gInt := fun an ρ σ H ts ds es d vs Q e l R k => by
  unfold gInt at e
  split at e
  · cases e
    obtain ⟨v, rfl⟩ := len1 (es := []) l
    cases (show v = _ from R.repH)
    exact .inl ⟨_, rfl, k _ _ (R.pop.push fun _ => rfl)⟩
  · cases e
    obtain ⟨v, rfl⟩ := len1 (es := []) l
    cases (show v = _ from R.repH)
    exact .inr ⟨_, rfl, k _ _ (R.pop.push fun _ => rfl)⟩
  · cases e
def gLen : List D → Option D
  | [.lst ds] => some (.int ds.length)
  | [.tup ds] => some (.int ds.length)
  | [.frz ds] => some (.int ds.length)
  | [.str z] => if z.length ≤ sizeLine then some (.int z.length) else none
  | [.dic ks _] => some (.int ks.length)
  | _ => none
abbrev rLenU (K : PySem.W.Frag) : List V → Hp → VK → Prop := fun xs H Q => (∃ x n, xs = [x] ∧ LenV K x H n ∧ Q (.int n) H) ∨ (∃ d kvs, xs = [V.ref d] ∧ H d = some (.dK kvs) ∧ Q (.int (kvs.length : Nat)) H)
end
end Dl
end
section
set_option maxHeartbeats 4000000
/-! DlE: built-in functions, methods. -/
namespace Dl
open PySem PySem.Spec PyProof.Rows L2
section
variable {X : Cx} {M : Mc} {W : WX}
theorem call_lenU : CallR X (.builtin "len") (rLenU X.K) := CallR.or call_len call_lenD
theorem ca_len : CallS M (rLenU M.K) gLen := fun an ρ σ H ts ds es d vs Q e l R k => by
  unfold gLen at e
  split at e
  · cases e
    obtain ⟨v, rfl⟩ := len1 (es := []) l
    obtain ⟨p, us, rfl, h, t⟩ := R.repH
    exact .inl ⟨_, us.length, rfl, .inl ⟨us, SqL.of h, rfl⟩, by rw [t.len]; exact k _ _ (R.pop.push fun _ => rfl)⟩
  · cases e
    obtain ⟨v, rfl⟩ := len1 (es := []) l
    obtain ⟨p, us, rfl, h, t⟩ := R.repH
    exact .inl ⟨_, us.length, rfl, .inr ⟨us, h, rfl⟩, by rw [t.len]; exact k _ _ (R.pop.push fun _ => rfl)⟩
  · cases e
    obtain ⟨v, rfl⟩ := len1 (es := []) l
    obtain ⟨p, us, rfl, h, t⟩ := R.repH
    exact .inl ⟨_, us.length, rfl, .inl ⟨us, h, rfl⟩, by rw [t.len]; exact k _ _ (R.pop.push fun _ => rfl)⟩
  · split at e
    · rename_i hl
      cases e
      obtain ⟨v, rfl⟩ := len1 (es := []) l
      cases (show v = _ from R.repH)
      exact .inl ⟨_, _, rfl, ⟨hl, rfl⟩, k _ _ (R.pop.push fun _ => rfl)⟩
    · cases e
  · cases e
    obtain ⟨v, rfl⟩ := len1 (es := []) l
    obtain ⟨p, us, rfl, h, hl, t⟩ := R.repH
    refine .inr ⟨p, _, rfl, h, ?_⟩
    rw [List.length_zip, ← hl, Nat.min_self]
    exact k _ _ (R.pop.push fun _ => rfl)
  · cases e
/-- len of a local that is held alone -/
def fLenO (i : Nat) : En → Rs D := fun ρ => match cont ρ i with
  | some (.lst ds) => .ok (.int ds.length) ρ
  | _ => .stuck
theorem se_lenO (i : Nat) {x : Str} {p p1 pos : Pos} (hm : X.mg "len" = none) (hg : Gl X "len" := by rfl) (hN : X.N[i]? = some x := by rfl) (hv : Vis X.env.scope x := by first | exact Or.inl rfl | exact Or.inr (Or.inl rfl) | exact Or.inr (Or.inr rfl))
    (hd : (x == ("__debug__" : Str)) = false := by decide) (hcd : (x == ("__classdict__" : Str)) = false := by decide)
    (he : starEach [.Name x p] X.env = (false, eval (.Name x p) X.env) :: starEach [] X.env := by rfl) (hpl : (backTo pos (starEach [] X.env)).any (·.1) = false := by rfl) : SE X M W (.Call (.Name "len" p1) [.Name x p] [] pos) (fLenO i) := by
  refine pe_imp (pe_callB call_len hg hm PySem.boot_len (pa_cons (pe_var hN hv hd hcd) pa_nil he) (by decide) (by decide) he hpl) fun σ H Q ⟨an, ρ, ts, ds, R, h⟩ => ?_
  unfold fLenO at h
  cases q : cont ρ i with
  | none => rw [q] at h; exact h.elim
  | some d0 =>
    rw [q] at h
    obtain ⟨v, ev, z⟩ := R.cont_at q
    cases d0 with
    | lst es =>
      obtain ⟨pa, vs, rfl, h3, _, h5⟩ := z es rfl
      exact ⟨_, ev, _, vs.length, rfl, .inl ⟨vs, SqL.of h3, rfl⟩, by rw [h5]; exact h _ _ (R.push fun _ => rfl)⟩
    | _ => exact h.elim
def gMax : List D → Option D
  | [.int i, .int j] => some (.int (if j > i then j else i))
  | _ => none
def gMin : List D → Option D
  | [.int i, .int j] => some (.int (if j < i then j else i))
  | _ => none
theorem ca_max : CallS M (fun xs H Q => ∃ i j, xs = [V.int i, V.int j] ∧ Q (.int (if j > i then j else i)) H) gMax := fun an ρ σ H ts ds es d vs Q e l R k => by
  unfold gMax at e
  split at e
  · cases e
    obtain ⟨v, u, rfl⟩ := len2 l
    have q := R.repsH
    cases (show v = _ from q.head); cases (show u = _ from q.tail.head)
    exact ⟨_, _, rfl, k _ _ (R.pop2.push fun _ => rfl)⟩
  · cases e
theorem ca_min : CallS M (fun xs H Q => ∃ i j, xs = [V.int i, V.int j] ∧ Q (.int (if j < i then j else i)) H) gMin := fun an ρ σ H ts ds es d vs Q e l R k => by
  unfold gMin at e
  split at e
  · cases e
    obtain ⟨v, u, rfl⟩ := len2 l
    have q := R.repsH
    cases (show v = _ from q.head); cases (show u = _ from q.tail.head)
    exact ⟨_, _, rfl, k _ _ (R.pop2.push fun _ => rfl)⟩
  · cases e
def gStr : List D → Option D
  | [.int i] => if i.natAbs.log2 < 1920 then some (.str (toString i)) else none
  | _ => none
theorem ca_str : CallS M (fun xs H Q => ∃ i : Int, xs = [V.int i] ∧ i.natAbs.log2 < 1920 ∧ Q (.str (toString i)) H) gStr := fun an ρ σ H ts ds es d vs Q e l R k => by
  unfold gStr at e
  split at e
  · split at e
    · rename_i hl
      cases e
      obtain ⟨v, rfl⟩ := len1 (es := []) l
      cases (show v = _ from R.repH)
      exact ⟨_, rfl, hl, k _ _ (R.pop.push fun _ => rfl)⟩
    · cases e
  · cases e
def asB : List D → Option (List Bool)
  | [] => some []
  | .bl b :: ds => (asB ds).map (b :: ·)
  | _ => none
def asI : List D → Option (List Int)
  | [] => some []
  | .int b :: ds => (asI ds).map (b :: ·)
  | _ => none
theorem asB_rep {K : PySem.W.Frag} {cl : Str → Option Addr} {G : Hp} : ∀ {ds : List D} {vs : List V} {bs : List Bool}, asB ds = some bs → Reps K cl G ds vs → vs = bs.map V.bl
  | [], _, _, e, r => by simp [asB] at e; subst e; exact r
  | .bl b :: ds, _, bs, e, ⟨v, t, rfl, h, q⟩ => by
    obtain ⟨bs', e1, rfl⟩ := Option.map_eq_some_iff.mp (show (asB ds).map _ = some bs from e)
    rw [asB_rep e1 q, show v = .bl b from h]; rfl
  | .non :: _, _, _, e, _ => by cases e
  | .int _ :: _, _, _, e, _ => by cases e
  | .str _ :: _, _, _, e, _ => by cases e
  | .tup _ :: _, _, _, e, _ => by cases e
  | .lst _ :: _, _, _, e, _ => by cases e
  | .frz _ :: _, _, _, e, _ => by cases e
  | .dic _ _ :: _, _, _, e, _ => by cases e
  | .ins _ _ _ :: _, _, _, e, _ => by cases e
theorem asI_rep {K : PySem.W.Frag} {cl : Str → Option Addr} {G : Hp} : ∀ {ds : List D} {vs : List V} {bs : List Int}, asI ds = some bs → Reps K cl G ds vs → vs = bs.map V.int
  | [], _, _, e, r => by simp [asI] at e; subst e; exact r
  | .int b :: ds, _, bs, e, ⟨v, t, rfl, h, q⟩ => by
    obtain ⟨bs', e1, rfl⟩ := Option.map_eq_some_iff.mp (show (asI ds).map _ = some bs from e)
    rw [asI_rep e1 q, show v = .int b from h]; rfl
  | .non :: _, _, _, e, _ => by cases e
  | .bl _ :: _, _, _, e, _ => by cases e
  | .str _ :: _, _, _, e, _ => by cases e
  | .tup _ :: _, _, _, e, _ => by cases e
  | .lst _ :: _, _, _, e, _ => by cases e
  | .frz _ :: _, _, _, e, _ => by cases e
  | .dic _ _ :: _, _, _, e, _ => by cases e
  | .ins _ _ _ :: _, _, _, e, _ => by cases e
def gAll : List D → Option D
  | [.lst ds] => (asB ds).map fun bs => .bl (bs.all id)
  | _ => none
def gAny : List D → Option D
  | [.lst ds] => (asB ds).map fun bs => .bl (bs.any id)
  | _ => none
def gSum : List D → Option D
  | [.lst ds] => (asI ds).map fun ns => .int ns.sum
  | _ => none
theorem ca_all : CallS M (rAll M.K) gAll := fun an ρ σ H ts ds es d vs Q e l R k => by
  unfold gAll at e
  split at e
  · obtain ⟨bs, e1, rfl⟩ := Option.map_eq_some_iff.mp e
    obtain ⟨v, rfl⟩ := len1 (es := []) l
    obtain ⟨p, us, rfl, h, t⟩ := R.repH
    have := asB_rep e1 t
    subst this
    exact ⟨p, bs, rfl, SqL.of h, k _ _ (R.pop.push fun _ => rfl)⟩
  · cases e
theorem ca_any : CallS M (rAny M.K) gAny := fun an ρ σ H ts ds es d vs Q e l R k => by
  unfold gAny at e
  split at e
  · obtain ⟨bs, e1, rfl⟩ := Option.map_eq_some_iff.mp e
    obtain ⟨v, rfl⟩ := len1 (es := []) l
    obtain ⟨p, us, rfl, h, t⟩ := R.repH
    have := asB_rep e1 t
    subst this
    exact ⟨p, bs, rfl, SqL.of h, k _ _ (R.pop.push fun _ => rfl)⟩
  · cases e
theorem ca_sum : CallS M (rSum M.K) gSum := fun an ρ σ H ts ds es d vs Q e l R k => by
  unfold gSum at e
  split at e
  · obtain ⟨bs, e1, rfl⟩ := Option.map_eq_some_iff.mp e
    obtain ⟨v, rfl⟩ := len1 (es := []) l
    obtain ⟨p, us, rfl, h, t⟩ := R.repH
    have := asI_rep e1 t
    subst this
    exact ⟨p, bs, rfl, SqL.of h, k _ _ (R.pop.push fun _ => rfl)⟩
  · cases e
def gTuple : List D → Option D
  | [.lst ds] => some (.tup ds)
  | [.tup ds] => some (.tup ds)
  | [.frz ds] => some (.tup ds)
  | _ => none
abbrev rTupleU (K : PySem.W.Frag) : List V → Hp → VK → Prop := fun xs H Q => ∃ p ys, xs = [.ref p] ∧ ((SqL K H p ys ∧ ∀ l, H l = none → Q (.ref l) (upd H l (.tup ys))) ∨ (SqT K H p ys ∧ Q (.ref p) H))
theorem ca_tuple : CallS M (rTupleU M.K) gTuple := fun an ρ σ H ts ds es d vs Q e l R k => by
  obtain ⟨G, own, r⟩ := R
  unfold gTuple at e
  split at e
  · cases e
    obtain ⟨v, rfl⟩ := len1 (es := []) l
    obtain ⟨p, us, rfl, h, t⟩ := r.tmp.head
    exact ⟨p, us, rfl, .inl ⟨SqL.of (r.sub _ _ h), fun q hq => k _ _ (r.new hq fun s => Reps.cons ⟨q, us, rfl, SqT.of upd_same, Reps.mono s _ _ t⟩ (Reps.mono s _ _ r.tmp.tail))⟩⟩
  · cases e
    obtain ⟨v, rfl⟩ := len1 (es := []) l
    obtain ⟨p, us, rfl, h, t⟩ := r.tmp.head
    exact ⟨p, us, rfl, .inr ⟨r.sub.sqT h, k _ _ ⟨G, own, r⟩⟩⟩
  · cases e
    obtain ⟨v, rfl⟩ := len1 (es := []) l
    obtain ⟨p, us, rfl, h, t⟩ := r.tmp.head
    exact ⟨p, us, rfl, .inl ⟨r.sub.sqL h, fun q hq => k _ _ (r.new hq fun s => Reps.cons ⟨q, us, rfl, SqT.of upd_same, Reps.mono s _ _ t⟩ (Reps.mono s _ _ r.tmp.tail))⟩⟩
  · cases e
def gList : List D → Option D
  | [.lst ds] => some (.lst ds)
  | [.tup ds] => some (.lst ds)
  | [.frz ds] => some (.lst ds)
  | _ => none
abbrev rListU (K : PySem.W.Frag) : List V → Hp → VK → Prop := fun xs H Q => ∃ p ys, xs = [.ref p] ∧ (SqL K H p ys ∨ SqT K H p ys) ∧ ∀ l, H l = none → Q (.ref l) (upd H l (.lst ys))
/-- a fresh list of what stands there -/
theorem RelG.newAn {an : List (Addr × D)} {ρ : En} {σ : St} {H : Hp} {ts us : List V} {ds fs : List D} {G : Hp} {own : Nat → Addr} {p : Addr} {o : HO} {d : D} (r : RelG M an ρ σ H us fs G own) (n : H p = none) (h1 : OwAt M.K M.cl G (upd H p o) p d) (h2 : Reps M.K M.cl G ds ts) : RelX M ((p, d) :: an) ρ σ (upd H p o) ts ds := by
  have r' := r.growH (o := o) n
  refine ⟨G, own, { r' with anp := fun q hq => ?_, apart := fun i hi q hq => ?_, anN := ?_, tmp := h2 }⟩
  · rcases List.mem_cons.mp hq with e | hq
    · subst e; exact ⟨h1, r.gn n, r.h0 n⟩
    · exact r'.anp q hq
  · rcases List.mem_cons.mp hq with e | hq
    · subst e
      obtain ⟨u, hu⟩ := r.owned hi
      exact ne_of_none hu n
    · exact r.apart i hi q hq
  · rw [List.map_cons, List.nodup_cons]
    refine ⟨fun hm => ?_, r.anN⟩
    obtain ⟨q, hq, e⟩ := List.mem_map.mp hm
    obtain ⟨u, hu⟩ := (r.anp q hq).1.there
    rw [e, n] at hu; cases hu
theorem cf_list : CallF M (rListU M.K) gList := fun an ρ σ H ts ds es d vs Q e l R k => by
  obtain ⟨G, own, r⟩ := R
  unfold gList at e
  split at e
  · cases e
    obtain ⟨v, rfl⟩ := len1 (es := []) l
    obtain ⟨p, us, rfl, h, t⟩ := r.tmp.head
    exact ⟨p, us, rfl, .inl (SqL.of (r.sub _ _ h)), fun q hq => k _ _ (r.newAn hq ⟨us, upd_same, t⟩ r.tmp.tail)⟩
  · cases e
    obtain ⟨v, rfl⟩ := len1 (es := []) l
    obtain ⟨p, us, rfl, h, t⟩ := r.tmp.head
    exact ⟨p, us, rfl, .inr (r.sub.sqT h), fun q hq => k _ _ (r.newAn hq ⟨us, upd_same, t⟩ r.tmp.tail)⟩
  · cases e
    obtain ⟨v, rfl⟩ := len1 (es := []) l
    obtain ⟨p, us, rfl, h, t⟩ := r.tmp.head
    exact ⟨p, us, rfl, .inl (r.sub.sqL h), fun q hq => k _ _ (r.newAn hq ⟨us, upd_same, t⟩ r.tmp.tail)⟩
  · cases e
/-! #### isinstance with a built-in class -/
def isInt : D → Option Bool
  | .int _ => some true
  | .bl _ => some true
  | .ins _ _ _ => none
  | .loc _ _ => none
  | _ => some false
def isBool : D → Option Bool
  | .bl _ => some true
  | .ins _ _ _ => none
  | .loc _ _ => none
  | _ => some false
def isStr : D → Option Bool
  | .str _ => some true
  | .ins _ _ _ => none
  | .loc _ _ => none
  | _ => some false
def isTup : D → Option Bool
  | .tup _ => some true
  | .ins _ _ _ => none
  | .loc _ _ => none
  | _ => some false
def isLst : D → Option Bool
  | .lst _ => some true
  | .frz _ => some true
  | .ins _ _ _ => none
  | .loc _ _ => none
  | _ => some false
def isDic : D → Option Bool
  | .dic _ _ => some true
  | .ins _ _ _ => none
  | .loc _ _ => none
  | _ => some false
def tyN : D → Option String
  | .non => some "NoneType"
  | .bl _ => some "bool"
  | .int _ => some "int"
  | .str _ => some "str"
  | .tup _ => some "tuple"
  | .lst _ => some "list"
  | .frz _ => some "list"
  | .dic _ _ => some "dict"
  | .loc _ _ => none
  | .ins _ _ _ => none
theorem SqT.tyX {K : PySem.W.Frag} {H : Hp} {p : Addr} {vs : List V} (h : SqT K H p vs) : TyX K H (.ref p) (.type "tuple") := by
  rcases h with (h | ⟨o, h⟩) | ⟨o, its, n, h, c, _⟩
  · exact .base (.tup h)
  · exact .fTuple h
  · exact .kTuple h c
theorem SqL.tyX {K : PySem.W.Frag} {H : Hp} {p : Addr} {vs : List V} (h : SqL K H p vs) : TyX K H (.ref p) (.type "list") := by
  rcases h with (h | ⟨o, h⟩) | ⟨o, its, n, h, c, _⟩
  · exact .base (.lst h)
  · exact .base (.frz h)
  · exact .kList h c
theorem tyX_of {K : PySem.W.Frag} {cl : Str → Option Addr} {H : Hp} {d : D} {v : V} {t : String} (e : tyN d = some t) (h : Rep K cl H d v) : TyX K H v (.type t) := by
  cases d with
  | non => cases e; cases (show v = _ from h); exact .base .non
  | bl b => cases e; cases (show v = _ from h); exact .base (.bl b)
  | int b => cases e; cases (show v = _ from h); exact .base (.int b)
  | str b => cases e; cases (show v = _ from h); exact .base (.str b)
  | tup b => cases e; obtain ⟨p, vs, rfl, q, _⟩ := h; exact SqT.tyX q
  | lst b => cases e; obtain ⟨p, vs, rfl, q, _⟩ := h; exact SqL.tyX (SqL.of q)
  | frz b => cases e; obtain ⟨p, vs, rfl, q, _⟩ := h; exact SqL.tyX q
  | dic a b => cases e; obtain ⟨p, vs, rfl, q, _⟩ := h; exact .base (.dK q)
  | ins a b c => cases e
  | loc a b => cases e
def IsiOk (T : String) (g : D → Option Bool) : Prop := ∀ d b, g d = some b → ∃ t, tyN d = some t ∧ kitB t T = some b
theorem isi_int : IsiOk "int" isInt := fun d b e => by cases d <;> cases e <;> exact ⟨_, rfl, by decide +kernel⟩
theorem isi_bool : IsiOk "bool" isBool := fun d b e => by cases d <;> cases e <;> exact ⟨_, rfl, by decide +kernel⟩
theorem isi_str : IsiOk "str" isStr := fun d b e => by cases d <;> cases e <;> exact ⟨_, rfl, by decide +kernel⟩
theorem isi_tup : IsiOk "tuple" isTup := fun d b e => by cases d <;> cases e <;> exact ⟨_, rfl, by decide +kernel⟩
theorem isi_lst : IsiOk "list" isLst := fun d b e => by cases d <;> cases e <;> exact ⟨_, rfl, by decide +kernel⟩
theorem isi_dic : IsiOk "dict" isDic := fun d b e => by cases d <;> cases e <;> exact ⟨_, rfl, by decide +kernel⟩
def fIsi (g : D → Option Bool) (f : En → Rs D) : En → Rs D := fUn (fun d => (g d).map .bl) f
theorem se_isi {T : String} {x : Str} {g : D → Option Bool} {e : Expr} {f : En → Rs D} {p p2 pos : Pos} (hk : M.K = X.K) (hg : IsiOk T g) (h : SE X M W e f) (hm : X.mg "isinstance" = none) (hmT : X.mg x = none) (hvT : bootBuiltins x = some (.type T)) (hgl : Gl X "isinstance" := by rfl) (hgT : Gl X x := by rfl)
    (hnT : x ≠ "__name__" := by decide) (hdT : (x == ("__debug__" : Str)) = false := by decide)
    (he : starEach [e, .Name x p2] X.env = (false, eval e X.env) :: starEach [.Name x p2] X.env := by rfl) (he2 : starEach [.Name x p2] X.env = (false, eval (.Name x p2) X.env) :: starEach [] X.env := by rfl) (hpl : (backTo pos (starEach [.Name x p2] X.env)).any (·.1) = false := by rfl) :
    SE X M W (.Call (.Name "isinstance" p) [e, .Name x p2] [] pos) (fIsi g f) := by
  refine pe_imp (pe_callB call_isi hgl hm (by decide +kernel) (pa_cons h (pa_cons (pe_bltn (v := .ty T) hgT hmT hvT rfl hnT hdT) pa_nil he2) he) (by decide) (by decide) he hpl) fun σ H Q ⟨an, ρ, ts, ds, R, h⟩ => ?_
  refine ⟨an, ρ, ts, ds, R, EOk.bind (P := fun z => EOk M an ts ds W σ z Q) h (fun _ _ _ _ z => z) (fun z => z) fun d ρ1 v H1 R1 h1 => ?_⟩
  cases q : g d with
  | none => dsimp only at h1; rw [q] at h1; exact h1.elim
  | some b =>
    dsimp only at h1
    rw [q] at h1
    obtain ⟨t, e1, e2⟩ := hg d b q
    refine ⟨v, .ty T, _, _, b, rfl, .ty T, ?_, kit_ty e2, h1 _ _ (R1.pop.push fun _ => rfl)⟩
    rw [← hk]
    exact tyX_of e1 R1.repH
end
end Dl
end
section
set_option maxHeartbeats 4000000
/-! DlF: statements, targets, stores, loops. -/
namespace Dl
open PySem PySem.Spec PyProof.Rows L2
/-! ### slots changed -/
def setOk (ρ : En) (i : Nat) : Bool := match ρ[i]? with
  | some (some (.bo _)) => false
  | some _ => true
  | none => false
section
variable {M : Mc} {an : List (Addr × D)} {ρ : En} {σ : St} {H H' : Hp} {ts us : List V} {ds es : List D} {a p : Addr} {o : HO} {i : Nat} {d e : D} {v : V}
theorem setOk_lt (h : setOk ρ i = true) : i < ρ.length := by
  unfold setOk at h
  split at h
  · cases h
  · rename_i q; exact (List.getElem?_eq_some_iff.mp q).1
  · cases h
theorem not_bo (h : setOk ρ i = true) (d : D) : ρ[i]? ≠ some (some (.bo d)) := fun e => by unfold setOk at h; rw [e] at h; cases h
theorem isOw_set2 {x : Option Sl} {j : Nat} (hij : i ≠ j) : IsOw (ρ.set i x) j ↔ IsOw ρ j := by
  unfold IsOw; rw [List.getElem?_set_ne hij]
/-- a slot takes a shared value, or none -/
theorem RelX.setSh (R : RelX M an ρ σ H (v :: ts) (d :: ds)) (h : setOk ρ i = true) : RelX M an (ρ.set i (some (.sh d))) (σ.set i (some v)) H ts ds := by
  obtain ⟨G, own, r⟩ := R
  have hl := setOk_lt h
  have hls : i < σ.length := by rw [← r.len]; exact hl
  refine ⟨G, own, { r with shp := fun j d' hj => ?_, owp := fun j d' hj => ?_, bop := fun j d' hj => ?_, inj := fun j k hj hk => r.inj j k (isOw_set hj) (isOw_set hk), apart := fun j hj => r.apart j (isOw_set hj), len := by simpa using r.len, tmp := r.tmp.tail }⟩
  · by_cases hij : i = j
    · subst hij; rw [List.getElem?_set_self hl] at hj; cases hj
      exact ⟨v, List.getElem?_set_self hls, r.tmp.head⟩
    · rw [List.getElem?_set_ne hij] at hj; rw [List.getElem?_set_ne hij]; exact r.shp j d' hj
  · by_cases hij : i = j
    · subst hij; rw [List.getElem?_set_self hl] at hj; cases hj
    · rw [List.getElem?_set_ne hij] at hj; rw [List.getElem?_set_ne hij]; exact r.owp j d' hj
  · by_cases hij : i = j
    · subst hij; rw [List.getElem?_set_self hl] at hj; cases hj
    · rw [List.getElem?_set_ne hij] at hj; rw [List.getElem?_set_ne hij]; exact r.bop j d' hj
theorem RelX.setNo {x : Option V} (R : RelX M an ρ σ H ts ds) (h : i < ρ.length → setOk ρ i = true) : RelX M an (ρ.set i none) (σ.set i x) H ts ds := by
  obtain ⟨G, own, r⟩ := R
  by_cases hl : i < ρ.length
  · have hls : i < σ.length := by rw [← r.len]; exact hl
    have ow : ∀ j, IsOw (ρ.set i none) j → IsOw ρ j := fun j ⟨e, hj⟩ => by
      by_cases hij : i = j
      · subst hij; rw [List.getElem?_set_self hl] at hj; rcases hj with hj | hj <;> cases hj
      · rw [List.getElem?_set_ne hij] at hj; exact ⟨e, hj⟩
    refine ⟨G, own, { r with shp := fun j d' hj => ?_, owp := fun j d' hj => ?_, bop := fun j d' hj => ?_, inj := fun j k hj hk => r.inj j k (ow j hj) (ow k hk), apart := fun j hj => r.apart j (ow j hj), len := by simpa using r.len }⟩
    all_goals
      by_cases hij : i = j
      · subst hij; rw [List.getElem?_set_self hl] at hj; cases hj
      · rw [List.getElem?_set_ne hij] at hj; rw [List.getElem?_set_ne hij]
        first | exact r.shp j d' hj | exact r.owp j d' hj | exact r.bop j d' hj
  · rw [List.set_eq_of_length_le (Nat.le_of_not_lt hl), List.set_eq_of_length_le (by rw [← r.len]; exact Nat.le_of_not_lt hl)]
    exact ⟨G, own, r⟩
/-- a slot takes what was held aside -/
theorem RelX.setOw (R : RelX M ((p, d) :: an) ρ σ H ts ds) (h : setOk ρ i = true) : RelX M an (ρ.set i (some (.ow d))) (σ.set i (some (.ref p))) H ts ds := by
  obtain ⟨G, own, r⟩ := R
  have hl := setOk_lt h
  have hls : i < σ.length := by rw [← r.len]; exact hl
  obtain ⟨q, g, z⟩ := r.anp (p, d) List.mem_cons_self
  have nd := List.nodup_cons.mp (show (p :: an.map (·.1)).Nodup from r.anN)
  have ow : ∀ j, i ≠ j → IsOw (ρ.set i (some (.ow d))) j → IsOw ρ j := fun j hij h => (isOw_set2 hij).mp h
  refine ⟨G, fun j => if j = i then p else own j, { r with shp := fun j d' hj => ?_, owp := fun j d' hj => ?_, bop := fun j d' hj => ?_, anp := fun x hx => r.anp x (List.mem_cons_of_mem _ hx), inj := fun j k hj hk e => ?_, apart := fun j hj x hx => ?_, anN := nd.2, len := by simpa using r.len }⟩
  · by_cases hij : i = j
    · subst hij; rw [List.getElem?_set_self hl] at hj; cases hj
    · rw [List.getElem?_set_ne hij] at hj; rw [List.getElem?_set_ne hij]; exact r.shp j d' hj
  · by_cases hij : i = j
    · subst hij; rw [List.getElem?_set_self hl] at hj; cases hj
      rw [if_pos rfl]
      exact ⟨List.getElem?_set_self hls, q, g, z⟩
    · rw [List.getElem?_set_ne hij] at hj; rw [List.getElem?_set_ne hij]
      rw [if_neg (Ne.symm hij)]
      exact r.owp j d' hj
  · by_cases hij : i = j
    · subst hij; rw [List.getElem?_set_self hl] at hj; cases hj
    · rw [List.getElem?_set_ne hij] at hj; rw [List.getElem?_set_ne hij]
      rw [if_neg (Ne.symm hij)]
      exact r.bop j d' hj
  · skip
    by_cases hj1 : j = i
    · by_cases hk1 : k = i
      · rw [hj1, hk1]
      · rw [if_pos hj1, if_neg hk1] at e
        exact absurd e.symm (r.apart k (ow k (Ne.symm hk1) hk) (p, d) List.mem_cons_self)
    · by_cases hk1 : k = i
      · rw [if_neg hj1, if_pos hk1] at e
        exact absurd e (r.apart j (ow j (Ne.symm hj1) hj) (p, d) List.mem_cons_self)
      · rw [if_neg hj1, if_neg hk1] at e
        exact r.inj j k (ow j (Ne.symm hj1) hj) (ow k (Ne.symm hk1) hk) e
  · skip
    by_cases hj1 : j = i
    · rw [if_pos hj1]
      exact fun e => nd.1 (List.mem_map.mpr ⟨x, hx, e.symm⟩)
    · rw [if_neg hj1]
      exact r.apart j (ow j (Ne.symm hj1) hj) x (List.mem_cons_of_mem _ hx)
/-- the content of an owned slot, changed -/
def putSl (ρ : En) (i : Nat) (d : D) : En := match ρ[i]? with
  | some (some (.ow _)) => ρ.set i (some (.ow d))
  | some (some (.bo _)) => ρ.set i (some (.bo d))
  | _ => ρ
def owned (ρ : En) (i : Nat) : Option D := match ρ[i]? with
  | some (some (.ow d)) => some d
  | some (some (.bo d)) => some d
  | _ => none
theorem owned_is (h : owned ρ i = some d) : ρ[i]? = some (some (.ow d)) ∨ ρ[i]? = some (some (.bo d)) := by
  unfold owned at h
  split at h
  · rename_i q; cases h; exact .inl q
  · rename_i q; cases h; exact .inr q
  · cases h
theorem cont_of_owned (h : owned ρ i = some d) : cont ρ i = some d := by
  unfold cont
  rcases owned_is h with e | e <;> rw [e]
theorem putSl_get {j : Nat} (hij : i ≠ j) : (putSl ρ i e)[j]? = ρ[j]? := by
  unfold putSl
  split
  · exact List.getElem?_set_ne hij
  · exact List.getElem?_set_ne hij
  · rfl
theorem putSl_isOw {j : Nat} (h : owned ρ i = some d) : IsOw (putSl ρ i e) j → IsOw ρ j := fun ⟨x, hx⟩ => by
  by_cases hij : i = j
  · subst hij; exact ⟨d, owned_is h⟩
  · rw [putSl_get hij] at hx; exact ⟨x, hx⟩
/-- an owned list gets another content -/
theorem RelX.put {es0 : List D} (R : RelX M an ρ σ H us es) (h : owned ρ i = some (.lst es0)) : ∃ p vs, σ[i]? = some (some (.ref p)) ∧ H p = some (.lst vs) ∧ vs.length = es0.length ∧
    ∀ vs' es', (∀ G, Reps M.K M.cl G es us → Reps M.K M.cl G es0 vs → Reps M.K M.cl G es' vs' ∧ Reps M.K M.cl G ds ts) → RelX M an (putSl ρ i (.lst es')) σ (upd H p (.lst vs')) ts ds := by
  obtain ⟨G, own, r⟩ := R
  have z : σ[i]? = some (some (.ref (own i))) ∧ OwAt M.K M.cl G H (own i) (.lst es0) ∧ G (own i) = none := by
    rcases owned_is h with e | e
    · obtain ⟨a, b, c, _⟩ := r.owp i _ e; exact ⟨a, b, c⟩
    · obtain ⟨a, b, c, _⟩ := r.bop i _ e; exact ⟨a, b, c⟩
  obtain ⟨z1, ⟨vs, z2, z3⟩, z4⟩ := z
  refine ⟨own i, vs, z1, z2, z3.len, fun vs' es' hh => ?_⟩
  obtain ⟨q1, q2⟩ := hh G r.tmp z3
  have iow : IsOw ρ i := ⟨_, owned_is h⟩
  have keep : ∀ b u, b ≠ own i → H b = some u → (upd H (own i) (.lst vs')) b = some u := fun b u hb e => by rw [upd_ne hb]; exact e
  have gne : ∀ b u, G b = some u → b ≠ own i := fun b u e c => by rw [c, z4] at e; cases e
  refine ⟨G, own, { sub := fun b u e => keep b u (gne b u e) (r.sub b u e), g0 := r.g0, fr := r.fr, ext := fun b u e w => keep b u ?_ (r.ext b u e w), wok := fun b w => ?_, shp := fun j d' hj => ?_, owp := fun j d' hj => ?_, bop := fun j d' hj => ?_, anp := fun x hx => ?_, inj := fun j k hj hk => r.inj j k (putSl_isOw h hj) (putSl_isOw h hk), apart := fun j hj => r.apart j (putSl_isOw h hj), anN := r.anN, len := ?_, tmp := q2 }⟩
  · rintro rfl
    rcases owned_is h with e' | e'
    · obtain ⟨_, _, _, c⟩ := r.owp i _ e'; rw [c] at e; cases e
    · obtain ⟨_, _, _, c⟩ := r.bop i _ e'; exact w c.1
  · by_cases hb : b = own i
    · exact ⟨_, by rw [hb]; exact upd_same⟩
    · obtain ⟨u, hu⟩ := r.wok b w; exact ⟨u, keep b u hb hu⟩
  · by_cases hij : i = j
    · subst hij
      exfalso
      have hl := (List.getElem?_eq_some_iff.mp hj).1
      unfold putSl at hj
      rcases owned_is h with e | e
      · rw [e] at hj; dsimp only at hj; rw [List.getElem?_set_self (List.getElem?_eq_some_iff.mp e).1] at hj; cases hj
      · rw [e] at hj; dsimp only at hj; rw [List.getElem?_set_self (List.getElem?_eq_some_iff.mp e).1] at hj; cases hj
    · rw [putSl_get hij] at hj; exact r.shp j d' hj
  · by_cases hij : i = j
    · subst hij
      unfold putSl at hj
      rcases owned_is h with e | e
      · rw [e] at hj; dsimp only at hj; rw [List.getElem?_set_self (List.getElem?_eq_some_iff.mp e).1] at hj; cases hj
        obtain ⟨c1, c2, c3, c4⟩ := r.owp i _ e
        exact ⟨c1, ⟨vs', upd_same, q1⟩, c3, c4⟩
      · rw [e] at hj; dsimp only at hj; rw [List.getElem?_set_self (List.getElem?_eq_some_iff.mp e).1] at hj; cases hj
    · rw [putSl_get hij] at hj
      obtain ⟨c1, c2, c3, c4⟩ := r.owp j d' hj
      have ne : own j ≠ own i := fun c => hij (r.inj j i ⟨_, .inl hj⟩ iow c).symm
      exact ⟨c1, c2.mono Sub.rfl' fun u hu => keep _ u ne hu, c3, c4⟩
  · by_cases hij : i = j
    · subst hij
      unfold putSl at hj
      rcases owned_is h with e | e
      · rw [e] at hj; dsimp only at hj; rw [List.getElem?_set_self (List.getElem?_eq_some_iff.mp e).1] at hj; cases hj
      · rw [e] at hj; dsimp only at hj; rw [List.getElem?_set_self (List.getElem?_eq_some_iff.mp e).1] at hj; cases hj
        obtain ⟨c1, c2, c3, c4⟩ := r.bop i _ e
        exact ⟨c1, ⟨vs', upd_same, q1⟩, c3, c4⟩
    · rw [putSl_get hij] at hj
      obtain ⟨c1, c2, c3, c4⟩ := r.bop j d' hj
      have ne : own j ≠ own i := fun c => hij (r.inj j i ⟨_, .inr hj⟩ iow c).symm
      exact ⟨c1, c2.mono Sub.rfl' fun u hu => keep _ u ne hu, c3, c4⟩
  · obtain ⟨c2, c3, c4⟩ := r.anp x hx
    exact ⟨c2.mono Sub.rfl' fun u hu => keep _ u (Ne.symm (r.apart i iow x hx)) hu, c3, c4⟩
  · rw [← r.len]; unfold putSl; split <;> simp
end
/-! ### blocks, small statements -/
def fSkip : En → Rs Fl := fun ρ => .ok .nx ρ
def fSeq (f g : En → Rs Fl) : En → Rs Fl := fun ρ => (f ρ).bind fun a ρ1 => match a with
  | .nx => g ρ1
  | a => .ok a ρ1
def fRet (f : En → Rs D) : En → Rs Fl := fun ρ => (f ρ).bind fun d ρ1 => .ok (.ret d) ρ1
def fRetL (f : En → Rs D) : En → Rs Fl := fun ρ => (f ρ).bind fun d ρ1 => .ok (.retL d) ρ1
def fRetN : En → Rs Fl := fun ρ => .ok (.ret .non) ρ
def fBrk : En → Rs Fl := fun ρ => .ok .brk ρ
def fCont : En → Rs Fl := fun ρ => .ok .cont ρ
def fExp (f : En → Rs D) : En → Rs Fl := fun ρ => (f ρ).bind fun _ ρ1 => .ok .nx ρ1
def fIfS (c : En → Rs Bool) (f g : En → Rs Fl) : En → Rs Fl := fun ρ => (c ρ).bind fun b ρ1 => if b = true then f ρ1 else g ρ1
def fSet (i : Nat) (f : En → Rs D) : En → Rs Fl := fun ρ => (f ρ).bind fun d ρ1 => if setOk ρ1 i = true then .ok .nx (ρ1.set i (some (.sh d))) else .stuck
def fSetL (i : Nat) (f : En → Rs D) : En → Rs Fl := fun ρ => (f ρ).bind fun d ρ1 => if setOk ρ1 i = true then .ok .nx (ρ1.set i (some (.ow d))) else .stuck
section
variable {X : Cx} {M : Mc} {W : WX} {e c : Expr} {st : Stmt} {rest a b : List Stmt} {f g : En → Rs Fl} {fe : En → Rs D} {fc : En → Rs Bool} {pos pos' : Pos}
theorem sss_nil : SSs X M W [] fSkip := pss_imp pss_nil fun Dn σ H ⟨an, ρ, ts, ds, R, h⟩ => h σ H R
theorem sss_cons (h1 : SS X M W st f) (h2 : SSs X M W rest g) : SSs X M W (st :: rest) (fSeq f g) := pss_imp (pss_cons h1 h2) fun Dn σ H ⟨an, ρ, ts, ds, R, h⟩ =>
  ⟨an, ρ, ts, ds, R, SOk.bind (P := fun z => SOk M an ts ds W z Dn) h (fun _ _ _ _ z => z) (fun z => z) (fun ρ1 σ1 H1 R1 h1 => ⟨an, ρ1, ts, ds, R1, h1⟩) (fun ρ1 σ1 H1 R1 h1 => h1 σ1 H1 R1) (fun ρ1 σ1 H1 R1 h1 => h1 σ1 H1 R1) (fun d ρ1 v σ1 H1 R1 h1 => h1 v σ1 H1 R1) fun d ρ1 v σ1 H1 R1 h1 => h1 v σ1 H1 R1⟩
theorem sss_one (h1 : SS X M W st f) : SSs X M W [st] f := pss_one h1
theorem ss_pass : SS X M W (.Pass pos) fSkip := ps_imp ps_pass fun Dn σ H ⟨an, ρ, ts, ds, R, h⟩ => h σ H R
theorem ss_brk : SS X M W (.Break pos) fBrk := ps_imp ps_break fun Dn σ H ⟨an, ρ, ts, ds, R, h⟩ => h σ H R
theorem ss_cont : SS X M W (.Continue pos) fCont := ps_imp ps_continue fun Dn σ H ⟨an, ρ, ts, ds, R, h⟩ => h σ H R
/-- the ends of an expression within a statement -/
theorem EOk.toS {an : List (Addr × D)} {ts : List V} {ds : List D} {σ : St} {r : Rs D} {k : D → En → Rs Fl} {Dn : Ends} {Q : VK} (h : SOk M an ts ds W (r.bind k) Dn) (hk : ∀ d ρ1 v H1, RelX M an ρ1 σ H1 (v :: ts) (d :: ds) → SOk M an ts ds W (k d ρ1) Dn → Q v H1) : EOk M an ts ds W σ r Q :=
  EOk.bind (P := fun z => SOk M an ts ds W z Dn) h (fun _ _ _ _ z => z σ) (fun z => z) hk
theorem ss_ret (h : SE X M W e fe) : SS X M W (.Return (some e) pos) (fRet fe) := ps_imp (ps_ret h) fun Dn σ H ⟨an, ρ, ts, ds, R, h⟩ =>
  ⟨an, ρ, ts, ds, R, EOk.toS h fun d ρ1 v H1 R1 h1 => h1 v σ H1 R1⟩
/-- return of a fresh object -/
theorem ss_retL (h : SL X M W e fe) : SS X M W (.Return (some e) pos) (fRetL fe) := by
  refine ps_imp (ps_ret h) fun Dn σ H ⟨an, ρ, ts, ds, R, h⟩ => ?_
  refine ⟨an, ρ, ts, ds, R, ?_⟩
  unfold fRetL at h
  revert h
  unfold LOk
  cases fe ρ with
  | stuck => exact fun h => h
  | err c fs es ρ1 => exact fun h => h σ
  | ok d ρ1 => exact fun h p H' R' => h p σ H' R'
theorem ss_retN : SS X M W (.Return none pos) fRetN := ps_imp ps_retN fun Dn σ H ⟨an, ρ, ts, ds, R, h⟩ => h _ σ H (R.push fun _ => rfl)
theorem ss_exp (h : SE X M W e fe) (hs : swapsWith e none pos.line X.env = pure false := by rfl) : SS X M W (.Expr e pos) (fExp fe) := ps_imp (ps_expr h hs) fun Dn σ H ⟨an, ρ, ts, ds, R, h⟩ =>
  ⟨an, ρ, ts, ds, R, EOk.toS h fun d ρ1 v H1 R1 h1 => h1 σ H1 R1.pop⟩
theorem ss_if (hc : SB X M W c fc) (ha : SSs X M W a f) (hb : SSs X M W b g) : SS X M W (.If c a b pos) (fIfS fc f g) := ps_imp (ps_if hc ha hb) fun Dn σ H ⟨an, ρ, ts, ds, R, h⟩ =>
  ⟨an, ρ, ts, ds, R, BOk.bind (P := fun z => SOk M an ts ds W z Dn) h (fun _ _ _ _ z => z σ) (fun z => z) fun b ρ1 H1 R1 h1 => by
    cases b with
    | true => exact iteT ⟨an, ρ1, ts, ds, R1, h1⟩
    | false => exact iteF ⟨an, ρ1, ts, ds, R1, h1⟩⟩
/-- x = e -/
theorem set_core {i : Nat} {Dn : Ends} {σ : St} {H : Hp} (h : tSt M W (fSet i fe) Dn σ H) : tAsg (tE M W fe) (gName i) Dn σ H := by
  obtain ⟨an, ρ, ts, ds, R, h⟩ := h
  refine ⟨an, ρ, ts, ds, R, EOk.toS h fun d ρ1 v H1 R1 h1 => ?_⟩
  by_cases c : setOk ρ1 i = true
  · rw [if_pos c] at h1; exact h1 _ _ (R1.setSh c)
  · rw [if_neg c] at h1; exact h1.elim
theorem setL_core {i : Nat} {Dn : Ends} {σ : St} {H : Hp} (h : tSt M W (fSetL i fe) Dn σ H) : tAsg (tLs M W fe) (gName i) Dn σ H := by
  obtain ⟨an, ρ, ts, ds, R, h⟩ := h
  refine ⟨an, ρ, ts, ds, R, LOk.bind (P := fun z => SOk M an ts ds W z Dn) h (fun _ _ _ _ z => z σ) (fun z => z) fun d ρ1 p H1 R1 h1 => ?_⟩
  by_cases c : setOk ρ1 i = true
  · rw [if_pos c] at h1; exact h1 _ _ (R1.setOw c)
  · rw [if_neg c] at h1; exact h1.elim
theorem ss_set (i : Nat) {x : Str} (hN : X.N.Nodup) (he : SE X M W e fe) (hi : X.N[i]? = some x := by rfl) (hx : Loc X.env.scope x := by first | exact Or.inl rfl | exact Or.inr rfl) (hs : swapsWith e (some (.Name x pos')) pos.line X.env = pure false := by rfl)
    (hf : X.fn x = true ∨ X.env.scope.names.lookup x = some .local := by first | exact .inl rfl | exact .inr rfl) : SS X M W (.Assign [.Name x pos'] e pos) (fSet i fe) :=
  ps_imp (ps_set hN hi hx he hs hf) fun _ _ _ h => set_core h
theorem ss_setL (i : Nat) {x : Str} (hN : X.N.Nodup) (he : SL X M W e fe) (hi : X.N[i]? = some x := by rfl) (hx : Loc X.env.scope x := by first | exact Or.inl rfl | exact Or.inr rfl) (hs : swapsWith e (some (.Name x pos')) pos.line X.env = pure false := by rfl)
    (hf : X.fn x = true ∨ X.env.scope.names.lookup x = some .local := by first | exact .inl rfl | exact .inr rfl) : SS X M W (.Assign [.Name x pos'] e pos) (fSetL i fe) :=
  ps_imp (ps_set hN hi hx he hs hf) fun _ _ _ h => setL_core h
end
/-! ### two names at once: each a shared value or a fresh object -/
section
variable {X : Cx} {M : Mc} {W : WX} {a b : Expr} {fa fb : En → Rs D} {pos : Pos}
def fPar (i j : Nat) (fa fb : En → Rs D) : En → Rs Fl := fun ρ => (fa ρ).bind fun d ρ1 => (fb ρ1).bind fun e ρ2 => if setOk ρ2 i = true && setOk ρ2 j = true then .ok .nx ((ρ2.set i (some (.sh d))).set j (some (.sh e))) else .stuck
def fParL (i j : Nat) (fa fb : En → Rs D) : En → Rs Fl := fun ρ => (fa ρ).bind fun d ρ1 => (fb ρ1).bind fun e ρ2 => if setOk ρ2 i = true && setOk ρ2 j = true then .ok .nx ((ρ2.set i (some (.ow d))).set j (some (.ow e))) else .stuck
theorem setOk_set {ρ : En} {i j : Nat} {x : Sl} (hx : ∀ d, x ≠ .bo d) (hj : setOk ρ j = true) (hi : setOk ρ i = true) : setOk (ρ.set i (some x)) j = true := by
  by_cases hij : i = j
  · subst hij
    unfold setOk
    rw [List.getElem?_set_self (setOk_lt hi)]
    cases x with
    | bo d => exact absurd rfl (hx d)
    | _ => rfl
  · unfold setOk at hj ⊢
    rw [List.getElem?_set_ne hij]; exact hj
theorem ss_par (i j : Nat) {x y : Str} {px py pt : Pos} {kt k2 pt2} (hc : X.calm = true) (hN : X.N.Nodup) (hij : i ≠ j) (ha : SE X M W a fa) (hb : SE X M W b fb) (hi : X.N[i]? = some x := by rfl) (hj : X.N[j]? = some y := by rfl)
    (hx : X.env.scope.names.lookup x = some .local := by rfl) (hy : X.env.scope.names.lookup y = some .local := by rfl)
    (hw : swappedStores [.Tuple [.Name x px, .Name y py] kt pt] (.Tuple [a, b] k2 pt2) X.env = pure (some [x, y]) := by rfl)
    (hs : swapsWithSole [.Tuple [.Name x px, .Name y py] kt pt] (.Tuple [a, b] k2 pt2) pos.line X.env = pure false := by rfl)
    (h1 : starEach (a :: [b]) X.env = (false, eval a X.env) :: starEach [b] X.env := by rfl) (h2 : starEach [b] X.env = (false, eval b X.env) :: starEach [] X.env := by rfl) :
    SS X M W (.Assign [.Tuple [.Name x px, .Name y py] kt pt] (.Tuple [a, b] k2 pt2) pos) (fPar i j fa fb) := by
  refine ps_imp (ps_par hc hN hi hj hij hx hy (pa_cons ha (pa_cons hb pa_nil h2) h1) hw hs) fun Dn σ H ⟨an, ρ, ts, ds, R, h⟩ => ?_
  refine ⟨an, ρ, ts, ds, R, EOk.toS h fun d ρ1 v H1 R1 h1 => ?_⟩
  refine ⟨an, ρ1, v :: ts, d :: ds, R1, EOk.bind (P := fun z => SOk M an ts ds W z Dn) h1 (fun _ _ _ _ z => (z σ).weak1) (fun z => z) fun e ρ2 u H2 R2 h2 => ?_⟩
  by_cases c : (setOk ρ2 i = true && setOk ρ2 j = true) = true
  · rw [if_pos c] at h2
    simp only [Bool.and_eq_true, decide_eq_true_eq] at c
    refine ⟨v, u, rfl, h2 _ _ (RelX.setSh (v := u) ?_ (setOk_set (by intro _ q; cases q) c.2 c.1))⟩
    exact RelX.setSh (v := v) (R2.temps fun _ _ q => Reps.cons q.tail.head (Reps.cons q.head q.tail.tail)) c.1
  · rw [if_neg c] at h2; exact h2.elim
theorem ss_parL (i j : Nat) {x y : Str} {px py pt : Pos} {kt k2 pt2} (hc : X.calm = true) (hN : X.N.Nodup) (hij : i ≠ j) (ha : SL X M W a fa) (hb : SL X M W b fb) (hi : X.N[i]? = some x := by rfl) (hj : X.N[j]? = some y := by rfl)
    (hx : X.env.scope.names.lookup x = some .local := by rfl) (hy : X.env.scope.names.lookup y = some .local := by rfl)
    (hw : swappedStores [.Tuple [.Name x px, .Name y py] kt pt] (.Tuple [a, b] k2 pt2) X.env = pure (some [x, y]) := by rfl)
    (hs : swapsWithSole [.Tuple [.Name x px, .Name y py] kt pt] (.Tuple [a, b] k2 pt2) pos.line X.env = pure false := by rfl)
    (h1 : starEach (a :: [b]) X.env = (false, eval a X.env) :: starEach [b] X.env := by rfl) (h2 : starEach [b] X.env = (false, eval b X.env) :: starEach [] X.env := by rfl) :
    SS X M W (.Assign [.Tuple [.Name x px, .Name y py] kt pt] (.Tuple [a, b] k2 pt2) pos) (fParL i j fa fb) := by
  refine ps_imp (ps_par hc hN hi hj hij hx hy (pa_cons ha (pa_cons hb pa_nil h2) h1) hw hs) fun Dn σ H ⟨an, ρ, ts, ds, R, h⟩ => ?_
  refine ⟨an, ρ, ts, ds, R, LOk.bind (P := fun z => SOk M an ts ds W z Dn) h (fun _ _ _ _ z => z σ) (fun z => z) fun d ρ1 p H1 R1 h1 => ?_⟩
  have errs : ∀ c fs es ρ, SOk M an ts ds W (.err c fs es ρ) Dn → EErr M ((p, d) :: an) ts ds W σ c fs es ρ := fun c fs es ρ z C dx H' vs q1 q2 q3 R => z σ C dx H' vs q1 q2 q3 R.anDrop
  refine ⟨(p, d) :: an, ρ1, ts, ds, R1, LOk.bind (P := fun z => SOk M an ts ds W z Dn) h1 errs (fun z => z) fun e ρ2 q H2 R2 h2 => ?_⟩
  by_cases c : (setOk ρ2 i = true && setOk ρ2 j = true) = true
  · rw [if_pos c] at h2
    simp only [Bool.and_eq_true, decide_eq_true_eq] at c
    refine ⟨.ref p, .ref q, rfl, h2 _ _ ?_⟩
    have sw : RelX M ((p, d) :: (q, e) :: an) ρ2 σ H2 ts ds := by
      obtain ⟨G, own, r⟩ := R2
      have nd := List.nodup_cons.mp (show (q :: p :: an.map (·.1)).Nodup from r.anN)
      have nd2 := List.nodup_cons.mp nd.2
      refine ⟨G, own, { r with anp := fun x hx => r.anp x ?_, apart := fun k hk x hx => r.apart k hk x ?_, anN := ?_ }⟩
      · simp only [List.mem_cons] at hx ⊢; rcases hx with h | h | h
        · exact .inr (.inl h)
        · exact .inl h
        · exact .inr (.inr h)
      · simp only [List.mem_cons] at hx ⊢; rcases hx with h | h | h
        · exact .inr (.inl h)
        · exact .inl h
        · exact .inr (.inr h)
      · show (p :: q :: an.map (·.1)).Nodup
        rw [List.nodup_cons, List.nodup_cons]
        refine ⟨fun hm => ?_, fun hm => nd.1 (List.mem_cons_of_mem _ hm), nd2.2⟩
        rcases List.mem_cons.mp hm with h | h
        · exact nd.1 (by rw [← h]; exact List.mem_cons_self)
        · exact nd2.1 h
    exact RelX.setOw (RelX.setOw sw c.1) (setOk_set (by intro _ q; cases q) c.2 c.1)
  · rw [if_neg c] at h2; exact h2.elim
end
/-! ### an owned list stored into -/
section
variable {X : Cx} {M : Mc} {W : WX} {e k : Expr} {fe fk : En → Rs D} {pos : Pos}
def fSto (i : Nat) (fk fe : En → Rs D) : En → Rs Fl := fun ρ => (fe ρ).bind fun d ρ1 => match owned ρ1 i with
  | none => .stuck
  | some _ => (fk ρ1).bind fun k ρ2 => match owned ρ2 i, k with
    | some (.lst ds), .int j => (match ixN ds.length j with
      | some n => .ok .nx (putSl ρ2 i (.lst (ds.set n d)))
      | none => .stuck)
    | _, _ => .stuck
theorem ss_sto (i : Nat) {x : Str} {px tpos : Pos} (he : SE X M W e fe) (hk : SE X M W k fk) (hN : X.N[i]? = some x := by rfl) (hv : Vis X.env.scope x := by first | exact Or.inl rfl | exact Or.inr (Or.inl rfl) | exact Or.inr (Or.inr rfl))
    (hd : (x == ("__debug__" : Str)) = false := by decide) (hcd : (x == ("__classdict__" : Str)) = false := by decide)
    (ha : ∀ v, assign (.Subscript (.Name x px) k tpos) X.env v = (do
      let ov ← holding [v] (eval (.Name x px) X.env)
      let iv ← holding [v, ov] (eval k X.env)
      standAt tpos
      holding [v, ov, iv] (setItem ov iv v)
      release [v, ov, iv] []) := by intro _; rfl)
    (hs : swapsWithSole [.Subscript (.Name x px) k tpos] e pos.line X.env = pure false := by rfl) (hw : swappedStores [.Subscript (.Name x px) k tpos] e X.env = pure none := by rfl)
    (h1 : (assignEach [.Subscript (.Name x px) k tpos] X.env).map (·.2) = [assign (.Subscript (.Name x px) k tpos) X.env] := by rfl) :
    SS X M W (.Assign [.Subscript (.Name x px) k tpos] e pos) (fSto i fk fe) := by
  refine ps_imp (ps_asg he (pg_sub (pe_var hN hv hd hcd) hk set_list ha) hs hw h1) fun Dn σ H ⟨an, ρ, ts, ds, R, h⟩ => ?_
  refine ⟨an, ρ, ts, ds, R, EOk.toS h fun d ρ1 v H1 R1 h1 => ?_⟩
  cases q : owned ρ1 i with
  | none => rw [q] at h1; exact h1.elim
  | some d0 =>
    rw [q] at h1
    obtain ⟨u, eu, _⟩ := R1.pop.cont_at (cont_of_owned q)
    refine ⟨u, eu, an, ρ1, v :: ts, d :: ds, R1, EOk.bind (P := fun z => SOk M an ts ds W z Dn) h1 (fun _ _ _ _ z => (z σ).weak1) (fun z => z) fun kd ρ2 kv H2 R2 h2 => ?_⟩
    cases q2 : owned ρ2 i with
    | none => rw [q2] at h2; exact h2.elim
    | some d1 =>
      rw [q2] at h2
      cases d1 with
      | lst es =>
        cases kd with
        | int j =>
          dsimp only at h2
          cases q3 : ixN es.length j with
          | none => rw [q3] at h2; exact h2.elim
          | some n =>
            rw [q3] at h2
            cases (show kv = _ from R2.repH)
            obtain ⟨p, vs, e1, e2, e3, e4⟩ := R2.put (ts := ts) (ds := ds) q2
            rw [eu] at e1; cases e1
            refine ⟨p, vs, j, n, rfl, rfl, e2, by rw [e3]; exact q3, h2 _ _ (e4 _ _ fun G r1 r2 => ⟨Reps.set n r2 r1.tail.head, r1.tail.tail⟩)⟩
        | _ => exact h2.elim
      | _ => exact h2.elim
end
/-! ### methods of owned lists -/
section
variable {X : Cx} {M : Mc} {W : WX} {e : Expr} {fe : En → Rs D} {pos apos : Pos}
def fApp (i : Nat) (fe : En → Rs D) : En → Rs D := fun ρ => match owned ρ i with
  | some (.lst _) => (fe ρ).bind fun d ρ1 => (match owned ρ1 i with
    | some (.lst ds) => if ds.length < sizeLine then .ok .non (putSl ρ1 i (.lst (ds ++ [d]))) else .stuck
    | _ => .stuck)
  | _ => .stuck
def fPopAt (i : Nat) (fe : En → Rs D) : En → Rs D := fun ρ => match owned ρ i with
  | some (.lst _) => (fe ρ).bind fun d ρ1 => (match owned ρ1 i, d with
    | some (.lst ds), .int j => (match seqIndex? j ds.length with
      | some n => (match ds[n]? with
        | some d => if -(2 ^ 63) ≤ j ∧ j < 2 ^ 63 then .ok d (putSl ρ1 i (.lst (ds.eraseIdx n))) else .stuck
        | none => .stuck)
      | none => .stuck)
    | _, _ => .stuck)
  | _ => .stuck
theorem reps_erase {K : PySem.W.Frag} {cl : Str → Option Addr} {G : Hp} : ∀ {ds : List D} {vs : List V} (n : Nat), Reps K cl G ds vs → Reps K cl G (ds.eraseIdx n) (vs.eraseIdx n)
  | [], _, _, h => by cases (show _ = [] from h); exact rfl
  | _ :: ds, _, 0, ⟨v, r, e, _, t⟩ => by subst e; exact t
  | _ :: ds, _, n + 1, ⟨v, r, e, h, t⟩ => by subst e; exact ⟨v, _, rfl, h, reps_erase n t⟩
/-- the place of an owned list is a list's -/
theorem RelX.place {an : List (Addr × D)} {ρ : En} {σ : St} {H : Hp} {ts : List V} {ds : List D} {i : Nat} {es : List D} (R : RelX M an ρ σ H ts ds) (h : owned ρ i = some (.lst es)) : ∃ p vs, σ[i]? = some (some (.ref p)) ∧ H p = some (.lst vs) := by
  obtain ⟨p, vs, e1, e2, _⟩ := R.put (ts := ts) (ds := ds) h
  exact ⟨p, vs, e1, e2⟩
theorem se_app (i : Nat) {x : Str} {p : Pos} (he : SE X M W e fe) (hm : MtR X "list.append" rAppend) (hN : X.N[i]? = some x := by rfl) (hv : Vis X.env.scope x := by first | exact Or.inl rfl | exact Or.inr (Or.inl rfl) | exact Or.inr (Or.inr rfl))
    (hd : (x == ("__debug__" : Str)) = false := by decide) (hcd : (x == ("__classdict__" : Str)) = false := by decide)
    (hbase : attributeBase (.Name x p) "append" X.env (eval (.Name x p) X.env) = eval (.Name x p) X.env := by rfl)
    (hfew : ((backTo pos (starEach (e :: []) X.env)).all (fun x => !x.1) && (backToKw pos (keywordEach [] X.env)).all (fun x => x.1.isSome)
      && decide ((e :: ([] : List Expr)).length + ([] : List Keyword).length + (if ([] : List Keyword).isEmpty then 0 else 1) < 30)) = true := by rfl)
    (hline : (apos.endLine == pos.line) = true := by rfl) (hs : starEach (e :: []) X.env = (false, eval e X.env) :: starEach [] X.env := by rfl) (hplain : (backTo pos (starEach [] X.env)).any (·.1) = false := by rfl) :
    SE X M W (.Call (.Attribute (.Name x p) "append" apos) [e] [] pos) (fApp i fe) := by
  refine pe_imp (pe_bm PySem.F.plainAttrs_list PySem.F.slot_list_append PySem.F.type_list_append hm (pe_var hN hv hd hcd) (pa_cons he pa_nil hs) hbase hfew hline hs hplain) fun σ H Q ⟨an, ρ, ts, ds, R, h⟩ => ?_
  unfold fApp at h
  cases q : owned ρ i with
  | none => rw [q] at h; exact h.elim
  | some d0 =>
    rw [q] at h
    cases d0 with
    | lst es0 =>
      obtain ⟨pa, vs0, e1, e2⟩ := R.place q
      refine ⟨_, e1, .inl ⟨rfl, vs0, SqL.of e2⟩, an, ρ, ts, ds, R, EOk.bind (P := fun z => EOk M an ts ds W σ z Q) h (fun _ _ _ _ z => z) (fun z => z) fun d ρ1 v H1 R1 h1 => ?_⟩
      cases q1 : owned ρ1 i with
      | none => rw [q1] at h1; exact h1.elim
      | some d1 =>
        rw [q1] at h1
        cases d1 with
        | lst es =>
          dsimp only at h1
          by_cases c : es.length < sizeLine
          · rw [if_pos c] at h1
            obtain ⟨p', vs, e1', e2', e3, e4⟩ := R1.put (ts := .non :: ts) (ds := .non :: ds) q1
            rw [e1] at e1'; cases e1'
            exact ⟨pa, vs, v, rfl, rfl, e2', by rw [e3]; exact c, h1 _ _ (e4 _ _ fun G r1 r2 => ⟨Reps.append r2 (Reps.cons r1.head Reps.nil), Reps.cons rfl r1.tail⟩)⟩
          · rw [if_neg c] at h1; exact h1.elim
        | _ => exact h1.elim
    | _ => exact h.elim
theorem se_popAt (i : Nat) {x : Str} {p : Pos} (he : SE X M W e fe) (hm : MtR X "list.pop" rPopAt) (hN : X.N[i]? = some x := by rfl) (hv : Vis X.env.scope x := by first | exact Or.inl rfl | exact Or.inr (Or.inl rfl) | exact Or.inr (Or.inr rfl))
    (hd : (x == ("__debug__" : Str)) = false := by decide) (hcd : (x == ("__classdict__" : Str)) = false := by decide)
    (hbase : attributeBase (.Name x p) "pop" X.env (eval (.Name x p) X.env) = eval (.Name x p) X.env := by rfl)
    (hfew : ((backTo pos (starEach (e :: []) X.env)).all (fun x => !x.1) && (backToKw pos (keywordEach [] X.env)).all (fun x => x.1.isSome)
      && decide ((e :: ([] : List Expr)).length + ([] : List Keyword).length + (if ([] : List Keyword).isEmpty then 0 else 1) < 30)) = true := by rfl)
    (hline : (apos.endLine == pos.line) = true := by rfl) (hs : starEach (e :: []) X.env = (false, eval e X.env) :: starEach [] X.env := by rfl) (hplain : (backTo pos (starEach [] X.env)).any (·.1) = false := by rfl) :
    SE X M W (.Call (.Attribute (.Name x p) "pop" apos) [e] [] pos) (fPopAt i fe) := by
  refine pe_imp (pe_bm PySem.F.plainAttrs_list PySem.F.slot_list_pop PySem.F.type_list_pop hm (pe_var hN hv hd hcd) (pa_cons he pa_nil hs) hbase hfew hline hs hplain) fun σ H Q ⟨an, ρ, ts, ds, R, h⟩ => ?_
  unfold fPopAt at h
  cases q : owned ρ i with
  | none => rw [q] at h; exact h.elim
  | some d0 =>
    rw [q] at h
    cases d0 with
    | lst es0 =>
      obtain ⟨pa, vs0, e1, e2⟩ := R.place q
      refine ⟨_, e1, .inl ⟨rfl, vs0, SqL.of e2⟩, an, ρ, ts, ds, R, EOk.bind (P := fun z => EOk M an ts ds W σ z Q) h (fun _ _ _ _ z => z) (fun z => z) fun d ρ1 v H1 R1 h1 => ?_⟩
      cases q1 : owned ρ1 i with
      | none => rw [q1] at h1; exact h1.elim
      | some d1 =>
        rw [q1] at h1
        cases d1 with
        | lst es =>
          cases d with
          | int j =>
            dsimp only at h1
            cases q2 : seqIndex? j es.length with
            | none => rw [q2] at h1; exact h1.elim
            | some n =>
              rw [q2] at h1
              dsimp only at h1
              cases q3 : es[n]? with
              | none => rw [q3] at h1; exact h1.elim
              | some dd =>
                rw [q3] at h1
                dsimp only at h1
                by_cases c : -(2 ^ 63) ≤ j ∧ j < 2 ^ 63
                · rw [if_pos c] at h1
                  cases (show v = _ from R1.repH)
                  obtain ⟨u, hu⟩ : ∃ u, ∀ G vs, Reps M.K M.cl G es vs → True ∧ True := ⟨(), fun _ _ _ => ⟨trivial, trivial⟩⟩
                  obtain ⟨p', vs, e1', e2', e3, e4⟩ := R1.put (ts := (((H1 pa).map fun o => match o with | .lst vs => vs.getD n .non | _ => .non).getD .non) :: ts) (ds := dd :: ds) q1
                  rw [e1] at e1'; cases e1'
                  rw [e2'] at e4
                  have hn : n < vs.length := by rw [e3]; exact (List.getElem?_eq_some_iff.mp q3).1
                  refine ⟨pa, vs, j, n, vs.getD n .non, rfl, rfl, e2', c.1, c.2, by rw [e3]; exact q2, by rw [List.getD_eq_getElem?_getD, List.getElem?_eq_getElem hn]; rfl, h1 _ _ (e4 _ _ fun G r1 r2 => ⟨reps_erase n r2, Reps.cons ?_ r1.tail⟩)⟩
                  obtain ⟨w, w1, w2⟩ := r2.get q3
                  show Rep M.K M.cl G dd (vs.getD n .non)
                  rw [List.getD_eq_getElem?_getD, w1]; exact w2
                · rw [if_neg c] at h1; exact h1.elim
          | _ => exact h1.elim
        | _ => exact h1.elim
    | _ => exact h.elim
end
end Dl
end
section
set_option maxHeartbeats 4000000
/-! DlG: targets, what is walked, for, while, list comprehensions. -/
namespace Dl
open PySem PySem.Spec PyProof.Rows L2
/-! ### targets -/
def tG (M : Mc) (vs : List Nat) (g : D → En → Rs Unit) : TG := fun v σ H Q => ∃ an ρ ts ds d, RelX M an ρ σ H (v :: ts) (d :: ds) ∧ match g d ρ with
  | .ok _ ρ1 => ∀ σ1 H1, RelX M an ρ1 σ1 H1 ts ds → wipe σ1 vs = wipe σ vs → Q σ1 H1
  | _ => False
def tGs (M : Mc) (vs : List Nat) (g : List D → En → Rs Unit) : TGs := fun us σ H Q => ∃ an ρ ts ds es, us.length = es.length ∧ RelX M an ρ σ H (us ++ ts) (es ++ ds) ∧ match g es ρ with
  | .ok _ ρ1 => ∀ σ1 H1, RelX M an ρ1 σ1 H1 ts ds → wipe σ1 vs = wipe σ vs → Q σ1 H1
  | _ => False
abbrev SG (X : Cx) (M : Mc) (vs : List Nat) (tg : Expr) (g : D → En → Rs Unit) : Prop := PG X tg (tG M vs g)
abbrev SGs (X : Cx) (M : Mc) (vs : List Nat) (tg : List Expr) (g : List D → En → Rs Unit) : Prop := PGs X tg (tGs M vs g)
theorem pg_imp {X : Cx} {e : Expr} {t t' : TG} (h : PG X e t) (i : ∀ v σ H Q, t' v σ H Q → t v σ H Q) : PG X e t' := ⟨fun pins s σ H v u Q I r q => h.run pins s σ H v u Q I r (i v σ H Q q)⟩
theorem pgs_imp {X : Cx} {e : List Expr} {t t' : TGs} (h : PGs X e t) (i : ∀ v σ H Q, t' v σ H Q → t v σ H Q) : PGs X e t' := ⟨fun pins s σ H v u Q I r q => h.run pins s σ H v u Q I r (i v σ H Q q)⟩
def gN (i : Nat) : D → En → Rs Unit := fun d ρ => if setOk ρ i = true then .ok () (ρ.set i (some (.sh d))) else .stuck
def gT (g : List D → En → Rs Unit) (n : Nat) : D → En → Rs Unit := fun d ρ => match d with
  | .tup es => if es.length = n then g es ρ else .stuck
  | _ => .stuck
def gsNil : List D → En → Rs Unit := fun es ρ => match es with
  | [] => .ok () ρ
  | _ => .stuck
def gsCons (g : D → En → Rs Unit) (gs : List D → En → Rs Unit) : List D → En → Rs Unit := fun es ρ => match es with
  | [] => .stuck
  | d :: es => (g d ρ).bind fun _ ρ1 => gs es ρ1
theorem wipe_set {σ : St} {i : Nat} {x : Option V} : ∀ {vs : List Nat}, i ∈ vs → wipe (σ.set i x) vs = wipe σ vs
  | [], h => by cases h
  | j :: vs, h => by
    unfold wipe
    by_cases e : i ∈ vs
    · rw [wipe_set e]
    · rcases List.mem_cons.mp h with rfl | h
      · have q : ∀ (vs : List Nat) (σ : St), i ∉ vs → wipe (σ.set i x) vs = (wipe σ vs).set i x := by
          intro vs
          induction vs with
          | nil => intro σ _; rfl
          | cons k r ih =>
            intro σ hn
            unfold wipe
            rw [ih σ (fun z => hn (List.mem_cons_of_mem _ z)), List.set_comm _ _ (fun z => hn (by rw [z]; exact List.mem_cons_self))]
        rw [q vs σ e, List.set_set]
      · exact absurd h e
section
variable {X : Cx} {M : Mc} {W : WX} {vs : List Nat} {pos : Pos}
theorem sg_name (i : Nat) {x : Str} (hN : X.N.Nodup) (hi : X.N[i]? = some x := by rfl) (hx : Loc X.env.scope x := by first | exact Or.inl rfl | exact Or.inr rfl) (hv : i ∈ vs := by decide)
    (hf : X.fn x = true ∨ X.env.scope.names.lookup x = some .local := by first | exact .inl rfl | exact .inr rfl) : SG X M vs (.Name x pos) (gN i) := by
  refine pg_imp (pg_name hN hi hx hf) fun v σ H Q ⟨an, ρ, ts, ds, d, R, h⟩ => ?_
  unfold gN at h
  by_cases c : setOk ρ i = true
  · rw [if_pos c] at h; exact h _ _ (R.setSh c) (wipe_set hv)
  · rw [if_neg c] at h; exact h.elim
theorem sgs_nil : SGs X M vs [] gsNil := by
  refine pgs_imp pgs_nil fun us σ H Q ⟨an, ρ, ts, ds, es, l, R, h⟩ => ?_
  cases es with
  | nil =>
    have : us = [] := List.length_eq_zero_iff.mp l
    subst this
    exact ⟨rfl, h _ _ R rfl⟩
  | cons d es => exact h.elim
theorem sgs_cons {e : Expr} {es : List Expr} {g : D → En → Rs Unit} {gs : List D → En → Rs Unit} (h1 : SG X M vs e g) (h2 : SGs X M vs es gs)
    (hs : (assignEach (e :: es) X.env).map (·.2) = assign e X.env :: (assignEach es X.env).map (·.2) := by rfl) : SGs X M vs (e :: es) (gsCons g gs) := by
  refine pgs_imp (pgs_cons h1 h2 hs) fun us σ H Q ⟨an, ρ, ts, ds, es, l, R, h⟩ => ?_
  cases es with
  | nil => exact h.elim
  | cons d es =>
    match us, l with
    | v :: us, l =>
      refine ⟨v, us, rfl, an, ρ, us ++ ts, es ++ ds, d, R, ?_⟩
      have h : match (g d ρ).bind fun _ ρ1 => gs es ρ1 with
        | .ok _ ρ1 => ∀ σ1 H1, RelX M an ρ1 σ1 H1 ts ds → wipe σ1 vs = wipe σ vs → Q σ1 H1
        | _ => False := h
      cases q : g d ρ with
      | ok u ρ1 =>
        rw [q] at h
        exact fun σ1 H1 R1 w1 => ⟨an, ρ1, ts, ds, es, by simpa using l, R1, by
          have h : match gs es ρ1 with
            | .ok _ ρ1 => ∀ σ1 H1, RelX M an ρ1 σ1 H1 ts ds → wipe σ1 vs = wipe σ vs → Q σ1 H1
            | _ => False := h
          cases q2 : gs es ρ1 with
          | ok u2 ρ2 => rw [q2] at h; exact fun σ2 H2 R2 w2 => h σ2 H2 R2 (w2.trans w1)
          | err c fs es ρ => rw [q2] at h; exact h
          | stuck => rw [q2] at h; exact h⟩
      | err c fs es ρ => rw [q] at h; exact h
      | stuck => rw [q] at h; exact h
theorem sg_tup {es : List Expr} {k n : Nat} {gs : List D → En → Rs Unit} (hk : M.K = X.K) (hc : X.calm = true) (h : SGs X M vs es gs) (hn : (assignEach es X.env).length = n := by rfl) (hst : (assignEach es X.env).findIdx? (·.1) = none := by rfl) :
    SG X M vs (.Tuple es k pos) (gT gs n) := by
  refine pg_imp (pg_tup hc h hn hst) fun v σ H Q ⟨an, ρ, ts, ds, d, R, h⟩ => ?_
  cases d with
  | tup es =>
    have h : match (if es.length = n then gs es ρ else .stuck) with
        | .ok _ ρ1 => ∀ σ1 H1, RelX M an ρ1 σ1 H1 ts ds → wipe σ1 vs = wipe σ vs → Q σ1 H1
        | _ => False := h
    by_cases c : es.length = n
    · rw [if_pos c] at h
      obtain ⟨G, own, r⟩ := R
      obtain ⟨p, us, rfl, q, t⟩ := r.tmp.head
      rw [← hk]
      exact ⟨p, us, rfl, r.sub.sqT q, t.len.trans c, an, ρ, ts, ds, es, t.len, r.keep (Reps.append t r.tmp.tail), h⟩
    · rw [if_neg c] at h; exact h.elim
  | _ => exact h.elim
end
/-! ### what is walked -/
def ItOk (M : Mc) (J : It) (es : List D) (tv : List V) (td : List D) : Prop := ∀ (i : Nat) (an : List (Addr × D)) (ρ : En) (σ : St) (H : Hp) (ts : List V) (ds : List D), RelX M an ρ σ H (tv ++ ts) (td ++ ds) →
  (∀ d, es[i]? = some d → J.go i H ∧ ∀ x H', J.yld i H x H' → RelX M an ρ σ H' (x :: (tv ++ ts)) (d :: (td ++ ds))) ∧ (i = es.length → J.stop i H)
def IOk (M : Mc) (an : List (Addr × D)) (ts : List V) (ds : List D) (W : WX) (σ : St) (r : Rs (List D)) (R : It → Hp → Prop) : Prop := match r with
  | .ok es ρ => ∀ J H' tv td, tv.length = td.length → RelX M an ρ σ H' (tv ++ ts) (td ++ ds) → ItOk M J es tv td → R J H'
  | .err c fs es ρ => EErr M an ts ds W σ c fs es ρ
  | .stuck => False
def tI (M : Mc) (W : WX) (f : En → Rs (List D)) : TI := fun σ H R => ∃ an ρ ts ds, RelX M an ρ σ H ts ds ∧ IOk M an ts ds W σ (f ρ) R
abbrev SI (X : Cx) (M : Mc) (W : WX) (tg e : Expr) (f : En → Rs (List D)) : Prop := PI X tg e (tI M W f)
def iSeq (f : En → Rs D) : En → Rs (List D) := fun ρ => (f ρ).bind fun d ρ1 => match d with
  | .lst es => .ok es ρ1
  | .tup es => .ok es ρ1
  | .frz es => .ok es ρ1
  | _ => .stuck
def iRg1 (f : En → Rs D) : En → Rs (List D) := fun ρ => (f ρ).bind fun d ρ1 => match d with
  | .int j => if -(2 ^ 62) ≤ j ∧ j < 2 ^ 62 then .ok ((List.range j.toNat).map fun k => .int (k : Nat)) ρ1 else .stuck
  | _ => .stuck
def iRg2 (fa fb : En → Rs D) : En → Rs (List D) := fun ρ => (fa ρ).bind fun a ρ1 => (fb ρ1).bind fun b ρ2 => match a, b with
  | .int i, .int j => if (-(2 ^ 62) ≤ i ∧ i < 2 ^ 62) ∧ -(2 ^ 62) ≤ j ∧ j < 2 ^ 62 then .ok ((List.range (j - i).toNat).map fun k => .int (i + (k : Nat))) ρ2 else .stuck
  | _, _ => .stuck
def iZip2 (fa fb : En → Rs D) : En → Rs (List D) := fun ρ => (fa ρ).bind fun a ρ1 => (fb ρ1).bind fun b ρ2 => match a, b with
  | .lst xs, .lst ys => .ok ((xs.zip ys).map fun p => .tup [p.1, p.2]) ρ2
  | .tup xs, .tup ys => .ok ((xs.zip ys).map fun p => .tup [p.1, p.2]) ρ2
  | _, _ => .stuck
def enumD : Int → List D → List D
  | _, [] => []
  | k, d :: ds => .tup [.int k, d] :: enumD (k + 1) ds
def iEn (k0 : Int) (f : En → Rs D) : En → Rs (List D) := fun ρ => (f ρ).bind fun d ρ1 => match d with
  | .lst es => .ok (enumD k0 es) ρ1
  | .tup es => .ok (enumD k0 es) ρ1
  | _ => .stuck
section
variable {X : Cx} {M : Mc} {W : WX} {tg e a b : Expr} {f fa fb : En → Rs D} {p pos : Pos}
theorem itok_list {pa : Addr} {es : List D} (G0 : D) (hG : G0 = .lst es ∨ G0 = .frz es) : ItOk M (Itl M.K pa) es [.ref pa] [G0] := fun i an ρ σ H ts ds R => by
  obtain ⟨G, own, r⟩ := R
  have z : ∃ vs, SqL M.K H pa vs ∧ Reps M.K M.cl G es vs := by
    have q := r.tmp.head
    rcases hG with rfl | rfl
    · obtain ⟨pa', vs, e, h, t⟩ := q; cases e; exact ⟨vs, SqL.of (r.sub _ _ h), t⟩
    · obtain ⟨pa', vs, e, h, t⟩ := q; cases e; exact ⟨vs, r.sub.sqL h, t⟩
  obtain ⟨vs, h, t⟩ := z
  refine ⟨fun d hd => ?_, fun hl => ⟨vs, h, by rw [t.len, hl]; exact Nat.le_refl _⟩⟩
  obtain ⟨v, h1, h2⟩ := t.get hd
  refine ⟨⟨vs, v, h, h1⟩, fun x H' y => ?_⟩
  obtain ⟨rfl, y⟩ := y
  have := y vs h
  rw [h1] at this; cases this
  exact r.keep (Reps.cons h2 r.tmp)
theorem itok_tup {pa : Addr} {es : List D} : ItOk M (Itt M.K pa) es [.ref pa] [.tup es] := fun i an ρ σ H ts ds R => by
  obtain ⟨G, own, r⟩ := R
  obtain ⟨pa', vs, e, h, t⟩ := r.tmp.head
  cases e
  refine ⟨fun d hd => ?_, fun hl => ⟨vs, r.sub.sqT h, by rw [t.len, hl]; exact Nat.le_refl _⟩⟩
  obtain ⟨v, h1, h2⟩ := t.get hd
  refine ⟨⟨vs, v, r.sub.sqT h, h1⟩, fun x H' y => ?_⟩
  obtain ⟨rfl, y⟩ := y
  have := y vs (r.sub.sqT h)
  rw [h1] at this; cases this
  exact r.keep (Reps.cons h2 r.tmp)
theorem itok_range {lo : Int} {n : Nat} : ItOk M (Itr lo n) ((List.range n).map fun k => .int (lo + (k : Nat))) [] [] := fun i an ρ σ H ts ds R => by
  have st : i = ((List.range n).map fun k => D.int (lo + (k : Nat))).length → (Itr lo n).stop i H := fun hl => by
    have e : i = n := by simpa using hl
    show n ≤ i
    omega
  refine ⟨fun d hd => ?_, st⟩
  rw [List.getElem?_map] at hd
  obtain ⟨k, hk, rfl⟩ := Option.map_eq_some_iff.mp hd
  have hi := (List.getElem?_eq_some_iff.mp hk).1
  have hk' : k = i := by
    have := List.getElem?_eq_some_iff.mp hk
    obtain ⟨_, e⟩ := this
    simpa using e.symm
  subst hk'
  refine ⟨by show k < n; simpa using hi, fun x H' y => ?_⟩
  obtain ⟨rfl, rfl⟩ := y
  exact R.push fun _ => rfl
/-- a list or a tuple, by its value -/
def iSeqV (K : PySem.W.Frag) (tl : TE) : TI := fun σ H R => tl σ H fun x H1 => ∃ a, x = .ref a ∧ (((∃ xs, SqL K H1 a xs) ∧ R (Itl K a) H1) ∨ ((∃ xs, SqT K H1 a xs) ∧ R (Itt K a) H1))
theorem pi_seqV {l : Expr} {tl : TE} (hl : PE X l tl) : PI X tg l (iSeqV X.K tl) := by
  refine ⟨fun pins s σ H R I h => ?_⟩
  refine thn (hl.run pins s σ H _ I h) fun v s1 ⟨x, H1, I1, r1, q1⟩ => ?_
  obtain ⟨a, e, q1⟩ := q1
  subst e
  cases r1
  rcases q1 with ⟨⟨xs, hq⟩, q⟩ | ⟨⟨xs, hq⟩, q⟩
  · obtain ⟨its, rv, p, hz⟩ := I1.list hq
    refine wpAny_pyIter_list p.isList ?_
    refine ⟨s1.heap.objs.size, [s1.heap.objs.size], _, _, H1, rfl, I1.kept (t' := s1.toks) fun b o e => Heap.get?_push_of_some _ e, turn_list a _, ⟨_, Heap.get?_push_size _ rfl, rfl, rfl⟩, fun b hb => ?_, q⟩
    have e : b = s1.heap.objs.size := by simpa using hb
    subst e
    exact I1.fpOk (Nat.le_refl _) (I1.hok.fresh (Nat.le_refl _))
  · obtain ⟨its, rv, p, hz⟩ := I1.tuple hq
    refine wpAny_pyIter_tuple (show s1.heap.IsTuple a its.toArray from p) ?_
    refine ⟨s1.heap.objs.size, [s1.heap.objs.size], _, _, H1, rfl, I1.kept (t' := s1.toks) fun b o e => Heap.get?_push_of_some _ e, turn_tuple a _, ⟨_, Heap.get?_push_size _ rfl, rfl, rfl⟩, fun b hb => ?_, q⟩
    have e : b = s1.heap.objs.size := by simpa using hb
    subst e
    exact I1.fpOk (Nat.le_refl _) (I1.hok.fresh (Nat.le_refl _))
theorem EOk.toI {an : List (Addr × D)} {ts : List V} {ds : List D} {σ : St} {r : Rs D} {k : D → En → Rs (List D)} {Rr : It → Hp → Prop} {Q : VK} (h : IOk M an ts ds W σ (r.bind k) Rr) (hk : ∀ d ρ1 v H1, RelX M an ρ1 σ H1 (v :: ts) (d :: ds) → IOk M an ts ds W σ (k d ρ1) Rr → Q v H1) : EOk M an ts ds W σ r Q :=
  EOk.bind (P := fun z => IOk M an ts ds W σ z Rr) h (fun _ _ _ _ z => z) (fun z => z) hk
theorem si_seq (hk : M.K = X.K) (h : SE X M W e f) : SI X M W tg e (iSeq f) := by
  refine pi_imp (pi_seqV h) fun σ H R ⟨an, ρ, ts, ds, Rl, h⟩ => ?_
  refine ⟨an, ρ, ts, ds, Rl, EOk.toI h fun d ρ1 v H1 R1 h1 => ?_⟩
  rw [← hk]
  have q := R1.repH
  cases d with
  | lst es =>
    obtain ⟨pa, vs, rfl, h2, t⟩ := q
    exact ⟨pa, rfl, .inl ⟨⟨vs, SqL.of h2⟩, h1 _ _ [.ref pa] [.lst es] rfl R1 (itok_list _ (.inl rfl))⟩⟩
  | frz es =>
    obtain ⟨pa, vs, rfl, h2, t⟩ := q
    exact ⟨pa, rfl, .inl ⟨⟨vs, h2⟩, h1 _ _ [.ref pa] [.frz es] rfl R1 (itok_list _ (.inr rfl))⟩⟩
  | tup es =>
    obtain ⟨pa, vs, rfl, h2, t⟩ := q
    exact ⟨pa, rfl, .inr ⟨⟨vs, h2⟩, h1 _ _ [.ref pa] [.tup es] rfl R1 itok_tup⟩⟩
  | _ => exact h1.elim
theorem si_range1 (hm : X.mg "range" = none) (ha : SE X M W a fa) (hg : Gl X "range" := by rfl) (hs : starEach [a] X.env = [(false, eval a X.env)] := by rfl) : SI X M W tg (.Call (.Name "range" p) [a] [] pos) (iRg1 fa) := by
  refine pi_imp (pi_range1 hg hm (pa_cons ha pa_nil hs) hs) fun σ H R ⟨an, ρ, ts, ds, Rl, h⟩ => ?_
  refine ⟨an, ρ, ts, ds, Rl, EOk.toI h fun d ρ1 v H1 R1 h1 => ?_⟩
  cases d with
  | int j =>
    dsimp only at h1
    by_cases c : -(2 ^ 62) ≤ j ∧ j < 2 ^ 62
    · rw [if_pos c] at h1
      cases (show v = _ from R1.repH)
      refine ⟨j, rfl, c.1, c.2, h1 _ _ [] [] rfl R1.pop ?_⟩
      have := itok_range (M := M) (lo := 0) (n := j.toNat)
      simpa using this
    · rw [if_neg c] at h1; exact h1.elim
  | _ => exact h1.elim
theorem si_range2 (hm : X.mg "range" = none) (ha : SE X M W a fa) (hb : SE X M W b fb) (hg : Gl X "range" := by rfl) (hs : starEach [a, b] X.env = [(false, eval a X.env), (false, eval b X.env)] := by rfl) (hs2 : starEach [b] X.env = [(false, eval b X.env)] := by rfl) :
    SI X M W tg (.Call (.Name "range" p) [a, b] [] pos) (iRg2 fa fb) := by
  refine pi_imp (pi_range2 hg hm (pa_cons ha (pa_cons hb pa_nil hs2) (by rw [hs, hs2])) hs hs2) fun σ H R ⟨an, ρ, ts, ds, Rl, h⟩ => ?_
  refine ⟨an, ρ, ts, ds, Rl, EOk.toI h fun d ρ1 v H1 R1 h1 => ?_⟩
  refine ⟨an, ρ1, v :: ts, d :: ds, R1, EOk.bind (P := fun z => IOk M an ts ds W σ z R) h1 (fun _ _ _ _ z => z.weak1) (fun z => z) fun d2 ρ2 v2 H2 R2 h2 => ?_⟩
  cases d with
  | int i =>
    cases d2 with
    | int j =>
      dsimp only at h2
      by_cases c : (-(2 ^ 62) ≤ i ∧ i < 2 ^ 62) ∧ -(2 ^ 62) ≤ j ∧ j < 2 ^ 62
      · rw [if_pos c] at h2
        have q := R2.repsH
        cases (show v2 = _ from q.head); cases (show v = _ from q.tail.head)
        exact ⟨i, j, rfl, ⟨c.1.1, c.1.2, c.2.1, c.2.2⟩, h2 _ _ [] [] rfl R2.pop2 itok_range⟩
      · rw [if_neg c] at h2; exact h2.elim
    | _ => exact h2.elim
  | _ => exact h2.elim
theorem itok_zipL {pa pb : Addr} {xs ys : List D} : ItOk M (Itz M.K pa pb) ((xs.zip ys).map fun p => .tup [p.1, p.2]) [.ref pa, .ref pb] [.lst xs, .lst ys] := fun i an ρ σ H ts ds R => by
  obtain ⟨G, own, r⟩ := R
  obtain ⟨_, vs, e1, h1, t1⟩ := r.tmp.head
  cases e1
  obtain ⟨_, us, e2, h2, t2⟩ := r.tmp.tail.head
  cases e2
  refine ⟨fun d hd => ?_, fun hl => ⟨vs, us, SqL.of (r.sub _ _ h1), SqL.of (r.sub _ _ h2), ?_⟩⟩
  · rw [List.getElem?_map] at hd
    obtain ⟨⟨x, y⟩, hp, rfl⟩ := Option.map_eq_some_iff.mp hd
    have hxy : xs[i]? = some x ∧ ys[i]? = some y := by simpa [List.getElem?_zip_eq_some] using hp
    obtain ⟨v, g1, r1⟩ := t1.get hxy.1
    obtain ⟨u, g2, r2⟩ := t2.get hxy.2
    refine ⟨⟨vs, us, v, u, SqL.of (r.sub _ _ h1), SqL.of (r.sub _ _ h2), g1, g2⟩, fun z H' yy => ?_⟩
    obtain ⟨T, v', u', rfl, hT, rfl, y1, y2⟩ := yy
    have a1 := y1 vs (SqL.of (r.sub _ _ h1))
    have a2 := y2 us (SqL.of (r.sub _ _ h2))
    rw [g1] at a1; cases a1
    rw [g2] at a2; cases a2
    exact r.new hT fun s => Reps.cons ⟨T, _, rfl, SqT.of upd_same, Reps.cons (Rep.mono s _ _ r1) (Reps.cons (Rep.mono s _ _ r2) Reps.nil)⟩ (Reps.mono s _ _ r.tmp)
  · rw [t1.len, t2.len]
    have : i = min xs.length ys.length := by simpa using hl
    omega
theorem itok_zipT {pa pb : Addr} {xs ys : List D} : ItOk M (RZ.ItzT M.K pa pb) ((xs.zip ys).map fun p => .tup [p.1, p.2]) [.ref pa, .ref pb] [.tup xs, .tup ys] := fun i an ρ σ H ts ds R => by
  obtain ⟨G, own, r⟩ := R
  obtain ⟨_, vs, e1, h1, t1⟩ := r.tmp.head
  cases e1
  obtain ⟨_, us, e2, h2, t2⟩ := r.tmp.tail.head
  cases e2
  refine ⟨fun d hd => ?_, fun hl => ⟨vs, us, r.sub.sqT h1, r.sub.sqT h2, ?_⟩⟩
  · rw [List.getElem?_map] at hd
    obtain ⟨⟨x, y⟩, hp, rfl⟩ := Option.map_eq_some_iff.mp hd
    have hxy : xs[i]? = some x ∧ ys[i]? = some y := by simpa [List.getElem?_zip_eq_some] using hp
    obtain ⟨v, g1, r1⟩ := t1.get hxy.1
    obtain ⟨u, g2, r2⟩ := t2.get hxy.2
    refine ⟨⟨vs, us, v, u, r.sub.sqT h1, r.sub.sqT h2, g1, g2⟩, fun z H' yy => ?_⟩
    obtain ⟨T, v', u', rfl, hT, rfl, y1, y2⟩ := yy
    have a1 := y1 vs (r.sub.sqT h1)
    have a2 := y2 us (r.sub.sqT h2)
    rw [g1] at a1; cases a1
    rw [g2] at a2; cases a2
    exact r.new hT fun s => Reps.cons ⟨T, _, rfl, SqT.of upd_same, Reps.cons (Rep.mono s _ _ r1) (Reps.cons (Rep.mono s _ _ r2) Reps.nil)⟩ (Reps.mono s _ _ r.tmp)
  · rw [t1.len, t2.len]
    have : i = min xs.length ys.length := by simpa using hl
    omega
theorem si_zip {elts : List Expr} {kk : Nat} {tpos : Pos} (hk : M.K = X.K) (hm : X.mg "zip" = none) (ha : SE X M W a fa) (hb : SE X M W b fb) (hg : Gl X "zip" := by rfl)
    (hs : starEach [a, b] X.env = (false, eval a X.env) :: starEach [b] X.env := by rfl) (hs2 : starEach [b] X.env = (false, eval b X.env) :: starEach [] X.env := by rfl) (hpl : (backTo pos (starEach [b] X.env)).any (·.1) = false := by rfl) :
    SI X M W (.Tuple elts kk tpos) (.Call (.Name "zip" p) [a, b] [] pos) (iZip2 fa fb) := by
  refine pi_imp (RZ.pi_zipA hg hm (pa_cons ha (pa_cons hb pa_nil hs2) hs) hs hpl) fun σ H R ⟨an, ρ, ts, ds, Rl, h⟩ => ?_
  refine ⟨an, ρ, ts, ds, Rl, EOk.toI h fun d ρ1 v H1 R1 h1 => ?_⟩
  refine ⟨an, ρ1, v :: ts, d :: ds, R1, EOk.bind (P := fun z => IOk M an ts ds W σ z R) h1 (fun _ _ _ _ z => z.weak1) (fun z => z) fun d2 ρ2 v2 H2 R2 h2 => ?_⟩
  rw [← hk]
  have q := R2.repsH
  have sw : RelX M an ρ2 σ H2 (v :: v2 :: ts) (d :: d2 :: ds) := R2.temps fun _ _ q => Reps.cons q.tail.head (Reps.cons q.head q.tail.tail)
  cases d with
  | lst xs =>
    cases d2 with
    | lst ys =>
      obtain ⟨pb, us, rfl, h4, t2⟩ := q.head
      obtain ⟨pa, vs, rfl, h3, t1⟩ := q.tail.head
      exact ⟨pa, pb, vs, us, rfl, .inl ⟨SqL.of h3, SqL.of h4, h2 _ _ [.ref pa, .ref pb] [.lst xs, .lst ys] rfl sw itok_zipL⟩⟩
    | _ => exact h2.elim
  | tup xs =>
    cases d2 with
    | tup ys =>
      obtain ⟨pb, us, rfl, h4, t2⟩ := q.head
      obtain ⟨pa, vs, rfl, h3, t1⟩ := q.tail.head
      exact ⟨pa, pb, vs, us, rfl, .inr ⟨h3, h4, h2 _ _ [.ref pa, .ref pb] [.tup xs, .tup ys] rfl sw itok_zipT⟩⟩
    | _ => exact h2.elim
  | _ => exact h2.elim
end
/-! ### enumerate(xs, start=k), xs a list or a tuple -/
/-- the list or tuple at a as it stands at each turn -/
def Iten (K : PySem.W.Frag) (S : PySem.W.Frag → Hp → Addr → List V → Prop) (k0 : Int) (a : Addr) : It :=
  ⟨fun i H => ∃ (xs : List V) (x : V), S K H a xs ∧ xs[i]? = some x, fun i H v H' => ∃ T x, v = .ref T ∧ H T = none ∧ H' = upd H T (.tup [.int (k0 + (i : Nat)), x]) ∧ ∀ xs, S K H a xs → xs[i]? = some x, fun i H => ∃ xs : List V, S K H a xs ∧ xs.length = i⟩
/-- what a kind of sequence gives: L false for lists, true for tuples -/
def seqIt (t : Bool) (h : Heap) (it a : Addr) (i : Nat) : Prop := if t = true then h.IsTupleIter it a i else h.IsListIter it a i
def seqS (t : Bool) : PySem.W.Frag → Hp → Addr → List V → Prop := if t = true then SqT else SqL
def seqAtA (t : Bool) (h : Heap) (a : Addr) (items : Array Value) : Prop := if t = true then h.IsTuple a items else h.IsList a items
theorem seq_draws {t : Bool} {prog : Program} {w : World} {A : Around} (hh : A.handled = none) (it a : Addr) (hne : a ≠ it) (items : Array Value) : Draws prog w A it [it, a] items.size (fun i v => items[i]? = some v) (fun i h => seqIt t h it a i ∧ seqAtA t h a items) := by
  cases t with
  | true => exact Draws.tuple hh it a hne items
  | false => exact Draws.list hh it a hne items
theorem Inv.seqv {X : Cx} {pins : List (Addr × Obj)} {σ : St} {H : Hp} {s : Shared} {a : Addr} {xs : List V} {t : Bool} (I : Inv X pins σ H s) (h : seqS t X.K H a xs) : ∃ its : List Value, Vals xs its ∧ seqAtA t s.heap a its.toArray := by
  cases t with
  | true => obtain ⟨its, r, p, _⟩ := Inv.tuple I h; exact ⟨its, r, p⟩
  | false => obtain ⟨its, r, p, _⟩ := Inv.list I h; exact ⟨its, r, p.isList⟩
theorem Inv.seqv_inj {X : Cx} {pins : List (Addr × Obj)} {σ : St} {H : Hp} {s : Shared} {a : Addr} {xs ys : List V} {t : Bool} (I : Inv X pins σ H s) (h : seqS t X.K H a xs) (h' : seqS t X.K H a ys) : xs = ys := by
  cases t with
  | true => exact Inv.tuple_inj I h h'
  | false => exact Inv.list_inj I h h'
theorem seqIt_at {t : Bool} {h h' : Heap} {it a : Addr} {i : Nat} (s : seqIt t h it a i) (k : ∀ o, h.get? it = some o → h'.get? it = some o) : seqIt t h' it a i := by
  cases t with
  | true => exact Heap.IsTupleIter.at s k
  | false => exact Heap.IsListIter.at s k
theorem seqIt_obj {t : Bool} {h : Heap} {it a : Addr} {i : Nat} (s : seqIt t h it a i) : ∃ o, h.get? it = some o ∧ ∀ v, o.data ≠ .cell v := by
  cases t with
  | true => obtain ⟨o, ho, hc, hd⟩ := s; exact ⟨o, ho, fun v q => by rw [hd] at q; cases q⟩
  | false => obtain ⟨o, ho, hc, hd⟩ := s; exact ⟨o, ho, fun v q => by rw [hd] at q; cases q⟩
theorem turn_en {P : Program} {w : World} {K : PySem.W.Frag} {elts : List Expr} {kk : Nat} {tpos : Pos} (t : Bool) (k0 : Int) (a e it : Addr) (hai : a ≠ it) (hae : a ≠ e) :
    Turn P w K (.Tuple elts kk tpos) (Iten K (seqS t) k0 a) [e, it] e (fun i h => (∃ old, IsEnum h e it (k0 + (i : Nat)) old) ∧ seqIt t h it a i ∧ e ≠ it) where
  mem := by simp
  obj := fun i h st b hb => by
    obtain ⟨⟨old, he⟩, hi, _⟩ := st
    have e' : b = e ∨ b = it := by simpa using hb
    rcases e' with z | z
    · rw [z]; exact ⟨_, he, fun v q => nomatch q⟩
    · rw [z]; exact seqIt_obj hi
  keep := fun i h h' st k => let ⟨⟨old, he⟩, hi, hne⟩ := st; ⟨⟨old, k e (by simp) _ he⟩, seqIt_at hi fun o q => k it (by simp) o q, hne⟩
  item := by
    intro X hP hw hK hc i pins s σ H E I hf st hg
    subst hP hw hK
    obtain ⟨⟨old, he⟩, hit, hne⟩ := st
    obtain ⟨xs, x, hq, hx⟩ := hg
    obtain ⟨its, rv, p⟩ := Inv.seqv I hq
    have hl := rv.length
    obtain ⟨u, hu, ru⟩ := rv.get hx
    have hil : i < its.toArray.size := by
      have := (List.getElem?_eq_some_iff.mp hu).1
      simpa using this
    have hel : e < s.heap.objs.size := Heap.lt_size he
    have hitl : it < s.heap.objs.size := by obtain ⟨o, q, _⟩ := seqIt_obj hit; exact Heap.lt_size q
    refine wpAny_pyNext_enum_itemC (seq_draws (t := t) (A := X.A.in1) (by show X.A.handled = none; exact I.ok.hd hc) it a hai its.toArray) he ⟨hit, p⟩ hil hne (by simp; exact ⟨hne, fun z => hae z.symm⟩) fun x' h' tk hP ho hst hT hsz hk => ?_
    have ex : x' = u := by
      have h1 : its.toArray[i]? = some x' := hP
      have h2 : its.toArray[i]? = some u := by simpa using hu
      rw [h2] at h1; exact (Option.some.inj h1).symm
    subst ex
    refine ⟨_, rfl, wpAny_letOwnedTupleGo_enum (s := { s with heap := h', toks := tk + 1 }) ho fun h'' he' sb => ?_⟩
    have hT2 : h''.get? s.heap.objs.size = some { cls := .type "tuple", data := .seq #[.int (k0 + (i : Nat)) tk, x'] } := (sb.2 _ (Nat.ne_of_gt hel)).trans hT
    have new : ObjOk X.prog X.w (upd H s.heap.objs.size (.tup [.int (k0 + (i : Nat)), x])) h'' s.heap.objs.size (.tup [.int (k0 + (i : Nat)), x]) :=
      ⟨by show 2 ≤ sizeLine; decide, [.int (k0 + (i : Nat)) tk, x'], .cons ⟨_, rfl⟩ (.cons ru .nil), ⟨_, hT2, rfl, _, rfl⟩⟩
    have I1 : Inv X pins σ (upd H s.heap.objs.size (.tup [.int (k0 + (i : Nat)), x])) { s with heap := h'', toks := tk + 1 } :=
      I.turnedNew (ch := [e, it]) (fun b ob hb q => (sb.2 b (fun z => hb (by simp [z]))).trans (hk b ob (fun z => hb (by simp [z])) (fun z => hb (by simp [z])) q)) hf (Nat.le_refl _) new
    refine ⟨.ref s.heap.objs.size, _, I1, rfl, ⟨_, x, rfl, I.hok.fresh (Nat.le_refl _), rfl, fun ys hy => by rw [Inv.seqv_inj I hy hq]; exact hx⟩, ⟨⟨x', ?_⟩, ?_, hne⟩, fun b hb => ?_⟩
    · have e1 : k0 + ((i + 1 : Nat) : Int) = k0 + (i : Int) + 1 := by omega
      rw [e1]; exact he'
    · exact seqIt_at hst.1 fun o q => (sb.2 it (Ne.symm hne)).trans q
    · have hb' : b < s.heap.objs.size := by
        have e' : b = e ∨ b = it := by simpa using hb
        rcases e' with z | z
        · rw [z]; exact hel
        · rw [z]; exact hitl
      rw [upd_ne (Nat.ne_of_lt hb')]
      exact (hf b hb).1
  done := by
    intro X hP hw hK hc i pins s σ H E I hf st hg
    subst hP hw hK
    obtain ⟨⟨old, he⟩, hit, hne⟩ := st
    obtain ⟨xs, hq, hx⟩ := hg
    obtain ⟨its, rv, p⟩ := Inv.seqv I hq
    have hl := rv.length
    obtain ⟨f0, f1, f2, f3, f4, f5⟩ := hf it (by simp)
    have hi : i = its.toArray.size := by simp; omega
    exact wpAny_pyNext_enum_endD (seq_draws (t := t) (A := X.A.in1) (by show X.A.handled = none; exact I.ok.hd hc) it a hai its.toArray) he ⟨hi ▸ hit, p⟩ fun h' eb => ⟨rfl, I.turned (t' := s.toks) (fun b o hb q => eb b o hb q) f0 f1 f3 f4 f5⟩
  self := fun A i s Q E st h => let ⟨⟨_, he⟩, _⟩ := st; wpAny_pyIter_enum he h
theorem enumD_len : ∀ (ds : List D) (k : Int), (enumD k ds).length = ds.length
  | [], _ => rfl
  | _ :: ds, k => by simp [enumD, enumD_len ds]
theorem enumD_get : ∀ (ds : List D) (k : Int) (i : Nat) (d : D), (enumD k ds)[i]? = some d → ∃ x, ds[i]? = some x ∧ d = .tup [.int (k + (i : Nat)), x]
  | [], _, _, _, h => by cases h
  | x :: ds, k, 0, d, h => by
    have : D.tup [.int k, x] = d := by simpa [enumD] using h
    exact ⟨x, rfl, by rw [← this]; simp⟩
  | x :: ds, k, i + 1, d, h => by
    obtain ⟨y, h1, h2⟩ := enumD_get ds (k + 1) i d (by simpa [enumD] using h)
    refine ⟨y, by simpa using h1, ?_⟩
    rw [h2]
    have : k + 1 + (i : Int) = k + ((i + 1 : Nat) : Int) := by omega
    rw [this]
theorem itok_en {M : Mc} {t : Bool} {pa : Addr} {k0 : Int} {es : List D} : ItOk M (Iten M.K (seqS t) k0 pa) (enumD k0 es) [.ref pa] [if t = true then .tup es else .lst es] := fun i an ρ σ H ts ds R => by
  obtain ⟨G, own, r⟩ := R
  have z : ∃ vs, seqS t M.K H pa vs ∧ Reps M.K M.cl G es vs := by
    have q := r.tmp.head
    cases t with
    | true => obtain ⟨_, vs, e, h, q⟩ := q; cases e; exact ⟨vs, r.sub.sqT h, q⟩
    | false => obtain ⟨_, vs, e, h, q⟩ := q; cases e; exact ⟨vs, SqL.of (r.sub _ _ h), q⟩
  obtain ⟨vs, h, q⟩ := z
  refine ⟨fun d hd => ?_, fun hl => ⟨vs, h, by rw [q.len, hl, enumD_len]⟩⟩
  obtain ⟨x, h1, rfl⟩ := enumD_get _ _ _ _ hd
  obtain ⟨v, g1, g2⟩ := q.get h1
  refine ⟨⟨vs, v, h, g1⟩, fun z H' y => ?_⟩
  obtain ⟨T, x', rfl, hT, rfl, y1⟩ := y
  have a1 := y1 vs h
  rw [g1] at a1; cases a1
  exact r.new hT fun s => Reps.cons ⟨T, _, rfl, SqT.of upd_same, Reps.cons rfl (Reps.cons (Rep.mono s _ _ g2) Reps.nil)⟩ (Reps.mono s _ _ r.tmp)
/-- a call of a built-in class with keywords -/
theorem callWith_typeKw {M : Model} {A : Around} {E : Value → Shared → Prop} {s : Shared} {pos : Pos} {T : String} {first : List Value} {args : List (Bool × Sem Value)} {keywords : List (Option Str × Sem Value)} {Q : Value → Shared → Prop}
    (hplain : args.any (·.1) = false) (hkw : keywords.any (·.1.isNone) = false)
    (h : wpAny M A (evalArgs (.type T) true args keywords) (fun a s₁ => wpAny M A (call (.type T) (first ++ a.pos) a.kw) Q E s₁) E s) :
    wpAny M A (callWith pos (.type T) first args keywords) Q E s := by
  unfold callWith
  refine wpAny_bind (wpAny_holding (wpAny_mono h (fun a s₁ h₁ => wpAny_bind (wpAny_standAt ?_)) fun _ _ x => x))
  simp only [hplain, hkw, Bool.or_false]
  refine wpAny_bind (wpAny_pure ?_)
  exact wpAny_bind (wpAny_mono h₁ (fun r s₂ hr => wpAny_bind (wpAny_holding (wpAny_point (wpAny_pure hr)))) fun _ _ x => x)
/-- what begins at an enumerate's making -/
def iEnV (K : PySem.W.Frag) (k0 : Int) (ta : TA) : TI := fun σ H R => ta σ H fun vs H1 => ∃ (t : Bool) (a : Addr) (xs : List V), vs = [.ref a] ∧ seqS t K H1 a xs ∧ R (Iten K (seqS t) k0 a) H1
theorem seq_lt {t : Bool} {h : Heap} {a : Addr} {items : Array Value} (s : seqAtA t h a items) : a < h.objs.size := by
  cases t with
  | true => exact IsTup.lt s
  | false => obtain ⟨o, e, _⟩ := s; exact Heap.lt_size e
theorem en_end {X : Cx} {pins : List (Addr × Obj)} {σ : St} {H : Hp} {s : Shared} {elts : List Expr} {kk : Nat} {tpos : Pos} {t : Bool} {k0 : Int} {a : Addr} {xs : List V} {R : It → Hp → Prop} {o : Obj} (I : Inv X pins σ H s) (hq : seqS t X.K H a xs) (hR : R (Iten X.K (seqS t) k0 a) H) {items : Array Value} (hat : seqAtA t s.heap a items)
    {h' : Heap} (he : IsEnum h' (s.heap.objs.size + 1) s.heap.objs.size k0 .none) (ho : h'.get? s.heap.objs.size = some o) (hso : seqIt t h' s.heap.objs.size a 0) (hsz : h'.objs.size = s.heap.objs.size + 2) (hk : ∀ b o, s.heap.get? b = some o → h'.get? b = some o) :
    wpAny (model X.prog X.w) X.A (pyIter (.ref (s.heap.objs.size + 1))) (PIE X pins σ (.Tuple elts kk tpos) R) X.xe { s with heap := h' } := by
  refine wpAny_pyIter_enum he ?_
  have I2 : Inv X pins σ H { s with heap := h' } := I.kept (t' := s.toks) hk
  have hlt := seq_lt hat
  have n1 : a ≠ s.heap.objs.size := Nat.ne_of_lt hlt
  have n2 : a ≠ s.heap.objs.size + 1 := Nat.ne_of_lt (Nat.lt_succ_of_lt hlt)
  refine ⟨s.heap.objs.size + 1, [s.heap.objs.size + 1, s.heap.objs.size], _, _, H, rfl, I2, turn_en t k0 a (s.heap.objs.size + 1) s.heap.objs.size n1 n2, ⟨⟨.none, by simpa using he⟩, hso, Nat.succ_ne_self _⟩, fun b hb => ?_, hR⟩
  have e' : b = s.heap.objs.size + 1 ∨ b = s.heap.objs.size := by simpa using hb
  have hle : s.heap.objs.size ≤ b := by
    rcases e' with z | z
    · rw [z]; exact Nat.le_add_right _ _
    · rw [z]; exact Nat.le_refl _
  exact I.fpOk hle (I.hok.fresh hle)
section
variable {X : Cx} {M : Mc} {W : WX} {e : Expr} {f : En → Rs D} {p pos : Pos}
theorem pi_enStart {elts : List Expr} {kk : Nat} {tpos : Pos} {te : TE} {k0 : Int} {cp kp : Pos} {cj : Nat} (hb0 : -(2 ^ 63) ≤ k0) (hb1 : k0 < 2 ^ 63) (hg : Gl X "enumerate") (hm : X.mg "enumerate" = none) (ha : PE X e te)
    (he : starEach [e] X.env = (false, eval e X.env) :: starEach [] X.env) (hpl : (backTo pos (starEach (e :: []) X.env)).any (·.1) = false)
    (hall : (backToKw pos (keywordEach [⟨some "start", .Constant (.int k0) cj cp, kp⟩] X.env)).all (·.1.isSome) = true) (hnone : (backToKw pos (keywordEach [⟨some "start", .Constant (.int k0) cj cp, kp⟩] X.env)).any (·.1.isNone) = false)
    (hks : (backToKw pos (keywordEach [⟨some "start", .Constant (.int k0) cj cp, kp⟩] X.env)).filterMap (·.1) = [("start" : Str)]) :
    PI X (.Tuple elts kk tpos) (.Call (.Name "enumerate" p) [e] [⟨some "start", .Constant (.int k0) cj cp, kp⟩] pos) (iEnV X.K k0 (tCons te tNil)) := by
  refine ⟨fun pins s σ H R I h => ?_⟩
  refine wpAny_Call_Name_kw (ld_blt I hg hm boot_enumerate ?_)
  refine callWith_typeKw hpl hnone ?_
  refine evalArgs_kw2 hall (thn ((pa_cons ha pa_nil he).run pos pins s σ H (fun vs H1 => ∃ (t : Bool) (a : Addr) (xs : List V), vs = [.ref a] ∧ seqS t X.K H1 a xs ∧ R (Iten X.K (seqS t) k0 a) H1) I ?_) fun us s1 ⟨vs, H1, I1, r1, q1⟩ => thn ((pk_cons pe_int pk_nil).run pos pins s1 σ H1 (fun zs H2 => zs = [.int k0] ∧ H2 = H1) I1 ⟨rfl, rfl⟩) fun ws s2 ⟨zs, H2, I2, r2, q2, q3⟩ => ?_) he
  · exact h
  · subst q2; subst q3
    obtain ⟨t, a, xs, rfl, hq, hR⟩ := q1
    cases r1 with
    | cons r rr =>
      cases rr; cases r
      cases r2 with
      | cons r rr =>
        cases rr
        obtain ⟨tk, rfl⟩ := r
        rw [hks]
        obtain ⟨its, rv, hat⟩ := Inv.seqv I2 hq
        cases t with
        | true => exact enum_begins_start (begins_tuple a its.toArray) hat hb0 hb1 fun h' he' ho hsz hk => en_end I2 hq hR (t := true) hat he' ho ⟨_, ho, rfl, rfl⟩ hsz hk
        | false => exact enum_begins_start (begins_list a its.toArray) hat hb0 hb1 fun h' he' ho hsz hk => en_end I2 hq hR (t := false) hat he' ho ⟨_, ho, rfl, rfl⟩ hsz hk
theorem si_enStart {elts : List Expr} {kk : Nat} {tpos : Pos} {k0 : Int} {cp kp : Pos} {cj : Nat} (hk : M.K = X.K) (hm : X.mg "enumerate" = none) (ha : SE X M W e f) (hb0 : -(2 ^ 63) ≤ k0 := by decide) (hb1 : k0 < 2 ^ 63 := by decide) (hg : Gl X "enumerate" := by rfl)
    (he : starEach [e] X.env = (false, eval e X.env) :: starEach [] X.env := by rfl) (hpl : (backTo pos (starEach (e :: []) X.env)).any (·.1) = false := by rfl)
    (hall : (backToKw pos (keywordEach [⟨some "start", .Constant (.int k0) cj cp, kp⟩] X.env)).all (·.1.isSome) = true := by rfl) (hnone : (backToKw pos (keywordEach [⟨some "start", .Constant (.int k0) cj cp, kp⟩] X.env)).any (·.1.isNone) = false := by rfl)
    (hks : (backToKw pos (keywordEach [⟨some "start", .Constant (.int k0) cj cp, kp⟩] X.env)).filterMap (·.1) = [("start" : Str)] := by rfl) :
    SI X M W (.Tuple elts kk tpos) (.Call (.Name "enumerate" p) [e] [⟨some "start", .Constant (.int k0) cj cp, kp⟩] pos) (iEn k0 f) := by
  refine pi_imp (pi_enStart hb0 hb1 hg hm ha he hpl hall hnone hks) fun σ H R ⟨an, ρ, ts, ds, Rl, h⟩ => ?_
  refine ⟨an, ρ, ts, ds, Rl, EOk.toI h fun d ρ1 v H1 R1 h1 => ?_⟩
  rw [← hk]
  have q := R1.repH
  cases d with
  | lst es =>
    obtain ⟨pa, vs, rfl, h2, t⟩ := q
    exact ⟨false, pa, vs, rfl, SqL.of h2, h1 _ _ [.ref pa] [.lst es] rfl R1 (itok_en (t := false))⟩
  | tup es =>
    obtain ⟨pa, vs, rfl, h2, t⟩ := q
    exact ⟨true, pa, vs, rfl, h2, h1 _ _ [.ref pa] [.tup es] rfl R1 (itok_en (t := true))⟩
  | _ => exact h1.elim
end
end Dl
end
section
set_option maxHeartbeats 4000000
/-! DlH: for, while, list comprehensions. -/
namespace Dl
open PySem PySem.Spec PyProof.Rows L2
/-! ### for -/
def forD (g : D → En → Rs Unit) (fb : En → Rs Fl) : List D → En → Rs Fl
  | [], ρ => .ok .nx ρ
  | d :: es, ρ => match g d ρ with
    | .ok _ ρ1 => (fb ρ1).bind fun fl ρ2 => match fl with
      | .nx => forD g fb es ρ2
      | .cont => forD g fb es ρ2
      | .brk => .ok .nx ρ2
      | .ret d => .ok (.ret d) ρ2
      | .retL d => .ok (.retL d) ρ2
    | _ => .stuck
def fFor (fi : En → Rs (List D)) (g : D → En → Rs Unit) (fb : En → Rs Fl) : En → Rs Fl := fun ρ => (fi ρ).bind fun es ρ1 => forD g fb es ρ1
section
variable {X : Cx} {M : Mc} {W : WX} {tg iter : Expr} {body : List Stmt} {fi : En → Rs (List D)} {g : D → En → Rs Unit} {fb : En → Rs Fl} {vs : List Nat} {pos : Pos}
theorem SOk.drops {an : List (Addr × D)} {ts tv : List V} {ds td : List D} {r : Rs Fl} {Dn : Ends} (l : tv.length = td.length) (h : SOk M an ts ds W r Dn) : SOk M an (tv ++ ts) (td ++ ds) W r Dn := by
  cases r with
  | ok a ρ =>
    cases a with
    | nx => exact fun σ H R => h σ H (R.drops l)
    | brk => exact fun σ H R => h σ H (R.drops l)
    | cont => exact fun σ H R => h σ H (R.drops l)
    | ret d => exact fun v σ H R => h v σ H (R.temps fun _ _ q => Reps.cons q.head (Reps.split l.symm q.tail).2)
    | retL d => exact fun v σ H R => h v σ H (R.drops l)
  | err c fs es ρ => exact fun σ => (h σ).weak l
  | stuck => exact h
theorem ss_for (hp : PassesOwn (model X.prog X.w) X.A X.env X.xe) (hc : X.calm = true) (hi : SI X M W tg iter fi) (hg : SG X M vs tg g) (hb : SSs X M W body fb) (hs : ∀ x, foldedSetIterable iter X.env x = pure x := by intro _; rfl) : SS X M W (.For tg iter body [] pos) (fFor fi g fb) := by
  refine ps_imp (ps_for hp hc hi hg hb hs) fun Dn σ H ⟨an, ρ, ts, ds, R, h⟩ => ?_
  refine ⟨an, ρ, ts, ds, R, ?_⟩
  unfold fFor at h
  cases q : fi ρ with
  | stuck => rw [q] at h; exact h
  | err c fs es ρ1 => rw [q] at h; exact h σ
  | ok es ρ1 =>
    rw [q] at h
    intro J H1 tv td l R1 It1
    refine ⟨fun i m σ H => m = es.length - i ∧ i ≤ es.length ∧ ∃ ρ, RelX M an ρ σ H (tv ++ ts) (td ++ ds) ∧ SOk M an ts ds W (forD g fb (es.drop i) ρ) Dn, ⟨es.length, by simp, Nat.zero_le _, ρ1, R1, h⟩, ?_⟩
    rintro i m σ H ⟨rfl, hi, ρ, R, h⟩
    have it := It1 i an ρ σ H ts ds R
    by_cases hlt : i < es.length
    · have e : es.drop i = es[i] :: es.drop (i + 1) := List.drop_eq_getElem_cons hlt
      rw [e] at h
      obtain ⟨go, yl⟩ := it.1 es[i] (List.getElem?_eq_getElem hlt)
      refine .inr ⟨go, fun σ H => ∃ ρ, RelX M an ρ σ H (tv ++ ts) (td ++ ds) ∧ SOk M an ts ds W (forD g fb (es.drop (i + 1)) ρ) Dn, fun σ' H' ⟨ρ', R', h'⟩ => ⟨es.length - (i + 1), by omega, rfl, hlt, ρ', R', h'⟩, fun x H' y => ?_⟩
      refine ⟨an, ρ, tv ++ ts, td ++ ds, es[i], yl x H' y, ?_⟩
      unfold forD at h
      cases q1 : g es[i] ρ with
      | stuck => rw [q1] at h; exact h.elim
      | err c fs es ρ1 => rw [q1] at h; exact h.elim
      | ok u ρ2 =>
        rw [q1] at h
        dsimp only at h ⊢
        intro σ1 H1 R1 _
        refine ⟨an, ρ2, tv ++ ts, td ++ ds, R1, ?_⟩
        refine SOk.bind (P := fun z => SOk M an ts ds W z Dn) h (fun _ _ _ _ z σ => (z σ).weak l) (fun z => z) (fun ρ3 σ3 H3 R3 h3 => ⟨ρ3, R3, h3⟩) (fun ρ3 σ3 H3 R3 h3 => h3 _ _ (R3.drops l)) (fun ρ3 σ3 H3 R3 h3 => ⟨ρ3, R3, h3⟩) (fun d ρ3 v σ3 H3 R3 h3 => h3 v σ3 H3 (R3.temps fun _ _ q => Reps.cons q.head (Reps.split l.symm q.tail).2)) fun d ρ3 v σ3 H3 R3 h3 => h3 v σ3 H3 (R3.drops l)
    · have e : i = es.length := by omega
      subst e
      rw [List.drop_length] at h
      exact .inl ⟨it.2 rfl, h σ H (R.drops l)⟩
end
/-! ### while, by fuel -/
def whD (fc : En → Rs Bool) (fb : En → Rs Fl) : Nat → En → Rs Fl
  | 0, _ => .stuck
  | n + 1, ρ => (fc ρ).bind fun c ρ1 => if c = true then (fb ρ1).bind fun fl ρ2 => match fl with
      | .nx => whD fc fb n ρ2
      | .cont => whD fc fb n ρ2
      | .brk => .ok .nx ρ2
      | .ret d => .ok (.ret d) ρ2
      | .retL d => .ok (.retL d) ρ2
    else .ok .nx ρ1
section
variable {X : Cx} {M : Mc} {W : WX} {c : Expr} {body : List Stmt} {fc : En → Rs Bool} {fb : En → Rs Fl} {pos : Pos}
theorem ss_while (n : Nat) (hp : PassesOwn (model X.prog X.w) X.A X.env X.xe) (hc : SB X M W c fc) (hb : SSs X M W body fb) : SS X M W (.While c body [] pos) (whD fc fb n) := by
  refine ps_imp (ps_while hp hc hb) fun Dn σ H ⟨an, ρ, ts, ds, R, h⟩ => ?_
  refine ⟨fun m σ H => ∃ ρ, RelX M an ρ σ H ts ds ∧ SOk M an ts ds W (whD fc fb m ρ) Dn, ⟨n, ρ, R, h⟩, ?_⟩
  rintro m σ H ⟨ρ, R, h⟩
  cases m with
  | zero => exact h.elim
  | succ m =>
    refine ⟨an, ρ, ts, ds, R, BOk.bind (P := fun z => SOk M an ts ds W z Dn) h (fun _ _ _ _ z => z σ) (fun z => z) fun b ρ1 H1 R1 h1 => ?_⟩
    cases b with
    | false => exact iteF (h1 σ H1 R1)
    | true =>
      refine iteT ⟨fun σ H => ∃ ρ, RelX M an ρ σ H ts ds ∧ SOk M an ts ds W (whD fc fb m ρ) Dn, fun σ' H' w => ⟨m, Nat.lt_succ_self _, w⟩, an, ρ1, ts, ds, R1, ?_⟩
      exact SOk.bind (P := fun z => SOk M an ts ds W z Dn) h1 (fun _ _ _ _ z => z) (fun z => z) (fun ρ3 σ3 H3 R3 h3 => ⟨ρ3, R3, h3⟩) (fun ρ3 σ3 H3 R3 h3 => h3 _ _ R3) (fun ρ3 σ3 H3 R3 h3 => ⟨ρ3, R3, h3⟩) (fun d ρ3 v σ3 H3 R3 h3 => h3 v σ3 H3 R3) fun d ρ3 v σ3 H3 R3 h3 => h3 v σ3 H3 R3
end
/-! ### slots forgotten -/
def okW (ρ : En) (vs : List Nat) : Bool := vs.all fun i => setOk ρ i
def wipeR (ρ : En) : List Nat → En
  | [] => ρ
  | v :: vs => (wipeR ρ vs).set v none
theorem wipeR_get {ρ : En} : ∀ {vs : List Nat} {i : Nat}, i ∉ vs → (wipeR ρ vs)[i]? = ρ[i]?
  | [], _, _ => rfl
  | v :: vs, i, h => by
    unfold wipeR
    rw [List.getElem?_set_ne (fun z => h (by rw [z]; exact List.mem_cons_self)), wipeR_get fun z => h (List.mem_cons_of_mem _ z)]
theorem wipeR_in {ρ : En} : ∀ {vs : List Nat} {i : Nat} {s : Sl}, i ∈ vs → (wipeR ρ vs)[i]? ≠ some (some s)
  | [], _, _, h => by cases h
  | v :: vs, i, s, h => by
    unfold wipeR
    by_cases e : v = i
    · subst e
      by_cases hl : v < (wipeR ρ vs).length
      · rw [List.getElem?_set_self hl]; intro z; cases z
      · rw [List.set_eq_of_length_le (Nat.le_of_not_lt hl), List.getElem?_eq_none (Nat.le_of_not_lt hl)]; intro z; cases z
    · rw [List.getElem?_set_ne e]
      rcases List.mem_cons.mp h with z | z
      · exact absurd z.symm e
      · exact wipeR_in z
theorem wipe_get {σ : St} : ∀ {vs : List Nat} {i : Nat}, i ∉ vs → (wipe σ vs)[i]? = σ[i]?
  | [], _, _ => rfl
  | v :: vs, i, h => by
    unfold wipe
    rw [List.getElem?_set_ne (fun z => h (by rw [z]; exact List.mem_cons_self)), wipe_get fun z => h (List.mem_cons_of_mem _ z)]
theorem wipe_wipe {σ : St} : ∀ {vs ws : List Nat}, (∀ i ∈ vs, i ∈ ws) → wipe (wipe σ vs) ws = wipe σ ws
  | [], _, _ => rfl
  | v :: vs, ws, h => by
    show wipe ((wipe σ vs).set v none) ws = wipe σ ws
    rw [wipe_set (h v List.mem_cons_self), wipe_wipe fun i hi => h i (List.mem_cons_of_mem _ hi)]
section
variable {M : Mc} {an : List (Addr × D)} {ρ : En} {σ σ' : St} {H : Hp} {ts : List V} {ds : List D}
theorem setOk_none {i j : Nat} (h : setOk ρ i = true) : setOk (ρ.set j none) i = true := by
  unfold setOk at h ⊢
  by_cases e : j = i
  · subst e
    by_cases hl : j < ρ.length
    · rw [List.getElem?_set_self hl]
    · rw [List.set_eq_of_length_le (Nat.le_of_not_lt hl)]; exact h
  · rw [List.getElem?_set_ne e]; exact h
theorem RelX.wipe : ∀ {vs : List Nat}, RelX M an ρ σ H ts ds → okW ρ vs = true → RelX M an (wipeR ρ vs) (L2.wipe σ vs) H ts ds
  | [], R, _ => R
  | v :: vs, R, h => by
    unfold okW at h
    rw [List.all_cons] at h
    obtain ⟨h1, h2⟩ := Bool.and_eq_true_iff.mp h
    have q := RelX.wipe (vs := vs) R h2
    have ok : ∀ ws : List Nat, setOk (wipeR ρ ws) v = true := by
      intro ws
      induction ws with
      | nil => exact h1
      | cons w ws ih => exact setOk_none ih
    exact q.setNo fun _ => ok vs
/-- the same slots, where they are told -/
theorem RelX.sig (R : RelX M an ρ σ H ts ds) (l : σ'.length = σ.length) (h : ∀ (i : Nat) (s : Sl), ρ[i]? = some (some s) → σ'[i]? = σ[i]?) : RelX M an ρ σ' H ts ds := by
  obtain ⟨G, own, r⟩ := R
  exact ⟨G, own, { r with shp := fun i d hi => by rw [h i _ hi]; exact r.shp i d hi, owp := fun i d hi => by rw [h i _ hi]; exact r.owp i d hi, bop := fun i d hi => by rw [h i _ hi]; exact r.bop i d hi, len := by rw [l]; exact r.len }⟩
theorem RelX.unwipe {vs : List Nat} (R : RelX M an ρ (L2.wipe σ vs) H ts ds) (h : ∀ i ∈ vs, ∀ s : Sl, ρ[i]? ≠ some (some s)) : RelX M an ρ σ H ts ds :=
  R.sig (wipe_length σ vs).symm fun i s hi => (wipe_get fun z => h i z s hi).symm
/-- the list that is held aside grows -/
theorem RelX.anPut {p : Addr} {acc : List D} {v : V} {d : D} (R : RelX M ((p, .lst acc) :: an) ρ σ H (v :: ts) (d :: ds)) : ∃ vs, H p = some (.lst vs) ∧ vs.length = acc.length ∧ RelX M ((p, .lst (acc ++ [d])) :: an) ρ σ (upd H p (.lst (vs ++ [v]))) ts ds := by
  obtain ⟨G, own, r⟩ := R
  obtain ⟨⟨vs, z2, z3⟩, z4, z5⟩ := r.anp _ List.mem_cons_self
  refine ⟨vs, z2, z3.len, G, own, ?_⟩
  have keep : ∀ b u, b ≠ p → H b = some u → (upd H p (.lst (vs ++ [v]))) b = some u := fun b u hb e => by rw [upd_ne hb]; exact e
  have gne : ∀ b u, G b = some u → b ≠ p := fun b u e c => by rw [c] at e; rw [z4] at e; cases e
  have one : ∀ i, IsOw ρ i → own i ≠ p := fun i hi => r.apart i hi _ List.mem_cons_self
  have nd := List.nodup_cons.mp (show (p :: an.map (·.1)).Nodup from r.anN)
  refine { sub := fun b u e => keep b u (gne b u e) (r.sub b u e), g0 := r.g0, fr := r.fr, ext := fun b u e w => keep b u ?_ (r.ext b u e w), wok := fun b w => ?_, shp := r.shp, owp := fun j d' hj => ?_, bop := fun j d' hj => ?_, anp := fun x hx => ?_, inj := r.inj, apart := fun i hi x hx => ?_, anN := r.anN, len := r.len, tmp := r.tmp.tail }
  · rintro rfl
    rw [z5] at e; cases e
  · by_cases hb : b = p
    · exact ⟨_, by rw [hb]; exact upd_same⟩
    · obtain ⟨u, hu⟩ := r.wok b w; exact ⟨u, keep b u hb hu⟩
  · obtain ⟨c1, c2, c3, c4⟩ := r.owp j d' hj
    exact ⟨c1, c2.mono Sub.rfl' fun u hu => keep _ u (one j ⟨_, .inl hj⟩) hu, c3, c4⟩
  · obtain ⟨c1, c2, c3, c4⟩ := r.bop j d' hj
    exact ⟨c1, c2.mono Sub.rfl' fun u hu => keep _ u (one j ⟨_, .inr hj⟩) hu, c3, c4⟩
  · rcases List.mem_cons.mp hx with e | hx
    · subst e
      exact ⟨⟨_, upd_same, Reps.append z3 (Reps.cons r.tmp.head Reps.nil)⟩, z4, z5⟩
    · obtain ⟨c2, c3, c4⟩ := r.anp x (List.mem_cons_of_mem _ hx)
      exact ⟨c2.mono Sub.rfl' fun u hu => keep _ u (fun c => nd.1 (List.mem_map.mpr ⟨x, hx, c⟩)) hu, c3, c4⟩
  · rcases List.mem_cons.mp hx with e | hx
    · subst e; exact one i hi
    · exact r.apart i hi x (List.mem_cons_of_mem _ hx)
end
/-! ### [elt for tg in iter if ..] -/
def lcD (vs : List Nat) (g : D → En → Rs Unit) (ft : En → Rs Bool) (fe : En → Rs D) : List D → List D → En → Rs (List D)
  | [], acc, ρ => .ok acc ρ
  | d :: es, acc, ρ => match g d ρ with
    | .ok _ ρ1 => (match ft ρ1 with
      | .ok true ρ2 => (match fe ρ2 with
        | .ok v ρ3 => if (decide (acc.length < sizeLine) && okW ρ3 vs) = true then lcD vs g ft fe es (acc ++ [v]) (wipeR ρ3 vs) else .stuck
        | _ => .stuck)
      | .ok false ρ2 => if okW ρ2 vs = true then lcD vs g ft fe es acc (wipeR ρ2 vs) else .stuck
      | _ => .stuck)
    | _ => .stuck
def lcEnd (r : Rs (List D)) : Rs D := match r with
  | .ok out ρ => .ok (.lst out) ρ
  | _ => .stuck
def fLc (vs : List Nat) (fi : En → Rs (List D)) (g : D → En → Rs Unit) (ft : En → Rs Bool) (fe : En → Rs D) : En → Rs D := fun ρ => (fi ρ).bind fun es ρ1 => if okW ρ1 vs = true then lcEnd (lcD vs g ft fe es [] (wipeR ρ1 vs)) else .stuck
def fYes : En → Rs Bool := fun ρ => .ok true ρ
abbrev W0 : WX := fun _ _ _ _ => False
theorem EErr.of_false {M : Mc} {an : List (Addr × D)} {ts : List V} {ds : List D} {W : WX} {σ : St} {c : Str} {fs : List Str} {es : List D} {ρ : En} (h : False) : EErr M an ts ds W σ c fs es ρ := h.elim
section
variable {M : Mc} {vs : List Nat} {g : D → En → Rs Unit} {ft : En → Rs Bool} {fe : En → Rs D}
/-- every slot of vs is forgotten -/
def Gone (ρ : En) (vs : List Nat) : Prop := ∀ i ∈ vs, ∀ s : Sl, ρ[i]? ≠ some (some s)
theorem gone_wipe {ρ : En} : Gone (wipeR ρ vs) vs := fun i hi s => wipeR_in hi
theorem lcD_gone : ∀ {es acc out : List D} {ρ ρ' : En}, lcD vs g ft fe es acc ρ = .ok out ρ' → Gone ρ vs → Gone ρ' vs
  | [], _, _, _, _, h, k => by cases h; exact k
  | d :: es, acc, out, ρ, ρ', h, k => by
    unfold lcD at h
    split at h
    · split at h
      · split at h
        · split at h
          · exact lcD_gone h gone_wipe
          · cases h
        · cases h
      · split at h
        · exact lcD_gone h gone_wipe
        · cases h
      · cases h
    · cases h
theorem lc_loop {an : List (Addr × D)} {ρ0 ρe : En} {σ : St} {H0 : Hp} {ts tv : List V} {ds td : List D} {Dd : Addr} {acc0 out es : List D} {J : It} {Qe : Hp → Prop} (It1 : ItOk M J es tv td)
    (R0 : RelX M ((Dd, .lst acc0) :: an) ρ0 (L2.wipe σ vs) H0 (tv ++ ts) (td ++ ds)) (h0 : lcD vs g ft fe es acc0 ρ0 = .ok out ρe)
    (fin : ∀ H, RelX M ((Dd, .lst out) :: an) ρe (L2.wipe σ vs) H (tv ++ ts) (td ++ ds) → Qe H) :
    ∃ Wv : Nat → Nat → Hp → Prop, (∃ m, Wv 0 m H0) ∧ ∀ i m H, Wv i m H →
      (J.stop i H ∧ Qe H) ∨ (J.go i H ∧ ∃ Nx : Hp → Prop, (∀ H', Nx H' → ∃ m', m' < m ∧ Wv (i + 1) m' H') ∧ ∀ x H', J.yld i H x H' → tG M vs g x (L2.wipe σ vs) H' fun σ2 H2 => L2.wipe σ2 vs = L2.wipe σ vs ∧ tB1 M W0 ft σ2 H2 fun b H3 =>
        if b = true then tE M W0 fe σ2 H3 fun y H4 => ∃ acc, H4 Dd = some (.lst acc) ∧ acc.length < sizeLine ∧ Nx (upd H4 Dd (.lst (acc ++ [y]))) else Nx H3) := by
  refine ⟨fun i m H => m = es.length - i ∧ i ≤ es.length ∧ ∃ ρ acc, RelX M ((Dd, .lst acc) :: an) ρ (L2.wipe σ vs) H (tv ++ ts) (td ++ ds) ∧ lcD vs g ft fe (es.drop i) acc ρ = .ok out ρe, ⟨es.length, by simp, Nat.zero_le _, ρ0, acc0, R0, h0⟩, ?_⟩
  rintro i m H ⟨rfl, hi, ρ, acc, R, h⟩
  have it := It1 i _ ρ _ H ts ds R
  by_cases hlt : i < es.length
  · have e : es.drop i = es[i] :: es.drop (i + 1) := List.drop_eq_getElem_cons hlt
    rw [e] at h
    obtain ⟨go, yl⟩ := it.1 es[i] (List.getElem?_eq_getElem hlt)
    refine .inr ⟨go, fun H => ∃ ρ acc, RelX M ((Dd, .lst acc) :: an) ρ (L2.wipe σ vs) H (tv ++ ts) (td ++ ds) ∧ lcD vs g ft fe (es.drop (i + 1)) acc ρ = .ok out ρe, fun H' ⟨ρ', acc', R', h'⟩ => ⟨es.length - (i + 1), by omega, rfl, hlt, ρ', acc', R', h'⟩, fun x H' y => ?_⟩
    refine ⟨(Dd, .lst acc) :: an, ρ, tv ++ ts, td ++ ds, es[i], yl x H' y, ?_⟩
    unfold lcD at h
    cases q1 : g es[i] ρ with
    | stuck => rw [q1] at h; cases h
    | err c fs es ρ1 => rw [q1] at h; cases h
    | ok u ρ1 =>
      rw [q1] at h
      dsimp only at h ⊢
      intro σ2 H2 R2 hw
      have hw' : L2.wipe σ2 vs = L2.wipe σ vs := by rw [hw]; exact wipe_wipe fun i hi => hi
      refine ⟨hw', (Dd, .lst acc) :: an, ρ1, tv ++ ts, td ++ ds, R2, ?_⟩
      cases q2 : ft ρ1 with
      | stuck => rw [q2] at h; cases h
      | err c fs es ρ1 => rw [q2] at h; cases h
      | ok b ρ2 =>
        rw [q2] at h
        intro H3 R3
        cases b with
        | false =>
          dsimp only at h
          by_cases c : okW ρ2 vs = true
          · rw [if_pos c] at h
            refine iteF ⟨wipeR ρ2 vs, acc, ?_, h⟩
            rw [← hw']; exact R3.wipe c
          · rw [if_neg c] at h; cases h
        | true =>
          dsimp only at h
          refine iteT ⟨(Dd, .lst acc) :: an, ρ2, tv ++ ts, td ++ ds, R3, ?_⟩
          cases q3 : fe ρ2 with
          | stuck => rw [q3] at h; cases h
          | err c fs es ρ1 => rw [q3] at h; cases h
          | ok v ρ3 =>
            rw [q3] at h
            dsimp only at h
            intro y4 H4 R4
            by_cases c : (decide (acc.length < sizeLine) && okW ρ3 vs) = true
            · rw [if_pos c] at h
              obtain ⟨c1, c2⟩ := Bool.and_eq_true_iff.mp c
              obtain ⟨us, z1, z2, R5⟩ := R4.anPut
              refine ⟨us, z1, by rw [z2]; exact of_decide_eq_true c1, wipeR ρ3 vs, _, ?_, h⟩
              rw [← hw']; exact R5.wipe c2
            · rw [if_neg c] at h; cases h
  · have e : i = es.length := by omega
    subst e
    rw [List.drop_length] at h
    cases h
    exact .inl ⟨it.2 rfl, fin H R⟩
end
section
variable {X : Cx} {M : Mc} {W : WX} {elt tg iter : Expr} {ifs : List Expr} {scope : Scope} {own : List (Str × Nat)} {pos : Pos} {fi : En → Rs (List D)} {g : D → En → Rs Unit} {ft : En → Rs Bool} {fe : En → Rs D} {vs : List Nat}
theorem pts_imp {X : Cx} {e : List Expr} {t t' : TT} (h : PTs X e t) (i : ∀ σ H Q, t' σ H Q → t σ H Q) : PTs X e t' := ⟨fun pins s σ H Q I q => h.run pins s σ H Q I (i σ H Q q)⟩
theorem sts_nil : PTs X [] (tB1 M W fYes) := pts_imp pts_nil fun σ H Q ⟨an, ρ, ts, ds, R, h⟩ => h H R
theorem sts_one {c : Expr} (h : SB X M W c ft) : PTs X [c] (tB1 M W ft) := pts_one h
theorem lc_main {σ : St} {H : Hp} {Q : VK} (h : tLs M W (fLc vs fi g ft fe) σ H Q) : tLc (tI M W fi) (tG M vs g) (tB1 M W0 ft) (tE M W0 fe) vs σ H Q := by
  obtain ⟨an, ρ, ts, ds, R, h⟩ := h
  refine ⟨an, ρ, ts, ds, R, ?_⟩
  unfold fLc at h
  cases q : fi ρ with
  | stuck => rw [q] at h; exact h
  | err c fs es ρ1 => rw [q] at h; exact h
  | ok es ρ1 =>
    rw [q] at h
    intro J H1 tv td l R1 It1 Dd hD
    have h : LOk M an ts ds W σ (if okW ρ1 vs = true then lcEnd (lcD vs g ft fe es [] (wipeR ρ1 vs)) else .stuck) Q := h
    by_cases c : okW ρ1 vs = true
    · rw [if_pos c] at h
      cases q2 : lcD vs g ft fe es [] (wipeR ρ1 vs) with
      | stuck => rw [q2] at h; exact h.elim
      | err c fs es ρ1 => rw [q2] at h; exact h.elim
      | ok out ρe =>
        rw [q2] at h
        have R2 : RelX M ((Dd, .lst []) :: an) ρ1 σ (upd H1 Dd (.lst [])) (tv ++ ts) (td ++ ds) := R1.newAn hD fun G s r => ⟨⟨[], upd_same, Reps.nil⟩, r⟩
        refine lc_loop It1 (R2.wipe c) q2 fun H' R' => ?_
        exact h Dd H' ((R'.unwipe (lcD_gone q2 gone_wipe)).drops l)
    · rw [if_neg c] at h; exact h.elim
theorem sl_lc (hc : X.calm = true) (hN : X.N.Nodup) (hi : SI X M W tg iter fi) (ok : BlkOk X.N X.env.scope scope own) (hv : own.map (·.2) = vs)
    (hg : ∀ (s : Shared) (H : Hp) (C : Addr) (cl : List (Str × Addr)) (fp : List Addr), SG (X.blk s H scope (compEnvC scope cl C X.env) fp) M vs tg g)
    (ht : ∀ (s : Shared) (H : Hp) (C : Addr) (cl : List (Str × Addr)) (fp : List Addr), PTs (X.blk s H scope (compEnvC scope cl C X.env) fp) ifs (tB1 M W0 ft))
    (he : ∀ (s : Shared) (H : Hp) (C : Addr) (cl : List (Str × Addr)) (fp : List Addr), SE (X.blk s H scope (compEnvC scope cl C X.env) fp) M W0 elt fe)
    (hs : ∀ x, foldedSetIterable iter X.env x = pure x := by intro _; rfl) : SL X M W (.ListComp elt [⟨tg, iter, ifs, 0⟩] scope pos) (fLc vs fi g ft fe) :=
  pe_imp (pe_lc hc hN hi ok hg ht he hs) fun σ H Q h => by rw [hv]; exact lc_main h
/-- y = [..] on one line: y shared -/
theorem ss_setLc (i : Nat) {y : Str} {py spos : Pos} (hc : X.calm = true) (hN : X.N.Nodup) (hsw : swapsWith (.ListComp elt [⟨tg, iter, ifs, 0⟩] scope pos) (some (.Name y py)) spos.line X.env = pure true) (hi : SI X M W tg iter fi) (ok : BlkOk X.N X.env.scope scope own) (hv : own.map (·.2) = vs)
    (hg : ∀ (s : Shared) (H : Hp) (C : Addr) (cl : List (Str × Addr)) (fp : List Addr), SG (X.blk s H scope (compEnvC scope cl C X.env) fp) M vs tg g)
    (ht : ∀ (s : Shared) (H : Hp) (C : Addr) (cl : List (Str × Addr)) (fp : List Addr), PTs (X.blk s H scope (compEnvC scope cl C X.env) fp) ifs (tB1 M W0 ft))
    (he : ∀ (s : Shared) (H : Hp) (C : Addr) (cl : List (Str × Addr)) (fp : List Addr), SE (X.blk s H scope (compEnvC scope cl C X.env) fp) M W0 elt fe)
    (hy : X.N[i]? = some y := by rfl) (hyl : X.env.scope.names.lookup y = some .local := by rfl) (hs : ∀ x, foldedSetIterable iter X.env x = pure x := by intro _; rfl) :
    SS X M W (.Assign [.Name y py] (.ListComp elt [⟨tg, iter, ifs, 0⟩] scope pos) spos) (fSetL i (fLc vs fi g ft fe)) :=
  ps_imp (ps_setLc hc hN hy hyl hsw hi ok hg ht he hs) fun Dn σ H h => by
    have q := setL_core h
    rw [hv]
    exact lc_main q
end
end Dl
end
section
set_option maxHeartbeats 4000000
/-! DlI: what a def promises on trees; calls. -/
namespace Dl
open PySem PySem.Spec PyProof.Rows L2
/-! ### the promise -/
inductive Fr where
  | ok (d : D) (bs : List D)
  | err (c : Str) (fs : List Str) (ds : List D) (bs : List D)
  | stuck
section
variable (K : PySem.W.Frag) (cl : Str → Option Addr) (G H : Hp)
/-- how arguments lie; the lent ones by their addresses -/
def ArgsAt : List Bool → List D → List V → List Addr → Prop
  | [], [], [], W => W = []
  | false :: bs, d :: ds, v :: vs, W => Rep K cl G d v ∧ ArgsAt bs ds vs W
  | true :: bs, d :: ds, v :: vs, W => ∃ a W', v = .ref a ∧ W = a :: W' ∧ OwAt K cl G H a d ∧ G a = none ∧ ArgsAt bs ds vs W'
  | _, _, _, _ => False
/-- the lent ones behind -/
def BorAt : List Addr → List D → Prop
  | [], [] => True
  | a :: W, d :: ds => OwAt K cl G H a d ∧ G a = none ∧ BorAt W ds
  | _, _ => False
end
structure After (G H : Hp) (W : List Addr) (G' H' : Hp) : Prop where
  gg : Sub G G'
  gh : Sub G' H'
  fr : ∀ a : Addr, G' a ≠ none → G a = none → H a = none
  ext : ∀ (a : Addr) (o : HO), H a = some o → a ∉ W → H' a = some o
def FrOk (K : PySem.W.Frag) (cl : Str → Option Addr) (G H : Hp) (W : List Addr) (r : Fr) (Q : VK) (E : XK) : Prop := match r with
  | .ok d bs => ∀ v G' H', After G H W G' H' → Rep K cl G' d v → BorAt K cl G' H' W bs → Q v H'
  | .err c fs es bs => ∀ C dx G' H' vs, cl c = some C → vs.length = es.length → ErrD fs vs dx H' → After G H W G' H' → Reps K cl G' es vs → BorAt K cl G' H' W bs → E (.ref C) dx H'
  | .stuck => False
def spF (K : PySem.W.Frag) (cl : Str → Option Addr) (bor : List Bool) (F : List D → Fr) : Sp := fun vs H Q E => vs.length = bor.length ∧ ∃ (G : Hp) (ds : List D) (W : List Addr), Sub G H ∧ ArgsAt K cl G H bor ds vs W ∧ W.Nodup ∧ FrOk K cl G H W (F ds) Q E
/-- the slots at the entry -/
def enE : List Bool → List D → Nat → En
  | false :: bs, d :: ds, n + 1 => some (.sh d) :: enE bs ds n
  | true :: bs, d :: ds, n + 1 => some (.bo d) :: enE bs ds n
  | _, _, n => List.replicate n none
/-- the lent contents at the end -/
def bosD : List Bool → En → Option (List D)
  | [], _ => some []
  | false :: bs, _ :: ρ => bosD bs ρ
  | true :: bs, some (.bo d) :: ρ => (bosD bs ρ).map (d :: ·)
  | _, _ => none
def bodyF (bor : List Bool) (n : Nat) (f : En → Rs Fl) : List D → Fr := fun ds => if ds.length = bor.length then match f (enE bor ds n) with
    | .ok (.ret d) ρ => (match bosD bor ρ with | some bs => .ok d bs | none => .stuck)
    | .ok (.retL d) ρ => (match bosD bor ρ with | some bs => .ok d bs | none => .stuck)
    | .ok .nx ρ => (match bosD bor ρ with | some bs => .ok .non bs | none => .stuck)
    | .err c fs es ρ => (match bosD bor ρ with | some bs => .err c fs es bs | none => .stuck)
    | _ => .stuck
  else .stuck
section
variable {K : PySem.W.Frag} {cl : Str → Option Addr} {G H : Hp}
theorem ArgsAt.len : ∀ {bor : List Bool} {ds : List D} {vs : List V} {W : List Addr}, ArgsAt K cl G H bor ds vs W → ds.length = bor.length ∧ vs.length = bor.length
  | [], [], [], _, _ => ⟨rfl, rfl⟩
  | false :: bs, d :: ds, v :: vs, W, h => by have := ArgsAt.len h.2; simp [this.1, this.2]
  | true :: bs, d :: ds, v :: vs, W, ⟨a, W', _, _, _, _, h⟩ => by have := ArgsAt.len h; simp [this.1, this.2]
  | [], [], _ :: _, _, h => h.elim
  | [], _ :: _, _, _, h => h.elim
  | false :: _, [], _, _, h => h.elim
  | true :: _, [], _, _, h => h.elim
  | false :: _, _ :: _, [], _, h => h.elim
  | true :: _, _ :: _, [], _, h => h.elim
/-- the address of the k-th slot, if it is lent -/
def lentA : List Bool → List V → Nat → Addr
  | true :: _, .ref a :: _, 0 => a
  | _ :: bs, _ :: vs, k + 1 => lentA bs vs k
  | _, _, _ => 0
theorem args_slots : ∀ {bor : List Bool} {ds : List D} {vs : List V} {W : List Addr} {n : Nat}, ArgsAt K cl G H bor ds vs W → bor.length ≤ n →
    (enE bor ds n).length = n ∧ ∀ i, (∀ d, (enE bor ds n)[i]? = some (some (Sl.sh d)) → ∃ v, vs[i]? = some v ∧ Rep K cl G d v) ∧ (∀ d : D, (enE bor ds n)[i]? ≠ some (some (Sl.ow d))) ∧
      ∀ d, (enE bor ds n)[i]? = some (some (Sl.bo d)) → vs[i]? = some (.ref (lentA bor vs i)) ∧ OwAt K cl G H (lentA bor vs i) d ∧ G (lentA bor vs i) = none ∧ lentA bor vs i ∈ W
  | [], [], [], W, n, _, _ => by
    refine ⟨by simp [enE], fun i => ⟨fun d h => ?_, fun d h => ?_, fun d h => ?_⟩⟩
    all_goals
      simp only [enE] at h
      by_cases c : i < n
      · rw [List.getElem?_replicate] at h; rw [if_pos c] at h; cases h
      · rw [List.getElem?_replicate] at h; rw [if_neg c] at h; cases h
  | false :: bs, d :: ds, v :: vs, W, n, h, l => by
    obtain ⟨m, rfl⟩ : ∃ m, n = m + 1 := ⟨n - 1, by simp at l; omega⟩
    obtain ⟨q1, q2⟩ := args_slots (n := m) h.2 (by simpa using l)
    refine ⟨by simp [enE, q1], fun i => ?_⟩
    cases i with
    | zero =>
      refine ⟨fun d' e => ?_, fun d' e => ?_, fun d' e => ?_⟩
      · have : d = d' := by simpa [enE] using e
        subst this; exact ⟨v, rfl, h.1⟩
      · simp [enE] at e
      · simp [enE] at e
    | succ i =>
      have := q2 i
      simpa [enE, lentA] using this
  | true :: bs, d :: ds, v :: vs, W, n, ⟨a, W', e1, e2, h1, h2, h⟩, l => by
    subst e1; subst e2
    obtain ⟨m, rfl⟩ : ∃ m, n = m + 1 := ⟨n - 1, by simp at l; omega⟩
    obtain ⟨q1, q2⟩ := args_slots (n := m) h (by simpa using l)
    refine ⟨by simp [enE, q1], fun i => ?_⟩
    cases i with
    | zero =>
      refine ⟨fun d' e => ?_, fun d' e => ?_, fun d' e => ?_⟩
      · simp [enE] at e
      · simp [enE] at e
      · have : d = d' := by simpa [enE] using e
        subst this; exact ⟨rfl, h1, h2, List.mem_cons_self⟩
    | succ i =>
      obtain ⟨z1, z2, z3⟩ := q2 i
      refine ⟨by simpa [enE] using z1, by simpa [enE] using z2, fun d' e => ?_⟩
      obtain ⟨y1, y2, y3, y4⟩ := z3 d' (by simpa [enE] using e)
      exact ⟨by simpa [lentA] using y1, y2, y3, List.mem_cons_of_mem _ y4⟩
  | [], [], _ :: _, _, _, h, _ => h.elim
  | [], _ :: _, _, _, _, h, _ => h.elim
  | false :: _, [], _, _, _, h, _ => h.elim
  | true :: _, [], _, _, _, h, _ => h.elim
  | false :: _, _ :: _, [], _, _, h, _ => h.elim
  | true :: _, _ :: _, [], _, _, h, _ => h.elim
theorem lent_inj : ∀ {bor : List Bool} {ds : List D} {vs : List V} {W : List Addr} {n i j : Nat} {d e : D}, ArgsAt K cl G H bor ds vs W → bor.length ≤ n → W.Nodup → (enE bor ds n)[i]? = some (some (Sl.bo d)) → (enE bor ds n)[j]? = some (some (Sl.bo e)) → lentA bor vs i = lentA bor vs j → i = j
  | [], [], [], W, n, i, j, d, e, _, _, _, h, _, _ => by
    simp only [enE] at h
    by_cases c : i < n
    · rw [List.getElem?_replicate] at h; rw [if_pos c] at h; cases h
    · rw [List.getElem?_replicate] at h; rw [if_neg c] at h; cases h
  | false :: bs, d0 :: ds, v :: vs, W, n, i, j, d, e, h, l, nd, hi, hj, he => by
    obtain ⟨m, rfl⟩ : ∃ m, n = m + 1 := ⟨n - 1, by simp at l; omega⟩
    cases i with
    | zero => simp [enE] at hi
    | succ i =>
      cases j with
      | zero => simp [enE] at hj
      | succ j => exact congrArg (· + 1) (lent_inj (n := m) h.2 (by simpa using l) nd (by simpa [enE] using hi) (by simpa [enE] using hj) (by simpa [lentA] using he))
  | true :: bs, d0 :: ds, v :: vs, W, n, i, j, d, e, ⟨a, W', e1, e2, h1, h2, h⟩, l, nd, hi, hj, he => by
    subst e1; subst e2
    obtain ⟨m, rfl⟩ : ∃ m, n = m + 1 := ⟨n - 1, by simp at l; omega⟩
    have nd' := List.nodup_cons.mp nd
    cases i with
    | zero =>
      cases j with
      | zero => rfl
      | succ j =>
        exfalso
        have := ((args_slots (n := m) h (by simpa using l)).2 j).2.2 e (by simpa [enE] using hj)
        have he' : a = lentA bs vs j := by simpa [lentA] using he
        exact nd'.1 (by rw [he']; exact this.2.2.2)
    | succ i =>
      cases j with
      | zero =>
        exfalso
        have := ((args_slots (n := m) h (by simpa using l)).2 i).2.2 d (by simpa [enE] using hi)
        have he' : lentA bs vs i = a := by simpa [lentA] using he
        exact nd'.1 (by rw [← he']; exact this.2.2.2)
      | succ j => exact congrArg (· + 1) (lent_inj (n := m) h (by simpa using l) nd'.2 (by simpa [enE] using hi) (by simpa [enE] using hj) (by simpa [lentA] using he))
  | [], [], _ :: _, _, _, _, _, _, _, h, _, _, _, _, _ => h.elim
  | [], _ :: _, _, _, _, _, _, _, _, h, _, _, _, _, _ => h.elim
  | false :: _, [], _, _, _, _, _, _, _, h, _, _, _, _, _ => h.elim
  | true :: _, [], _, _, _, _, _, _, _, h, _, _, _, _, _ => h.elim
  | false :: _, _ :: _, [], _, _, _, _, _, _, h, _, _, _, _, _ => h.elim
  | true :: _, _ :: _, [], _, _, _, _, _, _, h, _, _, _, _, _ => h.elim
theorem args_W : ∀ {bor : List Bool} {ds : List D} {vs : List V} {W : List Addr}, ArgsAt K cl G H bor ds vs W → ∀ a ∈ W, ∃ o, H a = some o
  | [], [], [], W, h, a, ha => by cases (show W = [] from h); cases ha
  | false :: bs, d :: ds, v :: vs, W, h, a, ha => args_W h.2 a ha
  | true :: bs, d :: ds, v :: vs, W, ⟨b, W', e1, e2, h1, h2, h⟩, a, ha => by
    subst e2
    rcases List.mem_cons.mp ha with rfl | ha
    · exact h1.there
    · exact args_W h a ha
  | [], [], _ :: _, _, h, _, _ => h.elim
  | [], _ :: _, _, _, h, _, _ => h.elim
  | false :: _, [], _, _, h, _, _ => h.elim
  | true :: _, [], _, _, h, _, _ => h.elim
  | false :: _, _ :: _, [], _, h, _, _ => h.elim
  | true :: _, _ :: _, [], _, h, _, _ => h.elim
theorem start_get {N : List Str} {vs : List V} {i : Nat} {v : V} (h : vs[i]? = some v) : (L2.start N vs)[i]? = some (some v) := by
  unfold L2.start
  have hl := (List.getElem?_eq_some_iff.mp h).1
  rw [List.getElem?_append_left (by simpa using hl), List.getElem?_map, h]; rfl
theorem start_len {N : List Str} {vs : List V} (h : vs.length ≤ N.length) : (L2.start N vs).length = N.length := by
  unfold L2.start; simp; omega
/-- at the entry -/
theorem RelX.entry {bor : List Bool} {ds : List D} {vs : List V} {W : List Addr} {N : List Str} (s : Sub G H) (h : ArgsAt K cl G H bor ds vs W) (nd : W.Nodup) (l : bor.length ≤ N.length) : RelX ⟨K, cl, H, G, W, lentA bor vs⟩ [] (enE bor ds N.length) (L2.start N vs) H [] [] := by
  obtain ⟨q1, q2⟩ := args_slots (n := N.length) h l
  have hl := h.len
  have isb : ∀ i, IsOw (enE bor ds N.length) i → ∃ d, (enE bor ds N.length)[i]? = some (some (Sl.bo d)) := fun i ⟨d, hd⟩ => by
    rcases hd with hd | hd
    · exact absurd hd ((q2 i).2.1 d)
    · exact ⟨d, hd⟩
  refine ⟨G, lentA bor vs, { sub := s, g0 := Sub.rfl', fr := fun a h1 h2 => absurd h2 h1, ext := fun a o e _ => e, wok := args_W h, shp := fun i d hd => ?_, owp := fun i d hd => absurd hd ((q2 i).2.1 d), bop := fun i d hd => ?_, anp := fun _ z => (nomatch z), inj := fun i j hi hj e => ?_, apart := fun _ _ _ z => (nomatch z), anN := List.nodup_nil, len := ?_, tmp := Reps.nil }⟩
  · obtain ⟨v, e, r⟩ := (q2 i).1 d hd; exact ⟨v, start_get e, r⟩
  · obtain ⟨e, r1, r2, r3⟩ := (q2 i).2.2 d hd; exact ⟨start_get e, r1, r2, r3, rfl⟩
  · obtain ⟨d, hd⟩ := isb i hi
    obtain ⟨e', he⟩ := isb j hj
    exact lent_inj h l nd hd he e
  · rw [q1, start_len (by rw [hl.2]; exact l)]
end
section
variable {K : PySem.W.Frag} {cl : Str → Option Addr} {G H : Hp}
/-- what holds behind, by a relation to the entry -/
theorem RelG.after {W : List Addr} {B : Nat → Addr} {an : List (Addr × D)} {ρ : En} {σ : St} {H' : Hp} {ts : List V} {ds : List D} {G' : Hp} {own : Nat → Addr} (r : RelG ⟨K, cl, H, G, W, B⟩ an ρ σ H' ts ds G' own) : After G H W G' H' := ⟨r.g0, r.sub, r.fr, r.ext⟩
/-- the lent slots behind: they hold what they held at the same addresses -/
theorem bor_after {W0 : List Addr} {B : Nat → Addr} {an : List (Addr × D)} {σ : St} {H' : Hp} {ts : List V} {es : List D} {G' : Hp} {own : Nat → Addr} {ρ : En} (r : RelG ⟨K, cl, H, G, W0, B⟩ an ρ σ H' ts es G' own) :
    ∀ {bor : List Bool} {ds : List D} {vs : List V} {W : List Addr} {bs : List D} (k : Nat) (ρ2 : En), ArgsAt K cl G H bor ds vs W → ρ.drop k = ρ2 → (∀ i, B (k + i) = lentA bor vs i) → bosD bor ρ2 = some bs → BorAt K cl G' H' W bs
  | [], [], [], W, bs, k, ρ2, h, _, _, e => by cases (show W = [] from h); cases e; trivial
  | false :: bo, d :: ds, v :: vs, W, bs, k, ρ2, h, hd, hv, e => by
    cases ρ2 with
    | nil => cases e
    | cons x ρ3 =>
      refine bor_after r (k + 1) ρ3 h.2 ?_ (fun i => ?_) e
      · rw [← List.drop_drop]; rw [hd]; rfl
      · rw [show k + 1 + i = k + (i + 1) by omega, hv (i + 1)]; rfl
  | true :: bo, d :: ds, v :: vs, W, bs, k, ρ2, ⟨a, W', e1, e2, h1, h2, h⟩, hd, hv, e => by
    subst e1; subst e2
    cases ρ2 with
    | nil => cases e
    | cons x ρ3 =>
      cases x with
      | none => cases e
      | some s =>
        cases s with
        | sh d => cases e
        | ow d => cases e
        | bo d1 =>
          obtain ⟨bs', e3, rfl⟩ := Option.map_eq_some_iff.mp (show (bosD bo ρ3).map (d1 :: ·) = some bs from e)
          have hk : ρ[k]? = some (some (Sl.bo d1)) := by
            have := congrArg (fun l => l[0]?) hd
            simpa using this
          obtain ⟨c1, c2, c3, c4, c5⟩ := r.bop k d1 hk
          have c6 : own k = a := c5.trans (by show B k = a; have := hv 0; rw [Nat.add_zero] at this; exact this)
          rw [c6] at c2 c3
          refine ⟨c2, c3, bor_after r (k + 1) ρ3 h ?_ (fun i => ?_) e3⟩
          · rw [← List.drop_drop]; rw [hd]; rfl
          · rw [show k + 1 + i = k + (i + 1) by omega, hv (i + 1)]; rfl
  | [], [], _ :: _, _, _, _, _, h, _, _, _ => h.elim
  | [], _ :: _, _, _, _, _, _, h, _, _, _ => h.elim
  | false :: _, [], _, _, _, _, _, h, _, _, _ => h.elim
  | true :: _, [], _, _, _, _, _, h, _, _, _ => h.elim
  | false :: _, _ :: _, [], _, _, _, _, h, _, _, _ => h.elim
  | true :: _, _ :: _, [], _, _, _, _, h, _, _, _ => h.elim
end
end Dl
end
section
set_option maxHeartbeats 4000000
/-! DlJ: a def keeps its promise; calls. -/
namespace Dl
open PySem PySem.Spec PyProof.Rows L2
theorem spF.len {K : PySem.W.Frag} {cl : Str → Option Addr} {bor : List Bool} {F : List D → Fr} {ps : List Str} (h : bor.length = ps.length) : ∀ vs H Q E, spF K cl bor F vs H Q E → vs.length = ps.length := fun _ _ _ _ q => q.1.trans h
theorem fn_ok {P : Program} {w : World} {K : PySem.W.Frag} {mg : Str → Option Value} {base : Heap} {cl : Str → Option Addr} {x qual : Str} {st : Stmt} {f : Addr} {fd : FuncData} {N ps : List Str} {k : Nat} {bor : List Bool} {g : En → Rs Fl}
    (F : Fun K x qual st f fd) (S : FnScope N ps (defScope st)) (hb : bor.length = ps.length) (hl : ps.length ≤ N.length)
    (hbody : ∀ (cdv : Value) (A : Around) (outer : List Env) (s : Shared) (H : Hp) (E : XK) (H0 G0 : Hp) (W : List Addr) (B : Nat → Addr), Room k (A.deeper (envOfC qual (defScope st) s.heap.objs.size f cdv)) →
      SSs (cxOf (L2.CX P w) P w K mg base N qual (defScope st) f cdv A outer s H E) ⟨K, cl, H0, G0, W, B⟩ (fun cls d _ H => E cls d H) (defBody st) g) :
    FnOk P w K mg base (L2.CX P w) (k + 1) f fd ps (spF K cl bor (bodyF bor N.length g)) := by
  refine F.okX S (spF.len hb) fun cdv A outer s H vs Q E hr hsp => ?_
  obtain ⟨hv, G, ds, W, hs, ha, nd, fo⟩ := hsp
  have hdl := ha.len.1
  have ba : ∀ {an : List (Addr × D)} {ρ : En} {σ : St} {H' : Hp} {ts : List V} {es : List D} {G' : Hp} {own : Nat → Addr} (r : RelG ⟨K, cl, H, G, W, lentA bor vs⟩ an ρ σ H' ts es G' own) {bs : List D}, bosD bor ρ = some bs → BorAt K cl G' H' W bs :=
    fun r bs e => bor_after r 0 _ ha rfl (fun i => by rw [Nat.zero_add]) e
  refine ⟨_, hbody cdv A outer s H E H G W (lentA bor vs) hr, [], enE bor ds N.length, [], [], RelX.entry hs ha nd (hb ▸ hl), ?_⟩
  unfold bodyF at fo
  rw [if_pos hdl] at fo
  revert fo
  cases hg : g (enE bor ds N.length) with
  | stuck => exact fun fo => fo.elim
  | err c fs es ρ =>
    intro fo σ C dx H' us hc hu he R
    obtain ⟨G', own, r⟩ := R
    dsimp only at fo
    cases e : bosD bor ρ with
    | none => rw [e] at fo; exact fo.elim
    | some bs =>
      rw [e] at fo
      have tm := r.tmp
      rw [List.append_nil, List.append_nil] at tm
      exact fo C dx G' H' us hc hu he r.after tm (ba r e)
  | ok fl ρ =>
    cases fl with
    | brk => exact fun fo => fo.elim
    | cont => exact fun fo => fo.elim
    | nx =>
      intro fo σ H' R
      obtain ⟨G', own, r⟩ := R
      dsimp only at fo
      cases e : bosD bor ρ with
      | none => rw [e] at fo; exact fo.elim
      | some bs =>
        rw [e] at fo
        exact fo .non G' H' r.after rfl (ba r e)
    | ret d =>
      intro fo v σ H' R
      obtain ⟨G', own, r⟩ := R
      dsimp only at fo
      cases e : bosD bor ρ with
      | none => rw [e] at fo; exact fo.elim
      | some bs =>
        rw [e] at fo
        exact fo v G' H' r.after r.tmp.head (ba r e)
    | retL d =>
      intro fo v σ H' R
      obtain ⟨G', own, r⟩ := R.anShare
      dsimp only at fo
      cases e : bosD bor ρ with
      | none => rw [e] at fo; exact fo.elim
      | some bs =>
        rw [e] at fo
        exact fo (.ref v) G' H' r.after r.tmp.head (ba r e)
/-- .. whose answer is a fresh object -/
def FrOkL (K : PySem.W.Frag) (cl : Str → Option Addr) (G H : Hp) (W : List Addr) (r : Fr) (Q : VK) (E : XK) : Prop := match r with
  | .ok d bs => ∀ p G' H', After G H W G' H' → OwAt K cl G' H' p d → G' p = none → H p = none → BorAt K cl G' H' W bs → Q (.ref p) H'
  | .err c fs es bs => ∀ C dx G' H' vs, cl c = some C → vs.length = es.length → ErrD fs vs dx H' → After G H W G' H' → Reps K cl G' es vs → BorAt K cl G' H' W bs → E (.ref C) dx H'
  | .stuck => False
def spL (K : PySem.W.Frag) (cl : Str → Option Addr) (bor : List Bool) (F : List D → Fr) : Sp := fun vs H Q E => vs.length = bor.length ∧ ∃ (G : Hp) (ds : List D) (W : List Addr), Sub G H ∧ ArgsAt K cl G H bor ds vs W ∧ W.Nodup ∧ FrOkL K cl G H W (F ds) Q E
def bodyL (bor : List Bool) (n : Nat) (f : En → Rs Fl) : List D → Fr := fun ds => if ds.length = bor.length then match f (enE bor ds n) with
    | .ok (.retL d) ρ => (match bosD bor ρ with | some bs => .ok d bs | none => .stuck)
    | .err c fs es ρ => (match bosD bor ρ with | some bs => .err c fs es bs | none => .stuck)
    | _ => .stuck
  else .stuck
theorem spL.len {K : PySem.W.Frag} {cl : Str → Option Addr} {bor : List Bool} {F : List D → Fr} {ps : List Str} (h : bor.length = ps.length) : ∀ vs H Q E, spL K cl bor F vs H Q E → vs.length = ps.length := fun _ _ _ _ q => q.1.trans h
theorem fn_okL {P : Program} {w : World} {K : PySem.W.Frag} {mg : Str → Option Value} {base : Heap} {cl : Str → Option Addr} {x qual : Str} {st : Stmt} {f : Addr} {fd : FuncData} {N ps : List Str} {k : Nat} {bor : List Bool} {g : En → Rs Fl}
    (F : Fun K x qual st f fd) (S : FnScope N ps (defScope st)) (hb : bor.length = ps.length) (hl : ps.length ≤ N.length)
    (hbody : ∀ (cdv : Value) (A : Around) (outer : List Env) (s : Shared) (H : Hp) (E : XK) (H0 G0 : Hp) (W : List Addr) (B : Nat → Addr), Room k (A.deeper (envOfC qual (defScope st) s.heap.objs.size f cdv)) →
      SSs (cxOf (L2.CX P w) P w K mg base N qual (defScope st) f cdv A outer s H E) ⟨K, cl, H0, G0, W, B⟩ (fun cls d _ H => E cls d H) (defBody st) g) :
    FnOk P w K mg base (L2.CX P w) (k + 1) f fd ps (spL K cl bor (bodyL bor N.length g)) := by
  refine F.okX S (spL.len hb) fun cdv A outer s H vs Q E hr hsp => ?_
  obtain ⟨hv, G, ds, W, hs, ha, nd, fo⟩ := hsp
  have hdl := ha.len.1
  have ba : ∀ {an : List (Addr × D)} {ρ : En} {σ : St} {H' : Hp} {ts : List V} {es : List D} {G' : Hp} {own : Nat → Addr} (r : RelG ⟨K, cl, H, G, W, lentA bor vs⟩ an ρ σ H' ts es G' own) {bs : List D}, bosD bor ρ = some bs → BorAt K cl G' H' W bs :=
    fun r bs e => bor_after r 0 _ ha rfl (fun i => by rw [Nat.zero_add]) e
  refine ⟨_, hbody cdv A outer s H E H G W (lentA bor vs) hr, [], enE bor ds N.length, [], [], RelX.entry hs ha nd (hb ▸ hl), ?_⟩
  unfold bodyL at fo
  rw [if_pos hdl] at fo
  revert fo
  cases hg : g (enE bor ds N.length) with
  | stuck => exact fun fo => fo.elim
  | err c fs es ρ =>
    intro fo σ C dx H' us hc hu he R
    obtain ⟨G', own, r⟩ := R
    dsimp only at fo
    cases e : bosD bor ρ with
    | none => rw [e] at fo; exact fo.elim
    | some bs =>
      rw [e] at fo
      have tm := r.tmp
      rw [List.append_nil, List.append_nil] at tm
      exact fo C dx G' H' us hc hu he r.after tm (ba r e)
  | ok fl ρ =>
    cases fl with
    | brk => exact fun fo => fo.elim
    | cont => exact fun fo => fo.elim
    | nx => exact fun fo => fo.elim
    | ret d => exact fun fo => fo.elim
    | retL d =>
      intro fo v σ H' R
      obtain ⟨G', own, r⟩ := R
      dsimp only at fo
      cases e : bosD bor ρ with
      | none => rw [e] at fo; exact fo.elim
      | some bs =>
        rw [e] at fo
        obtain ⟨c1, c2, c3⟩ := r.anp _ List.mem_cons_self
        exact fo v G' H' r.after c1 c2 c3 (ba r e)
/-! ### behind a call -/
section
variable {M : Mc} {an an2 : List (Addr × D)} {ρ ρ2 : En} {σ : St} {H H' : Hp} {ts us : List V} {ds fs : List D} {G G' : Hp} {own : Nat → Addr} {W : List Addr}
theorem RelG.called (r : RelG M an ρ σ H us fs G own) (A : After G H W G' H') (hW : ∀ a ∈ W, M.H0 a = none ∨ a ∈ M.W) (hWo : ∀ a ∈ W, ∃ o, H' a = some o)
    (hs : ∀ (i : Nat) (s : Sl), ρ2[i]? = some (some s) → (ρ[i]? = some (some s) ∧ (IsOw ρ i → own i ∉ W)) ∨ (∃ d b : D, ((ρ[i]? = some (some (.ow d)) ∧ s = .ow b) ∨ (ρ[i]? = some (some (.bo d)) ∧ s = .bo b)) ∧ OwAt M.K M.cl G' H' (own i) b ∧ G' (own i) = none))
    (hl : ρ2.length = ρ.length) (ha : an2.map (·.1) = an.map (·.1)) (hp : ∀ p ∈ an2, (p ∈ an ∧ p.1 ∉ W) ∨ ((∃ d : D, (p.1, d) ∈ an) ∧ OwAt M.K M.cl G' H' p.1 p.2 ∧ G' p.1 = none))
    (ht : Reps M.K M.cl G' ds ts) : RelG M an2 ρ2 σ H' ts ds G' own := by
  have gno : ∀ a : Addr, G a = none → (∃ o, H a = some o) → G' a = none := fun a g ⟨o, ho⟩ => by
    by_cases c : G' a = none
    · exact c
    · have := A.fr a c g; rw [ho] at this; cases this
  have isw : ∀ i, IsOw ρ2 i → IsOw ρ i := fun i ⟨d, hd⟩ => by
    rcases hd with hd | hd
    · rcases hs i _ hd with ⟨e, _⟩ | ⟨d', b, (⟨e, _⟩ | ⟨e, _⟩), _⟩
      · exact ⟨_, .inl e⟩
      · exact ⟨_, .inl e⟩
      · exact ⟨_, .inr e⟩
    · rcases hs i _ hd with ⟨e, _⟩ | ⟨d', b, (⟨e, _⟩ | ⟨e, _⟩), _⟩
      · exact ⟨_, .inr e⟩
      · exact ⟨_, .inl e⟩
      · exact ⟨_, .inr e⟩
  have old : ∀ a : Addr, M.H0 a ≠ none → a ∉ M.W → a ∉ W := fun a h1 h2 h3 => by
    rcases hW a h3 with h | h
    · exact h1 h
    · exact h2 h
  have inan : ∀ p ∈ an2, ∃ d : D, (p.1, d) ∈ an := fun p q => by
    rcases hp p q with ⟨h, _⟩ | ⟨h, _⟩
    · exact ⟨p.2, h⟩
    · exact h
  refine { sub := A.gh, g0 := fun a o e => A.gg a o (r.g0 a o e), fr := fun a h1 h2 => ?_, ext := fun a o e w => ?_, wok := fun a h => ?_, shp := fun i d hd => ?_, owp := fun i d hd => ?_, bop := fun i d hd => ?_, anp := fun p hpp => ?_, inj := fun i j hi hj => r.inj i j (isw i hi) (isw j hj), apart := fun i hi p hpp => ?_, anN := ha ▸ r.anN, len := hl.trans r.len, tmp := ht }
  · by_cases c : G a = none
    · exact r.h0 (A.fr a h1 c)
    · exact r.fr a c h2
  · exact A.ext a o (r.ext a o e w) (old a (by rw [e]; exact fun z => nomatch z) w)
  · by_cases c : a ∈ W
    · exact hWo a c
    · obtain ⟨o, ho⟩ := r.wok a h; exact ⟨o, A.ext a o ho c⟩
  · rcases hs i _ hd with ⟨e, _⟩ | ⟨d', b, (⟨_, e⟩ | ⟨_, e⟩), _⟩
    · obtain ⟨v, e1, e2⟩ := r.shp i d e; exact ⟨v, e1, e2.mono A.gg⟩
    · cases e
    · cases e
  · rcases hs i _ hd with ⟨e, n⟩ | ⟨d', b, (⟨e, e2⟩ | ⟨_, e2⟩), q1, q2⟩
    · obtain ⟨e1, e2, e3, e4⟩ := r.owp i d e
      have nw := n ⟨_, .inl e⟩
      exact ⟨e1, e2.mono A.gg fun o h => A.ext _ o h nw, gno _ e3 e2.there, e4⟩
    · cases e2
      obtain ⟨e1, e2, e3, e4⟩ := r.owp i d' e
      exact ⟨e1, q1, q2, e4⟩
    · cases e2
  · rcases hs i _ hd with ⟨e, n⟩ | ⟨d', b, (⟨e, e2⟩ | ⟨e, e2⟩), q1, q2⟩
    · obtain ⟨e1, e2, e3, e4⟩ := r.bop i d e
      have nw := n ⟨_, .inr e⟩
      exact ⟨e1, e2.mono A.gg fun o h => A.ext _ o h nw, gno _ e3 e2.there, e4⟩
    · cases e2
    · cases e2
      obtain ⟨e1, e2, e3, e4⟩ := r.bop i d' e
      exact ⟨e1, q1, q2, e4⟩
  · rcases hp p hpp with ⟨h, n⟩ | ⟨⟨d, h⟩, q1, q2⟩
    · obtain ⟨e1, e2, e3⟩ := r.anp p h
      exact ⟨e1.mono A.gg fun o h => A.ext _ o h n, gno _ e2 e1.there, e3⟩
    · exact ⟨q1, q2, (r.anp _ h).2.2⟩
  · obtain ⟨d, h⟩ := inan p hpp
    exact r.apart i (isw i hi) (p.1, d) h
end
/-! ### arguments, the lent ones among them -/
def Mix : List (Option Nat) → List V → List V → St → Prop
  | [], vs, ws, _ => vs = [] ∧ ws = []
  | none :: as, vs, ws, σ => ∃ v vs' ws', vs = v :: vs' ∧ ws = v :: ws' ∧ Mix as vs' ws' σ
  | some i :: as, vs, ws, σ => ∃ v vs', vs = v :: vs' ∧ σ[i]? = some (some v) ∧ Mix as vs' ws σ
def BAOk (M : Mc) (an : List (Addr × D)) (ts : List V) (ds : List D) (W : WX) (σ : St) (as : List (Option Nat)) (r : Rs (List D)) (Q : List V → Hp → Prop) : Prop := match r with
  | .ok es ρ => ∀ vs ws H', Mix as vs ws σ → ws.length = es.length → RelX M an ρ σ H' (ws ++ ts) (es ++ ds) → Q vs H'
  | .err c fs es ρ => EErr M an ts ds W σ c fs es ρ
  | .stuck => False
def tAB (M : Mc) (W : WX) (as : List (Option Nat)) (g : En → Rs (List D)) : TA := fun σ H Q => ∃ an ρ ts ds, RelX M an ρ σ H ts ds ∧ BAOk M an ts ds W σ as (g ρ) Q
abbrev SAB (X : Cx) (M : Mc) (W : WX) (es : List Expr) (as : List (Option Nat)) (g : En → Rs (List D)) : Prop := PA X es (tAB M W as g)
def fLent (i : Nat) (g : En → Rs (List D)) : En → Rs (List D) := fun ρ => match owned ρ i with
  | some _ => g ρ
  | none => .stuck
def mixD : List (Option Nat) → List D → En → Option (List D)
  | [], [], _ => some []
  | none :: as, d :: ds, ρ => (mixD as ds ρ).map (d :: ·)
  | some i :: as, ds, ρ => match owned ρ i with
    | some d => (mixD as ds ρ).map (d :: ·)
    | none => none
  | _, _, _ => none
def putB : List (Option Nat) → List D → En → Option En
  | [], [], ρ => some ρ
  | none :: as, bs, ρ => putB as bs ρ
  | some i :: as, b :: bs, ρ => putB as bs (putSl ρ i b)
  | _, _, _ => none
def slotsB : List (Option Nat) → List Nat
  | [] => []
  | none :: as => slotsB as
  | some i :: as => i :: slotsB as
def fFn (as : List (Option Nat)) (F : List D → Fr) (g : En → Rs (List D)) : En → Rs D := fun ρ => (g ρ).bind fun es ρ1 => match mixD as es ρ1 with
  | none => .stuck
  | some ds => match F ds with
    | .ok d bs => (match putB as bs ρ1 with
      | some ρ2 => .ok d ρ2
      | none => .stuck)
    | .err c fs es' bs => (match putB as bs ρ1 with
      | some ρ2 => .err c fs es' ρ2
      | none => .stuck)
    | .stuck => .stuck
section
variable {X : Cx} {M : Mc} {W : WX} {e : Expr} {es : List Expr} {as : List (Option Nat)} {f : En → Rs D} {g : En → Rs (List D)}
theorem sab_nil : SAB X M W [] [] fNil := by
  refine pa_imp pa_nil fun σ H Q h => ?_
  obtain ⟨an, ρ, ts, ds, R, h⟩ := h
  exact h [] [] H ⟨rfl, rfl⟩ rfl R
theorem sab_v (he : SE X M W e f) (hr : SAB X M W es as g) (hs : starEach (e :: es) X.env = (false, eval e X.env) :: starEach es X.env := by rfl) : SAB X M W (e :: es) (none :: as) (fCons f g) := by
  refine pa_imp (pa_cons he hr hs) fun σ H Q h => ?_
  obtain ⟨an, ρ, ts, ds, R, h⟩ := h
  refine ⟨an, ρ, ts, ds, R, EOk.bind (P := fun r => BAOk M an ts ds W σ (none :: as) r Q) h (fun _ _ _ _ q => q) (fun q => q) fun d ρ1 v H1 R1 h1 => ?_⟩
  refine ⟨an, ρ1, v :: ts, d :: ds, R1, ?_⟩
  revert h1
  unfold BAOk
  cases g ρ1 with
  | stuck => exact fun h => h
  | err c fs es2 ρ2 => exact fun h => h.weak1
  | ok es2 ρ2 =>
    intro h us ws H2 m l R2
    refine h (v :: us) (v :: ws) H2 ⟨v, us, ws, rfl, rfl, m⟩ (by simp [l]) ?_
    refine R2.temps fun G _ q => ?_
    obtain ⟨q1, q2⟩ := Reps.split l.symm q
    exact Reps.cons q2.head (q1.append q2.tail)
theorem sab_b (i : Nat) {x : Str} {pos : Pos} (hr : SAB X M W es as g) (hs : starEach (.Name x pos :: es) X.env = (false, eval (.Name x pos) X.env) :: starEach es X.env := by rfl) (hN : X.N[i]? = some x := by rfl) (hv : Vis X.env.scope x := by first | exact Or.inl rfl | exact Or.inr (Or.inl rfl) | exact Or.inr (Or.inr rfl)) (hd : (x == ("__debug__" : Str)) = false := by decide)
    (hcd : (x == ("__classdict__" : Str)) = false := by decide) : SAB X M W (.Name x pos :: es) (some i :: as) (fLent i g) := by
  refine pa_imp (pa_cons (pe_var hN hv hd hcd) hr hs) fun σ H Q h => ?_
  obtain ⟨an, ρ, ts, ds, R, h⟩ := h
  unfold fLent at h
  cases ho : owned ρ i with
  | none => rw [ho] at h; exact h.elim
  | some d =>
    rw [ho] at h
    dsimp only at h
    obtain ⟨v, hv, _⟩ := R.cont_at (cont_of_owned ho)
    refine ⟨v, hv, an, ρ, ts, ds, R, ?_⟩
    revert h
    unfold BAOk
    cases g ρ with
    | stuck => exact fun h => h
    | err c fs es2 ρ2 => exact fun h => h
    | ok es2 ρ2 =>
      intro h us ws H2 m l R2
      exact h (v :: us) ws H2 ⟨v, us, rfl, hv, m⟩ l R2
end
end Dl
end
section
set_option maxHeartbeats 4000000
/-! DlK: the call of a def. -/
namespace Dl
open PySem PySem.Spec PyProof.Rows L2
theorem nodup_mapI {α β : Type} {f : α → β} : ∀ {l : List α}, l.Nodup → (∀ i ∈ l, ∀ j ∈ l, f i = f j → i = j) → (l.map f).Nodup
  | [], _, _ => List.nodup_nil
  | a :: l, h, i => by
    have h' := List.nodup_cons.mp h
    refine List.nodup_cons.mpr ⟨fun z => ?_, nodup_mapI h'.2 fun x hx y hy => i x (List.mem_cons_of_mem _ hx) y (List.mem_cons_of_mem _ hy)⟩
    obtain ⟨b, hb, e⟩ := List.mem_map.mp z
    exact h'.1 (i b (List.mem_cons_of_mem _ hb) a List.mem_cons_self e ▸ hb)
def borL (as : List (Option Nat)) : List Bool := as.map fun x => x.isSome
section
variable {M : Mc} {an : List (Addr × D)} {ρ ρ2 : En} {σ : St} {H H' : Hp} {ts us : List V} {ds fs : List D} {G G' : Hp} {own : Nat → Addr} {W : List Addr}
theorem RelG.mix (r : RelG M an ρ σ H us fs G own) : ∀ {as : List (Option Nat)} {vs ws : List V} {es ds : List D}, Mix as vs ws σ → ws.length = es.length → Reps M.K M.cl G es ws → mixD as es ρ = some ds →
    ArgsAt M.K M.cl G H (borL as) ds vs ((slotsB as).map own) ∧ (∀ i ∈ slotsB as, IsOw ρ i) ∧ vs.length = (borL as).length
  | [], vs, ws, es, ds, m, l, q, e => by
    obtain ⟨rfl, rfl⟩ := m
    cases es with
    | cons => cases l
    | nil => cases e; exact ⟨rfl, fun i z => (nomatch z), rfl⟩
  | none :: as, vs, ws, es, ds, m, l, q, e => by
    obtain ⟨v, vs', ws', rfl, rfl, m⟩ := m
    cases es with
    | nil => cases l
    | cons d0 es =>
      obtain ⟨ds', e', rfl⟩ := Option.map_eq_some_iff.mp (show (mixD as es ρ).map (d0 :: ·) = some ds from e)
      obtain ⟨q1, q2, q3⟩ := RelG.mix r m (by simpa using l) q.tail e'
      exact ⟨⟨q.head, q1⟩, q2, by simp [borL] at q3 ⊢; exact q3⟩
  | some i :: as, vs, ws, es, ds, m, l, q, e => by
    obtain ⟨v, vs', rfl, hv, m⟩ := m
    unfold mixD at e
    cases ho : Dl.owned ρ i with
    | none => rw [ho] at e; cases e
    | some d0 =>
      rw [ho] at e
      obtain ⟨ds', e', rfl⟩ := Option.map_eq_some_iff.mp e
      obtain ⟨q1, q2, q3⟩ := RelG.mix r m l q e'
      have z : σ[i]? = some (some (.ref (own i))) ∧ OwAt M.K M.cl G H (own i) d0 ∧ G (own i) = none := by
        rcases owned_is ho with c | c
        · obtain ⟨a1, a2, a3, _⟩ := r.owp i d0 c; exact ⟨a1, a2, a3⟩
        · obtain ⟨a1, a2, a3, _⟩ := r.bop i d0 c; exact ⟨a1, a2, a3⟩
      have hve : v = .ref (own i) := by
        have := hv.symm.trans z.1
        injection this with this; injection this
      refine ⟨⟨own i, _, hve, rfl, z.2.1, z.2.2, q1⟩, fun j hj => ?_, by simp [borL] at q3 ⊢; exact q3⟩
      rcases List.mem_cons.mp hj with rfl | hj
      · exact ⟨d0, owned_is ho⟩
      · exact q2 j hj
theorem putSl_len {i : Nat} {b : D} : (putSl ρ i b).length = ρ.length := by unfold putSl; split <;> simp
theorem isOw_put {i j : Nat} {b : D} (h : IsOw ρ j) : IsOw (putSl ρ i b) j := by
  by_cases hij : i = j
  · subst hij
    obtain ⟨d, hd⟩ := h
    rcases hd with hd | hd
    · have hl := (List.getElem?_eq_some_iff.mp hd).1
      exact ⟨b, .inl (by unfold putSl; rw [hd]; simp [hl])⟩
    · have hl := (List.getElem?_eq_some_iff.mp hd).1
      exact ⟨b, .inr (by unfold putSl; rw [hd]; simp [hl])⟩
  · obtain ⟨d, hd⟩ := h
    exact ⟨d, by rw [putSl_get hij]; exact hd⟩
theorem put_get {K : PySem.W.Frag} {cl : Str → Option Addr} : ∀ {as : List (Option Nat)} {bs : List D} {ρ ρ2 : En}, BorAt K cl G' H' ((slotsB as).map own) bs → putB as bs ρ = some ρ2 → (slotsB as).Nodup → (∀ i ∈ slotsB as, IsOw ρ i) →
    (∀ (i : Nat) (s : Sl), ρ2[i]? = some (some s) → (ρ[i]? = some (some s) ∧ i ∉ slotsB as) ∨ (i ∈ slotsB as ∧ ∃ d b : D, ((ρ[i]? = some (some (.ow d)) ∧ s = .ow b) ∨ (ρ[i]? = some (some (.bo d)) ∧ s = .bo b)) ∧ OwAt K cl G' H' (own i) b ∧ G' (own i) = none)) ∧ ρ2.length = ρ.length
  | [], [], ρ, ρ2, hb, e, nd, ho => by cases e; exact ⟨fun i s h => .inl ⟨h, fun z => nomatch z⟩, rfl⟩
  | none :: as, bs, ρ, ρ2, hb, e, nd, ho => put_get (as := as) hb e nd ho
  | some i :: as, b :: bs, ρ, ρ2, hb, e, nd, ho => by
    have nd' := List.nodup_cons.mp nd
    obtain ⟨q1, q2⟩ := put_get (as := as) (ρ := putSl ρ i b) hb.2.2 e nd'.2 (fun j hj => isOw_put (ho j (List.mem_cons_of_mem _ hj)))
    refine ⟨fun j s h => ?_, q2.trans putSl_len⟩
    by_cases hij : i = j
    · subst hij
      rcases q1 i s h with ⟨h1, h2⟩ | ⟨hin, d, b', h1, h2, h3⟩
      · obtain ⟨d, hd⟩ := ho i List.mem_cons_self
        refine .inr ⟨List.mem_cons_self, ?_⟩
        rcases hd with hd | hd
        · have hl := (List.getElem?_eq_some_iff.mp hd).1
          have : (putSl ρ i b)[i]? = some (some (.ow b)) := by unfold putSl; rw [hd]; simp [hl]
          rw [this] at h1; injection h1 with h1; injection h1 with h1
          exact ⟨d, b, .inl ⟨hd, h1.symm⟩, hb.1, hb.2.1⟩
        · have hl := (List.getElem?_eq_some_iff.mp hd).1
          have : (putSl ρ i b)[i]? = some (some (.bo b)) := by unfold putSl; rw [hd]; simp [hl]
          rw [this] at h1; injection h1 with h1; injection h1 with h1
          exact ⟨d, b, .inr ⟨hd, h1.symm⟩, hb.1, hb.2.1⟩
      · exact absurd hin nd'.1
    · rcases q1 j s h with ⟨h1, h2⟩ | ⟨hin, d, b', h1, h2⟩
      · rw [putSl_get hij] at h1
        exact .inl ⟨h1, fun z => by rcases List.mem_cons.mp z with rfl | z; exact hij rfl; exact h2 z⟩
      · rw [putSl_get hij] at h1
        exact .inr ⟨List.mem_cons_of_mem _ hin, d, b', h1, h2⟩
  | [], _ :: _, ρ, ρ2, hb, e, nd, ho => by cases e
  | some i :: as, [], ρ, ρ2, hb, e, nd, ho => by cases e
/-- from a promise to what a call does -/
theorem call_end {E : XK} {Q : VK} {Wx : WX} {as : List (Option Nat)} {F : List D → Fr} {ρ1 : En} {ts : List V} {ds0 es : List D} {vs ws : List V} (hnd : (slotsB as).Nodup) (hE : ∀ c d H, Wx c d σ H → E c d H)
    (m : Mix as vs ws σ) (l : ws.length = es.length) (R : RelX M an ρ1 σ H (ws ++ ts) (es ++ ds0))
    (h : EOk M an ts ds0 Wx σ ((fFn as F (fun ρ => .ok es ρ)) ρ1) Q) : spF M.K M.cl (borL as) F vs H Q E := by
  obtain ⟨G, own, r⟩ := R
  obtain ⟨t1, t2⟩ := Reps.split l.symm r.tmp
  unfold fFn Rs.bind at h
  dsimp only at h
  cases hm : mixD as es ρ1 with
  | none => rw [hm] at h; exact h.elim
  | some ds =>
    rw [hm] at h
    dsimp only at h
    obtain ⟨q1, q2, q3⟩ := r.mix m l t1 hm
    have ndW : ((slotsB as).map own).Nodup := nodup_mapI hnd (fun i hi j hj e => r.inj i j (q2 i hi) (q2 j hj) e)
    have hW : ∀ a ∈ (slotsB as).map own, M.H0 a = none ∨ a ∈ M.W := fun a ha => by
      obtain ⟨i, hi, rfl⟩ := List.mem_map.mp ha
      obtain ⟨d, hd⟩ := q2 i hi
      rcases hd with hd | hd
      · exact .inl (r.owp i d hd).2.2.2
      · exact .inr (r.bop i d hd).2.2.2.1
    have wo : ∀ {G' H' : Hp} {W : List Addr} {bs : List D}, BorAt M.K M.cl G' H' W bs → ∀ a ∈ W, ∃ o, H' a = some o := by
      intro G' H' W
      induction W with
      | nil => exact fun _ a z => nomatch z
      | cons b W ih =>
        intro bs h a ha
        cases bs with
        | nil => exact h.elim
        | cons d bs =>
          rcases List.mem_cons.mp ha with rfl | ha
          · exact h.1.there
          · exact ih h.2.2 a ha
    have fin : ∀ {G' H' : Hp} {bs : List D} {ρ2 : En} {ts' : List V} {ds' : List D}, After G H ((slotsB as).map own) G' H' → BorAt M.K M.cl G' H' ((slotsB as).map own) bs → putB as bs ρ1 = some ρ2 → Reps M.K M.cl G' ds' ts' → RelX M an ρ2 σ H' ts' ds' :=
      fun {G' H' bs ρ2 ts' ds'} A hb hp ht => by
        obtain ⟨p1, p2⟩ := put_get hb hp hnd q2
        refine ⟨G', own, r.called A hW (wo hb) (fun i s hs => ?_) p2 rfl (fun p hp => .inl ⟨hp, fun z => ?_⟩) ht⟩
        · rcases p1 i s hs with ⟨h1, h2⟩ | ⟨_, h1⟩
          · refine .inl ⟨h1, fun ow z => ?_⟩
            obtain ⟨j, hj, e⟩ := List.mem_map.mp z
            exact h2 (r.inj j i (q2 j hj) ow e ▸ hj)
          · exact .inr h1
        · obtain ⟨j, hj, e⟩ := List.mem_map.mp z
          exact r.apart j (q2 j hj) p hp e
    refine ⟨q3, G, ds, _, r.sub, q1, ndW, ?_⟩
    revert h
    unfold FrOk
    cases F ds with
    | stuck => exact fun h => h
    | ok d bs =>
      intro h v G' H' A rv hb
      dsimp only at h
      cases hp : putB as bs ρ1 with
      | none => rw [hp] at h; exact h.elim
      | some ρ2 =>
        rw [hp] at h
        exact h v H' (fin A hb hp (Reps.cons rv (t2.mono A.gg)))
    | err c fs es' bs =>
      intro h C dx G' H' us hc lu he A rv hb
      dsimp only at h
      cases hp : putB as bs ρ1 with
      | none => rw [hp] at h; exact h.elim
      | some ρ2 =>
        rw [hp] at h
        exact hE _ _ _ (h C dx H' us hc lu he (fin A hb hp (rv.append (t2.mono A.gg))))
theorem isOw_back {ρ ρ2 : En} {i : Nat} (h : ∀ (i : Nat) (s : Sl), ρ2[i]? = some (some s) → ρ[i]? = some (some s) ∨ ∃ d b : D, (ρ[i]? = some (some (.ow d)) ∧ s = .ow b) ∨ (ρ[i]? = some (some (.bo d)) ∧ s = .bo b)) (w : IsOw ρ2 i) : IsOw ρ i := by
  obtain ⟨d, hd⟩ := w
  rcases hd with hd | hd
  · rcases h i _ hd with e | ⟨d', b, (⟨e, _⟩ | ⟨e, _⟩)⟩
    · exact ⟨_, .inl e⟩
    · exact ⟨_, .inl e⟩
    · exact ⟨_, .inr e⟩
  · rcases h i _ hd with e | ⟨d', b, (⟨e, _⟩ | ⟨e, _⟩)⟩
    · exact ⟨_, .inr e⟩
    · exact ⟨_, .inl e⟩
    · exact ⟨_, .inr e⟩
theorem RelG.addAn {p : Addr} {d : D} (r : RelG M an ρ σ H ts ds G own) (h1 : OwAt M.K M.cl G H p d) (h2 : G p = none) (h3 : M.H0 p = none) (h4 : ∀ i, IsOw ρ i → own i ≠ p) (h5 : ∀ x ∈ an, x.1 ≠ p) : RelG M ((p, d) :: an) ρ σ H ts ds G own :=
  { r with
    anp := fun x hx => by
      rcases List.mem_cons.mp hx with rfl | hx
      · exact ⟨h1, h2, h3⟩
      · exact r.anp x hx
    apart := fun i hi x hx => by
      rcases List.mem_cons.mp hx with rfl | hx
      · exact h4 i hi
      · exact r.apart i hi x hx
    anN := by
      simp only [List.map_cons, List.nodup_cons]
      refine ⟨fun z => ?_, r.anN⟩
      obtain ⟨x, hx, e⟩ := List.mem_map.mp z
      exact h5 x hx e }
/-- from a promise to what a call does -/
theorem call_endL {E : XK} {Q : VK} {Wx : WX} {as : List (Option Nat)} {F : List D → Fr} {ρ1 : En} {ts : List V} {ds0 es : List D} {vs ws : List V} (hnd : (slotsB as).Nodup) (hE : ∀ c d H, Wx c d σ H → E c d H)
    (m : Mix as vs ws σ) (l : ws.length = es.length) (R : RelX M an ρ1 σ H (ws ++ ts) (es ++ ds0))
    (h : LOk M an ts ds0 Wx σ ((fFn as F (fun ρ => .ok es ρ)) ρ1) Q) : spL M.K M.cl (borL as) F vs H Q E := by
  obtain ⟨G, own, r⟩ := R
  obtain ⟨t1, t2⟩ := Reps.split l.symm r.tmp
  unfold fFn Rs.bind at h
  dsimp only at h
  cases hm : mixD as es ρ1 with
  | none => rw [hm] at h; exact h.elim
  | some ds =>
    rw [hm] at h
    dsimp only at h
    obtain ⟨q1, q2, q3⟩ := r.mix m l t1 hm
    have ndW : ((slotsB as).map own).Nodup := nodup_mapI hnd (fun i hi j hj e => r.inj i j (q2 i hi) (q2 j hj) e)
    have hW : ∀ a ∈ (slotsB as).map own, M.H0 a = none ∨ a ∈ M.W := fun a ha => by
      obtain ⟨i, hi, rfl⟩ := List.mem_map.mp ha
      obtain ⟨d, hd⟩ := q2 i hi
      rcases hd with hd | hd
      · exact .inl (r.owp i d hd).2.2.2
      · exact .inr (r.bop i d hd).2.2.2.1
    have wo : ∀ {G' H' : Hp} {W : List Addr} {bs : List D}, BorAt M.K M.cl G' H' W bs → ∀ a ∈ W, ∃ o, H' a = some o := by
      intro G' H' W
      induction W with
      | nil => exact fun _ a z => nomatch z
      | cons b W ih =>
        intro bs h a ha
        cases bs with
        | nil => exact h.elim
        | cons d bs =>
          rcases List.mem_cons.mp ha with rfl | ha
          · exact h.1.there
          · exact ih h.2.2 a ha
    have fin' : ∀ {G' H' : Hp} {bs : List D} {ρ2 : En} {ts' : List V} {ds' : List D}, After G H ((slotsB as).map own) G' H' → BorAt M.K M.cl G' H' ((slotsB as).map own) bs → putB as bs ρ1 = some ρ2 → Reps M.K M.cl G' ds' ts' → RelG M an ρ2 σ H' ts' ds' G' own :=
      fun {G' H' bs ρ2 ts' ds'} A hb hp ht => by
        obtain ⟨p1, p2⟩ := put_get hb hp hnd q2
        refine r.called A hW (wo hb) (fun i s hs => ?_) p2 rfl (fun p hp => .inl ⟨hp, fun z => ?_⟩) ht
        · rcases p1 i s hs with ⟨h1, h2⟩ | ⟨_, h1⟩
          · refine .inl ⟨h1, fun ow z => ?_⟩
            obtain ⟨j, hj, e⟩ := List.mem_map.mp z
            exact h2 (r.inj j i (q2 j hj) ow e ▸ hj)
          · exact .inr h1
        · obtain ⟨j, hj, e⟩ := List.mem_map.mp z
          exact r.apart j (q2 j hj) p hp e
    refine ⟨q3, G, ds, _, r.sub, q1, ndW, ?_⟩
    revert h
    unfold FrOkL
    cases F ds with
    | stuck => exact fun h => h
    | ok d bs =>
      intro h p0 G' H' A c1 c2 c3 hb
      dsimp only at h
      cases hp : putB as bs ρ1 with
      | none => rw [hp] at h; exact h.elim
      | some ρ2 =>
        rw [hp] at h
        refine h p0 H' ?_
        obtain ⟨p1, p2⟩ := put_get hb hp hnd q2
        have r' := fin' A hb hp (t2.mono A.gg)
        refine ⟨G', own, r'.addAn c1 c2 (r.h0 c3) (fun i hi e => ?_) (fun x hx e => ?_)⟩
        · obtain ⟨o, ho⟩ := r.owned (isOw_back (fun i s hs => (p1 i s hs).imp (fun z => z.1) (fun z => by obtain ⟨_, d, b, z, _⟩ := z; exact ⟨d, b, z⟩)) hi)
          rw [e, c3] at ho; cases ho
        · obtain ⟨o, ho⟩ := (r.anp x hx).1.there
          rw [e, c3] at ho; cases ho
    | err c fs es' bs =>
      intro h C dx G' H' us hc lu he A rv hb
      dsimp only at h
      cases hp : putB as bs ρ1 with
      | none => rw [hp] at h; exact h.elim
      | some ρ2 =>
        rw [hp] at h
        exact hE _ _ _ (h C dx H' us hc lu he ⟨G', own, fin' A hb hp (rv.append (t2.mono A.gg))⟩)
end
section
variable {X : Cx} {M : Mc} {W : WX} {as : List (Option Nat)} {F : List D → Fr} {g : En → Rs (List D)} {k : Nat} {f : Addr} {fd : FuncData} {ps : List Str} {x : Str} {p pos : Pos} {e : Expr} {es : List Expr}
theorem fn_core {σ : St} {H : Hp} {Q : VK} (hnd : (slotsB as).Nodup) (h : tE M W (fFn as F g) σ H Q) : tAB M W as g σ H fun vs H1 => spF M.K M.cl (borL as) F vs H1 Q (WE W σ) := by
  obtain ⟨an, ρ, ts, ds, R, h⟩ := h
  refine ⟨an, ρ, ts, ds, R, ?_⟩
  unfold BAOk
  have h2 : ∀ es ρ1, g ρ = .ok es ρ1 → EOk M an ts ds W σ (fFn as F (fun ρ => .ok es ρ) ρ1) Q := fun es ρ1 e => by
    unfold fFn at h; rw [e] at h; exact h
  cases hg : g ρ with
  | stuck => unfold fFn at h; rw [hg] at h; exact h
  | err c fs es ρ1 => unfold fFn at h; rw [hg] at h; exact h
  | ok es ρ1 => exact fun vs ws H' m l R' => call_end hnd (fun _ _ _ h => h) m l R' (h2 es ρ1 hg)
theorem se_fn (Fk : FnOk X.prog X.w X.K X.mg X.base (L2.CX X.prog X.w) k f fd ps (spF M.K M.cl (borL as) F)) (hr : Room k X.A) (tk : Takes X W) (hm : X.mg x = some (.ref f)) (hk : PySem.W.keepIn X.K (.ref f) = true) (hb : Binds X.K fd ps [])
    (ha : SAB X M W (e :: es) as g) (hnd : (slotsB as).Nodup := by decide) (hg : Gl X x := by rfl) (hdb : (x == ("__debug__" : Str)) = false := by decide) (he : starEach (e :: es) X.env = (false, eval e X.env) :: starEach es X.env := by rfl) (hpl : (backTo pos (starEach es X.env)).any (·.1) = false := by rfl) :
    SE X M W (.Call (.Name x p) (e :: es) [] pos) (fFn as F g) :=
  pe_imp (pe_callS Fk hr hg hm hk hb (fun σ => passAt tk σ) ha hdb he hpl) fun _ _ _ h => fn_core hnd h
theorem fn_coreL {σ : St} {H : Hp} {Q : VK} (hnd : (slotsB as).Nodup) (h : tLs M W (fFn as F g) σ H Q) : tAB M W as g σ H fun vs H1 => spL M.K M.cl (borL as) F vs H1 Q (WE W σ) := by
  obtain ⟨an, ρ, ts, ds, R, h⟩ := h
  refine ⟨an, ρ, ts, ds, R, ?_⟩
  unfold BAOk
  have h2 : ∀ es ρ1, g ρ = .ok es ρ1 → LOk M an ts ds W σ (fFn as F (fun ρ => .ok es ρ) ρ1) Q := fun es ρ1 e => by
    unfold fFn at h; rw [e] at h; exact h
  cases hg : g ρ with
  | stuck => unfold fFn at h; rw [hg] at h; exact h
  | err c fs es ρ1 => unfold fFn at h; rw [hg] at h; exact h
  | ok es ρ1 => exact fun vs ws H' m l R' => call_endL hnd (fun _ _ _ h => h) m l R' (h2 es ρ1 hg)
theorem sl_fn (Fk : FnOk X.prog X.w X.K X.mg X.base (L2.CX X.prog X.w) k f fd ps (spL M.K M.cl (borL as) F)) (hr : Room k X.A) (tk : Takes X W) (hm : X.mg x = some (.ref f)) (hk : PySem.W.keepIn X.K (.ref f) = true) (hb : Binds X.K fd ps [])
    (ha : SAB X M W (e :: es) as g) (hnd : (slotsB as).Nodup := by decide) (hg : Gl X x := by rfl) (hdb : (x == ("__debug__" : Str)) = false := by decide) (he : starEach (e :: es) X.env = (false, eval e X.env) :: starEach es X.env := by rfl) (hpl : (backTo pos (starEach es X.env)).any (·.1) = false := by rfl) :
    SL X M W (.Call (.Name x p) (e :: es) [] pos) (fFn as F g) :=
  pe_imp (pe_callS Fk hr hg hm hk hb (fun σ => passAt tk σ) ha hdb he hpl) fun _ _ _ h => fn_coreL hnd h
/-- a call without arguments -/
theorem se_fn0 {F : List D → Fr} (Fk : FnOk X.prog X.w X.K X.mg X.base (L2.CX X.prog X.w) k f fd ps (spF M.K M.cl [] F)) (hr : Room k X.A) (tk : Takes X W) (hm : X.mg x = some (.ref f)) (hk : PySem.W.keepIn X.K (.ref f) = true) (hb : Binds X.K fd ps [])
    (hg : Gl X x := by rfl) (hdb : (x == ("__debug__" : Str)) = false := by decide) :
    SE X M W (.Call (.Name x p) [] [] pos) (fFn [] F fNil) := by
  refine ⟨fun pins s σ H Q I h => ?_⟩
  refine wpAny_Call_Name_kw (ld_glob I hg hm ?_ hdb)
  refine PySem.W.callWith_K0 I.kIn hk ?_
  have h2 := fn_core (as := []) List.nodup_nil h
  obtain ⟨an, ρ, ts, ds, R, h3⟩ := h2
  exact run_fnS (us := []) Fk hr hb (passAt tk σ) I .nil (h3 [] [] H ⟨rfl, rfl⟩ rfl R)
end
end Dl
end
section
set_option maxHeartbeats 4000000
/-! DlL: objects: fields, properties, methods, constructors. -/
namespace Dl
open PySem PySem.Spec PyProof.Rows L2
section
variable {M : Mc} {an : List (Addr × D)} {ρ : En} {σ : St} {H H' : Hp} {ts us : List V} {ds es : List D} {i : Nat} {d0 : D}
/-- an owned object gets another content -/
theorem RelX.putG (R : RelX M an ρ σ H us es) (h : owned ρ i = some d0) : ∃ p G, σ[i]? = some (some (.ref p)) ∧ OwAt M.K M.cl G H p d0 ∧ Sub G H ∧ Reps M.K M.cl G es us ∧
    ∀ (o' : HO) (d' : D) (ts : List V) (ds : List D), OwAt M.K M.cl G (upd H p o') p d' → Reps M.K M.cl G ds ts → RelX M an (putSl ρ i d') σ (upd H p o') ts ds := by
  obtain ⟨G, own, r⟩ := R
  have z : σ[i]? = some (some (.ref (own i))) ∧ OwAt M.K M.cl G H (own i) d0 ∧ G (own i) = none := by
    rcases owned_is h with e | e
    · obtain ⟨a, b, c, _⟩ := r.owp i _ e; exact ⟨a, b, c⟩
    · obtain ⟨a, b, c, _⟩ := r.bop i _ e; exact ⟨a, b, c⟩
  obtain ⟨z1, z2, z4⟩ := z
  refine ⟨own i, G, z1, z2, r.sub, r.tmp, fun o' d' ts ds q1 q2 => ?_⟩
  have iow : IsOw ρ i := ⟨_, owned_is h⟩
  have keep : ∀ b u, b ≠ own i → H b = some u → (upd H (own i) o') b = some u := fun b u hb e => by rw [upd_ne hb]; exact e
  have gne : ∀ b u, G b = some u → b ≠ own i := fun b u e c => by rw [c, z4] at e; cases e
  refine ⟨G, own, { sub := fun b u e => keep b u (gne b u e) (r.sub b u e), g0 := r.g0, fr := r.fr, ext := fun b u e w => keep b u ?_ (r.ext b u e w), wok := fun b w => ?_, shp := fun j d' hj => ?_, owp := fun j d' hj => ?_, bop := fun j d' hj => ?_, anp := fun x hx => ?_, inj := fun j k hj hk => r.inj j k (putSl_isOw h hj) (putSl_isOw h hk), apart := fun j hj => r.apart j (putSl_isOw h hj), anN := r.anN, len := ?_, tmp := q2 }⟩
  · rintro rfl
    rcases owned_is h with e' | e'
    · obtain ⟨_, _, _, c⟩ := r.owp i _ e'; rw [c] at e; cases e
    · obtain ⟨_, _, _, c⟩ := r.bop i _ e'; exact w c.1
  · by_cases hb : b = own i
    · exact ⟨_, by rw [hb]; exact upd_same⟩
    · obtain ⟨u, hu⟩ := r.wok b w; exact ⟨u, keep b u hb hu⟩
  · by_cases hij : i = j
    · subst hij
      exfalso
      unfold putSl at hj
      rcases owned_is h with e | e
      · rw [e] at hj; dsimp only at hj; rw [List.getElem?_set_self (List.getElem?_eq_some_iff.mp e).1] at hj; cases hj
      · rw [e] at hj; dsimp only at hj; rw [List.getElem?_set_self (List.getElem?_eq_some_iff.mp e).1] at hj; cases hj
    · rw [putSl_get hij] at hj; exact r.shp j d' hj
  · by_cases hij : i = j
    · subst hij
      unfold putSl at hj
      rcases owned_is h with e | e
      · rw [e] at hj; dsimp only at hj; rw [List.getElem?_set_self (List.getElem?_eq_some_iff.mp e).1] at hj; cases hj
        obtain ⟨c1, c2, c3, c4⟩ := r.owp i _ e
        exact ⟨c1, q1, c3, c4⟩
      · rw [e] at hj; dsimp only at hj; rw [List.getElem?_set_self (List.getElem?_eq_some_iff.mp e).1] at hj; cases hj
    · rw [putSl_get hij] at hj
      obtain ⟨c1, c2, c3, c4⟩ := r.owp j d' hj
      have ne : own j ≠ own i := fun c => hij (r.inj j i ⟨_, .inl hj⟩ iow c).symm
      exact ⟨c1, c2.mono Sub.rfl' fun u hu => keep _ u ne hu, c3, c4⟩
  · by_cases hij : i = j
    · subst hij
      unfold putSl at hj
      rcases owned_is h with e | e
      · rw [e] at hj; dsimp only at hj; rw [List.getElem?_set_self (List.getElem?_eq_some_iff.mp e).1] at hj; cases hj
      · rw [e] at hj; dsimp only at hj; rw [List.getElem?_set_self (List.getElem?_eq_some_iff.mp e).1] at hj; cases hj
        obtain ⟨c1, c2, c3, c4⟩ := r.bop i _ e
        exact ⟨c1, q1, c3, c4⟩
    · rw [putSl_get hij] at hj
      obtain ⟨c1, c2, c3, c4⟩ := r.bop j d' hj
      have ne : own j ≠ own i := fun c => hij (r.inj j i ⟨_, .inr hj⟩ iow c).symm
      exact ⟨c1, c2.mono Sub.rfl' fun u hu => keep _ u ne hu, c3, c4⟩
  · obtain ⟨c2, c3, c4⟩ := r.anp x hx
    exact ⟨c2.mono Sub.rfl' fun u hu => keep _ u (Ne.symm (r.apart i iow x hx)) hu, c3, c4⟩
  · rw [← r.len]; unfold putSl; split <;> simp
end
/-! ### fields -/
def putK (f : Str) : List Str → List Str
  | [] => [f]
  | g :: r => if g = f then g :: r else g :: putK f r
def putX {α : Type} (f : Str) (x : α) : List Str → List α → List α
  | g :: r, y :: ys => if g = f then x :: ys else y :: putX f x r ys
  | _, _ => [x]
def getX {α : Type} (f : Str) : List Str → List α → Option α
  | g :: r, y :: ys => if g = f then some y else getX f r ys
  | _, _ => none
theorem put_zip {f : Str} {v : V} : ∀ {fs : List Str} {vs : List V}, fs.length = vs.length → putF f v (fs.zip vs) = (putK f fs).zip (putX f v fs vs) ∧ (putK f fs).length = (putX f v fs vs).length
  | [], [], _ => ⟨rfl, rfl⟩
  | g :: r, y :: ys, h => by
    obtain ⟨h1, h2⟩ := put_zip (f := f) (v := v) (fs := r) (vs := ys) (by simpa using h)
    by_cases c : g = f
    · simp [putF, putK, putX, c]; simpa using h
    · simp [putF, putK, putX, c, h1, h2]
  | [], _ :: _, h => by cases h
  | _ :: _, [], h => by cases h
theorem reps_put {K : PySem.W.Frag} {cl : Str → Option Addr} {G : Hp} {f : Str} {d : D} {v : V} (h : Rep K cl G d v) : ∀ {fs : List Str} {ds : List D} {vs : List V}, fs.length = vs.length → Reps K cl G ds vs → Reps K cl G (putX f d fs ds) (putX f v fs vs)
  | [], [], [], _, _ => Reps.cons h Reps.nil
  | g :: r, e :: ds, y :: ys, l, q => by
    have := reps_put (f := f) h (fs := r) (by simpa using l) q.tail
    by_cases c : g = f
    · simp only [putX, if_pos c]; exact Reps.cons h q.tail
    · simp only [putX, if_neg c]; exact Reps.cons q.head this
  | [], _ :: _, [], _, q => by have := q.len; simp at this
  | [], [], _ :: _, l, _ => by cases l
  | [], _ :: _, _ :: _, l, _ => by cases l
  | _ :: _, _, [], l, _ => by cases l
  | _ :: _, [], _ :: _, _, q => by have := q.len; simp at this
theorem get_zip {K : PySem.W.Frag} {cl : Str → Option Addr} {G : Hp} {f : Str} {d : D} : ∀ {fs : List Str} {ds : List D} {vs : List V}, fs.length = vs.length → Reps K cl G ds vs → getX f fs ds = some d → ∃ v, (fs.zip vs).lookup f = some v ∧ Rep K cl G d v
  | g :: r, e :: ds, y :: ys, l, q, h => by
    by_cases c : g = f
    · simp only [getX, if_pos c] at h
      cases h
      subst c
      refine ⟨y, by simp [List.lookup], q.head⟩
    · simp only [getX, if_neg c] at h
      obtain ⟨v, h1, h2⟩ := get_zip (fs := r) (by simpa using l) q.tail h
      have : (f == g) = false := by simp; exact fun z => c z.symm
      exact ⟨v, by simp [List.lookup, this, h1], h2⟩
  | [], _, _, _, _, h => by cases h
  | _ :: _, [], _, _, _, h => by cases h
  | _ :: _, _ :: _, [], l, _, _ => by cases l
/-- of a class by its name -/
structure ClsN (K : PySem.W.Frag) (cl : Str → Option Addr) (c : Str) (C : Addr) : Prop where
  at_ : cl c = some C
  cls : Cls K C
def fFld (c f : Str) (fe : En → Rs D) : En → Rs D := fun ρ => (fe ρ).bind fun d ρ1 => match d with
  | .ins c' fs ds => if c' = c then (match getX f fs ds with
    | some d => .ok d ρ1
    | none => .stuck) else .stuck
  | _ => .stuck
def fFldS (c f : Str) (i : Nat) (fe : En → Rs D) : En → Rs Fl := fun ρ => (fe ρ).bind fun d ρ1 => match owned ρ1 i with
  | some (.ins c' fs ds) => if c' = c ∧ fs.length < 1000 then .ok .nx (putSl ρ1 i (.ins c' (putK f fs) (putX f d fs ds))) else .stuck
  | _ => .stuck
section
variable {X : Cx} {M : Mc} {W : WX} {e : Expr} {fe : En → Rs D} {c f x : Str} {C : Addr} {pos pos' p : Pos}
theorem se_fld (hk : M.K = X.K) (hc : ClsN X.K M.cl c C) (hn : NoAttr X.K C f) (he : SE X M W e fe) (hb : attributeBase e f X.env (eval e X.env) = eval e X.env := by rfl) : SE X M W (.Attribute e f pos) (fFld c f fe) := by
  refine pe_imp (pe_fld he hb) fun σ H Q ⟨an, ρ, ts, ds, R, h⟩ => ?_
  refine ⟨an, ρ, ts, ds, R, EOk.bind (P := fun r => EOk M an ts ds W σ r Q) h (fun _ _ _ _ z => z) (fun z => z) fun d ρ1 v H1 R1 h1 => ?_⟩
  cases d with
  | ins c' fs es =>
    dsimp only at h1
    by_cases hcc : c' = c
    · rw [if_pos hcc] at h1
      subst hcc
      cases hg : getX f fs es with
      | none => rw [hg] at h1; exact h1.elim
      | some d =>
        rw [hg] at h1
        obtain ⟨G, own, r⟩ := R1
        obtain ⟨a, C', dx, vs, ev, eC, eG, el, er⟩ := (show ∃ a C' dx vs, v = .ref a ∧ M.cl c' = some C' ∧ G a = some (.ins C' dx (fs.zip vs)) ∧ fs.length = vs.length ∧ Reps M.K M.cl G es vs from r.tmp.head)
        rw [hc.at_] at eC; cases eC
        obtain ⟨y, e1, e2⟩ := get_zip el er hg
        exact ⟨a, C, dx, _, y, ev, r.sub _ _ eG, hc.cls, hn, e1, h1 y H1 ⟨G, own, { r with tmp := Reps.cons e2 r.tmp.tail }⟩⟩
    · rw [if_neg hcc] at h1; exact h1.elim
  | _ => exact h1.elim
/-- self.f = e, self lent -/
theorem ss_fld (i : Nat) (hk : M.K = X.K) (hc : ClsN X.K M.cl c C) (hn : NoAttr X.K C f) (he : SE X M W e fe) (hN : X.N[i]? = some x := by rfl) (hv : Vis X.env.scope x := by first | exact Or.inl rfl | exact Or.inr (Or.inl rfl) | exact Or.inr (Or.inr rfl)) (hd : (x == ("__debug__" : Str)) = false := by decide)
    (hcd : (x == ("__classdict__" : Str)) = false := by decide) (hs : swapsWith e (some (.Attribute (.Name x p) f pos')) pos.line X.env = pure false := by rfl) : SS X M W (.Assign [.Attribute (.Name x p) f pos'] e pos) (fFldS c f i fe) := by
  refine ps_imp (ps_fld (pe_var hN hv hd hcd) he hs) fun Dn σ H ⟨an, ρ, ts, ds, R, h⟩ => ?_
  refine ⟨an, ρ, ts, ds, R, EOk.toS h fun d ρ1 v H1 R1 h1 => ?_⟩
  cases q : owned ρ1 i with
  | none => rw [q] at h1; exact h1.elim
  | some d0 =>
    rw [q] at h1
    cases d0 with
    | ins c' fs es =>
      dsimp only at h1
      by_cases hcc : c' = c ∧ fs.length < 1000
      · rw [if_pos hcc] at h1
        obtain ⟨rfl, hlen⟩ := hcc
        obtain ⟨p, G, e1, e2, s, e3, e4⟩ := R1.putG q
        obtain ⟨C', dx, vs, eC, eH, el, er⟩ := (show ∃ C' dx vs, M.cl c' = some C' ∧ H1 p = some (.ins C' dx (fs.zip vs)) ∧ fs.length = vs.length ∧ Reps M.K M.cl G es vs from e2)
        rw [hc.at_] at eC; cases eC
        obtain ⟨z1, z2⟩ := put_zip (f := f) (v := v) el
        refine ⟨.ref p, e1, p, C, dx, _, rfl, eH, hc.cls, hn, by simp [← el]; omega, ?_⟩
        rw [z1]
        refine h1 σ _ (e4 _ _ _ _ ⟨C, dx, putX f v fs vs, hc.at_, upd_same, z2, reps_put e3.head el er⟩ e3.tail)
      · rw [if_neg hcc] at h1; exact h1.elim
    | _ => exact h1.elim
end
end Dl
end
section
set_option maxHeartbeats 4000000
/-! DlM: properties, methods, constructors. -/
namespace Dl
open PySem PySem.Spec PyProof.Rows L2
/-- an object of the class c without the name m of its own -/
def isI (c m : Str) : D → Bool
  | .ins c' fs ds => decide (c' = c) && !fs.contains m && decide (fs.length = ds.length)
  | _ => false
def noErr : Rs D → Rs D
  | .ok d ρ => .ok d ρ
  | _ => .stuck
def fProp (c : Str) (F : List D → Fr) (fe : En → Rs D) : En → Rs D := fun ρ => (fe ρ).bind fun d ρ1 => if isI c Str.empty d = true then noErr (fFn [none] F (fun ρ => .ok [d] ρ) ρ1) else .stuck
def fMeth (c m : Str) (as : List (Option Nat)) (F : List D → Fr) (fo : En → Rs D) (g : En → Rs (List D)) : En → Rs D := fun ρ => (fo ρ).bind fun d ρ1 => if isI c m d = true then fFn (none :: as) F (fun ρ => (g ρ).bind fun es ρ2 => .ok (d :: es) ρ2) ρ1 else .stuck
theorem isI_at {K : PySem.W.Frag} {cl : Str → Option Addr} {G : Hp} {c m : Str} {C : Addr} {d : D} {v : V} (h : isI c m d = true) (hc : cl c = some C) (r : Rep K cl G d v) : ∃ a dx fs, v = .ref a ∧ G a = some (.ins C dx fs) ∧ fs.lookup m = none := by
  cases d with
  | ins c' fs ds =>
    unfold isI at h
    simp only [Bool.and_eq_true, decide_eq_true_eq, Bool.not_eq_true'] at h
    obtain ⟨⟨rfl, h2⟩, h3⟩ := h
    obtain ⟨a, C', dx, vs, ev, eC, eG, el, er⟩ := (show ∃ a C' dx vs, v = .ref a ∧ cl c' = some C' ∧ G a = some (.ins C' dx (fs.zip vs)) ∧ fs.length = vs.length ∧ Reps K cl G ds vs from r)
    rw [hc] at eC; cases eC
    refine ⟨a, dx, _, ev, eG, ?_⟩
    rw [List.lookup_eq_none_iff]
    intro p hp
    have : p.1 ∈ fs := by
      obtain ⟨a, b⟩ := p
      exact (List.of_mem_zip hp).1
    have hne : m ≠ p.1 := by
      rintro rfl
      simp at h2
      exact h2 this
    first | exact hne | simpa using hne
  | _ => cases h
section
variable {X : Cx} {M : Mc} {W : WX} {e o : Expr} {es : List Expr} {fe fo : En → Rs D} {g : En → Rs (List D)} {c m f x : Str} {C p a : Addr} {pos apos xp : Pos} {k : Nat} {fd : FuncData} {ps : List Str} {F : List D → Fr} {as : List (Option Nat)}
theorem EOk.noErr {an : List (Addr × D)} {ts : List V} {ds : List D} {σ : St} {Q : VK} : ∀ {r : Rs D}, EOk M an ts ds W σ (Dl.noErr r) Q → EOk M an ts ds W0 σ r Q
  | .ok d ρ, h => h
  | .err .., h => h.elim
  | .stuck, h => h
theorem se_prop (hk : M.K = X.K) (hc : ClsN X.K M.cl c C) (hp : PropOf X.K C f p a) (Fk : FnOk X.prog X.w X.K X.mg X.base (L2.CX X.prog X.w) k a fd ps (spF M.K M.cl [false] F)) (hr : Room (k + 1) X.A) (hb : Binds X.K fd ps []) (he : SE X M W e fe)
    (hab : attributeBase e f X.env (eval e X.env) = eval e X.env := by rfl) : SE X M W (.Attribute e f pos) (fProp c F fe) := by
  refine pe_imp (pe_prop (dvs := []) (ds := []) (E := E0) he hc.cls hp Fk hr hb .nil passL hab) fun σ H Q ⟨an, ρ, ts, ds, R, h⟩ => ?_
  refine ⟨an, ρ, ts, ds, R, EOk.bind (P := fun r => EOk M an ts ds W σ r Q) h (fun _ _ _ _ z => z) (fun z => z) fun d ρ1 v H1 R1 h1 => ?_⟩
  by_cases hi : isI c Str.empty d = true
  · rw [if_pos hi] at h1
    obtain ⟨G, s, r⟩ := R1.rep
    obtain ⟨a, dx, fs, ev, eG, el⟩ := isI_at hi hc.at_ r
    refine ⟨a, dx, fs, ev, s _ _ eG, ?_⟩
    subst ev
    exact call_end (as := [none]) (ws := [.ref a]) (es := [d]) (by exact List.nodup_nil) (fun _ _ _ h => h.elim) ⟨_, [], [], rfl, rfl, rfl, rfl⟩ rfl R1 h1.noErr
  · rw [if_neg hi] at h1; exact h1.elim
def tMethS (C : Addr) (m : Str) (sp : Sp) (E : St → XK) (ta : TE) (t : TA) : TE := fun σ H Q => ta σ H fun x H1 => ∃ a dx fs, x = .ref a ∧ H1 a = some (.ins C dx fs) ∧ fs.lookup m = none ∧ t σ H1 fun vs H2 => sp (x :: vs) H2 Q (E σ)
theorem pe_methS {pl : Sem Bool} {ta : TE} {t : TA} {sp : Sp} {CX : CXT} {E : St → XK} (he : PE X o ta) (c : Cls X.K C) (hm : Meth X.K C m a) (F : FnOk X.prog X.w X.K X.mg X.base CX k a fd ps sp) (hr : Room k X.A) (hb : Binds X.K fd ps []) (hx : ∀ σ, PassesAt CX X σ (E σ)) (ha : PA X (e :: es) t)
    (hst : starEach (e :: es) X.env = (false, eval e X.env) :: starEach es X.env := by rfl) (hpl : (backTo pos (starEach es X.env)).any (·.1) = false := by rfl)
    (ht : eval (.Call (.Attribute o m apos) (e :: es) [] pos) X.env = (do
      let ov ← eval o X.env
      standAt apos.atName
      let (f, first) ← holding [ov] (getMethod ov m pl)
      callWith pos f first (backTo pos (starEach (e :: es) X.env)) (backToKw pos (keywordEach [] X.env))) := by rfl) :
    PE X (.Call (.Attribute o m apos) (e :: es) [] pos) (tMethS C m sp E ta t) := by
  refine ⟨fun pins s σ H Q I h => ?_⟩
  refine PySem.W.methodCall_KW (pl := pl) (thn (he.run pins s σ H _ I h) fun u s1 ⟨x, H1, I1, rx, a, dx, fs, ex, ea, l, q⟩ => ?_) ht
  subst ex
  obtain rfl : u = Value.ref a := rx
  refine getmeth_ok I1 ea c hm l ?_
  refine PySem.W.callWith_K (first := [.ref a]) (h₀ := X.base) I.ok.mod.kin hm.kp (thn (ha.run pos pins s1 σ H1 _ I1 q) fun us s2 ⟨vs, H2, I2, r, q2⟩ => ⟨I2.kIn, ?_⟩) hst hpl
  exact run_fnS (us := .ref a :: us) (vs := .ref a :: vs) F hr hb (hx σ) I2 (.cons rfl r) q2
theorem pe_methS0 {pl : Sem Bool} {ta : TE} {sp : Sp} {CX : CXT} {E : St → XK} (he : PE X o ta) (c : Cls X.K C) (hm : Meth X.K C m a) (F : FnOk X.prog X.w X.K X.mg X.base CX k a fd ps sp) (hr : Room k X.A) (hb : Binds X.K fd ps []) (hx : ∀ σ, PassesAt CX X σ (E σ))
    (ht : eval (.Call (.Attribute o m apos) [] [] pos) X.env = (do
      let ov ← eval o X.env
      standAt apos.atName
      let (f, first) ← holding [ov] (getMethod ov m pl)
      callWith pos f first (backTo pos (starEach [] X.env)) (backToKw pos (keywordEach [] X.env))) := by rfl) :
    PE X (.Call (.Attribute o m apos) [] [] pos) (tMethS C m sp E ta tNil) := by
  refine ⟨fun pins s σ H Q I h => ?_⟩
  refine PySem.W.methodCall_KW (pl := pl) (thn (he.run pins s σ H _ I h) fun u s1 ⟨x, H1, I1, rx, a, dx, fs, ex, ea, l, q⟩ => ?_) ht
  subst ex
  obtain rfl : u = Value.ref a := rx
  refine getmeth_ok I1 ea c hm l ?_
  exact PySem.W.callWith_K0 (first := [.ref a]) I1.kIn hm.kp (run_fnS (us := [.ref a]) (vs := [.ref a]) F hr hb (hx σ) I1 (.cons rfl .nil) q)
theorem meth_core (hc : ClsN X.K M.cl c C) (hnd : (slotsB as).Nodup) {σ : St} {H : Hp} {Q : VK} (h : tE M W (fMeth c m as F fo g) σ H Q) : tMethS C m (spF M.K M.cl (borL (none :: as)) F) (WE W) (tE M W fo) (tAB M W as g) σ H Q := by
  obtain ⟨an, ρ, ts, ds, R, h⟩ := h
  refine ⟨an, ρ, ts, ds, R, EOk.bind (P := fun r => EOk M an ts ds W σ r Q) h (fun _ _ _ _ z => z) (fun z => z) fun d ρ1 v H1 R1 h1 => ?_⟩
  by_cases hi : isI c m d = true
  · rw [if_pos hi] at h1
    obtain ⟨G, s, r⟩ := R1.rep
    obtain ⟨a, dx, fs, ev, eG, el⟩ := isI_at hi hc.at_ r
    refine ⟨a, dx, fs, ev, s _ _ eG, el, an, ρ1, v :: ts, d :: ds, R1, ?_⟩
    unfold BAOk
    have h2 : ∀ es ρ2, g ρ1 = .ok es ρ2 → EOk M an ts ds W σ (fFn (none :: as) F (fun ρ => .ok (d :: es) ρ) ρ2) Q := fun es ρ2 e => by
      unfold fFn at h1; dsimp only at h1; rw [e] at h1; exact h1
    cases hg : g ρ1 with
    | stuck => unfold fFn at h1; dsimp only at h1; rw [hg] at h1; exact h1
    | err c fs es ρ2 => unfold fFn at h1; dsimp only at h1; rw [hg] at h1; exact EErr.weak1 h1
    | ok es ρ2 =>
      intro vs ws H' mx l R'
      refine call_end (as := none :: as) (ws := v :: ws) (es := d :: es) hnd (fun _ _ _ h => h) ⟨v, vs, ws, rfl, rfl, mx⟩ (by simp [l]) (R'.temps fun G _ q => ?_) (h2 es ρ2 hg)
      obtain ⟨q1, q2⟩ := Reps.split l.symm q
      exact Reps.cons q2.head (q1.append q2.tail)
  · rw [if_neg hi] at h1; exact h1.elim
theorem se_meth {pl : Sem Bool} (hc : ClsN X.K M.cl c C) (hm : Meth X.K C m a) (Fk : FnOk X.prog X.w X.K X.mg X.base (L2.CX X.prog X.w) k a fd ps (spF M.K M.cl (borL (none :: as)) F)) (hr : Room k X.A) (tk : Takes X W) (hb : Binds X.K fd ps [])
    (he : SE X M W o fo) (ha : SAB X M W (e :: es) as g) (hnd : (slotsB as).Nodup := by decide) (hst : starEach (e :: es) X.env = (false, eval e X.env) :: starEach es X.env := by rfl) (hpl : (backTo pos (starEach es X.env)).any (·.1) = false := by rfl)
    (ht : eval (.Call (.Attribute o m apos) (e :: es) [] pos) X.env = (do
      let ov ← eval o X.env
      standAt apos.atName
      let (f, first) ← holding [ov] (getMethod ov m pl)
      callWith pos f first (backTo pos (starEach (e :: es) X.env)) (backToKw pos (keywordEach [] X.env))) := by rfl) :
    SE X M W (.Call (.Attribute o m apos) (e :: es) [] pos) (fMeth c m as F fo g) :=
  pe_imp (pe_methS (pl := pl) he hc.cls hm Fk hr hb (fun σ => passAt tk σ) ha hst hpl ht) fun _ _ _ h => meth_core hc hnd h
theorem se_meth0 {pl : Sem Bool} (hc : ClsN X.K M.cl c C) (hm : Meth X.K C m a) (Fk : FnOk X.prog X.w X.K X.mg X.base (L2.CX X.prog X.w) k a fd ps (spF M.K M.cl [false] F)) (hr : Room k X.A) (tk : Takes X W) (hb : Binds X.K fd ps [])
    (he : SE X M W o fo)
    (ht : eval (.Call (.Attribute o m apos) [] [] pos) X.env = (do
      let ov ← eval o X.env
      standAt apos.atName
      let (f, first) ← holding [ov] (getMethod ov m pl)
      callWith pos f first (backTo pos (starEach [] X.env)) (backToKw pos (keywordEach [] X.env))) := by rfl) :
    SE X M W (.Call (.Attribute o m apos) [] [] pos) (fMeth c m [] F fo fNil) := by
  refine pe_imp (pe_methS0 (pl := pl) he hc.cls hm Fk hr hb (fun σ => passAt tk σ) ht) fun σ H Q h => ?_
  have := meth_core (as := []) hc List.nodup_nil h
  obtain ⟨an, ρ, ts, ds, R, h⟩ := this
  refine ⟨an, ρ, ts, ds, R, ?_⟩
  revert h
  unfold EOk
  cases fo ρ with
  | stuck => exact fun h => h
  | err c fs es ρ => exact fun h => h
  | ok d ρ =>
    intro h v H' R'
    obtain ⟨a, dx, fs, e1, e2, e3, an2, ρ2, ts2, ds2, R2, h2⟩ := h v H' R'
    exact ⟨a, dx, fs, e1, e2, e3, h2 [] [] H' ⟨rfl, rfl⟩ rfl R2⟩
end
/-! ### constructors -/
def fMk (c : Str) (as : List (Option Nat)) (F : List D → Fr) (g : En → Rs (List D)) : En → Rs D := fun ρ => (g ρ).bind fun es ρ1 => match mixD as es ρ1 with
  | none => .stuck
  | some ds => match F (.ins c [] [] :: ds) with
    | .ok .non (s :: bs) => (match putB as bs ρ1 with
      | some ρ2 => .ok s ρ2
      | none => .stuck)
    | .err c fs es' (_ :: bs) => (match putB as bs ρ1 with
      | some ρ2 => .err c fs es' ρ2
      | none => .stuck)
    | _ => .stuck
def tMakeS (C : Addr) (sp : Sp) (E : St → XK) (t : TA) : TE := fun σ H Q => t σ H fun vs H1 => ∀ x dx, H1 x = none → H1 dx = none → dx ≠ x →
  sp (.ref x :: vs) (upd (upd H1 dx (.own x)) x (.ins C dx [])) (fun v H2 => v = .non ∧ Q (.ref x) H2) (E σ)
section
variable {X : Cx} {M : Mc} {W : WX} {e : Expr} {es : List Expr} {g : En → Rs (List D)} {c x : Str} {C f : Addr} {pos p : Pos} {k : Nat} {fd : FuncData} {ps : List Str} {F : List D → Fr} {as : List (Option Nat)}
theorem run_makeS {sp : Sp} {CX : CXT} {E : St → XK} {pins : List (Addr × Obj)} {σ : St} {H : Hp} {s : Shared} {Q : VK} {us : List Value} {vs : List V} (Mk : L2.Mk X.K C f) (F : FnOk X.prog X.w X.K X.mg X.base CX k f fd ps sp) (hr : Room (k + 1) X.A) (hb : Binds X.K fd ps [])
    (hx : PassesAt CX X σ (E σ)) (I : Inv X pins σ H s) (r : Vals vs us)
    (h : ∀ x dx, H x = none → H dx = none → dx ≠ x → sp (.ref x :: vs) (upd (upd H dx (.own x)) x (.ins C dx [])) (fun v H2 => v = .non ∧ Q (.ref x) H2) (E σ)) :
    wpAny (model X.prog X.w) X.A (call (.ref C) us) (EP X pins σ Q) X.xe s := by
  have hq := h (s.heap.objs.size + 1) s.heap.objs.size (I.hok.fresh (Nat.le_succ _)) (I.hok.fresh (Nat.le_refl _)) (Nat.ne_of_lt (Nat.lt_succ_self _))
  have I2 := Inv.made (C := C) I
  have r2 : Vals (V.ref (s.heap.objs.size + 1) :: vs) (Value.ref (s.heap.objs.size + 1) :: us) := .cons rfl r
  have hl : (Value.ref (s.heap.objs.size + 1) :: us).length = ps.length := by
    have e := r2.length
    rw [F.len _ _ _ _ hq] at e
    exact e.symm
  have b := hb _ (Value.ref (s.heap.objs.size + 1) :: us) I2.kIn (by rw [List.append_nil]; exact hl)
  rw [List.append_nil] at b
  refine wpAny_call (make_map (f := f) I.kIn Mk.makes Mk.init (beq_iff_eq.mp Mk.fn) (codeAny_mono (F.run _ X.stack _ _ ⟨Value.ref (s.heap.objs.size + 1) :: us, []⟩ (Value.ref (s.heap.objs.size + 1) :: us) _ _ (E σ) (hr.make C us [])
    (I2.env0.make C us []) b r2 hq) fun r s' hq' => ?_))
  cases r with
  | error e => exact hx pins _ _ e s' I2 hq'
  | ok fl =>
    cases fl with
    | ret u =>
      obtain ⟨v, H', I3, rv, ev, q3⟩ := I2.after hq'
      subst ev
      exact ⟨rv, ⟨V.ref (s.heap.objs.size + 1), H', I3, rfl, q3⟩⟩
    | next => exact False.elim hq'
    | brk => exact False.elim hq'
    | cont => exact False.elim hq'
theorem pe_makeS {sp : Sp} {CX : CXT} {E : St → XK} {t : TA} (Mk : L2.Mk X.K C f) (F : FnOk X.prog X.w X.K X.mg X.base CX k f fd ps sp) (hr : Room (k + 1) X.A) (hg : Gl X x) (hm : X.mg x = some (.ref C)) (hb : Binds X.K fd ps []) (hx : ∀ σ, PassesAt CX X σ (E σ))
    (ha : PA X (e :: es) t) (hdb : (x == ("__debug__" : Str)) = false := by decide) (he : starEach (e :: es) X.env = (false, eval e X.env) :: starEach es X.env := by rfl) (hpl : (backTo pos (starEach es X.env)).any (·.1) = false := by rfl) :
    PE X (.Call (.Name x p) (e :: es) [] pos) (tMakeS C sp E t) := by
  refine ⟨fun pins s σ H Q I h => ?_⟩
  refine wpAny_Call_Name_kw (ld_glob I hg hm ?_ hdb)
  refine PySem.W.callWith_K (h₀ := X.base) I.ok.mod.kin Mk.kp (thn (ha.run pos pins s σ H _ I h) fun us s1 ⟨vs, H1, I1, r, q⟩ => ⟨I1.kIn, ?_⟩) he hpl
  exact run_makeS Mk F hr hb (hx σ) I1 r q
theorem make_end {an : List (Addr × D)} {σ : St} {H1 : Hp} {Q : VK} {Wx : WX} {ρ1 : En} {ts : List V} {ds0 es : List D} {vs ws : List V} {E : XK} (hcl : M.cl c = some C) (hnd : (slotsB as).Nodup) (hE : ∀ c d H, Wx c d σ H → E c d H)
    (m : Mix as vs ws σ) (l : ws.length = es.length) (R : RelX M an ρ1 σ H1 (ws ++ ts) (es ++ ds0))
    (h : EOk M an ts ds0 Wx σ ((fMk c as F (fun ρ => .ok es ρ)) ρ1) Q) (x dx : Addr) (hx : H1 x = none) (hdx : H1 dx = none) (hne : dx ≠ x) :
    spF M.K M.cl (true :: borL as) F (.ref x :: vs) (upd (upd H1 dx (.own x)) x (.ins C dx [])) (fun v H2 => v = .non ∧ Q (.ref x) H2) E := by
  have R2 := R.growH (o := .own x) hdx
  have hx2 : (upd H1 dx (.own x)) x = none := by rw [upd_ne (fun z => hne z.symm)]; exact hx
  have R3 : RelX M ((x, .ins c [] []) :: an) ρ1 σ (upd (upd H1 dx (.own x)) x (.ins C dx [])) (ws ++ ts) (es ++ ds0) := R2.newAn hx2 fun G _ q => ⟨⟨C, dx, [], hcl, upd_same, rfl, Reps.nil⟩, q⟩
  generalize upd (upd H1 dx (.own x)) x (.ins C dx []) = H at R3
  obtain ⟨G, own, r⟩ := R3
  obtain ⟨t1, t2⟩ := Reps.split l.symm r.tmp
  unfold fMk Rs.bind at h
  dsimp only at h
  cases hm : mixD as es ρ1 with
  | none => rw [hm] at h; exact h.elim
  | some ds =>
    rw [hm] at h
    dsimp only at h
    obtain ⟨q1, q2, q3⟩ := r.mix m l t1 hm
    obtain ⟨x1, x2, x3⟩ := r.anp (x, .ins c [] []) List.mem_cons_self
    have xn : x ∉ (slotsB as).map own := fun z => by
      obtain ⟨i, hi, e⟩ := List.mem_map.mp z
      exact r.apart i (q2 i hi) (x, .ins c [] []) List.mem_cons_self e
    have ndW : (x :: (slotsB as).map own).Nodup := List.nodup_cons.mpr ⟨xn, nodup_mapI hnd (fun i hi j hj e => r.inj i j (q2 i hi) (q2 j hj) e)⟩
    have hW : ∀ a ∈ x :: (slotsB as).map own, M.H0 a = none ∨ a ∈ M.W := fun a ha => by
      rcases List.mem_cons.mp ha with rfl | ha
      · exact .inl x3
      · obtain ⟨i, hi, rfl⟩ := List.mem_map.mp ha
        obtain ⟨d, hd⟩ := q2 i hi
        rcases hd with hd | hd
        · exact .inl (r.owp i d hd).2.2.2
        · exact .inr (r.bop i d hd).2.2.2.1
    have wo : ∀ {G' H' : Hp} {W : List Addr} {bs : List D}, BorAt M.K M.cl G' H' W bs → ∀ a ∈ W, ∃ o, H' a = some o := by
      intro G' H' W
      induction W with
      | nil => exact fun _ a z => nomatch z
      | cons b W ih =>
        intro bs h a ha
        cases bs with
        | nil => exact h.elim
        | cons d bs =>
          rcases List.mem_cons.mp ha with rfl | ha
          · exact h.1.there
          · exact ih h.2.2 a ha
    have fin : ∀ {G' H' : Hp} {b : D} {bs : List D} {ρ2 : En} {ts' : List V} {ds' : List D}, After G H (x :: (slotsB as).map own) G' H' → BorAt M.K M.cl G' H' (x :: (slotsB as).map own) (b :: bs) → putB as bs ρ1 = some ρ2 → Reps M.K M.cl G' ds' ts' → RelX M ((x, b) :: an) ρ2 σ H' ts' ds' :=
      fun {G' H' b bs ρ2 ts' ds'} A hb hp ht => by
        obtain ⟨p1, p2⟩ := put_get hb.2.2 hp hnd q2
        refine ⟨G', own, r.called A hW (wo hb) (fun i s hs => ?_) p2 rfl (fun p hp => ?_) ht⟩
        · rcases p1 i s hs with ⟨h1, h2⟩ | ⟨_, h1⟩
          · refine .inl ⟨h1, fun ow z => ?_⟩
            rcases List.mem_cons.mp z with z | z
            · exact r.apart i ow (x, .ins c [] []) List.mem_cons_self z
            · obtain ⟨j, hj, e⟩ := List.mem_map.mp z
              exact h2 (r.inj j i (q2 j hj) ow e ▸ hj)
          · exact .inr h1
        · rcases List.mem_cons.mp hp with rfl | hp
          · exact .inr ⟨⟨_, List.mem_cons_self⟩, hb.1, hb.2.1⟩
          · refine .inl ⟨List.mem_cons_of_mem _ hp, fun z => ?_⟩
            rcases List.mem_cons.mp z with z | z
            · have := r.anN
              simp only [List.map_cons, List.nodup_cons] at this
              exact this.1 (z ▸ List.mem_map.mpr ⟨p, hp, rfl⟩)
            · obtain ⟨j, hj, e⟩ := List.mem_map.mp z
              exact r.apart j (q2 j hj) p (List.mem_cons_of_mem _ hp) e
    refine ⟨by simp [q3], G, .ins c [] [] :: ds, _, r.sub, ⟨x, _, rfl, rfl, x1, x2, q1⟩, ndW, ?_⟩
    revert h
    unfold FrOk
    cases F (.ins c [] [] :: ds) with
    | stuck => exact fun h => h
    | ok d bs0 =>
      intro h v G' H' A rv hb
      cases d with
      | non =>
        cases bs0 with
        | nil => exact h.elim
        | cons b bs =>
          dsimp only at h
          cases hp : putB as bs ρ1 with
          | none => rw [hp] at h; exact h.elim
          | some ρ2 =>
            rw [hp] at h
            exact ⟨rv, h _ H' (fin A hb hp (t2.mono A.gg)).anShare⟩
      | _ => exact h.elim
    | err c2 fs es' bs0 =>
      intro h C2 dx2 G' H' us hc lu he A rv hb
      cases bs0 with
      | nil => exact h.elim
      | cons b bs =>
        dsimp only at h
        cases hp : putB as bs ρ1 with
        | none => rw [hp] at h; exact h.elim
        | some ρ2 =>
          rw [hp] at h
          exact hE _ _ _ (h C2 dx2 H' us hc lu he (fin A hb hp (rv.append (t2.mono A.gg))).anDrop)
theorem se_mk (hc : M.cl c = some C) (Mk : L2.Mk X.K C f) (Fk : FnOk X.prog X.w X.K X.mg X.base (L2.CX X.prog X.w) k f fd ps (spF M.K M.cl (true :: borL as) F)) (hr : Room (k + 1) X.A) (tk : Takes X W) (hm : X.mg x = some (.ref C)) (hb : Binds X.K fd ps [])
    (ha : SAB X M W (e :: es) as g) (hnd : (slotsB as).Nodup := by decide) (hg : Gl X x := by rfl) (hdb : (x == ("__debug__" : Str)) = false := by decide) (he : starEach (e :: es) X.env = (false, eval e X.env) :: starEach es X.env := by rfl) (hpl : (backTo pos (starEach es X.env)).any (·.1) = false := by rfl) :
    SE X M W (.Call (.Name x p) (e :: es) [] pos) (fMk c as F g) := by
  refine pe_imp (pe_makeS Mk Fk hr hg hm hb (fun σ => passAt tk σ) ha hdb he hpl) fun σ H Q h => ?_
  obtain ⟨an, ρ, ts, ds, R, h⟩ := h
  refine ⟨an, ρ, ts, ds, R, ?_⟩
  unfold BAOk
  have h2 : ∀ es ρ1, g ρ = .ok es ρ1 → EOk M an ts ds W σ (fMk c as F (fun ρ => .ok es ρ) ρ1) Q := fun es ρ1 e => by
    unfold fMk at h; rw [e] at h; exact h
  cases hg : g ρ with
  | stuck => unfold fMk at h; rw [hg] at h; exact h
  | err c fs es ρ1 => unfold fMk at h; rw [hg] at h; exact h
  | ok es ρ1 => exact fun vs ws H' m l R' => fun x dx a b n => make_end hc hnd (fun _ _ _ h => h) m l R' (h2 es ρ1 hg) x dx a b n
end
end Dl
end
section
set_option maxHeartbeats 4000000
/-! DlN: own == and !=. -/
namespace Dl
open PySem PySem.Spec PyProof.Rows L2
theorem mg_ofN {K : PySem.W.Frag} {h : Heap} {N : Addr} {mg : Str → Option Value} {n : Str} {v : Value} (X : K.In h) (G : h.Ns N mg) (e : PySem.W.nsIn K N n = some (some v)) : mg n = some v := by
  obtain ⟨o, es, ep, ho, hd, _, hf⟩ := G
  unfold PySem.W.nsIn at e
  split at e
  · rename_i c d es' n' sl q
    have := X _ _ q
    rw [ho] at this
    cases this
    cases hd
    split at e
    · rename_i en he
      cases e
      rw [← hf]
      unfold nsFind findBy
      rw [← Array.find?_toList, he]
      rfl
    · first | (split at e <;> cases e) | cases e
  · cases e
/-- a class right under object with an own == and no own != -/
def insEq (K : PySem.W.Frag) (C f : Addr) : Bool := match K.lookup C with
  | some ⟨.type "type", _, .cls cd, sl⟩ => (match cd.mro, sl.toList with
    | .ref C' :: bm, [_, _, _, _, some (.builtin _), _] => C' == C && bm == [.type "object"] && !cd.hasDel && PySem.W.nsOkIn K cd.ns && PySem.W.nsIn K cd.ns "__eq__" == some (some (.ref f)) && PySem.W.nsIn K cd.ns "__ne__" == some none
    | _, _ => false)
  | _ => false
theorem insEq_of {K : PySem.W.Frag} {h : Heap} {C f x : Addr} {ox of : Obj} (X : K.In h) (q : insEq K C f = true) (hx : h.get? x = some ox) (hxc : ox.cls = .ref C) (hf : h.get? f = some of) (hfc : of.cls = .type "function") : h.OwnEqNoNe x C f "object" [.type "object"] := by
  unfold insEq at q
  split at q
  · rename_i dd cd sl ho
    split at q
    · rename_i C' bm k0 k1 k2 k3 n k5 hm hs
      simp only [Bool.and_eq_true, beq_iff_eq, Bool.not_eq_true'] at q
      obtain ⟨⟨⟨⟨⟨rfl, hbm⟩, hdel⟩, hok⟩, he⟩, hne⟩ := q
      obtain ⟨nm, bs, mro, ns, qn, hd, sn, sub, ab, col, del⟩ := cd
      dsimp only at hm hdel hok he hne
      subst hm hdel hbm
      have hsl : sl = #[k0, k1, k2, k3, some (.builtin n), k5] := by
        obtain ⟨l⟩ := sl
        simp only at hs
        rw [hs]
      subst hsl
      have N := Heap.Ns.of_isNs (PySem.W.isNs_of_in X hok)
      exact ⟨ox, of, nm, qn, ns, bs, hd, sn, sub, ab, col, dd, k0, k1, k2, k3, k5, n, _, some (.builtin "object.__eq__"), hx, hxc, X _ _ ho, N, mg_ofN X N he, hf, hfc, PySem.F.cmp_object.mro, (by rw [typeLookup_type, builtinLookup_eq_fast]; kernel_rfl), PySem.W.nsMap_none_of_in X hok hne⟩
    · cases q
  · cases q
def rOwn (C : Addr) (sp : Sp) (n : Bool) : R2 := fun x y H Q => ∃ a b dx dy fs gs, x = .ref a ∧ y = .ref b ∧ H a = some (.ins C dx fs) ∧ H b = some (.ins C dy gs) ∧ sp [.ref a, .ref b] H (fun v H' => ∃ k, v = .bl k ∧ Q (.bl (k != n)) H') E0
section
variable {X : Cx} {M : Mc} {W : WX} {C f : Addr} {fd : FuncData} {ps : List Str} {k : Nat} {sp : Sp} {c : Str} {F : List D → Fr}
theorem op_ownEq (Fk : FnOk X.prog X.w X.K X.mg X.base (L2.CX X.prog X.w) k f fd ps sp) (hr : Room k X.A) (hs : PySem.W.findIn X.K (.ref C) "__eq__" = some (some (.ref f))) (hf : PySem.W.isFn X.K (.ref f) = true) (hb : Binds X.K fd ps []) : OpR X (compareOp .Eq) (rOwn C sp false) := by
  intro pins s σ H x y u v Q I rx ry h
  obtain ⟨a, b, dx, dy, fs, gs, rfl, rfl, ha, hb', hsp⟩ := h
  cases rx
  cases ry
  obtain ⟨mA, J, _⟩ := ins_get I.hok ha
  obtain ⟨mB, J', _⟩ := ins_get I.hok hb'
  obtain ⟨od, J, _⟩ := J.look
  obtain ⟨od', J', _⟩ := J'.look
  obtain ⟨m, hF⟩ := I.fr
  show wpAny (model X.prog X.w) X.A (richCompare .Eq (.ref a) (.ref b)) (EP X pins σ Q) X.xe s
  refine PySem.W.cmp_K (op := .Eq) (tb := .ref C) hr.units0 hF I.ok.mod.kin J J'.type (by simp [PySem.W.notFirst]) hs hf ?_
  have hl := Fk.len _ _ _ _ hsp
  have r2 : Vals [V.ref a, V.ref b] [Value.ref a, Value.ref b] := .cons rfl (.cons rfl .nil)
  refine wpAny_call (codeAny_mono (Fk.run X.A X.stack s H ⟨[.ref a, .ref b], []⟩ [.ref a, .ref b] [.ref a, .ref b] _ E0 hr I.env0 (by
    have := hb s [.ref a, .ref b] I.kIn (by simpa using hl)
    simpa using this) r2 hsp) fun r s' hq => ?_)
  cases r with
  | error e => exact passL pins σ H s e s' I hq
  | ok fl =>
    cases fl with
    | ret w =>
      obtain ⟨z, H', I', rz, kk, ez, q⟩ := I.after hq
      subst ez
      cases rz
      exact ⟨.bl kk, H', I', rfl, by simpa using q⟩
    | next => exact False.elim hq
    | brk => exact False.elim hq
    | cont => exact False.elim hq
theorem op_ownNe (Fk : FnOk X.prog X.w X.K X.mg X.base (L2.CX X.prog X.w) k f fd ps sp) (hr : Room (k + 1) X.A) (hi : insEq X.K C f = true) (hf : PySem.W.isFn X.K (.ref f) = true) (hb : Binds X.K fd ps []) : OpR X (compareOp .NotEq) (rOwn C sp true) := by
  intro pins s σ H x y u v Q I rx ry h
  obtain ⟨a, b, dx, dy, fs, gs, rfl, rfl, ha, hb', hsp⟩ := h
  cases rx
  cases ry
  obtain ⟨mA, J, _⟩ := ins_get I.hok ha
  obtain ⟨mB, J', _⟩ := ins_get I.hok hb'
  obtain ⟨od, J, _⟩ := J.look
  obtain ⟨od', J', _⟩ := J'.look
  obtain ⟨of, hof, hofc⟩ : ∃ of : Obj, s.heap.get? f = some of ∧ of.cls = .type "function" := by
    have e := beq_iff_eq.mp hf
    obtain ⟨o, ho, e2⟩ := Option.map_eq_some_iff.mp (show (X.K.lookup f).map (·.cls) = some (.type "function") from e)
    exact ⟨o, I.kIn _ _ ho, e2⟩
  have X1 := insEq_of I.kIn hi J.at_ J.cls hof hofc
  have hl := Fk.len _ _ _ _ hsp
  have r2 : Vals [V.ref a, V.ref b] [Value.ref a, Value.ref b] := .cons rfl (.cons rfl .nil)
  obtain ⟨hh, gg, dd, tt, oo⟩ := s
  refine compareOp_ne_ownEq PySem.F.cmp_object X1 J'.at_ J'.cls (by have := hr.units; omega) ?_
  refine wpAny_call (codeAny_mono (Fk.run X.A.in1 X.stack _ H ⟨[.ref a, .ref b], []⟩ [.ref a, .ref b] [.ref a, .ref b] _ E0 hr.in1 I.env0.in1 (by
    have := hb _ [.ref a, .ref b] I.kIn (by simpa using hl)
    simpa using this) r2 hsp) fun r s' hq => ?_)
  cases r with
  | error e => exact passL pins σ H _ e s' I hq
  | ok fl =>
    cases fl with
    | ret w =>
      obtain ⟨z, H', I', rz, kk, ez, q⟩ := I.after hq
      subst ez
      cases rz
      exact ⟨kk, rfl, .bl (!kk), H', I', rfl, by simpa using q⟩
    | next => exact False.elim hq
    | brk => exact False.elim hq
    | cont => exact False.elim hq
def opOwn (c : Str) (F : List D → Fr) (n : Bool) (a b : D) : Option D := if isI c Str.empty a && isI c Str.empty b then (match F [a, b] with
    | .ok (.bl k) [] => some (.bl (k != n))
    | _ => none) else none
theorem bs_own {n : Bool} (hc : M.cl c = some C) : BinS M (rOwn C (spF M.K M.cl [false, false] F) n) (opOwn c F n) := by
  intro an ρ σ H ts ds a b d x y Q e R q
  unfold opOwn at e
  split at e
  · rename_i hi
    obtain ⟨h1, h2⟩ := Bool.and_eq_true_iff.mp hi
    cases hF : F [a, b] with
    | ok z bs =>
      rw [hF] at e
      cases z with
      | bl k =>
        cases bs with
        | nil =>
          cases e
          have R' : RelX M an ρ σ H (x :: y :: ts) (a :: b :: ds) := R.temps fun _ _ q => Reps.cons q.tail.head (Reps.cons q.head q.tail.tail)
          obtain ⟨G, s, ra⟩ := R'.rep
          obtain ⟨G2, s2, rb⟩ := R.rep
          obtain ⟨pa, dx, fs, rfl, ga, _⟩ := isI_at h1 hc ra
          obtain ⟨pb, dy, gs, rfl, gb, _⟩ := isI_at h2 hc rb
          refine ⟨pa, pb, dx, dy, fs, gs, rfl, rfl, s _ _ ga, s2 _ _ gb, ?_⟩
          refine call_end (as := [none, none]) (Wx := W0) (ws := [.ref pa, .ref pb]) (es := [a, b]) (by exact List.nodup_nil) (fun _ _ _ h => h.elim) ⟨_, _, _, rfl, rfl, _, [], [], rfl, rfl, rfl, rfl⟩ rfl R' ?_
          show EOk M an ts ds W0 σ (match F [a, b] with | .ok d bs => (match putB [none, none] bs ρ with | some ρ2 => Rs.ok d ρ2 | none => .stuck) | .err c fs es' bs => (match putB [none, none] bs ρ with | some ρ2 => Rs.err c fs es' ρ2 | none => .stuck) | .stuck => .stuck) _
          rw [hF]
          exact fun v H' R2 => ⟨k, R2.repH, q _ H' (R2.temps fun _ _ q => Reps.cons rfl q.tail)⟩
        | cons => cases e
      | _ => cases e
    | _ => rw [hF] at e; cases e
  · cases e
end
end Dl
end
section
set_option maxHeartbeats 4000000
/-! DlO: len(set(..)), sorted pairs, two clauses. -/
namespace Dl
open PySem PySem.Spec PyProof.Rows L2
section
variable {X : Cx} {M : Mc} {W : WX} {e : Expr} {fe : En → Rs D} {p p2 q pos : Pos}
theorem asI_reps {K : PySem.W.Frag} {cl : Str → Option Addr} {G : Hp} {ds : List D} {vs : List V} {ns : List Int} (h : asI ds = some ns) (r : Reps K cl G ds vs) : vs = ns.map V.int := asI_rep h r
def gLenSet : D → Option D
  | .lst ds => (asI ds).bind fun ns => if ns.Nodup ∧ ns.length ≤ 4000 then some (.int ns.length) else none
  | _ => none
theorem se_lenSet (hk : M.K = X.K) (hc : X.calm = true) (hm : X.mg "len" = none) (hm2 : X.mg "set" = none) (h : SE X M W e fe) (hg : Gl X "len" := by rfl) (hg2 : Gl X "set" := by rfl) (na : starEach [e] X.env = (false, eval e X.env) :: starEach [] X.env := by rfl) :
    SE X M W (.Call (.Name "len" p) [.Call (.Name "set" p2) [e] [] q] [] pos) (fUn gLenSet fe) := by
  refine pe_imp (RZ.pe_lenSetI hg hm hg2 hm2 h hc na) fun σ H Q ⟨an, ρ, ts, ds, R, h⟩ => ?_
  refine ⟨an, ρ, ts, ds, R, EOk.bind (P := fun r => EOk M an ts ds W σ r Q) h (fun _ _ _ _ z => z) (fun z => z) fun d ρ1 v H1 R1 h1 => ?_⟩
  cases d with
  | lst es =>
    replace h1 : EOk M an ts ds W σ (match (asI es).bind fun ns => if ns.Nodup ∧ ns.length ≤ 4000 then some (D.int ns.length) else none with | some d => .ok d ρ1 | none => .stuck) Q := h1
    cases hI : asI es with
    | none => rw [hI] at h1; exact h1.elim
    | some ns =>
      rw [hI] at h1
      dsimp only [Option.bind] at h1
      by_cases c : ns.Nodup ∧ ns.length ≤ 4000
      · rw [if_pos c] at h1
        obtain ⟨a, vs, rfl, g, r⟩ := R1.repH
        have e := asI_reps hI r
        subst e
        exact ⟨a, ns, rfl, hk ▸ SqL.of g, c.1, c.2, h1 _ H1 (R1.temps fun _ _ q => Reps.cons rfl q.tail)⟩
      · rw [if_neg c] at h1; exact h1.elim
  | _ => exact h1.elim
end
/-! ### sorted(pairs) -/
abbrev lexP (a b : Int × Int) : Bool := SrtO.lexB a b
def insP (x : Int × Int) : List (Int × Int) → List (Int × Int)
  | [] => [x]
  | y :: r => if lexP y x = true then y :: insP x r else x :: y :: r
def srtP : List (Int × Int) → List (Int × Int)
  | [] => []
  | x :: r => insP x (srtP r)
theorem insP_perm {x : Int × Int} : ∀ {l : List (Int × Int)}, (insP x l).Perm (x :: l)
  | [] => List.Perm.refl _
  | y :: r => by
    unfold insP
    split
    · exact (List.Perm.cons y insP_perm).trans (List.Perm.swap x y r)
    · exact List.Perm.refl _
theorem srtP_perm : ∀ {l : List (Int × Int)}, (srtP l).Perm l
  | [] => List.Perm.refl _
  | x :: r => insP_perm.trans (List.Perm.cons x srtP_perm)
abbrev SrP (l : List (Int × Int)) : Prop := l.Pairwise fun x y => lexP y x = false
theorem lex_asym {a b : Int × Int} (h : lexP a b = true) : lexP b a = false := by
  have := SrtO.lexB_iff.mp h
  exact SrtO.lexB_no.mpr (by omega)
theorem lex_tr {a b c : Int × Int} (h : lexP b a = false) (h2 : lexP c b = false) : lexP c a = false := by
  have := SrtO.lexB_no.mp h
  have := SrtO.lexB_no.mp h2
  exact SrtO.lexB_no.mpr (by omega)
theorem insP_srt {x : Int × Int} : ∀ {l : List (Int × Int)}, SrP l → SrP (insP x l)
  | [], _ => List.pairwise_singleton _ _
  | y :: r, h => by
    have h' := List.pairwise_cons.mp h
    unfold insP
    split
    · rename_i c
      refine List.pairwise_cons.mpr ⟨fun z hz => ?_, insP_srt h'.2⟩
      rcases List.mem_cons.mp (insP_perm.mem_iff.mp hz) with rfl | hz
      · exact lex_asym c
      · exact h'.1 z hz
    · rename_i c
      have c' : lexP y x = false := by simpa using c
      refine List.pairwise_cons.mpr ⟨fun z hz => ?_, h⟩
      rcases List.mem_cons.mp hz with rfl | hz
      · exact c'
      · exact lex_tr c' (h'.1 z hz)
theorem srtP_srt : ∀ {l : List (Int × Int)}, SrP (srtP l)
  | [] => List.Pairwise.nil
  | _ :: r => insP_srt srtP_srt
theorem srP_uniq : ∀ {l m : List (Int × Int)}, SrP l → SrP m → l.Perm m → l = m
  | [], m, _, _, h => (List.Perm.eq_nil h.symm).symm
  | x :: l, [], _, _, h => absurd h.length_eq (by simp)
  | x :: l, y :: m, hl, hm, h => by
    have hl' := List.pairwise_cons.mp hl
    have hm' := List.pairwise_cons.mp hm
    have e : x = y := by
      rcases List.mem_cons.mp (h.mem_iff.mp List.mem_cons_self) with e | hx
      · exact e
      · rcases List.mem_cons.mp (h.mem_iff.mpr List.mem_cons_self) with e | hy
        · exact e.symm
        · have a := SrtO.lexB_no.mp (hm'.1 x hx)
          have b := SrtO.lexB_no.mp (hl'.1 y hy)
          obtain ⟨x1, x2⟩ := x
          obtain ⟨y1, y2⟩ := y
          simp only at a b
          have : x1 = y1 := by omega
          have : x2 = y2 := by omega
          simp [*]
    subst e
    rw [srP_uniq hl'.2 hm'.2 h.cons_inv]
def asP : List D → Option (List (Int × Int))
  | [] => some []
  | .tup [.int i, .int j] :: ds => (asP ds).map ((i, j) :: ·)
  | _ => none
def pD (x : Int × Int) : D := .tup [.int x.1, .int x.2]
def gSortP : List D → Option D
  | [.lst ds] => (asP ds).map fun ps => .lst ((srtP ps).map pD)
  | _ => none
theorem asP_eq : ∀ {ds : List D} {ps : List (Int × Int)}, asP ds = some ps → ds = ps.map pD
  | [], ps, h => by cases h; rfl
  | d :: ds, ps, h => by
    unfold asP at h
    split at h
    · rename_i e; cases e
    · rename_i i j ds' e
      cases e
      obtain ⟨qs, e1, rfl⟩ := Option.map_eq_some_iff.mp h
      rw [asP_eq e1]; rfl
    · cases h
def A2 {α β : Type} (T : α → β → Prop) : List α → List β → Prop
  | [], [] => True
  | a :: as, b :: bs => T a b ∧ A2 T as bs
  | _, _ => False
theorem A2.len {α β : Type} {T : α → β → Prop} : ∀ {as : List α} {bs : List β}, A2 T as bs → as.length = bs.length
  | [], [], _ => rfl
  | _ :: _, _ :: _, h => by simp [A2.len h.2]
  | [], _ :: _, h => h.elim
  | _ :: _, [], h => h.elim
theorem A2.mem {α β : Type} {T : α → β → Prop} : ∀ {as : List α} {bs : List β}, A2 T as bs → ∀ b ∈ bs, ∃ a ∈ as, T a b
  | [], [], _, _, z => nomatch z
  | a :: as, b :: bs, h, x, hx => by
    rcases List.mem_cons.mp hx with rfl | hx
    · exact ⟨a, List.mem_cons_self, h.1⟩
    · obtain ⟨y, hy, q⟩ := A2.mem h.2 x hx
      exact ⟨y, List.mem_cons_of_mem _ hy, q⟩
  | [], _ :: _, h, _, _ => h.elim
  | _ :: _, [], h, _, _ => h.elim
theorem A2.map_eq {α β : Type} {T : α → β → Prop} {k : β → α} : ∀ {as : List α} {bs : List β}, A2 T as bs → (∀ a b, T a b → k b = a) → bs.map k = as
  | [], [], _, _ => rfl
  | a :: as, b :: bs, h, q => by simp [q a b h.1, A2.map_eq h.2 q]
  | [], _ :: _, h, _ => h.elim
  | _ :: _, [], h, _ => h.elim
theorem A2.of_map {α β : Type} {T : α → β → Prop} {k : β → α} : ∀ {bs : List β}, (∀ b ∈ bs, T (k b) b) → A2 T (bs.map k) bs
  | [], _ => trivial
  | b :: bs, h => ⟨h b List.mem_cons_self, A2.of_map fun x hx => h x (List.mem_cons_of_mem _ hx)⟩
theorem reps_A2 {K : PySem.W.Frag} {cl : Str → Option Addr} {G : Hp} : ∀ {ps : List (Int × Int)} {xs : List V}, Reps K cl G (ps.map pD) xs ↔ A2 (fun p x => Rep K cl G (pD p) x) ps xs
  | [], xs => by
    constructor
    · intro h; cases (show xs = [] from h); trivial
    · intro h; cases xs with
      | nil => exact Reps.nil
      | cons => exact h.elim
  | p :: ps, xs => by
    constructor
    · rintro ⟨v, r, rfl, h, t⟩; exact ⟨h, reps_A2.mp t⟩
    · intro h; cases xs with
      | nil => exact h.elim
      | cons x xs => exact Reps.cons h.1 (reps_A2.mpr h.2)
def rSortedT (K : PySem.W.Frag) : List V → Hp → VK → Prop := fun vs H Q => ∃ (a : Addr) (xs : List V) (ps : List (Int × Int)) (T : Int × Int → V → Prop), vs = [V.ref a] ∧ SqL K H a xs ∧ A2 T ps xs ∧ (∀ p x, T p x → ∃ t, x = V.ref t ∧ SqT K H t [.int p.1, .int p.2]) ∧
  ∀ ys p, A2 T (srtP ps) ys → H p = none → Q (.ref p) (upd H p (.lst ys))
open Classical in
theorem cr_sortedT {X : Cx} : CallR X (.builtin "sorted") (rSortedT X.K) := by
  intro pins s σ H vs us Q I r h
  obtain ⟨a, xs, ps, T, rfl, hs, ha, hT, q⟩ := h
  have key : ∃ k : V → Int × Int, ∀ p x, T p x → k x = p := by
    refine ⟨fun x => if h : ∃ p, T p x then Classical.choose h else (0, 0), fun p x hp => ?_⟩
    have ex : ∃ p, T p x := ⟨p, hp⟩
    simp only [dif_pos ex]
    obtain ⟨t1, e1, s1⟩ := hT _ _ (Classical.choose_spec ex)
    obtain ⟨t2, e2, s2⟩ := hT _ _ hp
    rw [e1] at e2; cases e2
    have := I.tuple_inj s1 s2
    generalize Classical.choose ex = z at this
    obtain ⟨z1, z2⟩ := z
    obtain ⟨p1, p2⟩ := p
    simp at this
    simp [this]
  obtain ⟨k, hk⟩ := key
  obtain ⟨its, rv, hl, hz⟩ := I.list hs
  obtain ⟨u, rfl, ru⟩ := vals1 r
  obtain rfl : u = Value.ref a := ru
  have hx : ∀ x ∈ xs, ∃ t, x = V.ref t ∧ SqT X.K H t [.int (k x).1, .int (k x).2] := fun x hx => by
    obtain ⟨p, _, tp⟩ := ha.mem x hx
    obtain ⟨t, e, s⟩ := hT p x tp
    exact ⟨t, e, by rw [hk p x tp]; exact s⟩
  obtain ⟨e1, e2⟩ := refs_back rv fun x m => by
    obtain ⟨t, e, _⟩ := hx x m
    exact ⟨t, e⟩
  refine SrtO.sorted_pairsO (k := fun u => k (backV u)) hl.isList (by rw [← rv.length]; exact hz) (fun v hv => ?_) fun h' d out h1 h2 kp hd hn => ?_
  · obtain ⟨t, rfl⟩ := e2 v hv
    have hm : V.ref t ∈ xs := by rw [e1]; exact List.mem_map.mpr ⟨_, hv, rfl⟩
    obtain ⟨t', e, ht⟩ := hx _ hm
    cases e
    obtain ⟨its2, r2, ⟨o, ho, hc, n, hd⟩, _⟩ := I.tuple ht
    obtain ⟨u1, u2, rfl, ri, rj⟩ := vals2 r2
    obtain ⟨t1, rfl⟩ := ri
    obtain ⟨t2, rfl⟩ := rj
    exact ⟨t, o, t1, t2, n, rfl, ho, hc, hd⟩
  · have h3 : ∀ u ∈ out, ∃ a, u = Value.ref a := fun u hu => e2 u (h2.perm.mem_iff.mp hu)
    obtain ⟨n, hn⟩ := hn
    have hb : SrtO.Stb (ltP k) (out.map backV) xs := by
      rw [e1]
      exact SrtO.Stb.map (ltP_swo k) backV h2
    have hs2 : SrtO.Srtd (ltP k) (out.map backV) := SrtO.srtd_map h1
    have hA : A2 T (srtP ps) (out.map backV) := by
      have e3 : xs.map k = ps := ha.map_eq hk
      have e4 : (out.map backV).map k = srtP ps := by
        refine srP_uniq ?_ srtP_srt ?_
        · exact List.pairwise_map.mpr hs2
        · rw [← e3]
          exact (hb.perm.map k).trans srtP_perm.symm
      rw [← e4]
      refine A2.of_map fun y hy => ?_
      obtain ⟨p, _, tp⟩ := ha.mem y (hb.perm.mem_iff.mp hy)
      rw [hk p y tp]; exact tp
    refine ⟨.ref d, upd H d (.lst (out.map backV)), I.laid (t' := s.toks) kp hd ⟨?_, out, n, vals_back h3, hn⟩, rfl, q _ d hA (I.hok.fresh hd)⟩
    rw [hb.len]
    exact hz
section
variable {M : Mc}
theorem cf_sortP : CallF M (rSortedT M.K) gSortP := by
  intro an ρ σ H ts ds es d vs Q e l R q
  unfold gSortP at e
  split at e
  · rename_i fs
    obtain ⟨ps, e1, rfl⟩ := Option.map_eq_some_iff.mp e
    have e2 := asP_eq e1
    subst e2
    obtain ⟨v, rfl⟩ := len1 (es := []) l
    obtain ⟨G, own, r⟩ := R
    obtain ⟨a, xs, rfl, g, rx⟩ := (show ∃ a xs, v = .ref a ∧ G a = some (.lst xs) ∧ Reps M.K M.cl G (ps.map pD) xs from r.tmp.head)
    refine ⟨a, xs, ps, fun p x => Rep M.K M.cl G (pD p) x, rfl, SqL.of (r.sub _ _ g), reps_A2.mp rx, fun p x hp => ?_, fun ys p hA hn => ?_⟩
    · obtain ⟨t, us, rfl, sq, ru⟩ := (show ∃ t us, x = .ref t ∧ SqT M.K G t us ∧ Reps M.K M.cl G [.int p.1, .int p.2] us from hp)
      obtain ⟨u1, r1, rfl, h1, u2, r2, rfl, h2, h3⟩ := ru
      cases (show u1 = _ from h1)
      cases (show u2 = _ from h2)
      cases (show r2 = [] from h3)
      exact ⟨t, rfl, r.sub.sqT sq⟩
    · refine q p _ ?_
      exact r.newAn hn ⟨ys, upd_same, reps_A2.mpr hA⟩ r.tmp.tail
  · cases e
end
end Dl
end
section
set_option maxHeartbeats 4000000
/-! DlP: two clauses, dict comprehensions, dicts. -/
namespace Dl
open PySem PySem.Spec PyProof.Rows L2
/-! ### two clauses -/
def lc2D (vs vs1 : List Nat) (g : D → En → Rs Unit) (ft : En → Rs Bool) (fi1 : En → Rs (List D)) (g1 : D → En → Rs Unit) (ft1 : En → Rs Bool) (fe : En → Rs D) : List D → List D → En → Rs (List D)
  | [], acc, ρ => .ok acc ρ
  | d :: es, acc, ρ => match g d ρ with
    | .ok _ ρ1 => (match ft ρ1 with
      | .ok true ρ2 => (match fi1 ρ2 with
        | .ok es1 ρ3 => if okW ρ3 vs1 = true then (match lcD vs1 g1 ft1 fe es1 acc (wipeR ρ3 vs1) with
          | .ok acc' ρ4 => if okW ρ4 vs = true then lc2D vs vs1 g ft fi1 g1 ft1 fe es acc' (wipeR ρ4 vs) else .stuck
          | _ => .stuck) else .stuck
        | _ => .stuck)
      | .ok false ρ2 => if okW ρ2 vs = true then lc2D vs vs1 g ft fi1 g1 ft1 fe es acc (wipeR ρ2 vs) else .stuck
      | _ => .stuck)
    | _ => .stuck
def fLc2 (vs vs1 : List Nat) (fi : En → Rs (List D)) (g : D → En → Rs Unit) (ft : En → Rs Bool) (fi1 : En → Rs (List D)) (g1 : D → En → Rs Unit) (ft1 : En → Rs Bool) (fe : En → Rs D) : En → Rs D := fun ρ => (fi ρ).bind fun es ρ1 => if okW ρ1 vs = true then lcEnd (lc2D vs vs1 g ft fi1 g1 ft1 fe es [] (wipeR ρ1 vs)) else .stuck
section
variable {X : Cx} {M : Mc} {W : WX} {vs vs1 : List Nat} {g g1 : D → En → Rs Unit} {ft ft1 : En → Rs Bool} {fe : En → Rs D} {fi fi1 : En → Rs (List D)}
theorem lc2D_gone : ∀ {es acc out : List D} {ρ ρ' : En}, lc2D vs vs1 g ft fi1 g1 ft1 fe es acc ρ = .ok out ρ' → Gone ρ vs → Gone ρ' vs
  | [], acc, out, ρ, ρ', h, k => by cases h; exact k
  | d :: es, acc, out, ρ, ρ', h, k => by
    unfold lc2D at h
    split at h
    · split at h
      · split at h
        · split at h
          · split at h
            · split at h
              · exact lc2D_gone h gone_wipe
              · cases h
            · cases h
          · cases h
        · cases h
      · split at h
        · exact lc2D_gone h gone_wipe
        · cases h
      · cases h
    · cases h
theorem lc2_main {σ : St} {H : Hp} {Q : VK} (hv : ∀ i ∈ vs1, i ∈ vs) (h : tLs M W (fLc2 vs vs1 fi g ft fi1 g1 ft1 fe) σ H Q) : tLc2 (tI M W fi) (tG M vs g) (tB1 M W0 ft) (tI M W0 fi1) (tG M vs1 g1) (tB1 M W0 ft1) (tE M W0 fe) vs vs1 σ H Q := by
  obtain ⟨an, ρ, ts, ds, R, h⟩ := h
  refine ⟨an, ρ, ts, ds, R, ?_⟩
  unfold fLc2 at h
  cases q : fi ρ with
  | stuck => rw [q] at h; exact h
  | err c fs es ρ1 => rw [q] at h; exact h
  | ok es ρ1 =>
    rw [q] at h
    intro J H1 tv td l R1 It1 Dd hD
    have h : LOk M an ts ds W σ (if okW ρ1 vs = true then lcEnd (lc2D vs vs1 g ft fi1 g1 ft1 fe es [] (wipeR ρ1 vs)) else .stuck) Q := h
    by_cases c : okW ρ1 vs = true
    · rw [if_pos c] at h
      cases q2 : lc2D vs vs1 g ft fi1 g1 ft1 fe es [] (wipeR ρ1 vs) with
      | stuck => rw [q2] at h; exact h.elim
      | err c fs es ρ1 => rw [q2] at h; exact h.elim
      | ok out ρe =>
        rw [q2] at h
        have R2 : RelX M ((Dd, .lst []) :: an) ρ1 σ (upd H1 Dd (.lst [])) (tv ++ ts) (td ++ ds) := R1.newAn hD fun G s r => ⟨⟨[], upd_same, Reps.nil⟩, r⟩
        have fin : ∀ H', RelX M ((Dd, .lst out) :: an) ρe (L2.wipe σ vs) H' (tv ++ ts) (td ++ ds) → Q (.ref Dd) H' := fun H' R' => h Dd H' ((R'.unwipe (lc2D_gone q2 gone_wipe)).drops l)
        refine ⟨fun i m H => m = es.length - i ∧ i ≤ es.length ∧ ∃ ρ acc, RelX M ((Dd, .lst acc) :: an) ρ (L2.wipe σ vs) H (tv ++ ts) (td ++ ds) ∧ lc2D vs vs1 g ft fi1 g1 ft1 fe (es.drop i) acc ρ = .ok out ρe, ⟨es.length, by simp, Nat.zero_le _, _, [], R2.wipe c, q2⟩, ?_⟩
        rintro i m H ⟨rfl, hi, ρ, acc, R, h⟩
        have it := It1 i _ ρ _ H ts ds R
        by_cases hlt : i < es.length
        · have e : es.drop i = es[i] :: es.drop (i + 1) := List.drop_eq_getElem_cons hlt
          rw [e] at h
          obtain ⟨go, yl⟩ := it.1 es[i] (List.getElem?_eq_getElem hlt)
          refine .inr ⟨go, fun H => ∃ ρ acc, RelX M ((Dd, .lst acc) :: an) ρ (L2.wipe σ vs) H (tv ++ ts) (td ++ ds) ∧ lc2D vs vs1 g ft fi1 g1 ft1 fe (es.drop (i + 1)) acc ρ = .ok out ρe, fun H' ⟨ρ', acc', R', h'⟩ => ⟨es.length - (i + 1), by omega, rfl, hlt, ρ', acc', R', h'⟩, fun x H' y => ?_⟩
          refine ⟨(Dd, .lst acc) :: an, ρ, tv ++ ts, td ++ ds, es[i], yl x H' y, ?_⟩
          unfold lc2D at h
          cases q1 : g es[i] ρ with
          | stuck => rw [q1] at h; cases h
          | err c fs es ρ1 => rw [q1] at h; cases h
          | ok u ρ1 =>
            rw [q1] at h
            dsimp only at h ⊢
            intro σ2 H2 R2 hw
            have hw' : L2.wipe σ2 vs = L2.wipe σ vs := by rw [hw]; exact wipe_wipe fun i hi => hi
            refine ⟨hw', (Dd, .lst acc) :: an, ρ1, tv ++ ts, td ++ ds, R2, ?_⟩
            cases q3 : ft ρ1 with
            | stuck => rw [q3] at h; cases h
            | err c fs es ρ1 => rw [q3] at h; cases h
            | ok b ρ2 =>
              rw [q3] at h
              intro H3 R3
              cases b with
              | false =>
                dsimp only at h
                by_cases c : okW ρ2 vs = true
                · rw [if_pos c] at h
                  refine iteF ⟨wipeR ρ2 vs, acc, ?_, h⟩
                  rw [← hw']; exact R3.wipe c
                · rw [if_neg c] at h; cases h
              | true =>
                dsimp only at h
                refine iteT ⟨(Dd, .lst acc) :: an, ρ2, tv ++ ts, td ++ ds, R3, ?_⟩
                cases q4 : fi1 ρ2 with
                | stuck => rw [q4] at h; cases h
                | err c fs es ρ1 => rw [q4] at h; cases h
                | ok es1 ρ3 =>
                  rw [q4] at h
                  dsimp only at h
                  intro J1 H4 tv1 td1 l1 R4 It2
                  by_cases c : okW ρ3 vs1 = true
                  · rw [if_pos c] at h
                    cases q5 : lcD vs1 g1 ft1 fe es1 acc (wipeR ρ3 vs1) with
                    | stuck => rw [q5] at h; cases h
                    | err c fs es ρ1 => rw [q5] at h; cases h
                    | ok acc' ρ4 =>
                      rw [q5] at h
                      dsimp only at h
                      by_cases c4 : okW ρ4 vs = true
                      · rw [if_pos c4] at h
                        refine lc_loop It2 (R4.wipe c) q5 fun H5 R5 => ⟨wipeR ρ4 vs, acc', ?_, h⟩
                        have := (R5.wipe c4).drops l1
                        rw [wipe_wipe hv, hw'] at this
                        exact this
                      · rw [if_neg c4] at h; cases h
                  · rw [if_neg c] at h; cases h
        · have e : i = es.length := by omega
          subst e
          rw [List.drop_length] at h
          cases h
          exact .inl ⟨it.2 rfl, fin H R⟩
    · rw [if_neg c] at h; exact h.elim
theorem sl_lc2 {elt tg iter tg1 iter1 : Expr} {ifs ifs1 : List Expr} {scope : Scope} {own : List (Str × Nat)} {pos : Pos} (hc : X.calm = true) (hN : X.N.Nodup) (hi : SI X M W tg iter fi) (ok : BlkOk X.N X.env.scope scope own) (hv : own.map (·.2) = vs) (hv1 : ∀ i ∈ vs1, i ∈ vs)
    (hg : ∀ (s : Shared) (H : Hp) (C : Addr) (cl : List (Str × Addr)) (fp : List Addr), SG (X.blk s H scope (compEnvC scope cl C X.env) fp) M vs tg g)
    (ht : ∀ (s : Shared) (H : Hp) (C : Addr) (cl : List (Str × Addr)) (fp : List Addr), PTs (X.blk s H scope (compEnvC scope cl C X.env) fp) ifs (tB1 M W0 ft))
    (hi1 : ∀ (s : Shared) (H : Hp) (C : Addr) (cl : List (Str × Addr)) (fp : List Addr), SI (X.blk s H scope (compEnvC scope cl C X.env) fp) M W0 tg1 iter1 fi1)
    (hg1 : ∀ (s : Shared) (H : Hp) (C : Addr) (cl : List (Str × Addr)) (fp : List Addr), SG (X.blk s H scope (compEnvC scope cl C X.env) fp) M vs1 tg1 g1)
    (ht1 : ∀ (s : Shared) (H : Hp) (C : Addr) (cl : List (Str × Addr)) (fp : List Addr), PTs (X.blk s H scope (compEnvC scope cl C X.env) fp) ifs1 (tB1 M W0 ft1))
    (he : ∀ (s : Shared) (H : Hp) (C : Addr) (cl : List (Str × Addr)) (fp : List Addr), SE (X.blk s H scope (compEnvC scope cl C X.env) fp) M W0 elt fe)
    (hs : ∀ x, foldedSetIterable iter X.env x = pure x := by intro _; rfl) (hs1 : ∀ env x, foldedSetIterable iter1 env x = pure x := by intro _ _; rfl) :
    SL X M W (.ListComp elt [⟨tg, iter, ifs, 0⟩, ⟨tg1, iter1, ifs1, 0⟩] scope pos) (fLc2 vs vs1 fi g ft fi1 g1 ft1 fe) :=
  pe_imp (pe_lc2 (vs1 := vs1) hc hN hi ok (by rw [hv]; exact hv1) hg ht hi1 hg1 ht1 he hs hs1) fun σ H Q h => by rw [hv]; exact lc2_main hv1 h
end
end Dl
end
section
set_option maxHeartbeats 4000000
/-! DlQ: dict comprehensions, dicts. -/
namespace Dl
open PySem PySem.Spec PyProof.Rows L2
/-! ### what is held aside gets another content -/
section
variable {M : Mc} {an : List (Addr × D)} {ρ : En} {σ : St} {H : Hp} {ts us : List V} {ds es : List D} {p : Addr} {d0 : D}
theorem RelX.anPutG (R : RelX M ((p, d0) :: an) ρ σ H us es) : ∃ G, OwAt M.K M.cl G H p d0 ∧ Sub G H ∧ Reps M.K M.cl G es us ∧
    ∀ (o' : HO) (d' : D) (ts : List V) (ds : List D), OwAt M.K M.cl G (upd H p o') p d' → Reps M.K M.cl G ds ts → RelX M ((p, d') :: an) ρ σ (upd H p o') ts ds := by
  obtain ⟨G, own, r⟩ := R
  obtain ⟨z3, z4, z5⟩ := r.anp _ List.mem_cons_self
  refine ⟨G, z3, r.sub, r.tmp, fun o' d' ts ds q1 q2 => ⟨G, own, ?_⟩⟩
  have keep : ∀ b u, b ≠ p → H b = some u → (upd H p o') b = some u := fun b u hb e => by rw [upd_ne hb]; exact e
  have gne : ∀ b u, G b = some u → b ≠ p := fun b u e c => by rw [c] at e; rw [z4] at e; cases e
  have one : ∀ i, IsOw ρ i → own i ≠ p := fun i hi => r.apart i hi _ List.mem_cons_self
  have nd := List.nodup_cons.mp (show (p :: an.map (·.1)).Nodup from r.anN)
  refine { sub := fun b u e => keep b u (gne b u e) (r.sub b u e), g0 := r.g0, fr := r.fr, ext := fun b u e w => keep b u ?_ (r.ext b u e w), wok := fun b w => ?_, shp := r.shp, owp := fun j d' hj => ?_, bop := fun j d' hj => ?_, anp := fun x hx => ?_, inj := r.inj, apart := fun i hi x hx => ?_, anN := r.anN, len := r.len, tmp := q2 }
  · rintro rfl
    rw [z5] at e; cases e
  · by_cases hb : b = p
    · exact ⟨_, by rw [hb]; exact upd_same⟩
    · obtain ⟨u, hu⟩ := r.wok b w; exact ⟨u, keep b u hb hu⟩
  · obtain ⟨c1, c2, c3, c4⟩ := r.owp j d' hj
    exact ⟨c1, c2.mono Sub.rfl' fun u hu => keep _ u (one j ⟨_, .inl hj⟩) hu, c3, c4⟩
  · obtain ⟨c1, c2, c3, c4⟩ := r.bop j d' hj
    exact ⟨c1, c2.mono Sub.rfl' fun u hu => keep _ u (one j ⟨_, .inr hj⟩) hu, c3, c4⟩
  · rcases List.mem_cons.mp hx with e | hx
    · subst e
      exact ⟨q1, z4, z5⟩
    · obtain ⟨c2, c3, c4⟩ := r.anp x (List.mem_cons_of_mem _ hx)
      exact ⟨c2.mono Sub.rfl' fun u hu => keep _ u (fun c => nd.1 (List.mem_map.mpr ⟨x, hx, c⟩)) hu, c3, c4⟩
  · rcases List.mem_cons.mp hx with e | hx
    · subst e; exact one i hi
    · exact r.apart i hi x (List.mem_cons_of_mem _ hx)
end
/-! ### keys and values -/
def hasK (k : Key) (ks : List Key) : Bool := ks.any fun j => decide (j = k)
def repK {α : Type} (k : Key) (x : α) : List Key → List α → List α
  | j :: ks, y :: ys => (if j = k then x else y) :: repK k x ks ys
  | _, _ => []
def pKs (k : Key) (ks : List Key) : List Key := if hasK k ks = true then ks else ks ++ [k]
def pXs {α : Type} (k : Key) (x : α) (ks : List Key) (xs : List α) : List α := if hasK k ks = true then repK k x ks xs else xs ++ [x]
theorem repK_zip {k : Key} {v : V} : ∀ {ks : List Key} {vs : List V}, ks.length = vs.length → ((ks.zip vs).map fun kv => if kv.1 = k then (kv.1, v) else kv) = ks.zip (repK k v ks vs) ∧ (repK k v ks vs).length = ks.length
  | [], [], _ => ⟨rfl, rfl⟩
  | j :: ks, y :: ys, h => by
    obtain ⟨h1, h2⟩ := repK_zip (k := k) (v := v) (ks := ks) (vs := ys) (by simpa using h)
    by_cases c : j = k
    · simp [repK, c, h1, h2]
    · simp [repK, c, h1, h2]
  | [], _ :: _, h => by cases h
  | _ :: _, [], h => by cases h
theorem hasK_zip {k : Key} : ∀ {ks : List Key} {vs : List V}, ks.length = vs.length → ((ks.zip vs).any fun kv => decide (kv.1 = k)) = hasK k ks
  | [], [], _ => rfl
  | j :: ks, y :: ys, h => by
    have := hasK_zip (k := k) (ks := ks) (vs := ys) (by simpa using h)
    unfold hasK at this ⊢
    simp [this]
  | [], _ :: _, h => by cases h
  | _ :: _, [], h => by cases h
theorem putK_zip {k : Key} {v : V} {ks : List Key} {vs : List V} (h : ks.length = vs.length) : L2.putK (ks.zip vs) k v = (pKs k ks).zip (pXs k v ks vs) ∧ (pKs k ks).length = (pXs k v ks vs).length := by
  unfold L2.putK pKs pXs
  rw [hasK_zip h]
  obtain ⟨h1, h2⟩ := repK_zip (k := k) (v := v) h
  by_cases c : hasK k ks = true
  · rw [if_pos c, if_pos c, if_pos c]; exact ⟨h1, h2.symm⟩
  · rw [if_neg c, if_neg c, if_neg c]
    exact ⟨by rw [List.zip_append h]; rfl, by simp [h]⟩
theorem reps_repK {K : PySem.W.Frag} {cl : Str → Option Addr} {G : Hp} {k : Key} {d : D} {v : V} (h : Rep K cl G d v) : ∀ {ks : List Key} {ds : List D} {vs : List V}, Reps K cl G ds vs → Reps K cl G (repK k d ks ds) (repK k v ks vs)
  | [], ds, vs, _ => by
    cases ds <;> cases vs <;> exact Reps.nil
  | j :: ks, [], vs, q => by cases (show vs = [] from q); exact Reps.nil
  | j :: ks, e :: ds, vs, q => by
    obtain ⟨y, r, rfl, h1, h2⟩ := q
    have := reps_repK (k := k) h (ks := ks) h2
    by_cases c : j = k
    · simp only [repK, if_pos c]; exact Reps.cons h this
    · simp only [repK, if_neg c]; exact Reps.cons h1 this
theorem reps_pXs {K : PySem.W.Frag} {cl : Str → Option Addr} {G : Hp} {k : Key} {d : D} {v : V} {ks : List Key} {ds : List D} {vs : List V} (h : Rep K cl G d v) (q : Reps K cl G ds vs) : Reps K cl G (pXs k d ks ds) (pXs k v ks vs) := by
  unfold pXs
  by_cases c : hasK k ks = true
  · rw [if_pos c, if_pos c]; exact reps_repK h q
  · rw [if_neg c, if_neg c]; exact q.append (Reps.cons h Reps.nil)
/-! ### dict comprehensions -/
def dcD (vs : List Nat) (g : D → En → Rs Unit) (ft : En → Rs Bool) (fk fv : En → Rs D) : List D → List Key → List D → En → Rs (List Key × List D)
  | [], ks, acc, ρ => .ok (ks, acc) ρ
  | d :: es, ks, acc, ρ => match g d ρ with
    | .ok _ ρ1 => (match ft ρ1 with
      | .ok true ρ2 => (match fk ρ2 with
        | .ok kd ρ3 => (match fv ρ3 with
          | .ok v ρ4 => (match keyOf kd with
            | some k => if (decide (ks.length < sizeLine) && okW ρ4 vs) = true then dcD vs g ft fk fv es (pKs k ks) (pXs k v ks acc) (wipeR ρ4 vs) else .stuck
            | none => .stuck)
          | _ => .stuck)
        | _ => .stuck)
      | .ok false ρ2 => if okW ρ2 vs = true then dcD vs g ft fk fv es ks acc (wipeR ρ2 vs) else .stuck
      | _ => .stuck)
    | _ => .stuck
def dcEnd (r : Rs (List Key × List D)) : Rs D := match r with
  | .ok out ρ => .ok (.dic out.1 out.2) ρ
  | _ => .stuck
def fDc (vs : List Nat) (fi : En → Rs (List D)) (g : D → En → Rs Unit) (ft : En → Rs Bool) (fk fv : En → Rs D) : En → Rs D := fun ρ => (fi ρ).bind fun es ρ1 => if okW ρ1 vs = true then dcEnd (dcD vs g ft fk fv es [] [] (wipeR ρ1 vs)) else .stuck
section
variable {X : Cx} {M : Mc} {W : WX} {vs : List Nat} {g : D → En → Rs Unit} {ft : En → Rs Bool} {fk fv : En → Rs D} {fi : En → Rs (List D)}
theorem dcD_gone : ∀ {es : List D} {ks : List Key} {acc : List D} {out : List Key × List D} {ρ ρ' : En}, dcD vs g ft fk fv es ks acc ρ = .ok out ρ' → Gone ρ vs → Gone ρ' vs
  | [], ks, acc, out, ρ, ρ', h, k => by cases h; exact k
  | d :: es, ks, acc, out, ρ, ρ', h, k => by
    unfold dcD at h
    split at h
    · split at h
      · split at h
        · split at h
          · split at h
            · split at h
              · exact dcD_gone h gone_wipe
              · cases h
            · cases h
          · cases h
        · cases h
      · split at h
        · exact dcD_gone h gone_wipe
        · cases h
      · cases h
    · cases h
theorem dc_main {σ : St} {H : Hp} {Q : VK} (h : tLs M W (fDc vs fi g ft fk fv) σ H Q) : tDc (tI M W fi) (tG M vs g) (tB1 M W0 ft) (tE M W0 fk) (tE M W0 fv) vs σ H Q := by
  obtain ⟨an, ρ, ts, ds, R, h⟩ := h
  refine ⟨an, ρ, ts, ds, R, ?_⟩
  unfold fDc at h
  cases q : fi ρ with
  | stuck => rw [q] at h; exact h
  | err c fs es ρ1 => rw [q] at h; exact h
  | ok es ρ1 =>
    rw [q] at h
    intro J H1 tv td l R1 It1 Dd hD
    have h : LOk M an ts ds W σ (if okW ρ1 vs = true then dcEnd (dcD vs g ft fk fv es [] [] (wipeR ρ1 vs)) else .stuck) Q := h
    by_cases c : okW ρ1 vs = true
    · rw [if_pos c] at h
      cases q2 : dcD vs g ft fk fv es [] [] (wipeR ρ1 vs) with
      | stuck => rw [q2] at h; exact h.elim
      | err c fs es ρ1 => rw [q2] at h; exact h.elim
      | ok out ρe =>
        rw [q2] at h
        have R2 : RelX M ((Dd, .dic [] []) :: an) ρ1 σ (upd H1 Dd (.dK [])) (tv ++ ts) (td ++ ds) := R1.newAn hD fun G s r => ⟨⟨[], upd_same, rfl, Reps.nil⟩, r⟩
        have fin : ∀ H', RelX M ((Dd, .dic out.1 out.2) :: an) ρe (L2.wipe σ vs) H' (tv ++ ts) (td ++ ds) → Q (.ref Dd) H' := fun H' R' => h Dd H' ((R'.unwipe (dcD_gone q2 gone_wipe)).drops l)
        refine ⟨fun i m H => m = es.length - i ∧ i ≤ es.length ∧ ∃ ρ ks acc, RelX M ((Dd, .dic ks acc) :: an) ρ (L2.wipe σ vs) H (tv ++ ts) (td ++ ds) ∧ dcD vs g ft fk fv (es.drop i) ks acc ρ = .ok out ρe, ⟨es.length, by simp, Nat.zero_le _, _, [], [], R2.wipe c, q2⟩, ?_⟩
        rintro i m H ⟨rfl, hi, ρ, ks, acc, R, h⟩
        have it := It1 i _ ρ _ H ts ds R
        by_cases hlt : i < es.length
        · have e : es.drop i = es[i] :: es.drop (i + 1) := List.drop_eq_getElem_cons hlt
          rw [e] at h
          obtain ⟨go, yl⟩ := it.1 es[i] (List.getElem?_eq_getElem hlt)
          refine .inr ⟨go, fun H => ∃ ρ ks acc, RelX M ((Dd, .dic ks acc) :: an) ρ (L2.wipe σ vs) H (tv ++ ts) (td ++ ds) ∧ dcD vs g ft fk fv (es.drop (i + 1)) ks acc ρ = .ok out ρe, fun H' ⟨ρ', ks', acc', R', h'⟩ => ⟨es.length - (i + 1), by omega, rfl, hlt, ρ', ks', acc', R', h'⟩, fun x H' y => ?_⟩
          refine ⟨(Dd, .dic ks acc) :: an, ρ, tv ++ ts, td ++ ds, es[i], yl x H' y, ?_⟩
          unfold dcD at h
          cases q1 : g es[i] ρ with
          | stuck => rw [q1] at h; cases h
          | err c fs es ρ1 => rw [q1] at h; cases h
          | ok u ρ1 =>
            rw [q1] at h
            dsimp only at h ⊢
            intro σ2 H2 R2 hw
            have hw' : L2.wipe σ2 vs = L2.wipe σ vs := by rw [hw]; exact wipe_wipe fun i hi => hi
            refine ⟨hw', (Dd, .dic ks acc) :: an, ρ1, tv ++ ts, td ++ ds, R2, ?_⟩
            cases q3 : ft ρ1 with
            | stuck => rw [q3] at h; cases h
            | err c fs es ρ1 => rw [q3] at h; cases h
            | ok b ρ2 =>
              rw [q3] at h
              intro H3 R3
              cases b with
              | false =>
                dsimp only at h
                by_cases c : okW ρ2 vs = true
                · rw [if_pos c] at h
                  refine iteF ⟨wipeR ρ2 vs, ks, acc, ?_, h⟩
                  rw [← hw']; exact R3.wipe c
                · rw [if_neg c] at h; cases h
              | true =>
                dsimp only at h
                refine iteT ⟨(Dd, .dic ks acc) :: an, ρ2, tv ++ ts, td ++ ds, R3, ?_⟩
                cases q4 : fk ρ2 with
                | stuck => rw [q4] at h; cases h
                | err c fs es ρ1 => rw [q4] at h; cases h
                | ok kd ρ3 =>
                  rw [q4] at h
                  dsimp only at h
                  intro y4 H4 R4
                  refine ⟨(Dd, .dic ks acc) :: an, ρ3, y4 :: (tv ++ ts), kd :: (td ++ ds), R4, ?_⟩
                  cases q5 : fv ρ3 with
                  | stuck => rw [q5] at h; cases h
                  | err c fs es ρ1 => rw [q5] at h; cases h
                  | ok v ρ4 =>
                    rw [q5] at h
                    dsimp only at h
                    intro z5 H5 R5
                    cases q6 : keyOf kd with
                    | none => rw [q6] at h; cases h
                    | some k =>
                      rw [q6] at h
                      dsimp only at h
                      by_cases c : (decide (ks.length < sizeLine) && okW ρ4 vs) = true
                      · rw [if_pos c] at h
                        obtain ⟨c1, c2⟩ := Bool.and_eq_true_iff.mp c
                        obtain ⟨G, ⟨us, g1, g2, g3⟩, s, g4, g5⟩ := R5.anPutG
                        obtain ⟨p1, p2⟩ := putK_zip (k := k) (v := z5) g2
                        refine ⟨ks.zip us, k, keyOf_v q6 g4.tail.head, g1, by rw [List.length_zip, ← g2, Nat.min_self]; exact of_decide_eq_true c1, wipeR ρ4 vs, _, _, ?_, h⟩
                        rw [← hw', p1]
                        exact (g5 _ (.dic (pKs k ks) (pXs k v ks acc)) _ _ ⟨_, upd_same, p2, reps_pXs g4.head g3⟩ g4.tail.tail).wipe c2
                      · rw [if_neg c] at h; cases h
        · have e : i = es.length := by omega
          subst e
          rw [List.drop_length] at h
          cases h
          exact .inl ⟨it.2 rfl, fin H R⟩
    · rw [if_neg c] at h; exact h.elim
theorem sl_dc {kx vx tg iter : Expr} {ifs : List Expr} {scope : Scope} {own : List (Str × Nat)} {pos : Pos} (hc : X.calm = true) (hN : X.N.Nodup) (hi : SI X M W tg iter fi) (ok : BlkOk X.N X.env.scope scope own) (hv : own.map (·.2) = vs)
    (hg : ∀ (s : Shared) (H : Hp) (C : Addr) (cl : List (Str × Addr)) (fp : List Addr), SG (X.blk s H scope (compEnvC scope cl C X.env) fp) M vs tg g)
    (ht : ∀ (s : Shared) (H : Hp) (C : Addr) (cl : List (Str × Addr)) (fp : List Addr), PTs (X.blk s H scope (compEnvC scope cl C X.env) fp) ifs (tB1 M W0 ft))
    (hk : ∀ (s : Shared) (H : Hp) (C : Addr) (cl : List (Str × Addr)) (fp : List Addr), SE (X.blk s H scope (compEnvC scope cl C X.env) fp) M W0 kx fk)
    (he : ∀ (s : Shared) (H : Hp) (C : Addr) (cl : List (Str × Addr)) (fp : List Addr), SE (X.blk s H scope (compEnvC scope cl C X.env) fp) M W0 vx fv)
    (hs : ∀ x, foldedSetIterable iter X.env x = pure x := by intro _; rfl) : SL X M W (.DictComp kx vx [⟨tg, iter, ifs, 0⟩] scope pos) (fDc vs fi g ft fk fv) :=
  pe_imp (pe_dc hc hN hi ok hg ht hk he hs) fun σ H Q h => by rw [hv]; exact dc_main h
end
/-! ### dict(pairs) -/
def asK : List D → Option (List (Key × D))
  | [] => some []
  | .tup [k, d] :: ds => (keyOf k).bind fun k => (asK ds).map ((k, d) :: ·)
  | _ => none
def mrgD : List (Key × D) → List Key → List D → List Key × List D
  | [], ks, ds => (ks, ds)
  | (k, d) :: r, ks, ds => mrgD r (pKs k ks) (pXs k d ks ds)
def gDict : List D → Option D
  | [.lst ds] => (asK ds).map fun kd => .dic (mrgD kd [] []).1 (mrgD kd [] []).2
  | _ => none
section
variable {M : Mc}
abbrev rDictP (K : PySem.W.Frag) : List V → Hp → VK → Prop := fun xs H Q => ∃ (a : Addr) (ps : List Addr) (kvs : List (Key × V)), xs = [.ref a] ∧ SqL K H a (ps.map V.ref) ∧ Paired (fun p kv => SqT K H p [kV kv.1, kv.2]) ps kvs ∧ ∀ p, H p = none → Q (.ref p) (upd H p (.dK (mergeK [] kvs)))
theorem asK_rep {K : PySem.W.Frag} {cl : Str → Option Addr} {G : Hp} : ∀ {ds : List D} {vs : List V} {kd : List (Key × D)}, asK ds = some kd → Reps K cl G ds vs → ∃ (ps : List Addr) (kvs : List (Key × V)), vs = ps.map V.ref ∧ Paired (fun p kv => SqT K G p [kV kv.1, kv.2]) ps kvs ∧ kvs.map (·.1) = kd.map (·.1) ∧ Reps K cl G (kd.map (·.2)) (kvs.map (·.2))
  | [], vs, kd, h, r => by
    cases h; cases (show vs = [] from r)
    exact ⟨[], [], rfl, .nil, rfl, Reps.nil⟩
  | d :: ds, vs, kd, h, r => by
    unfold asK at h
    split at h
    · rename_i e; cases e
    · rename_i k x ds' e
      cases e
      obtain ⟨k', e1, e2⟩ := Option.bind_eq_some_iff.mp h
      obtain ⟨kd', e3, rfl⟩ := Option.map_eq_some_iff.mp e2
      obtain ⟨v, r', rfl, h1, h2⟩ := r
      obtain ⟨ps, kvs, rfl, q1, q2, q3⟩ := asK_rep e3 h2
      obtain ⟨t, us, rfl, sq, ru⟩ := (show ∃ t us, v = .ref t ∧ SqT K G t us ∧ Reps K cl G [k, x] us from h1)
      obtain ⟨u1, r1, rfl, a1, u2, r2, rfl, a2, a3⟩ := ru
      cases (show r2 = [] from a3)
      cases keyOf_v e1 a1
      exact ⟨t :: ps, (k', u2) :: kvs, rfl, .cons sq q1, by simp [q2], Reps.cons a2 q3⟩
    · cases h
theorem mrg_zip {K : PySem.W.Frag} {cl : Str → Option Addr} {G : Hp} : ∀ {kd : List (Key × D)} {kvs : List (Key × V)} {ks : List Key} {ds : List D} {vs : List V}, kvs.map (·.1) = kd.map (·.1) → Reps K cl G (kd.map (·.2)) (kvs.map (·.2)) → ks.length = vs.length → Reps K cl G ds vs →
    ∃ us, mergeK (ks.zip vs) kvs = (mrgD kd ks ds).1.zip us ∧ (mrgD kd ks ds).1.length = us.length ∧ Reps K cl G (mrgD kd ks ds).2 us
  | [], kvs, ks, ds, vs, e, r, l, q => by
    have : kvs = [] := by simpa using e
    subst this
    exact ⟨vs, rfl, l, q⟩
  | (k, d) :: kd, [], ks, ds, vs, e, r, l, q => by simp at e
  | (k, d) :: kd, (k2, v) :: kvs, ks, ds, vs, e, r, l, q => by
    simp only [List.map_cons, List.cons.injEq] at e
    obtain ⟨rfl, e⟩ := e
    obtain ⟨p1, p2⟩ := putK_zip (k := k2) (v := v) l
    have := mrg_zip (kd := kd) (kvs := kvs) e r.tail p2 (reps_pXs (k := k2) (ks := ks) r.head q)
    rw [← p1] at this
    exact this
theorem cf_dict : CallF M (rDictP M.K) gDict := by
  intro an ρ σ H ts ds es d vs Q e l R q
  unfold gDict at e
  split at e
  · rename_i fs
    obtain ⟨kd, e1, rfl⟩ := Option.map_eq_some_iff.mp e
    obtain ⟨v, rfl⟩ := len1 (es := []) l
    obtain ⟨G, own, r⟩ := R
    obtain ⟨a, xs, rfl, g, rx⟩ := (show ∃ a xs, v = .ref a ∧ G a = some (.lst xs) ∧ Reps M.K M.cl G fs xs from r.tmp.head)
    obtain ⟨ps, kvs, rfl, q1, q2, q3⟩ := asK_rep e1 rx
    obtain ⟨us, m1, m2, m3⟩ := mrg_zip (ks := []) (vs := []) (ds := []) q2 q3 rfl Reps.nil
    have q1' : Paired (fun p kv => SqT M.K H p [kV kv.1, kv.2]) ps kvs := by
      clear m1 m2 m3 q2 q3 g
      clear rx e1 e
      induction q1 with
      | nil => exact .nil
      | cons h t ih => exact .cons (r.sub.sqT h) ih
    refine ⟨a, ps, kvs, rfl, SqL.of (r.sub _ _ g), q1', fun p hn => q p _ ?_⟩
    rw [show mergeK [] kvs = mergeK (([] : List Key).zip ([] : List V)) kvs from rfl, m1]
    exact r.newAn hn ⟨us, upd_same, m2, m3⟩ r.tmp.tail
  · cases e
end
end Dl
end
section
set_option maxHeartbeats 4000000
/-! DlR: the keys of a fresh dict, dicts compared, properties that make objects. -/
namespace Dl
open PySem PySem.Spec PyProof.Rows L2
def keyD : Key → D
  | .inl i => .int i
  | .inr x => .str x
def iKeysD (fe : En → Rs D) : En → Rs (List D) := fun ρ => (fe ρ).bind fun d ρ1 => match d with
  | .dic ks _ => .ok (ks.map keyD) ρ1
  | _ => .stuck
def iKL (td : TE) : TI := fun σ H R => td σ H fun x H1 => ∃ d kvs, x = .ref d ∧ H1 d = some (.dK kvs) ∧ ∀ o, R (Itk d o kvs) (upd H1 d (.frz o (.dK kvs)))
theorem pi_keysL {X : Cx} {tg e : Expr} {td : TE} (he : PE X e td) : PI X tg e (iKL td) := by
  refine ⟨fun pins s σ H R I h => ?_⟩
  refine thn (he.run pins s σ H _ I h) fun u s1 ⟨x, H1, I1, rx, d, kvs, ex, hd, q⟩ => ?_
  subst ex
  obtain rfl : u = Value.ref d := rx
  obtain ⟨od, I2⟩ := I1.lock hd trivial
  have hd2 : (upd H1 d (.frz od (.dK kvs))) d = some (.frz od (.dK kvs)) := upd_same
  obtain ⟨hs, hgd, hx, es, ep, vs, hdt, hsz, kv, hm⟩ := I2.frzK hd2
  refine iter_keys hs hgd hx hdt (pi_one (tk := s1.toks) I2 _ (turn_keys _ hdt) ⟨_, Heap.get?_push_size _ rfl, rfl, ?_⟩ (q od))
  rw [hsz] <;> rfl
theorem itok_keys {M : Mc} {p : Addr} {o : Obj} {ks : List Key} {vs : List V} (l : ks.length = vs.length) : ItOk M (Itk p o (ks.zip vs)) (ks.map keyD) [.ref p] [.loc (fun _ => o) (ks.zip vs)] := by
  intro i an ρ σ H ts ds R
  obtain ⟨a, e, g⟩ := (show ∃ a, V.ref p = .ref a ∧ H a = some (.frz o (.dK (ks.zip vs))) from R.repH)
  cases e
  have hl : (ks.zip vs).length = ks.length := by rw [List.length_zip, ← l, Nat.min_self]
  refine ⟨fun d hd => ?_, fun e => ⟨g, by rw [hl]; simpa using Nat.le_of_eq e.symm⟩⟩
  rw [List.getElem?_map] at hd
  obtain ⟨k, hk, rfl⟩ := Option.map_eq_some_iff.mp hd
  have hi := (List.getElem?_eq_some_iff.mp hk).1
  refine ⟨⟨g, by rw [hl]; exact hi⟩, fun x H' y => ?_⟩
  obtain ⟨rfl, k', v', e1, rfl⟩ := y
  have hk' : k' = k := by
    have := (List.getElem?_zip_eq_some.mp e1).1
    rw [hk] at this; cases this; rfl
  subst hk'
  exact R.push fun G => by cases k' <;> rfl
section
variable {X : Cx} {M : Mc} {W : WX} {tg e : Expr} {fe : En → Rs D}
theorem si_keysL (h : SL X M W e fe) : SI X M W tg e (iKeysD fe) := by
  refine pi_imp (pi_keysL h) fun σ H R ⟨an, ρ, ts, ds, R0, h⟩ => ?_
  refine ⟨an, ρ, ts, ds, R0, ?_⟩
  unfold iKeysD at h
  revert h
  unfold LOk
  cases fe ρ with
  | stuck => exact fun h => h
  | err c fs es ρ1 => exact fun h => h
  | ok d ρ1 =>
    intro h p H' R'
    cases d with
    | dic ks es =>
      obtain ⟨G, ⟨vs, g1, g2, g3⟩, s, g4, g5⟩ := R'.anPutG
      refine ⟨p, ks.zip vs, rfl, g1, fun o => ?_⟩
      have R2 := (g5 (.frz o (.dK (ks.zip vs))) (.loc (fun _ => o) (ks.zip vs)) _ _ upd_same g4).anShare
      exact h _ _ [.ref p] [.loc (fun _ => o) (ks.zip vs)] rfl R2 (itok_keys g2)
    | _ => exact h.elim
end
/-! ### dicts that are equal -/
def dicEqK (ks : List Key) (ds : List D) (ls : List Key) (es : List D) : Bool := decide (ks.length = ls.length) && decide (ds.length = ks.length) && ((List.range ks.length).all fun i => match ks[i]?, ds[i]? with
  | some k, some d => d.flat && (match dVal ls es k with
    | some e => decide (D.v d = D.v e) && e.flat
    | none => false)
  | _, _ => false)
def opNeDic (a b : D) : Option D := match a, b with
  | .dic ks ds, .dic ls es => if dicEqK ks ds ls es = true then some (.bl false) else none
  | _, _ => none
def opEqDic (a b : D) : Option D := match a, b with
  | .dic ks ds, .dic ls es => if dicEqK ks ds ls es = true then some (.bl true) else none
  | _, _ => none
theorem flatB_of {x : V} (h : flatV x = true) : flatB x = true := by first | exact h | (cases x <;> first | rfl | cases h)
theorem dic_core {K : PySem.W.Frag} {cl : Str → Option Addr} {G : Hp} {ks ls : List Key} {ds es : List D} {vs us : List V} (h : dicEqK ks ds ls es = true) (l1 : ks.length = vs.length) (l2 : ls.length = us.length) (r1 : Reps K cl G ds vs) (r2 : Reps K cl G es us) :
    (ks.zip vs).length = (ls.zip us).length ∧ ∀ p ∈ ks.zip vs, valV (ls.zip us) p.1 = some p.2 ∧ flatB p.2 = true := by
  unfold dicEqK at h
  simp only [Bool.and_eq_true, decide_eq_true_eq, List.all_eq_true] at h
  obtain ⟨⟨h1, h2⟩, h3⟩ := h
  refine ⟨by simp [← l1, ← l2, h1], fun p hp => ?_⟩
  obtain ⟨i, hi⟩ := List.mem_iff_getElem?.mp hp
  obtain ⟨k1, k2⟩ := List.getElem?_zip_eq_some.mp hi
  have hlt := (List.getElem?_eq_some_iff.mp k1).1
  have := h3 i (List.mem_range.mpr hlt)
  rw [k1] at this
  cases hd : ds[i]? with
  | none => rw [hd] at this; cases this
  | some d =>
    rw [hd] at this
    dsimp only at this
    obtain ⟨f1, f2⟩ := Bool.and_eq_true_iff.mp this
    obtain ⟨v, e1, e2⟩ := r1.get hd
    rw [k2] at e1; cases e1
    cases hv : dVal ls es p.1 with
    | none => rw [hv] at f2; cases f2
    | some e =>
      rw [hv] at f2
      dsimp only at f2
      obtain ⟨g1, g2⟩ := Bool.and_eq_true_iff.mp f2
      obtain ⟨u, m1, m2⟩ := dVal_rep l2 r2 hv
      have a1 := flat_v f1 e2
      have a2 := flat_v g2 m2
      refine ⟨?_, flatB_of a1.2⟩
      rw [m1, a1.1, a2.1, of_decide_eq_true g1]
section
variable {M : Mc}
theorem bs_neDic : BinS M rNeDA opNeDic := by
  intro an ρ σ H ts ds a b d x y Q e R q
  unfold opNeDic at e
  split at e
  · rename_i ks ds1 ls es1
    split at e
    · rename_i c
      cases e
      obtain ⟨pb, us, rfl, gb, lb, rb⟩ := R.repH
      obtain ⟨pa, vs, rfl, ga, la, ra⟩ := R.pop.repH
      obtain ⟨z1, z2⟩ := dic_core c la lb ra rb
      exact ⟨pa, pb, _, _, rfl, rfl, ga, gb, z1, z2, q _ H (R.temps fun _ _ q => Reps.cons rfl q.tail.tail)⟩
    · cases e
  · cases e
theorem bs_eqDic : BinS M rEqDA opEqDic := by
  intro an ρ σ H ts ds a b d x y Q e R q
  unfold opEqDic at e
  split at e
  · rename_i ks ds1 ls es1
    split at e
    · rename_i c
      cases e
      obtain ⟨pb, us, rfl, gb, lb, rb⟩ := R.repH
      obtain ⟨pa, vs, rfl, ga, la, ra⟩ := R.pop.repH
      obtain ⟨z1, z2⟩ := dic_core c la lb ra rb
      exact ⟨pa, pb, _, _, rfl, rfl, ga, gb, z1, z2, q _ H (R.temps fun _ _ q => Reps.cons rfl q.tail.tail)⟩
    · cases e
  · cases e
end
/-! ### a property that makes an object -/
def fPropL (c : Str) (F : List D → Fr) (fe : En → Rs D) : En → Rs D := fProp c F fe
section
variable {X : Cx} {M : Mc} {W : WX} {e : Expr} {fe : En → Rs D} {c f : Str} {C p a : Addr} {pos : Pos} {k : Nat} {fd : FuncData} {ps : List Str} {F : List D → Fr}
theorem LOk.noErr {an : List (Addr × D)} {ts : List V} {ds : List D} {σ : St} {Q : VK} : ∀ {r : Rs D}, LOk M an ts ds W σ (Dl.noErr r) Q → LOk M an ts ds W0 σ r Q
  | .ok d ρ, h => h
  | .err .., h => h.elim
  | .stuck, h => h
theorem sl_prop (hk : M.K = X.K) (hc : ClsN X.K M.cl c C) (hp : PropOf X.K C f p a) (Fk : FnOk X.prog X.w X.K X.mg X.base (L2.CX X.prog X.w) k a fd ps (spL M.K M.cl [false] F)) (hr : Room (k + 1) X.A) (hb : Binds X.K fd ps []) (he : SE X M W e fe)
    (hab : attributeBase e f X.env (eval e X.env) = eval e X.env := by rfl) : SL X M W (.Attribute e f pos) (fPropL c F fe) := by
  refine pe_imp (pe_prop (dvs := []) (ds := []) (E := E0) he hc.cls hp Fk hr hb .nil passL hab) fun σ H Q ⟨an, ρ, ts, ds, R, h⟩ => ?_
  unfold fPropL fProp at h
  refine ⟨an, ρ, ts, ds, R, EOk.bind (P := fun r => LOk M an ts ds W σ r Q) h (fun _ _ _ _ z => z) (fun z => z) fun d ρ1 v H1 R1 h1 => ?_⟩
  by_cases hi : isI c Str.empty d = true
  · rw [if_pos hi] at h1
    obtain ⟨G, s, r⟩ := R1.rep
    obtain ⟨a, dx, fs, ev, eG, el⟩ := isI_at hi hc.at_ r
    refine ⟨a, dx, fs, ev, s _ _ eG, ?_⟩
    subst ev
    exact call_endL (as := [none]) (ws := [.ref a]) (es := [d]) (by exact List.nodup_nil) (fun _ _ _ h => h.elim) ⟨_, [], [], rfl, rfl, rfl, rfl⟩ rfl R1 h1.noErr
  · rw [if_neg hi] at h1; exact h1.elim
end
end Dl
end
section
set_option maxHeartbeats 4000000
/-! DlS: short rules for the printed derivations. -/
namespace Dl
open PySem PySem.Spec PyProof.Rows L2
/-! ### list(range(..)) -/
def rgD (i j : Int) : Option D := if (0 ≤ i ∧ i ≤ 16777216) ∧ 0 ≤ j ∧ j ≤ 16777216 then some (.lst ((List.range (j - i).toNat).map fun k => .int (i + (k : Nat)))) else none
def fRg2 (fa fb : En → Rs D) : En → Rs D := fBin (fun a b => match a, b with
  | .int i, .int j => rgD i j
  | _, _ => none) fa fb
def fRg1 (fa : En → Rs D) : En → Rs D := fUn (fun a => match a with
  | .int j => rgD 0 j
  | _ => none) fa
theorem reps_rg {K : PySem.W.Frag} {cl : Str → Option Addr} {G : Hp} (i : Int) : ∀ l : List Nat, Reps K cl G (l.map fun (k : Nat) => D.int (i + (k : Nat))) (l.map fun (k : Nat) => V.int (i + (k : Nat)))
  | [] => Reps.nil
  | _ :: l => Reps.cons rfl (reps_rg i l)
section
variable {X : Cx} {M : Mc} {W : WX} {a b : Expr} {fa fb : En → Rs D} {p q pos pos2 : Pos}
theorem rg_fin {an : List (Addr × D)} {ρ : En} {σ : St} {H : Hp} {ts us : List V} {ds es : List D} {i j : Int} {d : D} {Q : VK} (h : rgD i j = some d) (R : RelX M an ρ σ H us es) (hd : ∀ G, Reps M.K M.cl G es us → Reps M.K M.cl G ds ts) (k : ∀ p H', RelX M ((p, d) :: an) ρ σ H' ts ds → Q (.ref p) H') : RgOk i j ∧ ∀ q, H q = none → Q (.ref q) (upd H q (.lst (rgV i j))) := by
  unfold rgD at h
  split at h
  · rename_i c
    cases h
    obtain ⟨⟨c1, c2⟩, c3, c4⟩ := c
    refine ⟨RgOk.of_le c1 c4 c2 c3, fun q hq => k q _ ?_⟩
    exact R.newAn hq fun G _ r => ⟨⟨_, upd_same, reps_rg i _⟩, hd G r⟩
  · cases h
theorem sl_lrg2 (hc : X.calm = true) (hm : X.mg "list" = none) (hm2 : X.mg "range" = none) (ha : SE X M W a fa) (hb : SE X M W b fb) (hg : Gl X "list" := by rfl) (hg2 : Gl X "range" := by rfl)
    (na : starEach [a, b] X.env = (false, eval a X.env) :: starEach [b] X.env := by rfl) (nb : starEach [b] X.env = (false, eval b X.env) :: starEach [] X.env := by rfl) (hp : (backTo q (starEach [b] X.env)).any (·.1) = false := by rfl)
    (nc : starEach [.Call (.Name "range" p) [a, b] [] q] X.env = (false, eval (.Call (.Name "range" p) [a, b] [] q) X.env) :: starEach [] X.env := by rfl) : SL X M W (.Call (.Name "list" pos2) [.Call (.Name "range" p) [a, b] [] q] [] pos) (fRg2 fa fb) := by
  refine pe_imp (pe_listRg hc hg hm (prg_2 hg2 hm2 ha hb na nb hp) nc) fun σ H Q ⟨an, ρ, ts, ds, R, h⟩ => ?_
  unfold fRg2 fBin at h
  refine ⟨an, ρ, ts, ds, R, EOk.bind (P := fun r => LOk M an ts ds W σ r Q) h (fun _ _ _ _ z => z) (fun z => z) fun x ρ1 v H1 R1 h1 => ?_⟩
  refine ⟨an, ρ1, v :: ts, x :: ds, R1, EOk.bind (P := fun r => LOk M an ts ds W σ r Q) h1 (fun _ _ _ _ z => EErr.weak1 z) (fun z => z) fun y ρ2 u H2 R2 h2 => ?_⟩
  cases x with
  | int i =>
    cases y with
    | int j =>
      dsimp only at h2
      cases hr : rgD i j with
      | none => rw [hr] at h2; exact h2.elim
      | some d =>
        rw [hr] at h2
        cases (show u = _ from R2.repH)
        cases (show v = _ from R2.pop.repH)
        exact ⟨i, j, rfl, rfl, rg_fin hr R2 (fun _ r => r.tail.tail) h2⟩
    | _ => exact h2.elim
  | _ => exact h2.elim
theorem sl_lrg1 (hc : X.calm = true) (hm : X.mg "list" = none) (hm2 : X.mg "range" = none) (ha : SE X M W a fa) (hg : Gl X "list" := by rfl) (hg2 : Gl X "range" := by rfl)
    (na : starEach [a] X.env = (false, eval a X.env) :: starEach [] X.env := by rfl)
    (nc : starEach [.Call (.Name "range" p) [a] [] q] X.env = (false, eval (.Call (.Name "range" p) [a] [] q) X.env) :: starEach [] X.env := by rfl) : SL X M W (.Call (.Name "list" pos2) [.Call (.Name "range" p) [a] [] q] [] pos) (fRg1 fa) := by
  refine pe_imp (pe_listRg hc hg hm (prg_1 hg2 hm2 ha na) nc) fun σ H Q ⟨an, ρ, ts, ds, R, h⟩ => ?_
  unfold fRg1 fUn at h
  refine ⟨an, ρ, ts, ds, R, EOk.bind (P := fun r => LOk M an ts ds W σ r Q) h (fun _ _ _ _ z => z) (fun z => z) fun x ρ1 v H1 R1 h1 => ?_⟩
  cases x with
  | int j =>
    dsimp only at h1
    cases hr : rgD 0 j with
    | none => rw [hr] at h1; exact h1.elim
    | some d =>
      rw [hr] at h1
      cases (show v = _ from R1.repH)
      exact ⟨j, rfl, rg_fin hr R1 (fun _ r => r.tail) h1⟩
  | _ => exact h1.elim
/-! ### stuck -/
theorem ss_stuck {st : Stmt} : SS X M W st (fun _ => .stuck) := ⟨fun pins s σ H D I ⟨an, ρ, ts, ds, R, h⟩ => h.elim⟩
/-! ### operations joined -/
def orG (g g' : D → D → Option D) (a b : D) : Option D := match g a b with
  | some d => some d
  | none => g' a b
abbrev orR (r r' : R2) : R2 := fun x y H Q => r x y H Q ∨ r' x y H Q
theorem op_orR {f : Value → Value → Sem Value} {r r' : R2} (h : OpR X f r) (h' : OpR X f r') : OpR X f (orR r r') := OpR.or h h'
theorem bs_orR {r r' : R2} {g g' : D → D → Option D} (h : BinS M r g) (h' : BinS M r' g') : BinS M (orR r r') (orG g g') := by
  intro an ρ σ H ts ds a b d x y Q e R q
  unfold orG at e
  cases hg : g a b with
  | some z => rw [hg] at e; cases e; exact .inl (h an ρ σ H ts ds a b _ x y Q hg R q)
  | none => rw [hg] at e; exact .inr (h' an ρ σ H ts ds a b _ x y Q e R q)
/-! ### the text's facts -/
/-- a def by its place: some function data, its binding, its promise -/
def OkF (P : Program) (w : World) (K : PySem.W.Frag) (mg : Str → Option Value) (k : Nat) (a : Addr) (ps : List Str) (sp : Sp) : Prop := ∃ fd, (∀ (s : Shared) (us : List Value), us.length = ps.length → BindsTo s fd ⟨us, []⟩ (ps.zip us)) ∧ Binds K fd ps [] ∧ ∀ base : Heap, FnOk P w K mg base (L2.CX P w) k a fd ps sp
end
theorem ok_mk {P : Program} {w : World} {K : PySem.W.Frag} {mg : Str → Option Value} {k : Nat} {ps : List Str} {sp : Sp} {x qual : Str} {st : Stmt} {f : Addr} {fd : FuncData} (F : Fun K x qual st f fd)
    (h : ∀ (kV doc pm : Value) (an : Option Addr) (cdv ct : Value) (us : List Value), us.length = ps.length → bindArgs (PySem.W.fnOf x qual (defArgs st) (defBody st) (defScope st) .none kV doc pm an cdv ct) ⟨us, []⟩ = pure (ps.zip us))
    (hf : ∀ base : Heap, FnOk P w K mg base (L2.CX P w) k f fd ps sp) : OkF P w K mg k f ps sp := by
  refine ⟨fd, ?_, F.binds h, hf⟩
  obtain ⟨oc, od, kV, doc, pm, an, cdv, ct, osl, rfl, lk, hcd⟩ := F.ex
  exact fun s us hl => .of_eq (h kV doc pm an cdv ct us hl)
/-- the getter of a property -/
def ge (K : PySem.W.Frag) (C : Addr) (f : Str) : Addr := match PySem.W.recIn K (He.ma K C f) "property" with
  | some (.ref g :: _) => g
  | _ => 0
def propB (K : PySem.W.Frag) (C : Addr) (f : Str) : Bool := He.eqO (PySem.W.findIn K (.ref C) f) (some (some (.ref (He.ma K C f)))) && (He.eqO (PySem.W.specialIn K (.ref (He.ma K C f)) "__get__") (some (some (.builtin "property.__get__"))) && (decide (PySem.W.takesIn K (.ref (He.ma K C f)) = some true) && (match PySem.W.recIn K (He.ma K C f) "property" with
  | some (.ref _ :: _) => true
  | _ => false)))
theorem propB_ok {K : PySem.W.Frag} {C : Addr} {f : Str} (h : propB K C f = true) : PropOf K C f (He.ma K C f) (ge K C f) := by
  unfold propB at h
  simp only [Bool.and_eq_true, decide_eq_true_eq] at h
  obtain ⟨h1, h2, h3, h4⟩ := h
  refine ⟨He.eqO_ok h1, He.eqO_ok h2, h3, ?_⟩
  unfold ge
  split at h4
  · rename_i g r e
    rw [e]; exact ⟨r, rfl⟩
  · cases h4
def eqB (K : PySem.W.Frag) (C : Addr) : Bool := He.eqO (PySem.W.findIn K (.ref C) "__eq__") (some (some (.ref (He.ma K C "__eq__")))) && (PySem.W.isFn K (.ref (He.ma K C "__eq__")) && insEq K C (He.ma K C "__eq__"))
/-! ### the head's Hook -/
def obsZ (ex : PySem.W.Frag → Bool) (fn : List He5.DefA) (K : PySem.W.Frag) : Bool × List He.FnW := ((fn.all fun d => d.ok K) && ex K, fn.map fun d => He5.fnA K (d.at_ K))
def valZ (fn : List He5.DefA) : Bool × List He.FnW := (true, fn.map He5.DefA.val)
def SaysZ (ex : PySem.W.Frag → Bool) (fn : List He5.DefA) (K : PySem.W.Frag) : Prop := obsZ ex fn K = valZ fn
def obsZG (n : Nat) (ex : PySem.W.Frag → Bool) (fn : List He5.DefA) (g : Addr → Option Obj) : Bool × List He.FnW := obsZ ex fn (He.frG g (He5.asA g n))
def hookZ (n : Nat) (ex : PySem.W.Frag → Bool) (fn : List He5.DefA) : PySem.W.Hook where
  α := Bool × List He.FnW
  obs := fun s => obsZG n ex fn s.heap.get?
  val := fun _ => valZ fn
  says := fun _ h => ∃ K : PySem.W.Frag, K.In h ∧ SaysZ ex fn K
  of := fun _ _ e => ⟨_, He.frG_in, e⟩
  keeps := fun _ _ _ ⟨K, hK, c⟩ k => ⟨K, PySem.W.Frag.In.keeps hK k, c⟩
theorem obsZG_eq {n : Nat} {ex : PySem.W.Frag → Bool} {fn : List He5.DefA} {g : Addr → Option Obj} {s : Shared} (h : ∀ a, g a = s.heap.get? a) : obsZG n ex fn g = (hookZ n ex fn).obs s := by
  have e : g = s.heap.get? := funext h
  subst e
  rfl
section
variable {ex : PySem.W.Frag → Bool} {fn : List He5.DefA} {K : PySem.W.Frag}
theorem SaysZ.more (c : SaysZ ex fn K) : ex K = true := (Bool.and_eq_true_iff.mp (congrArg Prod.fst (show obsZ ex fn K = valZ fn from c))).2
theorem SaysZ.def_ (c : SaysZ ex fn K) {d : He5.DefA} (h : d ∈ fn) : ∃ fd, L2.FunD K d.name d.qual d.params d.body d.scope (d.dvs K) (d.kws K) (d.at_ K) fd := by
  have e1 := (Bool.and_eq_true_iff.mp (congrArg Prod.fst (show obsZ ex fn K = valZ fn from c))).1
  have e2 : fn.map (fun d => He5.fnA K (d.at_ K)) = fn.map He5.DefA.val := congrArg Prod.snd (show obsZ ex fn K = valZ fn from c)
  have e3 : He5.fnA K (d.at_ K) = d.val := by
    have := List.map_inj_left.mp e2
    exact this d h
  exact d.funD e3 (List.all_eq_true.mp e1 d h)
end
end Dl
end
section
set_option maxHeartbeats 4000000
/-! DlT: isinstance of an own class; a list of two clauses stored. -/
namespace Dl
open PySem PySem.Spec PyProof.Rows L2
/-- the class tells its instances' __class__ as object does -/
structure InsC (K : PySem.W.Frag) (C : Addr) : Prop where
  cls : Cls K C
  ha : PySem.W.findIn K (.ref C) "__class__" = some (some (.builtin "object.__class__"))
  hn : PySem.W.specialIn K (.builtin "object.__class__") "__get__" = some (some (.builtin "getset_descriptor.__get__"))
  htk : PySem.W.takesIn K (.builtin "object.__class__") = some true
  hm : PySem.W.mroIn K C (.type "object") = some true
def insCB (K : PySem.W.Frag) (C : Addr) : Bool := He.eqO (PySem.W.findIn K (.ref C) "__class__") (some (some (.builtin "object.__class__"))) && (He.eqO (PySem.W.specialIn K (.builtin "object.__class__") "__get__") (some (some (.builtin "getset_descriptor.__get__"))) && (decide (PySem.W.takesIn K (.builtin "object.__class__") = some true) && decide (PySem.W.mroIn K C (.type "object") = some true)))
theorem insCB_ok {K : PySem.W.Frag} {C : Addr} (c : Cls K C) (h : insCB K C = true) : InsC K C := by
  unfold insCB at h
  simp only [Bool.and_eq_true, decide_eq_true_eq] at h
  obtain ⟨h1, h2, h3, h4⟩ := h
  exact ⟨c, He.eqO_ok h1, He.eqO_ok h2, h3, h4⟩
def isC (c : Str) : D → Option Bool
  | .ins c' _ _ => if c' = c then some true else none
  | _ => none
section
variable {X : Cx} {M : Mc} {W : WX}
theorem se_isiC {x c : Str} {C : Addr} {e : Expr} {f : En → Rs D} {p p2 pos : Pos} (hk : M.K = X.K) (hc : M.cl c = some C) (hC : InsC X.K C) (h : SE X M W e f) (hm : X.mg "isinstance" = none) (hmT : X.mg x = some (.ref C)) (hgl : Gl X "isinstance" := by rfl) (hgT : Gl X x := by rfl)
    (hdT : (x == ("__debug__" : Str)) = false := by decide)
    (he : starEach [e, .Name x p2] X.env = (false, eval e X.env) :: starEach [.Name x p2] X.env := by rfl) (he2 : starEach [.Name x p2] X.env = (false, eval (.Name x p2) X.env) :: starEach [] X.env := by rfl) (hpl : (backTo pos (starEach [.Name x p2] X.env)).any (·.1) = false := by rfl) :
    SE X M W (.Call (.Name "isinstance" p) [e, .Name x p2] [] pos) (fIsi (isC c) f) := by
  refine pe_imp (pe_callB call_isi hgl hm (by decide +kernel) (pa_cons h (pa_cons (pe_glob (v := .ref C) hgT hmT rfl hdT) pa_nil he2) he) (by decide) (by decide) he hpl) fun σ H Q ⟨an, ρ, ts, ds, R, h⟩ => ?_
  refine ⟨an, ρ, ts, ds, R, EOk.bind (P := fun z => EOk M an ts ds W σ z Q) h (fun _ _ _ _ z => z) (fun z => z) fun d ρ1 v H1 R1 h1 => ?_⟩
  cases d with
  | ins c' fs es =>
    unfold isC at h1
    by_cases hcc : c' = c
    · subst hcc
      simp only [if_true, Option.map] at h1
      obtain ⟨a, C', dx, vs, ev, eC, eG, el, er⟩ := (show ∃ a C' dx vs, v = .ref a ∧ M.cl c' = some C' ∧ H1 a = some (.ins C' dx (fs.zip vs)) ∧ fs.length = vs.length ∧ Reps M.K M.cl H1 es vs from R1.repH)
      rw [hc] at eC; cases eC
      subst ev
      refine ⟨.ref a, .ref C, _, _, true, rfl, .own C, .base (.ins eG hC.cls hC.ha hC.hn hC.htk hC.hm), ?_, h1 _ _ (R1.pop.push fun _ => rfl)⟩
      unfold PySem.W.kitOne
      rw [if_pos (by simp)]
    · simp only [if_neg hcc, Option.map] at h1; exact h1.elim
  | _ => exact h1.elim
variable {elt tg iter tg1 iter1 : Expr} {ifs ifs1 : List Expr} {scope : Scope} {own : List (Str × Nat)} {pos : Pos} {fi fi1 : En → Rs (List D)} {g g1 : D → En → Rs Unit} {ft ft1 : En → Rs Bool} {fe : En → Rs D} {vs vs1 : List Nat}
theorem ss_setLc2 (i : Nat) {y : Str} {py spos : Pos} (hc : X.calm = true) (hN : X.N.Nodup) (hsw : swapsWith (.ListComp elt [⟨tg, iter, ifs, 0⟩, ⟨tg1, iter1, ifs1, 0⟩] scope pos) (some (.Name y py)) spos.line X.env = pure true) (hi : SI X M W tg iter fi) (ok : BlkOk X.N X.env.scope scope own) (hv : own.map (·.2) = vs) (hv1 : ∀ i ∈ vs1, i ∈ vs)
    (hg : ∀ (s : Shared) (H : Hp) (C : Addr) (cl : List (Str × Addr)) (fp : List Addr), SG (X.blk s H scope (compEnvC scope cl C X.env) fp) M vs tg g)
    (ht : ∀ (s : Shared) (H : Hp) (C : Addr) (cl : List (Str × Addr)) (fp : List Addr), PTs (X.blk s H scope (compEnvC scope cl C X.env) fp) ifs (tB1 M W0 ft))
    (hi1 : ∀ (s : Shared) (H : Hp) (C : Addr) (cl : List (Str × Addr)) (fp : List Addr), SI (X.blk s H scope (compEnvC scope cl C X.env) fp) M W0 tg1 iter1 fi1)
    (hg1 : ∀ (s : Shared) (H : Hp) (C : Addr) (cl : List (Str × Addr)) (fp : List Addr), SG (X.blk s H scope (compEnvC scope cl C X.env) fp) M vs1 tg1 g1)
    (ht1 : ∀ (s : Shared) (H : Hp) (C : Addr) (cl : List (Str × Addr)) (fp : List Addr), PTs (X.blk s H scope (compEnvC scope cl C X.env) fp) ifs1 (tB1 M W0 ft1))
    (he : ∀ (s : Shared) (H : Hp) (C : Addr) (cl : List (Str × Addr)) (fp : List Addr), SE (X.blk s H scope (compEnvC scope cl C X.env) fp) M W0 elt fe)
    (hy : X.N[i]? = some y := by rfl) (hyl : X.env.scope.names.lookup y = some .local := by rfl) (hs : ∀ x, foldedSetIterable iter X.env x = pure x := by intro _; rfl) (hs1 : ∀ env x, foldedSetIterable iter1 env x = pure x := by intro _ _; rfl) :
    SS X M W (.Assign [.Name y py] (.ListComp elt [⟨tg, iter, ifs, 0⟩, ⟨tg1, iter1, ifs1, 0⟩] scope pos) spos) (fSetL i (fLc2 vs vs1 fi g ft fi1 g1 ft1 fe)) :=
  ps_imp (ps_setLc2 (vs1 := vs1) hc hN hy hyl hsw hi ok (by rw [hv]; exact hv1) hg ht hi1 hg1 ht1 he hs hs1) fun Dn σ H h => by
    have q := setL_core h
    rw [hv]
    exact lc2_main hv1 q
end
end Dl
namespace Dl
open PySem PySem.Spec PyProof.Rows L2
theorem hu65_of {A : Around} {k : Nat} (hr : Room k A) : A.units + 65 < cLine := by have := hr.un; omega
end Dl
namespace Dl
open PySem PySem.Spec PyProof.Rows L2
def fAsg (f : En → Rs D) (g : D → En → Rs Unit) : En → Rs Fl := fun ρ => (f ρ).bind fun d ρ1 => match g d ρ1 with
  | .ok _ ρ2 => .ok .nx ρ2
  | _ => .stuck
/-- any target takes a value -/
theorem ss_asg {X : Cx} {M : Mc} {W : WX} {tg e : Expr} {pos : Pos} {vs : List Nat} {fe : En → Rs D} {g : D → En → Rs Unit} (he : SE X M W e fe) (hg : SG X M vs tg g) (hs : swapsWithSole [tg] e pos.line X.env = pure false := by rfl) (hw : swappedStores [tg] e X.env = pure none := by rfl)
    (h1 : (assignEach [tg] X.env).map (·.2) = [assign tg X.env] := by rfl) : SS X M W (.Assign [tg] e pos) (fAsg fe g) := by
  refine ps_imp (ps_asg he hg hs hw h1) fun Dn σ H ⟨an, ρ, ts, ds, R, h⟩ => ?_
  refine ⟨an, ρ, ts, ds, R, EOk.toS h fun d ρ1 v H1 R1 h1 => ?_⟩
  refine ⟨an, ρ1, ts, ds, d, R1, ?_⟩
  cases hgd : g d ρ1 with
  | ok u ρ2 =>
    rw [hgd] at h1
    exact fun σ1 H1 R2 _ => h1 σ1 H1 R2
  | _ => rw [hgd] at h1; exact h1.elim
end Dl
namespace Dl
open PySem PySem.Spec PyProof.Rows L2
theorem to_cx0 {P : Program} {w : World} {K : PySem.W.Frag} {mg : Str → Option Value} {base : Heap} {k : Nat} {f : Addr} {fd : FuncData} {ps : List Str} {sp sp' : Sp} (F : FnOk P w K mg base (L2.CX P w) k f fd ps sp) (h : ∀ vs H Q E, sp' vs H Q E → sp vs H Q E0) : FnOk P w K mg base CX0 k f fd ps sp' :=
  ⟨fun vs H Q E q => F.len vs H Q E0 (h _ _ _ _ q), fun A outer s H args us vs Q E hr he hb hv hs => codeAny_mono (F.run A outer s H args us vs Q E0 hr he hb hv (h _ _ _ _ hs)) fun r s' hq => by
    cases r with
    | error e =>
      obtain ⟨_, _, _, _, _, _, _, _, _, _, _, _, z⟩ := hq
      exact z.elim
    | ok fl =>
      cases fl with
      | ret u => exact hq
      | next => exact hq
      | brk => exact hq
      | cont => exact hq⟩
/-- law at a script of ints -/
def spLaw (K : PySem.W.Frag) : Sp := fun vs H Q _ => ∃ (a : Addr) (ns : List Int), vs = [.ref a] ∧ SqL K H a (ns.map V.int) ∧ ns.length ≤ 63 ∧ ∀ H', Q (.bl true) H'
theorem reps_ints {K : PySem.W.Frag} {cl : Str → Option Addr} {G : Hp} : ∀ ns : List Int, Reps K cl G (ns.map D.int) (ns.map V.int)
  | [] => Reps.nil
  | _ :: ns => Reps.cons rfl (reps_ints ns)
theorem law_sp {K : PySem.W.Frag} {cl : Str → Option Addr} {F : List D → Fr} (hlaw : ∀ ns : List Int, ns.length ≤ 63 → F [.frz (ns.map D.int)] = .ok (.bl true) []) (vs : List V) (H : Hp) (Q : VK) (E : XK) (h : spLaw K vs H Q E) : spF K cl [false] F vs H Q E0 := by
  obtain ⟨a, ns, rfl, hs, hl, q⟩ := h
  refine ⟨rfl, H, [.frz (ns.map D.int)], [], Sub.rfl', ⟨⟨a, _, rfl, hs, reps_ints ns⟩, rfl⟩, List.nodup_nil, ?_⟩
  unfold FrOk
  rw [hlaw ns hl]
  intro v G' H' _ r _
  cases (show v = _ from r)
  exact q H'
end Dl
end
section
set_option maxHeartbeats 4000000
namespace Dl
open PySem PySem.Spec PyProof.Rows L2
def top (i : Nat) : Stmt := PySem.Challenge.pw_rimtwists_k21_whole_orders_of_orders.main.body.getD i (.Pass ⟨0, 0, 0, 0⟩)
abbrev s__law_dice : Stmt := top 19
abbrev s_is_whole : Stmt := top 7
abbrev s_is_integer : Stmt := top 8
abbrev s_rest_of : Stmt := top 11
abbrev s_are_numbers : Stmt := top 12
abbrev s_Order___init__ : Stmt := inClass (top 17) 0
abbrev s__law_roll : Stmt := top 20
abbrev s__law_pick : Stmt := top 21
abbrev s_brought : Stmt := top 14
abbrev s_Order_dual : Stmt := inClass (top 17) 10
abbrev s_Order_mirrored : Stmt := inClass (top 17) 11
abbrev s_Order_turned : Stmt := inClass (top 17) 12
abbrev s__law_standing : Stmt := top 25
abbrev s__law_dual_of : Stmt := top 26
abbrev s__law_mirrored_of : Stmt := top 27
abbrev s__law_value : Stmt := top 23
abbrev s__law_turned_of : Stmt := top 28
abbrev s_Order_numbers : Stmt := inClass (top 17) 2
abbrev s_falling_in : Stmt := top 15
abbrev s_value_at : Stmt := top 13
abbrev s_knots_in : Stmt := top 16
abbrev s_Order_size : Stmt := inClass (top 17) 7
abbrev s_Order_level : Stmt := inClass (top 17) 5
abbrev s_Order_marks : Stmt := inClass (top 17) 9
abbrev s_Order_ends : Stmt := inClass (top 17) 8
abbrev s_Order___eq__ : Stmt := inClass (top 17) 21
abbrev s__law_right : Stmt := top 29
abbrev s__law_mixed : Stmt := top 22
abbrev s__law_order : Stmt := top 24
abbrev s_law : Stmt := top 30
/-! ### what the text says -/
structure Txt (K : PySem.W.Frag) (mg : Str → Option Value) (cl : Str → Option Addr) : Prop where
  b_abs : mg "abs" = none
  b_all : mg "all" = none
  b_bool : mg "bool" = none
  b_dict : mg "dict" = none
  b_enumerate : mg "enumerate" = none
  b_int : mg "int" = none
  b_isinstance : mg "isinstance" = none
  b_len : mg "len" = none
  b_list : mg "list" = none
  b_max : mg "max" = none
  b_min : mg "min" = none
  b_range : mg "range" = none
  b_set : mg "set" = none
  b_sorted : mg "sorted" = none
  b_tuple : mg "tuple" = none
  c_GREAT : ∃ t, mg "GREAT" = some (.int (1000000000000000000000000000000000000000000000000000000000000) t)
  c_MOST : ∃ t, mg "MOST" = some (.int (8) t)
  u__law_dice : ∃ fd, Fun K "_law_dice" "_law_dice" s__law_dice (He.ga K "_law_dice") fd
  g__law_dice : mg "_law_dice" = some (.ref (He.ga K "_law_dice"))
  k__law_dice : PySem.W.keepIn K (.ref (He.ga K "_law_dice")) = true
  u_is_whole : ∃ fd, Fun K "is_whole" "is_whole" s_is_whole (He.ga K "is_whole") fd
  g_is_whole : mg "is_whole" = some (.ref (He.ga K "is_whole"))
  k_is_whole : PySem.W.keepIn K (.ref (He.ga K "is_whole")) = true
  u_is_integer : ∃ fd, Fun K "is_integer" "is_integer" s_is_integer (He.ga K "is_integer") fd
  g_is_integer : mg "is_integer" = some (.ref (He.ga K "is_integer"))
  k_is_integer : PySem.W.keepIn K (.ref (He.ga K "is_integer")) = true
  u_rest_of : ∃ fd, Fun K "rest_of" "rest_of" s_rest_of (He.ga K "rest_of") fd
  g_rest_of : mg "rest_of" = some (.ref (He.ga K "rest_of"))
  k_rest_of : PySem.W.keepIn K (.ref (He.ga K "rest_of")) = true
  u_are_numbers : ∃ fd, Fun K "are_numbers" "are_numbers" s_are_numbers (He.ga K "are_numbers") fd
  g_are_numbers : mg "are_numbers" = some (.ref (He.ga K "are_numbers"))
  k_are_numbers : PySem.W.keepIn K (.ref (He.ga K "are_numbers")) = true
  u_Order___init__ : ∃ fd, Fun K "__init__" "Order.__init__" s_Order___init__ (He.ma K (He.ga K "Order") "__init__") fd
  u__law_roll : ∃ fd, Fun K "_law_roll" "_law_roll" s__law_roll (He.ga K "_law_roll") fd
  g__law_roll : mg "_law_roll" = some (.ref (He.ga K "_law_roll"))
  k__law_roll : PySem.W.keepIn K (.ref (He.ga K "_law_roll")) = true
  u__law_pick : ∃ fd, Fun K "_law_pick" "_law_pick" s__law_pick (He.ga K "_law_pick") fd
  g__law_pick : mg "_law_pick" = some (.ref (He.ga K "_law_pick"))
  k__law_pick : PySem.W.keepIn K (.ref (He.ga K "_law_pick")) = true
  u_brought : ∃ fd, Fun K "brought" "brought" s_brought (He.ga K "brought") fd
  g_brought : mg "brought" = some (.ref (He.ga K "brought"))
  k_brought : PySem.W.keepIn K (.ref (He.ga K "brought")) = true
  u_Order_dual : ∃ fd, Fun K "dual" "Order.dual" s_Order_dual (ge K (He.ga K "Order") "dual") fd
  pr_Order_dual : PropOf K (He.ga K "Order") "dual" (He.ma K (He.ga K "Order") "dual") (ge K (He.ga K "Order") "dual")
  u_Order_mirrored : ∃ fd, Fun K "mirrored" "Order.mirrored" s_Order_mirrored (ge K (He.ga K "Order") "mirrored") fd
  pr_Order_mirrored : PropOf K (He.ga K "Order") "mirrored" (He.ma K (He.ga K "Order") "mirrored") (ge K (He.ga K "Order") "mirrored")
  u_Order_turned : ∃ fd, Fun K "turned" "Order.turned" s_Order_turned (He.ma K (He.ga K "Order") "turned") fd
  m_Order_turned : Meth K (He.ga K "Order") "turned" (He.ma K (He.ga K "Order") "turned")
  u__law_standing : ∃ fd, Fun K "_law_standing" "_law_standing" s__law_standing (He.ga K "_law_standing") fd
  g__law_standing : mg "_law_standing" = some (.ref (He.ga K "_law_standing"))
  k__law_standing : PySem.W.keepIn K (.ref (He.ga K "_law_standing")) = true
  u__law_dual_of : ∃ fd, Fun K "_law_dual_of" "_law_dual_of" s__law_dual_of (He.ga K "_law_dual_of") fd
  g__law_dual_of : mg "_law_dual_of" = some (.ref (He.ga K "_law_dual_of"))
  k__law_dual_of : PySem.W.keepIn K (.ref (He.ga K "_law_dual_of")) = true
  u__law_mirrored_of : ∃ fd, Fun K "_law_mirrored_of" "_law_mirrored_of" s__law_mirrored_of (He.ga K "_law_mirrored_of") fd
  g__law_mirrored_of : mg "_law_mirrored_of" = some (.ref (He.ga K "_law_mirrored_of"))
  k__law_mirrored_of : PySem.W.keepIn K (.ref (He.ga K "_law_mirrored_of")) = true
  u__law_value : ∃ fd, Fun K "_law_value" "_law_value" s__law_value (He.ga K "_law_value") fd
  g__law_value : mg "_law_value" = some (.ref (He.ga K "_law_value"))
  k__law_value : PySem.W.keepIn K (.ref (He.ga K "_law_value")) = true
  u__law_turned_of : ∃ fd, Fun K "_law_turned_of" "_law_turned_of" s__law_turned_of (He.ga K "_law_turned_of") fd
  g__law_turned_of : mg "_law_turned_of" = some (.ref (He.ga K "_law_turned_of"))
  k__law_turned_of : PySem.W.keepIn K (.ref (He.ga K "_law_turned_of")) = true
  u_Order_numbers : ∃ fd, Fun K "numbers" "Order.numbers" s_Order_numbers (ge K (He.ga K "Order") "numbers") fd
  pr_Order_numbers : PropOf K (He.ga K "Order") "numbers" (He.ma K (He.ga K "Order") "numbers") (ge K (He.ga K "Order") "numbers")
  u_falling_in : ∃ fd, Fun K "falling_in" "falling_in" s_falling_in (He.ga K "falling_in") fd
  g_falling_in : mg "falling_in" = some (.ref (He.ga K "falling_in"))
  k_falling_in : PySem.W.keepIn K (.ref (He.ga K "falling_in")) = true
  u_value_at : ∃ fd, Fun K "value_at" "value_at" s_value_at (He.ga K "value_at") fd
  g_value_at : mg "value_at" = some (.ref (He.ga K "value_at"))
  k_value_at : PySem.W.keepIn K (.ref (He.ga K "value_at")) = true
  u_knots_in : ∃ fd, Fun K "knots_in" "knots_in" s_knots_in (He.ga K "knots_in") fd
  g_knots_in : mg "knots_in" = some (.ref (He.ga K "knots_in"))
  k_knots_in : PySem.W.keepIn K (.ref (He.ga K "knots_in")) = true
  u_Order_size : ∃ fd, Fun K "size" "Order.size" s_Order_size (ge K (He.ga K "Order") "size") fd
  pr_Order_size : PropOf K (He.ga K "Order") "size" (He.ma K (He.ga K "Order") "size") (ge K (He.ga K "Order") "size")
  u_Order_level : ∃ fd, Fun K "level" "Order.level" s_Order_level (ge K (He.ga K "Order") "level") fd
  pr_Order_level : PropOf K (He.ga K "Order") "level" (He.ma K (He.ga K "Order") "level") (ge K (He.ga K "Order") "level")
  u_Order_marks : ∃ fd, Fun K "marks" "Order.marks" s_Order_marks (ge K (He.ga K "Order") "marks") fd
  pr_Order_marks : PropOf K (He.ga K "Order") "marks" (He.ma K (He.ga K "Order") "marks") (ge K (He.ga K "Order") "marks")
  u_Order_ends : ∃ fd, Fun K "ends" "Order.ends" s_Order_ends (ge K (He.ga K "Order") "ends") fd
  pr_Order_ends : PropOf K (He.ga K "Order") "ends" (He.ma K (He.ga K "Order") "ends") (ge K (He.ga K "Order") "ends")
  u_Order___eq__ : ∃ fd, Fun K "__eq__" "Order.__eq__" s_Order___eq__ (He.ma K (He.ga K "Order") "__eq__") fd
  m_Order___eq__ : Meth K (He.ga K "Order") "__eq__" (He.ma K (He.ga K "Order") "__eq__")
  u__law_right : ∃ fd, Fun K "_law_right" "_law_right" s__law_right (He.ga K "_law_right") fd
  g__law_right : mg "_law_right" = some (.ref (He.ga K "_law_right"))
  k__law_right : PySem.W.keepIn K (.ref (He.ga K "_law_right")) = true
  u__law_mixed : ∃ fd, Fun K "_law_mixed" "_law_mixed" s__law_mixed (He.ga K "_law_mixed") fd
  g__law_mixed : mg "_law_mixed" = some (.ref (He.ga K "_law_mixed"))
  k__law_mixed : PySem.W.keepIn K (.ref (He.ga K "_law_mixed")) = true
  u__law_order : ∃ fd, Fun K "_law_order" "_law_order" s__law_order (He.ga K "_law_order") fd
  g__law_order : mg "_law_order" = some (.ref (He.ga K "_law_order"))
  k__law_order : PySem.W.keepIn K (.ref (He.ga K "_law_order")) = true
  u_law : ∃ fd, Fun K "law" "law" s_law (He.ga K "law") fd
  g_law : mg "law" = some (.ref (He.ga K "law"))
  k_law : PySem.W.keepIn K (.ref (He.ga K "law")) = true
  cn_Order : ClsN K cl "Order" (He.ga K "Order")
  g_Order : mg "Order" = some (.ref (He.ga K "Order"))
  mk_Order : L2.Mk K (He.ga K "Order") (He.ma K (He.ga K "Order") "__init__")
  ic_Order : InsC K (He.ga K "Order")
  eq_Order : eqB K (He.ga K "Order") = true
  na_Order_own_numbers : NoAttr K (He.ga K "Order") "own_numbers"
/-! ### mirrors -/
def m__law_dice : En → Rs Fl :=
  (fSeq (fSet 2 (fIf (fTr (fBin opLt (fVar 1) (fCall gLen (fCons (fVar 0) fNil)))) (fCall gInt (fCons (fBin opIx (fVar 0) (fVar 1)) fNil)) (fBin opAdd (fBin opMul (fC (.int 61)) (fVar 1)) (fC (.int 17)))))
  (fSeq (fSet 3 (fBin opMod (fCall gMax (fCons (fC (.int 0)) (fCons (fBin opSub (fCall gAbs (fCons (fVar 2) fNil)) (fBin opPow (fC (.int 10)) (fC (.int 16)))) fNil))) (fBin opMul (fBin opPow (fC (.int 10)) (fC (.int 60))) (fBin opPow (fC (.int 10)) (fC (.int 60))))))
  (fRetL (fLst (fCons (fVar 3) (fCons (fBin opAdd (fBin opAdd (fBin opAdd (fBin opMul (fBin opMod (fCall gAbs (fCons (fVar 2) fNil)) (fC (.int 1152921504606846869))) (fC (.int 43))) (fBin opMul (fC (.int 811)) (fVar 1))) (fBin opMul (fC (.int 29)) (fCall gInt (fCons (fBin opLt (fVar 2) (fC (.int 0))) fNil)))) (fC (.int 5))) (fCons (fC (.int 0)) fNil)))))))
def F__law_dice : List D → Fr := bodyL [false, false] 4 m__law_dice
def m_is_whole : En → Rs Fl :=
  (fRet (fAnd (fIsi isInt (fVar 0)) (fNot (fIsi isBool (fVar 0)))))
def F_is_whole : List D → Fr := bodyF [false] 1 m_is_whole
def m_is_integer : En → Rs Fl :=
  (fRet (fAnd (fFn [none] F_is_whole (fCons (fVar 0) fNil)) (fChain opLt opLt (fUn opNeg (fC (.int (1000000000000000000000000000000000000000000000000000000000000)))) (fVar 0) (fC (.int (1000000000000000000000000000000000000000000000000000000000000))))))
def F_is_integer : List D → Fr := bodyF [false] 1 m_is_integer
def m_rest_of : En → Rs Fl :=
  (fRet (fBin opAdd (fBin opMod (fBin opSub (fVar 1) (fC (.int 1))) (fVar 0)) (fC (.int 1))))
def F_rest_of : List D → Fr := bodyF [false, false] 2 m_rest_of
def m_are_numbers : En → Rs Fl :=
  (fSeq (fIfS (fOrB (fNotB (fTr (fIsi isTup (fVar 0)))) (fNotB (fTr (fChain opLe opLe (fC (.int 1)) (fCall gLen (fCons (fVar 0) fNil)) (fC (.int (8))))))) (fRet (fC (.bl false))) fSkip)
  (fSeq (fIfS (fNotB (fTr (fCall gAll (fCons (fLc [1] (iSeq (fVar 0)) (gN 1) fYes (fFn [none] F_is_integer (fCons (fVar 1) fNil))) fNil)))) (fRet (fC (.bl false))) fSkip)
  (fSeq (fSet 2 (fCall gLen (fCons (fVar 0) fNil)))
  (fSeq (fIfS (fNotB (fTr (fCall gAll (fCons (fLc [3, 1] (iEn 1 (fVar 0)) (gT (gsCons (gN 3) (gsCons (gN 1) gsNil)) 2) fYes (fChain opLe opLe (fVar 3) (fVar 1) (fBin opAdd (fVar 3) (fVar 2)))) fNil)))) (fRet (fC (.bl false))) fSkip)
  (fRet (fBin opEq (fUn gLenSet (fLc [1] (iSeq (fVar 0)) (gN 1) fYes (fFn [none, none] F_rest_of (fCons (fVar 2) (fCons (fVar 1) fNil))))) (fVar 2)))))))
def F_are_numbers : List D → Fr := bodyF [false] 4 m_are_numbers
def m_Order___init__ : En → Rs Fl :=
  (fSeq (fIfS (fNotB (fTr (fFn [none] F_are_numbers (fCons (fVar 1) fNil)))) (fun _ => .stuck) fSkip)
  (fFldS "Order" "own_numbers" 0 (fVar 1)))
def F_Order___init__ : List D → Fr := bodyF [true, false] 2 m_Order___init__
def m__law_roll : En → Rs Fl :=
  (fSeq (fIfS (fTr (fBin opGt (fIxO 0 (fC (.int 0))) (fC (.int 0)))) (fSeq (fSet 2 (fBin opMod (fCall gInt (fCons (fIxO 0 (fC (.int 0))) fNil)) (fVar 1)))
  (fSeq (fSto 0 (fC (.int 0)) (fBin opDiv (fIxO 0 (fC (.int 0))) (fVar 1)))
  (fRet (fVar 2)))) fSkip)
  (fSeq (fSto 0 (fC (.int 2)) (fBin opAdd (fIxO 0 (fC (.int 2))) (fC (.int 1))))
  (fSeq (fSet 3 (fBin opMod (fCall gInt (fCons (fBin opAdd (fIxO 0 (fC (.int 1))) (fBin opMul (fC (.int 49979687)) (fIxO 0 (fC (.int 2))))) fNil)) (fC (.int 2305843009213693669))))
  (fSeq (fSet 4 (fBin opAdd (fBin opMul (fBin opMod (fCall gInt (fCons (fBin opAdd (fBin opMul (fVar 3) (fVar 3)) (fBin opMul (fC (.int 89)) (fIxO 0 (fC (.int 2))))) fNil)) (fC (.int 2305843009213693907))) (fC (.int 7368791))) (fVar 3)))
  (fRet (fBin opMod (fCall gInt (fCons (fBin opDiv (fVar 4) (fC (.int 65536))) fNil)) (fVar 1)))))))
def F__law_roll : List D → Fr := bodyF [true, false] 5 m__law_roll
def m__law_pick : En → Rs Fl :=
  (fRet (fBin opIx (fVar 1) (fFn [some 0, none] F__law_roll (fLent 0 (fCons (fCall gLen (fCons (fVar 1) fNil)) fNil)))))
def F__law_pick : List D → Fr := bodyF [true, false] 2 m__law_pick
def m_brought : En → Rs Fl :=
  (fSeq (fSet 2 (fCall gSortP (fCons (fLc [3, 4] (iSeq (fVar 1)) (gT (gsCons (gN 3) (gsCons (gN 4) gsNil)) 2) fYes (fTup (fCons (fFn [none, none] F_rest_of (fCons (fVar 0) (fCons (fVar 3) fNil))) (fCons (fBin opAdd (fBin opSub (fVar 4) (fVar 3)) (fFn [none, none] F_rest_of (fCons (fVar 0) (fCons (fVar 3) fNil)))) fNil)))) fNil)))
  (fRet (fCall gTuple (fCons (fLc [5, 4] (iSeq (fVar 2)) (gT (gsCons (gN 5) (gsCons (gN 4) gsNil)) 2) fYes (fVar 4)) fNil))))
def F_brought : List D → Fr := bodyF [false, false] 6 m_brought
def m_Order_dual : En → Rs Fl :=
  (fSeq (fSet 1 (fCall gLen (fCons (fFld "Order" "own_numbers" (fVar 0)) fNil)))
  (fSeq (fSetL 2 (fLc [3, 4] (iEn 1 (fFld "Order" "own_numbers" (fVar 0))) (gT (gsCons (gN 3) (gsCons (gN 4) gsNil)) 2) fYes (fTup (fCons (fVar 4) (fCons (fBin opAdd (fVar 3) (fVar 1)) fNil)))))
  (fRet (fMk "Order" [none] F_Order___init__ (fCons (fFn [none, none] F_brought (fCons (fVar 1) (fCons (fVar 2) fNil))) fNil)))))
def F_Order_dual : List D → Fr := bodyF [false] 5 m_Order_dual
def m_Order_mirrored : En → Rs Fl :=
  (fSeq (fSet 1 (fCall gLen (fCons (fFld "Order" "own_numbers" (fVar 0)) fNil)))
  (fSeq (fSetL 2 (fLc [3, 4] (iEn 1 (fFld "Order" "own_numbers" (fVar 0))) (gT (gsCons (gN 3) (gsCons (gN 4) gsNil)) 2) fYes (fTup (fCons (fBin opSub (fBin opAdd (fVar 1) (fC (.int 1))) (fVar 4)) (fCons (fBin opSub (fBin opAdd (fVar 1) (fC (.int 1))) (fVar 3)) fNil)))))
  (fRet (fMk "Order" [none] F_Order___init__ (fCons (fFn [none, none] F_brought (fCons (fVar 1) (fCons (fVar 2) fNil))) fNil)))))
def F_Order_mirrored : List D → Fr := bodyF [false] 5 m_Order_mirrored
def m_Order_turned : En → Rs Fl :=
  (fSeq (fIfS (fNotB (fTr (fFn [none] F_is_integer (fCons (fVar 1) fNil)))) (fun _ => .stuck) fSkip)
  (fSeq (fSetL 2 (fLc [3, 4] (iEn 1 (fFld "Order" "own_numbers" (fVar 0))) (gT (gsCons (gN 3) (gsCons (gN 4) gsNil)) 2) fYes (fTup (fCons (fBin opAdd (fVar 3) (fVar 1)) (fCons (fBin opAdd (fVar 4) (fVar 1)) fNil)))))
  (fRet (fMk "Order" [none] F_Order___init__ (fCons (fFn [none, none] F_brought (fCons (fCall gLen (fCons (fFld "Order" "own_numbers" (fVar 0)) fNil)) (fCons (fVar 2) fNil))) fNil)))))
def F_Order_turned : List D → Fr := bodyF [false, false] 5 m_Order_turned
def m__law_standing : En → Rs Fl :=
  (fSeq (fSet 2 (fCall gLen (fCons (fVar 0) fNil)))
  (fSeq (fFor (iRg1 (fVar 2)) (gN 3) (fIfS (fTr (fBin opEq (fBin opMod (fCall gInt (fCons (fBin opSub (fBin opIx (fVar 0) (fVar 3)) (fVar 1)) fNil)) (fVar 2)) (fC (.int 0)))) (fRet (fBin opSub (fBin opAdd (fBin opAdd (fVar 3) (fC (.int 1))) (fVar 1)) (fBin opIx (fVar 0) (fVar 3)))) fSkip))
  (fRet (fC .non))))
def F__law_standing : List D → Fr := bodyF [false, false] 4 m__law_standing
def m__law_dual_of : En → Rs Fl :=
  (fSeq (fSet 1 (fCall gLen (fCons (fVar 0) fNil)))
  (fRet (fCall gTuple (fCons (fLc [2] (iRg2 (fC (.int 1)) (fBin opAdd (fVar 1) (fC (.int 1)))) (gN 2) fYes (fBin opAdd (fFn [none, none] F__law_standing (fCons (fVar 0) (fCons (fVar 2) fNil))) (fVar 1))) fNil))))
def F__law_dual_of : List D → Fr := bodyF [false] 3 m__law_dual_of
def m__law_mirrored_of : En → Rs Fl :=
  (fSeq (fSet 1 (fCall gLen (fCons (fVar 0) fNil)))
  (fRet (fCall gTuple (fCons (fLc [2] (iRg2 (fC (.int 1)) (fBin opAdd (fVar 1) (fC (.int 1)))) (gN 2) fYes (fBin opSub (fBin opAdd (fVar 1) (fC (.int 1))) (fFn [none, none] F__law_standing (fCons (fVar 0) (fCons (fBin opSub (fBin opAdd (fVar 1) (fC (.int 1))) (fVar 2)) fNil))))) fNil))))
def F__law_mirrored_of : List D → Fr := bodyF [false] 3 m__law_mirrored_of
def m__law_value : En → Rs Fl :=
  (fSeq (fSet 2 (fCall gLen (fCons (fVar 0) fNil)))
  (fSeq (fSet 3 (fBin opDiv (fBin opSub (fVar 1) (fC (.int 1))) (fVar 2)))
  (fRet (fBin opAdd (fBin opIx (fVar 0) (fBin opSub (fBin opSub (fVar 1) (fC (.int 1))) (fBin opMul (fVar 3) (fVar 2)))) (fBin opMul (fVar 3) (fVar 2))))))
def F__law_value : List D → Fr := bodyF [false, false] 4 m__law_value
def m__law_turned_of : En → Rs Fl :=
  (fRet (fCall gTuple (fCons (fLc [2] (iRg2 (fC (.int 1)) (fBin opAdd (fCall gLen (fCons (fVar 0) fNil)) (fC (.int 1)))) (gN 2) fYes (fBin opAdd (fFn [none, none] F__law_value (fCons (fVar 0) (fCons (fBin opSub (fVar 2) (fVar 1)) fNil))) (fVar 1))) fNil)))
def F__law_turned_of : List D → Fr := bodyF [false, false] 3 m__law_turned_of
def m_Order_numbers : En → Rs Fl :=
  (fRet (fFld "Order" "own_numbers" (fVar 0)))
def F_Order_numbers : List D → Fr := bodyF [false] 1 m_Order_numbers
def m_falling_in : En → Rs Fl :=
  (fRet (fLc [1, 2] (iEn 1 (fVar 0)) (gT (gsCons (gN 1) (gsCons (gN 2) gsNil)) 2) (fTr (fBin opGt (fVar 2) (fCall gLen (fCons (fVar 0) fNil)))) (fVar 1)))
def F_falling_in : List D → Fr := bodyF [false] 3 m_falling_in
def m_value_at : En → Rs Fl :=
  (fSeq (fSet 2 (fFn [none, none] F_rest_of (fCons (fCall gLen (fCons (fVar 0) fNil)) (fCons (fVar 1) fNil))))
  (fRet (fBin opSub (fBin opAdd (fBin opIx (fVar 0) (fBin opSub (fVar 2) (fC (.int 1)))) (fVar 1)) (fVar 2))))
def F_value_at : List D → Fr := bodyF [false, false] 3 m_value_at
def m_knots_in : En → Rs Fl :=
  (fSeq (fSet 1 (fCall gLen (fCons (fVar 0) fNil)))
  (fSeq (fSetL 2 (fLc2 [3, 4] [4] (iRg2 (fC (.int 1)) (fBin opAdd (fVar 1) (fC (.int 1)))) (gN 3) fYes (iRg2 (fBin opAdd (fVar 3) (fC (.int 1))) (fBin opAdd (fVar 3) (fVar 1))) (gN 4) fYes (fTup (fCons (fVar 3) (fCons (fVar 4) fNil)))))
  (fRet (fLc [3, 4] (iSeq (fVar 2)) (gT (gsCons (gN 3) (gsCons (gN 4) gsNil)) 2) (fTr (fBin opGt (fBin opIx (fVar 0) (fBin opSub (fVar 3) (fC (.int 1)))) (fFn [none, none] F_value_at (fCons (fVar 0) (fCons (fVar 4) fNil))))) (fTup (fCons (fVar 3) (fCons (fVar 4) fNil)))))))
def F_knots_in : List D → Fr := bodyF [false] 5 m_knots_in
def m_Order_size : En → Rs Fl :=
  (fSeq (fSet 1 (fCall gLen (fCons (fFn [none] F_falling_in (fCons (fFld "Order" "own_numbers" (fVar 0)) fNil)) fNil)))
  (fRet (fBin opSub (fBin opMul (fVar 1) (fBin opSub (fCall gLen (fCons (fFld "Order" "own_numbers" (fVar 0)) fNil)) (fVar 1))) (fCall gLen (fCons (fFn [none] F_knots_in (fCons (fFld "Order" "own_numbers" (fVar 0)) fNil)) fNil)))))
def F_Order_size : List D → Fr := bodyF [false] 2 m_Order_size
def m_Order_level : En → Rs Fl :=
  (fRet (fCall gLen (fCons (fFn [none] F_falling_in (fCons (fFld "Order" "own_numbers" (fVar 0)) fNil)) fNil)))
def F_Order_level : List D → Fr := bodyF [false] 1 m_Order_level
def m_Order_marks : En → Rs Fl :=
  (fSeq (fSet 1 (fCall gLen (fCons (fFld "Order" "own_numbers" (fVar 0)) fNil)))
  (fSeq (fSetL 2 (fLc [3, 4] (iEn 1 (fFld "Order" "own_numbers" (fVar 0))) (gT (gsCons (gN 3) (gsCons (gN 4) gsNil)) 2) (fTr (fBin opIn (fVar 4) (fTup (fCons (fVar 3) (fCons (fBin opAdd (fVar 3) (fVar 1)) fNil))))) (fTup (fCons (fVar 3) (fCons (fVar 4) fNil)))))
  (fRetL (fDc [3, 4] (iSeq (fVar 2)) (gT (gsCons (gN 3) (gsCons (gN 4) gsNil)) 2) fYes (fVar 3) (fIf (fTr (fBin opEq (fVar 4) (fVar 3))) (fC (.str "black")) (fC (.str "white")))))))
def F_Order_marks : List D → Fr := bodyL [false] 5 m_Order_marks
def m_Order_ends : En → Rs Fl :=
  (fRet (fCall gTuple (fCons (fLc [1] (iSeq (fFld "Order" "own_numbers" (fVar 0))) (gN 1) fYes (fFn [none, none] F_rest_of (fCons (fCall gLen (fCons (fFld "Order" "own_numbers" (fVar 0)) fNil)) (fCons (fVar 1) fNil)))) fNil)))
def F_Order_ends : List D → Fr := bodyF [false] 2 m_Order_ends
def m_Order___eq__ : En → Rs Fl :=
  (fRet (fAnd (fIsi (isC "Order") (fVar 1)) (fBin opEq (fFld "Order" "own_numbers" (fVar 0)) (fFld "Order" "own_numbers" (fVar 1)))))
def F_Order___eq__ : List D → Fr := bodyF [false, false] 2 m_Order___eq__
def u_opEq : D → D → Option D := orG opEq (orG (opOwn "Order" F_Order___eq__ false) opEqDic)
def u_opNe : D → D → Option D := orG opNe (orG (opOwn "Order" F_Order___eq__ true) opNeDic)
def m__law_right : En → Rs Fl :=
  (fSeq (fAsg (fTup (fCons (fMk "Order" [none] F_Order___init__ (fCons (fVar 1) fNil)) (fCons (fCall gLen (fCons (fVar 1) fNil)) fNil))) (gT (gsCons (gN 2) (gsCons (gN 3) gsNil)) 2))
  (fSeq (fPar 4 5 (fBin opSub (fFn [some 0, none] F__law_roll (fLent 0 (fCons (fC (.int 60)) fNil))) (fC (.int 30))) (fFn [some 0, none] F__law_pick (fLent 0 (fCons (fLst (fCons (fBin opAdd (fBin opPow (fC (.int 10)) (fC (.int 40))) (fFn [some 0, none] F__law_roll (fLent 0 (fCons (fC (.int 9)) fNil)))) (fCons (fUn opNeg (fBin opPow (fC (.int 10)) (fC (.int 30)))) (fCons (fFn [some 0, none] F__law_roll (fLent 0 (fCons (fC (.int 9)) fNil))) fNil)))) fNil))))
  (fSeq (fAsg (fTup (fCons (fProp "Order" F_Order_dual (fVar 2)) (fCons (fProp "Order" F_Order_mirrored (fVar 2)) fNil))) (gT (gsCons (gN 6) (gsCons (gN 7) gsNil)) 2))
  (fSeq (fSet 8 (fMeth "Order" "turned" [none] F_Order_turned (fVar 2) (fCons (fVar 4) fNil)))
  (fSeq (fSet 9 (fLst (fCons (fFn [none] F__law_dual_of (fCons (fVar 1) fNil)) (fCons (fFn [none] F__law_mirrored_of (fCons (fVar 1) fNil)) (fCons (fFn [none, none] F__law_turned_of (fCons (fVar 1) (fCons (fVar 4) fNil))) fNil)))))
  (fSeq (fIfS (fTr (fBin u_opNe (fLst (fCons (fProp "Order" F_Order_numbers (fVar 6)) (fCons (fProp "Order" F_Order_numbers (fVar 7)) (fCons (fProp "Order" F_Order_numbers (fVar 8)) fNil)))) (fVar 9))) (fRet (fC (.bl false))) fSkip)
  (fSeq (fIfS (fOrB (fTr (fBin u_opNe (fLst (fCons (fProp "Order" F_Order_size (fVar 6)) (fCons (fProp "Order" F_Order_size (fVar 7)) (fCons (fProp "Order" F_Order_size (fVar 8)) fNil)))) (fBin opMul (fLst (fCons (fProp "Order" F_Order_size (fVar 2)) fNil)) (fC (.int 3))))) (fTr (fBin u_opNe (fLst (fCons (fProp "Order" F_Order_level (fVar 7)) (fCons (fProp "Order" F_Order_level (fVar 8)) fNil))) (fBin opMul (fLst (fCons (fProp "Order" F_Order_level (fVar 2)) fNil)) (fC (.int 2)))))) (fRet (fC (.bl false))) fSkip)
  (fSeq (fIfS (fOrB (fTr (fBin u_opNe (fProp "Order" F_Order_level (fVar 6)) (fBin opSub (fVar 3) (fProp "Order" F_Order_level (fVar 2))))) (fOrB (fTr (fBin u_opNe (fProp "Order" F_Order_dual (fVar 6)) (fVar 2))) (fTr (fBin u_opNe (fProp "Order" F_Order_mirrored (fVar 7)) (fVar 2))))) (fRet (fC (.bl false))) fSkip)
  (fSeq (fIfS (fOrB (fTr (fBin u_opNe (fMeth "Order" "turned" [none] F_Order_turned (fMeth "Order" "turned" [none] F_Order_turned (fVar 2) (fCons (fVar 4) fNil)) (fCons (fVar 5) fNil)) (fMeth "Order" "turned" [none] F_Order_turned (fVar 2) (fCons (fBin opAdd (fVar 4) (fVar 5)) fNil)))) (fTr (fBin u_opNe (fMeth "Order" "turned" [none] F_Order_turned (fMeth "Order" "turned" [none] F_Order_turned (fVar 2) (fCons (fVar 4) fNil)) (fCons (fUn opNeg (fVar 4)) fNil)) (fVar 2)))) (fRet (fC (.bl false))) fSkip)
  (fSeq (fIfS (fOrB (fTr (fBin u_opNe (fMeth "Order" "turned" [none] F_Order_turned (fVar 2) (fCons (fVar 3) fNil)) (fVar 2))) (fOrB (fTr (fBin u_opNe (fMeth "Order" "turned" [none] F_Order_turned (fVar 2) (fCons (fBin opMul (fVar 3) (fVar 5)) fNil)) (fVar 2))) (fTr (fBin u_opNe (fMeth "Order" "turned" [none] F_Order_turned (fVar 2) (fCons (fBin opAdd (fVar 5) (fVar 3)) fNil)) (fMeth "Order" "turned" [none] F_Order_turned (fVar 2) (fCons (fVar 5) fNil)))))) (fRet (fC (.bl false))) fSkip)
  (fSeq (fIfS (fOrB (fTr (fBin u_opNe (fProp "Order" F_Order_mirrored (fVar 6)) (fProp "Order" F_Order_dual (fVar 7)))) (fOrB (fTr (fBin u_opNe (fProp "Order" F_Order_dual (fVar 8)) (fMeth "Order" "turned" [none] F_Order_turned (fVar 6) (fCons (fVar 4) fNil)))) (fTr (fBin u_opNe (fProp "Order" F_Order_mirrored (fVar 8)) (fMeth "Order" "turned" [none] F_Order_turned (fVar 7) (fCons (fUn opNeg (fVar 4)) fNil)))))) (fRet (fC (.bl false))) fSkip)
  (fSeq (fIfS (fTr (fBin u_opNe (fCall gDict (fCons (fLc [10] (iKeysD (fPropL "Order" F_Order_marks (fVar 2))) (gN 10) fYes (fTup (fCons (fVar 10) (fCons (fIf (fTr (fBin opEq (fBin opIx (fPropL "Order" F_Order_marks (fVar 2)) (fVar 10)) (fC (.str "black")))) (fC (.str "white")) (fC (.str "black"))) fNil)))) fNil)) (fPropL "Order" F_Order_marks (fVar 6)))) (fRet (fC (.bl false))) fSkip)
  (fRet (fBin u_opEq (fLc [11] (iSeq (fProp "Order" F_Order_ends (fVar 2))) (gN 11) fYes (fBin opIx (fProp "Order" F_Order_ends (fVar 6)) (fBin opSub (fVar 11) (fC (.int 1))))) (fRg2 (fC (.int 1)) (fBin opAdd (fVar 3) (fC (.int 1))))))))))))))))))
def F__law_right : List D → Fr := bodyF [true, false] 12 m__law_right
def m__law_mixed : En → Rs Fl :=
  (fSeq (fParL 2 3 (fCall gList (fCons (fVar 1) fNil)) (fLst fNil))
  (fSeq (fFor (iRg1 (fCall gLen (fCons (fVar 1) fNil))) (gN 4) (fExp (fApp 3 (fPopAt 2 (fFn [some 0, none] F__law_roll (fLent 0 (fCons (fLenO 2) fNil)))))))
  (fRet (fVar 3))))
def F__law_mixed : List D → Fr := bodyF [true, false] 5 m__law_mixed
def m__law_order : En → Rs Fl :=
  (fSeq (fSet 2 (fFn [some 0, none] F__law_mixed (fLent 0 (fCons (fRg2 (fC (.int 1)) (fBin opAdd (fVar 1) (fC (.int 1)))) fNil))))
  (fSeq (fSetL 3 (fLst fNil))
  (fSeq (fFor (iRg1 (fVar 1)) (gN 4) (fSeq (fSet 5 (fBin opIx (fVar 2) (fVar 4)))
  (fSeq (fSet 6 (fOr (fBin opLt (fVar 5) (fBin opAdd (fVar 4) (fC (.int 1)))) (fAnd (fBin opEq (fVar 5) (fBin opAdd (fVar 4) (fC (.int 1)))) (fBin opEq (fFn [some 0, none] F__law_roll (fLent 0 (fCons (fC (.int 2)) fNil))) (fC (.int 0))))))
  (fExp (fApp 3 (fBin opAdd (fVar 5) (fBin opMul (fVar 1) (fCall gInt (fCons (fVar 6) fNil)))))))))
  (fRet (fCall gTuple (fCons (fVar 3) fNil))))))
def F__law_order : List D → Fr := bodyF [true, false] 7 m__law_order
def m_law : En → Rs Fl :=
  (fSeq (fFor (iRg1 (fCall gMax (fCons (fC (.int 1)) (fCons (fCall gMin (fCons (fC (.int 3)) (fCons (fCall gLen (fCons (fVar 0) fNil)) fNil))) fNil)))) (gN 1) (fSeq (fSetL 2 (fFn [none, none] F__law_dice (fCons (fVar 0) (fCons (fVar 1) fNil))))
  (fFor (iRg1 (fC (.int 3))) (gN 3) (fIfS (fNotB (fTr (fFn [some 2, none] F__law_right (fLent 2 (fCons (fFn [some 2, none] F__law_order (fLent 2 (fCons (fBin opAdd (fC (.int 1)) (fFn [some 2, none] F__law_roll (fLent 2 (fCons (fC (.int 8)) fNil)))) fNil))) fNil))))) (fRet (fC (.bl false))) fSkip))))
  (fSeq (fSet 4 (fMk "Order" [none] F_Order___init__ (fCons (fTup (fCons (fC (.int 2)) (fCons (fC (.int 5)) (fCons (fC (.int 3)) (fCons (fC (.int 8)) fNil))))) fNil)))
  (fSeq (fSet 5 (fLst (fCons (fProp "Order" F_Order_numbers (fProp "Order" F_Order_dual (fVar 4))) (fCons (fProp "Order" F_Order_numbers (fProp "Order" F_Order_mirrored (fVar 4))) (fCons (fProp "Order" F_Order_numbers (fMeth "Order" "turned" [none] F_Order_turned (fVar 4) (fCons (fC (.int 1)) fNil))) (fCons (fBin u_opEq (fMeth "Order" "turned" [none] F_Order_turned (fVar 4) (fCons (fUn opNeg (fC (.int 5))) fNil)) (fMeth "Order" "turned" [none] F_Order_turned (fVar 4) (fCons (fC (.int 3)) fNil))) fNil))))))
  (fRet (fBin u_opEq (fVar 5) (fLst (fCons (fTup (fCons (fC (.int 2)) (fCons (fC (.int 5)) (fCons (fC (.int 7)) (fCons (fC (.int 4)) fNil))))) (fCons (fTup (fCons (fC (.int 5)) (fCons (fC (.int 2)) (fCons (fC (.int 4)) (fCons (fC (.int 7)) fNil))))) (fCons (fTup (fCons (fC (.int 5)) (fCons (fC (.int 3)) (fCons (fC (.int 6)) (fCons (fC (.int 4)) fNil))))) (fCons (fC (.bl true)) fNil))))))))))
def F_law : List D → Fr := bodyF [false] 6 m_law
section
variable {P : Program} {w : World} {K : PySem.W.Frag} {mg : Str → Option Value} {cl : Str → Option Addr}
theorem S__law_dice : FnScope ["script", "spot", "cell", "left"] ["script", "spot"] (defScope s__law_dice) := ⟨rfl, rfl, rfl, by decide +kernel, rfl, by decide +kernel, by decide +kernel⟩
theorem ok__law_dice (T : Txt K mg cl) : OkF P w K mg 1 (He.ga K "_law_dice") ["script", "spot"] (spL K cl [false, false] F__law_dice) := by
  obtain ⟨fd, F⟩ := T.u__law_dice
  refine ok_mk F (fun _ _ _ _ _ _ us hl => match us, hl with | [_, _], _ => rfl) (fun base => fn_okL F S__law_dice rfl (by decide) (fun cdv A outer s H E H0 G0 W B hr => ?_))
  have hu := hu_of hr
  have hu64 := hr.units
  have hu65 := hu65_of hr
  have tk := takes_of (X := cxOf (L2.CX P w) P w K mg base ["script", "spot", "cell", "left"] "_law_dice" (defScope s__law_dice) (He.ga K "_law_dice") cdv A outer s H E) rfl rfl rfl rfl
  exact (sss_cons (ss_set 2 S__law_dice.nd (se_if (sb_cmp op_ltU bs_lt (se_var 1) (se_callB ca_len call_lenU T.b_len (by decide +kernel) (sa_cons (se_var 0) sa_nil)) (nomark _)) (se_callT ca_int call_int1 T.b_int (by decide +kernel) (sa_cons (se_ix hu rfl (se_var 0) (se_var 1) (by intro _ _; rfl)) sa_nil)) (se_bin op_addU bs_add (se_bin op_mulU bs_mul se_int (se_var 1)) se_int)))
      (sss_cons (ss_set 3 S__law_dice.nd (se_bin op_mod bs_mod (se_callB ca_max (call_max2 rfl) T.b_max (by decide +kernel) (sa_cons se_int (sa_cons (se_bin op_sub bs_sub (se_callB ca_abs call_abs T.b_abs (by decide +kernel) (sa_cons (se_var 2) sa_nil)) (se_bin op_pow bs_pow se_int se_int)) sa_nil))) (se_bin op_mulU bs_mul (se_bin op_pow bs_pow se_int se_int) (se_bin op_pow bs_pow se_int se_int))))
      (sss_one (ss_retL (sl_lst (sa_cons (se_var 3) (sa_cons (se_bin op_addU bs_add (se_bin op_addU bs_add (se_bin op_addU bs_add (se_bin op_mulU bs_mul (se_bin op_mod bs_mod (se_callB ca_abs call_abs T.b_abs (by decide +kernel) (sa_cons (se_var 2) sa_nil)) se_int) se_int) (se_bin op_mulU bs_mul se_int (se_var 1))) (se_bin op_mulU bs_mul se_int (se_callT ca_int call_int1 T.b_int (by decide +kernel) (sa_cons (se_cmp op_ltU bs_lt (se_var 2) se_int (nomark _)) sa_nil)))) se_int) (sa_cons se_int sa_nil))))))))
theorem S_is_whole : FnScope ["value"] ["value"] (defScope s_is_whole) := ⟨rfl, rfl, rfl, by decide +kernel, rfl, by decide +kernel, by decide +kernel⟩
theorem ok_is_whole (T : Txt K mg cl) : OkF P w K mg 1 (He.ga K "is_whole") ["value"] (spF K cl [false] F_is_whole) := by
  obtain ⟨fd, F⟩ := T.u_is_whole
  refine ok_mk F (fun _ _ _ _ _ _ us hl => match us, hl with | [_], _ => rfl) (fun base => fn_ok F S_is_whole rfl (by decide) (fun cdv A outer s H E H0 G0 W B hr => ?_))
  have hu := hu_of hr
  have hu64 := hr.units
  have hu65 := hu65_of hr
  have tk := takes_of (X := cxOf (L2.CX P w) P w K mg base ["value"] "is_whole" (defScope s_is_whole) (He.ga K "is_whole") cdv A outer s H E) rfl rfl rfl rfl
  exact (sss_one (ss_ret (se_and (se_isi rfl isi_int (se_var 0) T.b_isinstance T.b_int (by decide +kernel)) (se_one (se_not (se_isi rfl isi_bool (se_var 0) T.b_isinstance T.b_bool (by decide +kernel)))))))
theorem S_is_integer : FnScope ["value"] ["value"] (defScope s_is_integer) := ⟨rfl, rfl, rfl, by decide +kernel, rfl, by decide +kernel, by decide +kernel⟩
theorem ok_is_integer (T : Txt K mg cl) : OkF P w K mg 2 (He.ga K "is_integer") ["value"] (spF K cl [false] F_is_integer) := by
  obtain ⟨fd, F⟩ := T.u_is_integer
  obtain ⟨fd_is_whole, _, b_is_whole, G_is_whole⟩ := ok_is_whole (P := P) (w := w) T
  obtain ⟨tt_GREAT, t_GREAT⟩ := T.c_GREAT
  refine ok_mk F (fun _ _ _ _ _ _ us hl => match us, hl with | [_], _ => rfl) (fun base => fn_ok F S_is_integer rfl (by decide) (fun cdv A outer s H E H0 G0 W B hr => ?_))
  have F_is_whole := G_is_whole base
  have hu := hu_of hr
  have hu64 := hr.units
  have hu65 := hu65_of hr
  have tk := takes_of (X := cxOf (L2.CX P w) P w K mg base ["value"] "is_integer" (defScope s_is_integer) (He.ga K "is_integer") cdv A outer s H E) rfl rfl rfl rfl
  exact (sss_one (ss_ret (se_and (se_fn (as := [none]) F_is_whole (hr.mono (by decide)) tk T.g_is_whole T.k_is_whole b_is_whole (sab_v (se_var 0) sab_nil)) (se_one (se_chain op_ltU op_ltU cs_lt bs_lt (se_neg (se_globI t_GREAT)) (se_var 0) (se_globI t_GREAT))))))
theorem S_rest_of : FnScope ["many", "number"] ["many", "number"] (defScope s_rest_of) := ⟨rfl, rfl, rfl, by decide +kernel, rfl, by decide +kernel, by decide +kernel⟩
theorem ok_rest_of (T : Txt K mg cl) : OkF P w K mg 1 (He.ga K "rest_of") ["many", "number"] (spF K cl [false, false] F_rest_of) := by
  obtain ⟨fd, F⟩ := T.u_rest_of
  refine ok_mk F (fun _ _ _ _ _ _ us hl => match us, hl with | [_, _], _ => rfl) (fun base => fn_ok F S_rest_of rfl (by decide) (fun cdv A outer s H E H0 G0 W B hr => ?_))
  have hu := hu_of hr
  have hu64 := hr.units
  have hu65 := hu65_of hr
  have tk := takes_of (X := cxOf (L2.CX P w) P w K mg base ["many", "number"] "rest_of" (defScope s_rest_of) (He.ga K "rest_of") cdv A outer s H E) rfl rfl rfl rfl
  exact (sss_one (ss_ret (se_bin op_addU bs_add (se_bin op_mod bs_mod (se_bin op_sub bs_sub (se_var 1) se_int) (se_var 0)) se_int)))
theorem S_are_numbers : FnScope ["value", "number", "many", "index"] ["value"] (defScope s_are_numbers) := ⟨rfl, rfl, rfl, by decide +kernel, rfl, by decide +kernel, by decide +kernel⟩
theorem ok_are_numbers (T : Txt K mg cl) : OkF P w K mg 3 (He.ga K "are_numbers") ["value"] (spF K cl [false] F_are_numbers) := by
  obtain ⟨fd, F⟩ := T.u_are_numbers
  obtain ⟨fd_is_integer, _, b_is_integer, G_is_integer⟩ := ok_is_integer (P := P) (w := w) T
  obtain ⟨fd_rest_of, _, b_rest_of, G_rest_of⟩ := ok_rest_of (P := P) (w := w) T
  obtain ⟨tt_MOST, t_MOST⟩ := T.c_MOST
  refine ok_mk F (fun _ _ _ _ _ _ us hl => match us, hl with | [_], _ => rfl) (fun base => fn_ok F S_are_numbers rfl (by decide) (fun cdv A outer s H E H0 G0 W B hr => ?_))
  have F_is_integer := G_is_integer base
  have F_rest_of := G_rest_of base
  have hu := hu_of hr
  have hu64 := hr.units
  have hu65 := hu65_of hr
  have tk := takes_of (X := cxOf (L2.CX P w) P w K mg base ["value", "number", "many", "index"] "are_numbers" (defScope s_are_numbers) (He.ga K "are_numbers") cdv A outer s H E) rfl rfl rfl rfl
  exact (sss_cons (ss_if (sb_w (sw_or (sb_not (sb_val (se_isi rfl isi_tup (se_var 0) T.b_isinstance T.b_tuple (by decide +kernel)))) (sw_or1 (sb_not (sb_chain op_le op_le cs_le bs_le se_int (se_callB ca_len call_lenU T.b_len (by decide +kernel) (sa_cons (se_var 0) sa_nil)) (se_globI t_MOST)))))) (sss_one (ss_ret se_bl)) sss_nil)
      (sss_cons (ss_if (sb_not (sb_val (se_callB ca_all (cr_all rfl) T.b_all (by decide +kernel) (sa_cons (se_l (sl_lc (own := ([("number", 1)] : List (Str × Nat))) (vs := [1]) rfl S_are_numbers.nd (si_seq rfl (se_var 0)) (blkOk_by (N := ["value", "number", "many", "index"]) (sc := defScope s_are_numbers) (by decide +kernel)) rfl (fun _ _ _ _ _ => (sg_name 1 S_are_numbers.nd)) (fun _ _ _ _ _ => sts_nil) (fun _ _ _ _ _ => (se_fn (as := [none]) F_is_integer (hr.mono (by decide)) takes0 T.g_is_integer T.k_is_integer b_is_integer (sab_v (se_var 1) sab_nil))))) sa_nil)))) (sss_one (ss_ret se_bl)) sss_nil)
      (sss_cons (ss_set 2 S_are_numbers.nd (se_callB ca_len call_lenU T.b_len (by decide +kernel) (sa_cons (se_var 0) sa_nil)))
      (sss_cons (ss_if (sb_not (sb_val (se_callB ca_all (cr_all rfl) T.b_all (by decide +kernel) (sa_cons (se_l (sl_lc (own := ([("index", 3), ("number", 1)] : List (Str × Nat))) (vs := [3, 1]) rfl S_are_numbers.nd (si_enStart (k0 := 1) rfl T.b_enumerate (se_var 0)) (blkOk_by (N := ["value", "number", "many", "index"]) (sc := defScope s_are_numbers) (by decide +kernel)) rfl (fun _ _ _ _ _ => (sg_tup rfl rfl (sgs_cons (sg_name 3 S_are_numbers.nd) (sgs_cons (sg_name 1 S_are_numbers.nd) sgs_nil)))) (fun _ _ _ _ _ => sts_nil) (fun _ _ _ _ _ => (se_chain op_le op_le cs_le bs_le (se_var 3) (se_var 1) (se_bin op_addU bs_add (se_var 3) (se_var 2)))))) sa_nil)))) (sss_one (ss_ret se_bl)) sss_nil)
      (sss_one (ss_ret (se_cmp (op_eqD hu64) bs_eq (se_lenSet rfl rfl T.b_len T.b_set (se_l (sl_lc (own := ([("number", 1)] : List (Str × Nat))) (vs := [1]) rfl S_are_numbers.nd (si_seq rfl (se_var 0)) (blkOk_by (N := ["value", "number", "many", "index"]) (sc := defScope s_are_numbers) (by decide +kernel)) rfl (fun _ _ _ _ _ => (sg_name 1 S_are_numbers.nd)) (fun _ _ _ _ _ => sts_nil) (fun _ _ _ _ _ => (se_fn (as := [none, none]) F_rest_of (hr.mono (by decide)) takes0 T.g_rest_of T.k_rest_of b_rest_of (sab_v (se_var 2) (sab_v (se_var 1) sab_nil))))))) (se_var 2) (nomark _))))))))
theorem S_Order___init__ : FnScope ["self", "numbers"] ["self", "numbers"] (defScope s_Order___init__) := ⟨rfl, rfl, rfl, by decide +kernel, rfl, by decide +kernel, by decide +kernel⟩
theorem ok_Order___init__ (T : Txt K mg cl) : OkF P w K mg 4 (He.ma K (He.ga K "Order") "__init__") ["self", "numbers"] (spF K cl [true, false] F_Order___init__) := by
  obtain ⟨fd, F⟩ := T.u_Order___init__
  obtain ⟨fd_are_numbers, _, b_are_numbers, G_are_numbers⟩ := ok_are_numbers (P := P) (w := w) T
  refine ok_mk F (fun _ _ _ _ _ _ us hl => match us, hl with | [_, _], _ => rfl) (fun base => fn_ok F S_Order___init__ rfl (by decide) (fun cdv A outer s H E H0 G0 W B hr => ?_))
  have F_are_numbers := G_are_numbers base
  have hu := hu_of hr
  have hu64 := hr.units
  have hu65 := hu65_of hr
  have tk := takes_of (X := cxOf (L2.CX P w) P w K mg base ["self", "numbers"] "Order.__init__" (defScope s_Order___init__) (He.ma K (He.ga K "Order") "__init__") cdv A outer s H E) rfl rfl rfl rfl
  exact (sss_cons (ss_if (sb_not (sb_val (se_fn (as := [none]) F_are_numbers (hr.mono (by decide)) tk T.g_are_numbers T.k_are_numbers b_are_numbers (sab_v (se_var 1) sab_nil)))) (sss_one ss_stuck) sss_nil)
      (sss_one (ss_fld 0 rfl T.cn_Order T.na_Order_own_numbers (se_var 1))))
theorem S__law_roll : FnScope ["dice", "total", "found", "one", "two"] ["dice", "total"] (defScope s__law_roll) := ⟨rfl, rfl, rfl, by decide +kernel, rfl, by decide +kernel, by decide +kernel⟩
theorem ok__law_roll (T : Txt K mg cl) : OkF P w K mg 1 (He.ga K "_law_roll") ["dice", "total"] (spF K cl [true, false] F__law_roll) := by
  obtain ⟨fd, F⟩ := T.u__law_roll
  refine ok_mk F (fun _ _ _ _ _ _ us hl => match us, hl with | [_, _], _ => rfl) (fun base => fn_ok F S__law_roll rfl (by decide) (fun cdv A outer s H E H0 G0 W B hr => ?_))
  have hu := hu_of hr
  have hu64 := hr.units
  have hu65 := hu65_of hr
  have tk := takes_of (X := cxOf (L2.CX P w) P w K mg base ["dice", "total", "found", "one", "two"] "_law_roll" (defScope s__law_roll) (He.ga K "_law_roll") cdv A outer s H E) rfl rfl rfl rfl
  exact (sss_cons (ss_if (sb_cmp op_gt bs_gt (se_ixO 0 se_int (by intro _ _; rfl)) se_int (nomark _)) (sss_cons (ss_set 2 S__law_roll.nd (se_bin op_mod bs_mod (se_callT ca_int call_int1 T.b_int (by decide +kernel) (sa_cons (se_ixO 0 se_int (by intro _ _; rfl)) sa_nil)) (se_var 1)))
      (sss_cons (ss_sto 0 (se_bin op_fdivW bs_div (se_ixO 0 se_int (by intro _ _; rfl)) (se_var 1)) se_int)
      (sss_one (ss_ret (se_var 2))))) sss_nil)
      (sss_cons (ss_sto 0 (se_bin op_addU bs_add (se_ixO 0 se_int (by intro _ _; rfl)) se_int) se_int)
      (sss_cons (ss_set 3 S__law_roll.nd (se_bin op_mod bs_mod (se_callT ca_int call_int1 T.b_int (by decide +kernel) (sa_cons (se_bin op_addU bs_add (se_ixO 0 se_int (by intro _ _; rfl)) (se_bin op_mulU bs_mul se_int (se_ixO 0 se_int (by intro _ _; rfl)))) sa_nil)) se_int))
      (sss_cons (ss_set 4 S__law_roll.nd (se_bin op_addU bs_add (se_bin op_mulU bs_mul (se_bin op_mod bs_mod (se_callT ca_int call_int1 T.b_int (by decide +kernel) (sa_cons (se_bin op_addU bs_add (se_bin op_mulU bs_mul (se_var 3) (se_var 3)) (se_bin op_mulU bs_mul se_int (se_ixO 0 se_int (by intro _ _; rfl)))) sa_nil)) se_int) se_int) (se_var 3)))
      (sss_one (ss_ret (se_bin op_mod bs_mod (se_callT ca_int call_int1 T.b_int (by decide +kernel) (sa_cons (se_bin op_fdivW bs_div (se_var 4) se_int) sa_nil)) (se_var 1))))))))
theorem S__law_pick : FnScope ["dice", "items"] ["dice", "items"] (defScope s__law_pick) := ⟨rfl, rfl, rfl, by decide +kernel, rfl, by decide +kernel, by decide +kernel⟩
theorem ok__law_pick (T : Txt K mg cl) : OkF P w K mg 2 (He.ga K "_law_pick") ["dice", "items"] (spF K cl [true, false] F__law_pick) := by
  obtain ⟨fd, F⟩ := T.u__law_pick
  obtain ⟨fd__law_roll, _, b__law_roll, G__law_roll⟩ := ok__law_roll (P := P) (w := w) T
  refine ok_mk F (fun _ _ _ _ _ _ us hl => match us, hl with | [_, _], _ => rfl) (fun base => fn_ok F S__law_pick rfl (by decide) (fun cdv A outer s H E H0 G0 W B hr => ?_))
  have F__law_roll := G__law_roll base
  have hu := hu_of hr
  have hu64 := hr.units
  have hu65 := hu65_of hr
  have tk := takes_of (X := cxOf (L2.CX P w) P w K mg base ["dice", "items"] "_law_pick" (defScope s__law_pick) (He.ga K "_law_pick") cdv A outer s H E) rfl rfl rfl rfl
  exact (sss_one (ss_ret (se_ix hu rfl (se_var 1) (se_fn (as := [some 0, none]) F__law_roll (hr.mono (by decide)) tk T.g__law_roll T.k__law_roll b__law_roll (sab_b 0 (sab_v (se_callB ca_len call_lenU T.b_len (by decide +kernel) (sa_cons (se_var 1) sa_nil)) sab_nil))) (by intro _ _; rfl))))
theorem S_brought : FnScope ["many", "pairs", "found", "number", "value", "index"] ["many", "pairs"] (defScope s_brought) := ⟨rfl, rfl, rfl, by decide +kernel, rfl, by decide +kernel, by decide +kernel⟩
theorem ok_brought (T : Txt K mg cl) : OkF P w K mg 2 (He.ga K "brought") ["many", "pairs"] (spF K cl [false, false] F_brought) := by
  obtain ⟨fd, F⟩ := T.u_brought
  obtain ⟨fd_rest_of, _, b_rest_of, G_rest_of⟩ := ok_rest_of (P := P) (w := w) T
  refine ok_mk F (fun _ _ _ _ _ _ us hl => match us, hl with | [_, _], _ => rfl) (fun base => fn_ok F S_brought rfl (by decide) (fun cdv A outer s H E H0 G0 W B hr => ?_))
  have F_rest_of := G_rest_of base
  have hu := hu_of hr
  have hu64 := hr.units
  have hu65 := hu65_of hr
  have tk := takes_of (X := cxOf (L2.CX P w) P w K mg base ["many", "pairs", "found", "number", "value", "index"] "brought" (defScope s_brought) (He.ga K "brought") cdv A outer s H E) rfl rfl rfl rfl
  exact (sss_cons (ss_set 2 S_brought.nd (se_l (sl_callB cf_sortP cr_sortedT T.b_sorted (by decide +kernel) (sa_cons (se_l (sl_lc (own := ([("number", 3), ("value", 4)] : List (Str × Nat))) (vs := [3, 4]) rfl S_brought.nd (si_seq rfl (se_var 1)) (blkOk_by (N := ["many", "pairs", "found", "number", "value", "index"]) (sc := defScope s_brought) (by decide +kernel)) rfl (fun _ _ _ _ _ => (sg_tup rfl rfl (sgs_cons (sg_name 3 S_brought.nd) (sgs_cons (sg_name 4 S_brought.nd) sgs_nil)))) (fun _ _ _ _ _ => sts_nil) (fun _ _ _ _ _ => (se_tup (sa_cons (se_fn (as := [none, none]) F_rest_of (hr.mono (by decide)) takes0 T.g_rest_of T.k_rest_of b_rest_of (sab_v (se_var 0) (sab_v (se_var 3) sab_nil))) (sa_cons (se_bin op_addU bs_add (se_bin op_sub bs_sub (se_var 4) (se_var 3)) (se_fn (as := [none, none]) F_rest_of (hr.mono (by decide)) takes0 T.g_rest_of T.k_rest_of b_rest_of (sab_v (se_var 0) (sab_v (se_var 3) sab_nil)))) sa_nil)))))) sa_nil))))
      (sss_one (ss_ret (se_callT ca_tuple call_tuple_of T.b_tuple (by decide +kernel) (sa_cons (se_l (sl_lc (own := ([("index", 5), ("value", 4)] : List (Str × Nat))) (vs := [5, 4]) rfl S_brought.nd (si_seq rfl (se_var 2)) (blkOk_by (N := ["many", "pairs", "found", "number", "value", "index"]) (sc := defScope s_brought) (by decide +kernel)) rfl (fun _ _ _ _ _ => (sg_tup rfl rfl (sgs_cons (sg_name 5 S_brought.nd) (sgs_cons (sg_name 4 S_brought.nd) sgs_nil)))) (fun _ _ _ _ _ => sts_nil) (fun _ _ _ _ _ => (se_var 4)))) sa_nil)))))
theorem S_Order_dual : FnScope ["self", "many", "pairs", "index", "number"] ["self"] (defScope s_Order_dual) := ⟨rfl, rfl, rfl, by decide +kernel, rfl, by decide +kernel, by decide +kernel⟩
theorem ok_Order_dual (T : Txt K mg cl) : OkF P w K mg 6 (ge K (He.ga K "Order") "dual") ["self"] (spF K cl [false] F_Order_dual) := by
  obtain ⟨fd, F⟩ := T.u_Order_dual
  obtain ⟨fd_Order___init__, _, b_Order___init__, G_Order___init__⟩ := ok_Order___init__ (P := P) (w := w) T
  obtain ⟨fd_brought, _, b_brought, G_brought⟩ := ok_brought (P := P) (w := w) T
  refine ok_mk F (fun _ _ _ _ _ _ us hl => match us, hl with | [_], _ => rfl) (fun base => fn_ok F S_Order_dual rfl (by decide) (fun cdv A outer s H E H0 G0 W B hr => ?_))
  have F_Order___init__ := G_Order___init__ base
  have F_brought := G_brought base
  have hu := hu_of hr
  have hu64 := hr.units
  have hu65 := hu65_of hr
  have tk := takes_of (X := cxOf (L2.CX P w) P w K mg base ["self", "many", "pairs", "index", "number"] "Order.dual" (defScope s_Order_dual) (ge K (He.ga K "Order") "dual") cdv A outer s H E) rfl rfl rfl rfl
  exact (sss_cons (ss_set 1 S_Order_dual.nd (se_callB ca_len call_lenU T.b_len (by decide +kernel) (sa_cons (se_fld rfl T.cn_Order T.na_Order_own_numbers (se_var 0)) sa_nil)))
      (sss_cons (ss_setLc 2 (own := ([("index", 3), ("number", 4)] : List (Str × Nat))) (vs := [3, 4]) rfl S_Order_dual.nd (by rfl) (si_enStart (k0 := 1) rfl T.b_enumerate (se_fld rfl T.cn_Order T.na_Order_own_numbers (se_var 0))) (blkOk_by (N := ["self", "many", "pairs", "index", "number"]) (sc := defScope s_Order_dual) (by decide +kernel)) rfl (fun _ _ _ _ _ => (sg_tup rfl rfl (sgs_cons (sg_name 3 S_Order_dual.nd) (sgs_cons (sg_name 4 S_Order_dual.nd) sgs_nil)))) (fun _ _ _ _ _ => sts_nil) (fun _ _ _ _ _ => (se_tup (sa_cons (se_var 4) (sa_cons (se_bin op_addU bs_add (se_var 3) (se_var 1)) sa_nil)))))
      (sss_one (ss_ret (se_mk (as := [none]) T.cn_Order.at_ T.mk_Order F_Order___init__ (hr.mono (by decide)) tk T.g_Order b_Order___init__ (sab_v (se_fn (as := [none, none]) F_brought (hr.mono (by decide)) tk T.g_brought T.k_brought b_brought (sab_v (se_var 1) (sab_v (se_var 2) sab_nil))) sab_nil))))))
theorem S_Order_mirrored : FnScope ["self", "many", "pairs", "index", "number"] ["self"] (defScope s_Order_mirrored) := ⟨rfl, rfl, rfl, by decide +kernel, rfl, by decide +kernel, by decide +kernel⟩
theorem ok_Order_mirrored (T : Txt K mg cl) : OkF P w K mg 6 (ge K (He.ga K "Order") "mirrored") ["self"] (spF K cl [false] F_Order_mirrored) := by
  obtain ⟨fd, F⟩ := T.u_Order_mirrored
  obtain ⟨fd_Order___init__, _, b_Order___init__, G_Order___init__⟩ := ok_Order___init__ (P := P) (w := w) T
  obtain ⟨fd_brought, _, b_brought, G_brought⟩ := ok_brought (P := P) (w := w) T
  refine ok_mk F (fun _ _ _ _ _ _ us hl => match us, hl with | [_], _ => rfl) (fun base => fn_ok F S_Order_mirrored rfl (by decide) (fun cdv A outer s H E H0 G0 W B hr => ?_))
  have F_Order___init__ := G_Order___init__ base
  have F_brought := G_brought base
  have hu := hu_of hr
  have hu64 := hr.units
  have hu65 := hu65_of hr
  have tk := takes_of (X := cxOf (L2.CX P w) P w K mg base ["self", "many", "pairs", "index", "number"] "Order.mirrored" (defScope s_Order_mirrored) (ge K (He.ga K "Order") "mirrored") cdv A outer s H E) rfl rfl rfl rfl
  exact (sss_cons (ss_set 1 S_Order_mirrored.nd (se_callB ca_len call_lenU T.b_len (by decide +kernel) (sa_cons (se_fld rfl T.cn_Order T.na_Order_own_numbers (se_var 0)) sa_nil)))
      (sss_cons (ss_setLc 2 (own := ([("index", 3), ("number", 4)] : List (Str × Nat))) (vs := [3, 4]) rfl S_Order_mirrored.nd (by rfl) (si_enStart (k0 := 1) rfl T.b_enumerate (se_fld rfl T.cn_Order T.na_Order_own_numbers (se_var 0))) (blkOk_by (N := ["self", "many", "pairs", "index", "number"]) (sc := defScope s_Order_mirrored) (by decide +kernel)) rfl (fun _ _ _ _ _ => (sg_tup rfl rfl (sgs_cons (sg_name 3 S_Order_mirrored.nd) (sgs_cons (sg_name 4 S_Order_mirrored.nd) sgs_nil)))) (fun _ _ _ _ _ => sts_nil) (fun _ _ _ _ _ => (se_tup (sa_cons (se_bin op_sub bs_sub (se_bin op_addU bs_add (se_var 1) se_int) (se_var 4)) (sa_cons (se_bin op_sub bs_sub (se_bin op_addU bs_add (se_var 1) se_int) (se_var 3)) sa_nil)))))
      (sss_one (ss_ret (se_mk (as := [none]) T.cn_Order.at_ T.mk_Order F_Order___init__ (hr.mono (by decide)) tk T.g_Order b_Order___init__ (sab_v (se_fn (as := [none, none]) F_brought (hr.mono (by decide)) tk T.g_brought T.k_brought b_brought (sab_v (se_var 1) (sab_v (se_var 2) sab_nil))) sab_nil))))))
theorem S_Order_turned : FnScope ["self", "by", "pairs", "index", "number"] ["self", "by"] (defScope s_Order_turned) := ⟨rfl, rfl, rfl, by decide +kernel, rfl, by decide +kernel, by decide +kernel⟩
theorem ok_Order_turned (T : Txt K mg cl) : OkF P w K mg 6 (He.ma K (He.ga K "Order") "turned") ["self", "by"] (spF K cl [false, false] F_Order_turned) := by
  obtain ⟨fd, F⟩ := T.u_Order_turned
  obtain ⟨fd_is_integer, _, b_is_integer, G_is_integer⟩ := ok_is_integer (P := P) (w := w) T
  obtain ⟨fd_Order___init__, _, b_Order___init__, G_Order___init__⟩ := ok_Order___init__ (P := P) (w := w) T
  obtain ⟨fd_brought, _, b_brought, G_brought⟩ := ok_brought (P := P) (w := w) T
  refine ok_mk F (fun _ _ _ _ _ _ us hl => match us, hl with | [_, _], _ => rfl) (fun base => fn_ok F S_Order_turned rfl (by decide) (fun cdv A outer s H E H0 G0 W B hr => ?_))
  have F_is_integer := G_is_integer base
  have F_Order___init__ := G_Order___init__ base
  have F_brought := G_brought base
  have hu := hu_of hr
  have hu64 := hr.units
  have hu65 := hu65_of hr
  have tk := takes_of (X := cxOf (L2.CX P w) P w K mg base ["self", "by", "pairs", "index", "number"] "Order.turned" (defScope s_Order_turned) (He.ma K (He.ga K "Order") "turned") cdv A outer s H E) rfl rfl rfl rfl
  exact (sss_cons (ss_if (sb_not (sb_val (se_fn (as := [none]) F_is_integer (hr.mono (by decide)) tk T.g_is_integer T.k_is_integer b_is_integer (sab_v (se_var 1) sab_nil)))) (sss_one ss_stuck) sss_nil)
      (sss_cons (ss_setLc 2 (own := ([("index", 3), ("number", 4)] : List (Str × Nat))) (vs := [3, 4]) rfl S_Order_turned.nd (by rfl) (si_enStart (k0 := 1) rfl T.b_enumerate (se_fld rfl T.cn_Order T.na_Order_own_numbers (se_var 0))) (blkOk_by (N := ["self", "by", "pairs", "index", "number"]) (sc := defScope s_Order_turned) (by decide +kernel)) rfl (fun _ _ _ _ _ => (sg_tup rfl rfl (sgs_cons (sg_name 3 S_Order_turned.nd) (sgs_cons (sg_name 4 S_Order_turned.nd) sgs_nil)))) (fun _ _ _ _ _ => sts_nil) (fun _ _ _ _ _ => (se_tup (sa_cons (se_bin op_addU bs_add (se_var 3) (se_var 1)) (sa_cons (se_bin op_addU bs_add (se_var 4) (se_var 1)) sa_nil)))))
      (sss_one (ss_ret (se_mk (as := [none]) T.cn_Order.at_ T.mk_Order F_Order___init__ (hr.mono (by decide)) tk T.g_Order b_Order___init__ (sab_v (se_fn (as := [none, none]) F_brought (hr.mono (by decide)) tk T.g_brought T.k_brought b_brought (sab_v (se_callB ca_len call_lenU T.b_len (by decide +kernel) (sa_cons (se_fld rfl T.cn_Order T.na_Order_own_numbers (se_var 0)) sa_nil)) (sab_v (se_var 2) sab_nil))) sab_nil))))))
theorem S__law_standing : FnScope ["numbers", "value", "times", "at"] ["numbers", "value"] (defScope s__law_standing) := ⟨rfl, rfl, rfl, by decide +kernel, rfl, by decide +kernel, by decide +kernel⟩
theorem ok__law_standing (T : Txt K mg cl) : OkF P w K mg 1 (He.ga K "_law_standing") ["numbers", "value"] (spF K cl [false, false] F__law_standing) := by
  obtain ⟨fd, F⟩ := T.u__law_standing
  refine ok_mk F (fun _ _ _ _ _ _ us hl => match us, hl with | [_, _], _ => rfl) (fun base => fn_ok F S__law_standing rfl (by decide) (fun cdv A outer s H E H0 G0 W B hr => ?_))
  have hu := hu_of hr
  have hu64 := hr.units
  have hu65 := hu65_of hr
  have tk := takes_of (X := cxOf (L2.CX P w) P w K mg base ["numbers", "value", "times", "at"] "_law_standing" (defScope s__law_standing) (He.ga K "_law_standing") cdv A outer s H E) rfl rfl rfl rfl
  exact (sss_cons (ss_set 2 S__law_standing.nd (se_callB ca_len call_lenU T.b_len (by decide +kernel) (sa_cons (se_var 0) sa_nil)))
      (sss_cons (ss_for (vs := [3]) (passes_of rfl) rfl (si_range1 T.b_range (se_var 2)) (sg_name 3 S__law_standing.nd) (sss_one (ss_if (sb_cmp (op_eqD hu64) bs_eq (se_bin op_mod bs_mod (se_callT ca_int call_int1 T.b_int (by decide +kernel) (sa_cons (se_bin op_sub bs_sub (se_ix hu rfl (se_var 0) (se_var 3) (by intro _ _; rfl)) (se_var 1)) sa_nil)) (se_var 2)) se_int (nomark _)) (sss_one (ss_ret (se_bin op_sub bs_sub (se_bin op_addU bs_add (se_bin op_addU bs_add (se_var 3) se_int) (se_var 1)) (se_ix hu rfl (se_var 0) (se_var 3) (by intro _ _; rfl))))) sss_nil)))
      (sss_one (ss_ret se_non))))
theorem S__law_dual_of : FnScope ["numbers", "times", "value"] ["numbers"] (defScope s__law_dual_of) := ⟨rfl, rfl, rfl, by decide +kernel, rfl, by decide +kernel, by decide +kernel⟩
theorem ok__law_dual_of (T : Txt K mg cl) : OkF P w K mg 2 (He.ga K "_law_dual_of") ["numbers"] (spF K cl [false] F__law_dual_of) := by
  obtain ⟨fd, F⟩ := T.u__law_dual_of
  obtain ⟨fd__law_standing, _, b__law_standing, G__law_standing⟩ := ok__law_standing (P := P) (w := w) T
  refine ok_mk F (fun _ _ _ _ _ _ us hl => match us, hl with | [_], _ => rfl) (fun base => fn_ok F S__law_dual_of rfl (by decide) (fun cdv A outer s H E H0 G0 W B hr => ?_))
  have F__law_standing := G__law_standing base
  have hu := hu_of hr
  have hu64 := hr.units
  have hu65 := hu65_of hr
  have tk := takes_of (X := cxOf (L2.CX P w) P w K mg base ["numbers", "times", "value"] "_law_dual_of" (defScope s__law_dual_of) (He.ga K "_law_dual_of") cdv A outer s H E) rfl rfl rfl rfl
  exact (sss_cons (ss_set 1 S__law_dual_of.nd (se_callB ca_len call_lenU T.b_len (by decide +kernel) (sa_cons (se_var 0) sa_nil)))
      (sss_one (ss_ret (se_callT ca_tuple call_tuple_of T.b_tuple (by decide +kernel) (sa_cons (se_l (sl_lc (own := ([("value", 2)] : List (Str × Nat))) (vs := [2]) rfl S__law_dual_of.nd (si_range2 T.b_range se_int (se_bin op_addU bs_add (se_var 1) se_int)) (blkOk_by (N := ["numbers", "times", "value"]) (sc := defScope s__law_dual_of) (by decide +kernel)) rfl (fun _ _ _ _ _ => (sg_name 2 S__law_dual_of.nd)) (fun _ _ _ _ _ => sts_nil) (fun _ _ _ _ _ => (se_bin op_addU bs_add (se_fn (as := [none, none]) F__law_standing (hr.mono (by decide)) takes0 T.g__law_standing T.k__law_standing b__law_standing (sab_v (se_var 0) (sab_v (se_var 2) sab_nil))) (se_var 1))))) sa_nil)))))
theorem S__law_mirrored_of : FnScope ["numbers", "times", "value"] ["numbers"] (defScope s__law_mirrored_of) := ⟨rfl, rfl, rfl, by decide +kernel, rfl, by decide +kernel, by decide +kernel⟩
theorem ok__law_mirrored_of (T : Txt K mg cl) : OkF P w K mg 2 (He.ga K "_law_mirrored_of") ["numbers"] (spF K cl [false] F__law_mirrored_of) := by
  obtain ⟨fd, F⟩ := T.u__law_mirrored_of
  obtain ⟨fd__law_standing, _, b__law_standing, G__law_standing⟩ := ok__law_standing (P := P) (w := w) T
  refine ok_mk F (fun _ _ _ _ _ _ us hl => match us, hl with | [_], _ => rfl) (fun base => fn_ok F S__law_mirrored_of rfl (by decide) (fun cdv A outer s H E H0 G0 W B hr => ?_))
  have F__law_standing := G__law_standing base
  have hu := hu_of hr
  have hu64 := hr.units
  have hu65 := hu65_of hr
  have tk := takes_of (X := cxOf (L2.CX P w) P w K mg base ["numbers", "times", "value"] "_law_mirrored_of" (defScope s__law_mirrored_of) (He.ga K "_law_mirrored_of") cdv A outer s H E) rfl rfl rfl rfl
  exact (sss_cons (ss_set 1 S__law_mirrored_of.nd (se_callB ca_len call_lenU T.b_len (by decide +kernel) (sa_cons (se_var 0) sa_nil)))
      (sss_one (ss_ret (se_callT ca_tuple call_tuple_of T.b_tuple (by decide +kernel) (sa_cons (se_l (sl_lc (own := ([("value", 2)] : List (Str × Nat))) (vs := [2]) rfl S__law_mirrored_of.nd (si_range2 T.b_range se_int (se_bin op_addU bs_add (se_var 1) se_int)) (blkOk_by (N := ["numbers", "times", "value"]) (sc := defScope s__law_mirrored_of) (by decide +kernel)) rfl (fun _ _ _ _ _ => (sg_name 2 S__law_mirrored_of.nd)) (fun _ _ _ _ _ => sts_nil) (fun _ _ _ _ _ => (se_bin op_sub bs_sub (se_bin op_addU bs_add (se_var 1) se_int) (se_fn (as := [none, none]) F__law_standing (hr.mono (by decide)) takes0 T.g__law_standing T.k__law_standing b__law_standing (sab_v (se_var 0) (sab_v (se_bin op_sub bs_sub (se_bin op_addU bs_add (se_var 1) se_int) (se_var 2)) sab_nil))))))) sa_nil)))))
theorem S__law_value : FnScope ["numbers", "index", "times", "turns"] ["numbers", "index"] (defScope s__law_value) := ⟨rfl, rfl, rfl, by decide +kernel, rfl, by decide +kernel, by decide +kernel⟩
theorem ok__law_value (T : Txt K mg cl) : OkF P w K mg 1 (He.ga K "_law_value") ["numbers", "index"] (spF K cl [false, false] F__law_value) := by
  obtain ⟨fd, F⟩ := T.u__law_value
  refine ok_mk F (fun _ _ _ _ _ _ us hl => match us, hl with | [_, _], _ => rfl) (fun base => fn_ok F S__law_value rfl (by decide) (fun cdv A outer s H E H0 G0 W B hr => ?_))
  have hu := hu_of hr
  have hu64 := hr.units
  have hu65 := hu65_of hr
  have tk := takes_of (X := cxOf (L2.CX P w) P w K mg base ["numbers", "index", "times", "turns"] "_law_value" (defScope s__law_value) (He.ga K "_law_value") cdv A outer s H E) rfl rfl rfl rfl
  exact (sss_cons (ss_set 2 S__law_value.nd (se_callB ca_len call_lenU T.b_len (by decide +kernel) (sa_cons (se_var 0) sa_nil)))
      (sss_cons (ss_set 3 S__law_value.nd (se_bin op_fdivW bs_div (se_bin op_sub bs_sub (se_var 1) se_int) (se_var 2)))
      (sss_one (ss_ret (se_bin op_addU bs_add (se_ix hu rfl (se_var 0) (se_bin op_sub bs_sub (se_bin op_sub bs_sub (se_var 1) se_int) (se_bin op_mulU bs_mul (se_var 3) (se_var 2))) (by intro _ _; rfl)) (se_bin op_mulU bs_mul (se_var 3) (se_var 2)))))))
theorem S__law_turned_of : FnScope ["numbers", "by", "place"] ["numbers", "by"] (defScope s__law_turned_of) := ⟨rfl, rfl, rfl, by decide +kernel, rfl, by decide +kernel, by decide +kernel⟩
theorem ok__law_turned_of (T : Txt K mg cl) : OkF P w K mg 2 (He.ga K "_law_turned_of") ["numbers", "by"] (spF K cl [false, false] F__law_turned_of) := by
  obtain ⟨fd, F⟩ := T.u__law_turned_of
  obtain ⟨fd__law_value, _, b__law_value, G__law_value⟩ := ok__law_value (P := P) (w := w) T
  refine ok_mk F (fun _ _ _ _ _ _ us hl => match us, hl with | [_, _], _ => rfl) (fun base => fn_ok F S__law_turned_of rfl (by decide) (fun cdv A outer s H E H0 G0 W B hr => ?_))
  have F__law_value := G__law_value base
  have hu := hu_of hr
  have hu64 := hr.units
  have hu65 := hu65_of hr
  have tk := takes_of (X := cxOf (L2.CX P w) P w K mg base ["numbers", "by", "place"] "_law_turned_of" (defScope s__law_turned_of) (He.ga K "_law_turned_of") cdv A outer s H E) rfl rfl rfl rfl
  exact (sss_one (ss_ret (se_callT ca_tuple call_tuple_of T.b_tuple (by decide +kernel) (sa_cons (se_l (sl_lc (own := ([("place", 2)] : List (Str × Nat))) (vs := [2]) rfl S__law_turned_of.nd (si_range2 T.b_range se_int (se_bin op_addU bs_add (se_callB ca_len call_lenU T.b_len (by decide +kernel) (sa_cons (se_var 0) sa_nil)) se_int)) (blkOk_by (N := ["numbers", "by", "place"]) (sc := defScope s__law_turned_of) (by decide +kernel)) rfl (fun _ _ _ _ _ => (sg_name 2 S__law_turned_of.nd)) (fun _ _ _ _ _ => sts_nil) (fun _ _ _ _ _ => (se_bin op_addU bs_add (se_fn (as := [none, none]) F__law_value (hr.mono (by decide)) takes0 T.g__law_value T.k__law_value b__law_value (sab_v (se_var 0) (sab_v (se_bin op_sub bs_sub (se_var 2) (se_var 1)) sab_nil))) (se_var 1))))) sa_nil))))
theorem S_Order_numbers : FnScope ["self"] ["self"] (defScope s_Order_numbers) := ⟨rfl, rfl, rfl, by decide +kernel, rfl, by decide +kernel, by decide +kernel⟩
theorem ok_Order_numbers (T : Txt K mg cl) : OkF P w K mg 1 (ge K (He.ga K "Order") "numbers") ["self"] (spF K cl [false] F_Order_numbers) := by
  obtain ⟨fd, F⟩ := T.u_Order_numbers
  refine ok_mk F (fun _ _ _ _ _ _ us hl => match us, hl with | [_], _ => rfl) (fun base => fn_ok F S_Order_numbers rfl (by decide) (fun cdv A outer s H E H0 G0 W B hr => ?_))
  have hu := hu_of hr
  have hu64 := hr.units
  have hu65 := hu65_of hr
  have tk := takes_of (X := cxOf (L2.CX P w) P w K mg base ["self"] "Order.numbers" (defScope s_Order_numbers) (ge K (He.ga K "Order") "numbers") cdv A outer s H E) rfl rfl rfl rfl
  exact (sss_one (ss_ret (se_fld rfl T.cn_Order T.na_Order_own_numbers (se_var 0))))
theorem S_falling_in : FnScope ["numbers", "index", "number"] ["numbers"] (defScope s_falling_in) := ⟨rfl, rfl, rfl, by decide +kernel, rfl, by decide +kernel, by decide +kernel⟩
theorem ok_falling_in (T : Txt K mg cl) : OkF P w K mg 1 (He.ga K "falling_in") ["numbers"] (spF K cl [false] F_falling_in) := by
  obtain ⟨fd, F⟩ := T.u_falling_in
  refine ok_mk F (fun _ _ _ _ _ _ us hl => match us, hl with | [_], _ => rfl) (fun base => fn_ok F S_falling_in rfl (by decide) (fun cdv A outer s H E H0 G0 W B hr => ?_))
  have hu := hu_of hr
  have hu64 := hr.units
  have hu65 := hu65_of hr
  have tk := takes_of (X := cxOf (L2.CX P w) P w K mg base ["numbers", "index", "number"] "falling_in" (defScope s_falling_in) (He.ga K "falling_in") cdv A outer s H E) rfl rfl rfl rfl
  exact (sss_one (ss_ret (se_l (sl_lc (own := ([("index", 1), ("number", 2)] : List (Str × Nat))) (vs := [1, 2]) rfl S_falling_in.nd (si_enStart (k0 := 1) rfl T.b_enumerate (se_var 0)) (blkOk_by (N := ["numbers", "index", "number"]) (sc := defScope s_falling_in) (by decide +kernel)) rfl (fun _ _ _ _ _ => (sg_tup rfl rfl (sgs_cons (sg_name 1 S_falling_in.nd) (sgs_cons (sg_name 2 S_falling_in.nd) sgs_nil)))) (fun _ _ _ _ _ => (sts_one (sb_cmp op_gt bs_gt (se_var 2) (se_callB ca_len call_lenU T.b_len (by decide +kernel) (sa_cons (se_var 0) sa_nil)) (nomark _)))) (fun _ _ _ _ _ => (se_var 1))))))
theorem S_value_at : FnScope ["numbers", "number", "index"] ["numbers", "number"] (defScope s_value_at) := ⟨rfl, rfl, rfl, by decide +kernel, rfl, by decide +kernel, by decide +kernel⟩
theorem ok_value_at (T : Txt K mg cl) : OkF P w K mg 2 (He.ga K "value_at") ["numbers", "number"] (spF K cl [false, false] F_value_at) := by
  obtain ⟨fd, F⟩ := T.u_value_at
  obtain ⟨fd_rest_of, _, b_rest_of, G_rest_of⟩ := ok_rest_of (P := P) (w := w) T
  refine ok_mk F (fun _ _ _ _ _ _ us hl => match us, hl with | [_, _], _ => rfl) (fun base => fn_ok F S_value_at rfl (by decide) (fun cdv A outer s H E H0 G0 W B hr => ?_))
  have F_rest_of := G_rest_of base
  have hu := hu_of hr
  have hu64 := hr.units
  have hu65 := hu65_of hr
  have tk := takes_of (X := cxOf (L2.CX P w) P w K mg base ["numbers", "number", "index"] "value_at" (defScope s_value_at) (He.ga K "value_at") cdv A outer s H E) rfl rfl rfl rfl
  exact (sss_cons (ss_set 2 S_value_at.nd (se_fn (as := [none, none]) F_rest_of (hr.mono (by decide)) tk T.g_rest_of T.k_rest_of b_rest_of (sab_v (se_callB ca_len call_lenU T.b_len (by decide +kernel) (sa_cons (se_var 0) sa_nil)) (sab_v (se_var 1) sab_nil))))
      (sss_one (ss_ret (se_bin op_sub bs_sub (se_bin op_addU bs_add (se_ix hu rfl (se_var 0) (se_bin op_sub bs_sub (se_var 2) se_int) (by intro _ _; rfl)) (se_var 1)) (se_var 2)))))
theorem S_knots_in : FnScope ["numbers", "many", "places", "one", "other"] ["numbers"] (defScope s_knots_in) := ⟨rfl, rfl, rfl, by decide +kernel, rfl, by decide +kernel, by decide +kernel⟩
theorem ok_knots_in (T : Txt K mg cl) : OkF P w K mg 3 (He.ga K "knots_in") ["numbers"] (spF K cl [false] F_knots_in) := by
  obtain ⟨fd, F⟩ := T.u_knots_in
  obtain ⟨fd_value_at, _, b_value_at, G_value_at⟩ := ok_value_at (P := P) (w := w) T
  refine ok_mk F (fun _ _ _ _ _ _ us hl => match us, hl with | [_], _ => rfl) (fun base => fn_ok F S_knots_in rfl (by decide) (fun cdv A outer s H E H0 G0 W B hr => ?_))
  have F_value_at := G_value_at base
  have hu := hu_of hr
  have hu64 := hr.units
  have hu65 := hu65_of hr
  have tk := takes_of (X := cxOf (L2.CX P w) P w K mg base ["numbers", "many", "places", "one", "other"] "knots_in" (defScope s_knots_in) (He.ga K "knots_in") cdv A outer s H E) rfl rfl rfl rfl
  exact (sss_cons (ss_set 1 S_knots_in.nd (se_callB ca_len call_lenU T.b_len (by decide +kernel) (sa_cons (se_var 0) sa_nil)))
      (sss_cons (ss_setLc2 2 (own := ([("one", 3), ("other", 4)] : List (Str × Nat))) (vs := [3, 4]) (vs1 := [4]) rfl S_knots_in.nd (by rfl) (si_range2 T.b_range se_int (se_bin op_addU bs_add (se_var 1) se_int)) (blkOk_by (N := ["numbers", "many", "places", "one", "other"]) (sc := defScope s_knots_in) (by decide +kernel)) rfl (by decide) (fun _ _ _ _ _ => (sg_name 3 S_knots_in.nd)) (fun _ _ _ _ _ => sts_nil) (fun _ _ _ _ _ => (si_range2 T.b_range (se_bin op_addU bs_add (se_var 3) se_int) (se_bin op_addU bs_add (se_var 3) (se_var 1)))) (fun _ _ _ _ _ => (sg_name 4 S_knots_in.nd)) (fun _ _ _ _ _ => sts_nil) (fun _ _ _ _ _ => (se_tup (sa_cons (se_var 3) (sa_cons (se_var 4) sa_nil)))))
      (sss_one (ss_ret (se_l (sl_lc (own := ([("one", 3), ("other", 4)] : List (Str × Nat))) (vs := [3, 4]) rfl S_knots_in.nd (si_seq rfl (se_var 2)) (blkOk_by (N := ["numbers", "many", "places", "one", "other"]) (sc := defScope s_knots_in) (by decide +kernel)) rfl (fun _ _ _ _ _ => (sg_tup rfl rfl (sgs_cons (sg_name 3 S_knots_in.nd) (sgs_cons (sg_name 4 S_knots_in.nd) sgs_nil)))) (fun _ _ _ _ _ => (sts_one (sb_cmp op_gt bs_gt (se_ix hu rfl (se_var 0) (se_bin op_sub bs_sub (se_var 3) se_int) (by intro _ _; rfl)) (se_fn (as := [none, none]) F_value_at (hr.mono (by decide)) takes0 T.g_value_at T.k_value_at b_value_at (sab_v (se_var 0) (sab_v (se_var 4) sab_nil))) (nomark _)))) (fun _ _ _ _ _ => (se_tup (sa_cons (se_var 3) (sa_cons (se_var 4) sa_nil))))))))))
theorem S_Order_size : FnScope ["self", "level"] ["self"] (defScope s_Order_size) := ⟨rfl, rfl, rfl, by decide +kernel, rfl, by decide +kernel, by decide +kernel⟩
theorem ok_Order_size (T : Txt K mg cl) : OkF P w K mg 4 (ge K (He.ga K "Order") "size") ["self"] (spF K cl [false] F_Order_size) := by
  obtain ⟨fd, F⟩ := T.u_Order_size
  obtain ⟨fd_falling_in, _, b_falling_in, G_falling_in⟩ := ok_falling_in (P := P) (w := w) T
  obtain ⟨fd_knots_in, _, b_knots_in, G_knots_in⟩ := ok_knots_in (P := P) (w := w) T
  refine ok_mk F (fun _ _ _ _ _ _ us hl => match us, hl with | [_], _ => rfl) (fun base => fn_ok F S_Order_size rfl (by decide) (fun cdv A outer s H E H0 G0 W B hr => ?_))
  have F_falling_in := G_falling_in base
  have F_knots_in := G_knots_in base
  have hu := hu_of hr
  have hu64 := hr.units
  have hu65 := hu65_of hr
  have tk := takes_of (X := cxOf (L2.CX P w) P w K mg base ["self", "level"] "Order.size" (defScope s_Order_size) (ge K (He.ga K "Order") "size") cdv A outer s H E) rfl rfl rfl rfl
  exact (sss_cons (ss_set 1 S_Order_size.nd (se_callB ca_len call_lenU T.b_len (by decide +kernel) (sa_cons (se_fn (as := [none]) F_falling_in (hr.mono (by decide)) tk T.g_falling_in T.k_falling_in b_falling_in (sab_v (se_fld rfl T.cn_Order T.na_Order_own_numbers (se_var 0)) sab_nil)) sa_nil)))
      (sss_one (ss_ret (se_bin op_sub bs_sub (se_bin op_mulU bs_mul (se_var 1) (se_bin op_sub bs_sub (se_callB ca_len call_lenU T.b_len (by decide +kernel) (sa_cons (se_fld rfl T.cn_Order T.na_Order_own_numbers (se_var 0)) sa_nil)) (se_var 1))) (se_callB ca_len call_lenU T.b_len (by decide +kernel) (sa_cons (se_fn (as := [none]) F_knots_in (hr.mono (by decide)) tk T.g_knots_in T.k_knots_in b_knots_in (sab_v (se_fld rfl T.cn_Order T.na_Order_own_numbers (se_var 0)) sab_nil)) sa_nil))))))
theorem S_Order_level : FnScope ["self"] ["self"] (defScope s_Order_level) := ⟨rfl, rfl, rfl, by decide +kernel, rfl, by decide +kernel, by decide +kernel⟩
theorem ok_Order_level (T : Txt K mg cl) : OkF P w K mg 2 (ge K (He.ga K "Order") "level") ["self"] (spF K cl [false] F_Order_level) := by
  obtain ⟨fd, F⟩ := T.u_Order_level
  obtain ⟨fd_falling_in, _, b_falling_in, G_falling_in⟩ := ok_falling_in (P := P) (w := w) T
  refine ok_mk F (fun _ _ _ _ _ _ us hl => match us, hl with | [_], _ => rfl) (fun base => fn_ok F S_Order_level rfl (by decide) (fun cdv A outer s H E H0 G0 W B hr => ?_))
  have F_falling_in := G_falling_in base
  have hu := hu_of hr
  have hu64 := hr.units
  have hu65 := hu65_of hr
  have tk := takes_of (X := cxOf (L2.CX P w) P w K mg base ["self"] "Order.level" (defScope s_Order_level) (ge K (He.ga K "Order") "level") cdv A outer s H E) rfl rfl rfl rfl
  exact (sss_one (ss_ret (se_callB ca_len call_lenU T.b_len (by decide +kernel) (sa_cons (se_fn (as := [none]) F_falling_in (hr.mono (by decide)) tk T.g_falling_in T.k_falling_in b_falling_in (sab_v (se_fld rfl T.cn_Order T.na_Order_own_numbers (se_var 0)) sab_nil)) sa_nil))))
theorem S_Order_marks : FnScope ["self", "many", "fixed", "index", "number"] ["self"] (defScope s_Order_marks) := ⟨rfl, rfl, rfl, by decide +kernel, rfl, by decide +kernel, by decide +kernel⟩
theorem ok_Order_marks (T : Txt K mg cl) : OkF P w K mg 1 (ge K (He.ga K "Order") "marks") ["self"] (spL K cl [false] F_Order_marks) := by
  obtain ⟨fd, F⟩ := T.u_Order_marks
  refine ok_mk F (fun _ _ _ _ _ _ us hl => match us, hl with | [_], _ => rfl) (fun base => fn_okL F S_Order_marks rfl (by decide) (fun cdv A outer s H E H0 G0 W B hr => ?_))
  have hu := hu_of hr
  have hu64 := hr.units
  have hu65 := hu65_of hr
  have tk := takes_of (X := cxOf (L2.CX P w) P w K mg base ["self", "many", "fixed", "index", "number"] "Order.marks" (defScope s_Order_marks) (ge K (He.ga K "Order") "marks") cdv A outer s H E) rfl rfl rfl rfl
  exact (sss_cons (ss_set 1 S_Order_marks.nd (se_callB ca_len call_lenU T.b_len (by decide +kernel) (sa_cons (se_fld rfl T.cn_Order T.na_Order_own_numbers (se_var 0)) sa_nil)))
      (sss_cons (ss_setLc 2 (own := ([("index", 3), ("number", 4)] : List (Str × Nat))) (vs := [3, 4]) rfl S_Order_marks.nd (by rfl) (si_enStart (k0 := 1) rfl T.b_enumerate (se_fld rfl T.cn_Order T.na_Order_own_numbers (se_var 0))) (blkOk_by (N := ["self", "many", "fixed", "index", "number"]) (sc := defScope s_Order_marks) (by decide +kernel)) rfl (fun _ _ _ _ _ => (sg_tup rfl rfl (sgs_cons (sg_name 3 S_Order_marks.nd) (sgs_cons (sg_name 4 S_Order_marks.nd) sgs_nil)))) (fun _ _ _ _ _ => (sts_one (sb_cmp (op_inU hu65) bs_in (se_var 4) (se_tup (sa_cons (se_var 3) (sa_cons (se_bin op_addU bs_add (se_var 3) (se_var 1)) sa_nil))) (by with_unfolding_all rfl)))) (fun _ _ _ _ _ => (se_tup (sa_cons (se_var 3) (sa_cons (se_var 4) sa_nil)))))
      (sss_one (ss_retL (sl_dc (own := ([("index", 3), ("number", 4)] : List (Str × Nat))) (vs := [3, 4]) rfl S_Order_marks.nd (si_seq rfl (se_var 2)) (blkOk_by (N := ["self", "many", "fixed", "index", "number"]) (sc := defScope s_Order_marks) (by decide +kernel)) rfl (fun _ _ _ _ _ => (sg_tup rfl rfl (sgs_cons (sg_name 3 S_Order_marks.nd) (sgs_cons (sg_name 4 S_Order_marks.nd) sgs_nil)))) (fun _ _ _ _ _ => sts_nil) (fun _ _ _ _ _ => (se_var 3)) (fun _ _ _ _ _ => (se_if (sb_cmp (op_eqD hu64) bs_eq (se_var 4) (se_var 3) (nomark _)) se_str se_str)))))))
theorem S_Order_ends : FnScope ["self", "number"] ["self"] (defScope s_Order_ends) := ⟨rfl, rfl, rfl, by decide +kernel, rfl, by decide +kernel, by decide +kernel⟩
theorem ok_Order_ends (T : Txt K mg cl) : OkF P w K mg 2 (ge K (He.ga K "Order") "ends") ["self"] (spF K cl [false] F_Order_ends) := by
  obtain ⟨fd, F⟩ := T.u_Order_ends
  obtain ⟨fd_rest_of, _, b_rest_of, G_rest_of⟩ := ok_rest_of (P := P) (w := w) T
  refine ok_mk F (fun _ _ _ _ _ _ us hl => match us, hl with | [_], _ => rfl) (fun base => fn_ok F S_Order_ends rfl (by decide) (fun cdv A outer s H E H0 G0 W B hr => ?_))
  have F_rest_of := G_rest_of base
  have hu := hu_of hr
  have hu64 := hr.units
  have hu65 := hu65_of hr
  have tk := takes_of (X := cxOf (L2.CX P w) P w K mg base ["self", "number"] "Order.ends" (defScope s_Order_ends) (ge K (He.ga K "Order") "ends") cdv A outer s H E) rfl rfl rfl rfl
  exact (sss_one (ss_ret (se_callT ca_tuple call_tuple_of T.b_tuple (by decide +kernel) (sa_cons (se_l (sl_lc (own := ([("number", 1)] : List (Str × Nat))) (vs := [1]) rfl S_Order_ends.nd (si_seq rfl (se_fld rfl T.cn_Order T.na_Order_own_numbers (se_var 0))) (blkOk_by (N := ["self", "number"]) (sc := defScope s_Order_ends) (by decide +kernel)) rfl (fun _ _ _ _ _ => (sg_name 1 S_Order_ends.nd)) (fun _ _ _ _ _ => sts_nil) (fun _ _ _ _ _ => (se_fn (as := [none, none]) F_rest_of (hr.mono (by decide)) takes0 T.g_rest_of T.k_rest_of b_rest_of (sab_v (se_callB ca_len call_lenU T.b_len (by decide +kernel) (sa_cons (se_fld rfl T.cn_Order T.na_Order_own_numbers (se_var 0)) sa_nil)) (sab_v (se_var 1) sab_nil)))))) sa_nil))))
theorem S_Order___eq__ : FnScope ["self", "other"] ["self", "other"] (defScope s_Order___eq__) := ⟨rfl, rfl, rfl, by decide +kernel, rfl, by decide +kernel, by decide +kernel⟩
theorem ok_Order___eq__ (T : Txt K mg cl) : OkF P w K mg 1 (He.ma K (He.ga K "Order") "__eq__") ["self", "other"] (spF K cl [false, false] F_Order___eq__) := by
  obtain ⟨fd, F⟩ := T.u_Order___eq__
  refine ok_mk F (fun _ _ _ _ _ _ us hl => match us, hl with | [_, _], _ => rfl) (fun base => fn_ok F S_Order___eq__ rfl (by decide) (fun cdv A outer s H E H0 G0 W B hr => ?_))
  have hu := hu_of hr
  have hu64 := hr.units
  have hu65 := hu65_of hr
  have tk := takes_of (X := cxOf (L2.CX P w) P w K mg base ["self", "other"] "Order.__eq__" (defScope s_Order___eq__) (He.ma K (He.ga K "Order") "__eq__") cdv A outer s H E) rfl rfl rfl rfl
  exact (sss_one (ss_ret (se_and (se_isiC rfl T.cn_Order.at_ T.ic_Order (se_var 1) T.b_isinstance T.g_Order) (se_one (se_cmp (op_eqD hu64) bs_eq (se_fld rfl T.cn_Order T.na_Order_own_numbers (se_var 0)) (se_fld rfl T.cn_Order T.na_Order_own_numbers (se_var 1)) (nomark _))))))
theorem S__law_right : FnScope ["dice", "numbers", "order", "times", "by", "more", "dual", "mirrored", "turned", "due", "place", "end"] ["dice", "numbers"] (defScope s__law_right) := ⟨rfl, rfl, rfl, by decide +kernel, rfl, by decide +kernel, by decide +kernel⟩
theorem ok__law_right (T : Txt K mg cl) : OkF P w K mg 8 (He.ga K "_law_right") ["dice", "numbers"] (spF K cl [true, false] F__law_right) := by
  obtain ⟨fd, F⟩ := T.u__law_right
  obtain ⟨fd_Order___init__, _, b_Order___init__, G_Order___init__⟩ := ok_Order___init__ (P := P) (w := w) T
  obtain ⟨fd__law_roll, _, b__law_roll, G__law_roll⟩ := ok__law_roll (P := P) (w := w) T
  obtain ⟨fd__law_pick, _, b__law_pick, G__law_pick⟩ := ok__law_pick (P := P) (w := w) T
  obtain ⟨fd_Order_dual, _, b_Order_dual, G_Order_dual⟩ := ok_Order_dual (P := P) (w := w) T
  obtain ⟨fd_Order_mirrored, _, b_Order_mirrored, G_Order_mirrored⟩ := ok_Order_mirrored (P := P) (w := w) T
  obtain ⟨fd_Order_turned, _, b_Order_turned, G_Order_turned⟩ := ok_Order_turned (P := P) (w := w) T
  obtain ⟨fd__law_dual_of, _, b__law_dual_of, G__law_dual_of⟩ := ok__law_dual_of (P := P) (w := w) T
  obtain ⟨fd__law_mirrored_of, _, b__law_mirrored_of, G__law_mirrored_of⟩ := ok__law_mirrored_of (P := P) (w := w) T
  obtain ⟨fd__law_turned_of, _, b__law_turned_of, G__law_turned_of⟩ := ok__law_turned_of (P := P) (w := w) T
  obtain ⟨fd_Order_numbers, _, b_Order_numbers, G_Order_numbers⟩ := ok_Order_numbers (P := P) (w := w) T
  obtain ⟨fd_Order_size, _, b_Order_size, G_Order_size⟩ := ok_Order_size (P := P) (w := w) T
  obtain ⟨fd_Order_level, _, b_Order_level, G_Order_level⟩ := ok_Order_level (P := P) (w := w) T
  obtain ⟨fd_Order_marks, _, b_Order_marks, G_Order_marks⟩ := ok_Order_marks (P := P) (w := w) T
  obtain ⟨fd_Order_ends, _, b_Order_ends, G_Order_ends⟩ := ok_Order_ends (P := P) (w := w) T
  obtain ⟨fd_Order___eq__, _, b_Order___eq__, G_Order___eq__⟩ := ok_Order___eq__ (P := P) (w := w) T
  refine ok_mk F (fun _ _ _ _ _ _ us hl => match us, hl with | [_, _], _ => rfl) (fun base => fn_ok F S__law_right rfl (by decide) (fun cdv A outer s H E H0 G0 W B hr => ?_))
  have F_Order___init__ := G_Order___init__ base
  have F__law_roll := G__law_roll base
  have F__law_pick := G__law_pick base
  have F_Order_dual := G_Order_dual base
  have F_Order_mirrored := G_Order_mirrored base
  have F_Order_turned := G_Order_turned base
  have F__law_dual_of := G__law_dual_of base
  have F__law_mirrored_of := G__law_mirrored_of base
  have F__law_turned_of := G__law_turned_of base
  have F_Order_numbers := G_Order_numbers base
  have F_Order_size := G_Order_size base
  have F_Order_level := G_Order_level base
  have F_Order_marks := G_Order_marks base
  have F_Order_ends := G_Order_ends base
  have F_Order___eq__ := G_Order___eq__ base
  have hu := hu_of hr
  have hu64 := hr.units
  have hu65 := hu65_of hr
  have tk := takes_of (X := cxOf (L2.CX P w) P w K mg base ["dice", "numbers", "order", "times", "by", "more", "dual", "mirrored", "turned", "due", "place", "end"] "_law_right" (defScope s__law_right) (He.ga K "_law_right") cdv A outer s H E) rfl rfl rfl rfl
  obtain ⟨e1, e2⟩ := He.ba T.eq_Order
  obtain ⟨e2, e3⟩ := He.ba e2
  have u_eq := op_orR (X := cxOf (L2.CX P w) P w K mg base ["dice", "numbers", "order", "times", "by", "more", "dual", "mirrored", "turned", "due", "place", "end"] "_law_right" (defScope s__law_right) (He.ga K "_law_right") cdv A outer s H E) (op_eqD hu64) (op_orR (op_ownEq F_Order___eq__ (hr.mono (by decide : 1 ≤ 7)) (He.eqO_ok e1) e2 b_Order___eq__) (op_eq_dictA (Nat.lt_of_succ_lt hu)))
  have u_ne := op_orR (X := cxOf (L2.CX P w) P w K mg base ["dice", "numbers", "order", "times", "by", "more", "dual", "mirrored", "turned", "due", "place", "end"] "_law_right" (defScope s__law_right) (He.ga K "_law_right") cdv A outer s H E) (op_neD hu64) (op_orR (op_ownNe F_Order___eq__ (hr.mono (by decide : 2 ≤ 7)) e3 e2 b_Order___eq__) (op_ne_dictA (Nat.lt_of_succ_lt hu)))
  have ub_eq := bs_orR (M := ⟨K, cl, H0, G0, W, B⟩) bs_eq (bs_orR (bs_own (F := Dl.F_Order___eq__) (n := false) T.cn_Order.at_) bs_eqDic)
  have ub_ne := bs_orR (M := ⟨K, cl, H0, G0, W, B⟩) bs_ne (bs_orR (bs_own (F := Dl.F_Order___eq__) (n := true) T.cn_Order.at_) bs_neDic)
  exact (sss_cons (ss_asg (vs := [2, 3]) (se_tup (sa_cons (se_mk (as := [none]) T.cn_Order.at_ T.mk_Order F_Order___init__ (hr.mono (by decide)) tk T.g_Order b_Order___init__ (sab_v (se_var 1) sab_nil)) (sa_cons (se_callB ca_len call_lenU T.b_len (by decide +kernel) (sa_cons (se_var 1) sa_nil)) sa_nil))) (sg_tup rfl rfl (sgs_cons (sg_name 2 S__law_right.nd) (sgs_cons (sg_name 3 S__law_right.nd) sgs_nil))))
      (sss_cons (ss_par 4 5 rfl S__law_right.nd (by decide) (se_bin op_sub bs_sub (se_fn (as := [some 0, none]) F__law_roll (hr.mono (by decide)) tk T.g__law_roll T.k__law_roll b__law_roll (sab_b 0 (sab_v se_int sab_nil))) se_int) (se_fn (as := [some 0, none]) F__law_pick (hr.mono (by decide)) tk T.g__law_pick T.k__law_pick b__law_pick (sab_b 0 (sab_v (se_l (sl_lst (sa_cons (se_bin op_addU bs_add (se_bin op_pow bs_pow se_int se_int) (se_fn (as := [some 0, none]) F__law_roll (hr.mono (by decide)) tk T.g__law_roll T.k__law_roll b__law_roll (sab_b 0 (sab_v se_int sab_nil)))) (sa_cons (se_neg (se_bin op_pow bs_pow se_int se_int)) (sa_cons (se_fn (as := [some 0, none]) F__law_roll (hr.mono (by decide)) tk T.g__law_roll T.k__law_roll b__law_roll (sab_b 0 (sab_v se_int sab_nil))) sa_nil))))) sab_nil))))
      (sss_cons (ss_asg (vs := [6, 7]) (se_tup (sa_cons (se_prop rfl T.cn_Order T.pr_Order_dual F_Order_dual (hr.mono (by decide)) b_Order_dual (se_var 2)) (sa_cons (se_prop rfl T.cn_Order T.pr_Order_mirrored F_Order_mirrored (hr.mono (by decide)) b_Order_mirrored (se_var 2)) sa_nil))) (sg_tup rfl rfl (sgs_cons (sg_name 6 S__law_right.nd) (sgs_cons (sg_name 7 S__law_right.nd) sgs_nil))))
      (sss_cons (ss_set 8 S__law_right.nd (se_meth (as := [none]) T.cn_Order T.m_Order_turned F_Order_turned (hr.mono (by decide)) tk b_Order_turned (se_var 2) (sab_v (se_var 4) sab_nil)))
      (sss_cons (ss_set 9 S__law_right.nd (se_l (sl_lst (sa_cons (se_fn (as := [none]) F__law_dual_of (hr.mono (by decide)) tk T.g__law_dual_of T.k__law_dual_of b__law_dual_of (sab_v (se_var 1) sab_nil)) (sa_cons (se_fn (as := [none]) F__law_mirrored_of (hr.mono (by decide)) tk T.g__law_mirrored_of T.k__law_mirrored_of b__law_mirrored_of (sab_v (se_var 1) sab_nil)) (sa_cons (se_fn (as := [none, none]) F__law_turned_of (hr.mono (by decide)) tk T.g__law_turned_of T.k__law_turned_of b__law_turned_of (sab_v (se_var 1) (sab_v (se_var 4) sab_nil))) sa_nil))))))
      (sss_cons (ss_if (sb_cmp u_ne ub_ne (se_l (sl_lst (sa_cons (se_prop rfl T.cn_Order T.pr_Order_numbers F_Order_numbers (hr.mono (by decide)) b_Order_numbers (se_var 6)) (sa_cons (se_prop rfl T.cn_Order T.pr_Order_numbers F_Order_numbers (hr.mono (by decide)) b_Order_numbers (se_var 7)) (sa_cons (se_prop rfl T.cn_Order T.pr_Order_numbers F_Order_numbers (hr.mono (by decide)) b_Order_numbers (se_var 8)) sa_nil))))) (se_var 9) (nomark _)) (sss_one (ss_ret se_bl)) sss_nil)
      (sss_cons (ss_if (sb_w (sw_or (sb_cmp u_ne ub_ne (se_l (sl_lst (sa_cons (se_prop rfl T.cn_Order T.pr_Order_size F_Order_size (hr.mono (by decide)) b_Order_size (se_var 6)) (sa_cons (se_prop rfl T.cn_Order T.pr_Order_size F_Order_size (hr.mono (by decide)) b_Order_size (se_var 7)) (sa_cons (se_prop rfl T.cn_Order T.pr_Order_size F_Order_size (hr.mono (by decide)) b_Order_size (se_var 8)) sa_nil))))) (se_bin op_mulU bs_mul (se_l (sl_lst (sa_cons (se_prop rfl T.cn_Order T.pr_Order_size F_Order_size (hr.mono (by decide)) b_Order_size (se_var 2)) sa_nil))) se_int) (nomark _)) (sw_or1 (sb_cmp u_ne ub_ne (se_l (sl_lst (sa_cons (se_prop rfl T.cn_Order T.pr_Order_level F_Order_level (hr.mono (by decide)) b_Order_level (se_var 7)) (sa_cons (se_prop rfl T.cn_Order T.pr_Order_level F_Order_level (hr.mono (by decide)) b_Order_level (se_var 8)) sa_nil)))) (se_bin op_mulU bs_mul (se_l (sl_lst (sa_cons (se_prop rfl T.cn_Order T.pr_Order_level F_Order_level (hr.mono (by decide)) b_Order_level (se_var 2)) sa_nil))) se_int) (nomark _))))) (sss_one (ss_ret se_bl)) sss_nil)
      (sss_cons (ss_if (sb_w (sw_or (sb_cmp u_ne ub_ne (se_prop rfl T.cn_Order T.pr_Order_level F_Order_level (hr.mono (by decide)) b_Order_level (se_var 6)) (se_bin op_sub bs_sub (se_var 3) (se_prop rfl T.cn_Order T.pr_Order_level F_Order_level (hr.mono (by decide)) b_Order_level (se_var 2))) (nomark _)) (sw_or (sb_cmp u_ne ub_ne (se_prop rfl T.cn_Order T.pr_Order_dual F_Order_dual (hr.mono (by decide)) b_Order_dual (se_var 6)) (se_var 2) (nomark _)) (sw_or1 (sb_cmp u_ne ub_ne (se_prop rfl T.cn_Order T.pr_Order_mirrored F_Order_mirrored (hr.mono (by decide)) b_Order_mirrored (se_var 7)) (se_var 2) (nomark _)))))) (sss_one (ss_ret se_bl)) sss_nil)
      (sss_cons (ss_if (sb_w (sw_or (sb_cmp u_ne ub_ne (se_meth (as := [none]) T.cn_Order T.m_Order_turned F_Order_turned (hr.mono (by decide)) tk b_Order_turned (se_meth (as := [none]) T.cn_Order T.m_Order_turned F_Order_turned (hr.mono (by decide)) tk b_Order_turned (se_var 2) (sab_v (se_var 4) sab_nil)) (sab_v (se_var 5) sab_nil)) (se_meth (as := [none]) T.cn_Order T.m_Order_turned F_Order_turned (hr.mono (by decide)) tk b_Order_turned (se_var 2) (sab_v (se_bin op_addU bs_add (se_var 4) (se_var 5)) sab_nil)) (nomark _)) (sw_or1 (sb_cmp u_ne ub_ne (se_meth (as := [none]) T.cn_Order T.m_Order_turned F_Order_turned (hr.mono (by decide)) tk b_Order_turned (se_meth (as := [none]) T.cn_Order T.m_Order_turned F_Order_turned (hr.mono (by decide)) tk b_Order_turned (se_var 2) (sab_v (se_var 4) sab_nil)) (sab_v (se_neg (se_var 4)) sab_nil)) (se_var 2) (nomark _))))) (sss_one (ss_ret se_bl)) sss_nil)
      (sss_cons (ss_if (sb_w (sw_or (sb_cmp u_ne ub_ne (se_meth (as := [none]) T.cn_Order T.m_Order_turned F_Order_turned (hr.mono (by decide)) tk b_Order_turned (se_var 2) (sab_v (se_var 3) sab_nil)) (se_var 2) (nomark _)) (sw_or (sb_cmp u_ne ub_ne (se_meth (as := [none]) T.cn_Order T.m_Order_turned F_Order_turned (hr.mono (by decide)) tk b_Order_turned (se_var 2) (sab_v (se_bin op_mulU bs_mul (se_var 3) (se_var 5)) sab_nil)) (se_var 2) (nomark _)) (sw_or1 (sb_cmp u_ne ub_ne (se_meth (as := [none]) T.cn_Order T.m_Order_turned F_Order_turned (hr.mono (by decide)) tk b_Order_turned (se_var 2) (sab_v (se_bin op_addU bs_add (se_var 5) (se_var 3)) sab_nil)) (se_meth (as := [none]) T.cn_Order T.m_Order_turned F_Order_turned (hr.mono (by decide)) tk b_Order_turned (se_var 2) (sab_v (se_var 5) sab_nil)) (nomark _)))))) (sss_one (ss_ret se_bl)) sss_nil)
      (sss_cons (ss_if (sb_w (sw_or (sb_cmp u_ne ub_ne (se_prop rfl T.cn_Order T.pr_Order_mirrored F_Order_mirrored (hr.mono (by decide)) b_Order_mirrored (se_var 6)) (se_prop rfl T.cn_Order T.pr_Order_dual F_Order_dual (hr.mono (by decide)) b_Order_dual (se_var 7)) (nomark _)) (sw_or (sb_cmp u_ne ub_ne (se_prop rfl T.cn_Order T.pr_Order_dual F_Order_dual (hr.mono (by decide)) b_Order_dual (se_var 8)) (se_meth (as := [none]) T.cn_Order T.m_Order_turned F_Order_turned (hr.mono (by decide)) tk b_Order_turned (se_var 6) (sab_v (se_var 4) sab_nil)) (nomark _)) (sw_or1 (sb_cmp u_ne ub_ne (se_prop rfl T.cn_Order T.pr_Order_mirrored F_Order_mirrored (hr.mono (by decide)) b_Order_mirrored (se_var 8)) (se_meth (as := [none]) T.cn_Order T.m_Order_turned F_Order_turned (hr.mono (by decide)) tk b_Order_turned (se_var 7) (sab_v (se_neg (se_var 4)) sab_nil)) (nomark _)))))) (sss_one (ss_ret se_bl)) sss_nil)
      (sss_cons (ss_if (sb_cmp u_ne ub_ne (se_l (sl_callT cf_dict (call_dictP rfl) T.b_dict (by decide +kernel) (sa_cons (se_l (sl_lc (own := ([("place", 10)] : List (Str × Nat))) (vs := [10]) rfl S__law_right.nd (si_keysL (sl_prop rfl T.cn_Order T.pr_Order_marks F_Order_marks (hr.mono (by decide)) b_Order_marks (se_var 2))) (blkOk_by (N := ["dice", "numbers", "order", "times", "by", "more", "dual", "mirrored", "turned", "due", "place", "end"]) (sc := defScope s__law_right) (by decide +kernel)) rfl (fun _ _ _ _ _ => (sg_name 10 S__law_right.nd)) (fun _ _ _ _ _ => sts_nil) (fun _ _ _ _ _ => (se_tup (sa_cons (se_var 10) (sa_cons (se_if (sb_cmp (op_eqD hu64) bs_eq (se_ix hu rfl (se_l (sl_prop rfl T.cn_Order T.pr_Order_marks F_Order_marks (hr.mono (by decide)) b_Order_marks (se_var 2))) (se_var 10) (by intro _ _; rfl)) se_str (nomark _)) se_str se_str) sa_nil)))))) sa_nil))) (se_l (sl_prop rfl T.cn_Order T.pr_Order_marks F_Order_marks (hr.mono (by decide)) b_Order_marks (se_var 6))) (nomark _)) (sss_one (ss_ret se_bl)) sss_nil)
      (sss_one (ss_ret (se_cmp u_eq ub_eq (se_l (sl_lc (own := ([("end", 11)] : List (Str × Nat))) (vs := [11]) rfl S__law_right.nd (si_seq rfl (se_prop rfl T.cn_Order T.pr_Order_ends F_Order_ends (hr.mono (by decide)) b_Order_ends (se_var 2))) (blkOk_by (N := ["dice", "numbers", "order", "times", "by", "more", "dual", "mirrored", "turned", "due", "place", "end"]) (sc := defScope s__law_right) (by decide +kernel)) rfl (fun _ _ _ _ _ => (sg_name 11 S__law_right.nd)) (fun _ _ _ _ _ => sts_nil) (fun _ _ _ _ _ => (se_ix hu rfl (se_prop rfl T.cn_Order T.pr_Order_ends F_Order_ends (hr.mono (by decide)) b_Order_ends (se_var 6)) (se_bin op_sub bs_sub (se_var 11) se_int) (by intro _ _; rfl))))) (se_l (sl_lrg2 rfl T.b_list T.b_range se_int (se_bin op_addU bs_add (se_var 3) se_int))) (nomark _))))))))))))))))
theorem S__law_mixed : FnScope ["dice", "items", "left", "found", "turn"] ["dice", "items"] (defScope s__law_mixed) := ⟨rfl, rfl, rfl, by decide +kernel, rfl, by decide +kernel, by decide +kernel⟩
theorem ok__law_mixed (T : Txt K mg cl) : OkF P w K mg 2 (He.ga K "_law_mixed") ["dice", "items"] (spF K cl [true, false] F__law_mixed) := by
  obtain ⟨fd, F⟩ := T.u__law_mixed
  obtain ⟨fd__law_roll, _, b__law_roll, G__law_roll⟩ := ok__law_roll (P := P) (w := w) T
  refine ok_mk F (fun _ _ _ _ _ _ us hl => match us, hl with | [_, _], _ => rfl) (fun base => fn_ok F S__law_mixed rfl (by decide) (fun cdv A outer s H E H0 G0 W B hr => ?_))
  have F__law_roll := G__law_roll base
  have hu := hu_of hr
  have hu64 := hr.units
  have hu65 := hu65_of hr
  have tk := takes_of (X := cxOf (L2.CX P w) P w K mg base ["dice", "items", "left", "found", "turn"] "_law_mixed" (defScope s__law_mixed) (He.ga K "_law_mixed") cdv A outer s H E) rfl rfl rfl rfl
  exact (sss_cons (ss_parL 2 3 rfl S__law_mixed.nd (by decide) (sl_callT cf_list call_list_of T.b_list (by decide +kernel) (sa_cons (se_var 1) sa_nil)) (sl_lst sa_nil))
      (sss_cons (ss_for (vs := [4]) (passes_of rfl) rfl (si_range1 T.b_range (se_callB ca_len call_lenU T.b_len (by decide +kernel) (sa_cons (se_var 1) sa_nil))) (sg_name 4 S__law_mixed.nd) (sss_one (ss_exp (se_app 3 (se_popAt 2 (se_fn (as := [some 0, none]) F__law_roll (hr.mono (by decide)) tk T.g__law_roll T.k__law_roll b__law_roll (sab_b 0 (sab_v (se_lenO 2 T.b_len) sab_nil))) mt_popAt) mt_append))))
      (sss_one (ss_ret (se_var 3)))))
theorem S__law_order : FnScope ["dice", "times", "images", "found", "at", "place", "falls"] ["dice", "times"] (defScope s__law_order) := ⟨rfl, rfl, rfl, by decide +kernel, rfl, by decide +kernel, by decide +kernel⟩
theorem ok__law_order (T : Txt K mg cl) : OkF P w K mg 3 (He.ga K "_law_order") ["dice", "times"] (spF K cl [true, false] F__law_order) := by
  obtain ⟨fd, F⟩ := T.u__law_order
  obtain ⟨fd__law_mixed, _, b__law_mixed, G__law_mixed⟩ := ok__law_mixed (P := P) (w := w) T
  obtain ⟨fd__law_roll, _, b__law_roll, G__law_roll⟩ := ok__law_roll (P := P) (w := w) T
  refine ok_mk F (fun _ _ _ _ _ _ us hl => match us, hl with | [_, _], _ => rfl) (fun base => fn_ok F S__law_order rfl (by decide) (fun cdv A outer s H E H0 G0 W B hr => ?_))
  have F__law_mixed := G__law_mixed base
  have F__law_roll := G__law_roll base
  have hu := hu_of hr
  have hu64 := hr.units
  have hu65 := hu65_of hr
  have tk := takes_of (X := cxOf (L2.CX P w) P w K mg base ["dice", "times", "images", "found", "at", "place", "falls"] "_law_order" (defScope s__law_order) (He.ga K "_law_order") cdv A outer s H E) rfl rfl rfl rfl
  exact (sss_cons (ss_set 2 S__law_order.nd (se_fn (as := [some 0, none]) F__law_mixed (hr.mono (by decide)) tk T.g__law_mixed T.k__law_mixed b__law_mixed (sab_b 0 (sab_v (se_l (sl_lrg2 rfl T.b_list T.b_range se_int (se_bin op_addU bs_add (se_var 1) se_int))) sab_nil))))
      (sss_cons (ss_setL 3 S__law_order.nd (sl_lst sa_nil))
      (sss_cons (ss_for (vs := [4]) (passes_of rfl) rfl (si_range1 T.b_range (se_var 1)) (sg_name 4 S__law_order.nd) (sss_cons (ss_set 5 S__law_order.nd (se_ix hu rfl (se_var 2) (se_var 4) (by intro _ _; rfl)))
      (sss_cons (ss_set 6 S__law_order.nd (se_or (se_cmp op_ltU bs_lt (se_var 5) (se_bin op_addU bs_add (se_var 4) se_int) (nomark _)) (se_one (se_and (se_cmp (op_eqD hu64) bs_eq (se_var 5) (se_bin op_addU bs_add (se_var 4) se_int) (nomark _)) (se_one (se_cmp (op_eqD hu64) bs_eq (se_fn (as := [some 0, none]) F__law_roll (hr.mono (by decide)) tk T.g__law_roll T.k__law_roll b__law_roll (sab_b 0 (sab_v se_int sab_nil))) se_int (nomark _)))))))
      (sss_one (ss_exp (se_app 3 (se_bin op_addU bs_add (se_var 5) (se_bin op_mulU bs_mul (se_var 1) (se_callT ca_int call_int1 T.b_int (by decide +kernel) (sa_cons (se_var 6) sa_nil)))) mt_append))))))
      (sss_one (ss_ret (se_callT ca_tuple call_tuple_of T.b_tuple (by decide +kernel) (sa_cons (se_var 3) sa_nil)))))))
theorem S_law : FnScope ["script", "spot", "dice", "turn", "some", "told"] ["script"] (defScope s_law) := ⟨rfl, rfl, rfl, by decide +kernel, rfl, by decide +kernel, by decide +kernel⟩
theorem ok_law (T : Txt K mg cl) : OkF P w K mg 9 (He.ga K "law") ["script"] (spF K cl [false] F_law) := by
  obtain ⟨fd, F⟩ := T.u_law
  obtain ⟨fd__law_dice, _, b__law_dice, G__law_dice⟩ := ok__law_dice (P := P) (w := w) T
  obtain ⟨fd__law_right, _, b__law_right, G__law_right⟩ := ok__law_right (P := P) (w := w) T
  obtain ⟨fd__law_order, _, b__law_order, G__law_order⟩ := ok__law_order (P := P) (w := w) T
  obtain ⟨fd__law_roll, _, b__law_roll, G__law_roll⟩ := ok__law_roll (P := P) (w := w) T
  obtain ⟨fd_Order___init__, _, b_Order___init__, G_Order___init__⟩ := ok_Order___init__ (P := P) (w := w) T
  obtain ⟨fd_Order_dual, _, b_Order_dual, G_Order_dual⟩ := ok_Order_dual (P := P) (w := w) T
  obtain ⟨fd_Order_numbers, _, b_Order_numbers, G_Order_numbers⟩ := ok_Order_numbers (P := P) (w := w) T
  obtain ⟨fd_Order_mirrored, _, b_Order_mirrored, G_Order_mirrored⟩ := ok_Order_mirrored (P := P) (w := w) T
  obtain ⟨fd_Order_turned, _, b_Order_turned, G_Order_turned⟩ := ok_Order_turned (P := P) (w := w) T
  obtain ⟨fd_Order___eq__, _, b_Order___eq__, G_Order___eq__⟩ := ok_Order___eq__ (P := P) (w := w) T
  refine ok_mk F (fun _ _ _ _ _ _ us hl => match us, hl with | [_], _ => rfl) (fun base => fn_ok F S_law rfl (by decide) (fun cdv A outer s H E H0 G0 W B hr => ?_))
  have F__law_dice := G__law_dice base
  have F__law_right := G__law_right base
  have F__law_order := G__law_order base
  have F__law_roll := G__law_roll base
  have F_Order___init__ := G_Order___init__ base
  have F_Order_dual := G_Order_dual base
  have F_Order_numbers := G_Order_numbers base
  have F_Order_mirrored := G_Order_mirrored base
  have F_Order_turned := G_Order_turned base
  have F_Order___eq__ := G_Order___eq__ base
  have hu := hu_of hr
  have hu64 := hr.units
  have hu65 := hu65_of hr
  have tk := takes_of (X := cxOf (L2.CX P w) P w K mg base ["script", "spot", "dice", "turn", "some", "told"] "law" (defScope s_law) (He.ga K "law") cdv A outer s H E) rfl rfl rfl rfl
  obtain ⟨e1, e2⟩ := He.ba T.eq_Order
  obtain ⟨e2, e3⟩ := He.ba e2
  have u_eq := op_orR (X := cxOf (L2.CX P w) P w K mg base ["script", "spot", "dice", "turn", "some", "told"] "law" (defScope s_law) (He.ga K "law") cdv A outer s H E) (op_eqD hu64) (op_orR (op_ownEq F_Order___eq__ (hr.mono (by decide : 1 ≤ 8)) (He.eqO_ok e1) e2 b_Order___eq__) (op_eq_dictA (Nat.lt_of_succ_lt hu)))
  have u_ne := op_orR (X := cxOf (L2.CX P w) P w K mg base ["script", "spot", "dice", "turn", "some", "told"] "law" (defScope s_law) (He.ga K "law") cdv A outer s H E) (op_neD hu64) (op_orR (op_ownNe F_Order___eq__ (hr.mono (by decide : 2 ≤ 8)) e3 e2 b_Order___eq__) (op_ne_dictA (Nat.lt_of_succ_lt hu)))
  have ub_eq := bs_orR (M := ⟨K, cl, H0, G0, W, B⟩) bs_eq (bs_orR (bs_own (F := Dl.F_Order___eq__) (n := false) T.cn_Order.at_) bs_eqDic)
  have ub_ne := bs_orR (M := ⟨K, cl, H0, G0, W, B⟩) bs_ne (bs_orR (bs_own (F := Dl.F_Order___eq__) (n := true) T.cn_Order.at_) bs_neDic)
  exact (sss_cons (ss_for (vs := [1]) (passes_of rfl) rfl (si_range1 T.b_range (se_callB ca_max (call_max2 rfl) T.b_max (by decide +kernel) (sa_cons se_int (sa_cons (se_callB ca_min (call_min2 rfl) T.b_min (by decide +kernel) (sa_cons se_int (sa_cons (se_callB ca_len call_lenU T.b_len (by decide +kernel) (sa_cons (se_var 0) sa_nil)) sa_nil))) sa_nil)))) (sg_name 1 S_law.nd) (sss_cons (ss_setL 2 S_law.nd (sl_fn (as := [none, none]) F__law_dice (hr.mono (by decide)) tk T.g__law_dice T.k__law_dice b__law_dice (sab_v (se_var 0) (sab_v (se_var 1) sab_nil))))
      (sss_one (ss_for (vs := [3]) (passes_of rfl) rfl (si_range1 T.b_range se_int) (sg_name 3 S_law.nd) (sss_one (ss_if (sb_not (sb_val (se_fn (as := [some 2, none]) F__law_right (hr.mono (by decide)) tk T.g__law_right T.k__law_right b__law_right (sab_b 2 (sab_v (se_fn (as := [some 2, none]) F__law_order (hr.mono (by decide)) tk T.g__law_order T.k__law_order b__law_order (sab_b 2 (sab_v (se_bin op_addU bs_add se_int (se_fn (as := [some 2, none]) F__law_roll (hr.mono (by decide)) tk T.g__law_roll T.k__law_roll b__law_roll (sab_b 2 (sab_v se_int sab_nil)))) sab_nil))) sab_nil))))) (sss_one (ss_ret se_bl)) sss_nil))))))
      (sss_cons (ss_set 4 S_law.nd (se_mk (as := [none]) T.cn_Order.at_ T.mk_Order F_Order___init__ (hr.mono (by decide)) tk T.g_Order b_Order___init__ (sab_v (se_tup (sa_cons se_int (sa_cons se_int (sa_cons se_int (sa_cons se_int sa_nil))))) sab_nil)))
      (sss_cons (ss_set 5 S_law.nd (se_l (sl_lst (sa_cons (se_prop rfl T.cn_Order T.pr_Order_numbers F_Order_numbers (hr.mono (by decide)) b_Order_numbers (se_prop rfl T.cn_Order T.pr_Order_dual F_Order_dual (hr.mono (by decide)) b_Order_dual (se_var 4))) (sa_cons (se_prop rfl T.cn_Order T.pr_Order_numbers F_Order_numbers (hr.mono (by decide)) b_Order_numbers (se_prop rfl T.cn_Order T.pr_Order_mirrored F_Order_mirrored (hr.mono (by decide)) b_Order_mirrored (se_var 4))) (sa_cons (se_prop rfl T.cn_Order T.pr_Order_numbers F_Order_numbers (hr.mono (by decide)) b_Order_numbers (se_meth (as := [none]) T.cn_Order T.m_Order_turned F_Order_turned (hr.mono (by decide)) tk b_Order_turned (se_var 4) (sab_v se_int sab_nil))) (sa_cons (se_cmp u_eq ub_eq (se_meth (as := [none]) T.cn_Order T.m_Order_turned F_Order_turned (hr.mono (by decide)) tk b_Order_turned (se_var 4) (sab_v (se_neg se_int) sab_nil)) (se_meth (as := [none]) T.cn_Order T.m_Order_turned F_Order_turned (hr.mono (by decide)) tk b_Order_turned (se_var 4) (sab_v se_int sab_nil)) (nomark _)) sa_nil)))))))
      (sss_one (ss_ret (se_cmp u_eq ub_eq (se_var 5) (se_l (sl_lst (sa_cons (se_tup (sa_cons se_int (sa_cons se_int (sa_cons se_int (sa_cons se_int sa_nil))))) (sa_cons (se_tup (sa_cons se_int (sa_cons se_int (sa_cons se_int (sa_cons se_int sa_nil))))) (sa_cons (se_tup (sa_cons se_int (sa_cons se_int (sa_cons se_int (sa_cons se_int sa_nil))))) (sa_cons se_bl sa_nil)))))) (nomark _)))))))
end
end Dl
end
section
set_option maxHeartbeats 4000000
namespace Dl
open PySem PySem.Spec PyProof.Rows L2
@[simp] theorem setOk_ok {ρ : En} {i : Nat} {s : Option Sl} (h : ρ[i]? = some s) (hb : ∀ d, s ≠ some (.bo d)) : setOk ρ i = true := by
  unfold setOk; rw [h]; cases s with
  | none => rfl
  | some x => cases x with
    | bo d => exact absurd rfl (hb d)
    | _ => rfl
def T (xs : List Int) : D := .tup (xs.map .int)
def O (xs : List Int) : D := .ins "Order" ["own_numbers"] [T xs]
theorem c_rest {m x : Int} (h : 0 < m) : F_rest_of [.int m, .int x] = .ok (.int ((x - 1) % m + 1)) [] := by
  simp [F_rest_of, m_rest_of, bodyF, enE, fRet, fBin, fVar, fC, Rs.bind, opSub, opMod, opAdd, h, bosD]
theorem c_is_whole {x : Int} : F_is_whole [.int x] = .ok (.bl true) [] := by
  simp [F_is_whole, m_is_whole, bodyF, enE, fRet, fAnd, fIsi, fUn, fNot, fTr, fVar, Rs.bind, isInt, isBool, bosD]
abbrev Gt : Int := 1000000000000000000000000000000000000000000000000000000000000
theorem c_is_integer {x : Int} (h1 : -Gt < x) (h2 : x < Gt) : F_is_integer [.int x] = .ok (.bl true) [] := by
  simp [F_is_integer, m_is_integer, bodyF, enE, fRet, fAnd, fTr, fFn, fCons, fNil, fVar, Rs.bind, mixD, putB, c_is_whole, fChain, fUn, opNeg, fC, opLt, bosD, h1, h2]
end Dl
end
section
set_option maxHeartbeats 4000000
namespace Dl
open PySem PySem.Spec PyProof.Rows L2
theorem sz {n : Nat} (h : n ≤ 1000) : n < sizeLine := small1000 h
section
variable {α : Type} {vs : List Nat} {g : D → En → Rs Unit} {ft : En → Rs Bool} {fe : En → Rs D} {ρ0 : En} {c h : α → D} {p : α → Bool}
def StepF (vs : List Nat) (g : D → En → Rs Unit) (ft : En → Rs Bool) (fe : En → Rs D) (ρ0 : En) (d : D) (b : Bool) (r : D) : Prop := ∃ ρ1, g d ρ0 = .ok () ρ1 ∧ ∃ ρ2, ft ρ1 = .ok b ρ2 ∧ (b = true → ∃ ρ3, fe ρ2 = .ok r ρ3 ∧ okW ρ3 vs = true ∧ wipeR ρ3 vs = ρ0) ∧ (b = false → okW ρ2 vs = true ∧ wipeR ρ2 vs = ρ0)
theorem lcD_filter : ∀ (l : List α) (acc : List D), acc.length + l.length ≤ 1000 → (∀ x ∈ l, StepF vs g ft fe ρ0 (c x) (p x) (h x)) → lcD vs g ft fe (l.map c) acc ρ0 = .ok (acc ++ (l.filter p).map h) ρ0
  | [], acc, _, _ => by simp [lcD]
  | x :: l, acc, hl, hs => by
    obtain ⟨ρ1, e1, ρ2, e2, e3, e4⟩ := hs x List.mem_cons_self
    have hs' := fun y hy => hs y (List.mem_cons_of_mem _ hy)
    have hl1 : acc.length < sizeLine := sz (by simp at hl; omega)
    cases hp : p x with
    | true =>
      obtain ⟨ρ3, f1, f2, f3⟩ := e3 hp
      have ih := lcD_filter l (acc ++ [h x]) (by simp at hl ⊢; omega) hs'
      simp only [List.map_cons, lcD, e1, e2, hp, f1, hl1, decide_true, f2, Bool.and_self, if_true, f3, ih]
      simp [List.filter_cons, hp]
    | false =>
      obtain ⟨f2, f3⟩ := e4 hp
      have ih := lcD_filter l acc (by simp at hl ⊢; omega) hs'
      simp only [List.map_cons, lcD, e1, e2, hp, f2, if_true, f3, ih]
      simp [List.filter_cons, hp]
theorem fLc_filter {fi : En → Rs (List D)} {ρ ρ1 : En} {l : List α} (hfi : fi ρ = .ok (l.map c) ρ1) (hok : okW ρ1 vs = true) (hw : wipeR ρ1 vs = ρ0) (hl : l.length ≤ 1000) (hs : ∀ x ∈ l, StepF vs g ft fe ρ0 (c x) (p x) (h x)) :
    fLc vs fi g ft fe ρ = .ok (.lst ((l.filter p).map h)) ρ0 := by
  unfold fLc
  rw [hfi]
  simp only [Rs.bind, hok, if_true, hw]
  rw [lcD_filter l [] (by simpa using hl) hs]
  simp [lcEnd]
theorem fLc_map {fi : En → Rs (List D)} {ρ ρ1 : En} {l : List α} (hfi : fi ρ = .ok (l.map c) ρ1) (hok : okW ρ1 vs = true) (hw : wipeR ρ1 vs = ρ0) (hl : l.length ≤ 1000) (hs : ∀ x ∈ l, StepF vs g ft fe ρ0 (c x) true (h x)) :
    fLc vs fi g ft fe ρ = .ok (.lst (l.map h)) ρ0 := by
  have := fLc_filter (p := fun _ => true) hfi hok hw hl hs
  rw [this, List.filter_eq_self.mpr (fun _ _ => rfl)]
end
theorem step_s {vs : List Nat} {g : D → En → Rs Unit} {ft : En → Rs Bool} {fe : En → Rs D} {ρ0 : En} {d r : D} {b : Bool} (ρ1 : En) (h1 : g d ρ0 = .ok () ρ1) (h2 : ft ρ1 = .ok b ρ1) (h3 : b = true → fe ρ1 = .ok r ρ1) (h4 : okW ρ1 vs = true) (h5 : wipeR ρ1 vs = ρ0) : StepF vs g ft fe ρ0 d b r :=
  ⟨ρ1, h1, ρ1, h2, fun h => ⟨ρ1, h3 h, h4, h5⟩, fun _ => ⟨h4, h5⟩⟩
/-- numbers with their indices -/
def enumL : Int → List Int → List (Int × Int)
  | _, [] => []
  | k, x :: xs => (k, x) :: enumL (k + 1) xs
theorem enumD_ints : ∀ (xs : List Int) (k : Int), enumD k (xs.map .int) = (enumL k xs).map pD
  | [], _ => rfl
  | x :: xs, k => by simp [enumD, enumL, pD, enumD_ints xs]
theorem enumL_len : ∀ (xs : List Int) (k : Int), (enumL k xs).length = xs.length
  | [], _ => rfl
  | x :: xs, k => by simp [enumL, enumL_len xs]
theorem enumL_mem : ∀ {xs : List Int} {k : Int} {p : Int × Int}, p ∈ enumL k xs ↔ ∃ i : Nat, xs[i]? = some p.2 ∧ p.1 = k + (i : Nat)
  | [], k, p => by simp [enumL]
  | x :: xs, k, p => by
    simp only [enumL, List.mem_cons, enumL_mem (xs := xs)]
    constructor
    · rintro (rfl | ⟨i, h1, h2⟩)
      · exact ⟨0, by simp, by simp⟩
      · exact ⟨i + 1, by simpa using h1, by rw [h2]; push_cast; omega⟩
    · rintro ⟨i, h1, h2⟩
      cases i with
      | zero => left; simp at h1 h2; exact Prod.ext h2 h1.symm
      | succ i => right; exact ⟨i, by simpa using h1, by rw [h2]; push_cast; omega⟩
theorem asB_map {α : Type} (q : α → Bool) : ∀ l : List α, asB (l.map fun x => .bl (q x)) = some (l.map q)
  | [] => rfl
  | x :: l => by simp [asB, asB_map q l]
theorem asI_map : ∀ l : List Int, asI (l.map .int) = some l
  | [] => rfl
  | x :: l => by simp [asI, asI_map l]
theorem asP_map : ∀ l : List (Int × Int), asP (l.map pD) = some l
  | [] => rfl
  | x :: l => by
    show asP (.tup [.int x.1, .int x.2] :: l.map pD) = _
    simp [asP, asP_map l]
def rest (n x : Int) : Int := (x - 1) % n + 1
structure Valid (xs : List Int) : Prop where
  len : 1 ≤ xs.length ∧ xs.length ≤ 8
  bd : ∀ (i : Nat) (x : Int), xs[i]? = some x → (i : Int) + 1 ≤ x ∧ x ≤ i + 1 + xs.length
  nd : (xs.map (rest xs.length)).Nodup
theorem atI_nat {α : Type} {xs : List α} {i : Nat} {x : α} (h : xs[i]? = some x) : atI xs (i : Int) = some x := by
  have hl := (List.getElem?_eq_some_iff.mp h).1
  simp [atI, ixN, hl]; exact (List.getElem?_eq_some_iff.mp h).2
end Dl
end
section
set_option maxHeartbeats 4000000
namespace Dl
open PySem PySem.Spec PyProof.Rows L2
def level (xs : List Int) : Nat := ((enumL 1 xs).filter fun q => decide ((xs.length : Int) < q.2)).length
theorem c_falling {xs : List Int} (h : xs.length ≤ 8) : F_falling_in [T xs] = .ok (.lst (((enumL 1 xs).filter fun q => decide ((xs.length : Int) < q.2)).map fun q => .int q.1)) [] := by
  have : fLc [1, 2] (iEn 1 (fVar 0)) (gT (gsCons (gN 1) (gsCons (gN 2) gsNil)) 2) (fTr (fBin opGt (fVar 2) (fCall gLen (fCons (fVar 0) fNil)))) (fVar 1) [some (.sh (T xs)), none, none] = .ok (.lst (((enumL 1 xs).filter fun q => decide ((xs.length : Int) < q.2)).map fun q => .int q.1)) [some (.sh (T xs)), none, none] := by
    refine fLc_filter (c := pD) (ρ1 := [some (.sh (T xs)), none, none]) ?_ (by rfl) (by rfl) (by rw [enumL_len]; omega) fun q hq => ?_
    · simp [iEn, fVar, Rs.bind, T, enumD_ints]
    · refine step_s [some (.sh (T xs)), some (.sh (.int q.1)), some (.sh (.int q.2))] (by simp [gT, pD, gsCons, gN, gsNil, Rs.bind, setOk]) (by simp [fTr, fBin, fVar, fCall, fCons, fNil, Rs.bind, gLen, opGt, T]) (fun _ => by simp [fVar]) (by simp [okW, setOk]) (by simp [wipeR])
  simp [F_falling_in, m_falling_in, bodyF, enE, fRet, this, Rs.bind, bosD]
theorem c_level {xs : List Int} (h : xs.length ≤ 8) : F_Order_level [O xs] = .ok (.int (level xs)) [] := by
  simp [F_Order_level, m_Order_level, bodyF, enE, fRet, fCall, fCons, fNil, fFn, fFld, fVar, O, Rs.bind, getX, mixD, putB, c_falling h, gLen, bosD, level]
theorem c_numbers {xs : List Int} : F_Order_numbers [O xs] = .ok (T xs) [] := by
  simp [F_Order_numbers, m_Order_numbers, bodyF, enE, fRet, fFld, fVar, O, Rs.bind, getX, bosD]
end Dl
end
section
set_option maxHeartbeats 4000000
namespace Dl
open PySem PySem.Spec PyProof.Rows L2
theorem sz2 : 2 ≤ sizeLine := by decide
theorem opEq_int {i j : Int} : opEq (.int i) (.int j) = some (.bl (decide (i = j))) := by
  simp [opEq, deq, D.py, PyData.eqv, SeqAt.shaped, PyData.depth, PyData.canLay0, Bool.beq_eq_decide_eq]
def brought (n : Int) (ps : List (Int × Int)) : List Int := (srtP (ps.map fun q => (rest n q.1, q.2 - q.1 + rest n q.1))).map (·.2)
theorem srtP_len (l : List (Int × Int)) : (srtP l).length = l.length := srtP_perm.length_eq
theorem c_brought {n : Int} {ps : List (Int × Int)} (hn : 0 < n) (hl : ps.length ≤ 1000) : F_brought [.int n, .lst (ps.map pD)] = .ok (T (brought n ps)) [] := by
  have e1 : fLc [3, 4] (iSeq (fVar 1)) (gT (gsCons (gN 3) (gsCons (gN 4) gsNil)) 2) fYes (fTup (fCons (fFn [none, none] F_rest_of (fCons (fVar 0) (fCons (fVar 3) fNil))) (fCons (fBin opAdd (fBin opSub (fVar 4) (fVar 3)) (fFn [none, none] F_rest_of (fCons (fVar 0) (fCons (fVar 3) fNil)))) fNil)))
      [some (.sh (.int n)), some (.sh (.lst (ps.map pD))), none, none, none, none] = .ok (.lst (ps.map fun q => pD (rest n q.1, q.2 - q.1 + rest n q.1))) [some (.sh (.int n)), some (.sh (.lst (ps.map pD))), none, none, none, none] := by
    refine fLc_map (c := pD) (ρ1 := [some (.sh (.int n)), some (.sh (.lst (ps.map pD))), none, none, none, none]) (by simp [iSeq, fVar, Rs.bind]) (by rfl) (by rfl) hl fun q _ => ?_
    refine step_s [some (.sh (.int n)), some (.sh (.lst (ps.map pD))), none, some (.sh (.int q.1)), some (.sh (.int q.2)), none] (by simp [gT, pD, gsCons, gN, gsNil, Rs.bind, setOk]) rfl (fun _ => ?_) (by simp [okW, setOk]) (by simp [wipeR])
    simp [fTup, fCons, fNil, fFn, fVar, Rs.bind, mixD, putB, c_rest hn, fBin, opSub, opAdd, sz2, pD, rest]
  have e2 : ∀ l : List (Int × Int), l.length ≤ 1000 → fLc [5, 4] (iSeq (fVar 2)) (gT (gsCons (gN 5) (gsCons (gN 4) gsNil)) 2) fYes (fVar 4)
      [some (.sh (.int n)), some (.sh (.lst (ps.map pD))), some (.sh (.lst (l.map pD))), none, none, none] = .ok (.lst (l.map fun q => .int q.2)) [some (.sh (.int n)), some (.sh (.lst (ps.map pD))), some (.sh (.lst (l.map pD))), none, none, none] := fun l hl => by
    refine fLc_map (c := pD) (ρ1 := [some (.sh (.int n)), some (.sh (.lst (ps.map pD))), some (.sh (.lst (l.map pD))), none, none, none]) (by simp [iSeq, fVar, Rs.bind]) (by rfl) (by rfl) hl fun q _ => ?_
    exact step_s [some (.sh (.int n)), some (.sh (.lst (ps.map pD))), some (.sh (.lst (l.map pD))), none, some (.sh (.int q.2)), some (.sh (.int q.1))] (by simp [gT, pD, gsCons, gN, gsNil, Rs.bind, setOk]) rfl (fun _ => by simp [fVar]) (by simp [okW, setOk]) (by simp [wipeR])
  have e3 := e2 (srtP (ps.map fun q => (rest n q.1, q.2 - q.1 + rest n q.1))) (by rw [srtP_len]; simpa using hl)
  have e4 : gSortP [.lst (ps.map fun q => pD (rest n q.1, q.2 - q.1 + rest n q.1))] = some (.lst ((srtP (ps.map fun q => (rest n q.1, q.2 - q.1 + rest n q.1))).map pD)) := by
    have := asP_map (ps.map fun q => (rest n q.1, q.2 - q.1 + rest n q.1))
    rw [List.map_map] at this
    show (asP _).map _ = _
    rw [show (ps.map fun q => pD (rest n q.1, q.2 - q.1 + rest n q.1)) = ps.map (pD ∘ fun q => (rest n q.1, q.2 - q.1 + rest n q.1)) from rfl, this]
    rfl
  simp [F_brought, m_brought, bodyF, enE, fSeq, fSet, fRet, fCall, fCons, fNil, e1, e4, e3, Rs.bind, bosD, setOk, gTuple, T, brought]
theorem Valid.mem {xs : List Int} (h : Valid xs) {x : Int} (hx : x ∈ xs) : 1 ≤ x ∧ x ≤ 16 := by
  obtain ⟨i, hi⟩ := List.mem_iff_getElem?.mp hx
  have hl := (List.getElem?_eq_some_iff.mp hi).1
  have := h.bd i x hi
  have := h.len
  omega
theorem c_are {xs : List Int} (h : Valid xs) : F_are_numbers [T xs] = .ok (.bl true) [] := by
  obtain ⟨h1, h2⟩ := h.len
  have hn : (0 : Int) < xs.length := by omega
  have a1 : fLc [1] (iSeq (fVar 0)) (gN 1) fYes (fFn [none] F_is_integer (fCons (fVar 1) fNil)) [some (.sh (T xs)), none, none, none] = .ok (.lst (xs.map fun _ => .bl true)) [some (.sh (T xs)), none, none, none] := by
    refine fLc_map (c := D.int) (ρ1 := [some (.sh (T xs)), none, none, none]) (by simp [iSeq, fVar, Rs.bind, T]) (by rfl) (by rfl) (by omega) fun x hx => ?_
    have := h.mem hx
    exact step_s [some (.sh (T xs)), some (.sh (.int x)), none, none] (by simp [gN, setOk]) rfl (fun _ => by simp [fFn, fCons, fNil, fVar, Rs.bind, mixD, putB, c_is_integer (x := x) (by unfold Gt; omega) (by unfold Gt; omega)]) (by simp [okW, setOk]) (by simp [wipeR])
  have a2 : fLc [3, 1] (iEn 1 (fVar 0)) (gT (gsCons (gN 3) (gsCons (gN 1) gsNil)) 2) fYes (fChain opLe opLe (fVar 3) (fVar 1) (fBin opAdd (fVar 3) (fVar 2))) [some (.sh (T xs)), none, some (.sh (.int xs.length)), none] = .ok (.lst ((enumL 1 xs).map fun _ => .bl true)) [some (.sh (T xs)), none, some (.sh (.int xs.length)), none] := by
    refine fLc_map (c := pD) (ρ1 := [some (.sh (T xs)), none, some (.sh (.int xs.length)), none]) (by simp [iEn, fVar, Rs.bind, T, enumD_ints]) (by rfl) (by rfl) (by rw [enumL_len]; omega) fun q hq => ?_
    obtain ⟨i, hi, hq1⟩ := enumL_mem.mp hq
    have hb := h.bd i q.2 hi
    have b1 : q.1 ≤ q.2 := by omega
    have b2 : q.2 ≤ q.1 + xs.length := by omega
    exact step_s [some (.sh (T xs)), some (.sh (.int q.2)), some (.sh (.int xs.length)), some (.sh (.int q.1))] (by simp [gT, pD, gsCons, gN, gsNil, Rs.bind, setOk]) rfl (fun _ => by simp [fChain, fVar, Rs.bind, opLe, fBin, opAdd, b1, b2]) (by simp [okW, setOk]) (by simp [wipeR])
  have a3 : fLc [1] (iSeq (fVar 0)) (gN 1) fYes (fFn [none, none] F_rest_of (fCons (fVar 2) (fCons (fVar 1) fNil))) [some (.sh (T xs)), none, some (.sh (.int xs.length)), none] = .ok (.lst (xs.map fun x => .int (rest xs.length x))) [some (.sh (T xs)), none, some (.sh (.int xs.length)), none] := by
    refine fLc_map (c := D.int) (ρ1 := [some (.sh (T xs)), none, some (.sh (.int xs.length)), none]) (by simp [iSeq, fVar, Rs.bind, T]) (by rfl) (by rfl) (by omega) fun x hx => ?_
    exact step_s [some (.sh (T xs)), some (.sh (.int x)), some (.sh (.int xs.length)), none] (by simp [gN, setOk]) rfl (fun _ => by simp [fFn, fCons, fNil, fVar, Rs.bind, mixD, putB, c_rest hn, rest]) (by simp [okW, setOk]) (by simp [wipeR])
  have g1 : gAll [.lst (xs.map fun _ => .bl true)] = some (.bl true) := by simp [gAll, asB_map (fun _ : Int => true)]
  have g2 : gAll [.lst ((enumL 1 xs).map fun _ => .bl true)] = some (.bl true) := by simp [gAll, asB_map (fun _ : Int × Int => true)]
  have g3 : gLenSet (.lst (xs.map fun x => .int (rest xs.length x))) = some (.int xs.length) := by
    have := asI_map (xs.map (rest xs.length))
    rw [List.map_map] at this
    show (asI _).bind _ = _
    rw [show (xs.map fun x => D.int (rest xs.length x)) = xs.map (D.int ∘ rest xs.length) from rfl, this]
    simp [h.nd]; omega
  have c1 : (1 : Int) ≤ xs.length := by omega
  have c2 : (xs.length : Int) ≤ 8 := by omega
  have i1 : isTup (T xs) = some true := rfl
  have l1 : gLen [T xs] = some (.int xs.length) := by simp [gLen, T]
  simp [F_are_numbers, m_are_numbers, bodyF, enE, fSeq, fIfS, fOrB, fNotB, fTr, fIsi, fUn, fVar, fChain, fC, fCall, fCons, fNil, Rs.bind, i1, l1, opLe, c1, c2, fSkip, a1, g1, fSet, setOk, a2, g2, fRet, fBin, a3, g3, opEq_int, bosD]
theorem c_init {xs : List Int} (h : Valid xs) : F_Order___init__ [.ins "Order" [] [], T xs] = .ok .non [O xs] := by
  simp [F_Order___init__, m_Order___init__, bodyF, enE, fSeq, fIfS, fNotB, fTr, fFn, fCons, fNil, fVar, Rs.bind, mixD, putB, c_are h, fSkip, fFldS, owned, putSl, putK, putX, bosD, O]
end Dl
end
section
set_option maxHeartbeats 4000000
namespace Dl
open PySem PySem.Spec PyProof.Rows L2
def dual (xs : List Int) : List Int := brought xs.length ((enumL 1 xs).map fun q => (q.2, q.1 + xs.length))
def mirr (xs : List Int) : List Int := brought xs.length ((enumL 1 xs).map fun q => (xs.length + 1 - q.2, xs.length + 1 - q.1))
def turn (xs : List Int) (b : Int) : List Int := brought xs.length ((enumL 1 xs).map fun q => (q.1 + b, q.2 + b))
theorem fld_O {xs : List Int} {ρ : En} (h : ρ[0]? = some (some (.sh (O xs)))) : fFld "Order" "own_numbers" (fVar 0) ρ = .ok (T xs) ρ := by
  simp [fFld, fVar, h, O, Rs.bind, getX]
theorem fld_O1 {xs : List Int} {r : En} : fFld "Order" "own_numbers" (fVar 0) (some (.sh (O xs)) :: r) = .ok (T xs) (some (.sh (O xs)) :: r) := fld_O rfl
theorem len_T {xs : List Int} : gLen [T xs] = some (.int xs.length) := by simp [gLen, T]
theorem iEn_T {xs : List Int} {f : En → Rs D} {ρ : En} (h : f ρ = .ok (T xs) ρ) : iEn 1 f ρ = .ok ((enumL 1 xs).map pD) ρ := by
  simp [iEn, h, Rs.bind, T, enumD_ints]
theorem mk_O {ρ : En} {f : En → Rs D} {ρ1 : En} {ys : List Int} (h : f ρ = .ok (T ys) ρ1) (hv : Valid ys) : fMk "Order" [none] F_Order___init__ (fCons f fNil) ρ = .ok (O ys) ρ1 := by
  simp [fMk, fCons, fNil, h, Rs.bind, mixD, putB, c_init hv]
theorem c_dual {xs : List Int} (h1 : 1 ≤ xs.length) (h2 : xs.length ≤ 8) (hv : Valid (dual xs)) : F_Order_dual [O xs] = .ok (O (dual xs)) [] := by
  have hn : (0 : Int) < xs.length := by omega
  have e1 : fLc [3, 4] (iEn 1 (fFld "Order" "own_numbers" (fVar 0))) (gT (gsCons (gN 3) (gsCons (gN 4) gsNil)) 2) fYes (fTup (fCons (fVar 4) (fCons (fBin opAdd (fVar 3) (fVar 1)) fNil)))
      [some (.sh (O xs)), some (.sh (.int xs.length)), none, none, none] = .ok (.lst ((enumL 1 xs).map fun q => pD (q.2, q.1 + xs.length))) [some (.sh (O xs)), some (.sh (.int xs.length)), none, none, none] := by
    refine fLc_map (c := pD) (ρ1 := [some (.sh (O xs)), some (.sh (.int xs.length)), none, none, none]) (iEn_T (fld_O rfl)) (by rfl) (by rfl) (by rw [enumL_len]; omega) fun q hq => ?_
    exact step_s [some (.sh (O xs)), some (.sh (.int xs.length)), none, some (.sh (.int q.1)), some (.sh (.int q.2))] (by simp [gT, pD, gsCons, gN, gsNil, Rs.bind, setOk]) rfl (fun _ => by simp [fTup, fCons, fNil, fVar, fBin, opAdd, Rs.bind, sz2, pD]) (by simp [okW, setOk]) (by simp [wipeR])
  have e2 := c_brought (n := xs.length) (ps := (enumL 1 xs).map fun q => (q.2, q.1 + xs.length)) hn (by simp [enumL_len]; omega)
  rw [List.map_map] at e2
  have e4 : fFn [none, none] F_brought (fCons (fVar 1) (fCons (fVar 2) fNil)) [some (.sh (O xs)), some (.sh (.int xs.length)), some (.ow (.lst ((enumL 1 xs).map fun q => pD (q.2, q.1 + xs.length)))), none, none] = .ok (T (dual xs)) [some (.sh (O xs)), some (.sh (.int xs.length)), some (.sh (.lst ((enumL 1 xs).map fun q => pD (q.2, q.1 + xs.length)))), none, none] := by
    have e2' : F_brought [.int xs.length, .lst ((enumL 1 xs).map fun q => pD (q.2, q.1 + xs.length))] = .ok (T (dual xs)) [] := e2
    simp [fFn, fCons, fNil, fVar, Rs.bind, mixD, putB, e2']
  have e5 := mk_O e4 hv
  simp [F_Order_dual, m_Order_dual, bodyF, enE, fSeq, fSet, fSetL, fRet, fCall, fCons, fNil, Rs.bind, fld_O1, len_T, e1, setOk, bosD] at e5 ⊢
  rw [e5]; rfl
theorem c_mirr {xs : List Int} (h1 : 1 ≤ xs.length) (h2 : xs.length ≤ 8) (hv : Valid (mirr xs)) : F_Order_mirrored [O xs] = .ok (O (mirr xs)) [] := by
  have hn : (0 : Int) < xs.length := by omega
  have e1 : fLc [3, 4] (iEn 1 (fFld "Order" "own_numbers" (fVar 0))) (gT (gsCons (gN 3) (gsCons (gN 4) gsNil)) 2) fYes (fTup (fCons (fBin opSub (fBin opAdd (fVar 1) (fC (.int 1))) (fVar 4)) (fCons (fBin opSub (fBin opAdd (fVar 1) (fC (.int 1))) (fVar 3)) fNil)))
      [some (.sh (O xs)), some (.sh (.int xs.length)), none, none, none] = .ok (.lst ((enumL 1 xs).map fun q => pD (xs.length + 1 - q.2, xs.length + 1 - q.1))) [some (.sh (O xs)), some (.sh (.int xs.length)), none, none, none] := by
    refine fLc_map (c := pD) (ρ1 := [some (.sh (O xs)), some (.sh (.int xs.length)), none, none, none]) (iEn_T (fld_O rfl)) (by rfl) (by rfl) (by rw [enumL_len]; omega) fun q hq => ?_
    exact step_s [some (.sh (O xs)), some (.sh (.int xs.length)), none, some (.sh (.int q.1)), some (.sh (.int q.2))] (by simp [gT, pD, gsCons, gN, gsNil, Rs.bind, setOk]) rfl (fun _ => by simp [fTup, fCons, fNil, fVar, fC, fBin, opAdd, opSub, Rs.bind, sz2, pD]) (by simp [okW, setOk]) (by simp [wipeR])
  have e2 := c_brought (n := xs.length) (ps := (enumL 1 xs).map fun q => (xs.length + 1 - q.2, xs.length + 1 - q.1)) hn (by simp [enumL_len]; omega)
  rw [List.map_map] at e2
  have e4 : fFn [none, none] F_brought (fCons (fVar 1) (fCons (fVar 2) fNil)) [some (.sh (O xs)), some (.sh (.int xs.length)), some (.ow (.lst ((enumL 1 xs).map fun q => pD (xs.length + 1 - q.2, xs.length + 1 - q.1)))), none, none] = .ok (T (mirr xs)) [some (.sh (O xs)), some (.sh (.int xs.length)), some (.sh (.lst ((enumL 1 xs).map fun q => pD (xs.length + 1 - q.2, xs.length + 1 - q.1)))), none, none] := by
    have e2' : F_brought [.int xs.length, .lst ((enumL 1 xs).map fun q => pD (xs.length + 1 - q.2, xs.length + 1 - q.1))] = .ok (T (mirr xs)) [] := e2
    simp [fFn, fCons, fNil, fVar, Rs.bind, mixD, putB, e2']
  have e5 := mk_O e4 hv
  simp [F_Order_mirrored, m_Order_mirrored, bodyF, enE, fSeq, fSet, fSetL, fRet, fCall, fCons, fNil, Rs.bind, fld_O1, len_T, e1, setOk, bosD] at e5 ⊢
  rw [e5]; rfl
theorem c_turn {xs : List Int} {b : Int} (h1 : 1 ≤ xs.length) (h2 : xs.length ≤ 8) (b1 : -Gt < b) (b2 : b < Gt) (hv : Valid (turn xs b)) : F_Order_turned [O xs, .int b] = .ok (O (turn xs b)) [] := by
  have hn : (0 : Int) < xs.length := by omega
  have e1 : fLc [3, 4] (iEn 1 (fFld "Order" "own_numbers" (fVar 0))) (gT (gsCons (gN 3) (gsCons (gN 4) gsNil)) 2) fYes (fTup (fCons (fBin opAdd (fVar 3) (fVar 1)) (fCons (fBin opAdd (fVar 4) (fVar 1)) fNil)))
      [some (.sh (O xs)), some (.sh (.int b)), none, none, none] = .ok (.lst ((enumL 1 xs).map fun q => pD (q.1 + b, q.2 + b))) [some (.sh (O xs)), some (.sh (.int b)), none, none, none] := by
    refine fLc_map (c := pD) (ρ1 := [some (.sh (O xs)), some (.sh (.int b)), none, none, none]) (iEn_T (fld_O rfl)) (by rfl) (by rfl) (by rw [enumL_len]; omega) fun q hq => ?_
    exact step_s [some (.sh (O xs)), some (.sh (.int b)), none, some (.sh (.int q.1)), some (.sh (.int q.2))] (by simp [gT, pD, gsCons, gN, gsNil, Rs.bind, setOk]) rfl (fun _ => by simp [fTup, fCons, fNil, fVar, fC, fBin, opAdd, opSub, Rs.bind, sz2, pD]) (by simp [okW, setOk]) (by simp [wipeR])
  have e2 := c_brought (n := xs.length) (ps := (enumL 1 xs).map fun q => (q.1 + b, q.2 + b)) hn (by simp [enumL_len]; omega)
  rw [List.map_map] at e2
  have e4 : fFn [none, none] F_brought (fCons (fCall gLen (fCons (fFld "Order" "own_numbers" (fVar 0)) fNil)) (fCons (fVar 2) fNil)) [some (.sh (O xs)), some (.sh (.int b)), some (.ow (.lst ((enumL 1 xs).map fun q => pD (q.1 + b, q.2 + b)))), none, none] = .ok (T (turn xs b)) [some (.sh (O xs)), some (.sh (.int b)), some (.sh (.lst ((enumL 1 xs).map fun q => pD (q.1 + b, q.2 + b)))), none, none] := by
    have e2' : F_brought [.int xs.length, .lst ((enumL 1 xs).map fun q => pD (q.1 + b, q.2 + b))] = .ok (T (turn xs b)) [] := e2
    simp [fFn, fCall, fCons, fNil, fld_O1, len_T, fVar, Rs.bind, mixD, putB, e2']
  have e5 := mk_O e4 hv
  simp [F_Order_turned, m_Order_turned, bodyF, enE, fSeq, fIfS, fNotB, fTr, fFn, mixD, putB, c_is_integer b1 b2, fVar, fSkip, fSet, fSetL, fRet, fCall, fCons, fNil, Rs.bind, fld_O1, len_T, e1, setOk, bosD] at e5 ⊢
  rw [e5]; rfl
end Dl
end
section
set_option maxHeartbeats 4000000
namespace Dl
open PySem PySem.Spec PyProof.Rows L2
/-- the order at any integer -/
def Vx (xs : List Int) (v : Int) : Int := xs.getD ((v - 1) % xs.length).toNat 0 + v - rest xs.length v
theorem ix_T {xs : List Int} {i : Int} {j : Nat} (h : i = j) (hj : j < xs.length) : opIx (T xs) (.int i) = some (.int (xs.getD j 0)) := by
  subst h
  have e : (xs.map D.int)[j]? = some (.int (xs.getD j 0)) := by simp [List.getElem?_map, hj]
  exact atI_nat e
theorem mod_nat {v n : Int} (hn : 0 < n) : ∃ j : Nat, v % n = j ∧ (j : Int) < n ∧ (v % n).toNat = j := by
  have a := Int.emod_nonneg v (Int.ne_of_gt hn)
  have b := Int.emod_lt_of_pos v hn
  exact ⟨(v % n).toNat, by omega, by omega, rfl⟩
theorem c_value_at {xs : List Int} {v : Int} (h1 : 1 ≤ xs.length) : F_value_at [T xs, .int v] = .ok (.int (Vx xs v)) [] := by
  have hn : (0 : Int) < xs.length := by omega
  obtain ⟨j, e1, e2, e3⟩ := mod_nat (v := v - 1) hn
  have e4 : opIx (T xs) (.int ((v - 1) % xs.length)) = some (.int (xs.getD j 0)) := ix_T e1 (by omega)
  simp [F_value_at, m_value_at, bodyF, enE, fSeq, fSet, fFn, fCons, fNil, fCall, fVar, Rs.bind, len_T, mixD, putB, c_rest hn, setOk, fRet, fBin, fC, opSub, e4, opAdd, bosD, Vx, e3, rest]
theorem c_law_value {xs : List Int} {v : Int} (h1 : 1 ≤ xs.length) (h2 : xs.length ≤ 8) (hv : ((v - 1) / xs.length).natAbs < 2 ^ 4000) : F__law_value [T xs, .int v] = .ok (.int (Vx xs v)) [] := by
  have hn : (0 : Int) < xs.length := by omega
  obtain ⟨j, e1, e2, e3⟩ := mod_nat (v := v - 1) hn
  have w2 : wid ((v - 1) / xs.length) = true := decide_eq_true hv
  have hd0 := Int.emod_def (v - 1) xs.length
  have hc : (xs.length : Int) * ((v - 1) / xs.length) = (v - 1) / xs.length * xs.length := Int.mul_comm _ _
  generalize hz : (v - 1) / (xs.length : Int) = z at *
  have hd : v - 1 - z * xs.length = j := by omega
  have e4 : opIx (T xs) (.int (v - 1 - z * xs.length)) = some (.int (xs.getD j 0)) := ix_T hd (by omega)
  have w1 : wid (xs.length : Int) = true := by
    unfold wid
    have : ((xs.length : Int)).natAbs < 2 ^ 4000 := Nat.lt_of_le_of_lt (by omega : ((xs.length : Int)).natAbs ≤ 2 ^ 4) (Nat.pow_lt_pow_right (by decide) (by decide))
    exact decide_eq_true this
  have e5 : xs.getD j 0 + z * xs.length = Vx xs v := by
    unfold Vx rest
    rw [e3]; omega
  simp [F__law_value, m__law_value, bodyF, enE, fSeq, fSet, fCons, fNil, fCall, fVar, Rs.bind, len_T, setOk, fRet, fBin, fC, opSub, opDiv, opMul, (show 0 < xs.length from h1), hz, w1, w2, e4, opAdd, bosD]
  rw [← e5, List.getD_eq_getElem?_getD]
end Dl
end
section
set_option maxHeartbeats 4000000
namespace Dl
open PySem PySem.Spec PyProof.Rows L2
/-! ### two clauses -/
theorem lc2D_map {α : Type} {β : Type} {vs vs1 : List Nat} {g g1 : D → En → Rs Unit} {ft ft1 : En → Rs Bool} {fi1 : En → Rs (List D)} {fe : En → Rs D} {ρ0 : En} {c : α → D} {c1 : α → β → D} {inner : α → List β} {h : α → β → D} :
    ∀ (l : List α) (acc : List D), acc.length + (l.flatMap inner).length ≤ 1000 → (∀ x ∈ l, ∃ ρ1 ρ2, g (c x) ρ0 = .ok () ρ1 ∧ ft ρ1 = .ok true ρ1 ∧ fi1 ρ1 = .ok ((inner x).map (c1 x)) ρ1 ∧ okW ρ1 vs1 = true ∧ wipeR ρ1 vs1 = ρ2 ∧ (∀ y ∈ inner x, StepF vs1 g1 ft1 fe ρ2 (c1 x y) true (h x y)) ∧ okW ρ2 vs = true ∧ wipeR ρ2 vs = ρ0) →
      lc2D vs vs1 g ft fi1 g1 ft1 fe (l.map c) acc ρ0 = .ok (acc ++ l.flatMap fun x => (inner x).map (h x)) ρ0
  | [], acc, _, _ => by simp [lc2D]
  | x :: l, acc, hl, hs => by
    obtain ⟨ρ1, ρ2, e1, e2, e3, e4, e5, e6, e7, e8⟩ := hs x List.mem_cons_self
    simp only [List.flatMap_cons, List.length_append] at hl
    have q := lcD_filter (p := fun _ => true) (inner x) acc (by omega) e6
    rw [List.filter_eq_self.mpr (fun _ _ => rfl)] at q
    have ih := lc2D_map l (acc ++ (inner x).map (h x)) (by rw [List.length_append, List.length_map]; omega) (fun y hy => hs y (List.mem_cons_of_mem _ hy))
    simp only [List.map_cons, lc2D, e1, e2, e3, e4, if_true, e5, q, e7, e8, ih]
    simp [List.append_assoc]
theorem p62 : (2 : Int) ^ 62 = 4611686018427387904 := by decide
theorem iRg2_ok {fa fb : En → Rs D} {ρ ρ1 ρ2 : En} {i j : Int} (ha : fa ρ = .ok (.int i) ρ1) (hb : fb ρ1 = .ok (.int j) ρ2) (h : -1000 ≤ i ∧ i ≤ 1000 ∧ -1000 ≤ j ∧ j ≤ 1000) : iRg2 fa fb ρ = .ok ((List.range (j - i).toNat).map fun (k : Nat) => D.int (i + (k : Nat))) ρ2 := by
  unfold iRg2
  rw [ha]
  dsimp only [Rs.bind]
  rw [hb]
  dsimp only
  rw [p62, if_pos (by omega)]
theorem iRg1_ok {fa : En → Rs D} {ρ ρ1 : En} {j : Int} (ha : fa ρ = .ok (.int j) ρ1) (h : -1000 ≤ j ∧ j ≤ 1000) : iRg1 fa ρ = .ok ((List.range j.toNat).map fun (k : Nat) => D.int (k : Nat)) ρ1 := by
  unfold iRg1
  rw [ha]
  dsimp only [Rs.bind]
  rw [p62, if_pos (by omega)]
def places (n : Nat) : List (Int × Int) := (List.range n).flatMap fun i => (List.range (n - 1)).map fun k => ((1 : Int) + (i : Nat), (1 : Int) + (i : Nat) + 1 + (k : Nat))
def knotsL (xs : List Int) : List (Int × Int) := (places xs.length).filter fun q => decide (Vx xs q.2 < Vx xs q.1)
theorem fm_len (n m : Nat) : ((List.range n).flatMap fun _ => List.range m).length = n * m := by
  rw [List.length_flatMap]; simp [List.map_const', List.sum_replicate_nat]
theorem places_mem {n : Nat} {q : Int × Int} (h : q ∈ places n) : 1 ≤ q.1 ∧ q.1 ≤ n ∧ q.1 < q.2 ∧ q.2 < q.1 + n := by
  unfold places at h
  obtain ⟨i, hi, h⟩ := List.mem_flatMap.mp h
  obtain ⟨k, hk, rfl⟩ := List.mem_map.mp h
  have := List.mem_range.mp hi
  have := List.mem_range.mp hk
  simp only
  omega
theorem places_len (n : Nat) : (places n).length = n * (n - 1) := by
  unfold places
  rw [List.length_flatMap]; simp [List.map_const', List.sum_replicate_nat]
end Dl
end
section
set_option maxHeartbeats 4000000
namespace Dl
open PySem PySem.Spec PyProof.Rows L2
theorem kn_places {xs : List Int} (h1 : 1 ≤ xs.length) (h2 : xs.length ≤ 8) : fLc2 [3, 4] [4] (iRg2 (fC (.int 1)) (fBin opAdd (fVar 1) (fC (.int 1)))) (gN 3) fYes (iRg2 (fBin opAdd (fVar 3) (fC (.int 1))) (fBin opAdd (fVar 3) (fVar 1))) (gN 4) fYes (fTup (fCons (fVar 3) (fCons (fVar 4) fNil)))
      [some (.sh (T xs)), some (.sh (.int xs.length)), none, none, none] = .ok (.lst ((places xs.length).map pD)) [some (.sh (T xs)), some (.sh (.int xs.length)), none, none, none] := by
  have hm : xs.length * (xs.length - 1) ≤ 56 := Nat.le_trans (Nat.mul_le_mul h2 (Nat.sub_le_sub_right h2 1)) (by decide)
  have e0 : iRg2 (fC (.int 1)) (fBin opAdd (fVar 1) (fC (.int 1))) [some (.sh (T xs)), some (.sh (.int xs.length)), none, none, none] = .ok ((List.range xs.length).map fun (k : Nat) => D.int (1 + (k : Nat))) [some (.sh (T xs)), some (.sh (.int xs.length)), none, none, none] := by
    have := iRg2_ok (ρ := [some (.sh (T xs)), some (.sh (.int xs.length)), none, none, none]) (fa := fC (.int 1)) (fb := fBin opAdd (fVar 1) (fC (.int 1))) (i := 1) (j := xs.length + 1) rfl rfl (by omega)
    rw [show ((xs.length : Int) + 1 - 1).toNat = xs.length by omega] at this
    exact this
  have e1 := lc2D_map (vs := [3, 4]) (vs1 := [4]) (g := gN 3) (g1 := gN 4) (ft := fYes) (ft1 := fYes) (fi1 := iRg2 (fBin opAdd (fVar 3) (fC (.int 1))) (fBin opAdd (fVar 3) (fVar 1))) (fe := fTup (fCons (fVar 3) (fCons (fVar 4) fNil))) (ρ0 := [some (.sh (T xs)), some (.sh (.int xs.length)), none, none, none])
    (c := fun (k : Nat) => D.int (1 + (k : Nat))) (c1 := fun (i k : Nat) => D.int (1 + (i : Nat) + 1 + (k : Nat))) (inner := fun _ => List.range (xs.length - 1)) (h := fun (i k : Nat) => pD (1 + (i : Nat), 1 + (i : Nat) + 1 + (k : Nat))) (List.range xs.length) []
    (by rw [fm_len, List.length_nil, Nat.zero_add]; exact Nat.le_trans hm (by decide)) (fun i hi => by
      have hi' := List.mem_range.mp hi
      refine ⟨[some (.sh (T xs)), some (.sh (.int xs.length)), none, some (.sh (.int (1 + (i : Nat)))), none], [some (.sh (T xs)), some (.sh (.int xs.length)), none, some (.sh (.int (1 + (i : Nat)))), none], rfl, rfl, ?_, rfl, rfl, fun k hk => ?_, rfl, rfl⟩
      · have := iRg2_ok (ρ := [some (.sh (T xs)), some (.sh (.int xs.length)), none, some (.sh (.int (1 + (i : Nat)))), none]) (fa := fBin opAdd (fVar 3) (fC (.int 1))) (fb := fBin opAdd (fVar 3) (fVar 1)) (i := 1 + i + 1) (j := 1 + i + xs.length) rfl rfl (by omega)
        rw [show ((1 : Int) + i + xs.length - (1 + i + 1)).toNat = xs.length - 1 by omega] at this
        exact this
      · exact step_s [some (.sh (T xs)), some (.sh (.int xs.length)), none, some (.sh (.int (1 + (i : Nat)))), some (.sh (.int (1 + (i : Nat) + 1 + (k : Nat))))] rfl rfl (fun _ => by simp [fTup, fCons, fNil, fVar, Rs.bind, sz2, pD]) rfl rfl)
  unfold fLc2
  rw [e0]
  simp only [Rs.bind]
  rw [if_pos (show okW [some (.sh (T xs)), some (.sh (.int xs.length)), none, none, none] [3, 4] = true from rfl)]
  rw [show wipeR [some (.sh (T xs)), some (.sh (.int xs.length)), none, none, none] [3, 4] = [some (.sh (T xs)), some (.sh (.int xs.length)), none, none, none] from rfl, e1]
  simp only [lcEnd, List.nil_append, places, List.map_flatMap, List.map_map, Function.comp_def]
end Dl
end
section
set_option maxHeartbeats 4000000
namespace Dl
open PySem PySem.Spec PyProof.Rows L2
theorem kn_filter {xs : List Int} (h1 : 1 ≤ xs.length) (h2 : xs.length ≤ 8) : fLc [3, 4] (iSeq (fVar 2)) (gT (gsCons (gN 3) (gsCons (gN 4) gsNil)) 2) (fTr (fBin opGt (fBin opIx (fVar 0) (fBin opSub (fVar 3) (fC (.int 1)))) (fFn [none, none] F_value_at (fCons (fVar 0) (fCons (fVar 4) fNil))))) (fTup (fCons (fVar 3) (fCons (fVar 4) fNil)))
      [some (.sh (T xs)), some (.sh (.int xs.length)), some (.ow (.lst ((places xs.length).map pD))), none, none] = .ok (.lst ((knotsL xs).map pD)) [some (.sh (T xs)), some (.sh (.int xs.length)), some (.sh (.lst ((places xs.length).map pD))), none, none] := by
  have hm : (places xs.length).length ≤ 1000 := by rw [places_len]; exact Nat.le_trans (Nat.mul_le_mul h2 (Nat.sub_le_sub_right h2 1)) (by decide)
  refine fLc_filter (c := pD) (ρ1 := [some (.sh (T xs)), some (.sh (.int xs.length)), some (.sh (.lst ((places xs.length).map pD))), none, none]) (by simp [iSeq, fVar, Rs.bind]) rfl rfl hm fun q hq => ?_
  obtain ⟨p1, p2, p3, p4⟩ := places_mem hq
  have m1 : (q.1 - 1) % (xs.length : Int) = q.1 - 1 := Int.emod_eq_of_lt (by omega) (by omega)
  have e4 : opIx (T xs) (.int (q.1 - 1)) = some (.int (xs.getD (q.1 - 1).toNat 0)) := ix_T (by omega) (by omega)
  have e5 : xs.getD (q.1 - 1).toNat 0 = Vx xs q.1 := by unfold Vx rest; rw [m1]; omega
  rw [e5] at e4
  exact step_s [some (.sh (T xs)), some (.sh (.int xs.length)), some (.sh (.lst ((places xs.length).map pD))), some (.sh (.int q.1)), some (.sh (.int q.2))] rfl (by simp [fTr, fBin, fVar, fC, opSub, Rs.bind, e4, fFn, fCons, fNil, mixD, putB, c_value_at h1, opGt]) (fun _ => by simp [fTup, fCons, fNil, fVar, Rs.bind, sz2, pD]) rfl rfl
theorem fin3 {c : En → Rs D} {A B : En → Rs D} {x y z w : D} {ρ2 : En} (h0 : c [some (.sh x), none, none, none, none] = .ok y [some (.sh x), none, none, none, none]) (h1 : A [some (.sh x), some (.sh y), none, none, none] = .ok z [some (.sh x), some (.sh y), none, none, none])
    (h2 : B [some (.sh x), some (.sh y), some (.ow z), none, none] = .ok w ρ2) (h3 : ∃ a ρ3, ρ2 = a :: ρ3) : bodyF [false] 5 (fSeq (fSet 1 c) (fSeq (fSetL 2 A) (fRet B))) [x] = .ok w [] := by
  obtain ⟨a, ρ3, rfl⟩ := h3
  simp [bodyF, enE, fSeq, fSet, fSetL, fRet, Rs.bind, h0, setOk, h1, h2, bosD]
theorem c_knots {xs : List Int} (h1 : 1 ≤ xs.length) (h2 : xs.length ≤ 8) : F_knots_in [T xs] = .ok (.lst ((knotsL xs).map pD)) [] := by
  have e0 : fCall gLen (fCons (fVar 0) fNil) [some (.sh (T xs)), none, none, none, none] = .ok (.int xs.length) [some (.sh (T xs)), none, none, none, none] := by
    simp only [fCall, fCons, fNil, fVar, Rs.bind, len_T, List.getElem?_cons_zero]
  exact fin3 e0 (kn_places h1 h2) (kn_filter h1 h2) ⟨_, _, rfl⟩
end Dl
end
section
set_option maxHeartbeats 4000000
namespace Dl
open PySem PySem.Spec PyProof.Rows L2
def size (xs : List Int) : Int := (level xs : Int) * ((xs.length : Int) - level xs) - (knotsL xs).length
theorem level_le (xs : List Int) : level xs ≤ xs.length := by
  unfold level
  exact Nat.le_trans (List.length_filter_le _ _) (by rw [enumL_len]; exact Nat.le_refl _)
theorem wid_s {i : Int} (h : i.natAbs ≤ 1000) : wid i = true := by
  unfold wid
  refine decide_eq_true (Nat.lt_of_lt_of_le (Nat.lt_of_le_of_lt h (by decide : 1000 < 2 ^ 10)) (Nat.pow_le_pow_right (by decide) (by decide)))
theorem fn1 {F : List D → Fr} {f : En → Rs D} {ρ ρ1 : En} {d r : D} (h : f ρ = .ok d ρ1) (hF : F [d] = .ok r []) : fFn [none] F (fCons f fNil) ρ = .ok r ρ1 := by
  simp [fFn, fCons, fNil, h, Rs.bind, mixD, putB, hF]
theorem fn2 {F : List D → Fr} {f g : En → Rs D} {ρ ρ1 ρ2 : En} {d e r : D} (h : f ρ = .ok d ρ1) (h2 : g ρ1 = .ok e ρ2) (hF : F [d, e] = .ok r []) : fFn [none, none] F (fCons f (fCons g fNil)) ρ = .ok r ρ2 := by
  simp [fFn, fCons, fNil, h, h2, Rs.bind, mixD, putB, hF]
theorem cl1 {g : List D → Option D} {f : En → Rs D} {ρ ρ1 : En} {d r : D} (h : f ρ = .ok d ρ1) (hg : g [d] = some r) : fCall g (fCons f fNil) ρ = .ok r ρ1 := by
  simp [fCall, fCons, fNil, h, Rs.bind, hg]
theorem bin1 {g : D → D → Option D} {f h : En → Rs D} {ρ ρ1 ρ2 : En} {a b r : D} (h1 : f ρ = .ok a ρ1) (h2 : h ρ1 = .ok b ρ2) (hg : g a b = some r) : fBin g f h ρ = .ok r ρ2 := by
  simp [fBin, h1, h2, Rs.bind, hg]
theorem ret1 {bor : List Bool} {n : Nat} {f : En → Rs D} {ds : List D} {r : D} {ρ : En} {bs : List D} (hl : ds.length = bor.length) (h : f (enE bor ds n) = .ok r ρ) (hb : bosD bor ρ = some bs) : bodyF bor n (fRet f) ds = .ok r bs := by
  simp [bodyF, hl, fRet, h, Rs.bind, hb]
theorem shape_size {A B C : En → Rs D} {x : D} {l n m : Int} (hA : A [some (.sh x), none] = .ok (.int l) [some (.sh x), none]) (hB : B [some (.sh x), some (.sh (.int l))] = .ok (.int n) [some (.sh x), some (.sh (.int l))])
    (hC : C [some (.sh x), some (.sh (.int l))] = .ok (.int m) [some (.sh x), some (.sh (.int l))]) (w1 : wid l = true) (w2 : wid (n - l) = true) : bodyF [false] 2 (fSeq (fSet 1 A) (fRet (fBin opSub (fBin opMul (fVar 1) (fBin opSub B (fVar 1))) C))) [x] = .ok (.int (l * (n - l) - m)) [] := by
  simp [bodyF, enE, fSeq, fSet, fRet, fBin, fVar, Rs.bind, hA, hB, hC, setOk, opSub, opMul, w1, w2, bosD]
theorem c_size {xs : List Int} (h1 : 1 ≤ xs.length) (h2 : xs.length ≤ 8) : F_Order_size [O xs] = .ok (.int (size xs)) [] := by
  have l := level_le xs
  have w1 : wid (level xs : Int) = true := wid_s (by omega)
  have w2 : wid ((xs.length : Int) - level xs) = true := wid_s (by omega)
  have g1 : gLen [.lst (((enumL 1 xs).filter fun q => decide ((xs.length : Int) < q.2)).map fun q => .int q.1)] = some (.int (level xs)) := by simp [gLen, level]
  have g2 : gLen [.lst ((knotsL xs).map pD)] = some (.int (knotsL xs).length) := by simp [gLen]
  have e1 := cl1 (fn1 (fld_O1 (xs := xs) (r := [none])) (c_falling h2)) g1
  have e2 := cl1 (fn1 (fld_O1 (xs := xs) (r := [some (.sh (.int (level xs)))])) (c_knots h1 h2)) g2
  have e3 := cl1 (fld_O1 (xs := xs) (r := [some (.sh (.int (level xs)))])) (len_T (xs := xs))
  have z := shape_size e1 e3 e2 w1 w2
  unfold size
  exact z
end Dl
end
section
set_option maxHeartbeats 4000000
namespace Dl
open PySem PySem.Spec PyProof.Rows L2
/-! ### equal data -/
theorem eq_refl {d : D} {x : PyData} (h : d.py = some x) (hs : SeqAt.shaped x = true) : opEq d d = some (.bl true) ∧ opNe d d = some (.bl false) := by
  have e : PyData.eqv x x = true := SeqAt.eqv_refl x (by unfold SeqAt.shaped at hs; exact (Bool.and_eq_true_iff.mp hs).1)
  constructor
  · simp [opEq, deq, h, hs, e]
  · simp [opNe, deq, h, hs, e]
theorem pyAll_ints : ∀ xs : List Int, pyAll (xs.map .int) = some (xs.map PyData.int)
  | [] => rfl
  | x :: xs => by simp [pyAll, D.py, pyAll_ints xs]
theorem T_py (xs : List Int) : (T xs).py = some (.tuple (xs.map .int)) := by
  show (pyAll (xs.map .int)).map _ = _
  rw [pyAll_ints]; rfl
/-! ### the first match in a loop -/
theorem forD_ret {g : D → En → Rs Unit} {fb : En → Rs Fl} {ρf : Option Sl → En} {d r : D} {post : List D} {ρ' : En} (hg : ∀ e s, (s = none ∨ ∃ d, s = some (Sl.sh d)) → g e (ρf s) = .ok () (ρf (some (.sh e)))) (hd : fb (ρf (some (.sh d))) = .ok (.ret r) ρ') :
    ∀ (pre : List D), (∀ e ∈ pre, fb (ρf (some (.sh e))) = .ok .nx (ρf (some (.sh e)))) → ∀ s, (s = none ∨ ∃ d, s = some (Sl.sh d)) → forD g fb (pre ++ d :: post) (ρf s) = .ok (.ret r) ρ'
  | [], _, s, hs => by simp [forD, hg _ _ hs, hd, Rs.bind]
  | e :: pre, h, s, hs => by
    have ih := forD_ret (post := post) hg hd pre (fun x hx => h x (List.mem_cons_of_mem _ hx)) (some (.sh e)) (.inr ⟨e, rfl⟩)
    simp only [List.cons_append, forD, hg _ _ hs, h e List.mem_cons_self, Rs.bind]
    exact ih
theorem range_split {n i : Nat} (h : i < n) : ∃ r, List.range n = List.range i ++ i :: r := by
  refine ⟨(List.range (n - i - 1)).map (· + (i + 1)), ?_⟩
  have : n = i + (1 + (n - i - 1)) := by omega
  rw [this, List.range_add, List.range_add]
  simp [Nat.add_assoc]
  intro a _; omega
/-- where the value v stands -/
def ixOf (xs : List Int) (v : Int) : Nat := xs.findIdx fun x => decide ((x - v) % (xs.length : Int) = 0)
def inv (xs : List Int) (v : Int) : Int := (ixOf xs v : Int) + 1 + v - xs.getD (ixOf xs v) 0
theorem ixOf_lt {xs : List Int} {v : Int} (h : ∃ x ∈ xs, (x - v) % (xs.length : Int) = 0) : ixOf xs v < xs.length := by
  obtain ⟨x, hx, e⟩ := h
  exact List.findIdx_lt_length_of_exists ⟨x, hx, by simpa using e⟩
theorem ixOf_at {xs : List Int} {v : Int} (h : ixOf xs v < xs.length) : (xs.getD (ixOf xs v) 0 - v) % (xs.length : Int) = 0 := by
  have := List.findIdx_getElem (p := fun x => decide ((x - v) % (xs.length : Int) = 0)) (w := h)
  have e : xs.getD (ixOf xs v) 0 = xs[ixOf xs v] := by simp [List.getD_eq_getElem?_getD, h]
  rw [e]; exact of_decide_eq_true this
theorem ixOf_no {xs : List Int} {v : Int} {j : Nat} (h : j < ixOf xs v) (hl : j < xs.length) : ¬ (xs.getD j 0 - v) % (xs.length : Int) = 0 := by
  have := List.not_of_lt_findIdx (p := fun x => decide ((x - v) % (xs.length : Int) = 0)) h
  have e : xs.getD j 0 = xs[j] := by simp [List.getD_eq_getElem?_getD, hl]
  rw [e]; simpa using this
theorem shape_stand {A : En → Rs D} {B : En → Rs (List D)} {fb : En → Rs Fl} {x y n r : D} {es : List D} {s : Option Sl} (hA : A [some (.sh x), some (.sh y), none, none] = .ok n [some (.sh x), some (.sh y), none, none])
    (hB : B [some (.sh x), some (.sh y), some (.sh n), none] = .ok es [some (.sh x), some (.sh y), some (.sh n), none]) (hf : forD (gN 3) fb es [some (.sh x), some (.sh y), some (.sh n), none] = .ok (.ret r) [some (.sh x), some (.sh y), some (.sh n), s]) :
    bodyF [false, false] 4 (fSeq (fSet 2 A) (fSeq (fFor B (gN 3) fb) (fRet (fC .non)))) [x, y] = .ok r [] := by
  simp [bodyF, enE, fSeq, fSet, fFor, fRet, Rs.bind, hA, setOk, hB, hf, bosD]
theorem c_standing {xs : List Int} {v : Int} (h1 : 1 ≤ xs.length) (h2 : xs.length ≤ 8) (h : ∃ x ∈ xs, (x - v) % (xs.length : Int) = 0) : F__law_standing [T xs, .int v] = .ok (.int (inv xs v)) [] := by
  have hn : (0 : Int) < xs.length := by omega
  have hn' : 0 < xs.length := h1
  have hlt := ixOf_lt h
  obtain ⟨post, hp⟩ := range_split hlt
  have body : ∀ j : Nat, j < xs.length → fIfS (fTr (fBin opEq (fBin opMod (fCall gInt (fCons (fBin opSub (fBin opIx (fVar 0) (fVar 3)) (fVar 1)) fNil)) (fVar 2)) (fC (.int 0)))) (fRet (fBin opSub (fBin opAdd (fBin opAdd (fVar 3) (fC (.int 1))) (fVar 1)) (fBin opIx (fVar 0) (fVar 3)))) fSkip
      [some (.sh (T xs)), some (.sh (.int v)), some (.sh (.int xs.length)), some (.sh (.int (j : Nat)))] = (if (xs.getD j 0 - v) % (xs.length : Int) = 0 then .ok (.ret (.int ((j : Int) + 1 + v - xs.getD j 0))) [some (.sh (T xs)), some (.sh (.int v)), some (.sh (.int xs.length)), some (.sh (.int (j : Nat)))] else .ok .nx [some (.sh (T xs)), some (.sh (.int v)), some (.sh (.int xs.length)), some (.sh (.int (j : Nat)))]) := fun j hj => by
    have e4 : opIx (T xs) (.int (j : Nat)) = some (.int (xs.getD j 0)) := ix_T rfl hj
    generalize xs.getD j 0 = z at e4 ⊢
    by_cases c : (z - v) % (xs.length : Int) = 0
    · simp [fIfS, fTr, fBin, fCall, fCons, fNil, fVar, fC, Rs.bind, e4, opSub, gInt, opMod, hn', opEq_int, c, fRet, opAdd]
    · simp [fIfS, fTr, fBin, fCall, fCons, fNil, fVar, fC, Rs.bind, e4, opSub, gInt, opMod, hn', opEq_int, c, fSkip]
  refine shape_stand (cl1 (show fVar 0 _ = .ok (T xs) _ from rfl) len_T) (iRg1_ok (show fVar 2 _ = .ok (.int xs.length) _ from rfl) (by omega)) (s := some (.sh (.int (ixOf xs v : Nat)))) ?_
  rw [Int.toNat_natCast, hp, List.map_append, List.map_cons]
  refine forD_ret (ρf := fun s => [some (.sh (T xs)), some (.sh (.int v)), some (.sh (.int xs.length)), s]) (fun e s hs => ?_) ?_ _ (fun e he => ?_) none (.inl rfl)
  · rcases hs with rfl | ⟨d, rfl⟩ <;> rfl
  · rw [body _ hlt, if_pos (ixOf_at hlt)]; rfl
  · obtain ⟨j, hj, rfl⟩ := List.mem_map.mp he
    have hj' := List.mem_range.mp hj
    rw [body j (by omega), if_neg (ixOf_no hj' (by omega))]
end Dl
end
section
set_option maxHeartbeats 4000000
namespace Dl
open PySem PySem.Spec PyProof.Rows L2
/-- 1 .. n -/
def upto (n : Nat) : List Int := (List.range n).map fun (k : Nat) => (1 : Int) + (k : Nat)
theorem upto_mem {n : Nat} {v : Int} : v ∈ upto n ↔ 1 ≤ v ∧ v ≤ n := by
  unfold upto
  constructor
  · intro h
    obtain ⟨k, hk, rfl⟩ := List.mem_map.mp h
    have := List.mem_range.mp hk
    omega
  · intro h
    exact List.mem_map.mpr ⟨(v - 1).toNat, List.mem_range.mpr (by omega), by omega⟩
theorem upto_len (n : Nat) : (upto n).length = n := by simp [upto]
/-- every value stands somewhere -/
def Full (xs : List Int) : Prop := ∀ v : Int, ∃ x ∈ xs, (x - v) % (xs.length : Int) = 0
def dualL (xs : List Int) : List Int := (upto xs.length).map fun v => inv xs v + xs.length
def mirrL (xs : List Int) : List Int := (upto xs.length).map fun v => xs.length + 1 - inv xs (xs.length + 1 - v)
def turnL (xs : List Int) (b : Int) : List Int := (upto xs.length).map fun v => Vx xs (v - b) + b
theorem src_upto {n : Nat} {f : En → Rs D} {ρ : En} (hn : n ≤ 8) (h : f ρ = .ok (.int (n + 1)) ρ) : iRg2 (fC (.int 1)) f ρ = .ok ((upto n).map .int) ρ := by
  have := iRg2_ok (fa := fC (.int 1)) (fb := f) (ρ := ρ) (i := 1) (j := n + 1) rfl h (by omega)
  rw [show ((n : Int) + 1 - 1).toNat = n by omega] at this
  rw [this]
  simp [upto, List.map_map, Function.comp_def]
theorem shape_len {n : Nat} {A B : En → Rs D} {x y r : D} {ρ2 : En} (hA : A (some (.sh x) :: none :: List.replicate n none) = .ok y (some (.sh x) :: none :: List.replicate n none)) (hB : B (some (.sh x) :: some (.sh y) :: List.replicate n none) = .ok r ρ2) (h : ∃ a ρ3, ρ2 = a :: ρ3) :
    bodyF [false] (n + 2) (fSeq (fSet 1 A) (fRet B)) [x] = .ok r [] := by
  obtain ⟨a, ρ3, rfl⟩ := h
  have e : enE [false] [x] (n + 2) = some (.sh x) :: none :: List.replicate n none := by simp [enE, List.replicate]
  simp [bodyF, e, fSeq, fSet, fRet, Rs.bind, hA, setOk, hB, bosD]
theorem gTup {l : List Int} : gTuple [.lst (l.map .int)] = some (T l) := rfl
theorem c_dual_of {xs : List Int} (h1 : 1 ≤ xs.length) (h2 : xs.length ≤ 8) (hf : Full xs) : F__law_dual_of [T xs] = .ok (T (dualL xs)) [] := by
  have e1 : fLc [2] (iRg2 (fC (.int 1)) (fBin opAdd (fVar 1) (fC (.int 1)))) (gN 2) fYes (fBin opAdd (fFn [none, none] F__law_standing (fCons (fVar 0) (fCons (fVar 2) fNil))) (fVar 1)) [some (.sh (T xs)), some (.sh (.int xs.length)), none] = .ok (.lst ((upto xs.length).map fun v => .int (inv xs v + xs.length))) [some (.sh (T xs)), some (.sh (.int xs.length)), none] := by
    refine fLc_map (c := D.int) (ρ1 := [some (.sh (T xs)), some (.sh (.int xs.length)), none]) (src_upto h2 rfl) rfl rfl (by rw [upto_len]; omega) fun v hv => ?_
    exact step_s [some (.sh (T xs)), some (.sh (.int xs.length)), some (.sh (.int v))] rfl rfl (fun _ => bin1 (fn2 (show fVar 0 _ = .ok (T xs) _ from rfl) (show fVar 2 _ = .ok (.int v) _ from rfl) (c_standing h1 h2 (hf v))) (show fVar 1 _ = .ok (.int xs.length) _ from rfl) rfl) rfl rfl
  have e2 : ((upto xs.length).map fun v => D.int (inv xs v + xs.length)) = (dualL xs).map .int := by simp [dualL]
  rw [e2] at e1
  exact shape_len (n := 1) (cl1 (show fVar 0 _ = .ok (T xs) _ from rfl) len_T) (cl1 e1 gTup) ⟨_, _, rfl⟩
theorem c_mirr_of {xs : List Int} (h1 : 1 ≤ xs.length) (h2 : xs.length ≤ 8) (hf : Full xs) : F__law_mirrored_of [T xs] = .ok (T (mirrL xs)) [] := by
  have e1 : fLc [2] (iRg2 (fC (.int 1)) (fBin opAdd (fVar 1) (fC (.int 1)))) (gN 2) fYes (fBin opSub (fBin opAdd (fVar 1) (fC (.int 1))) (fFn [none, none] F__law_standing (fCons (fVar 0) (fCons (fBin opSub (fBin opAdd (fVar 1) (fC (.int 1))) (fVar 2)) fNil)))) [some (.sh (T xs)), some (.sh (.int xs.length)), none] = .ok (.lst ((upto xs.length).map fun v => .int (xs.length + 1 - inv xs (xs.length + 1 - v)))) [some (.sh (T xs)), some (.sh (.int xs.length)), none] := by
    refine fLc_map (c := D.int) (ρ1 := [some (.sh (T xs)), some (.sh (.int xs.length)), none]) (src_upto h2 rfl) rfl rfl (by rw [upto_len]; omega) fun v hv => ?_
    exact step_s [some (.sh (T xs)), some (.sh (.int xs.length)), some (.sh (.int v))] rfl rfl (fun _ => bin1 (show fBin opAdd (fVar 1) (fC (.int 1)) _ = .ok (.int (xs.length + 1)) _ from rfl) (fn2 (show fVar 0 _ = .ok (T xs) _ from rfl) (show fBin opSub (fBin opAdd (fVar 1) (fC (.int 1))) (fVar 2) _ = .ok (.int (xs.length + 1 - v)) _ from rfl) (c_standing h1 h2 (hf _))) rfl) rfl rfl
  have e2 : ((upto xs.length).map fun v => D.int (xs.length + 1 - inv xs (xs.length + 1 - v))) = (mirrL xs).map .int := by simp [mirrL]
  rw [e2] at e1
  exact shape_len (n := 1) (cl1 (show fVar 0 _ = .ok (T xs) _ from rfl) len_T) (cl1 e1 gTup) ⟨_, _, rfl⟩
theorem c_turn_of {xs : List Int} {b : Int} (h1 : 1 ≤ xs.length) (h2 : xs.length ≤ 8) (hb : b.natAbs ≤ 1000) : F__law_turned_of [T xs, .int b] = .ok (T (turnL xs b)) [] := by
  have e1 : fLc [2] (iRg2 (fC (.int 1)) (fBin opAdd (fCall gLen (fCons (fVar 0) fNil)) (fC (.int 1)))) (gN 2) fYes (fBin opAdd (fFn [none, none] F__law_value (fCons (fVar 0) (fCons (fBin opSub (fVar 2) (fVar 1)) fNil))) (fVar 1)) [some (.sh (T xs)), some (.sh (.int b)), none] = .ok (.lst ((upto xs.length).map fun v => .int (Vx xs (v - b) + b))) [some (.sh (T xs)), some (.sh (.int b)), none] := by
    refine fLc_map (c := D.int) (ρ1 := [some (.sh (T xs)), some (.sh (.int b)), none]) (src_upto h2 (bin1 (cl1 (show fVar 0 _ = .ok (T xs) _ from rfl) len_T) (show fC (.int 1) _ = .ok (.int 1) _ from rfl) rfl)) rfl rfl (by rw [upto_len]; omega) fun v hv => ?_
    have hv' := upto_mem.mp hv
    have hq : ((v - b - 1) / (xs.length : Int)).natAbs ≤ 1010 := by
      have := Int.natAbs_ediv_le_natAbs (v - b - 1) (xs.length : Int)
      omega
    have hw : ((v - b - 1) / (xs.length : Int)).natAbs < 2 ^ 4000 := Nat.lt_of_lt_of_le (Nat.lt_of_le_of_lt hq (by decide : 1010 < 2 ^ 10)) (Nat.pow_le_pow_right (by decide) (by decide))
    exact step_s [some (.sh (T xs)), some (.sh (.int b)), some (.sh (.int v))] rfl rfl (fun _ => bin1 (fn2 (show fVar 0 _ = .ok (T xs) _ from rfl) (show fBin opSub (fVar 2) (fVar 1) _ = .ok (.int (v - b)) _ from rfl) (c_law_value h1 h2 hw)) (show fVar 1 _ = .ok (.int b) _ from rfl) rfl) rfl rfl
  have e2 : ((upto xs.length).map fun v => D.int (Vx xs (v - b) + b)) = (turnL xs b).map .int := by simp [turnL]
  rw [e2] at e1
  exact ret1 (by rfl) (cl1 e1 gTup) rfl
/-! ### ends, == -/
def ends (xs : List Int) : List Int := xs.map (rest xs.length)
theorem c_ends {xs : List Int} (h1 : 1 ≤ xs.length) (h2 : xs.length ≤ 8) : F_Order_ends [O xs] = .ok (T (ends xs)) [] := by
  have hn : (0 : Int) < xs.length := by omega
  have e1 : fLc [1] (iSeq (fFld "Order" "own_numbers" (fVar 0))) (gN 1) fYes (fFn [none, none] F_rest_of (fCons (fCall gLen (fCons (fFld "Order" "own_numbers" (fVar 0)) fNil)) (fCons (fVar 1) fNil))) [some (.sh (O xs)), none] = .ok (.lst (xs.map fun x => .int (rest xs.length x))) [some (.sh (O xs)), none] := by
    refine fLc_map (c := D.int) (ρ1 := [some (.sh (O xs)), none]) (by simp [iSeq, fld_O1, Rs.bind, T]) rfl rfl (by omega) fun x hx => ?_
    exact step_s [some (.sh (O xs)), some (.sh (.int x))] rfl rfl (fun _ => fn2 (cl1 fld_O1 len_T) (show fVar 1 _ = .ok (.int x) _ from rfl) (c_rest hn)) rfl rfl
  have e2 : (xs.map fun x => D.int (rest xs.length x)) = (ends xs).map .int := by simp [ends]
  rw [e2] at e1
  exact ret1 (by rfl) (cl1 e1 gTup) rfl
theorem dep_ints : ∀ xs : List Int, PyData.depthAll (xs.map PyData.int) = 0
  | [] => rfl
  | x :: xs => by simp [PyData.depthAll, PyData.depth, dep_ints xs]
theorem lay_ints : ∀ xs : List Int, PyData.canLayAll0 (xs.map PyData.int) = true
  | [] => rfl
  | x :: xs => by simp [PyData.canLayAll0, PyData.canLay0, lay_ints xs]
theorem T_shaped {xs : List Int} : SeqAt.shaped (.tuple (xs.map PyData.int)) = true := by
  unfold SeqAt.shaped
  simp [PyData.canLay0, PyData.depth, dep_ints, lay_ints]
theorem c_eq {xs : List Int} : F_Order___eq__ [O xs, O xs] = .ok (.bl true) [] := by
  have e := (eq_refl (T_py xs) T_shaped).1
  have f1 : fFld "Order" "own_numbers" (fVar 1) [some (.sh (O xs)), some (.sh (O xs))] = .ok (T xs) [some (.sh (O xs)), some (.sh (O xs))] := by simp [fFld, fVar, O, Rs.bind, getX]
  refine ret1 (by rfl) (show fAnd _ _ _ = .ok (.bl true) [some (.sh (O xs)), some (.sh (O xs))] from ?_) rfl
  have i1 : fIsi (isC "Order") (fVar 1) [some (.sh (O xs)), some (.sh (O xs))] = .ok (.bl true) [some (.sh (O xs)), some (.sh (O xs))] := by simp [fIsi, fUn, fVar, Rs.bind, isC, O]
  simp only [fAnd, fTr, i1, Rs.bind, if_true]
  exact bin1 fld_O1 f1 e
end Dl
end
section
set_option maxHeartbeats 4000000
namespace Dl
/-! ### the mathematics: orders as functions on all integers -/
theorem perm_of_sub {α : Type} [DecidableEq α] : ∀ {l1 l2 : List α}, l1.Nodup → (∀ a ∈ l1, a ∈ l2) → l2.length ≤ l1.length → l1.Perm l2
  | [], l2, _, _, h => by
    have : l2 = [] := List.length_eq_zero_iff.mp (Nat.le_zero.mp h)
    rw [this]
  | a :: l1, l2, nd, sub, h => by
    have nd' := List.nodup_cons.mp nd
    have ha := sub a List.mem_cons_self
    have p := List.perm_cons_erase ha
    refine (List.Perm.cons a (perm_of_sub nd'.2 (fun b hb => ?_) ?_)).trans p.symm
    · have hne : b ≠ a := fun e => nd'.1 (e ▸ hb)
      exact (List.mem_erase_of_ne hne).mpr (sub b (List.mem_cons_of_mem _ hb))
    · rw [List.length_erase_of_mem ha]
      simp at h
      omega
theorem rest_bd {n x : Int} (hn : 0 < n) : 1 ≤ rest n x ∧ rest n x ≤ n := by
  unfold rest
  have := Int.emod_nonneg (x - 1) (Int.ne_of_gt hn)
  have := Int.emod_lt_of_pos (x - 1) hn
  omega
theorem rest_eq {n x y : Int} : rest n x = rest n y ↔ (x - y) % n = 0 := by
  unfold rest
  rw [show x - y = (x - 1) - (y - 1) by omega, ← Int.emod_eq_emod_iff_emod_sub_eq_zero]
  omega
theorem rest_add {n x k : Int} : rest n (x + n * k) = rest n x := by
  rw [rest_eq]
  rw [show x + n * k - x = n * k by omega]
  exact Int.mul_emod_right n k
/-- each integer stands in a place of the period -/
theorem split {n : Nat} (hn : 0 < n) (v : Int) : ∃ (i : Nat) (k : Int), i < n ∧ v = (i : Int) + 1 + n * k ∧ ((v - 1) % n).toNat = i := by
  have h0 : (0 : Int) < n := by omega
  obtain ⟨j, e1, e2, e3⟩ := mod_nat (v := v - 1) h0
  refine ⟨j, (v - 1) / n, by omega, ?_, e3⟩
  have := Int.emod_def (v - 1) n
  omega
section
variable {xs ys : List Int}
theorem Vx_at {i : Nat} {k : Int} (hi : i < xs.length) : Vx xs ((i : Int) + 1 + xs.length * k) = xs.getD i 0 + xs.length * k := by
  have e : ((i : Int) + 1 + xs.length * k - 1) % xs.length = i := by
    rw [show (i : Int) + 1 + xs.length * k - 1 = i + xs.length * k by omega, Int.add_mul_emod_self_left]
    exact Int.emod_eq_of_lt (by omega) (by omega)
  unfold Vx rest
  rw [e]
  simp
  omega
theorem Vx_one {i : Nat} (hi : i < xs.length) : Vx xs ((i : Int) + 1) = xs.getD i 0 := by
  have := Vx_at (xs := xs) (k := 0) hi
  simpa using this
theorem Vx_add (h : 0 < xs.length) (v k : Int) : Vx xs (v + xs.length * k) = Vx xs v + xs.length * k := by
  obtain ⟨i, m, hi, e, _⟩ := split h v
  rw [e, show (i : Int) + 1 + xs.length * m + xs.length * k = (i : Int) + 1 + xs.length * (m + k) by rw [Int.mul_add]; omega, Vx_at hi, Vx_at hi, Int.mul_add]
  omega
theorem getD_at {i : Nat} (hi : i < xs.length) : xs[i]? = some (xs.getD i 0) := by simp [List.getD_eq_getElem?_getD, hi]
theorem ext_V (hl : xs.length = ys.length) (h : ∀ v : Int, Vx xs v = Vx ys v) : xs = ys := by
  refine List.ext_getElem? fun i => ?_
  by_cases hi : i < xs.length
  · rw [getD_at hi, getD_at (hl ▸ hi), ← Vx_one hi, ← Vx_one (hl ▸ hi), h]
  · rw [List.getElem?_eq_none (by omega), List.getElem?_eq_none (by omega)]
theorem Valid.pos (h : Valid xs) : 0 < xs.length := h.len.1
theorem Valid.V_bd (h : Valid xs) (v : Int) : v ≤ Vx xs v ∧ Vx xs v ≤ v + xs.length := by
  obtain ⟨i, k, hi, e, _⟩ := split h.pos v
  rw [e, Vx_at hi]
  have := h.bd i _ (getD_at hi)
  omega
theorem Valid.perm (h : Valid xs) : (xs.map (rest xs.length)).Perm (upto xs.length) := by
  have hp : (0 : Int) < xs.length := by have := h.pos; omega
  refine perm_of_sub h.nd (fun a ha => ?_) (by rw [upto_len, List.length_map]; exact Nat.le_refl _)
  obtain ⟨x, _, rfl⟩ := List.mem_map.mp ha
  exact upto_mem.mpr (rest_bd hp)
theorem Valid.full (h : Valid xs) : Full xs := fun v => by
  have hp : (0 : Int) < xs.length := by have := h.pos; omega
  have := h.perm.mem_iff.mpr (upto_mem.mpr (rest_bd (x := v) hp))
  obtain ⟨x, hx, e⟩ := List.mem_map.mp this
  exact ⟨x, hx, rest_eq.mp e⟩
theorem nodup_getD {α β : Type} {f : α → β} {l : List α} (h : (l.map f).Nodup) {i j : Nat} {a b : α} (hi : l[i]? = some a) (hj : l[j]? = some b) (e : f a = f b) : i = j := by
  have h1 : (l.map f)[i]? = some (f a) := by rw [List.getElem?_map, hi]; rfl
  have h2 : (l.map f)[j]? = some (f b) := by rw [List.getElem?_map, hj]; rfl
  have li := (List.getElem?_eq_some_iff.mp h1).1
  exact (List.getElem?_inj li h).mp (by rw [h1, h2, e])
theorem Valid.V_modinj (h : Valid xs) {u w : Int} (e : (Vx xs u - Vx xs w) % (xs.length : Int) = 0) : ∃ k, u = w + xs.length * k := by
  obtain ⟨i, k, hi, e1, _⟩ := split h.pos u
  obtain ⟨j, m, hj, e2, _⟩ := split h.pos w
  rw [e1, e2, Vx_at hi, Vx_at hj] at e
  have e' : (xs.getD i 0 - xs.getD j 0) % (xs.length : Int) = 0 := by
    rw [show xs.getD i 0 + xs.length * k - (xs.getD j 0 + xs.length * m) = xs.getD i 0 - xs.getD j 0 + xs.length * (k - m) by rw [Int.mul_sub]; omega, Int.add_mul_emod_self_left] at e
    exact e
  have := nodup_getD h.nd (getD_at hi) (getD_at hj) (rest_eq.mpr e')
  subst this
  exact ⟨k - m, by rw [e1, e2, Int.mul_sub]; omega⟩
theorem Valid.V_inj (h : Valid xs) {u w : Int} (e : Vx xs u = Vx xs w) : u = w := by
  obtain ⟨k, hk⟩ := h.V_modinj (u := u) (w := w) (by rw [e]; simp)
  rw [hk, Vx_add h.pos] at e
  omega
theorem V_inv (h : Valid xs) (v : Int) : Vx xs (inv xs v) = v := by
  have hlt := ixOf_lt (h.full v)
  have e := ixOf_at hlt
  obtain ⟨k, hk⟩ := Int.dvd_of_emod_eq_zero e
  unfold inv
  rw [show (ixOf xs v : Int) + 1 + v - xs.getD (ixOf xs v) 0 = (ixOf xs v : Int) + 1 + xs.length * (-k) by rw [Int.mul_neg]; omega, Vx_at hlt, Int.mul_neg]
  omega
theorem inv_V (h : Valid xs) (u : Int) : inv xs (Vx xs u) = u := h.V_inj (V_inv h _)
/-! ### what brought tells -/
theorem enumL_srt : ∀ (l : List Int) (k : Int), SrP (enumL k l)
  | [], _ => List.Pairwise.nil
  | x :: l, k => List.pairwise_cons.mpr ⟨fun q hq => by
      obtain ⟨i, _, e⟩ := enumL_mem.mp hq
      exact SrtO.lexB_no.mpr (by simp only; omega), enumL_srt l (k + 1)⟩
theorem enumL_snd : ∀ (l : List Int) (k : Int), (enumL k l).map (·.2) = l
  | [], _ => rfl
  | x :: l, k => by simp [enumL, enumL_snd l]
theorem nodup_of_map {α β : Type} {f : α → β} : ∀ {l : List α}, (l.map f).Nodup → l.Nodup
  | [], _ => List.nodup_nil
  | a :: l, h => by
    have h' := List.nodup_cons.mp (show (f a :: l.map f).Nodup from h)
    exact List.nodup_cons.mpr ⟨fun z => h'.1 (List.mem_map.mpr ⟨a, z, rfl⟩), nodup_of_map h'.2⟩
theorem brought_eq {ps : List (Int × Int)} (hl : ps.length = ys.length) (hp : 0 < ys.length) (nd : (ps.map fun q => rest ys.length q.1).Nodup) (hV : ∀ q ∈ ps, Vx ys q.1 = q.2) : brought ys.length ps = ys := by
  have hp' : (0 : Int) < ys.length := by omega
  have perm : (ps.map fun q => (rest ys.length q.1, q.2 - q.1 + rest ys.length q.1)).Perm (enumL 1 ys) := by
    refine perm_of_sub (nodup_of_map (f := Prod.fst) (by rw [List.map_map]; exact nd)) (fun a ha => ?_) (by rw [enumL_len, List.length_map, hl]; exact Nat.le_refl _)
    obtain ⟨q, hq, rfl⟩ := List.mem_map.mp ha
    obtain ⟨i, k, hi, e1, e2⟩ := split hp q.1
    refine enumL_mem.mpr ⟨i, ?_, ?_⟩
    · rw [getD_at hi]
      have := hV q hq
      unfold Vx at this
      rw [e2] at this
      simp only [Option.some.injEq]
      omega
    · simp only
      rw [e1, rest_add]
      unfold rest
      rw [show (i : Int) + 1 - 1 = i by omega, Int.emod_eq_of_lt (by omega) (by omega)]
      omega
  unfold brought
  rw [srP_uniq srtP_srt (enumL_srt ys 1) (srtP_perm.trans perm), enumL_snd]
end
end Dl
end
section
set_option maxHeartbeats 4000000
namespace Dl
section
variable {xs ys : List Int}
theorem enumL_eq : ∀ (l : List Int) (k : Int), enumL k l = (List.range l.length).map fun i => (k + (i : Nat), l.getD i 0)
  | [], _ => rfl
  | x :: l, k => by
    rw [enumL, enumL_eq l (k + 1), List.length_cons, List.range_succ_eq_map, List.map_cons, List.map_map]
    simp [Function.comp_def]
    intro a _
    omega
theorem nd_enum {φ : Int × Int → Int} (h : ∀ i j : Nat, i < xs.length → j < xs.length → (φ ((i : Int) + 1, xs.getD i 0) - φ ((j : Int) + 1, xs.getD j 0)) % (xs.length : Int) = 0 → i = j) : ((enumL 1 xs).map fun q => rest xs.length (φ q)).Nodup := by
  rw [enumL_eq, List.map_map]
  refine nodup_mapI List.nodup_range fun i hi j hj e => h i j (List.mem_range.mp hi) (List.mem_range.mp hj) ?_
  have := rest_eq.mp e
  rw [Int.add_comm (i : Int) 1, Int.add_comm (j : Int) 1]
  exact this
theorem enum_at {q : Int × Int} (h : q ∈ enumL 1 xs) : ∃ i : Nat, i < xs.length ∧ q.1 = (i : Int) + 1 ∧ q.2 = xs.getD i 0 := by
  obtain ⟨i, h1, h2⟩ := enumL_mem.mp h
  have hi := (List.getElem?_eq_some_iff.mp h1).1
  refine ⟨i, hi, by omega, ?_⟩
  rw [getD_at hi] at h1
  exact (Option.some.inj h1).symm
/-- a list told value by value -/
def tell (n : Nat) (h : Int → Int) : List Int := (upto n).map h
theorem tell_len (n : Nat) (h : Int → Int) : (tell n h).length = n := by simp [tell, upto_len]
theorem tell_get {n i : Nat} {h : Int → Int} (hi : i < n) : (tell n h).getD i 0 = h ((i : Int) + 1) := by
  simp [tell, upto, List.getD_eq_getElem?_getD, List.getElem?_map, List.getElem?_range, hi, Int.add_comm]
theorem tell_V {n : Nat} {h : Int → Int} (hn : 0 < n) (eq : ∀ v k : Int, h (v + n * k) = h v + n * k) (v : Int) : Vx (tell n h) v = h v := by
  obtain ⟨i, k, hi, e, _⟩ := split hn v
  have hl := tell_len n h
  rw [e]
  have := Vx_at (xs := tell n h) (i := i) (k := k) (by rw [hl]; exact hi)
  rw [hl] at this
  rw [this, tell_get hi, ← eq]
theorem tell_valid {n : Nat} {h : Int → Int} (h1 : 1 ≤ n) (h8 : n ≤ 8) (bd : ∀ v : Int, v ≤ h v ∧ h v ≤ v + n) (inj : ∀ u w : Int, (h u - h w) % (n : Int) = 0 → ∃ k, u = w + n * k) : Valid (tell n h) := by
  have hl := tell_len n h
  refine ⟨by omega, fun i x hx => ?_, ?_⟩
  · have hi := (List.getElem?_eq_some_iff.mp hx).1
    rw [getD_at hi] at hx
    cases hx
    rw [tell_get (hl ▸ hi), hl]
    have := bd ((i : Int) + 1)
    omega
  · rw [hl]
    unfold tell upto
    rw [List.map_map, List.map_map]
    refine nodup_mapI List.nodup_range fun i hi j hj e => ?_
    have hi' := List.mem_range.mp hi
    have hj' := List.mem_range.mp hj
    obtain ⟨k, hk⟩ := inj _ _ (rest_eq.mp (show rest n (h (1 + (i : Nat))) = rest n (h (1 + (j : Nat))) from e))
    have h3 : (i : Int) - j = n * k := by omega
    have hk0 : k = 0 := by
      rcases Int.lt_trichotomy k 0 with q | q | q
      · have : (n : Int) * k ≤ n * (-1) := Int.mul_le_mul_of_nonneg_left (by omega) (by omega)
        omega
      · exact q
      · have : (n : Int) * 1 ≤ n * k := Int.mul_le_mul_of_nonneg_left (by omega) (by omega)
        omega
    subst hk0
    omega
theorem inv_add (h : Valid xs) (v k : Int) : inv xs (v + xs.length * k) = inv xs v + xs.length * k := h.V_inj (by rw [V_inv h, Vx_add h.pos, V_inv h])
theorem dualL_tell : dualL xs = tell xs.length fun v => inv xs v + xs.length := rfl
theorem mirrL_tell : mirrL xs = tell xs.length fun v => xs.length + 1 - inv xs (xs.length + 1 - v) := rfl
theorem turnL_tell {b : Int} : turnL xs b = tell xs.length fun v => Vx xs (v - b) + b := rfl
theorem V_dualL (h : Valid xs) (v : Int) : Vx (dualL xs) v = inv xs v + xs.length := by
  rw [dualL_tell]
  exact tell_V h.pos (fun v k => by rw [inv_add h]; omega) v
theorem V_mirrL (h : Valid xs) (v : Int) : Vx (mirrL xs) v = xs.length + 1 - inv xs (xs.length + 1 - v) := by
  rw [mirrL_tell]
  refine tell_V h.pos (fun v k => ?_) v
  rw [show (xs.length : Int) + 1 - (v + xs.length * k) = (xs.length + 1 - v) + xs.length * (-k) by rw [Int.mul_neg]; omega, inv_add h, Int.mul_neg]
  omega
theorem V_turnL (h : Valid xs) (b v : Int) : Vx (turnL xs b) v = Vx xs (v - b) + b := by
  rw [turnL_tell]
  refine tell_V h.pos (fun v k => ?_) v
  rw [show v + (xs.length : Int) * k - b = (v - b) + xs.length * k by omega, Vx_add h.pos]
  omega
theorem inv_modinj (h : Valid xs) {u w : Int} (e : (inv xs u - inv xs w) % (xs.length : Int) = 0) : ∃ k, u = w + xs.length * k := by
  obtain ⟨k, hk⟩ := Int.dvd_of_emod_eq_zero e
  refine ⟨k, ?_⟩
  have : inv xs u = inv xs w + xs.length * k := by omega
  have e2 := V_inv h u
  rw [this, Vx_add h.pos, V_inv h] at e2
  omega
theorem valid_dualL (h : Valid xs) : Valid (dualL xs) := by
  rw [dualL_tell]
  refine tell_valid h.len.1 h.len.2 (fun v => ?_) fun u w e => inv_modinj h (by rw [show inv xs u - inv xs w = (inv xs u + xs.length) - (inv xs w + xs.length) by omega]; exact e)
  have := h.V_bd (inv xs v)
  rw [V_inv h] at this
  omega
theorem valid_mirrL (h : Valid xs) : Valid (mirrL xs) := by
  rw [mirrL_tell]
  refine tell_valid h.len.1 h.len.2 (fun v => ?_) fun u w e => ?_
  · have := h.V_bd (inv xs (xs.length + 1 - v))
    rw [V_inv h] at this
    omega
  · obtain ⟨k, hk⟩ := inv_modinj h (u := xs.length + 1 - w) (w := xs.length + 1 - u) (by rw [← e]; congr 1; omega)
    exact ⟨k, by omega⟩
theorem valid_turnL (h : Valid xs) (b : Int) : Valid (turnL xs b) := by
  rw [turnL_tell]
  refine tell_valid h.len.1 h.len.2 (fun v => ?_) fun u w e => ?_
  · have := h.V_bd (v - b); omega
  · obtain ⟨k, hk⟩ := h.V_modinj (u := u - b) (w := w - b) (by rw [← e]; congr 1; omega)
    exact ⟨k, by omega⟩
theorem dual_eq (h : Valid xs) : dual xs = dualL xs := by
  have hl : (dualL xs).length = xs.length := by rw [dualL_tell, tell_len]
  have := brought_eq (ys := dualL xs) (ps := (enumL 1 xs).map fun q => (q.2, q.1 + xs.length)) (by rw [hl]; simp [enumL_len]) (by rw [hl]; exact h.pos) (by
    rw [hl, List.map_map]
    refine nd_enum (φ := fun q => q.2) fun i j hi hj e => ?_
    exact nodup_getD h.nd (getD_at hi) (getD_at hj) (rest_eq.mpr e)) fun q hq => by
    obtain ⟨q0, hq0, rfl⟩ := List.mem_map.mp hq
    obtain ⟨i, hi, e1, e2⟩ := enum_at hq0
    simp only
    rw [V_dualL h, e2, e1, ← Vx_one hi, inv_V h]
  rw [hl] at this
  exact this
theorem mirr_eq (h : Valid xs) : mirr xs = mirrL xs := by
  have hl : (mirrL xs).length = xs.length := by rw [mirrL_tell, tell_len]
  have := brought_eq (ys := mirrL xs) (ps := (enumL 1 xs).map fun q => ((xs.length : Int) + 1 - q.2, (xs.length : Int) + 1 - q.1)) (by rw [hl]; simp [enumL_len]) (by rw [hl]; exact h.pos) (by
    rw [hl, List.map_map]
    refine nd_enum (φ := fun q => (xs.length : Int) + 1 - q.2) fun i j hi hj e => ?_
    refine (nodup_getD h.nd (getD_at hj) (getD_at hi) (rest_eq.mpr ?_)).symm
    rw [show xs.getD j 0 - xs.getD i 0 = (xs.length : Int) + 1 - xs.getD i 0 - (xs.length + 1 - xs.getD j 0) by omega]
    exact e) fun q hq => by
    obtain ⟨q0, hq0, rfl⟩ := List.mem_map.mp hq
    obtain ⟨i, hi, e1, e2⟩ := enum_at hq0
    simp only
    rw [V_mirrL h, show (xs.length : Int) + 1 - (xs.length + 1 - q0.2) = q0.2 by omega, e2, e1, ← Vx_one hi, inv_V h]
  rw [hl] at this
  exact this
theorem turn_eq (h : Valid xs) (b : Int) : turn xs b = turnL xs b := by
  have hl : (turnL xs b).length = xs.length := by rw [turnL_tell, tell_len]
  have := brought_eq (ys := turnL xs b) (ps := (enumL 1 xs).map fun q => (q.1 + b, q.2 + b)) (by rw [hl]; simp [enumL_len]) (by rw [hl]; exact h.pos) (by
    rw [hl, List.map_map]
    refine nd_enum (φ := fun q => q.1 + b) fun i j hi hj e => ?_
    simp only at e
    rw [show (i : Int) + 1 + b - (j + 1 + b) = i - j by omega] at e
    obtain ⟨k, hk⟩ := Int.dvd_of_emod_eq_zero e
    have hk0 : k = 0 := by
      rcases Int.lt_trichotomy k 0 with q | q | q
      · have : (xs.length : Int) * k ≤ xs.length * (-1) := Int.mul_le_mul_of_nonneg_left (by omega) (by omega)
        omega
      · exact q
      · have : (xs.length : Int) * 1 ≤ xs.length * k := Int.mul_le_mul_of_nonneg_left (by omega) (by omega)
        omega
    subst hk0
    omega) fun q hq => by
    obtain ⟨q0, hq0, rfl⟩ := List.mem_map.mp hq
    obtain ⟨i, hi, e1, e2⟩ := enum_at hq0
    simp only
    rw [V_turnL h, show q0.1 + b - b = q0.1 by omega, e2, e1, ← Vx_one hi]
  rw [hl] at this
  exact this
end
end Dl
end
section
set_option maxHeartbeats 4000000
namespace Dl
section
variable {xs ys : List Int}
theorem dualL_len : (dualL xs).length = xs.length := by rw [dualL_tell, tell_len]
theorem mirrL_len : (mirrL xs).length = xs.length := by rw [mirrL_tell, tell_len]
theorem turnL_len {b : Int} : (turnL xs b).length = xs.length := by rw [turnL_tell, tell_len]
theorem inv_of (h : Valid xs) {u v : Int} (e : Vx xs u = v) : inv xs v = u := by rw [← e, inv_V h]
theorem inv_dualL (h : Valid xs) (v : Int) : inv (dualL xs) v = Vx xs v - xs.length := by
  refine inv_of (valid_dualL h) ?_
  rw [V_dualL h]
  have := inv_add h (Vx xs v) (-1)
  rw [inv_V h] at this
  rw [show Vx xs v - (xs.length : Int) = Vx xs v + xs.length * (-1) by omega, this]
  omega
theorem inv_mirrL (h : Valid xs) (v : Int) : inv (mirrL xs) v = xs.length + 1 - Vx xs (xs.length + 1 - v) := by
  refine inv_of (valid_mirrL h) ?_
  rw [V_mirrL h, show (xs.length : Int) + 1 - (xs.length + 1 - Vx xs (xs.length + 1 - v)) = Vx xs (xs.length + 1 - v) by omega, inv_V h]
  omega
theorem inv_turnL (h : Valid xs) (b v : Int) : inv (turnL xs b) v = inv xs (v - b) + b := by
  refine inv_of (valid_turnL h b) ?_
  rw [V_turnL h, show inv xs (v - b) + b - b = inv xs (v - b) by omega, V_inv h]
  omega
theorem dual_dual (h : Valid xs) : dualL (dualL xs) = xs := ext_V (by rw [dualL_len, dualL_len]) fun v => by
  rw [V_dualL (valid_dualL h), inv_dualL h, dualL_len]; omega
theorem mirr_mirr (h : Valid xs) : mirrL (mirrL xs) = xs := ext_V (by rw [mirrL_len, mirrL_len]) fun v => by
  rw [V_mirrL (valid_mirrL h), inv_mirrL h, mirrL_len, show (xs.length : Int) + 1 - (xs.length + 1 - v) = v by omega]; omega
theorem turn_turn (h : Valid xs) (b c : Int) : turnL (turnL xs b) c = turnL xs (b + c) := ext_V (by rw [turnL_len, turnL_len, turnL_len]) fun v => by
  rw [V_turnL (valid_turnL h b), V_turnL h, V_turnL h, show v - c - b = v - (b + c) by omega]; omega
theorem turn_all (h : Valid xs) (k : Int) : turnL xs (xs.length * k) = xs := ext_V turnL_len fun v => by
  have := Vx_add h.pos v (-k)
  rw [Int.mul_neg] at this
  rw [V_turnL h, show v - (xs.length : Int) * k = v + -(xs.length * k) by omega, this]; omega
theorem turn_zero (h : Valid xs) : turnL xs 0 = xs := by have := turn_all h 0; simpa using this
theorem turn_back (h : Valid xs) (b : Int) : turnL (turnL xs b) (-b) = xs := by
  rw [turn_turn h, show b + -b = 0 by omega, turn_zero h]
theorem turn_more (h : Valid xs) (b : Int) : turnL xs (b + xs.length) = turnL xs b := by
  have e := turn_all h 1
  rw [show (xs.length : Int) * 1 = xs.length by omega] at e
  have := turn_turn h xs.length b
  rw [e, Int.add_comm] at this
  exact this.symm
theorem mirr_dual (h : Valid xs) : mirrL (dualL xs) = dualL (mirrL xs) := ext_V (by rw [mirrL_len, dualL_len, dualL_len, mirrL_len]) fun v => by
  rw [V_mirrL (valid_dualL h), V_dualL (valid_mirrL h), inv_dualL h, inv_mirrL h, dualL_len, mirrL_len]; omega
theorem dual_turn (h : Valid xs) (b : Int) : dualL (turnL xs b) = turnL (dualL xs) b := ext_V (by rw [turnL_len, dualL_len, dualL_len, turnL_len]) fun v => by
  rw [V_dualL (valid_turnL h b), V_turnL (valid_dualL h), inv_turnL h, V_dualL h, turnL_len]; omega
theorem mirr_turn (h : Valid xs) (b : Int) : mirrL (turnL xs b) = turnL (mirrL xs) (-b) := ext_V (by rw [turnL_len, mirrL_len, mirrL_len, turnL_len]) fun v => by
  rw [V_mirrL (valid_turnL h b), V_turnL (valid_mirrL h), inv_turnL h, V_mirrL h, turnL_len, show (xs.length : Int) + 1 - v - b = xs.length + 1 - (v - -b) by omega]; omega
/-! ### sums over a period -/
theorem perm_sum {l m : List Int} (p : l.Perm m) : l.sum = m.sum := by
  induction p with
  | nil => rfl
  | cons x _ ih => simp [ih]
  | swap x y l => simp; omega
  | trans _ _ h1 h2 => exact h1.trans h2
theorem rest_form {n : Nat} (hn : 0 < n) (v : Int) : ∃ k : Int, rest n v = v + n * k := by
  refine ⟨-((v - 1) / n), ?_⟩
  unfold rest
  have := Int.emod_def (v - 1) n
  rw [Int.mul_neg]
  omega
theorem upto_nodup (n : Nat) : (upto n).Nodup := by
  unfold upto
  exact nodup_mapI List.nodup_range fun i _ j _ e => by omega
/-- a sum over a period may be taken at any places that differ within it -/
theorem psum {n : Nat} (hn : 0 < n) {h σ : Int → Int} (hp : ∀ v k : Int, h (v + n * k) = h v) (hs : ∀ u w : Int, (σ u - σ w) % (n : Int) = 0 → ∃ k, u = w + n * k) : ((upto n).map fun u => h (σ u)).sum = ((upto n).map h).sum := by
  have e : ((upto n).map fun u => h (σ u)) = ((upto n).map fun u => rest n (σ u)).map h := by
    rw [List.map_map]
    refine List.map_congr_left fun u _ => ?_
    obtain ⟨k, hk⟩ := rest_form hn (σ u)
    show h (σ u) = h (rest n (σ u))
    rw [hk, hp]
  rw [e]
  refine perm_sum (List.Perm.map h (perm_of_sub ?_ (fun a ha => ?_) (by rw [upto_len, List.length_map, upto_len]; exact Nat.le_refl _)))
  · refine nodup_mapI (upto_nodup n) fun u hu w hw e => ?_
    obtain ⟨k, hk⟩ := hs u w (rest_eq.mp e)
    have a := upto_mem.mp hu
    have b := upto_mem.mp hw
    have hk0 : k = 0 := by
      rcases Int.lt_trichotomy k 0 with q | q | q
      · have : (n : Int) * k ≤ n * (-1) := Int.mul_le_mul_of_nonneg_left (by omega) (by omega)
        omega
      · exact q
      · have : (n : Int) * 1 ≤ n * k := Int.mul_le_mul_of_nonneg_left (by omega) (by omega)
        omega
    subst hk0
    omega
  · obtain ⟨u, _, rfl⟩ := List.mem_map.mp ha
    exact upto_mem.mpr (rest_bd (by omega))
/-! ### the level -/
def S (xs : List Int) : Int := ((upto xs.length).map fun v => Vx xs v - v).sum
theorem upto_V : (upto xs.length).map (Vx xs) = xs := by
  have : tell xs.length (Vx xs) = xs := by
    refine List.ext_getElem? fun i => ?_
    by_cases hi : i < xs.length
    · rw [getD_at (by rw [tell_len]; exact hi), tell_get hi, Vx_one hi, ← getD_at hi]
    · rw [List.getElem?_eq_none (by rw [tell_len]; omega), List.getElem?_eq_none (by omega)]
  exact this
theorem sum_sub (l : List Int) (f g : Int → Int) : (l.map fun v => f v - g v).sum = (l.map f).sum - (l.map g).sum := by
  induction l with
  | nil => rfl
  | cons a l ih => simp [ih]; omega
theorem enum_filter (p : Int → Bool) : ∀ (l : List Int) (k : Int), ((enumL k l).filter fun q => p q.2).length = (l.filter p).length
  | [], _ => rfl
  | x :: l, k => by
    simp only [enumL, List.filter_cons]
    cases p x <;> simp [enum_filter p l]
theorem S_level (h : Valid xs) : S xs = xs.length * level xs := by
  have hp : (0 : Int) < xs.length := by have := h.pos; omega
  unfold S
  rw [sum_sub, upto_V, List.map_id']
  have e1 : (xs.map (rest xs.length)).sum = (upto xs.length).sum := perm_sum h.perm
  have e2 : ∀ l : List Int, (∀ x ∈ l, 1 ≤ x ∧ x ≤ 2 * (xs.length : Int)) → l.sum = (l.map (rest xs.length)).sum + xs.length * ((l.filter fun x => decide ((xs.length : Int) < x)).length : Int) := by
    intro l
    induction l with
    | nil => intro _; simp
    | cons x l ih =>
      intro hb
      have ih' := ih fun y hy => hb y (List.mem_cons_of_mem _ hy)
      have bx := hb x List.mem_cons_self
      simp only [List.sum_cons, List.map_cons, List.filter_cons]
      by_cases c : (xs.length : Int) < x
      · have r : rest xs.length x = x - xs.length := by
          unfold rest
          rw [show x - 1 = (x - 1 - xs.length) + xs.length * 1 by omega, Int.add_mul_emod_self_left, Int.emod_eq_of_lt (by omega) (by omega)]
          omega
        simp only [c, decide_true, if_true, List.length_cons]
        rw [r, ih']
        push_cast
        rw [Int.mul_add]
        omega
      · have r : rest xs.length x = x := by
          unfold rest
          rw [Int.emod_eq_of_lt (by omega) (by omega)]
          omega
        simp only [c, decide_false, Bool.false_eq_true, if_false]
        rw [r, ih']
        omega
  have e3 := e2 xs fun x hx => by
    obtain ⟨i, hi⟩ := List.mem_iff_getElem?.mp hx
    have hl := (List.getElem?_eq_some_iff.mp hi).1
    have := h.bd i x hi
    omega
  have e4 : (level xs : Int) = ((xs.filter fun x => decide ((xs.length : Int) < x)).length : Int) := by
    unfold level
    rw [enum_filter (fun x => decide ((xs.length : Int) < x))]
  rw [e4, e3, e1]
  omega
theorem S_per (h : Valid xs) (v k : Int) : Vx xs (v + xs.length * k) - (v + xs.length * k) = Vx xs v - v := by rw [Vx_add h.pos]; omega
theorem level_of {a b : Nat} {n : Nat} (hn : 0 < n) (e : (n : Int) * a = n * b) : a = b := by
  have := Int.eq_of_mul_eq_mul_left (by omega) e
  omega
theorem level_mirrL (h : Valid xs) : level (mirrL xs) = level xs := by
  have e1 := S_level (valid_mirrL h)
  have e2 := S_level h
  rw [mirrL_len] at e1
  refine level_of h.pos (e1.symm.trans (Eq.trans ?_ e2))
  unfold S
  rw [mirrL_len, ← psum h.pos (σ := fun u => xs.length + 1 - Vx xs u) (fun v k => by have := S_per (valid_mirrL h) v k; rw [mirrL_len] at this; exact this) (fun u w e => by
    obtain ⟨k, hk⟩ := h.V_modinj (u := w) (w := u) (by rw [← e]; congr 1; omega)
    exact ⟨-k, by rw [Int.mul_neg]; omega⟩)]
  congr 1
  refine List.map_congr_left fun u _ => ?_
  rw [V_mirrL h, show (xs.length : Int) + 1 - (xs.length + 1 - Vx xs u) = Vx xs u by omega, inv_V h]
  omega
theorem level_turnL (h : Valid xs) (b : Int) : level (turnL xs b) = level xs := by
  have e1 := S_level (valid_turnL h b)
  have e2 := S_level h
  rw [turnL_len] at e1
  refine level_of h.pos (e1.symm.trans (Eq.trans ?_ e2))
  unfold S
  rw [turnL_len, ← psum h.pos (σ := fun u => u + b) (fun v k => by have := S_per (valid_turnL h b) v k; rw [turnL_len] at this; exact this) (fun u w e => by
    obtain ⟨k, hk⟩ := Int.dvd_of_emod_eq_zero e
    exact ⟨k, by omega⟩)]
  congr 1
  refine List.map_congr_left fun u _ => ?_
  rw [V_turnL h, show u + b - b = u by omega]
  omega
theorem sum_const (n : Nat) (c : Int) : ((upto n).map fun _ => c).sum = n * c := by
  have : ∀ l : List Int, (l.map fun _ => c).sum = l.length * c := by
    intro l
    induction l with
    | nil => simp
    | cons a l ih => simp [ih, Int.add_mul]; omega
  rw [this, upto_len]
theorem level_dualL (h : Valid xs) : (level (dualL xs) : Int) = xs.length - level xs := by
  have e1 := S_level (valid_dualL h)
  have e2 := S_level h
  rw [dualL_len] at e1
  have e3 : S (dualL xs) = xs.length * xs.length - S xs := by
    unfold S
    rw [dualL_len, ← psum h.pos (σ := fun u => Vx xs u) (fun v k => by have := S_per (valid_dualL h) v k; rw [dualL_len] at this; exact this) (fun u w e => h.V_modinj e), ← sum_const xs.length xs.length, ← sum_sub]
    congr 1
    refine List.map_congr_left fun u _ => ?_
    rw [V_dualL h, inv_V h]
    omega
  have hp : (xs.length : Int) ≠ 0 := by have := h.pos; omega
  rw [e1, e2, ← Int.mul_sub] at e3
  exact Int.eq_of_mul_eq_mul_left hp e3
end
end Dl
end
section
set_option maxHeartbeats 4000000
namespace Dl
theorem len_sub {α : Type} [DecidableEq α] : ∀ {l1 l2 : List α}, l1.Nodup → (∀ a ∈ l1, a ∈ l2) → l1.length ≤ l2.length
  | [], l2, _, _ => Nat.zero_le _
  | a :: l1, l2, nd, sub => by
    have nd' := List.nodup_cons.mp nd
    have ha := sub a List.mem_cons_self
    have ih := len_sub (l2 := l2.erase a) nd'.2 fun b hb => by
      have hne : b ≠ a := fun e => nd'.1 (by rw [← e]; exact hb)
      exact (List.mem_erase_of_ne hne).mpr (sub b (List.mem_cons_of_mem _ hb))
    rw [List.length_erase_of_mem ha] at ih
    have := List.length_pos_of_mem ha
    simp
    omega
section
variable {xs ys : List Int}
/-- the places behind v that stand below it; those ahead of it that stand above it -/
def aft (xs : List Int) (v : Int) : List Int := ((List.range (xs.length - 1)).map fun (k : Nat) => v + 1 + (k : Nat)).filter fun w => decide (Vx xs w < Vx xs v)
def bef (xs : List Int) (v : Int) : List Int := ((List.range (xs.length - 1)).map fun (k : Nat) => v - 1 - (k : Nat)).filter fun w => decide (Vx xs v < Vx xs w)
theorem aft_mem {v w : Int} : w ∈ aft xs v ↔ v < w ∧ w < v + xs.length ∧ Vx xs w < Vx xs v := by
  unfold aft
  rw [List.mem_filter, List.mem_map]
  constructor
  · rintro ⟨⟨k, hk, rfl⟩, h⟩
    have := List.mem_range.mp hk
    exact ⟨by omega, by omega, of_decide_eq_true h⟩
  · rintro ⟨h1, h2, h3⟩
    exact ⟨⟨(w - v - 1).toNat, List.mem_range.mpr (by omega), by omega⟩, decide_eq_true h3⟩
theorem bef_mem {v w : Int} : w ∈ bef xs v ↔ w < v ∧ v < w + xs.length ∧ Vx xs v < Vx xs w := by
  unfold bef
  rw [List.mem_filter, List.mem_map]
  constructor
  · rintro ⟨⟨k, hk, rfl⟩, h⟩
    have := List.mem_range.mp hk
    exact ⟨by omega, by omega, of_decide_eq_true h⟩
  · rintro ⟨h1, h2, h3⟩
    exact ⟨⟨(v - w - 1).toNat, List.mem_range.mpr (by omega), by omega⟩, decide_eq_true h3⟩
theorem aft_nd {v : Int} : (aft xs v).Nodup := List.Pairwise.filter _ (nodup_mapI List.nodup_range fun i _ j _ e => by omega)
theorem bef_nd {v : Int} : (bef xs v).Nodup := List.Pairwise.filter _ (nodup_mapI List.nodup_range fun i _ j _ e => by omega)
/-- by two maps there and back the lists are of one length -/
theorem len_eq {l m : List Int} (nl : l.Nodup) (nm : m.Nodup) (f g : Int → Int) (h1 : ∀ a ∈ l, f a ∈ m) (h2 : ∀ b ∈ m, g b ∈ l) (h3 : ∀ a, g (f a) = a) (h4 : ∀ b, f (g b) = b) : l.length = m.length := by
  have a := len_sub (l1 := l.map f) (l2 := m) (nodup_mapI nl fun x _ y _ e => by rw [← h3 x, ← h3 y, e]) (fun x hx => by obtain ⟨y, hy, rfl⟩ := List.mem_map.mp hx; exact h1 y hy)
  have b := len_sub (l1 := m.map g) (l2 := l) (nodup_mapI nm fun x _ y _ e => by rw [← h4 x, ← h4 y, e]) (fun x hx => by obtain ⟨y, hy, rfl⟩ := List.mem_map.mp hx; exact h2 y hy)
  rw [List.length_map] at a b
  omega
theorem knots_sum : ((knotsL xs).length : Int) = ((upto xs.length).map fun v => ((aft xs v).length : Int)).sum := by
  unfold knotsL places upto
  rw [List.map_map]
  generalize List.range xs.length = l
  induction l with
  | nil => rfl
  | cons i l ih =>
    rw [List.flatMap_cons, List.filter_append, List.length_append, List.map_cons, List.sum_cons]
    push_cast
    rw [ih]
    congr 1
    unfold aft
    simp only [Function.comp]
    rw [List.filter_map, List.filter_map, List.length_map, List.length_map]
    rfl
theorem aft_per (h : Valid xs) (v k : Int) : ((aft xs (v + xs.length * k)).length : Int) = (aft xs v).length := by
  have e := len_eq (aft_nd (xs := xs) (v := v)) (aft_nd (xs := xs) (v := v + xs.length * k)) (fun w => w + xs.length * k) (fun w => w - xs.length * k) (fun a ha => by
    have := aft_mem.mp ha
    refine aft_mem.mpr ⟨by omega, by omega, ?_⟩
    rw [Vx_add h.pos, Vx_add h.pos]; omega) (fun b hb => by
    have := aft_mem.mp hb
    have e := Vx_add h.pos (b - xs.length * k) k
    rw [show b - (xs.length : Int) * k + xs.length * k = b by omega] at e
    have e2 := Vx_add h.pos v k
    refine aft_mem.mpr ⟨by omega, by omega, ?_⟩
    omega) (fun a => by omega) (fun b => by omega)
  omega
theorem V_far (h : Valid xs) {u w : Int} (h1 : u < w) (h2 : Vx xs w < Vx xs u) : w < u + xs.length := by
  have a := h.V_bd u
  have b := h.V_bd w
  omega
theorem knots_mirrL (h : Valid xs) : (knotsL (mirrL xs)).length = (knotsL xs).length := by
  have hm := valid_mirrL h
  have e : ((knotsL (mirrL xs)).length : Int) = (knotsL xs).length := by
    rw [knots_sum, knots_sum, mirrL_len, ← psum h.pos (σ := fun u => xs.length + 1 - Vx xs u) (fun v k => by have := aft_per hm v k; rw [mirrL_len] at this; exact this) (fun u w e => by
      obtain ⟨k, hk⟩ := h.V_modinj (u := w) (w := u) (by rw [← e]; congr 1; omega)
      exact ⟨-k, by rw [Int.mul_neg]; omega⟩)]
    congr 1
    refine List.map_congr_left fun u _ => ?_
    have key : ∀ w, Vx (mirrL xs) (xs.length + 1 - Vx xs w) = xs.length + 1 - w := fun w => by
      rw [V_mirrL h, show (xs.length : Int) + 1 - (xs.length + 1 - Vx xs w) = Vx xs w by omega, inv_V h]
    have := len_eq (aft_nd (xs := mirrL xs) (v := xs.length + 1 - Vx xs u)) (aft_nd (xs := xs) (v := u)) (fun j => inv xs (xs.length + 1 - j)) (fun w => xs.length + 1 - Vx xs w) (fun j hj => by
      obtain ⟨w, rfl⟩ : ∃ w, j = xs.length + 1 - Vx xs w := ⟨inv xs (xs.length + 1 - j), by rw [V_inv h]; omega⟩
      have := aft_mem.mp hj
      rw [key, key] at this
      rw [show (xs.length : Int) + 1 - (xs.length + 1 - Vx xs w) = Vx xs w by omega, inv_V h]
      have c1 : u < w := by omega
      have c2 : Vx xs w < Vx xs u := by omega
      exact aft_mem.mpr ⟨c1, V_far h c1 c2, c2⟩) (fun w hw => by
      have m := aft_mem.mp hw
      have b1 := h.V_bd u
      have b2 := h.V_bd w
      refine aft_mem.mpr ⟨by omega, by rw [mirrL_len]; omega, ?_⟩
      rw [key, key]; omega) (fun j => by rw [V_inv h]; omega) (fun w => by
      rw [show (xs.length : Int) + 1 - (xs.length + 1 - Vx xs w) = Vx xs w by omega, inv_V h])
    omega
  omega
theorem knots_turnL (h : Valid xs) (b : Int) : (knotsL (turnL xs b)).length = (knotsL xs).length := by
  have hm := valid_turnL h b
  have e : ((knotsL (turnL xs b)).length : Int) = (knotsL xs).length := by
    rw [knots_sum, knots_sum, turnL_len, ← psum h.pos (σ := fun u => u + b) (fun v k => by have := aft_per hm v k; rw [turnL_len] at this; exact this) (fun u w e => by
      obtain ⟨k, hk⟩ := Int.dvd_of_emod_eq_zero e
      exact ⟨k, by omega⟩)]
    congr 1
    refine List.map_congr_left fun u _ => ?_
    have key : ∀ w, Vx (turnL xs b) (w + b) = Vx xs w + b := fun w => by rw [V_turnL h, show w + b - b = w by omega]
    have := len_eq (aft_nd (xs := turnL xs b) (v := u + b)) (aft_nd (xs := xs) (v := u)) (fun j => j - b) (fun w => w + b) (fun j hj => by
      have m := aft_mem.mp hj
      have k1 := key (j - b)
      have k2 := key u
      rw [show j - b + b = j by omega] at k1
      rw [turnL_len] at m
      exact aft_mem.mpr ⟨by omega, by omega, by omega⟩) (fun w hw => by
      have m := aft_mem.mp hw
      refine aft_mem.mpr ⟨by omega, by rw [turnL_len]; omega, ?_⟩
      rw [key, key]; omega) (fun j => by omega) (fun w => by omega)
    omega
  omega
/-! ### counted from either side -/
def ind (b : Bool) : Int := if b then 1 else 0
theorem filter_ind {α : Type} (p : α → Bool) : ∀ l : List α, ((l.filter p).length : Int) = (l.map fun x => ind (p x)).sum
  | [] => rfl
  | x :: l => by
    have := filter_ind p l
    rw [List.filter_cons, List.map_cons, List.sum_cons]
    cases h : p x
    · simp [ind, this]
    · simp [ind, this]; omega
theorem sum_zero {β : Type} : ∀ m : List β, (m.map fun _ => (0 : Int)).sum = 0
  | [] => rfl
  | b :: m => by rw [List.map_cons, List.sum_cons, sum_zero m]; rfl
theorem sum_swap {α β : Type} (f : α → β → Int) (m : List β) : ∀ l : List α, (l.map fun a => (m.map fun b => f a b).sum).sum = (m.map fun b => (l.map fun a => f a b).sum).sum
  | [] => by
    show (0 : Int) = (m.map fun _ => (0 : Int)).sum
    rw [sum_zero]
  | a :: l => by
    have ih := sum_swap f m l
    rw [List.map_cons, List.sum_cons, ih]
    clear ih
    induction m with
    | nil => rfl
    | cons b m ih => simp at ih ⊢; omega
theorem bef_sum (h : Valid xs) : ((upto xs.length).map fun v => ((bef xs v).length : Int)).sum = ((upto xs.length).map fun v => ((aft xs v).length : Int)).sum := by
  have e1 : ∀ v, ((bef xs v).length : Int) = ((List.range (xs.length - 1)).map fun (k : Nat) => ind (decide (Vx xs v < Vx xs (v - 1 - (k : Nat))))).sum := fun v => by
    unfold bef
    rw [filter_ind, List.map_map]; rfl
  have e2 : ∀ v, ((aft xs v).length : Int) = ((List.range (xs.length - 1)).map fun (k : Nat) => ind (decide (Vx xs (v + 1 + (k : Nat)) < Vx xs v))).sum := fun v => by
    unfold aft
    rw [filter_ind, List.map_map]; rfl
  have s := fun (F : Int → Nat → Int) => sum_swap F (List.range (xs.length - 1)) (upto xs.length)
  rw [List.map_congr_left fun v _ => e1 v, List.map_congr_left fun v _ => e2 v, s, s]
  congr 1
  refine List.map_congr_left fun k _ => ?_
  rw [← psum h.pos (h := fun v => ind (decide (Vx xs v < Vx xs (v - 1 - (k : Nat))))) (σ := fun u => u + 1 + (k : Nat)) (fun v m => by
    rw [Vx_add h.pos, show v + (xs.length : Int) * m - 1 - (k : Nat) = (v - 1 - (k : Nat)) + xs.length * m by omega, Vx_add h.pos]
    congr 1
    exact decide_eq_decide.mpr (by omega)) (fun u w e => by
    obtain ⟨m, hm⟩ := Int.dvd_of_emod_eq_zero e
    exact ⟨m, by omega⟩)]
  congr 1
  refine List.map_congr_left fun u _ => ?_
  rw [show u + 1 + (k : Int) - 1 - (k : Nat) = u by omega]
theorem knots_dualL (h : Valid xs) : (knotsL (dualL xs)).length = (knotsL xs).length := by
  have hm := valid_dualL h
  have e : ((knotsL (dualL xs)).length : Int) = (knotsL xs).length := by
    rw [knots_sum, knots_sum, ← bef_sum h, dualL_len, ← psum h.pos (σ := fun u => Vx xs u) (fun v k => by have := aft_per hm v k; rw [dualL_len] at this; exact this) (fun u w e => h.V_modinj e)]
    congr 1
    refine List.map_congr_left fun w _ => ?_
    have key : ∀ u, Vx (dualL xs) (Vx xs u) = u + xs.length := fun u => by rw [V_dualL h, inv_V h]
    have := len_eq (aft_nd (xs := dualL xs) (v := Vx xs w)) (bef_nd (xs := xs) (v := w)) (fun j => inv xs j) (fun u => Vx xs u) (fun j hj => by
      obtain ⟨u, rfl⟩ : ∃ u, j = Vx xs u := ⟨inv xs j, by rw [V_inv h]⟩
      have m := aft_mem.mp hj
      rw [key, key] at m
      rw [inv_V h]
      have c1 : u < w := by omega
      exact bef_mem.mpr ⟨c1, V_far h c1 (by omega), by omega⟩) (fun u hu => by
      have m := bef_mem.mp hu
      have b1 := h.V_bd u
      have b2 := h.V_bd w
      refine aft_mem.mpr ⟨by omega, by rw [dualL_len]; omega, ?_⟩
      rw [key, key]; omega) (fun j => V_inv h j) (fun u => inv_V h u)
    omega
  omega
theorem size_dualL (h : Valid xs) : size (dualL xs) = size xs := by
  unfold size
  rw [level_dualL h, knots_dualL h, dualL_len, Int.mul_comm]
  congr 2
  omega
theorem size_mirrL (h : Valid xs) : size (mirrL xs) = size xs := by
  unfold size
  rw [level_mirrL h, knots_mirrL h, mirrL_len]
theorem size_turnL (h : Valid xs) (b : Int) : size (turnL xs b) = size xs := by
  unfold size
  rw [level_turnL h, knots_turnL h, turnL_len]
end
end Dl
end
section
set_option maxHeartbeats 4000000
namespace Dl
open PySem PySem.Spec PyProof.Rows L2
section
variable {xs : List Int}
/-! ### the marks -/
def fx (xs : List Int) : List Int := (upto xs.length).filter fun i => decide (Vx xs i = i) || decide (Vx xs i = i + xs.length)
def col (xs : List Int) (i : Int) : Str := if Vx xs i = i then "black" else "white"
def fxP (xs : List Int) : List (Int × Int) := (enumL 1 xs).filter fun q => decide (q.2 = q.1) || decide (q.2 = q.1 + xs.length)
theorem enum_upto : enumL 1 xs = (upto xs.length).map fun i => (i, Vx xs i) := by
  rw [enumL_eq]
  unfold upto
  rw [List.map_map]
  refine List.map_congr_left fun i hi => ?_
  have := Vx_one (List.mem_range.mp hi)
  rw [Int.add_comm] at this
  simp only [Function.comp]
  rw [this]
theorem fxP_eq : fxP xs = (fx xs).map fun i => (i, Vx xs i) := by
  unfold fxP fx
  rw [enum_upto, List.filter_map]
  rfl
theorem fx_nodup : (fx xs).Nodup := List.Pairwise.filter _ (upto_nodup _)
theorem dcD_map {α : Type} {vs : List Nat} {g : D → En → Rs Unit} {fk fv : En → Rs D} {ρ0 : En} {c : α → D} {key : α → Key} {kd val : α → D} : ∀ (l : List α) (ks : List Key) (acc : List D), ks.length + l.length ≤ 1000 → ks.length = acc.length → (ks ++ l.map key).Nodup →
    (∀ x ∈ l, ∃ ρ1, g (c x) ρ0 = .ok () ρ1 ∧ fk ρ1 = .ok (kd x) ρ1 ∧ fv ρ1 = .ok (val x) ρ1 ∧ keyOf (kd x) = some (key x) ∧ okW ρ1 vs = true ∧ wipeR ρ1 vs = ρ0) → dcD vs g fYes fk fv (l.map c) ks acc ρ0 = .ok (ks ++ l.map key, acc ++ l.map val) ρ0
  | [], ks, acc, _, _, _, _ => by simp [dcD]
  | x :: l, ks, acc, hl, he, nd, hs => by
    obtain ⟨ρ1, e1, e2, e3, e4, e5, e6⟩ := hs x List.mem_cons_self
    have hlt : ks.length < sizeLine := sz (by simp at hl; omega)
    have hno : hasK (key x) ks = false := by
      unfold hasK
      rw [List.any_eq_false]
      intro j hj
      simp only [decide_eq_true_eq]
      intro e
      exact (List.nodup_append.mp nd).2.2 j hj (key x) (by simp) e
    have ih := dcD_map (c := c) (key := key) (kd := kd) (val := val) l (ks ++ [key x]) (acc ++ [val x]) (by simp at hl ⊢; omega) (by simp [he]) (by simpa [List.append_assoc] using nd) (fun y hy => hs y (List.mem_cons_of_mem _ hy))
    simp only [List.map_cons, dcD, e1, fYes, e2, e3, e4, hlt, decide_true, e5, Bool.and_self, if_true, pKs, pXs, hno, Bool.false_eq_true, if_false, e6, ih]
    simp [List.append_assoc]
theorem shape_marks {A : En → Rs D} {B C : En → Rs D} {x n z r : D} {ρ2 : En} (hA : A [some (.sh x), none, none, none, none] = .ok n [some (.sh x), none, none, none, none]) (hB : B [some (.sh x), some (.sh n), none, none, none] = .ok z [some (.sh x), some (.sh n), none, none, none])
    (hC : C [some (.sh x), some (.sh n), some (.ow z), none, none] = .ok r ρ2) (h : ∃ a ρ3, ρ2 = a :: ρ3) : bodyL [false] 5 (fSeq (fSet 1 A) (fSeq (fSetL 2 B) (fRetL C))) [x] = .ok r [] := by
  obtain ⟨a, ρ3, rfl⟩ := h
  simp [bodyL, enE, fSeq, fSet, fSetL, fRetL, Rs.bind, hA, setOk, hB, hC, bosD]
theorem in_two {x a b : Int} : opIn (.int x) (.tup [.int a, .int b]) = some (.bl (decide (x = a) || decide (x = b))) := by
  have e : ∀ z : Int, (z == x) = decide (x = z) := fun z => by
    rw [show (z == x) = decide (z = x) from rfl]
    exact decide_eq_decide.mpr eq_comm
  simp [opIn, dIn, D.flat, D.v, inV, eqV, e]
theorem c_marks (h1 : 1 ≤ xs.length) (h2 : xs.length ≤ 8) : F_Order_marks [O xs] = .ok (.dic ((fx xs).map .inl) ((fx xs).map fun i => .str (col xs i))) [] := by
  have e1 : fLc [3, 4] (iEn 1 (fFld "Order" "own_numbers" (fVar 0))) (gT (gsCons (gN 3) (gsCons (gN 4) gsNil)) 2) (fTr (fBin opIn (fVar 4) (fTup (fCons (fVar 3) (fCons (fBin opAdd (fVar 3) (fVar 1)) fNil))))) (fTup (fCons (fVar 3) (fCons (fVar 4) fNil)))
      [some (.sh (O xs)), some (.sh (.int xs.length)), none, none, none] = .ok (.lst ((fxP xs).map pD)) [some (.sh (O xs)), some (.sh (.int xs.length)), none, none, none] := by
    refine fLc_filter (c := pD) (ρ1 := [some (.sh (O xs)), some (.sh (.int xs.length)), none, none, none]) (iEn_T (fld_O rfl)) (by rfl) (by rfl) (by rw [enumL_len]; omega) fun q hq => ?_
    exact step_s [some (.sh (O xs)), some (.sh (.int xs.length)), none, some (.sh (.int q.1)), some (.sh (.int q.2))] rfl (by simp [fTr, fBin, fVar, fTup, fCons, fNil, Rs.bind, opAdd, sz2, in_two]) (fun _ => by simp [fTup, fCons, fNil, fVar, Rs.bind, sz2, pD]) rfl rfl
  have e2 : fDc [3, 4] (iSeq (fVar 2)) (gT (gsCons (gN 3) (gsCons (gN 4) gsNil)) 2) fYes (fVar 3) (fIf (fTr (fBin opEq (fVar 4) (fVar 3))) (fC (.str "black")) (fC (.str "white")))
      [some (.sh (O xs)), some (.sh (.int xs.length)), some (.ow (.lst ((fxP xs).map pD))), none, none] = .ok (.dic ((fx xs).map .inl) ((fx xs).map fun i => .str (col xs i))) [some (.sh (O xs)), some (.sh (.int xs.length)), some (.sh (.lst ((fxP xs).map pD))), none, none] := by
    have e3 := dcD_map (vs := [3, 4]) (g := gT (gsCons (gN 3) (gsCons (gN 4) gsNil)) 2) (fk := fVar 3) (fv := fIf (fTr (fBin opEq (fVar 4) (fVar 3))) (fC (.str "black")) (fC (.str "white"))) (ρ0 := [some (.sh (O xs)), some (.sh (.int xs.length)), some (.sh (.lst ((fxP xs).map pD))), none, none])
      (c := pD) (key := fun q => .inl q.1) (kd := fun q => .int q.1) (val := fun q => .str (if q.2 = q.1 then "black" else "white")) (fxP xs) [] [] (by
        have : (fxP xs).length ≤ xs.length := by unfold fxP; exact Nat.le_trans (List.length_filter_le _ _) (by rw [enumL_len]; exact Nat.le_refl _)
        simp; omega) rfl (by
        rw [List.nil_append, fxP_eq, List.map_map]
        exact nodup_mapI fx_nodup fun i _ j _ e => by simpa using e) (fun q hq => ⟨[some (.sh (O xs)), some (.sh (.int xs.length)), some (.sh (.lst ((fxP xs).map pD))), some (.sh (.int q.1)), some (.sh (.int q.2))], rfl, rfl, by
          by_cases c : q.2 = q.1
          · simp [fIf, fTr, fBin, fVar, Rs.bind, opEq_int, c, fC]
          · simp [fIf, fTr, fBin, fVar, Rs.bind, opEq_int, c, fC], rfl, rfl, rfl⟩)
    unfold fDc
    rw [show iSeq (fVar 2) [some (.sh (O xs)), some (.sh (.int xs.length)), some (.ow (.lst ((fxP xs).map pD))), none, none] = .ok ((fxP xs).map pD) [some (.sh (O xs)), some (.sh (.int xs.length)), some (.sh (.lst ((fxP xs).map pD))), none, none] from rfl]
    simp only [Rs.bind]
    rw [if_pos (by rfl), show wipeR [some (.sh (O xs)), some (.sh (.int xs.length)), some (.sh (.lst ((fxP xs).map pD))), none, none] [3, 4] = [some (.sh (O xs)), some (.sh (.int xs.length)), some (.sh (.lst ((fxP xs).map pD))), none, none] from rfl, e3]
    simp only [dcEnd, List.nil_append]
    rw [fxP_eq, List.map_map, List.map_map]
    rfl
  exact shape_marks (cl1 fld_O1 len_T) e1 e2 ⟨_, _, rfl⟩
/-- the colours of the dual one are the others -/
theorem fx_dualL (h : Valid xs) : fx (dualL xs) = fx xs ∧ ∀ i ∈ fx xs, (col (dualL xs) i = "black" ↔ ¬ col xs i = "black") := by
  have key : ∀ i, (Vx (dualL xs) i = i ↔ Vx xs i = i + xs.length) ∧ (Vx (dualL xs) i = i + xs.length ↔ Vx xs i = i) := fun i => by
    rw [V_dualL h]
    constructor
    · constructor
      · intro e
        have := V_inv h i
        rw [show inv xs i = i + xs.length * (-1) by omega, Vx_add h.pos] at this
        omega
      · intro e
        have := inv_V h i
        rw [e, show i + (xs.length : Int) = i + xs.length * 1 by omega, inv_add h] at this
        omega
    · constructor
      · intro e
        have := V_inv h i
        rw [show inv xs i = i by omega] at this
        exact this
      · intro e
        have := inv_V h i
        rw [e] at this
        omega
  constructor
  · unfold fx
    rw [dualL_len]
    refine List.filter_congr fun i _ => ?_
    rw [decide_eq_decide.mpr (key i).1, decide_eq_decide.mpr (key i).2, Bool.or_comm]
  · intro i hi
    have hp := h.pos
    have m := (List.mem_filter.mp hi).2
    simp only [Bool.or_eq_true, decide_eq_true_eq] at m
    unfold col
    rcases m with e | e
    · have : ¬ Vx (dualL xs) i = i := fun z => by have := (key i).1.mp z; omega
      rw [if_neg this, if_pos e]
      decide
    · have : Vx (dualL xs) i = i := (key i).1.mpr e
      have ne : ¬ Vx xs i = i := by omega
      rw [if_pos this, if_neg ne]
      decide
end
end Dl
end
section
set_option maxHeartbeats 4000000
namespace Dl
open PySem PySem.Spec PyProof.Rows L2
theorem p64 : (2 : Nat) ^ 64 = 18446744073709551616 := by decide
theorem wid_64 {i : Int} (h : i.natAbs ≤ 18446744073709551616) : wid i = true := by
  unfold wid
  refine decide_eq_true (Nat.lt_of_le_of_lt h ?_)
  rw [← p64]
  exact Nat.pow_lt_pow_right (by decide) (by decide)
/-- the dice: c counts the rolls -/
def Dice (m : Nat) (d : D) : Prop := ∃ a b c : Int, d = .lst [.int a, .int b, .int c] ∧ 0 ≤ c ∧ c ≤ m
def rollB (a b c t : Int) : Int × D := if 0 < a then (a % t, .lst [.int (a / t), .int b, .int c]) else
  (((((b + 49979687 * (c + 1)) % 2305843009213693669 * ((b + 49979687 * (c + 1)) % 2305843009213693669) + 89 * (c + 1)) % 2305843009213693907 * 7368791 + (b + 49979687 * (c + 1)) % 2305843009213693669) / 65536) % t, .lst [.int a, .int b, .int (c + 1)])
theorem ixO_at {ρ : En} {i : Nat} {l : List D} {j : Nat} {d : D} (h : cont ρ i = some (.lst l)) (hj : l[j]? = some d) : fIxO i (fC (.int (j : Nat))) ρ = .ok d ρ := by
  have e : atI l (j : Int) = some d := atI_nat hj
  simp [fIxO, h, fC, Rs.bind, e]
theorem sto_at {ρ ρ1 : En} {i : Nat} {l : List D} {j : Nat} {d : D} {f : En → Rs D} (hf : f ρ = .ok d ρ1) (h : owned ρ1 i = some (.lst l)) (hj : j < l.length) : fSto i (fC (.int (j : Nat))) f ρ = .ok .nx (putSl ρ1 i (.lst (l.set j d))) := by
  have e : ixN l.length (j : Int) = some j := by simp [ixN, hj]
  simp [fSto, hf, Rs.bind, h, fC, e]
theorem c_roll_pos {a b c t : Int} (ha : 0 < a) (ht : 0 < t) (h9 : t ≤ 1000) : F__law_roll [.lst [.int a, .int b, .int c], .int t] = .ok (.int (a % t)) [.lst [.int (a / t), .int b, .int c]] := by
  have w := wid_s (i := t) (by omega)
  have g0 : ∀ ρ : En, fIxO 0 (fC (.int 0)) (some (.bo (.lst [.int a, .int b, .int c])) :: ρ) = .ok (.int a) (some (.bo (.lst [.int a, .int b, .int c])) :: ρ) := fun ρ => ixO_at (j := 0) (l := [.int a, .int b, .int c]) rfl rfl
  have s0 := sto_at (i := 0) (j := 0) (l := [.int a, .int b, .int c]) (ρ := [some (.bo (.lst [.int a, .int b, .int c])), some (.sh (.int t)), some (.sh (.int (a % t))), none, none]) (f := fBin opDiv (fIxO 0 (fC (.int 0))) (fVar 1)) (d := .int (a / t)) (bin1 (g0 _) (show fVar 1 _ = .ok (.int t) _ from rfl) (by simp [opDiv, ht, w])) rfl (by simp)
  unfold F__law_roll m__law_roll bodyF
  rw [if_pos (by rfl)]
  simp only [enE, fSeq, fIfS, fTr, List.replicate]
  rw [bin1 (g := opGt) (g0 _) (show fC (.int 0) _ = .ok (.int 0) _ from rfl) (show _ = some (.bl true) by simp [opGt, ha])]
  simp only [Rs.bind, if_true, fSet]
  rw [bin1 (g := opMod) (cl1 (g := gInt) (g0 _) rfl) (show fVar 1 _ = .ok (.int t) _ from rfl) (show _ = some (.int (a % t)) by simp [opMod, ht])]
  simp only [Rs.bind]
  rw [if_pos (by rfl)]
  simp only [List.set]
  rw [show (fSto 0 (fC (.int 0)) (fBin opDiv (fIxO 0 (fC (.int 0))) (fVar 1))) [some (.bo (.lst [.int a, .int b, .int c])), some (.sh (.int t)), some (.sh (.int (a % t))), none, none] = _ from s0]
  rfl
theorem c_roll_neg {a b c t : Int} (ha : ¬ 0 < a) (ht : 0 < t) (hc : 0 ≤ c) (hc2 : c ≤ 100000) : F__law_roll [.lst [.int a, .int b, .int c], .int t] = .ok (.int (rollB a b c t).1) [.lst [.int a, .int b, .int (c + 1)]] := by
  have g0 : ∀ ρ : En, fIxO 0 (fC (.int 0)) (some (.bo (.lst [.int a, .int b, .int c])) :: ρ) = .ok (.int a) (some (.bo (.lst [.int a, .int b, .int c])) :: ρ) := fun ρ => ixO_at (j := 0) (l := [.int a, .int b, .int c]) rfl rfl
  have g2 : ∀ ρ : En, fIxO 0 (fC (.int 2)) (some (.bo (.lst [.int a, .int b, .int c])) :: ρ) = .ok (.int c) (some (.bo (.lst [.int a, .int b, .int c])) :: ρ) := fun ρ => ixO_at (j := 2) (l := [.int a, .int b, .int c]) rfl rfl
  have k1 : ∀ ρ : En, fIxO 0 (fC (.int 1)) (some (.bo (.lst [.int a, .int b, .int (c + 1)])) :: ρ) = .ok (.int b) (some (.bo (.lst [.int a, .int b, .int (c + 1)])) :: ρ) := fun ρ => ixO_at (j := 1) (l := [.int a, .int b, .int (c + 1)]) rfl rfl
  have k2 : ∀ ρ : En, fIxO 0 (fC (.int 2)) (some (.bo (.lst [.int a, .int b, .int (c + 1)])) :: ρ) = .ok (.int (c + 1)) (some (.bo (.lst [.int a, .int b, .int (c + 1)])) :: ρ) := fun ρ => ixO_at (j := 2) (l := [.int a, .int b, .int (c + 1)]) rfl rfl
  have s0 := sto_at (i := 0) (j := 2) (l := [.int a, .int b, .int c]) (ρ := [some (.bo (.lst [.int a, .int b, .int c])), some (.sh (.int t)), none, none, none]) (f := fBin opAdd (fIxO 0 (fC (.int 2))) (fC (.int 1))) (d := .int (c + 1)) (bin1 (g2 _) (show fC (.int 1) _ = .ok (.int 1) _ from rfl) rfl) rfl (by simp)
  have wc := wid_s (i := 89) (by decide)
  have w1 := wid_64 (i := 49979687) (by decide)
  have w2 := wid_64 (i := c + 1) (by omega)
  have w3 := wid_64 (i := 7368791) (by decide)
  have w4 := wid_64 (i := 65536) (by decide)
  generalize ho : (b + 49979687 * (c + 1)) % 2305843009213693669 = o
  have ob : 0 ≤ o ∧ o < 2305843009213693669 := by rw [← ho]; exact ⟨Int.emod_nonneg _ (by decide), Int.emod_lt_of_pos _ (by decide)⟩
  have w5 := wid_64 (i := o) (by omega)
  generalize hq : (o * o + 89 * (c + 1)) % 2305843009213693907 = q
  have qb : 0 ≤ q ∧ q < 2305843009213693907 := by rw [← hq]; exact ⟨Int.emod_nonneg _ (by decide), Int.emod_lt_of_pos _ (by decide)⟩
  have w6 := wid_64 (i := q) (by omega)
  have er : (rollB a b c t).1 = (q * 7368791 + o) / 65536 % t := by
    unfold rollB
    rw [if_neg ha]
    simp only [ho, hq]
  rw [er]
  unfold F__law_roll m__law_roll bodyF
  rw [if_pos (by rfl)]
  simp only [enE, fSeq, fIfS, fTr, List.replicate]
  rw [bin1 (g := opGt) (g0 _) (show fC (.int 0) _ = .ok (.int 0) _ from rfl) (show _ = some (.bl false) by simp [opGt, ha])]
  simp only [Rs.bind, Bool.false_eq_true, if_false, fSkip]
  rw [show (fSto 0 (fC (.int 2)) (fBin opAdd (fIxO 0 (fC (.int 2))) (fC (.int 1)))) [some (.bo (.lst [.int a, .int b, .int c])), some (.sh (.int t)), none, none, none] = .ok .nx [some (.bo (.lst [.int a, .int b, .int (c + 1)])), some (.sh (.int t)), none, none, none] from s0]
  simp only [fSet]
  rw [bin1 (g := opMod) (cl1 (g := gInt) (bin1 (g := opAdd) (k1 _) (bin1 (g := opMul) (show fC (.int 49979687) _ = .ok (.int 49979687) _ from rfl) (k2 _) (show _ = some (.int (49979687 * (c + 1))) by simp [opMul, w1, w2])) rfl) rfl) (show fC (.int 2305843009213693669) _ = .ok (.int 2305843009213693669) _ from rfl) (show _ = some (.int o) by simp [opMod, ho])]
  simp only [Rs.bind]
  rw [if_pos (by rfl)]
  simp only [List.set]
  rw [bin1 (g := opAdd) (bin1 (g := opMul) (bin1 (g := opMod) (cl1 (g := gInt) (bin1 (g := opAdd) (bin1 (g := opMul) (show fVar 3 [some (.bo (.lst [.int a, .int b, .int (c + 1)])), some (.sh (.int t)), none, some (.sh (.int o)), none] = .ok (.int o) _ from rfl) (show fVar 3 _ = .ok (.int o) _ from rfl) (show _ = some (.int (o * o)) by simp [opMul, w5])) (bin1 (g := opMul) (show fC (.int 89) _ = .ok (.int 89) _ from rfl) (k2 _) (show _ = some (.int (89 * (c + 1))) by simp [opMul, wc, w2])) rfl) rfl) (show fC (.int 2305843009213693907) _ = .ok (.int 2305843009213693907) _ from rfl) (show _ = some (.int q) by simp [opMod, hq])) (show fC (.int 7368791) _ = .ok (.int 7368791) _ from rfl) (show _ = some (.int (q * 7368791)) by simp [opMul, w6, w3])) (show fVar 3 _ = .ok (.int o) _ from rfl) rfl]
  simp only [Rs.bind]
  rw [if_pos (by rfl)]
  simp only [List.set, fRet]
  rw [bin1 (g := opMod) (cl1 (g := gInt) (bin1 (g := opDiv) (show fVar 4 _ = .ok (.int (q * 7368791 + o)) _ from rfl) (show fC (.int 65536) _ = .ok (.int 65536) _ from rfl) (show _ = some (.int ((q * 7368791 + o) / 65536)) by simp [opDiv, w4])) rfl) (show fVar 1 _ = .ok (.int t) _ from rfl) (show _ = some (.int ((q * 7368791 + o) / 65536 % t)) by simp [opMod, ht])]
  rfl
theorem c_roll {m : Nat} {d : D} {t : Int} (hd : Dice m d) (hm : m ≤ 100000) (ht : 0 < t) (h9 : t ≤ 1000) : ∃ r d', F__law_roll [d, .int t] = .ok (.int r) [d'] ∧ 0 ≤ r ∧ r < t ∧ Dice (m + 1) d' := by
  obtain ⟨a, b, c, rfl, h1, h2⟩ := hd
  by_cases ha : 0 < a
  · exact ⟨_, _, c_roll_pos ha ht h9, Int.emod_nonneg _ (by omega), Int.emod_lt_of_pos _ ht, a / t, b, c, rfl, h1, by push_cast; omega⟩
  · refine ⟨_, _, c_roll_neg ha ht h1 (by omega), ?_, ?_, a, b, c + 1, rfl, by omega, by push_cast; omega⟩
    · unfold rollB; rw [if_neg ha]; exact Int.emod_nonneg _ (by omega)
    · unfold rollB; rw [if_neg ha]; exact Int.emod_lt_of_pos _ ht
end Dl
end
section
set_option maxHeartbeats 4000000
namespace Dl
open PySem PySem.Spec PyProof.Rows L2
theorem fnB {F : List D → Fr} {f : En → Rs D} {r0 : En} {d e r d' : D} (h : f (some (.bo d) :: r0) = .ok e (some (.bo d) :: r0)) (hF : F [d, e] = .ok r [d']) : fFn [some 0, none] F (fLent 0 (fCons f fNil)) (some (.bo d) :: r0) = .ok r (some (.bo d') :: r0) := by
  simp [fFn, fLent, owned, fCons, fNil, h, Rs.bind, mixD, hF, putB, putSl]
theorem seqIx {j : Int} {n : Nat} (h0 : 0 ≤ j) (h1 : j < n) : seqIndex? j n = some j.toNat := by
  have e : ¬ j < 0 := by omega
  simp [seqIndex?, e, h0, h1]
theorem p63 : (2 : Int) ^ 63 = 9223372036854775808 := by decide
theorem pop_at {f : En → Rs D} {ρ ρ1 : En} {i : Nat} {l0 l : List D} {j : Int} {x : D} (h0 : owned ρ i = some (.lst l0)) (hf : f ρ = .ok (.int j) ρ1) (h1 : owned ρ1 i = some (.lst l)) (hj : 0 ≤ j) (hl : j < l.length) (h8 : l.length ≤ 1000) (hx : l[j.toNat]? = some x) :
    fPopAt i f ρ = .ok x (putSl ρ1 i (.lst (l.eraseIdx j.toNat))) := by
  unfold fPopAt
  rw [h0]
  dsimp only
  rw [hf]
  dsimp only [Rs.bind]
  rw [h1]
  dsimp only
  rw [seqIx hj hl]
  dsimp only
  rw [hx]
  dsimp only
  rw [p63, if_pos (by omega)]
theorem app_at {f : En → Rs D} {ρ ρ1 : En} {i : Nat} {l0 l : List D} {x : D} (h0 : owned ρ i = some (.lst l0)) (hf : f ρ = .ok x ρ1) (h1 : owned ρ1 i = some (.lst l)) (h8 : l.length ≤ 1000) : fApp i f ρ = .ok .non (putSl ρ1 i (.lst (l ++ [x]))) := by
  unfold fApp
  rw [h0]
  dsimp only
  rw [hf]
  dsimp only [Rs.bind]
  rw [h1]
  dsimp only
  rw [if_pos (sz h8)]
theorem eraseIdx_mapI (f : Int → D) : ∀ (l : List Int) (r : Nat), (l.map f).eraseIdx r = (l.eraseIdx r).map f
  | [], _ => by simp
  | x :: l, 0 => rfl
  | x :: l, r + 1 => by
    show f x :: (l.map f).eraseIdx r = f x :: (l.eraseIdx r).map f
    rw [eraseIdx_mapI f l r]
theorem mix_step {L Fd : List Int} {d : D} {it s : Option Sl} {m : Nat} (hL : 0 < L.length) (h8 : L.length + Fd.length ≤ 8) (hd : Dice m d) (hm : m ≤ 100000) : ∃ (r : Nat) (d' : D), r < L.length ∧ Dice (m + 1) d' ∧
    fExp (fApp 3 (fPopAt 2 (fFn [some 0, none] F__law_roll (fLent 0 (fCons (fLenO 2) fNil))))) [some (.bo d), it, some (.ow (.lst (L.map .int))), some (.ow (.lst (Fd.map .int))), s] =
      .ok .nx [some (.bo d'), it, some (.ow (.lst ((L.eraseIdx r).map .int))), some (.ow (.lst ((Fd ++ [L.getD r 0]).map .int))), s] := by
  obtain ⟨r, d', e, r0, r1, hd'⟩ := c_roll hd hm (t := L.length) (by omega) (by omega)
  have hr : r.toNat < L.length := by omega
  refine ⟨r.toNat, d', hr, hd', ?_⟩
  have e1 : fFn [some 0, none] F__law_roll (fLent 0 (fCons (fLenO 2) fNil)) [some (.bo d), it, some (.ow (.lst (L.map .int))), some (.ow (.lst (Fd.map .int))), s] = .ok (.int r) [some (.bo d'), it, some (.ow (.lst (L.map .int))), some (.ow (.lst (Fd.map .int))), s] :=
    fnB (by simp [fLenO, cont]) e
  have hx : (L.map D.int)[r.toNat]? = some (.int (L.getD r.toNat 0)) := by rw [List.getElem?_map, getD_at hr]; rfl
  have e2 := pop_at (i := 2) (l0 := L.map .int) rfl e1 (show owned _ 2 = some (.lst (L.map .int)) from rfl) r0 (by rw [List.length_map]; exact r1) (by rw [List.length_map]; omega) hx
  have e3 := app_at (i := 3) (l0 := Fd.map .int) rfl e2 (show owned _ 3 = some (.lst (Fd.map .int)) from rfl) (by rw [List.length_map]; omega)
  unfold fExp
  rw [e3]
  have q : (L.map D.int).eraseIdx r.toNat = (L.eraseIdx r.toNat).map .int := eraseIdx_mapI _ _ _
  simp only [Rs.bind, q]
  rw [List.map_append]
  rfl
theorem erase_perm : ∀ {L : List Int} {r : Nat}, r < L.length → (L.getD r 0 :: L.eraseIdx r).Perm L
  | x :: L, 0, _ => List.Perm.refl _
  | x :: L, r + 1, h => by
    have ih := erase_perm (L := L) (r := r) (by simpa using h)
    show (L.getD r 0 :: x :: L.eraseIdx r).Perm (x :: L)
    exact (List.Perm.swap _ _ _).trans (List.Perm.cons x ih)
theorem mix_loop {it : Option Sl} : ∀ (es : List D) (L Fd : List Int) (d : D) (m : Nat) (s : Option Sl), es.length = L.length → L.length + Fd.length ≤ 8 → Dice m d → m + L.length ≤ 100000 → (s = none ∨ ∃ z, s = some (Sl.sh z)) →
    ∃ (l' : List Int) (d' : D) (s' : Option Sl), forD (gN 4) (fExp (fApp 3 (fPopAt 2 (fFn [some 0, none] F__law_roll (fLent 0 (fCons (fLenO 2) fNil)))))) es [some (.bo d), it, some (.ow (.lst (L.map .int))), some (.ow (.lst (Fd.map .int))), s] =
      .ok .nx [some (.bo d'), it, some (.ow (.lst [])), some (.ow (.lst (l'.map .int))), s'] ∧ l'.Perm (Fd ++ L) ∧ Dice (m + L.length) d'
  | [], L, Fd, d, m, s, hl, h8, hd, hm, hs => by
    have : L = [] := List.length_eq_zero_iff.mp hl.symm
    subst this
    exact ⟨Fd, d, s, rfl, by simp, by simpa using hd⟩
  | e :: es, L, Fd, d, m, s, hl, h8, hd, hm, hs => by
    have hL : 0 < L.length := by rw [← hl]; simp
    obtain ⟨r, d1, hr, hd1, e1⟩ := mix_step (it := it) (s := some (.sh e)) hL h8 hd (by omega)
    have hle : (L.eraseIdx r).length = L.length - 1 := by rw [List.length_eraseIdx]; simp [hr]
    obtain ⟨l', d', s', e2, p, hd'⟩ := mix_loop (it := it) es (L.eraseIdx r) (Fd ++ [L.getD r 0]) d1 (m + 1) (some (.sh e)) (by rw [hle, ← hl]; simp) (by rw [hle]; simp; omega) hd1 (by rw [hle]; omega) (.inr ⟨e, rfl⟩)
    refine ⟨l', d', s', ?_, p.trans ?_, by rw [hle] at hd'; rw [show m + L.length = m + 1 + (L.length - 1) by omega]; exact hd'⟩
    · have hg : gN 4 e [some (.bo d), it, some (.ow (.lst (L.map .int))), some (.ow (.lst (Fd.map .int))), s] = .ok () [some (.bo d), it, some (.ow (.lst (L.map .int))), some (.ow (.lst (Fd.map .int))), some (.sh e)] := by
        rcases hs with rfl | ⟨z, rfl⟩ <;> rfl
      simp only [forD, hg, e1, Rs.bind, e2]
    · rw [List.append_assoc]
      exact List.Perm.append_left _ (erase_perm hr)
end Dl
end
section
set_option maxHeartbeats 4000000
namespace Dl
open PySem PySem.Spec PyProof.Rows L2
theorem shape_mixed {A fb : En → Rs Fl} {C : En → Rs (List D)} {x y z : D} {x' : D} {l0 : D} {es : List D} {s' : Option Sl} (hA : A [some (.bo x), some (.sh y), none, none, none] = .ok .nx [some (.bo x), some (.sh y), some (.ow l0), some (.ow (.lst [])), none])
    (hC : C [some (.bo x), some (.sh y), some (.ow l0), some (.ow (.lst [])), none] = .ok es [some (.bo x), some (.sh y), some (.ow l0), some (.ow (.lst [])), none]) (hf : forD (gN 4) fb es [some (.bo x), some (.sh y), some (.ow l0), some (.ow (.lst [])), none] = .ok .nx [some (.bo x'), some (.sh y), some (.ow (.lst [])), some (.ow z), s']) :
    bodyF [true, false] 5 (fSeq A (fSeq (fFor C (gN 4) fb) (fRet (fVar 3)))) [x, y] = .ok z [x'] := by
  simp [bodyF, enE, fSeq, fFor, hA, Rs.bind, hC, hf, fRet, fVar, bosD]
theorem c_mixed {l : List Int} {d : D} {m : Nat} (h8 : l.length ≤ 8) (hd : Dice m d) (hm : m + l.length ≤ 100000) : ∃ (l' : List Int) (d' : D), F__law_mixed [d, .lst (l.map .int)] = .ok (.lst (l'.map .int)) [d'] ∧ l'.Perm l ∧ Dice (m + l.length) d' := by
  obtain ⟨l', d', s', e, p, hd'⟩ := mix_loop (it := some (.sh (.lst (l.map .int)))) ((List.range l.length).map fun (k : Nat) => D.int (k : Nat)) l [] d m none (by simp) (by simpa using h8) hd hm (.inl rfl)
  refine ⟨l', d', ?_, by simpa using p, hd'⟩
  have e1 : fParL 2 3 (fCall gList (fCons (fVar 1) fNil)) (fLst fNil) [some (.bo d), some (.sh (.lst (l.map .int))), none, none, none] = .ok .nx [some (.bo d), some (.sh (.lst (l.map .int))), some (.ow (.lst (l.map .int))), some (.ow (.lst [])), none] := by
    unfold fParL
    rw [cl1 (g := gList) (show fVar 1 _ = .ok (.lst (l.map .int)) _ from rfl) rfl]
    simp [Rs.bind, fLst, fNil, setOk]
  have e2 : iRg1 (fCall gLen (fCons (fVar 1) fNil)) [some (.bo d), some (.sh (.lst (l.map .int))), some (.ow (.lst (l.map .int))), some (.ow (.lst [])), none] = .ok ((List.range l.length).map fun (k : Nat) => D.int (k : Nat)) [some (.bo d), some (.sh (.lst (l.map .int))), some (.ow (.lst (l.map .int))), some (.ow (.lst [])), none] := by
    have := iRg1_ok (cl1 (g := gLen) (show fVar 1 [some (.bo d), some (.sh (.lst (l.map .int))), some (.ow (.lst (l.map .int))), some (.ow (.lst [])), none] = .ok (.lst (l.map .int)) _ from rfl) (by simp [gLen] : gLen [.lst (l.map D.int)] = some (.int l.length))) (by omega)
    rw [this, Int.toNat_natCast]
  exact shape_mixed e1 e2 e
end Dl
end
section
set_option maxHeartbeats 4000000
namespace Dl
open PySem PySem.Spec PyProof.Rows L2
/-- what the drawn order has at a place -/
def DrawAt (l : List Int) (n : Nat) (k : Nat) (y : Int) : Prop := (y = l.getD k 0 ∧ (k : Int) + 1 ≤ l.getD k 0) ∨ (y = l.getD k 0 + n ∧ l.getD k 0 ≤ (k : Int) + 1)
theorem dice_mono {m k : Nat} {d : D} (h : Dice m d) (e : m ≤ k) : Dice k d := by
  obtain ⟨a, b, c, r, h1, h2⟩ := h
  exact ⟨a, b, c, r, h1, by omega⟩
abbrev ordBody : En → Rs Fl := fSeq (fSet 5 (fBin opIx (fVar 2) (fVar 4)))
  (fSeq (fSet 6 (fOr (fBin opLt (fVar 5) (fBin opAdd (fVar 4) (fC (.int 1)))) (fAnd (fBin opEq (fVar 5) (fBin opAdd (fVar 4) (fC (.int 1)))) (fBin opEq (fFn [some 0, none] F__law_roll (fLent 0 (fCons (fC (.int 2)) fNil))) (fC (.int 0))))))
  (fExp (fApp 3 (fBin opAdd (fVar 5) (fBin opMul (fVar 1) (fCall gInt (fCons (fVar 6) fNil)))))))
abbrev fallsE : En → Rs D := fOr (fBin opLt (fVar 5) (fBin opAdd (fVar 4) (fC (.int 1)))) (fAnd (fBin opEq (fVar 5) (fBin opAdd (fVar 4) (fC (.int 1)))) (fBin opEq (fFn [some 0, none] F__law_roll (fLent 0 (fCons (fC (.int 2)) fNil))) (fC (.int 0))))
theorem shape_ord {d d' im : D} {n : D} {p fl y : D} {Fd : List D} {k : D} {A B C : En → Rs D} {s5 s6 : Option Sl} (h5 : s5 = none ∨ ∃ z, s5 = some (Sl.sh z)) (h6 : s6 = none ∨ ∃ z, s6 = some (Sl.sh z))
    (hA : A [some (.bo d), some (.sh n), some (.sh im), some (.ow (.lst Fd)), some (.sh k), s5, s6] = .ok p [some (.bo d), some (.sh n), some (.sh im), some (.ow (.lst Fd)), some (.sh k), s5, s6])
    (hB : B [some (.bo d), some (.sh n), some (.sh im), some (.ow (.lst Fd)), some (.sh k), some (.sh p), s6] = .ok fl [some (.bo d'), some (.sh n), some (.sh im), some (.ow (.lst Fd)), some (.sh k), some (.sh p), s6])
    (hC : C [some (.bo d'), some (.sh n), some (.sh im), some (.ow (.lst Fd)), some (.sh k), some (.sh p), some (.sh fl)] = .ok y [some (.bo d'), some (.sh n), some (.sh im), some (.ow (.lst Fd)), some (.sh k), some (.sh p), some (.sh fl)]) (hl : Fd.length ≤ 1000) :
    fSeq (fSet 5 A) (fSeq (fSet 6 B) (fExp (fApp 3 C))) [some (.bo d), some (.sh n), some (.sh im), some (.ow (.lst Fd)), some (.sh k), s5, s6] = .ok .nx [some (.bo d'), some (.sh n), some (.sh im), some (.ow (.lst (Fd ++ [y]))), some (.sh k), some (.sh p), some (.sh fl)] := by
  have e := app_at (i := 3) (l0 := Fd) rfl hC (show owned _ 3 = some (.lst Fd) from rfl) hl
  rcases h5 with rfl | ⟨z, rfl⟩ <;> rcases h6 with rfl | ⟨z2, rfl⟩ <;>
    (unfold fSeq fSet fExp; rw [hA]; simp only [Rs.bind]; rw [if_pos (by rfl)]; simp only [List.set]; rw [hB]; simp only; rw [if_pos (by rfl)]; simp only [List.set]; rw [e]; rfl)
theorem ord_step {l Fd : List Int} {d : D} {n k m : Nat} {s5 s6 : Option Sl} (hk : k < l.length) (hn : n ≤ 8) (h8 : Fd.length ≤ 8) (hd : Dice m d) (hm : m ≤ 100000) (h5 : s5 = none ∨ ∃ z, s5 = some (Sl.sh z)) (h6 : s6 = none ∨ ∃ z, s6 = some (Sl.sh z)) :
    ∃ (y : Int) (d' : D) (z5 z6 : D), DrawAt l n k y ∧ Dice (m + 1) d' ∧ ordBody [some (.bo d), some (.sh (.int n)), some (.sh (.lst (l.map .int))), some (.ow (.lst (Fd.map .int))), some (.sh (.int (k : Nat))), s5, s6] =
      .ok .nx [some (.bo d'), some (.sh (.int n)), some (.sh (.lst (l.map .int))), some (.ow (.lst ((Fd ++ [y]).map .int))), some (.sh (.int (k : Nat))), some (.sh z5), some (.sh z6)] := by
  have hx : opIx (.lst (l.map .int)) (.int (k : Nat)) = some (.int (l.getD k 0)) := atI_nat (xs := l.map D.int) (by rw [List.getElem?_map, getD_at hk]; rfl)
  have wn := wid_s (i := n) (by omega)
  have w0 := wid_s (i := 0) (by decide)
  have w1 := wid_s (i := 1) (by decide)
  generalize hp : l.getD k 0 = p at hx
  have hA : ∀ (a b s5 s6 : Option Sl), fBin opIx (fVar 2) (fVar 4) [a, b, some (.sh (.lst (l.map .int))), some (.ow (.lst (Fd.map .int))), some (.sh (.int (k : Nat))), s5, s6] = .ok (.int p) [a, b, some (.sh (.lst (l.map .int))), some (.ow (.lst (Fd.map .int))), some (.sh (.int (k : Nat))), s5, s6] := fun a b s5 s6 => bin1 rfl rfl hx
  have fin : ∀ (b : Bool) (d' : D), fBin opAdd (fVar 5) (fBin opMul (fVar 1) (fCall gInt (fCons (fVar 6) fNil))) [some (.bo d'), some (.sh (.int n)), some (.sh (.lst (l.map .int))), some (.ow (.lst (Fd.map .int))), some (.sh (.int (k : Nat))), some (.sh (.int p)), some (.sh (.bl b))] =
      .ok (.int (p + n * (if b then 1 else 0))) [some (.bo d'), some (.sh (.int n)), some (.sh (.lst (l.map .int))), some (.ow (.lst (Fd.map .int))), some (.sh (.int (k : Nat))), some (.sh (.int p)), some (.sh (.bl b))] := fun b d' => by
    refine bin1 rfl (bin1 rfl (cl1 (d := .bl b) rfl rfl) (r := .int (n * (if b then 1 else 0))) ?_) rfl
    cases b <;> simp [opMul, wn, w0, w1]
  by_cases c1 : p < (k : Int) + 1
  · refine ⟨p + n, d, .int p, .bl true, .inr ⟨by rw [hp], by rw [hp]; omega⟩, dice_mono hd (by omega), ?_⟩
    have hB : ∀ s6, fallsE [some (.bo d), some (.sh (.int n)), some (.sh (.lst (l.map .int))), some (.ow (.lst (Fd.map .int))), some (.sh (.int (k : Nat))), some (.sh (.int p)), s6] = .ok (.bl true) [some (.bo d), some (.sh (.int n)), some (.sh (.lst (l.map .int))), some (.ow (.lst (Fd.map .int))), some (.sh (.int (k : Nat))), some (.sh (.int p)), s6] := fun s6 => by
      simp [fallsE, fOr, fTr, fBin, fVar, fC, Rs.bind, opAdd, opLt, c1]
    have := shape_ord h5 h6 (hA _ _ s5 s6) (hB s6) (fin true d) (by rw [List.length_map]; omega)
    rw [List.map_append, show p + (n : Int) = p + n * (if (true : Bool) = true then 1 else 0) by simp]
    exact this
  · by_cases c2 : p = (k : Int) + 1
    · obtain ⟨r, d', e, r0, r1, hd'⟩ := c_roll hd hm (t := 2) (by decide) (by decide)
      have hB : ∀ s6, fOr (fBin opLt (fVar 5) (fBin opAdd (fVar 4) (fC (.int 1)))) (fAnd (fBin opEq (fVar 5) (fBin opAdd (fVar 4) (fC (.int 1)))) (fBin opEq (fFn [some 0, none] F__law_roll (fLent 0 (fCons (fC (.int 2)) fNil))) (fC (.int 0)))) [some (.bo d), some (.sh (.int n)), some (.sh (.lst (l.map .int))), some (.ow (.lst (Fd.map .int))), some (.sh (.int (k : Nat))), some (.sh (.int p)), s6] =
          .ok (.bl (decide (r = 0))) [some (.bo d'), some (.sh (.int n)), some (.sh (.lst (l.map .int))), some (.ow (.lst (Fd.map .int))), some (.sh (.int (k : Nat))), some (.sh (.int p)), s6] := fun s6 => by
        have e2 := bin1 (g := opEq) (fnB (f := fC (.int 2)) (r0 := [some (.sh (.int n)), some (.sh (.lst (l.map .int))), some (.ow (.lst (Fd.map .int))), some (.sh (.int (k : Nat))), some (.sh (.int p)), s6]) rfl e) (show fC (.int 0) _ = .ok (.int 0) _ from rfl) opEq_int
        have e3 : fTr (fBin opLt (fVar 5) (fBin opAdd (fVar 4) (fC (.int 1)))) [some (.bo d), some (.sh (.int n)), some (.sh (.lst (l.map .int))), some (.ow (.lst (Fd.map .int))), some (.sh (.int (k : Nat))), some (.sh (.int p)), s6] = .ok false [some (.bo d), some (.sh (.int n)), some (.sh (.lst (l.map .int))), some (.ow (.lst (Fd.map .int))), some (.sh (.int (k : Nat))), some (.sh (.int p)), s6] := by
          simp [fTr, fBin, fVar, fC, Rs.bind, opAdd, opLt, c1]
        have e4 : fTr (fBin opEq (fVar 5) (fBin opAdd (fVar 4) (fC (.int 1)))) [some (.bo d), some (.sh (.int n)), some (.sh (.lst (l.map .int))), some (.ow (.lst (Fd.map .int))), some (.sh (.int (k : Nat))), some (.sh (.int p)), s6] = .ok true [some (.bo d), some (.sh (.int n)), some (.sh (.lst (l.map .int))), some (.ow (.lst (Fd.map .int))), some (.sh (.int (k : Nat))), some (.sh (.int p)), s6] := by
          simp [fTr, fBin, fVar, fC, Rs.bind, opAdd, opEq_int, c2]
        unfold fOr fAnd
        rw [e3]
        simp only [Rs.bind, Bool.false_eq_true, if_false]
        rw [e4]
        simp only [if_true]
        exact e2
      have := shape_ord h5 h6 (hA _ _ s5 s6) (hB s6) (fin (decide (r = 0)) d') (by rw [List.length_map]; omega)
      refine ⟨p + n * (if decide (r = 0) then 1 else 0), d', .int p, .bl (decide (r = 0)), ?_, hd', ?_⟩
      · by_cases z : r = 0
        · right; rw [hp]; simp [z]; omega
        · left; rw [hp]; simp [z]; omega
      · rw [List.map_append]
        exact this
    · refine ⟨p, d, .int p, .bl false, .inl ⟨by rw [hp], by rw [hp]; omega⟩, dice_mono hd (by omega), ?_⟩
      have hB : ∀ s6, fallsE [some (.bo d), some (.sh (.int n)), some (.sh (.lst (l.map .int))), some (.ow (.lst (Fd.map .int))), some (.sh (.int (k : Nat))), some (.sh (.int p)), s6] = .ok (.bl false) [some (.bo d), some (.sh (.int n)), some (.sh (.lst (l.map .int))), some (.ow (.lst (Fd.map .int))), some (.sh (.int (k : Nat))), some (.sh (.int p)), s6] := fun s6 => by
        simp [fallsE, fOr, fAnd, fTr, fBin, fVar, fC, Rs.bind, opAdd, opLt, c1, opEq_int, c2]
      have := shape_ord h5 h6 (hA _ _ s5 s6) (hB s6) (fin false d) (by rw [List.length_map]; omega)
      rw [show p + (n : Int) * (if (false : Bool) = true then 1 else 0) = p by simp] at this
      rw [List.map_append]
      exact this
end Dl
end
section
set_option maxHeartbeats 4000000
namespace Dl
open PySem PySem.Spec PyProof.Rows L2
theorem ord_loop {l : List Int} {n : Nat} (hn : n ≤ 8) : ∀ (ks : List Nat) (Fd : List Int) (d : D) (m : Nat) (s4 s5 s6 : Option Sl), (∀ k ∈ ks, k < l.length) → ks.length + Fd.length ≤ 8 → Dice m d → m + ks.length ≤ 100000 →
    (s4 = none ∨ ∃ z, s4 = some (Sl.sh z)) → (s5 = none ∨ ∃ z, s5 = some (Sl.sh z)) → (s6 = none ∨ ∃ z, s6 = some (Sl.sh z)) →
    ∃ (ys : List Int) (d' : D) (t4 t5 t6 : Option Sl), forD (gN 4) ordBody (ks.map fun (k : Nat) => D.int (k : Nat)) [some (.bo d), some (.sh (.int n)), some (.sh (.lst (l.map .int))), some (.ow (.lst (Fd.map .int))), s4, s5, s6] =
      .ok .nx [some (.bo d'), some (.sh (.int n)), some (.sh (.lst (l.map .int))), some (.ow (.lst ((Fd ++ ys).map .int))), t4, t5, t6] ∧ A2 (DrawAt l n) ks ys ∧ Dice (m + ks.length) d'
  | [], Fd, d, m, s4, s5, s6, _, _, hd, _, _, _, _ => ⟨[], d, s4, s5, s6, by simp [forD], trivial, hd⟩
  | k :: ks, Fd, d, m, s4, s5, s6, hk, h8, hd, hm, h4, h5, h6 => by
    simp only [List.length_cons] at h8 hm
    obtain ⟨y, d1, z5, z6, hy, hd1, e1⟩ := ord_step (hk k List.mem_cons_self) hn (Fd := Fd) (by omega) hd (by omega) h5 h6
    obtain ⟨ys, d', t4, t5, t6, e2, p, hd'⟩ := ord_loop hn ks (Fd ++ [y]) d1 (m + 1) (some (.sh (.int (k : Nat)))) (some (.sh z5)) (some (.sh z6)) (fun j hj => hk j (List.mem_cons_of_mem _ hj)) (by simp; omega) hd1 (by omega) (.inr ⟨_, rfl⟩) (.inr ⟨_, rfl⟩) (.inr ⟨_, rfl⟩)
    refine ⟨y :: ys, d', t4, t5, t6, ?_, ⟨hy, p⟩, by rw [show m + (k :: ks).length = m + 1 + ks.length by simp; omega]; exact hd'⟩
    have hg : gN 4 (.int (k : Nat)) [some (.bo d), some (.sh (.int n)), some (.sh (.lst (l.map .int))), some (.ow (.lst (Fd.map .int))), s4, s5, s6] = .ok () [some (.bo d), some (.sh (.int n)), some (.sh (.lst (l.map .int))), some (.ow (.lst (Fd.map .int))), some (.sh (.int (k : Nat))), s5, s6] := by
      rcases h4 with rfl | ⟨z, rfl⟩ <;> rfl
    rw [List.map_cons]
    unfold forD
    rw [hg]
    dsimp only
    rw [e1]
    simp only [Rs.bind]
    rw [e2, List.append_assoc]
    rfl
theorem A2.get {α β : Type} {R : α → β → Prop} : ∀ {as : List α} {bs : List β}, A2 R as bs → ∀ (i : Nat) (a : α), as[i]? = some a → ∃ b, bs[i]? = some b ∧ R a b
  | [], [], _, i, a, h => by simp at h
  | a :: as, b :: bs, h, 0, x, e => by simp at e; subst e; exact ⟨b, rfl, h.1⟩
  | a :: as, b :: bs, h, i + 1, x, e => by simpa using A2.get h.2 i x (by simpa using e)
  | [], _ :: _, h, _, _, _ => h.elim
  | _ :: _, [], h, _, _, _ => h.elim
theorem draw_valid {l ys : List Int} {n : Nat} (h1 : 1 ≤ n) (h8 : n ≤ 8) (hp : l.Perm (upto n)) (h : A2 (DrawAt l n) (List.range n) ys) : Valid ys := by
  have hl : ys.length = n := by rw [← h.len, List.length_range]
  have hll : l.length = n := by rw [hp.length_eq, upto_len]
  have at_ : ∀ i, i < n → DrawAt l n i (ys.getD i 0) := fun i hi => by
    obtain ⟨b, hb, r⟩ := h.get i i (by rw [List.getElem?_range hi])
    rw [getD_at (by omega)] at hb
    cases hb
    exact r
  have inr : ∀ i, i < n → 1 ≤ l.getD i 0 ∧ l.getD i 0 ≤ n := fun i hi => by
    have hm : l.getD i 0 ∈ l := List.mem_of_getElem? (getD_at (by omega))
    exact upto_mem.mp (hp.mem_iff.mp hm)
  have rst : ∀ i, i < n → rest n (ys.getD i 0) = l.getD i 0 := fun i hi => by
    have a := inr i hi
    have base : rest n (l.getD i 0) = l.getD i 0 := by
      unfold rest
      rw [Int.emod_eq_of_lt (by omega) (by omega)]; omega
    rcases at_ i hi with ⟨e, _⟩ | ⟨e, _⟩
    · rw [e, base]
    · rw [e, show l.getD i 0 + (n : Int) = l.getD i 0 + n * 1 by omega, rest_add, base]
  refine ⟨by omega, fun i x hx => ?_, ?_⟩
  · have hi := (List.getElem?_eq_some_iff.mp hx).1
    rw [getD_at hi] at hx
    cases hx
    have a := inr i (by omega)
    rw [hl]
    rcases at_ i (by omega) with ⟨e, c⟩ | ⟨e, c⟩ <;> rw [e] <;> omega
  · rw [hl]
    have e : ys.map (rest n) = l := by
      refine List.ext_getElem? fun i => ?_
      rw [List.getElem?_map]
      by_cases hi : i < n
      · rw [getD_at (by omega), getD_at (by omega)]
        simp only [Option.map]
        rw [rst i hi]
      · rw [List.getElem?_eq_none (by omega), List.getElem?_eq_none (by omega)]
        rfl
    rw [e]
    exact hp.nodup_iff.mpr (upto_nodup n)
theorem shape_order {A : En → Rs D} {C : En → Rs (List D)} {fb : En → Rs Fl} {x x1 x2 y im : D} {es : List D} {zs : List D} {t4 t5 t6 : Option Sl} (hA : A [some (.bo x), some (.sh y), none, none, none, none, none] = .ok im [some (.bo x1), some (.sh y), none, none, none, none, none])
    (hC : C [some (.bo x1), some (.sh y), some (.sh im), some (.ow (.lst [])), none, none, none] = .ok es [some (.bo x1), some (.sh y), some (.sh im), some (.ow (.lst [])), none, none, none])
    (hf : forD (gN 4) fb es [some (.bo x1), some (.sh y), some (.sh im), some (.ow (.lst [])), none, none, none] = .ok .nx [some (.bo x2), some (.sh y), some (.sh im), some (.ow (.lst zs)), t4, t5, t6]) :
    bodyF [true, false] 7 (fSeq (fSet 2 A) (fSeq (fSetL 3 (fLst fNil)) (fSeq (fFor C (gN 4) fb) (fRet (fCall gTuple (fCons (fVar 3) fNil)))))) [x, y] = .ok (.tup zs) [x2] := by
  simp [bodyF, enE, fSeq, fSet, fSetL, fLst, fNil, setOk, fFor, hA, Rs.bind, hC, hf, fRet, fCall, fCons, fVar, gTuple, bosD]
theorem c_order {d : D} {m n : Nat} (h1 : 1 ≤ n) (h8 : n ≤ 8) (hd : Dice m d) (hm : m ≤ 1000) : ∃ (ys : List Int) (d' : D), F__law_order [d, .int n] = .ok (T ys) [d'] ∧ Valid ys ∧ Dice (m + 16) d' := by
  obtain ⟨l, d1, e1, p1, hd1⟩ := c_mixed (l := upto n) (by rw [upto_len]; exact h8) hd (by rw [upto_len]; omega)
  rw [upto_len] at hd1
  have hll : l.length = n := by rw [p1.length_eq, upto_len]
  obtain ⟨ys, d2, t4, t5, t6, e2, p2, hd2⟩ := ord_loop (l := l) h8 (List.range n) [] d1 (m + n) none none none (fun k hk => by rw [hll]; exact List.mem_range.mp hk) (by simp; exact h8) hd1 (by simp; omega) (.inl rfl) (.inl rfl) (.inl rfl)
  rw [List.length_range] at hd2
  refine ⟨ys, d2, ?_, draw_valid h1 h8 p1 p2, dice_mono hd2 (by omega)⟩
  have e3 : fFn [some 0, none] F__law_mixed (fLent 0 (fCons (fRg2 (fC (.int 1)) (fBin opAdd (fVar 1) (fC (.int 1)))) fNil)) [some (.bo d), some (.sh (.int n)), none, none, none, none, none] = .ok (.lst (l.map .int)) [some (.bo d1), some (.sh (.int n)), none, none, none, none, none] := by
    refine fnB (e := .lst ((upto n).map .int)) ?_ e1
    have hr : rgD 1 (n + 1) = some (.lst ((upto n).map .int)) := by
      unfold rgD
      rw [if_pos (by omega), show ((n : Int) + 1 - 1).toNat = n by omega]
      simp [upto, List.map_map, Function.comp_def]
    exact bin1 rfl (bin1 rfl rfl rfl) hr
  have e4 : iRg1 (fVar 1) [some (.bo d1), some (.sh (.int n)), some (.sh (.lst (l.map .int))), some (.ow (.lst [])), none, none, none] = .ok ((List.range n).map fun (k : Nat) => D.int (k : Nat)) [some (.bo d1), some (.sh (.int n)), some (.sh (.lst (l.map .int))), some (.ow (.lst [])), none, none, none] := by
    have := iRg1_ok (show fVar 1 [some (.bo d1), some (.sh (.int n)), some (.sh (.lst (l.map .int))), some (.ow (.lst [])), none, none, none] = .ok (.int n) _ from rfl) (by omega)
    rw [this, Int.toNat_natCast]
  exact shape_order e3 e4 e2
end Dl
end
section
set_option maxHeartbeats 4000000
namespace Dl
open PySem PySem.Spec PyProof.Rows L2
section
variable {xs : List Int}
theorem isI_O {m : Str} (h : m ≠ "own_numbers") : isI "Order" m (O xs) = true := by
  simp [isI, O, h]
theorem prop1 {F : List D → Fr} {f : En → Rs D} {ρ : En} {r : D} (h : f ρ = .ok (O xs) ρ) (hF : F [O xs] = .ok r []) : fProp "Order" F f ρ = .ok r ρ := by
  have e := isI_O (xs := xs) (m := Str.empty) (by decide)
  simp [fProp, h, Rs.bind, e, fFn, mixD, hF, putB, noErr]
theorem propL1 {F : List D → Fr} {f : En → Rs D} {ρ : En} {r : D} (h : f ρ = .ok (O xs) ρ) (hF : F [O xs] = .ok r []) : fPropL "Order" F f ρ = .ok r ρ := prop1 h hF
theorem meth1 {F : List D → Fr} {f g : En → Rs D} {ρ : En} {m : Str} {b r : D} (hm : m ≠ "own_numbers") (h : f ρ = .ok (O xs) ρ) (hg : g ρ = .ok b ρ) (hF : F [O xs, b] = .ok r []) : fMeth "Order" m [none] F f (fCons g fNil) ρ = .ok r ρ := by
  have e := isI_O (xs := xs) hm
  simp [fMeth, h, Rs.bind, e, fFn, fCons, fNil, hg, mixD, hF, putB]
theorem cD (h : Valid xs) : F_Order_dual [O xs] = .ok (O (dualL xs)) [] := by
  have e := dual_eq h
  have := c_dual h.len.1 h.len.2 (by rw [e]; exact valid_dualL h)
  rw [e] at this; exact this
theorem cM (h : Valid xs) : F_Order_mirrored [O xs] = .ok (O (mirrL xs)) [] := by
  have e := mirr_eq h
  have := c_mirr h.len.1 h.len.2 (by rw [e]; exact valid_mirrL h)
  rw [e] at this; exact this
theorem cT (h : Valid xs) {b : Int} (b1 : -Gt < b) (b2 : b < Gt) : F_Order_turned [O xs, .int b] = .ok (O (turnL xs b)) [] := by
  have e := turn_eq h b
  have := c_turn h.len.1 h.len.2 b1 b2 (by rw [e]; exact valid_turnL h b)
  rw [e] at this; exact this
/-! ### tests that say no -/
theorem ne_py {d : D} {x : PyData} (h : d.py = some x) (hs : SeqAt.shaped x = true) : u_opNe d d = some (.bl false) := by
  unfold u_opNe orG
  rw [(eq_refl h hs).2]
theorem ne_O : u_opNe (O xs) (O xs) = some (.bl false) := by
  have e := isI_O (xs := xs) (m := Str.empty) (by decide)
  have n1 : opNe (O xs) (O xs) = none := by simp [opNe, deq, O, D.py]
  have n2 : opOwn "Order" F_Order___eq__ true (O xs) (O xs) = some (.bl false) := by simp [opOwn, e, c_eq]
  unfold u_opNe orG
  rw [n1]
  dsimp only
  rw [n2]
theorem ne_no {f g : En → Rs D} {ρ : En} {d : D} (hf : f ρ = .ok d ρ) (hg : g ρ = .ok d ρ) (h : u_opNe d d = some (.bl false)) : fTr (fBin u_opNe f g) ρ = .ok false ρ := by
  unfold fTr
  rw [bin1 hf hg h]
  rfl
theorem or_no {f g : En → Rs Bool} {ρ : En} (hf : f ρ = .ok false ρ) (hg : g ρ = .ok false ρ) : fOrB f g ρ = .ok false ρ := by
  simp [fOrB, hf, Rs.bind, hg]
theorem if_no {c : En → Rs Bool} {a : En → Rs Fl} {ρ : En} (h : c ρ = .ok false ρ) : fIfS c a fSkip ρ = .ok .nx ρ := by
  simp [fIfS, h, Rs.bind, fSkip]
theorem sq {f g : En → Rs Fl} {ρ ρ1 : En} {r : Rs Fl} (h : f ρ = .ok .nx ρ1) (h2 : g ρ1 = r) : fSeq f g ρ = r := by
  simp [fSeq, h, Rs.bind, h2]
theorem py_int {i : Int} : u_opNe (.int i) (.int i) = some (.bl false) := ne_py (x := .int i) rfl (by simp [SeqAt.shaped, PyData.canLay0, PyData.depth])
/-- lists of ints and of orders' numbers -/
theorem ne_ints (l : List Int) : u_opNe (.lst (l.map .int)) (.lst (l.map .int)) = some (.bl false) := by
  refine ne_py (x := .list (l.map .int)) ?_ ?_
  · show (pyAll (l.map .int)).map _ = _
    rw [pyAll_ints]; rfl
  · unfold SeqAt.shaped
    simp [PyData.canLay0, PyData.depth, dep_ints, lay_ints]
theorem ne_T3 (a b c : List Int) : u_opNe (.lst [T a, T b, T c]) (.lst [T a, T b, T c]) = some (.bl false) := by
  refine ne_py (x := .list [.tuple (a.map .int), .tuple (b.map .int), .tuple (c.map .int)]) ?_ ?_
  · show (pyAll [T a, T b, T c]).map _ = _
    simp [pyAll, T_py]
  · unfold SeqAt.shaped
    simp [PyData.canLay0, PyData.canLayAll0, PyData.depth, PyData.depthAll, dep_ints, lay_ints]
/-! ### the dice once more: one of three -/
theorem c_pick {d x y z : D} {m : Nat} (hd : Dice m d) (hm : m ≤ 100000) : ∃ (r d' : D), F__law_pick [d, .lst [x, y, z]] = .ok r [d'] ∧ (r = x ∨ r = y ∨ r = z) ∧ Dice (m + 1) d' := by
  obtain ⟨r, d', e, r0, r1, hd'⟩ := c_roll hd hm (t := 3) (by decide) (by decide)
  have e1 : fFn [some 0, none] F__law_roll (fLent 0 (fCons (fCall gLen (fCons (fVar 1) fNil)) fNil)) [some (.bo d), some (.sh (.lst [x, y, z]))] = .ok (.int r) [some (.bo d'), some (.sh (.lst [x, y, z]))] := fnB rfl e
  have fin : ∀ w, opIx (.lst [x, y, z]) (.int r) = some w → F__law_pick [d, .lst [x, y, z]] = .ok w [d'] := fun w hw => by
    have hv : fBin opIx (fVar 1) (fFn [some 0, none] F__law_roll (fLent 0 (fCons (fCall gLen (fCons (fVar 1) fNil)) fNil))) [some (.bo d), some (.sh (.lst [x, y, z]))] = .ok w [some (.bo d'), some (.sh (.lst [x, y, z]))] := bin1 (show fVar 1 _ = .ok (.lst [x, y, z]) _ from rfl) e1 hw
    exact ret1 (bor := [true, false]) (n := 2) (ds := [d, .lst [x, y, z]]) rfl hv rfl
  have : r = 0 ∨ r = 1 ∨ r = 2 := by omega
  rcases this with rfl | rfl | rfl
  · exact ⟨x, d', fin x rfl, .inl rfl, hd'⟩
  · exact ⟨y, d', fin y rfl, .inr (.inl rfl), hd'⟩
  · exact ⟨z, d', fin z rfl, .inr (.inr rfl), hd'⟩
end
end Dl
end
section
set_option maxHeartbeats 4000000
namespace Dl
open PySem PySem.Spec PyProof.Rows L2
section
variable {xs : List Int} {d : D} {b c : Int}
/-- the slots behind the fifth statement -/
def En5 (xs : List Int) (d : D) (b c : Int) : En := [some (.bo d), some (.sh (T xs)), some (.sh (O xs)), some (.sh (.int xs.length)), some (.sh (.int b)), some (.sh (.int c)), some (.sh (O (dualL xs))), some (.sh (O (mirrL xs))), some (.sh (O (turnL xs b))), some (.sh (.lst [T (dualL xs), T (mirrL xs), T (turnL xs b)])), none, none]
theorem lst3 {f g h : En → Rs D} {ρ : En} {x y z : D} (a : f ρ = .ok x ρ) (b : g ρ = .ok y ρ) (c : h ρ = .ok z ρ) : fLst (fCons f (fCons g (fCons h fNil))) ρ = .ok (.lst [x, y, z]) ρ := by
  have e : 3 ≤ sizeLine := by decide
  simp [fLst, fCons, fNil, a, b, c, Rs.bind, e]
theorem lst2 {f g : En → Rs D} {ρ : En} {x y : D} (a : f ρ = .ok x ρ) (b : g ρ = .ok y ρ) : fLst (fCons f (fCons g fNil)) ρ = .ok (.lst [x, y]) ρ := by
  simp [fLst, fCons, fNil, a, b, Rs.bind, sz2]
theorem lst1 {f : En → Rs D} {ρ : En} {x : D} (a : f ρ = .ok x ρ) : fLst (fCons f fNil) ρ = .ok (.lst [x]) ρ := by
  have e : 1 ≤ sizeLine := by decide
  simp [fLst, fCons, fNil, a, Rs.bind, e]
theorem mul_lst {x : D} {k : Nat} (hk : k ≤ 1000) : opMul (.lst [x]) (.int k) = some (.lst (List.replicate k [x]).flatten) := by
  have h : k ≤ sizeLine := Nat.le_of_lt (sz hk)
  have h2 : (k : Int) ≤ 100000 := by omega
  simp [opMul, h, h2]
theorem t6 (h : Valid xs) : fTr (fBin u_opNe (fLst (fCons (fProp "Order" F_Order_numbers (fVar 6)) (fCons (fProp "Order" F_Order_numbers (fVar 7)) (fCons (fProp "Order" F_Order_numbers (fVar 8)) fNil)))) (fVar 9)) (En5 xs d b c) = .ok false (En5 xs d b c) :=
  ne_no (lst3 (prop1 (xs := dualL xs) rfl c_numbers) (prop1 (xs := mirrL xs) rfl c_numbers) (prop1 (xs := turnL xs b) rfl c_numbers)) rfl (ne_T3 _ _ _)
theorem len_d (h : Valid xs) : 1 ≤ (dualL xs).length ∧ (dualL xs).length ≤ 8 := by rw [dualL_len]; exact h.len
theorem len_m (h : Valid xs) : 1 ≤ (mirrL xs).length ∧ (mirrL xs).length ≤ 8 := by rw [mirrL_len]; exact h.len
theorem len_t (h : Valid xs) : 1 ≤ (turnL xs b).length ∧ (turnL xs b).length ≤ 8 := by rw [turnL_len]; exact h.len
theorem t7a (h : Valid xs) : fTr (fBin u_opNe (fLst (fCons (fProp "Order" F_Order_size (fVar 6)) (fCons (fProp "Order" F_Order_size (fVar 7)) (fCons (fProp "Order" F_Order_size (fVar 8)) fNil)))) (fBin opMul (fLst (fCons (fProp "Order" F_Order_size (fVar 2)) fNil)) (fC (.int 3)))) (En5 xs d b c) = .ok false (En5 xs d b c) := by
  have e1 := c_size (len_d h).1 (len_d h).2
  have e2 := c_size (len_m h).1 (len_m h).2
  have e3 := c_size (len_t (b := b) h).1 (len_t (b := b) h).2
  rw [size_dualL h] at e1
  rw [size_mirrL h] at e2
  rw [size_turnL h] at e3
  exact ne_no (lst3 (prop1 (xs := dualL xs) rfl e1) (prop1 (xs := mirrL xs) rfl e2) (prop1 (xs := turnL xs b) rfl e3)) (bin1 (lst1 (prop1 (xs := xs) rfl (c_size h.len.1 h.len.2))) rfl (mul_lst (k := 3) (by decide))) (ne_ints [size xs, size xs, size xs])
theorem t7b (h : Valid xs) : fTr (fBin u_opNe (fLst (fCons (fProp "Order" F_Order_level (fVar 7)) (fCons (fProp "Order" F_Order_level (fVar 8)) fNil))) (fBin opMul (fLst (fCons (fProp "Order" F_Order_level (fVar 2)) fNil)) (fC (.int 2)))) (En5 xs d b c) = .ok false (En5 xs d b c) := by
  have e2 := c_level (len_m h).2
  have e3 := c_level (len_t (b := b) h).2
  rw [level_mirrL h] at e2
  rw [level_turnL h] at e3
  exact ne_no (lst2 (prop1 (xs := mirrL xs) rfl e2) (prop1 (xs := turnL xs b) rfl e3)) (bin1 (lst1 (prop1 (xs := xs) rfl (c_level h.len.2))) rfl (mul_lst (k := 2) (by decide))) (ne_ints [(level xs : Int), (level xs : Int)])
theorem t8a (h : Valid xs) : fTr (fBin u_opNe (fProp "Order" F_Order_level (fVar 6)) (fBin opSub (fVar 3) (fProp "Order" F_Order_level (fVar 2)))) (En5 xs d b c) = .ok false (En5 xs d b c) := by
  have e1 := c_level (len_d h).2
  rw [level_dualL h] at e1
  exact ne_no (prop1 (xs := dualL xs) rfl e1) (bin1 (a := .int xs.length) rfl (prop1 (xs := xs) rfl (c_level h.len.2)) rfl) py_int
theorem t8b (h : Valid xs) : fTr (fBin u_opNe (fProp "Order" F_Order_dual (fVar 6)) (fVar 2)) (En5 xs d b c) = .ok false (En5 xs d b c) := by
  have e := cD (valid_dualL h)
  rw [dual_dual h] at e
  exact ne_no (prop1 (xs := dualL xs) rfl e) rfl ne_O
theorem t8c (h : Valid xs) : fTr (fBin u_opNe (fProp "Order" F_Order_mirrored (fVar 7)) (fVar 2)) (En5 xs d b c) = .ok false (En5 xs d b c) := by
  have e := cM (valid_mirrL h)
  rw [mirr_mirr h] at e
  exact ne_no (prop1 (xs := mirrL xs) rfl e) rfl ne_O
theorem tu {f g : En → Rs D} {ρ : En} {ys : List Int} {e : Int} (h : Valid ys) (hf : f ρ = .ok (O ys) ρ) (hg : g ρ = .ok (.int e) ρ) (e1 : -Gt < e) (e2 : e < Gt) : fMeth "Order" "turned" [none] F_Order_turned f (fCons g fNil) ρ = .ok (O (turnL ys e)) ρ :=
  meth1 (by decide) hf hg (cT h e1 e2)
theorem t9a (h : Valid xs) (b1 : -Gt < b ∧ b < Gt) (c1 : -Gt < c ∧ c < Gt) (s1 : -Gt < b + c ∧ b + c < Gt) : fTr (fBin u_opNe (fMeth "Order" "turned" [none] F_Order_turned (fMeth "Order" "turned" [none] F_Order_turned (fVar 2) (fCons (fVar 4) fNil)) (fCons (fVar 5) fNil)) (fMeth "Order" "turned" [none] F_Order_turned (fVar 2) (fCons (fBin opAdd (fVar 4) (fVar 5)) fNil))) (En5 xs d b c) = .ok false (En5 xs d b c) := by
  have e := tu (ρ := En5 xs d b c) (f := fMeth "Order" "turned" [none] F_Order_turned (fVar 2) (fCons (fVar 4) fNil)) (g := fVar 5) (valid_turnL h b) (tu h rfl rfl b1.1 b1.2) rfl c1.1 c1.2
  rw [turn_turn h] at e
  exact ne_no e (tu h rfl (bin1 rfl rfl rfl) s1.1 s1.2) ne_O
theorem t9b (h : Valid xs) (b1 : -Gt < b ∧ b < Gt) : fTr (fBin u_opNe (fMeth "Order" "turned" [none] F_Order_turned (fMeth "Order" "turned" [none] F_Order_turned (fVar 2) (fCons (fVar 4) fNil)) (fCons (fUn opNeg (fVar 4)) fNil)) (fVar 2)) (En5 xs d b c) = .ok false (En5 xs d b c) := by
  have e := tu (ρ := En5 xs d b c) (f := fMeth "Order" "turned" [none] F_Order_turned (fVar 2) (fCons (fVar 4) fNil)) (g := fUn opNeg (fVar 4)) (e := -b) (valid_turnL h b) (tu h rfl rfl b1.1 b1.2) rfl (by omega) (by omega)
  rw [turn_back h] at e
  exact ne_no e rfl ne_O
theorem t10a (h : Valid xs) : fTr (fBin u_opNe (fMeth "Order" "turned" [none] F_Order_turned (fVar 2) (fCons (fVar 3) fNil)) (fVar 2)) (En5 xs d b c) = .ok false (En5 xs d b c) := by
  have hl := h.len
  have e := tu (ρ := En5 xs d b c) (f := fVar 2) (g := fVar 3) (e := xs.length) h rfl rfl (by unfold Gt; omega) (by unfold Gt; omega)
  have q := turn_all h 1
  rw [show (xs.length : Int) * 1 = xs.length by omega] at q
  rw [q] at e
  exact ne_no e rfl ne_O
theorem t10b (h : Valid xs) (w : wid c = true) (s1 : -Gt < (xs.length : Int) * c ∧ (xs.length : Int) * c < Gt) : fTr (fBin u_opNe (fMeth "Order" "turned" [none] F_Order_turned (fVar 2) (fCons (fBin opMul (fVar 3) (fVar 5)) fNil)) (fVar 2)) (En5 xs d b c) = .ok false (En5 xs d b c) := by
  have hl := h.len
  have wn := wid_s (i := (xs.length : Int)) (by omega)
  have e := tu (ρ := En5 xs d b c) (f := fVar 2) (g := fBin opMul (fVar 3) (fVar 5)) (e := xs.length * c) h rfl (bin1 (a := .int xs.length) (b := .int c) rfl rfl (by simp [opMul, wn, w])) s1.1 s1.2
  rw [turn_all h] at e
  exact ne_no e rfl ne_O
theorem t10c (h : Valid xs) (c1 : -Gt < c ∧ c < Gt) (s1 : c + xs.length < Gt) : fTr (fBin u_opNe (fMeth "Order" "turned" [none] F_Order_turned (fVar 2) (fCons (fBin opAdd (fVar 5) (fVar 3)) fNil)) (fMeth "Order" "turned" [none] F_Order_turned (fVar 2) (fCons (fVar 5) fNil))) (En5 xs d b c) = .ok false (En5 xs d b c) := by
  have e := tu (ρ := En5 xs d b c) (f := fVar 2) (g := fBin opAdd (fVar 5) (fVar 3)) (e := c + xs.length) h rfl (bin1 rfl rfl rfl) (by omega) s1
  rw [turn_more h] at e
  exact ne_no e (tu h rfl rfl c1.1 c1.2) ne_O
theorem t11a (h : Valid xs) : fTr (fBin u_opNe (fProp "Order" F_Order_mirrored (fVar 6)) (fProp "Order" F_Order_dual (fVar 7))) (En5 xs d b c) = .ok false (En5 xs d b c) := by
  have e := cM (valid_dualL h)
  rw [mirr_dual h] at e
  exact ne_no (prop1 (xs := dualL xs) rfl e) (prop1 (xs := mirrL xs) rfl (cD (valid_mirrL h))) ne_O
theorem t11b (h : Valid xs) (b1 : -Gt < b ∧ b < Gt) : fTr (fBin u_opNe (fProp "Order" F_Order_dual (fVar 8)) (fMeth "Order" "turned" [none] F_Order_turned (fVar 6) (fCons (fVar 4) fNil))) (En5 xs d b c) = .ok false (En5 xs d b c) := by
  have e := cD (valid_turnL h b)
  rw [dual_turn h] at e
  exact ne_no (prop1 (xs := turnL xs b) rfl e) (tu (valid_dualL h) rfl rfl b1.1 b1.2) ne_O
theorem t11c (h : Valid xs) (b1 : -Gt < b ∧ b < Gt) : fTr (fBin u_opNe (fProp "Order" F_Order_mirrored (fVar 8)) (fMeth "Order" "turned" [none] F_Order_turned (fVar 7) (fCons (fUn opNeg (fVar 4)) fNil))) (En5 xs d b c) = .ok false (En5 xs d b c) := by
  have e := cM (valid_turnL h b)
  rw [mirr_turn h] at e
  exact ne_no (prop1 (xs := turnL xs b) rfl e) (tu (e := -b) (valid_mirrL h) rfl rfl (by omega) (by omega)) ne_O
end
end Dl
end
section
set_option maxHeartbeats 4000000
namespace Dl
open PySem PySem.Spec PyProof.Rows L2
section
variable {xs : List Int} {d : D} {b c : Int}
theorem dVal_map {f : Int → Str} : ∀ {l : List Int} {i : Int}, i ∈ l → dVal (l.map .inl) (l.map fun j => .str (f j)) (.inl i) = some (.str (f i))
  | j :: l, i, h => by
    by_cases e : j = i
    · subst e; simp [dVal]
    · have := dVal_map (f := f) (l := l) (i := i) (by
        rcases List.mem_cons.mp h with q | q
        · exact absurd q.symm e
        · exact q)
      simp [dVal, e, this]
theorem mrg_nodup : ∀ (l : List (Key × D)) (ks : List Key) (ds : List D), ks.length = ds.length → (ks ++ l.map (·.1)).Nodup → mrgD l ks ds = (ks ++ l.map (·.1), ds ++ l.map (·.2))
  | [], ks, ds, _, _ => by simp [mrgD]
  | (k, v) :: l, ks, ds, he, nd => by
    have hno : hasK k ks = false := by
      unfold hasK
      rw [List.any_eq_false]
      intro j hj
      simp only [decide_eq_true_eq]
      intro e
      exact (List.nodup_append.mp nd).2.2 j hj k (by simp) e
    have ih := mrg_nodup l (ks ++ [k]) (ds ++ [v]) (by simp [he]) (by simpa [List.append_assoc] using nd)
    simp only [mrgD, pKs, pXs, hno, Bool.false_eq_true, if_false, ih]
    simp [List.append_assoc]
theorem asK_map {g : Int → D} : ∀ l : List Int, asK (l.map fun i => .tup [.int i, g i]) = some (l.map fun i => (.inl i, g i))
  | [] => rfl
  | i :: l => by
    show asK (.tup [.int i, g i] :: l.map _) = _
    simp [asK, keyOf, asK_map l]
theorem gDict_map {g : Int → D} {l : List Int} (nd : l.Nodup) : gDict [.lst (l.map fun i => .tup [.int i, g i])] = some (.dic (l.map .inl) (l.map g)) := by
  have e : mrgD (l.map fun i => ((.inl i : Key), g i)) [] [] = (l.map .inl, l.map g) := by
    rw [mrg_nodup _ _ _ rfl (by
      rw [List.nil_append, List.map_map]
      exact nodup_mapI nd fun i _ j _ e => by simpa using e)]
    simp [List.map_map, Function.comp_def]
  show (asK _).map _ = _
  rw [asK_map]
  simp only [Option.map, e]
theorem ne_dic {f : Int → Str} {l : List Int} : u_opNe (.dic (l.map .inl) (l.map fun i => .str (f i))) (.dic (l.map .inl) (l.map fun i => .str (f i))) = some (.bl false) := by
  have h : dicEqK (l.map .inl) (l.map fun i => .str (f i)) (l.map .inl) (l.map fun i => .str (f i)) = true := by
    unfold dicEqK
    simp only [List.length_map, decide_true, Bool.true_and, List.all_eq_true]
    intro k hk
    have hk' := List.mem_range.mp hk
    have hm : l[k] ∈ l := List.getElem_mem hk'
    rw [List.getElem?_map, List.getElem?_map, List.getElem?_eq_getElem hk']
    simp only [Option.map]
    rw [dVal_map hm]
    simp [D.flat]
  have n1 : opNe (.dic (l.map .inl) (l.map fun i => .str (f i))) (.dic (l.map .inl) (l.map fun i => .str (f i))) = none := by simp [opNe, deq, D.py]
  have n2 : opOwn "Order" F_Order___eq__ true (.dic (l.map .inl) (l.map fun i => .str (f i))) (.dic (l.map .inl) (l.map fun i => .str (f i))) = none := by simp [opOwn, isI]
  unfold u_opNe orG
  rw [n1]
  dsimp only
  rw [n2]
  dsimp only
  simp only [opNeDic, h, if_true]
def swp (s : Str) : Str := if s = "black" then "white" else "black"
theorem eqS (i : Int) : opEq (.str (col xs i)) (.str "black") = some (.bl (decide (col xs i = "black"))) := by
  unfold col
  by_cases h : Vx xs i = i
  · rw [if_pos h]
    exact (eq_refl (d := .str "black") (x := .str "black") rfl (by decide +kernel)).1
  · rw [if_neg h]
    have e : deq (.str "white") (.str "black") = some false := by
      have s1 : SeqAt.shaped (.str "white") = true := by decide +kernel
      have s2 : SeqAt.shaped (.str "black") = true := by decide +kernel
      have s3 : PyData.eqv (.str "white") (.str "black") = false := by decide +kernel
      simp [deq, D.py, s1, s2, s3]
    show (deq _ _).map _ = _
    rw [e]
    rfl
theorem col_dual (h : Valid xs) {i : Int} (hi : i ∈ fx xs) : swp (col xs i) = col (dualL xs) i := by
  have e := (fx_dualL h).2 i hi
  have two : ∀ ys : List Int, col ys i = "black" ∨ col ys i = "white" := fun ys => by unfold col; split; exact .inl rfl; exact .inr rfl
  unfold swp
  by_cases c : col xs i = "black"
  · rw [if_pos c]
    rcases two (dualL xs) with q | q
    · exact absurd c (e.mp q)
    · exact q.symm
  · rw [if_neg c]
    exact (e.mpr c).symm
theorem t12 (h : Valid xs) : fTr (fBin u_opNe (fCall gDict (fCons (fLc [10] (iKeysD (fPropL "Order" F_Order_marks (fVar 2))) (gN 10) fYes (fTup (fCons (fVar 10) (fCons (fIf (fTr (fBin opEq (fBin opIx (fPropL "Order" F_Order_marks (fVar 2)) (fVar 10)) (fC (.str "black")))) (fC (.str "white")) (fC (.str "black"))) fNil)))) fNil)) (fPropL "Order" F_Order_marks (fVar 6))) (En5 xs d b c) = .ok false (En5 xs d b c) := by
  have mk := c_marks h.len.1 h.len.2
  have md := c_marks (len_d h).1 (len_d h).2
  have e1 : fLc [10] (iKeysD (fPropL "Order" F_Order_marks (fVar 2))) (gN 10) fYes (fTup (fCons (fVar 10) (fCons (fIf (fTr (fBin opEq (fBin opIx (fPropL "Order" F_Order_marks (fVar 2)) (fVar 10)) (fC (.str "black")))) (fC (.str "white")) (fC (.str "black"))) fNil))) (En5 xs d b c) = .ok (.lst ((fx xs).map fun i => .tup [.int i, .str (swp (col xs i))])) (En5 xs d b c) := by
    refine fLc_map (c := D.int) (ρ1 := En5 xs d b c) ?_ rfl rfl ?_ fun i hi => ?_
    · have := propL1 (xs := xs) (ρ := En5 xs d b c) (f := fVar 2) rfl mk
      unfold iKeysD
      rw [this]
      simp only [Rs.bind, List.map_map]
      rfl
    · have : (fx xs).length ≤ xs.length := by unfold fx; exact Nat.le_trans (List.length_filter_le _ _) (by rw [upto_len]; exact Nat.le_refl _)
      have := h.len
      omega
    · refine step_s ((En5 xs d b c).set 10 (some (.sh (.int i)))) rfl rfl (fun _ => ?_) rfl rfl
      have e2 := propL1 (xs := xs) (ρ := (En5 xs d b c).set 10 (some (.sh (.int i)))) (f := fVar 2) rfl mk
      have e3 : opIx (.dic ((fx xs).map .inl) ((fx xs).map fun i => .str (col xs i))) (.int i) = some (.str (col xs i)) := by
        show (keyOf (.int i)).bind _ = _
        exact dVal_map hi
      have e4 := bin1 (g := opEq) (bin1 e2 (show fVar 10 _ = .ok (.int i) _ from rfl) e3) (show fC (.str "black") _ = .ok (.str "black") _ from rfl) (eqS i)
      have e5 : fIf (fTr (fBin opEq (fBin opIx (fPropL "Order" F_Order_marks (fVar 2)) (fVar 10)) (fC (.str "black")))) (fC (.str "white")) (fC (.str "black")) ((En5 xs d b c).set 10 (some (.sh (.int i)))) = .ok (.str (swp (col xs i))) ((En5 xs d b c).set 10 (some (.sh (.int i)))) := by
        unfold fIf fTr
        rw [e4]
        unfold swp
        by_cases q : col xs i = "black"
        · simp [Rs.bind, q, fC]
        · simp [Rs.bind, q, fC]
      simp only [fTup, fCons, fNil, Rs.bind]
      rw [show fVar 10 ((En5 xs d b c).set 10 (some (.sh (.int i)))) = .ok (.int i) ((En5 xs d b c).set 10 (some (.sh (.int i)))) from rfl]
      simp only [e5]
      rw [if_pos (by exact sz2)]
  have e6 : ((fx xs).map fun i => D.str (swp (col xs i))) = (fx xs).map fun i => D.str (col (dualL xs) i) := List.map_congr_left fun i hi => by rw [col_dual h hi]
  have e7 := cl1 e1 (gDict_map (g := fun i => .str (swp (col xs i))) fx_nodup)
  rw [e6] at e7
  rw [(fx_dualL h).1] at md
  exact ne_no e7 (propL1 (xs := dualL xs) rfl md) ne_dic
end
end Dl
end
section
set_option maxHeartbeats 4000000
namespace Dl
open PySem PySem.Spec PyProof.Rows L2
section
variable {xs : List Int} {d : D} {b c : Int}
theorem ends_len : (ends xs).length = xs.length := by simp [ends]
theorem ends_back (h : Valid xs) : ((ends xs).map fun e => (ends (dualL xs)).getD (e - 1).toNat 0) = upto xs.length := by
  have hp := h.pos
  have hp' : (0 : Int) < xs.length := by omega
  refine List.ext_getElem? fun i => ?_
  by_cases hi : i < xs.length
  · have e0 : (ends xs)[i]? = some (rest xs.length (xs.getD i 0)) := by simp only [ends, List.getElem?_map, getD_at hi, Option.map]
    obtain ⟨k, hk⟩ := rest_form hp (xs.getD i 0)
    have bd := rest_bd (x := xs.getD i 0) hp'
    generalize rest (xs.length : Int) (xs.getD i 0) = e at *
    have hj : (e - 1).toNat < (dualL xs).length := by rw [dualL_len]; omega
    have e1 : (ends (dualL xs)).getD (e - 1).toNat 0 = rest xs.length ((dualL xs).getD (e - 1).toNat 0) := by
      have : (ends (dualL xs))[(e - 1).toNat]? = some (rest xs.length ((dualL xs).getD (e - 1).toNat 0)) := by
        simp only [ends, List.getElem?_map, getD_at hj, Option.map, dualL_len]
      rw [List.getD_eq_getElem?_getD, this]; rfl
    have e2 : (dualL xs).getD (e - 1).toNat 0 = inv xs e + xs.length := by
      rw [← Vx_one hj, V_dualL h, show (((e - 1).toNat : Nat) : Int) + 1 = e by omega]
    have e3 : inv xs e = (i : Int) + 1 + xs.length * k := by
      rw [hk, inv_add h, ← Vx_one hi, inv_V h]
    have e4 : rest (xs.length : Int) ((i : Int) + 1 + xs.length * k + xs.length) = (i : Int) + 1 := by
      rw [show (i : Int) + 1 + xs.length * k + xs.length = (i : Int) + 1 + xs.length * (k + 1) by rw [Int.mul_add]; omega, rest_add]
      unfold rest
      rw [Int.emod_eq_of_lt (by omega) (by omega)]; omega
    rw [List.getElem?_map, e0]
    simp only [Option.map]
    rw [e1, e2, e3, e4]
    unfold upto
    rw [List.getElem?_map, List.getElem?_range hi]
    simp only [Option.map]
    rw [Int.add_comm]
  · rw [List.getElem?_eq_none (by rw [List.length_map, ends_len]; omega), List.getElem?_eq_none (by rw [upto_len]; omega)]
theorem t13 (h : Valid xs) : fBin u_opEq (fLc [11] (iSeq (fProp "Order" F_Order_ends (fVar 2))) (gN 11) fYes (fBin opIx (fProp "Order" F_Order_ends (fVar 6)) (fBin opSub (fVar 11) (fC (.int 1))))) (fRg2 (fC (.int 1)) (fBin opAdd (fVar 3) (fC (.int 1)))) (En5 xs d b c) = .ok (.bl true) (En5 xs d b c) := by
  have hl := h.len
  have e1 : fLc [11] (iSeq (fProp "Order" F_Order_ends (fVar 2))) (gN 11) fYes (fBin opIx (fProp "Order" F_Order_ends (fVar 6)) (fBin opSub (fVar 11) (fC (.int 1)))) (En5 xs d b c) = .ok (.lst ((ends xs).map fun e => .int ((ends (dualL xs)).getD (e - 1).toNat 0))) (En5 xs d b c) := by
    refine fLc_map (c := D.int) (ρ1 := En5 xs d b c) ?_ rfl rfl (by rw [ends_len]; omega) fun e he => ?_
    · have := prop1 (xs := xs) (ρ := En5 xs d b c) (f := fVar 2) rfl (c_ends h.len.1 h.len.2)
      unfold iSeq
      rw [this]
      rfl
    · obtain ⟨x, _, rfl⟩ := List.mem_map.mp he
      have bd := rest_bd (n := (xs.length : Int)) (x := x) (by omega)
      refine step_s ((En5 xs d b c).set 11 (some (.sh (.int (rest xs.length x))))) rfl rfl (fun _ => ?_) rfl rfl
      exact bin1 (prop1 (xs := dualL xs) rfl (c_ends (len_d h).1 (len_d h).2)) (bin1 (a := .int (rest xs.length x)) rfl rfl rfl) (ix_T (i := rest xs.length x - 1) (by omega) (by rw [ends_len, dualL_len]; omega))
  have e2 : ((ends xs).map fun e => D.int ((ends (dualL xs)).getD (e - 1).toNat 0)) = (upto xs.length).map .int := by
    rw [← ends_back h, List.map_map]; rfl
  rw [e2] at e1
  have hr : rgD 1 ((xs.length : Int) + 1) = some (.lst ((upto xs.length).map .int)) := by
    unfold rgD
    rw [if_pos (by omega), show ((xs.length : Int) + 1 - 1).toNat = xs.length by omega]
    simp [upto, List.map_map, Function.comp_def]
  have e3 : fRg2 (fC (.int 1)) (fBin opAdd (fVar 3) (fC (.int 1))) (En5 xs d b c) = .ok (.lst ((upto xs.length).map .int)) (En5 xs d b c) := bin1 (a := .int 1) (b := .int (xs.length + 1)) rfl (bin1 (a := .int xs.length) rfl rfl rfl) hr
  have e4 : opEq (.lst ((upto xs.length).map .int)) (.lst ((upto xs.length).map .int)) = some (.bl true) := by
    refine (eq_refl (x := .list ((upto xs.length).map .int)) ?_ ?_).1
    · show (pyAll ((upto xs.length).map .int)).map _ = _
      rw [pyAll_ints]; rfl
    · unfold SeqAt.shaped
      simp [PyData.canLay0, PyData.depth, dep_ints, lay_ints]
  exact bin1 e1 e3 (by unfold u_opEq orG; rw [e4])
theorem tup2 {f g : En → Rs D} {ρ : En} {x y : D} (a : f ρ = .ok x ρ) (b : g ρ = .ok y ρ) : fTup (fCons f (fCons g fNil)) ρ = .ok (.tup [x, y]) ρ := by
  simp [fTup, fCons, fNil, a, b, Rs.bind, sz2]
theorem fnB2 {F : List D → Fr} {f : En → Rs D} {r0 : En} {d d1 e r d' : D} (h : f (some (.bo d) :: r0) = .ok e (some (.bo d1) :: r0)) (hF : F [d1, e] = .ok r [d']) : fFn [some 0, none] F (fLent 0 (fCons f fNil)) (some (.bo d) :: r0) = .ok r (some (.bo d') :: r0) := by
  simp [fFn, fLent, owned, fCons, fNil, h, Rs.bind, mixD, hF, putB, putSl]
theorem lst3e {f g h : En → Rs D} {ρ ρ1 ρ2 ρ3 : En} {x y z : D} (a : f ρ = .ok x ρ1) (b : g ρ1 = .ok y ρ2) (c : h ρ2 = .ok z ρ3) : fLst (fCons f (fCons g (fCons h fNil))) ρ = .ok (.lst [x, y, z]) ρ3 := by
  have e : 3 ≤ sizeLine := by decide
  simp [fLst, fCons, fNil, a, b, c, Rs.bind, e]
theorem asg1 {f : En → Rs D} {g : D → En → Rs Unit} {ρ ρ1 ρ2 : En} {x : D} (a : f ρ = .ok x ρ1) (h : g x ρ1 = .ok () ρ2) : fAsg f g ρ = .ok .nx ρ2 := by
  simp [fAsg, a, Rs.bind, h]
theorem set1 {f : En → Rs D} {i : Nat} {ρ ρ1 : En} {x : D} (a : f ρ = .ok x ρ1) (h : setOk ρ1 i = true) : fSet i f ρ = .ok .nx (ρ1.set i (some (.sh x))) := by
  simp [fSet, a, Rs.bind, h]
theorem par1 {f g : En → Rs D} {i j : Nat} {ρ ρ1 ρ2 : En} {x y : D} (a : f ρ = .ok x ρ1) (b : g ρ1 = .ok y ρ2) (h1 : setOk ρ2 i = true) (h2 : setOk ρ2 j = true) : fPar i j f g ρ = .ok .nx ((ρ2.set i (some (.sh x))).set j (some (.sh y))) := by
  unfold fPar
  rw [a]
  simp only [Rs.bind]
  rw [b]
  simp only
  rw [if_pos (by simp [h1, h2])]
theorem pow_ok {j : Nat} (hj : j ≤ 1000) : opPow (.int 10) (.int j) = some (.int (10 ^ j)) := by
  have h : (j : Int) ≤ 1000 := by omega
  simp [opPow, h]
end
end Dl
end
section
set_option maxHeartbeats 4000000
namespace Dl
open PySem PySem.Spec PyProof.Rows L2
theorem end_right {xs : List Int} {d d' : D} {b c : Int} {f : En → Rs Fl} (h : f [some (.bo d), some (.sh (T xs)), none, none, none, none, none, none, none, none, none, none] = .ok (.ret (.bl true)) (En5 xs d' b c)) : bodyF [true, false] 12 f [d, T xs] = .ok (.bl true) [d'] := by
  simp [bodyF, enE, h, En5, bosD]
theorem sqr {f : En → Rs D} {ρ ρ1 : En} {x : D} (h : f ρ = .ok x ρ1) : fRet f ρ = .ok (.ret x) ρ1 := by simp [fRet, h, Rs.bind]
theorem un1 {g : D → Option D} {f : En → Rs D} {ρ ρ1 : En} {a r : D} (h : f ρ = .ok a ρ1) (hg : g a = some r) : fUn g f ρ = .ok r ρ1 := by simp [fUn, h, Rs.bind, hg]
theorem c_right {xs : List Int} {d : D} {m : Nat} (h : Valid xs) (hd : Dice m d) (hm : m ≤ 10000) : ∃ d', F__law_right [d, T xs] = .ok (.bl true) [d'] ∧ Dice (m + 4) d' := by
  obtain ⟨r1, d1, e1, r10, r11, hd1⟩ := c_roll hd (by omega) (t := 60) (by decide) (by decide)
  obtain ⟨r2, d2, e2, r20, r21, hd2⟩ := c_roll hd1 (by omega) (t := 9) (by decide) (by decide)
  obtain ⟨r3, d3, e3, r30, r31, hd3⟩ := c_roll hd2 (by omega) (t := 9) (by decide) (by decide)
  obtain ⟨r, d4, e4, hr, hd4⟩ := c_pick (x := .int (10 ^ 40 + r2)) (y := .int (-(10 ^ 30))) (z := .int r3) hd3 (by omega)
  obtain ⟨c, rfl, c1, c2⟩ : ∃ c : Int, r = .int c ∧ -(10 ^ 41) < c ∧ c < 10 ^ 41 := by
    rcases hr with q | q | q
    · exact ⟨_, q, by omega, by omega⟩
    · exact ⟨_, q, by omega, by omega⟩
    · exact ⟨_, q, by omega, by omega⟩
  have hl := h.len
  refine ⟨d4, ?_, hd4⟩
  have bg : -Gt < r1 - 30 ∧ r1 - 30 < Gt := by unfold Gt; omega
  have cg : -Gt < c ∧ c < Gt := by unfold Gt; omega
  have sg : -Gt < r1 - 30 + c ∧ r1 - 30 + c < Gt := by unfold Gt; omega
  have wc : wid c = true := decide_eq_true (Nat.lt_of_lt_of_le (show c.natAbs < 2 ^ 200 by omega) (Nat.pow_le_pow_right (by decide) (by decide)))
  have mg : -Gt < (xs.length : Int) * c ∧ (xs.length : Int) * c < Gt := by
    have : xs.length = 1 ∨ xs.length = 2 ∨ xs.length = 3 ∨ xs.length = 4 ∨ xs.length = 5 ∨ xs.length = 6 ∨ xs.length = 7 ∨ xs.length = 8 := by omega
    unfold Gt
    rcases this with q | q | q | q | q | q | q | q <;> rw [q] <;> omega
  have p60 : fFn [some 0, none] F__law_roll (fLent 0 (fCons (fC (.int 60)) fNil)) [some (.bo d), some (.sh (T xs)), some (.sh (O xs)), some (.sh (.int xs.length)), none, none, none, none, none, none, none, none] = .ok (.int r1) [some (.bo d1), some (.sh (T xs)), some (.sh (O xs)), some (.sh (.int xs.length)), none, none, none, none, none, none, none, none] := fnB rfl e1
  have pL : fLst (fCons (fBin opAdd (fBin opPow (fC (.int 10)) (fC (.int 40))) (fFn [some 0, none] F__law_roll (fLent 0 (fCons (fC (.int 9)) fNil)))) (fCons (fUn opNeg (fBin opPow (fC (.int 10)) (fC (.int 30)))) (fCons (fFn [some 0, none] F__law_roll (fLent 0 (fCons (fC (.int 9)) fNil))) fNil))) [some (.bo d1), some (.sh (T xs)), some (.sh (O xs)), some (.sh (.int xs.length)), none, none, none, none, none, none, none, none] =
      .ok (.lst [.int (10 ^ 40 + r2), .int (-(10 ^ 30)), .int r3]) [some (.bo d3), some (.sh (T xs)), some (.sh (O xs)), some (.sh (.int xs.length)), none, none, none, none, none, none, none, none] := by
    refine lst3e (bin1 (bin1 (a := .int 10) (b := .int 40) rfl rfl (pow_ok (j := 40) (by decide))) (fnB rfl e2) rfl) (un1 (bin1 (a := .int 10) (b := .int 30) rfl rfl (pow_ok (j := 30) (by decide))) rfl) (fnB rfl e3)
  have pP : fFn [some 0, none] F__law_pick (fLent 0 (fCons (fLst (fCons (fBin opAdd (fBin opPow (fC (.int 10)) (fC (.int 40))) (fFn [some 0, none] F__law_roll (fLent 0 (fCons (fC (.int 9)) fNil)))) (fCons (fUn opNeg (fBin opPow (fC (.int 10)) (fC (.int 30)))) (fCons (fFn [some 0, none] F__law_roll (fLent 0 (fCons (fC (.int 9)) fNil))) fNil)))) fNil)) [some (.bo d1), some (.sh (T xs)), some (.sh (O xs)), some (.sh (.int xs.length)), none, none, none, none, none, none, none, none] = .ok (.int c) [some (.bo d4), some (.sh (T xs)), some (.sh (O xs)), some (.sh (.int xs.length)), none, none, none, none, none, none, none, none] := fnB2 pL e4
  unfold F__law_right m__law_right
  refine end_right (b := r1 - 30) (c := c) ?_
  refine sq (asg1 (tup2 (mk_O (ys := xs) rfl h) (cl1 (d := T xs) rfl len_T)) rfl) ?_
  refine sq (par1 (bin1 (b := .int 30) p60 rfl rfl) pP rfl rfl) ?_
  refine sq (asg1 (tup2 (prop1 (xs := xs) rfl (cD h)) (prop1 (xs := xs) rfl (cM h))) rfl) ?_
  refine sq (set1 (tu (ys := xs) (e := r1 - 30) h rfl rfl bg.1 bg.2) rfl) ?_
  refine sq (set1 (lst3 (fn1 (d := T xs) rfl (c_dual_of hl.1 hl.2 h.full)) (fn1 (d := T xs) rfl (c_mirr_of hl.1 hl.2 h.full)) (fn2 (d := T xs) (e := .int (r1 - 30)) rfl rfl (c_turn_of hl.1 hl.2 (by omega)))) rfl) ?_
  refine sq (ρ1 := En5 xs d4 (r1 - 30) c) (if_no (t6 h)) ?_
  refine sq (if_no (or_no (t7a h) (t7b h))) ?_
  refine sq (if_no (or_no (t8a h) (or_no (t8b h) (t8c h)))) ?_
  refine sq (if_no (or_no (t9a h bg cg sg) (t9b h bg))) ?_
  refine sq (if_no (or_no (t10a h) (or_no (t10b h wc mg) (t10c h cg (by unfold Gt; omega))))) ?_
  refine sq (if_no (or_no (t11a h) (or_no (t11b h bg) (t11c h bg)))) ?_
  refine sq (if_no (t12 h)) ?_
  exact sqr (t13 h)
end Dl
end
section
set_option maxHeartbeats 4000000
namespace Dl
open PySem PySem.Spec PyProof.Rows L2
theorem shape_dice {A B C : En → Rs D} {x y u v r : D} (hA : A [some (.sh x), some (.sh y), none, none] = .ok u [some (.sh x), some (.sh y), none, none]) (hB : B [some (.sh x), some (.sh y), some (.sh u), none] = .ok v [some (.sh x), some (.sh y), some (.sh u), none])
    (hC : C [some (.sh x), some (.sh y), some (.sh u), some (.sh v)] = .ok r [some (.sh x), some (.sh y), some (.sh u), some (.sh v)]) : bodyL [false, false] 4 (fSeq (fSet 2 A) (fSeq (fSet 3 B) (fRetL C))) [x, y] = .ok r [] := by
  simp [bodyL, enE, fSeq, fSet, fRetL, Rs.bind, hA, setOk, hB, hC, bosD]
theorem wid_200 {i : Int} (h : i.natAbs < 2 ^ 210) : wid i = true := by
  unfold wid
  exact decide_eq_true (Nat.lt_of_lt_of_le h (Nat.pow_le_pow_right (by decide) (by decide)))
theorem cl2 {g : List D → Option D} {f h : En → Rs D} {ρ ρ1 ρ2 : En} {d e r : D} (h1 : f ρ = .ok d ρ1) (h2 : h ρ1 = .ok e ρ2) (hg : g [d, e] = some r) : fCall g (fCons f (fCons h fNil)) ρ = .ok r ρ2 := by
  simp [fCall, fCons, fNil, h1, h2, Rs.bind, hg]
theorem c_dice {ns : List Int} {k : Nat} (hk : k ≤ 10) : ∃ d, F__law_dice [.frz (ns.map .int), .int k] = .ok d [] ∧ Dice 0 d := by
  have hx : ∃ cell : Int, fIf (fTr (fBin opLt (fVar 1) (fCall gLen (fCons (fVar 0) fNil)))) (fCall gInt (fCons (fBin opIx (fVar 0) (fVar 1)) fNil)) (fBin opAdd (fBin opMul (fC (.int 61)) (fVar 1)) (fC (.int 17))) [some (.sh (.frz (ns.map .int))), some (.sh (.int k)), none, none] = .ok (.int cell) [some (.sh (.frz (ns.map .int))), some (.sh (.int k)), none, none] := by
    have e1 : fTr (fBin opLt (fVar 1) (fCall gLen (fCons (fVar 0) fNil))) [some (.sh (.frz (ns.map .int))), some (.sh (.int k)), none, none] = .ok (decide ((k : Int) < ns.length)) [some (.sh (.frz (ns.map .int))), some (.sh (.int k)), none, none] := by
      unfold fTr
      rw [bin1 (g := opLt) (f := fVar 1) (h := fCall gLen (fCons (fVar 0) fNil)) (a := .int k) (b := .int ns.length) rfl (cl1 (d := .frz (ns.map .int)) rfl (by simp [gLen])) rfl]
      rfl
    unfold fIf
    rw [e1]
    simp only [Rs.bind]
    by_cases c : (k : Int) < ns.length
    · rw [if_pos (by simpa using c)]
      have hk' : k < ns.length := by omega
      have hix : opIx (.frz (ns.map .int)) (.int (k : Nat)) = some (.int (ns.getD k 0)) := atI_nat (xs := ns.map D.int) (by rw [List.getElem?_map, getD_at hk']; rfl)
      exact ⟨_, cl1 (bin1 (a := .frz (ns.map .int)) (b := .int k) rfl rfl hix) rfl⟩
    · rw [if_neg (by simpa using c)]
      have w1 := wid_s (i := 61) (by decide)
      have w2 := wid_s (i := (k : Int)) (by omega)
      exact ⟨_, bin1 (bin1 (a := .int 61) (b := .int k) (r := .int (61 * k)) rfl rfl (by simp [opMul, w1, w2])) (b := .int 17) rfl rfl⟩
  obtain ⟨cell, eA⟩ := hx
  generalize ha : (if cell < 0 then -cell else cell) = ab at *
  have w10 := wid_200 (i := 10 ^ 60) (by decide)
  have eB : fBin opMod (fCall gMax (fCons (fC (.int 0)) (fCons (fBin opSub (fCall gAbs (fCons (fVar 2) fNil)) (fBin opPow (fC (.int 10)) (fC (.int 16)))) fNil))) (fBin opMul (fBin opPow (fC (.int 10)) (fC (.int 60))) (fBin opPow (fC (.int 10)) (fC (.int 60)))) [some (.sh (.frz (ns.map .int))), some (.sh (.int k)), some (.sh (.int cell)), none] =
      .ok (.int ((if ab - 10 ^ 16 > 0 then ab - 10 ^ 16 else 0) % (10 ^ 60 * 10 ^ 60))) [some (.sh (.frz (ns.map .int))), some (.sh (.int k)), some (.sh (.int cell)), none] := by
    refine bin1 (cl2 (d := .int 0) (e := .int (ab - 10 ^ 16)) rfl (bin1 (cl1 (d := .int cell) rfl (r := .int ab) (by simp only [gAbs, ha])) (bin1 (a := .int 10) (b := .int 16) rfl rfl (pow_ok (j := 16) (by decide))) rfl) rfl) (bin1 (bin1 (a := .int 10) (b := .int 60) rfl rfl (pow_ok (j := 60) (by decide))) (bin1 (a := .int 10) (b := .int 60) rfl rfl (pow_ok (j := 60) (by decide))) (r := .int (10 ^ 60 * 10 ^ 60)) ?_) ?_
    · simp only [opMul, w10, Bool.and_self, if_true]
    · simp only [opMod]
      rw [if_pos (by decide)]
  generalize hv : (if ab - 10 ^ 16 > 0 then ab - 10 ^ 16 else 0) % (10 ^ 60 * 10 ^ 60 : Int) = v at eB
  have mb : 0 ≤ ab % 1152921504606846869 ∧ ab % 1152921504606846869 < 1152921504606846869 := ⟨Int.emod_nonneg _ (by decide), Int.emod_lt_of_pos _ (by decide)⟩
  have w3 := wid_64 (i := ab % 1152921504606846869) (by omega)
  have w4 := wid_s (i := 43) (by decide)
  have w5 := wid_s (i := 811) (by decide)
  have w6 := wid_s (i := (k : Int)) (by omega)
  have w7 := wid_s (i := 29) (by decide)
  have w8 : ∀ z : Bool, wid (if z then 1 else 0) = true := fun z => wid_s (by cases z <;> decide)
  have eC := lst3 (ρ := [some (.sh (.frz (ns.map .int))), some (.sh (.int k)), some (.sh (.int cell)), some (.sh (.int v))]) (f := fVar 3) (h := fC (.int 0)) (x := .int v) (z := .int 0)
    (g := fBin opAdd (fBin opAdd (fBin opAdd (fBin opMul (fBin opMod (fCall gAbs (fCons (fVar 2) fNil)) (fC (.int 1152921504606846869))) (fC (.int 43))) (fBin opMul (fC (.int 811)) (fVar 1))) (fBin opMul (fC (.int 29)) (fCall gInt (fCons (fBin opLt (fVar 2) (fC (.int 0))) fNil)))) (fC (.int 5))) rfl
    (bin1 (bin1 (bin1 (bin1 (bin1 (cl1 (d := .int cell) rfl (r := .int ab) (by simp only [gAbs, ha])) (b := .int 1152921504606846869) rfl (r := .int (ab % 1152921504606846869)) (by simp [opMod])) (b := .int 43) rfl (r := .int (ab % 1152921504606846869 * 43)) (by simp [opMul, w3, w4])) (bin1 (a := .int 811) (b := .int k) rfl rfl (r := .int (811 * k)) (by simp [opMul, w5, w6])) rfl)
      (bin1 (a := .int 29) rfl (cl1 (d := .bl (decide (cell < 0))) (bin1 (a := .int cell) (b := .int 0) rfl rfl rfl) rfl) (r := .int (29 * (if decide (cell < 0) then 1 else 0))) (by simp only [opMul, w7, w8, Bool.and_self, if_true])) rfl) (b := .int 5) rfl rfl) rfl
  exact ⟨_, shape_dice eA eB eC, _, _, 0, rfl, by decide, by decide⟩
end Dl
end
section
set_option maxHeartbeats 4000000
namespace Dl
open PySem PySem.Spec PyProof.Rows L2
theorem forD_inv {K : Nat} {I : Nat → En → Prop} {g : D → En → Rs Unit} {fb : En → Rs Fl} : ∀ (es : List D) (k : Nat) (ρ : En), (∀ e ∈ es, ∀ k ρ, I k ρ → k < K → ∃ ρ1 ρ2, g e ρ = .ok () ρ1 ∧ fb ρ1 = .ok .nx ρ2 ∧ I (k + 1) ρ2) → k + es.length ≤ K → I k ρ → ∃ ρ', forD g fb es ρ = .ok .nx ρ' ∧ I (k + es.length) ρ'
  | [], k, ρ, _, _, h => ⟨ρ, rfl, h⟩
  | e :: es, k, ρ, st, hl, h => by
    simp only [List.length_cons] at hl
    obtain ⟨ρ1, ρ2, e1, e2, h2⟩ := st e List.mem_cons_self k ρ h (by omega)
    obtain ⟨ρ', e3, h3⟩ := forD_inv es (k + 1) ρ2 (fun x hx => st x (List.mem_cons_of_mem _ hx)) (by omega) h2
    refine ⟨ρ', ?_, by rw [List.length_cons, show k + (es.length + 1) = k + 1 + es.length by omega]; exact h3⟩
    unfold forD
    rw [e1]
    dsimp only
    rw [e2]
    exact e3
theorem fnO2 {F : List D → Fr} {f : En → Rs D} {a b : Option Sl} {r0 r1 : En} {d d1 e r d' : D} (h : f (a :: b :: some (.ow d) :: r0) = .ok e (a :: b :: some (.ow d1) :: r1)) (hF : F [d1, e] = .ok r [d']) : fFn [some 2, none] F (fLent 2 (fCons f fNil)) (a :: b :: some (.ow d) :: r0) = .ok r (a :: b :: some (.ow d') :: r1) := by
  simp [fFn, fLent, owned, fCons, fNil, h, Rs.bind, mixD, hF, putB, putSl]
theorem inner_step {a b : Option Sl} {r0 : En} {d : D} {m : Nat} (hd : Dice m d) (hm : m ≤ 500) : ∃ d', fIfS (fNotB (fTr (fFn [some 2, none] F__law_right (fLent 2 (fCons (fFn [some 2, none] F__law_order (fLent 2 (fCons (fBin opAdd (fC (.int 1)) (fFn [some 2, none] F__law_roll (fLent 2 (fCons (fC (.int 8)) fNil)))) fNil))) fNil))))) (fRet (fC (.bl false))) fSkip (a :: b :: some (.ow d) :: r0) = .ok .nx (a :: b :: some (.ow d') :: r0) ∧ Dice (m + 21) d' := by
  obtain ⟨r, d1, e1, r0', r1, hd1⟩ := c_roll hd (by omega) (t := 8) (by decide) (by decide)
  obtain ⟨ys, d2, e2, hv, hd2⟩ := c_order (n := (1 + r).toNat) (by omega) (by omega) hd1 (by omega)
  rw [show (((1 + r).toNat : Nat) : Int) = 1 + r by omega] at e2
  obtain ⟨d3, e3, hd3⟩ := c_right hv hd2 (by omega)
  refine ⟨d3, ?_, dice_mono hd3 (by omega)⟩
  have q1 : fBin opAdd (fC (.int 1)) (fFn [some 2, none] F__law_roll (fLent 2 (fCons (fC (.int 8)) fNil))) (a :: b :: some (.ow d) :: r0) = .ok (.int (1 + r)) (a :: b :: some (.ow d1) :: r0) := bin1 (a := .int 1) rfl (fnO2 rfl e1) rfl
  have q2 := fnO2 (fnO2 q1 e2) e3
  unfold fIfS fNotB fTr
  rw [q2]
  rfl
end Dl
end
section
set_option maxHeartbeats 4000000
namespace Dl
open PySem PySem.Spec PyProof.Rows L2
abbrev innerB : En → Rs Fl := fIfS (fNotB (fTr (fFn [some 2, none] F__law_right (fLent 2 (fCons (fFn [some 2, none] F__law_order (fLent 2 (fCons (fBin opAdd (fC (.int 1)) (fFn [some 2, none] F__law_roll (fLent 2 (fCons (fC (.int 8)) fNil)))) fNil))) fNil))))) (fRet (fC (.bl false))) fSkip
def InI (S sp : Option Sl) (k : Nat) (ρ : En) : Prop := ∃ d s3, ρ = [S, sp, some (.ow d), s3, none, none] ∧ Dice (21 * k) d ∧ (s3 = none ∨ ∃ z, s3 = some (Sl.sh z))
theorem inner_loop {S sp s3 : Option Sl} {d : D} (h3 : s3 = none ∨ ∃ z, s3 = some (Sl.sh z)) (hd : Dice 0 d) : ∃ d' t3, fFor (iRg1 (fC (.int 3))) (gN 3) innerB [S, sp, some (.ow d), s3, none, none] = .ok .nx [S, sp, some (.ow d'), t3, none, none] ∧ (t3 = none ∨ ∃ z, t3 = some (Sl.sh z)) := by
  obtain ⟨ρ', e, d', t3, rfl, _, ht⟩ := forD_inv (K := 3) (I := InI S sp) (g := gN 3) (fb := innerB) ((List.range 3).map fun (k : Nat) => D.int (k : Nat)) 0 [S, sp, some (.ow d), s3, none, none] (by
    intro e he k ρ hI hk
    obtain ⟨d0, s, rfl, hd0, hs⟩ := hI
    obtain ⟨d1, e1, hd1⟩ := inner_step (a := S) (b := sp) (r0 := [some (.sh e), none, none]) hd0 (by omega)
    refine ⟨[S, sp, some (.ow d0), some (.sh e), none, none], _, by rcases hs with rfl | ⟨z, rfl⟩ <;> rfl, e1, d1, some (.sh e), rfl, by rw [show 21 * (k + 1) = 21 * k + 21 by omega]; exact hd1, .inr ⟨e, rfl⟩⟩) (by simp) ⟨d, s3, rfl, hd, h3⟩
  refine ⟨d', t3, ?_, ht⟩
  unfold fFor
  rw [iRg1_ok (fa := fC (.int 3)) (j := 3) rfl (by omega)]
  exact e
def OutI (S : D) (_ : Nat) (ρ : En) : Prop := ∃ s1 s2 s3, ρ = [some (.sh S), s1, s2, s3, none, none] ∧ (s1 = none ∨ ∃ z, s1 = some (Sl.sh z)) ∧ (s2 = none ∨ ∃ z, s2 = some (Sl.ow z)) ∧ (s3 = none ∨ ∃ z, s3 = some (Sl.sh z))
theorem outer_loop {ns : List Int} : ∃ s1 s2 s3, fFor (iRg1 (fCall gMax (fCons (fC (.int 1)) (fCons (fCall gMin (fCons (fC (.int 3)) (fCons (fCall gLen (fCons (fVar 0) fNil)) fNil))) fNil)))) (gN 1) (fSeq (fSetL 2 (fFn [none, none] F__law_dice (fCons (fVar 0) (fCons (fVar 1) fNil)))) (fFor (iRg1 (fC (.int 3))) (gN 3) innerB)) [some (.sh (.frz (ns.map .int))), none, none, none, none, none] = .ok .nx [some (.sh (.frz (ns.map .int))), s1, s2, s3, none, none] := by
  obtain ⟨t, ht, t1, t2⟩ : ∃ t : Nat, (if (if (ns.length : Int) < 3 then (ns.length : Int) else 3) > 1 then (if (ns.length : Int) < 3 then (ns.length : Int) else 3) else 1) = (t : Int) ∧ 1 ≤ t ∧ t ≤ 3 := by
    refine ⟨(if (if (ns.length : Int) < 3 then (ns.length : Int) else 3) > 1 then (if (ns.length : Int) < 3 then (ns.length : Int) else 3) else 1).toNat, ?_, ?_, ?_⟩ <;> split <;> split <;> omega
  have e0 : iRg1 (fCall gMax (fCons (fC (.int 1)) (fCons (fCall gMin (fCons (fC (.int 3)) (fCons (fCall gLen (fCons (fVar 0) fNil)) fNil))) fNil))) [some (.sh (.frz (ns.map .int))), none, none, none, none, none] = .ok ((List.range t).map fun (k : Nat) => D.int (k : Nat)) [some (.sh (.frz (ns.map .int))), none, none, none, none, none] := by
    have := iRg1_ok (cl2 (g := gMax) (f := fC (.int 1)) (ρ := [some (.sh (.frz (ns.map .int))), none, none, none, none, none]) (d := .int 1) rfl (cl2 (g := gMin) (f := fC (.int 3)) (d := .int 3) rfl (cl1 (f := fVar 0) (d := .frz (ns.map .int)) rfl (r := .int ns.length) (by simp [gLen] : gLen [.frz (ns.map D.int)] = some (.int ns.length))) rfl) (congrArg (fun z => some (D.int z)) ht)) (by omega)
    rw [this, Int.toNat_natCast]
  obtain ⟨ρ', e, s1, s2, s3, rfl, _⟩ := forD_inv (K := 3) (I := OutI (.frz (ns.map .int))) (g := gN 1) (fb := fSeq (fSetL 2 (fFn [none, none] F__law_dice (fCons (fVar 0) (fCons (fVar 1) fNil)))) (fFor (iRg1 (fC (.int 3))) (gN 3) innerB)) ((List.range t).map fun (k : Nat) => D.int (k : Nat)) 0 [some (.sh (.frz (ns.map .int))), none, none, none, none, none] (by
    intro e he k ρ hI hk
    obtain ⟨s1, s2, s3, rfl, h1, h2, h3⟩ := hI
    obtain ⟨j, hj, rfl⟩ := List.mem_map.mp he
    have hj' := List.mem_range.mp hj
    obtain ⟨dd, ed, hdd⟩ := c_dice (ns := ns) (k := j) (by omega)
    obtain ⟨d', t3, el, ht3⟩ := inner_loop (S := some (.sh (.frz (ns.map .int)))) (sp := some (.sh (.int (j : Nat)))) (s3 := s3) h3 hdd
    refine ⟨[some (.sh (.frz (ns.map .int))), some (.sh (.int (j : Nat))), s2, s3, none, none], _, by rcases h1 with rfl | ⟨z, rfl⟩ <;> rfl, sq (ρ1 := [some (.sh (.frz (ns.map .int))), some (.sh (.int (j : Nat))), some (.ow dd), s3, none, none]) ?_ el, _, _, _, rfl, .inr ⟨_, rfl⟩, .inr ⟨_, rfl⟩, ht3⟩
    unfold fSetL
    rw [fn2 (f := fVar 0) (g := fVar 1) (d := .frz (ns.map .int)) (e := .int (j : Nat)) rfl rfl ed]
    simp only [Rs.bind]
    rcases h2 with rfl | ⟨z, rfl⟩ <;> rfl) (by simp; omega) ⟨none, none, none, rfl, .inl rfl, .inl rfl, .inl rfl⟩
  refine ⟨s1, s2, s3, ?_⟩
  unfold fFor
  rw [e0]
  exact e
end Dl
end
section
set_option maxHeartbeats 4000000
namespace Dl
open PySem PySem.Spec PyProof.Rows L2
abbrev x0 : List Int := [2, 5, 3, 8]
theorem valid0 : Valid x0 := ⟨by decide, fun i x h => by rcases i with _ | _ | _ | _ | i <;> simp [x0] at h ⊢ <;> omega, by decide⟩
theorem eq_O {xs : List Int} : u_opEq (O xs) (O xs) = some (.bl true) := by
  have e := isI_O (xs := xs) (m := Str.empty) (by decide)
  have n1 : opEq (O xs) (O xs) = none := by simp [opEq, deq, O, D.py]
  have n2 : opOwn "Order" F_Order___eq__ false (O xs) (O xs) = some (.bl true) := by simp [opOwn, e, c_eq]
  unfold u_opEq orG
  rw [n1]
  dsimp only
  rw [n2]
theorem lst4 {f g h k : En → Rs D} {ρ : En} {x y z w : D} (a : f ρ = .ok x ρ) (b : g ρ = .ok y ρ) (c : h ρ = .ok z ρ) (e : k ρ = .ok w ρ) : fLst (fCons f (fCons g (fCons h (fCons k fNil)))) ρ = .ok (.lst [x, y, z, w]) ρ := by
  have q : 4 ≤ sizeLine := by decide
  simp [fLst, fCons, fNil, a, b, c, e, Rs.bind, q]
theorem tup4 {f g h k : En → Rs D} {ρ : En} {x y z w : D} (a : f ρ = .ok x ρ) (b : g ρ = .ok y ρ) (c : h ρ = .ok z ρ) (e : k ρ = .ok w ρ) : fTup (fCons f (fCons g (fCons h (fCons k fNil)))) ρ = .ok (.tup [x, y, z, w]) ρ := by
  have q : 4 ≤ sizeLine := by decide
  simp [fTup, fCons, fNil, a, b, c, e, Rs.bind, q]
theorem end_law {S : D} {s1 s2 s3 s4 s5 : Option Sl} {f : En → Rs Fl} (h : f [some (.sh S), none, none, none, none, none] = .ok (.ret (.bl true)) [some (.sh S), s1, s2, s3, s4, s5]) : bodyF [false] 6 f [S] = .ok (.bl true) [] := by
  simp [bodyF, enE, h, bosD]
theorem d0 : dualL x0 = [2, 5, 7, 4] := by decide
theorem m0 : mirrL x0 = [5, 2, 4, 7] := by decide
theorem t0 : turnL x0 1 = [5, 3, 6, 4] := by decide
theorem t5 : turnL x0 (-5) = turnL x0 3 := by decide
theorem eq_told (a b c : List Int) : u_opEq (.lst [T a, T b, T c, .bl true]) (.lst [T a, T b, T c, .bl true]) = some (.bl true) := by
  have e := (eq_refl (d := .lst [T a, T b, T c, .bl true]) (x := .list [.tuple (a.map .int), .tuple (b.map .int), .tuple (c.map .int), .bool true]) (by
    show (pyAll [T a, T b, T c, .bl true]).map _ = _
    simp [pyAll, T_py, D.py]) (by
    unfold SeqAt.shaped
    simp [PyData.canLay0, PyData.canLayAll0, PyData.depth, PyData.depthAll, dep_ints, lay_ints])).1
  unfold u_opEq orG
  rw [e]
theorem c_law (ns : List Int) : F_law [.frz (ns.map .int)] = .ok (.bl true) [] := by
  obtain ⟨s1, s2, s3, e1⟩ := outer_loop (ns := ns)
  unfold F_law m_law
  refine end_law (s1 := s1) (s2 := s2) (s3 := s3) (s4 := some (.sh (O x0))) (s5 := some (.sh (.lst [T [2, 5, 7, 4], T [5, 2, 4, 7], T [5, 3, 6, 4], .bl true]))) ?_
  refine sq e1 ?_
  refine sq (set1 (mk_O (ys := x0) (tup4 rfl rfl rfl rfl) valid0) rfl) ?_
  have q1 := prop1 (xs := x0) (f := fVar 4) (ρ := [some (.sh (.frz (ns.map .int))), s1, s2, s3, some (.sh (O x0)), none]) rfl (cD valid0)
  have q2 := prop1 (xs := x0) (f := fVar 4) (ρ := [some (.sh (.frz (ns.map .int))), s1, s2, s3, some (.sh (O x0)), none]) rfl (cM valid0)
  have q3 := tu (f := fVar 4) (g := fC (.int 1)) (ρ := [some (.sh (.frz (ns.map .int))), s1, s2, s3, some (.sh (O x0)), none]) (e := 1) valid0 rfl rfl (by decide) (by decide)
  have q4 := tu (f := fVar 4) (g := fUn opNeg (fC (.int 5))) (ρ := [some (.sh (.frz (ns.map .int))), s1, s2, s3, some (.sh (O x0)), none]) (e := -5) valid0 rfl rfl (by decide) (by decide)
  have q5 := tu (f := fVar 4) (g := fC (.int 3)) (ρ := [some (.sh (.frz (ns.map .int))), s1, s2, s3, some (.sh (O x0)), none]) (e := 3) valid0 rfl rfl (by decide) (by decide)
  rw [d0] at q1
  rw [m0] at q2
  rw [t0] at q3
  rw [t5] at q4
  refine sq (set1 (lst4 (prop1 q1 c_numbers) (prop1 q2 c_numbers) (prop1 q3 c_numbers) (bin1 q4 q5 eq_O)) rfl) ?_
  refine sqr (bin1 (a := .lst [T [2, 5, 7, 4], T [5, 2, 4, 7], T [5, 3, 6, 4], .bl true]) rfl ?_ (eq_told [2, 5, 7, 4] [5, 2, 4, 7] [5, 3, 6, 4]))
  exact lst4 (tup4 rfl rfl rfl rfl) (tup4 rfl rfl rfl rfl) (tup4 rfl rfl rfl rfl) rfl
end Dl
end
namespace Dl
open PySem PySem.Spec PyProof.Rows L2
def d__law_dice : He5.DefA := ⟨fun K => (He.ga K "_law_dice"), "_law_dice", "_law_dice", defArgs s__law_dice, defBody s__law_dice, defScope s__law_dice, [], []⟩
def d_is_whole : He5.DefA := ⟨fun K => (He.ga K "is_whole"), "is_whole", "is_whole", defArgs s_is_whole, defBody s_is_whole, defScope s_is_whole, [], []⟩
def d_is_integer : He5.DefA := ⟨fun K => (He.ga K "is_integer"), "is_integer", "is_integer", defArgs s_is_integer, defBody s_is_integer, defScope s_is_integer, [], []⟩
def d_rest_of : He5.DefA := ⟨fun K => (He.ga K "rest_of"), "rest_of", "rest_of", defArgs s_rest_of, defBody s_rest_of, defScope s_rest_of, [], []⟩
def d_are_numbers : He5.DefA := ⟨fun K => (He.ga K "are_numbers"), "are_numbers", "are_numbers", defArgs s_are_numbers, defBody s_are_numbers, defScope s_are_numbers, [], []⟩
def d_Order___init__ : He5.DefA := ⟨fun K => (He.ma K (He.ga K "Order") "__init__"), "__init__", "Order.__init__", defArgs s_Order___init__, defBody s_Order___init__, defScope s_Order___init__, [], []⟩
def d__law_roll : He5.DefA := ⟨fun K => (He.ga K "_law_roll"), "_law_roll", "_law_roll", defArgs s__law_roll, defBody s__law_roll, defScope s__law_roll, [], []⟩
def d__law_pick : He5.DefA := ⟨fun K => (He.ga K "_law_pick"), "_law_pick", "_law_pick", defArgs s__law_pick, defBody s__law_pick, defScope s__law_pick, [], []⟩
def d_brought : He5.DefA := ⟨fun K => (He.ga K "brought"), "brought", "brought", defArgs s_brought, defBody s_brought, defScope s_brought, [], []⟩
def d_Order_dual : He5.DefA := ⟨fun K => (ge K (He.ga K "Order") "dual"), "dual", "Order.dual", defArgs s_Order_dual, defBody s_Order_dual, defScope s_Order_dual, [], []⟩
def d_Order_mirrored : He5.DefA := ⟨fun K => (ge K (He.ga K "Order") "mirrored"), "mirrored", "Order.mirrored", defArgs s_Order_mirrored, defBody s_Order_mirrored, defScope s_Order_mirrored, [], []⟩
def d_Order_turned : He5.DefA := ⟨fun K => (He.ma K (He.ga K "Order") "turned"), "turned", "Order.turned", defArgs s_Order_turned, defBody s_Order_turned, defScope s_Order_turned, [], []⟩
def d__law_standing : He5.DefA := ⟨fun K => (He.ga K "_law_standing"), "_law_standing", "_law_standing", defArgs s__law_standing, defBody s__law_standing, defScope s__law_standing, [], []⟩
def d__law_dual_of : He5.DefA := ⟨fun K => (He.ga K "_law_dual_of"), "_law_dual_of", "_law_dual_of", defArgs s__law_dual_of, defBody s__law_dual_of, defScope s__law_dual_of, [], []⟩
def d__law_mirrored_of : He5.DefA := ⟨fun K => (He.ga K "_law_mirrored_of"), "_law_mirrored_of", "_law_mirrored_of", defArgs s__law_mirrored_of, defBody s__law_mirrored_of, defScope s__law_mirrored_of, [], []⟩
def d__law_value : He5.DefA := ⟨fun K => (He.ga K "_law_value"), "_law_value", "_law_value", defArgs s__law_value, defBody s__law_value, defScope s__law_value, [], []⟩
def d__law_turned_of : He5.DefA := ⟨fun K => (He.ga K "_law_turned_of"), "_law_turned_of", "_law_turned_of", defArgs s__law_turned_of, defBody s__law_turned_of, defScope s__law_turned_of, [], []⟩
def d_Order_numbers : He5.DefA := ⟨fun K => (ge K (He.ga K "Order") "numbers"), "numbers", "Order.numbers", defArgs s_Order_numbers, defBody s_Order_numbers, defScope s_Order_numbers, [], []⟩
def d_falling_in : He5.DefA := ⟨fun K => (He.ga K "falling_in"), "falling_in", "falling_in", defArgs s_falling_in, defBody s_falling_in, defScope s_falling_in, [], []⟩
def d_value_at : He5.DefA := ⟨fun K => (He.ga K "value_at"), "value_at", "value_at", defArgs s_value_at, defBody s_value_at, defScope s_value_at, [], []⟩
def d_knots_in : He5.DefA := ⟨fun K => (He.ga K "knots_in"), "knots_in", "knots_in", defArgs s_knots_in, defBody s_knots_in, defScope s_knots_in, [], []⟩
def d_Order_size : He5.DefA := ⟨fun K => (ge K (He.ga K "Order") "size"), "size", "Order.size", defArgs s_Order_size, defBody s_Order_size, defScope s_Order_size, [], []⟩
def d_Order_level : He5.DefA := ⟨fun K => (ge K (He.ga K "Order") "level"), "level", "Order.level", defArgs s_Order_level, defBody s_Order_level, defScope s_Order_level, [], []⟩
def d_Order_marks : He5.DefA := ⟨fun K => (ge K (He.ga K "Order") "marks"), "marks", "Order.marks", defArgs s_Order_marks, defBody s_Order_marks, defScope s_Order_marks, [], []⟩
def d_Order_ends : He5.DefA := ⟨fun K => (ge K (He.ga K "Order") "ends"), "ends", "Order.ends", defArgs s_Order_ends, defBody s_Order_ends, defScope s_Order_ends, [], []⟩
def d_Order___eq__ : He5.DefA := ⟨fun K => (He.ma K (He.ga K "Order") "__eq__"), "__eq__", "Order.__eq__", defArgs s_Order___eq__, defBody s_Order___eq__, defScope s_Order___eq__, [], []⟩
def d__law_right : He5.DefA := ⟨fun K => (He.ga K "_law_right"), "_law_right", "_law_right", defArgs s__law_right, defBody s__law_right, defScope s__law_right, [], []⟩
def d__law_mixed : He5.DefA := ⟨fun K => (He.ga K "_law_mixed"), "_law_mixed", "_law_mixed", defArgs s__law_mixed, defBody s__law_mixed, defScope s__law_mixed, [], []⟩
def d__law_order : He5.DefA := ⟨fun K => (He.ga K "_law_order"), "_law_order", "_law_order", defArgs s__law_order, defBody s__law_order, defScope s__law_order, [], []⟩
def d_law : He5.DefA := ⟨fun K => (He.ga K "law"), "law", "law", defArgs s_law, defBody s_law, defScope s_law, [], []⟩
def fnl : List He5.DefA := [d__law_dice, d_is_whole, d_is_integer, d_rest_of, d_are_numbers, d_Order___init__, d__law_roll, d__law_pick, d_brought, d_Order_dual, d_Order_mirrored, d_Order_turned, d__law_standing, d__law_dual_of, d__law_mirrored_of, d__law_value, d__law_turned_of, d_Order_numbers, d_falling_in, d_value_at, d_knots_in, d_Order_size, d_Order_level, d_Order_marks, d_Order_ends, d_Order___eq__, d__law_right, d__law_mixed, d__law_order, d_law]
def exl (K : PySem.W.Frag) : List Bool := [(He.Fa.free "abs").ok K,
  (He.Fa.free "all").ok K,
  (He.Fa.free "bool").ok K,
  (He.Fa.free "dict").ok K,
  (He.Fa.free "enumerate").ok K,
  (He.Fa.free "int").ok K,
  (He.Fa.free "isinstance").ok K,
  (He.Fa.free "len").ok K,
  (He.Fa.free "list").ok K,
  (He.Fa.free "max").ok K,
  (He.Fa.free "min").ok K,
  (He.Fa.free "range").ok K,
  (He.Fa.free "set").ok K,
  (He.Fa.free "sorted").ok K,
  (He.Fa.free "tuple").ok K,
  (He.Fa.int "GREAT" (1000000000000000000000000000000000000000000000000000000000000)).ok K,
  (He.Fa.int "MOST" (8)).ok K,
  (He.Fa.glo "_law_dice").ok K,
  (He.Fa.glo "is_whole").ok K,
  (He.Fa.glo "is_integer").ok K,
  (He.Fa.glo "rest_of").ok K,
  (He.Fa.glo "are_numbers").ok K,
  (He.Fa.glo "_law_roll").ok K,
  (He.Fa.glo "_law_pick").ok K,
  (He.Fa.glo "brought").ok K,
  propB K (He.ga K "Order") "dual",
  propB K (He.ga K "Order") "mirrored",
  (He.Fa.meth "Order" "turned").ok K,
  (He.Fa.glo "_law_standing").ok K,
  (He.Fa.glo "_law_dual_of").ok K,
  (He.Fa.glo "_law_mirrored_of").ok K,
  (He.Fa.glo "_law_value").ok K,
  (He.Fa.glo "_law_turned_of").ok K,
  propB K (He.ga K "Order") "numbers",
  (He.Fa.glo "falling_in").ok K,
  (He.Fa.glo "value_at").ok K,
  (He.Fa.glo "knots_in").ok K,
  propB K (He.ga K "Order") "size",
  propB K (He.ga K "Order") "level",
  propB K (He.ga K "Order") "marks",
  propB K (He.ga K "Order") "ends",
  (He.Fa.meth "Order" "__eq__").ok K,
  (He.Fa.glo "_law_right").ok K,
  (He.Fa.glo "_law_mixed").ok K,
  (He.Fa.glo "_law_order").ok K,
  (He.Fa.glo "law").ok K,
  (He.Fa.cls "Order").ok K,
  (He.Fa.glo "Order").ok K,
  (He.Fa.mkr "Order").ok K,
  insCB K (He.ga K "Order"),
  eqB K (He.ga K "Order"),
  (He.Fa.noat "Order" "own_numbers").ok K]
def exB (K : PySem.W.Frag) : Bool := (exl K).all id
theorem ex_at {K : PySem.W.Frag} (h : exB K = true) (i : Nat) {b : Bool} (e : (exl K)[i]? = some b) : b = true := List.all_eq_true.mp h b (List.mem_of_getElem? e)
def clK (K : PySem.W.Frag) : Str → Option Addr := fun c => if c = "Order" then some (He.ga K "Order") else  none
theorem txt_of {K : PySem.W.Frag} {h : Heap} {mg : Str → Option Value} (X : K.In h) (G : h.Ns mainGlobals mg) (c : SaysZ exB fnl K) : Txt K mg (clK K) := by
  have e := c.more
  exact {
    b_abs := He.free_ok X G (ex_at e 0 rfl)
    b_all := He.free_ok X G (ex_at e 1 rfl)
    b_bool := He.free_ok X G (ex_at e 2 rfl)
    b_dict := He.free_ok X G (ex_at e 3 rfl)
    b_enumerate := He.free_ok X G (ex_at e 4 rfl)
    b_int := He.free_ok X G (ex_at e 5 rfl)
    b_isinstance := He.free_ok X G (ex_at e 6 rfl)
    b_len := He.free_ok X G (ex_at e 7 rfl)
    b_list := He.free_ok X G (ex_at e 8 rfl)
    b_max := He.free_ok X G (ex_at e 9 rfl)
    b_min := He.free_ok X G (ex_at e 10 rfl)
    b_range := He.free_ok X G (ex_at e 11 rfl)
    b_set := He.free_ok X G (ex_at e 12 rfl)
    b_sorted := He.free_ok X G (ex_at e 13 rfl)
    b_tuple := He.free_ok X G (ex_at e 14 rfl)
    c_GREAT := He.int_ok X G (ex_at e 15 rfl)
    c_MOST := He.int_ok X G (ex_at e 16 rfl)
    u__law_dice := (c.def_ (d := d__law_dice) (List.mem_of_getElem? (i := 0) rfl)).imp fun _ F => He5.fun_of F
    g__law_dice := He.glo_ok X G (ex_at e 17 rfl)
    k__law_dice := (c.def_ (d := d__law_dice) (List.mem_of_getElem? (i := 0) rfl)).elim fun _ F => F.kp
    u_is_whole := (c.def_ (d := d_is_whole) (List.mem_of_getElem? (i := 1) rfl)).imp fun _ F => He5.fun_of F
    g_is_whole := He.glo_ok X G (ex_at e 18 rfl)
    k_is_whole := (c.def_ (d := d_is_whole) (List.mem_of_getElem? (i := 1) rfl)).elim fun _ F => F.kp
    u_is_integer := (c.def_ (d := d_is_integer) (List.mem_of_getElem? (i := 2) rfl)).imp fun _ F => He5.fun_of F
    g_is_integer := He.glo_ok X G (ex_at e 19 rfl)
    k_is_integer := (c.def_ (d := d_is_integer) (List.mem_of_getElem? (i := 2) rfl)).elim fun _ F => F.kp
    u_rest_of := (c.def_ (d := d_rest_of) (List.mem_of_getElem? (i := 3) rfl)).imp fun _ F => He5.fun_of F
    g_rest_of := He.glo_ok X G (ex_at e 20 rfl)
    k_rest_of := (c.def_ (d := d_rest_of) (List.mem_of_getElem? (i := 3) rfl)).elim fun _ F => F.kp
    u_are_numbers := (c.def_ (d := d_are_numbers) (List.mem_of_getElem? (i := 4) rfl)).imp fun _ F => He5.fun_of F
    g_are_numbers := He.glo_ok X G (ex_at e 21 rfl)
    k_are_numbers := (c.def_ (d := d_are_numbers) (List.mem_of_getElem? (i := 4) rfl)).elim fun _ F => F.kp
    u_Order___init__ := (c.def_ (d := d_Order___init__) (List.mem_of_getElem? (i := 5) rfl)).imp fun _ F => He5.fun_of F
    u__law_roll := (c.def_ (d := d__law_roll) (List.mem_of_getElem? (i := 6) rfl)).imp fun _ F => He5.fun_of F
    g__law_roll := He.glo_ok X G (ex_at e 22 rfl)
    k__law_roll := (c.def_ (d := d__law_roll) (List.mem_of_getElem? (i := 6) rfl)).elim fun _ F => F.kp
    u__law_pick := (c.def_ (d := d__law_pick) (List.mem_of_getElem? (i := 7) rfl)).imp fun _ F => He5.fun_of F
    g__law_pick := He.glo_ok X G (ex_at e 23 rfl)
    k__law_pick := (c.def_ (d := d__law_pick) (List.mem_of_getElem? (i := 7) rfl)).elim fun _ F => F.kp
    u_brought := (c.def_ (d := d_brought) (List.mem_of_getElem? (i := 8) rfl)).imp fun _ F => He5.fun_of F
    g_brought := He.glo_ok X G (ex_at e 24 rfl)
    k_brought := (c.def_ (d := d_brought) (List.mem_of_getElem? (i := 8) rfl)).elim fun _ F => F.kp
    u_Order_dual := (c.def_ (d := d_Order_dual) (List.mem_of_getElem? (i := 9) rfl)).imp fun _ F => He5.fun_of F
    pr_Order_dual := propB_ok (ex_at e 25 rfl)
    u_Order_mirrored := (c.def_ (d := d_Order_mirrored) (List.mem_of_getElem? (i := 10) rfl)).imp fun _ F => He5.fun_of F
    pr_Order_mirrored := propB_ok (ex_at e 26 rfl)
    u_Order_turned := (c.def_ (d := d_Order_turned) (List.mem_of_getElem? (i := 11) rfl)).imp fun _ F => He5.fun_of F
    m_Order_turned := He.meth_ok (ex_at e 27 rfl)
    u__law_standing := (c.def_ (d := d__law_standing) (List.mem_of_getElem? (i := 12) rfl)).imp fun _ F => He5.fun_of F
    g__law_standing := He.glo_ok X G (ex_at e 28 rfl)
    k__law_standing := (c.def_ (d := d__law_standing) (List.mem_of_getElem? (i := 12) rfl)).elim fun _ F => F.kp
    u__law_dual_of := (c.def_ (d := d__law_dual_of) (List.mem_of_getElem? (i := 13) rfl)).imp fun _ F => He5.fun_of F
    g__law_dual_of := He.glo_ok X G (ex_at e 29 rfl)
    k__law_dual_of := (c.def_ (d := d__law_dual_of) (List.mem_of_getElem? (i := 13) rfl)).elim fun _ F => F.kp
    u__law_mirrored_of := (c.def_ (d := d__law_mirrored_of) (List.mem_of_getElem? (i := 14) rfl)).imp fun _ F => He5.fun_of F
    g__law_mirrored_of := He.glo_ok X G (ex_at e 30 rfl)
    k__law_mirrored_of := (c.def_ (d := d__law_mirrored_of) (List.mem_of_getElem? (i := 14) rfl)).elim fun _ F => F.kp
    u__law_value := (c.def_ (d := d__law_value) (List.mem_of_getElem? (i := 15) rfl)).imp fun _ F => He5.fun_of F
    g__law_value := He.glo_ok X G (ex_at e 31 rfl)
    k__law_value := (c.def_ (d := d__law_value) (List.mem_of_getElem? (i := 15) rfl)).elim fun _ F => F.kp
    u__law_turned_of := (c.def_ (d := d__law_turned_of) (List.mem_of_getElem? (i := 16) rfl)).imp fun _ F => He5.fun_of F
    g__law_turned_of := He.glo_ok X G (ex_at e 32 rfl)
    k__law_turned_of := (c.def_ (d := d__law_turned_of) (List.mem_of_getElem? (i := 16) rfl)).elim fun _ F => F.kp
    u_Order_numbers := (c.def_ (d := d_Order_numbers) (List.mem_of_getElem? (i := 17) rfl)).imp fun _ F => He5.fun_of F
    pr_Order_numbers := propB_ok (ex_at e 33 rfl)
    u_falling_in := (c.def_ (d := d_falling_in) (List.mem_of_getElem? (i := 18) rfl)).imp fun _ F => He5.fun_of F
    g_falling_in := He.glo_ok X G (ex_at e 34 rfl)
    k_falling_in := (c.def_ (d := d_falling_in) (List.mem_of_getElem? (i := 18) rfl)).elim fun _ F => F.kp
    u_value_at := (c.def_ (d := d_value_at) (List.mem_of_getElem? (i := 19) rfl)).imp fun _ F => He5.fun_of F
    g_value_at := He.glo_ok X G (ex_at e 35 rfl)
    k_value_at := (c.def_ (d := d_value_at) (List.mem_of_getElem? (i := 19) rfl)).elim fun _ F => F.kp
    u_knots_in := (c.def_ (d := d_knots_in) (List.mem_of_getElem? (i := 20) rfl)).imp fun _ F => He5.fun_of F
    g_knots_in := He.glo_ok X G (ex_at e 36 rfl)
    k_knots_in := (c.def_ (d := d_knots_in) (List.mem_of_getElem? (i := 20) rfl)).elim fun _ F => F.kp
    u_Order_size := (c.def_ (d := d_Order_size) (List.mem_of_getElem? (i := 21) rfl)).imp fun _ F => He5.fun_of F
    pr_Order_size := propB_ok (ex_at e 37 rfl)
    u_Order_level := (c.def_ (d := d_Order_level) (List.mem_of_getElem? (i := 22) rfl)).imp fun _ F => He5.fun_of F
    pr_Order_level := propB_ok (ex_at e 38 rfl)
    u_Order_marks := (c.def_ (d := d_Order_marks) (List.mem_of_getElem? (i := 23) rfl)).imp fun _ F => He5.fun_of F
    pr_Order_marks := propB_ok (ex_at e 39 rfl)
    u_Order_ends := (c.def_ (d := d_Order_ends) (List.mem_of_getElem? (i := 24) rfl)).imp fun _ F => He5.fun_of F
    pr_Order_ends := propB_ok (ex_at e 40 rfl)
    u_Order___eq__ := (c.def_ (d := d_Order___eq__) (List.mem_of_getElem? (i := 25) rfl)).imp fun _ F => He5.fun_of F
    m_Order___eq__ := He.meth_ok (ex_at e 41 rfl)
    u__law_right := (c.def_ (d := d__law_right) (List.mem_of_getElem? (i := 26) rfl)).imp fun _ F => He5.fun_of F
    g__law_right := He.glo_ok X G (ex_at e 42 rfl)
    k__law_right := (c.def_ (d := d__law_right) (List.mem_of_getElem? (i := 26) rfl)).elim fun _ F => F.kp
    u__law_mixed := (c.def_ (d := d__law_mixed) (List.mem_of_getElem? (i := 27) rfl)).imp fun _ F => He5.fun_of F
    g__law_mixed := He.glo_ok X G (ex_at e 43 rfl)
    k__law_mixed := (c.def_ (d := d__law_mixed) (List.mem_of_getElem? (i := 27) rfl)).elim fun _ F => F.kp
    u__law_order := (c.def_ (d := d__law_order) (List.mem_of_getElem? (i := 28) rfl)).imp fun _ F => He5.fun_of F
    g__law_order := He.glo_ok X G (ex_at e 44 rfl)
    k__law_order := (c.def_ (d := d__law_order) (List.mem_of_getElem? (i := 28) rfl)).elim fun _ F => F.kp
    u_law := (c.def_ (d := d_law) (List.mem_of_getElem? (i := 29) rfl)).imp fun _ F => He5.fun_of F
    g_law := He.glo_ok X G (ex_at e 45 rfl)
    k_law := (c.def_ (d := d_law) (List.mem_of_getElem? (i := 29) rfl)).elim fun _ F => F.kp
    cn_Order := ⟨by simp [clK], He.cls_ok (ex_at e 46 rfl)⟩
    g_Order := He.glo_ok X G (ex_at e 47 rfl)
    mk_Order := He.mkr_ok (ex_at e 48 rfl)
    ic_Order := insCB_ok (He.cls_ok (ex_at e 46 rfl)) (ex_at e 49 rfl)
    eq_Order := ex_at e 50 rfl
    na_Order_own_numbers := He.noat_ok (ex_at e 51 rfl) }
abbrev R0 : PySem.W.OpenRow := PySem.W.OpenLaw.row PySem.Challenge.rw_rimtwists_k21_whole_orders_of_orders
abbrev hkZ : PySem.W.Hook := hookZ 5 exB fnl
def obZ (s : PySem.W.SharedT) : Bool × List He.FnW := obsZG 5 exB fnl (HandSHeadRun.getT s)
theorem obZ_eq (s : PySem.W.SharedT) : obZ s = hkZ.obs s.abs := obsZG_eq (HandSHeadRun.getT_eq s)
def nms : List PySem.Str := (["_wall", "DiscError", "InvalidOrder", "InvalidNumber", "GREAT", "is_whole", "is_integer", "MOST", "rest_of", "are_numbers", "value_at", "brought", "falling_in", "knots_in", "Order", "_law_dice", "_law_roll", "_law_pick", "_law_mixed", "_law_value", "_law_order", "_law_standing", "_law_dual_of", "_law_mirrored_of", "_law_turned_of", "_law_right"] : List PySem.Str)
theorem runZ (w : World) : HandSHeadRun.RunEq R0 (PySem.W.view R0.prog [30]) hkZ obZ 3000 nms w := by
  intro os
  kernel_rfl
end Dl
open PySem PySem.W PySem.Calls PyProof.Rows
theorem holds_of (hlaw : ∀ ns : List Int, ns.length ≤ 63 → Dl.F_law [.frz (ns.map Dl.D.int)] = .ok (.bl true) []) : PySem.Challenge.rw_rimtwists_k21_whole_orders_of_orders.Holds := by
  w_on; o_law
  refine HandSHeadRun.head_any (r := OpenLaw.row PySem.Challenge.rw_rimtwists_k21_whole_orders_of_orders) (q := view (OpenLaw.row PySem.Challenge.rw_rimtwists_k21_whole_orders_of_orders).prog [30]) (H := Dl.hkZ) (ob := Dl.obZ) (M := 3000) (loose := Dl.nms) (d := HandSHeadRun.topDef (OpenLaw.row PySem.Challenge.rw_rimtwists_k21_whole_orders_of_orders).prog 30) (kwd := []) Dl.obZ_eq
    (by kernel_rfl) (fun s => by kernel_rfl) Dl.runZ (by kernel_rfl) (by kernel_rfl) (by kernel_rfl) (by rfl) (by first | assumption | decide +kernel) (by decide +kernel) ⟨rfl, rfl, rfl, rfl, rfl, by decide +kernel⟩ ?hw ?hc
  case hw => w_witness2
  case hc =>
    refine L2.walk_ofE (l := PySem.Challenge.rw_rimtwists_k21_whole_orders_of_orders) (n := 63) (k := 9) (x := "script") (CX := L2.CX0) rfl (by decide) (by kernel_rfl) ⟨rfl, by decide, by decide⟩ ?F (fun _ _ _ _ z => z)
    case F =>
      intro w mg fa h Y G hmg0
      obtain ⟨K, KX, c⟩ := Y
      have hmg : mg ("law" : PySem.Str) = some (.ref fa) := by
        have e : (HandSHeadRun.topDef (OpenLaw.row PySem.Challenge.rw_rimtwists_k21_whole_orders_of_orders).prog 30).name = ("law" : PySem.Str) := by kernel_rfl
        rw [← e]
        exact hmg0
      have T := Dl.txt_of KX G c
      have e := hmg.symm.trans T.g_law
      cases e
      obtain ⟨fd, b, _, F⟩ := Dl.ok_law (P := (PySem.Challenge.rw_rimtwists_k21_whole_orders_of_orders).prog) (w := w) T
      refine ⟨K, fd, Dl.spLaw K, KX, fun s u => b s [u] rfl, fun H a ns hl _ hS => ⟨a, ns, rfl, hS, hl, fun _ => rfl⟩, fun base _ _ => Dl.to_cx0 (F base) (Dl.law_sp hlaw)⟩
theorem PySem.Challenge.cw_rimtwists_k21_whole_orders_of_orders_holds : PySem.Challenge.rw_rimtwists_k21_whole_orders_of_orders.Holds := by
  exact holds_of fun ns _ => Dl.c_law ns
