import PyProof.Rows.All
import Wide.All
import OpenK.AllK
import Wide.FinOn
import HandS.ForMost
import HandS.ForExc
import HandS.Zip
import HandS.Defaults
import HandS.Wide
import HandS.Deep
import HandS.TupAny
import HandS.Text
import HandS.Dict
import HandS.IsInst
import HandS.DictComp
import PyProof.ReprRoads
import HandS.Strs
import OpenK.KOps
import HandS.Conv
import HandS.SetKeys
import HandS.HeadEnd
import HandS.HeadHook2
import HandS.Words
import HandS.Codes
import KE.KStateDown
import HandS.Head0
import HandS.Head1
import HandS.Head2
import PySem.Challenge.RW_timesdone_k77_whole_rings_of_houses
set_option Elab.async false
set_option linter.all false
set_option maxRecDepth 100000
set_option maxHeartbeats 1000000
/-! data as trees, objects that change in a store of one's own; what a reading does, said by a plain function -/
namespace Td
open PySem PySem.Spec PyProof.Rows L2

/-- a datum: what never changes is a tree (rol: a list that is only read), what changes is a place of the store -/
inductive D where
  | non | bl (b : Bool) | int (i : Int) | str (x : Str) | tup (ds : List D) | rol (ds : List D) | ref (l : Nat) | ty (n : String) | obj (x : Str)

/-- what stands at a place of the store: a list, a dict, an instance of the class of that name -/
inductive Cell where
  | lst (xs : List D) | dct (kvs : List (D × D)) | ins (C : Str) (fs : List (Str × D))
abbrev Sto := List Cell
abbrev Sl := L2.St

/-- an exception: its class, and what it tells -/
structure Exn where
  cls : Str
  at_ : Option D

inductive Res (α : Type) where
  | ok (a : α) | exn (x : Exn)

/-- where the objects are: the written part, the classes' addresses -/
structure Gx where
  K : PySem.W.Frag
  cad : Str → Addr

/-- a list that is only read -/
def RoL (K : PySem.W.Frag) (H : Hp) (a : Addr) (xs : List V) : Prop :=
  (∃ o, H a = some (.frz o (.lst xs))) ∨
    ∃ (o : Obj) (its : Array Value) (n : Nat), K.lookup a = some o ∧ o.cls = .type "list" ∧ o.dict = none ∧ o.data = .seq its n ∧ its.size ≤ sizeLine ∧ Vals xs its.toList
theorem RoL.sqL {K : PySem.W.Frag} {H : Hp} {a : Addr} {xs : List V} (h : RoL K H a xs) : SqL K H a xs := by
  rcases h with h | h
  · exact .inl (.inr h)
  · exact .inr h
section
variable (G : Gx) (H : Hp) (L : List Addr)
mutual
def Rep : D → V → Prop
  | .non, v => v = .non
  | .bl b, v => v = .bl b
  | .int i, v => v = .int i
  | .str x, v => v = .str x
  | .tup ds, v => ∃ a vs, v = .ref a ∧ SqT G.K H a vs ∧ Reps ds vs
  | .rol ds, v => ∃ a vs, v = .ref a ∧ RoL G.K H a vs ∧ Reps ds vs
  | .ref l, v => ∃ a, v = .ref a ∧ L[l]? = some a
  | .ty n, v => v = .ty n
  | .obj x, v => v = .ref (G.cad x)
def Reps : List D → List V → Prop
  | [], vs => vs = []
  | d :: ds, vs => ∃ v r, vs = v :: r ∧ Rep d v ∧ Reps ds r
end
def keyD : D → Option Key
  | .int i => some (.inl i)
  | .str x => some (.inr x)
  | _ => none
def KReps : List (D × D) → List (Key × V) → Prop
  | [], kv => kv = []
  | p :: ps, kv => ∃ k v r, kv = (k, v) :: r ∧ keyD p.1 = some k ∧ Rep G H L p.2 v ∧ KReps ps r
def FReps : List (Str × D) → List (Str × V) → Prop
  | [], kv => kv = []
  | p :: ps, kv => ∃ v r, kv = (p.1, v) :: r ∧ Rep G H L p.2 v ∧ FReps ps r
def CellOk (a : Addr) : Cell → Prop
  | .lst xs => ∃ vs, H a = some (.lst vs) ∧ Reps G H L xs vs
  | .dct kvs => ∃ kv, H a = some (.dK kv) ∧ KReps G H L kvs kv
  | .ins C fs => ∃ dx gs, H a = some (.ins (G.cad C) dx gs) ∧ FReps G H L fs gs
structure Sok (S : Sto) : Prop where
  nd : L.Nodup
  len : L.length = S.length
  ok : ∀ (l : Nat) (c : Cell) (a : Addr), S[l]? = some c → L[l]? = some a → CellOk G H L a c
def Eok : List (Option D) → Sl → Prop
  | [], σ => σ = []
  | none :: ρ, σ => ∃ v r, σ = v :: r ∧ Eok ρ r
  | some d :: ρ, σ => ∃ v r, σ = some v :: r ∧ Rep G H L d v ∧ Eok ρ r
end

/-- places stand, all that is no place stays -/
structure Wk (H : Hp) (L : List Addr) (H' : Hp) (L' : List Addr) : Prop where
  pre : ∃ M, L' = L ++ M
  keep : ∀ a o, H a = some o → a ∉ L → H' a = some o
/-- the heap goes on: new places behind the old ones, all that is no place stays -/
structure Ext (H : Hp) (L : List Addr) (H' : Hp) (L' : List Addr) : Prop where
  pre : ∃ M, L' = L ++ M
  new : ∀ a, a ∈ L' → a ∉ L → H a = none
  keep : ∀ a o, H a = some o → a ∉ L → H' a = some o
theorem Ext.wk {H H' : Hp} {L L' : List Addr} (e : Ext H L H' L') : Wk H L H' L' := ⟨e.pre, e.keep⟩
section
variable {G : Gx} {H H1 H2 : Hp} {L La Lb : List Addr}
theorem Ext.refl (H : Hp) (L : List Addr) : Ext H L H L := ⟨⟨[], by simp⟩, fun _ h n => absurd h n, fun _ _ h _ => h⟩
theorem Ext.mem (e : Ext H L H1 La) {a : Addr} (h : a ∈ L) : a ∈ La := by
  obtain ⟨M, rfl⟩ := e.pre
  exact List.mem_append_left _ h
theorem Ext.trans (a : Ext H L H1 La) (b : Ext H1 La H2 Lb) : Ext H L H2 Lb where
  pre := by
    obtain ⟨M, rfl⟩ := a.pre
    obtain ⟨N, rfl⟩ := b.pre
    exact ⟨M ++ N, by simp⟩
  new := fun x hx n => by
    by_cases h : x ∈ La
    · exact a.new x h n
    · have h1 := b.new x hx h
      cases q : H x with
      | none => rfl
      | some o => rw [a.keep x o q n] at h1; cases h1
  keep := fun x o h n => b.keep x o (a.keep x o h n) fun hx => by
    rw [a.new x hx n] at h; cases h
/-- tuples and what is only read stay -/
structure Tk (H : Hp) (L : List Addr) (H' : Hp) (L' : List Addr) : Prop where
  pre : ∃ M, L' = L ++ M
  tup : ∀ a xs, H a = some (.tup xs) → H' a = some (.tup xs)
  frz : ∀ a o u, H a = some (.frz o u) → H' a = some (.frz o u)
theorem Tk.get (e : Tk H L H1 La) {l : Nat} {a : Addr} (h : L[l]? = some a) : La[l]? = some a := by
  obtain ⟨M, rfl⟩ := e.pre
  rw [List.getElem?_append_left (List.getElem?_eq_some_iff.mp h).1]
  exact h
theorem Tk.sqT (e : Tk H L H1 La) {a : Addr} {xs : List V} (h : SqT G.K H a xs) : SqT G.K H1 a xs := by
  rcases h with (h | ⟨o, h⟩) | h
  · exact .inl (.inl (e.tup _ _ h))
  · exact .inl (.inr ⟨o, e.frz _ _ _ h⟩)
  · exact .inr h
theorem Tk.roL (e : Tk H L H1 La) {a : Addr} {xs : List V} (h : RoL G.K H a xs) : RoL G.K H1 a xs := by
  rcases h with ⟨o, h⟩ | h
  · exact .inl ⟨o, e.frz _ _ _ h⟩
  · exact .inr h
mutual
theorem Rep.tk (e : Tk H L H1 La) : ∀ {d : D} {v : V}, Rep G H L d v → Rep G H1 La d v
  | .non, _, h => h
  | .bl _, _, h => h
  | .int _, _, h => h
  | .str _, _, h => h
  | .tup _, _, ⟨a, vs, h1, h2, h3⟩ => ⟨a, vs, h1, e.sqT h2, Reps.tk e h3⟩
  | .rol _, _, ⟨a, vs, h1, h2, h3⟩ => ⟨a, vs, h1, e.roL h2, Reps.tk e h3⟩
  | .ref _, _, ⟨a, h1, h2⟩ => ⟨a, h1, e.get h2⟩
  | .ty _, _, h => h
  | .obj _, _, h => h
theorem Reps.tk (e : Tk H L H1 La) : ∀ {ds : List D} {vs : List V}, Reps G H L ds vs → Reps G H1 La ds vs
  | [], _, h => h
  | _ :: _, _, ⟨v, r, h1, h2, h3⟩ => ⟨v, r, h1, Rep.tk e h2, Reps.tk e h3⟩
end
theorem KReps.tk (e : Tk H L H1 La) : ∀ {ds : List (D × D)} {vs : List (Key × V)}, KReps G H L ds vs → KReps G H1 La ds vs
  | [], _, h => h
  | _ :: _, _, ⟨k, v, r, h1, h0, h2, h3⟩ => ⟨k, v, r, h1, h0, h2.tk e, h3.tk e⟩
theorem FReps.tk (e : Tk H L H1 La) : ∀ {ds : List (Str × D)} {vs : List (Str × V)}, FReps G H L ds vs → FReps G H1 La ds vs
  | [], _, h => h
  | _ :: _, _, ⟨v, r, h1, h2, h3⟩ => ⟨v, r, h1, h2.tk e, h3.tk e⟩
theorem Wk.get (e : Wk H L H1 La) {l : Nat} {a : Addr} (h : L[l]? = some a) : La[l]? = some a := by
  obtain ⟨M, rfl⟩ := e.pre
  rw [List.getElem?_append_left (List.getElem?_eq_some_iff.mp h).1]
  exact h
/-- no place holds a tuple, or a list that is only read -/
def NoTup (H : Hp) (L : List Addr) : Prop := ∀ a, a ∈ L → ∀ xs, ¬ Rd H a (.tup xs) ∧ ∀ o, H a ≠ some (.frz o (.lst xs))
theorem Wk.sqT (e : Wk H L H1 La) (n : NoTup H L) {a : Addr} {xs : List V} (h : SqT G.K H a xs) : SqT G.K H1 a xs := by
  rcases h with h | h
  · have na : a ∉ L := fun m => (n a m xs).1 h
    rcases h with h | ⟨o, h⟩
    · exact .inl (.inl (e.keep _ _ h na))
    · exact .inl (.inr ⟨o, e.keep _ _ h na⟩)
  · exact .inr h
theorem Wk.roL (e : Wk H L H1 La) (n : NoTup H L) {a : Addr} {xs : List V} (h : RoL G.K H a xs) : RoL G.K H1 a xs := by
  rcases h with ⟨o, h⟩ | h
  · exact .inl ⟨o, e.keep _ _ h fun m => (n a m xs).2 o h⟩
  · exact .inr h
mutual
theorem Rep.wk (e : Wk H L H1 La) (n : NoTup H L) : ∀ {d : D} {v : V}, Rep G H L d v → Rep G H1 La d v
  | .non, _, h => h
  | .bl _, _, h => h
  | .int _, _, h => h
  | .str _, _, h => h
  | .tup _, _, ⟨a, vs, h1, h2, h3⟩ => ⟨a, vs, h1, e.sqT n h2, Reps.wk e n h3⟩
  | .rol _, _, ⟨a, vs, h1, h2, h3⟩ => ⟨a, vs, h1, e.roL n h2, Reps.wk e n h3⟩
  | .ref _, _, ⟨a, h1, h2⟩ => ⟨a, h1, e.get h2⟩
  | .ty _, _, h => h
  | .obj _, _, h => h
theorem Reps.wk (e : Wk H L H1 La) (n : NoTup H L) : ∀ {ds : List D} {vs : List V}, Reps G H L ds vs → Reps G H1 La ds vs
  | [], _, h => h
  | _ :: _, _, ⟨v, r, h1, h2, h3⟩ => ⟨v, r, h1, Rep.wk e n h2, Reps.wk e n h3⟩
end
theorem KReps.wk (e : Wk H L H1 La) (n : NoTup H L) : ∀ {ds : List (D × D)} {vs : List (Key × V)}, KReps G H L ds vs → KReps G H1 La ds vs
  | [], _, h => h
  | _ :: _, _, ⟨k, v, r, h1, h0, h2, h3⟩ => ⟨k, v, r, h1, h0, h2.wk e n, h3.wk e n⟩
theorem FReps.wk (e : Wk H L H1 La) (n : NoTup H L) : ∀ {ds : List (Str × D)} {vs : List (Str × V)}, FReps G H L ds vs → FReps G H1 La ds vs
  | [], _, h => h
  | _ :: _, _, ⟨v, r, h1, h2, h3⟩ => ⟨v, r, h1, h2.wk e n, h3.wk e n⟩
theorem Eok.wk (e : Wk H L H1 La) (n : NoTup H L) : ∀ {ρ : List (Option D)} {σ : Sl}, Eok G H L ρ σ → Eok G H1 La ρ σ
  | [], _, h => by exact h
  | none :: _, _, ⟨v, r, h1, h3⟩ => ⟨v, r, h1, Eok.wk e n h3⟩
  | some _ :: _, _, ⟨v, r, h1, h2, h3⟩ => ⟨v, r, h1, h2.wk e n, Eok.wk e n h3⟩
theorem Ext.get (e : Ext H L H1 La) {l : Nat} {a : Addr} (h : L[l]? = some a) : La[l]? = some a := e.wk.get h
theorem Ext.sqT (e : Ext H L H1 La) (n : NoTup H L) {a : Addr} {xs : List V} (h : SqT G.K H a xs) : SqT G.K H1 a xs := e.wk.sqT n h
theorem Ext.roL (e : Ext H L H1 La) (n : NoTup H L) {a : Addr} {xs : List V} (h : RoL G.K H a xs) : RoL G.K H1 a xs := e.wk.roL n h
theorem Rep.ext (e : Ext H L H1 La) (n : NoTup H L) {d : D} {v : V} (h : Rep G H L d v) : Rep G H1 La d v := h.wk e.wk n
theorem Reps.ext (e : Ext H L H1 La) (n : NoTup H L) {ds : List D} {vs : List V} (h : Reps G H L ds vs) : Reps G H1 La ds vs := h.wk e.wk n
theorem KReps.ext (e : Ext H L H1 La) (n : NoTup H L) {ds : List (D × D)} {vs : List (Key × V)} (h : KReps G H L ds vs) : KReps G H1 La ds vs := h.wk e.wk n
theorem FReps.ext (e : Ext H L H1 La) (n : NoTup H L) {ds : List (Str × D)} {vs : List (Str × V)} (h : FReps G H L ds vs) : FReps G H1 La ds vs := h.wk e.wk n
theorem Eok.ext (e : Ext H L H1 La) (n : NoTup H L) {ρ : List (Option D)} {σ : Sl} (h : Eok G H L ρ σ) : Eok G H1 La ρ σ := h.wk e.wk n
theorem Sok.noTup {S : Sto} (s : Sok G H L S) : NoTup H L := fun a ha xs => by
  obtain ⟨l, hl, rfl⟩ := List.getElem_of_mem ha
  have hS : l < S.length := by rw [← s.len]; exact hl
  have c := s.ok l S[l] L[l] (List.getElem?_eq_getElem hS) (List.getElem?_eq_getElem hl)
  revert c
  generalize S[l] = cc
  intro c
  cases cc with
  | lst ys =>
    obtain ⟨vs, h, _⟩ := c
    exact ⟨fun r => by rcases r with r | ⟨o, r⟩ <;> (rw [h] at r; cases r), fun o r => by rw [h] at r; cases r⟩
  | dct ys =>
    obtain ⟨vs, h, _⟩ := c
    exact ⟨fun r => by rcases r with r | ⟨o, r⟩ <;> (rw [h] at r; cases r), fun o r => by rw [h] at r; cases r⟩
  | ins C fs =>
    obtain ⟨dx, vs, h, _⟩ := c
    exact ⟨fun r => by rcases r with r | ⟨o, r⟩ <;> (rw [h] at r; cases r), fun o r => by rw [h] at r; cases r⟩
end
end Td

set_option Elab.async false
set_option linter.all false
set_option maxRecDepth 100000
set_option maxHeartbeats 1000000
namespace Td
open PySem PySem.Spec PyProof.Rows L2

abbrev En := List (Option D)
abbrev Out (α : Type) := Option (Res α × Sto)
abbrev ME := En → Sto → Out D
abbrev MT := En → Sto → Out Bool
abbrev MA := En → Sto → Out (List D)
inductive Fl where
  | nx | bk | ct | rt (d : D) | exn (x : Exn)
abbrev MS := En → Sto → Option (Fl × En × Sto)

/-- the exception's object: its class, its own dict -/
def XRep (G : Gx) (H : Hp) (L : List Addr) (x : Exn) (cls : Value) (dx : Option Addr) : Prop :=
  cls = .ref (G.cad x.cls) ∧ match x.at_ with
    | none => dx = none
    | some d => ∃ a f v, dx = some a ∧ H a = some (.xd [(f, v)]) ∧ Rep G H L d v

/-- what is asked of what follows -/
def Ke (G : Gx) (W : WX) (H : Hp) (L : List Addr) (σ : Sl) (Q : VK) (S' : Sto) : Res D → Prop
  | .ok d => ∀ v H' L', Rep G H' L' d v → Sok G H' L' S' → Ext H L H' L' → Q v H'
  | .exn x => ∀ cls dx H' L', XRep G H' L' x cls dx → Sok G H' L' S' → Ext H L H' L' → W cls dx σ H'
def Kt (G : Gx) (W : WX) (H : Hp) (L : List Addr) (σ : Sl) (Q : Bool → Hp → Prop) (S' : Sto) : Res Bool → Prop
  | .ok b => ∀ H' L', Sok G H' L' S' → Ext H L H' L' → Q b H'
  | .exn x => ∀ cls dx H' L', XRep G H' L' x cls dx → Sok G H' L' S' → Ext H L H' L' → W cls dx σ H'
def Ka (G : Gx) (W : WX) (H : Hp) (L : List Addr) (σ : Sl) (Q : List V → Hp → Prop) (S' : Sto) : Res (List D) → Prop
  | .ok ds => ∀ vs H' L', Reps G H' L' ds vs → Sok G H' L' S' → Ext H L H' L' → Q vs H'
  | .exn x => ∀ cls dx H' L', XRep G H' L' x cls dx → Sok G H' L' S' → Ext H L H' L' → W cls dx σ H'

def RdE (G : Gx) (W : WX) (t : TE) (m : ME) : Prop :=
  ∀ (σ : Sl) (H : Hp) (L : List Addr) (ρ : En) (S : Sto) (r : Res D) (S' : Sto) (Q : VK), Sok G H L S → Eok G H L ρ σ → m ρ S = some (r, S') → Ke G W H L σ Q S' r → t σ H Q
def RdT (G : Gx) (W : WX) (t : TT) (m : MT) : Prop :=
  ∀ (σ : Sl) (H : Hp) (L : List Addr) (ρ : En) (S : Sto) (r : Res Bool) (S' : Sto) (Q : Bool → Hp → Prop), Sok G H L S → Eok G H L ρ σ → m ρ S = some (r, S') → Kt G W H L σ Q S' r → t σ H Q
def RdA (G : Gx) (W : WX) (t : TA) (m : MA) : Prop :=
  ∀ (σ : Sl) (H : Hp) (L : List Addr) (ρ : En) (S : Sto) (r : Res (List D)) (S' : Sto) (Q : List V → Hp → Prop), Sok G H L S → Eok G H L ρ σ → m ρ S = some (r, S') → Ka G W H L σ Q S' r → t σ H Q
def Ks (G : Gx) (W : WX) (H : Hp) (L : List Addr) (Ds : Ends) (ρ' : En) (S' : Sto) : Fl → Prop
  | .nx => ∀ σ' H' L', Eok G H' L' ρ' σ' → Sok G H' L' S' → Ext H L H' L' → Ds.nx σ' H'
  | .bk => ∀ σ' H' L', Eok G H' L' ρ' σ' → Sok G H' L' S' → Ext H L H' L' → Ds.bk σ' H'
  | .ct => ∀ σ' H' L', Eok G H' L' ρ' σ' → Sok G H' L' S' → Ext H L H' L' → Ds.ct σ' H'
  | .rt d => ∀ v H' L', Rep G H' L' d v → Sok G H' L' S' → Ext H L H' L' → Ds.rt v H'
  | .exn x => ∀ cls dx σ' H' L', XRep G H' L' x cls dx → Eok G H' L' ρ' σ' → Sok G H' L' S' → Ext H L H' L' → W cls dx σ' H'
def RdS (G : Gx) (W : WX) (t : TS) (m : MS) : Prop :=
  ∀ (σ : Sl) (H : Hp) (L : List Addr) (ρ : En) (S : Sto) (f : Fl) (ρ' : En) (S' : Sto) (Ds : Ends), Sok G H L S → Eok G H L ρ σ → m ρ S = some (f, ρ', S') → Ks G W H L Ds ρ' S' f → t Ds σ H

/-- the context's facts -/
structure Cc (G : Gx) (X : Cx) (W : WX) : Prop where
  K : X.K = G.K
  tk : Takes X W
  gd : X.A.guards = some []
  hu : X.A.units + 136 < cLine

structure RE (G : Gx) (X : Cx) (W : WX) (e : Expr) (m : ME) : Prop where
  ex : ∃ t, PE X e t ∧ RdE G W t m
structure RT (G : Gx) (X : Cx) (W : WX) (e : Expr) (m : MT) : Prop where
  ex : ∃ t, PT X e t ∧ RdT G W t m
structure RW (G : Gx) (X : Cx) (W : WX) (e : Expr) (m : MT) : Prop where
  ex : ∃ t, PW X e t ∧ RdT G W t m
structure RA (G : Gx) (X : Cx) (W : WX) (es : List Expr) (m : MA) : Prop where
  ex : ∃ t, PA X es t ∧ RdA G W t m
structure RS (G : Gx) (X : Cx) (W : WX) (s : Stmt) (m : MS) : Prop where
  ex : ∃ t, PS X s t ∧ RdS G W t m
structure RSs (G : Gx) (X : Cx) (W : WX) (s : List Stmt) (m : MS) : Prop where
  ex : ∃ t, PSs X s t ∧ RdS G W t m

/-! ### one thing behind another -/
def bnd {α β : Type} (o : Out α) (k : α → Sto → Out β) : Out β := match o with
  | none => none
  | some (.ok a, S) => k a S
  | some (.exn x, S) => some (.exn x, S)
theorem bnd_some {α β : Type} {o : Out α} {k : α → Sto → Out β} {r : Res β} {S : Sto} (h : bnd o k = some (r, S)) :
    (∃ a S1, o = some (.ok a, S1) ∧ k a S1 = some (r, S)) ∨ (∃ x, o = some (.exn x, S) ∧ r = .exn x) := by
  unfold bnd at h
  split at h
  · cases h
  · exact .inl ⟨_, _, rfl, h⟩
  · simp only [Option.some.injEq, Prod.mk.injEq] at h
    obtain ⟨rfl, rfl⟩ := h
    exact .inr ⟨_, rfl, rfl⟩
theorem bnd_ok {α β : Type} {a : α} {S : Sto} {k : α → Sto → Out β} : bnd (some (.ok a, S)) k = k a S := rfl
theorem bnd_exn {α β : Type} {x : Exn} {S : Sto} {k : α → Sto → Out β} : bnd (some (.exn x, S)) k = some (.exn x, S) := rfl

section
variable {G : Gx} {W : WX} {H H1 : Hp} {L La : List Addr} {σ : Sl} {Q : VK} {S : Sto}
theorem Ke.ext (e : Ext H L H1 La) : ∀ {r : Res D}, Ke G W H L σ Q S r → Ke G W H1 La σ Q S r
  | .ok _, h => fun v H' L' a b c => h v H' L' a b (e.trans c)
  | .exn _, h => fun v u H' L' a b c => h v u H' L' a b (e.trans c)
theorem Kt.ext {Q : Bool → Hp → Prop} (e : Ext H L H1 La) : ∀ {r : Res Bool}, Kt G W H L σ Q S r → Kt G W H1 La σ Q S r
  | .ok _, h => fun H' L' b c => h H' L' b (e.trans c)
  | .exn _, h => fun v u H' L' a b c => h v u H' L' a b (e.trans c)
theorem Ka.ext {Q : List V → Hp → Prop} (e : Ext H L H1 La) : ∀ {r : Res (List D)}, Ka G W H L σ Q S r → Ka G W H1 La σ Q S r
  | .ok _, h => fun v H' L' a b c => h v H' L' a b (e.trans c)
  | .exn _, h => fun v u H' L' a b c => h v u H' L' a b (e.trans c)
theorem Ks.ext {Ds : Ends} {ρ : En} (e : Ext H L H1 La) : ∀ {f : Fl}, Ks G W H L Ds ρ S f → Ks G W H1 La Ds ρ S f
  | .nx, h => fun v H' L' a b c => h v H' L' a b (e.trans c)
  | .bk, h => fun v H' L' a b c => h v H' L' a b (e.trans c)
  | .ct, h => fun v H' L' a b c => h v H' L' a b (e.trans c)
  | .rt _, h => fun v H' L' a b c => h v H' L' a b (e.trans c)
  | .exn _, h => fun v u s H' L' a b c d => h v u s H' L' a b c (e.trans d)
end

/-! ### names, constants -/
section
variable {G : Gx} {X : Cx} {W : WX}
def varM (i : Nat) : ME := fun ρ S => match ρ[i]? with
  | some (some d) => some (.ok d, S)
  | _ => none
def cM (d : D) : ME := fun _ S => some (.ok d, S)
theorem Eok.get {H : Hp} {L : List Addr} : ∀ {ρ : En} {σ : Sl} {i : Nat} {d : D}, Eok G H L ρ σ → ρ[i]? = some (some d) → ∃ v, σ[i]? = some (some v) ∧ Rep G H L d v
  | [], _, _, _, _, e => by simp at e
  | none :: _, _, 0, _, _, e => by simp at e
  | none :: _, _, i + 1, _, ⟨v, r, h1, h3⟩, e => by
    subst h1
    exact Eok.get (i := i) h3 (by simpa using e)
  | some _ :: _, _, 0, _, ⟨v, r, h1, h2, h3⟩, e => by
    subst h1
    simp at e
    subst e
    exact ⟨v, rfl, h2⟩
  | some _ :: _, _, i + 1, _, ⟨v, r, h1, h2, h3⟩, e => by
    subst h1
    exact Eok.get (i := i) h3 (by simpa using e)
theorem Eok.set {H : Hp} {L : List Addr} {d : D} {v : V} (q : Rep G H L d v) : ∀ {ρ : En} {σ : Sl} (i : Nat), Eok G H L ρ σ → Eok G H L (ρ.set i (some d)) (σ.set i (some v))
  | [], _, i, h => by
    have e : _ = [] := h
    subst e
    exact rfl
  | none :: _, _, 0, ⟨u, r, h1, h3⟩ => by subst h1; exact ⟨v, r, rfl, q, h3⟩
  | none :: _, _, i + 1, ⟨u, r, h1, h3⟩ => by subst h1; exact ⟨u, _, rfl, Eok.set q i h3⟩
  | some _ :: _, _, 0, ⟨u, r, h1, h2, h3⟩ => by subst h1; exact ⟨v, r, rfl, q, h3⟩
  | some _ :: _, _, i + 1, ⟨u, r, h1, h2, h3⟩ => by subst h1; exact ⟨u, _, rfl, h2, Eok.set q i h3⟩
/-- a slot whose value is forgotten -/
theorem Eok.off {H : Hp} {L : List Addr} {o : Option V} : ∀ {ρ : En} {σ : Sl} (i : Nat), Eok G H L ρ σ → Eok G H L (ρ.set i none) (σ.set i o)
  | [], _, i, h => by
    have e : _ = [] := h
    subst e
    exact rfl
  | none :: _, _, 0, ⟨u, r, h1, h3⟩ => by subst h1; exact ⟨o, r, rfl, h3⟩
  | none :: _, _, i + 1, ⟨u, r, h1, h3⟩ => by subst h1; exact ⟨u, _, rfl, Eok.off i h3⟩
  | some _ :: _, _, 0, ⟨u, r, h1, h2, h3⟩ => by subst h1; exact ⟨o, r, rfl, h3⟩
  | some _ :: _, _, i + 1, ⟨u, r, h1, h2, h3⟩ => by subst h1; exact ⟨u, _, rfl, h2, Eok.off i h3⟩
theorem rdVar (i : Nat) : RdE G W (tVar i) (varM i) := by
  intro σ H L ρ S r S' Q s e hm k
  unfold varM at hm
  split at hm
  · rename_i d hd
    simp only [Option.some.injEq, Prod.mk.injEq] at hm
    obtain ⟨rfl, rfl⟩ := hm
    obtain ⟨v, h1, h2⟩ := e.get hd
    exact ⟨v, h1, k v H L h2 s (Ext.refl H L)⟩
  · cases hm
theorem rdC {d : D} {v : V} (h : ∀ H L, Rep G H L d v) : RdE G W (tC v) (cM d) := by
  intro σ H L ρ S r S' Q s e hm k
  unfold cM at hm
  simp only [Option.some.injEq, Prod.mk.injEq] at hm
  obtain ⟨rfl, rfl⟩ := hm
  exact k v H L (h H L) s (Ext.refl H L)
theorem re_var (i : Nat) {x : Str} {pos : Pos} (hN : X.N[i]? = some x := by rfl) (hv : Vis X.env.scope x := by first | exact Or.inl rfl | exact Or.inr (Or.inl rfl) | exact Or.inr (Or.inr rfl)) (hd : (x == ("__debug__" : Str)) = false := by decide)
    (hcd : (x == ("__classdict__" : Str)) = false := by decide) : RE G X W (.Name x pos) (varM i) := ⟨_, pe_var hN hv hd hcd, rdVar i⟩
theorem re_int {i j pos} : RE G X W (.Constant (.int i) j pos) (cM (.int i)) := ⟨_, pe_int, rdC fun _ _ => rfl⟩
theorem re_bl {b j pos} : RE G X W (.Constant (.bool b) j pos) (cM (.bl b)) := ⟨_, pe_bl, rdC fun _ _ => rfl⟩
theorem re_non {j pos} : RE G X W (.Constant .none j pos) (cM .non) := ⟨_, pe_non, rdC fun _ _ => rfl⟩
theorem re_str {x j pos} : RE G X W (.Constant (.str x) j pos) (cM (.str x)) := ⟨_, pe_str, rdC fun _ _ => rfl⟩
/-- a module's constant -/
theorem re_glob {x : Str} {v : V} {d : D} {u : Value} {pos : Pos} (hm : X.mg x = some u) (r : RelV v u) (hr : ∀ H L, Rep G H L d v) (hg : Gl X x := by rfl) (hd : (x == ("__debug__" : Str)) = false := by decide) : RE G X W (.Name x pos) (cM d) := ⟨_, pe_glob hg hm r hd, rdC hr⟩

/-! ### operators -/
/-- what an operator by values does -/
def OpD (G : Gx) (r : R2) (f : D → D → Sto → Option (D × Sto)) : Prop :=
  ∀ (H : Hp) (L : List Addr) (S : Sto) (x y : D) (v u : V) (d : D) (S' : Sto) (Q : VK), Sok G H L S → Rep G H L x v → Rep G H L y u → f x y S = some (d, S') →
    (∀ w H' L', Rep G H' L' d w → Sok G H' L' S' → Ext H L H' L' → Q w H') → r v u H Q
def binM (f : D → D → Sto → Option (D × Sto)) (a b : ME) : ME := fun ρ S => bnd (a ρ S) fun x S1 => bnd (b ρ S1) fun y S2 => match f x y S2 with
  | some (d, S3) => some (.ok d, S3)
  | none => none
theorem rdOp {r : R2} {f : D → D → Sto → Option (D × Sto)} {ta tb : TE} {a b : ME} (ho : OpD G r f) (ha : RdE G W ta a) (hb : RdE G W tb b) : RdE G W (tOp r ta tb) (binM f a b) := by
  intro σ H L ρ S z S' Q s e hm k
  unfold binM at hm
  rcases bnd_some hm with ⟨x, S1, h1, h2⟩ | ⟨x, h1, rfl⟩
  · refine ha σ H L ρ S _ S1 _ s e h1 fun v H1 La rv s1 e1 => ?_
    have eo1 := e.ext e1 s.noTup
    rcases bnd_some h2 with ⟨y, S2, h3, h4⟩ | ⟨y, h3, rfl⟩
    · refine hb σ H1 La ρ S1 _ S2 _ s1 eo1 h3 fun u H2 Lb ru s2 e2 => ?_
      cases q : f x y S2 with
      | none => rw [q] at h4; cases h4
      | some p =>
        obtain ⟨d, S3⟩ := p
        rw [q] at h4
        simp only [Option.some.injEq, Prod.mk.injEq] at h4
        obtain ⟨rfl, rfl⟩ := h4
        exact ho H2 Lb S2 x y v u d S3 Q s2 (rv.ext e2 s1.noTup) ru q fun w H' L' rw' sw ew => k w H' L' rw' sw ((e1.trans e2).trans ew)
    · exact hb σ H1 La ρ S1 _ S' _ s1 eo1 h3 fun cls dx H' L' xr sx ex => k cls dx H' L' xr sx (e1.trans ex)
  · exact ha σ H L ρ S _ S' _ s e h1 k
theorem re_op {op : Operator} {r : R2} {f : D → D → Sto → Option (D × Sto)} {a b : Expr} {ma mb : ME} {pos : Pos} (ho : OpR X (binaryOp op) r) (hd : OpD G r f) (ha : RE G X W a ma) (hb : RE G X W b mb) : RE G X W (.BinOp a op b pos) (binM f ma mb) := by
  obtain ⟨_, a1, a2⟩ := ha
  obtain ⟨_, b1, b2⟩ := hb
  exact ⟨_, pe_op ho a1 b1, rdOp hd a2 b2⟩
theorem re_cmp {op : CmpOp} {r : R2} {f : D → D → Sto → Option (D × Sto)} {a b : Expr} {ma mb : ME} {pos : Pos} (ho : OpR X (compareOp op) r) (hd : OpD G r f) (ha : RE G X W a ma) (hb : RE G X W b mb) (hm : behindInMarks op b = false) : RE G X W (.Compare a [op] [b] pos) (binM f ma mb) := by
  obtain ⟨_, a1, a2⟩ := ha
  obtain ⟨_, b1, b2⟩ := hb
  exact ⟨_, pe_cmpR ho a1 b1 hm, rdOp hd a2 b2⟩
/-- a value that is True or False, as a test -/
def tstM (a : ME) : MT := fun ρ S => bnd (a ρ S) fun x S1 => match x with
  | .bl b => some (.ok b, S1)
  | _ => none
theorem rdTest {ta : TE} {a : ME} (ha : RdE G W ta a) : RdT G W (fun σ H Q => ta σ H fun x H' => ∃ k, x = .bl k ∧ Q k H') (tstM a) := by
  intro σ H L ρ S z S' Q s e hm k
  unfold tstM at hm
  rcases bnd_some hm with ⟨x, S1, h1, h2⟩ | ⟨x, h1, rfl⟩
  · refine ha σ H L ρ S _ S1 _ s e h1 fun v H1 La rv s1 e1 => ?_
    cases x with
    | bl b =>
      simp only [Option.some.injEq, Prod.mk.injEq] at h2
      obtain ⟨rfl, rfl⟩ := h2
      exact ⟨b, rv, k H1 La s1 e1⟩
    | _ => cases h2
  · exact ha σ H L ρ S _ S' _ s e h1 k
theorem rt_cmp {op : CmpOp} {r : R2} {f : D → D → Sto → Option (D × Sto)} {a b : Expr} {ma mb : ME} {pos : Pos} (ho : OpR X (compareOp op) r) (hd : OpD G r f) (ha : RE G X W a ma) (hb : RE G X W b mb) (hm : behindInMarks op b = false) : RT G X W (.Compare a [op] [b] pos) (tstM (binM f ma mb)) := by
  obtain ⟨_, a1, a2⟩ := ha
  obtain ⟨_, b1, b2⟩ := hb
  exact ⟨_, pt_cmpR ho a1 b1 hm, rdTest (rdOp hd a2 b2)⟩
theorem rt_val {e : Expr} {m : ME} (h : RE G X W e m) (he : ∀ whole, isTrue e X.env whole = (do let v ← whole; standAt e.pos; holding [v] (truthy v)) := by intro _; rfl) : RT G X W e (tstM m) := by
  obtain ⟨_, a1, a2⟩ := h
  exact ⟨_, pt_val a1 he, rdTest a2⟩
def notT (a : MT) : MT := fun ρ S => bnd (a ρ S) fun x S1 => some (.ok (!x), S1)
def andT (a b : MT) : MT := fun ρ S => bnd (a ρ S) fun x S1 => if x then b ρ S1 else some (.ok false, S1)
def orT (a b : MT) : MT := fun ρ S => bnd (a ρ S) fun x S1 => if x then some (.ok true, S1) else b ρ S1
theorem rdNot {t : TT} {a : MT} (ha : RdT G W t a) : RdT G W (tNot t) (notT a) := by
  intro σ H L ρ S z S' Q s e hm k
  rcases bnd_some hm with ⟨x, S1, h1, h2⟩ | ⟨x, h1, rfl⟩
  · refine ha σ H L ρ S _ S1 _ s e h1 fun H1 La s1 e1 => ?_
    simp only [Option.some.injEq, Prod.mk.injEq] at h2
    obtain ⟨rfl, rfl⟩ := h2
    exact k H1 La s1 e1
  · exact ha σ H L ρ S _ S' _ s e h1 k
theorem rdAnd {t u : TT} {a b : MT} (ha : RdT G W t a) (hb : RdT G W u b) : RdT G W (tAnd t u) (andT a b) := by
  intro σ H L ρ S z S' Q s e hm k
  rcases bnd_some hm with ⟨x, S1, h1, h2⟩ | ⟨x, h1, rfl⟩
  · refine ha σ H L ρ S _ S1 _ s e h1 fun H1 La s1 e1 => ?_
    cases x with
    | true => exact hb σ H1 La ρ S1 _ S' Q s1 (e.ext e1 s.noTup) h2 (k.ext e1)
    | false =>
      simp only [Bool.false_eq_true, if_false, Option.some.injEq, Prod.mk.injEq] at h2
      obtain ⟨rfl, rfl⟩ := h2
      exact k H1 La s1 e1
  · exact ha σ H L ρ S _ S' _ s e h1 k
theorem rdOr {t u : TT} {a b : MT} (ha : RdT G W t a) (hb : RdT G W u b) : RdT G W (tOr t u) (orT a b) := by
  intro σ H L ρ S z S' Q s e hm k
  rcases bnd_some hm with ⟨x, S1, h1, h2⟩ | ⟨x, h1, rfl⟩
  · refine ha σ H L ρ S _ S1 _ s e h1 fun H1 La s1 e1 => ?_
    cases x with
    | false => exact hb σ H1 La ρ S1 _ S' Q s1 (e.ext e1 s.noTup) h2 (k.ext e1)
    | true =>
      simp only [if_true, Option.some.injEq, Prod.mk.injEq] at h2
      obtain ⟨rfl, rfl⟩ := h2
      exact k H1 La s1 e1
  · exact ha σ H L ρ S _ S' _ s e h1 k
theorem rt_not {a : Expr} {m : MT} {pos : Pos} (h : RT G X W a m) : RT G X W (.UnaryOp .Not a pos) (notT m) := by
  obtain ⟨_, a1, a2⟩ := h
  exact ⟨_, pt_not a1, rdNot a2⟩
theorem rw_and1 {a : Expr} {m : MT} {pos : Pos} (h : RT G X W a m) : RW G X W (.BoolOp .And [a] pos) m := by
  obtain ⟨_, a1, a2⟩ := h
  exact ⟨_, pw_and1 a1, a2⟩
theorem rw_or1 {a : Expr} {m : MT} {pos : Pos} (h : RT G X W a m) : RW G X W (.BoolOp .Or [a] pos) m := by
  obtain ⟨_, a1, a2⟩ := h
  exact ⟨_, pw_or1 a1, a2⟩
theorem rw_and {a b : Expr} {rest : List Expr} {m n : MT} {pos : Pos} (h : RT G X W a m) (h2 : RW G X W (.BoolOp .And (b :: rest) pos) n) : RW G X W (.BoolOp .And (a :: b :: rest) pos) (andT m n) := by
  obtain ⟨_, a1, a2⟩ := h
  obtain ⟨_, b1, b2⟩ := h2
  exact ⟨_, pw_and a1 b1, rdAnd a2 b2⟩
theorem rw_or {a b : Expr} {rest : List Expr} {m n : MT} {pos : Pos} (h : RT G X W a m) (h2 : RW G X W (.BoolOp .Or (b :: rest) pos) n) : RW G X W (.BoolOp .Or (a :: b :: rest) pos) (orT m n) := by
  obtain ⟨_, a1, a2⟩ := h
  obtain ⟨_, b1, b2⟩ := h2
  exact ⟨_, pw_or a1 b1, rdOr a2 b2⟩
theorem RW.pt {e : Expr} {m : MT} (h : RW G X W e m) : RT G X W e m := by
  obtain ⟨_, a1, a2⟩ := h
  exact ⟨_, a1.pt, a2⟩
/-! as values -/
def notE (a : ME) : ME := fun ρ S => bnd (tstM a ρ S) fun x S1 => some (.ok (.bl (!x)), S1)
def andE (a b : ME) : ME := fun ρ S => bnd (tstM a ρ S) fun x S1 => if x then b ρ S1 else some (.ok (.bl false), S1)
def orE (a b : ME) : ME := fun ρ S => bnd (tstM a ρ S) fun x S1 => if x then some (.ok (.bl true), S1) else b ρ S1
theorem rdNotV {t : TE} {a : ME} (ha : RdE G W t a) : RdE G W (tNotV t) (notE a) := by
  intro σ H L ρ S z S' Q s e hm k
  rcases bnd_some hm with ⟨x, S1, h1, h2⟩ | ⟨x, h1, rfl⟩
  · refine rdTest ha σ H L ρ S _ S1 _ s e h1 fun H1 La s1 e1 => ?_
    simp only [Option.some.injEq, Prod.mk.injEq] at h2
    obtain ⟨rfl, rfl⟩ := h2
    exact k _ H1 La rfl s1 e1
  · exact rdTest ha σ H L ρ S _ S' (fun x H1 => Q (.bl (!x)) H1) s e h1 k
theorem rdAndV {t u : TE} {a b : ME} (ha : RdE G W t a) (hb : RdE G W u b) : RdE G W (tAndV t u) (andE a b) := by
  intro σ H L ρ S z S' Q s e hm k
  rcases bnd_some hm with ⟨x, S1, h1, h2⟩ | ⟨x, h1, rfl⟩
  · refine rdTest ha σ H L ρ S _ S1 (fun c H1 => if c = true then u σ H1 Q else Q (.bl false) H1) s e h1 fun H1 La s1 e1 => ?_
    cases x with
    | true => exact hb σ H1 La ρ S1 _ S' Q s1 (e.ext e1 s.noTup) h2 (k.ext e1)
    | false =>
      simp only [Bool.false_eq_true, if_false, Option.some.injEq, Prod.mk.injEq] at h2
      obtain ⟨rfl, rfl⟩ := h2
      exact k _ H1 La rfl s1 e1
  · exact rdTest ha σ H L ρ S _ S' (fun c H1 => if c = true then u σ H1 Q else Q (.bl false) H1) s e h1 k
theorem rdOrV {t u : TE} {a b : ME} (ha : RdE G W t a) (hb : RdE G W u b) : RdE G W (tOrV t u) (orE a b) := by
  intro σ H L ρ S z S' Q s e hm k
  rcases bnd_some hm with ⟨x, S1, h1, h2⟩ | ⟨x, h1, rfl⟩
  · refine rdTest ha σ H L ρ S _ S1 (fun c H1 => if c = true then Q (.bl true) H1 else u σ H1 Q) s e h1 fun H1 La s1 e1 => ?_
    cases x with
    | false => exact hb σ H1 La ρ S1 _ S' Q s1 (e.ext e1 s.noTup) h2 (k.ext e1)
    | true =>
      simp only [if_true, Option.some.injEq, Prod.mk.injEq] at h2
      obtain ⟨rfl, rfl⟩ := h2
      exact k _ H1 La rfl s1 e1
  · exact rdTest ha σ H L ρ S _ S' (fun c H1 => if c = true then Q (.bl true) H1 else u σ H1 Q) s e h1 k
theorem re_one {op : BoolOp} {a : Expr} {m : ME} {pos : Pos} (h : RE G X W a m) : RE G X W (.BoolOp op [a] pos) m := by
  obtain ⟨_, a1, a2⟩ := h
  exact ⟨_, pe_one a1, a2⟩
theorem re_and {a b : Expr} {rest : List Expr} {m n : ME} {pos : Pos} (h : RE G X W a m) (h2 : RE G X W (.BoolOp .And (b :: rest) pos) n) : RE G X W (.BoolOp .And (a :: b :: rest) pos) (andE m n) := by
  obtain ⟨_, a1, a2⟩ := h
  obtain ⟨_, b1, b2⟩ := h2
  exact ⟨_, pe_and a1 b1, rdAndV a2 b2⟩
theorem re_or {a b : Expr} {rest : List Expr} {m n : ME} {pos : Pos} (h : RE G X W a m) (h2 : RE G X W (.BoolOp .Or (b :: rest) pos) n) : RE G X W (.BoolOp .Or (a :: b :: rest) pos) (orE m n) := by
  obtain ⟨_, a1, a2⟩ := h
  obtain ⟨_, b1, b2⟩ := h2
  exact ⟨_, pe_or a1 b1, rdOrV a2 b2⟩
theorem re_not {a : Expr} {m : ME} {pos : Pos} (h : RE G X W a m) : RE G X W (.UnaryOp .Not a pos) (notE m) := by
  obtain ⟨_, a1, a2⟩ := h
  exact ⟨_, pe_not a1, rdNotV a2⟩
def ifE (c : MT) (a b : ME) : ME := fun ρ S => bnd (c ρ S) fun x S1 => if x then a ρ S1 else b ρ S1
theorem re_if {c a b : Expr} {mc : MT} {m n : ME} {pos : Pos} (hc : RT G X W c mc) (h : RE G X W a m) (h2 : RE G X W b n) : RE G X W (.IfExp c a b pos) (ifE mc m n) := by
  obtain ⟨tc, c1, c2⟩ := hc
  obtain ⟨ta, a1, a2⟩ := h
  obtain ⟨tb, b1, b2⟩ := h2
  refine ⟨_, pe_ifExp c1 a1 b1, ?_⟩
  intro σ H L ρ S z S' Q s e hm k
  rcases bnd_some hm with ⟨x, S1, h1, h2⟩ | ⟨x, h1, rfl⟩
  · refine c2 σ H L ρ S _ S1 (fun c H1 => if c = true then ta σ H1 Q else tb σ H1 Q) s e h1 fun H1 La s1 e1 => ?_
    cases x with
    | true => exact a2 σ H1 La ρ S1 _ S' Q s1 (e.ext e1 s.noTup) h2 (k.ext e1)
    | false => exact b2 σ H1 La ρ S1 _ S' Q s1 (e.ext e1 s.noTup) h2 (k.ext e1)
  · exact c2 σ H L ρ S _ S' (fun c H1 => if c = true then ta σ H1 Q else tb σ H1 Q) s e h1 k
/-- a < b < c -/
def chM (f g : D → D → Sto → Option (D × Sto)) (a b c : ME) : ME := fun ρ S => bnd (a ρ S) fun x S1 => bnd (b ρ S1) fun y S2 => match f x y S2 with
  | some (.bl true, S3) => bnd (c ρ S3) fun z S4 => (match g y z S4 with
    | some (d, S5) => some (.ok d, S5)
    | none => none)
  | some (.bl false, S3) => some (.ok (.bl false), S3)
  | _ => none
theorem rdChain {r r' : R2} {f g : D → D → Sto → Option (D × Sto)} {ta tb tc : TE} {a b c : ME} (ho : OpD G r f) (ho' : OpD G r' g) (ha : RdE G W ta a) (hb : RdE G W tb b) (hc : RdE G W tc c) : RdE G W (tChain r r' ta tb tc) (chM f g a b c) := by
  intro σ H L ρ S z S' Q s e hm k
  unfold chM at hm
  rcases bnd_some hm with ⟨x, S1, h1, h2⟩ | ⟨x, h1, rfl⟩
  · refine ha σ H L ρ S _ S1 _ s e h1 fun v H1 La rv s1 e1 => ?_
    have eo1 := e.ext e1 s.noTup
    rcases bnd_some h2 with ⟨y, S2, h3, h4⟩ | ⟨y, h3, rfl⟩
    · refine hb σ H1 La ρ S1 _ S2 _ s1 eo1 h3 fun u H2 Lb ru s2 e2 => ?_
      have eo2 := eo1.ext e2 s1.noTup
      cases q : f x y S2 with
      | none => rw [q] at h4; cases h4
      | some p =>
        obtain ⟨d, S3⟩ := p
        rw [q] at h4
        refine ho H2 Lb S2 x y v u d S3 _ s2 (rv.ext e2 s1.noTup) ru q fun w H3 Lc rw' s3 e3 => ?_
        cases d with
        | bl bb =>
          refine ⟨bb, rw', ?_⟩
          cases bb with
          | true =>
            rw [if_pos rfl]
            rcases bnd_some h4 with ⟨z2, S4, h5, h6⟩ | ⟨z2, h5, rfl⟩
            · refine hc σ H3 Lc ρ S3 _ S4 _ s3 (eo2.ext e3 s2.noTup) h5 fun u3 H4 Ld ru4 s4 e4 => ?_
              cases q2 : g y z2 S4 with
              | none => rw [q2] at h6; cases h6
              | some p2 =>
                obtain ⟨d2, S5⟩ := p2
                rw [q2] at h6
                simp only [Option.some.injEq, Prod.mk.injEq] at h6
                obtain ⟨rfl, rfl⟩ := h6
                exact ho' H4 Ld S4 y z2 u u3 d2 S5 Q s4 ((ru.ext e3 s2.noTup).ext e4 s3.noTup) ru4 q2 fun w H' L' rw' sw ew => k w H' L' rw' sw ((((e1.trans e2).trans e3).trans e4).trans ew)
            · exact hc σ H3 Lc ρ S3 _ S' _ s3 (eo2.ext e3 s2.noTup) h5 fun cls dx H' L' xr sx ex => k cls dx H' L' xr sx (((e1.trans e2).trans e3).trans ex)
          | false =>
            rw [if_neg Bool.false_ne_true]
            simp only [Option.some.injEq, Prod.mk.injEq] at h4
            obtain ⟨rfl, rfl⟩ := h4
            exact k _ H3 Lc rfl s3 ((e1.trans e2).trans e3)
        | _ => cases h4
    · exact hb σ H1 La ρ S1 _ S' _ s1 eo1 h3 fun cls dx H' L' xr sx ex => k cls dx H' L' xr sx (e1.trans ex)
  · exact ha σ H L ρ S _ S' _ s e h1 k
end
end Td

set_option Elab.async false
set_option linter.all false
set_option maxRecDepth 100000
set_option maxHeartbeats 1000000
namespace Td
open PySem PySem.Spec PyProof.Rows L2

/-! ### the store goes on -/
section
variable {G : Gx} {H : Hp} {L : List Addr} {S : Sto} {p a : Addr} {o : HO} {c : Cell} {l : Nat}
theorem Sok.at (s : Sok G H L S) (h : S[l]? = some c) : ∃ a, L[l]? = some a ∧ CellOk G H L a c := by
  have hl : l < L.length := by rw [s.len]; exact (List.getElem?_eq_some_iff.mp h).1
  exact ⟨L[l], List.getElem?_eq_getElem hl, s.ok l c _ h (List.getElem?_eq_getElem hl)⟩
theorem CellOk.there (h : CellOk G H L a c) : ∃ o, H a = some o := by
  cases c with
  | lst ys => obtain ⟨vs, h, _⟩ := h; exact ⟨_, h⟩
  | dct ys => obtain ⟨vs, h, _⟩ := h; exact ⟨_, h⟩
  | ins C fs => obtain ⟨dx, vs, h, _⟩ := h; exact ⟨_, h⟩
theorem Sok.notin (s : Sok G H L S) (h : H p = none) : p ∉ L := fun m => by
  obtain ⟨l, hl, rfl⟩ := List.getElem_of_mem m
  have hS : l < S.length := by rw [← s.len]; exact hl
  obtain ⟨o, e⟩ := (s.ok l S[l] L[l] (List.getElem?_eq_getElem hS) (List.getElem?_eq_getElem hl)).there
  rw [h] at e; cases e
/-- a cell that stays where the heap goes on -/
theorem CellOk.ext {H1 : Hp} {La : List Addr} (e : Ext H L H1 La) (n : NoTup H L) (ha : ∀ o, H a = some o → H1 a = some o) (h : CellOk G H L a c) : CellOk G H1 La a c := by
  cases c with
  | lst ys => obtain ⟨vs, h, r⟩ := h; exact ⟨vs, ha _ h, r.ext e n⟩
  | dct ys => obtain ⟨vs, h, r⟩ := h; exact ⟨vs, ha _ h, r.ext e n⟩
  | ins C fs => obtain ⟨dx, vs, h, r⟩ := h; exact ⟨dx, vs, ha _ h, r.ext e n⟩
theorem Ext.upd_new (h : H p = none) : Ext H L (upd H p o) L := ⟨⟨[], by simp⟩, fun _ h n => absurd h n, fun b u e _ => by rw [upd_ne (ne_of_none e h)]; exact e⟩
theorem Ext.push (h : H p = none) : Ext H L (upd H p o) (L ++ [p]) := ⟨⟨[p], rfl⟩, fun b hb n => by
  rcases List.mem_append.mp hb with z | z
  · exact absurd z n
  · rw [List.mem_singleton.mp z]; exact h, fun b u e _ => by rw [upd_ne (ne_of_none e h)]; exact e⟩
theorem Ext.upd_at (h : L[l]? = some a) : Ext H L (upd H a o) L := ⟨⟨[], by simp⟩, fun _ h n => absurd h n, fun b u e n => by
  rw [upd_ne (fun z => n (by rw [z]; exact List.mem_of_getElem? h))]; exact e⟩
/-- a new thing that is no place -/
theorem Sok.new (s : Sok G H L S) (h : H p = none) : Sok G (upd H p o) L S :=
  ⟨s.nd, s.len, fun l c a h1 h2 => (s.ok l c a h1 h2).ext (Ext.upd_new h) s.noTup fun u e => by rw [upd_ne (ne_of_none e h)]; exact e⟩
/-- a new place -/
theorem Sok.push (s : Sok G H L S) (h : H p = none) (c : Cell) (hc : CellOk G (upd H p o) (L ++ [p]) p c) : Sok G (upd H p o) (L ++ [p]) (S ++ [c]) := by
  refine ⟨?_, by simp [s.len], fun l c' a h1 h2 => ?_⟩
  · refine List.nodup_append.mpr ⟨s.nd, List.nodup_cons.mpr ⟨by simp, List.nodup_nil⟩, fun x hx y hy => ?_⟩
    rw [List.mem_singleton.mp hy]
    exact fun z => s.notin h (z ▸ hx)
  · by_cases hl : l < S.length
    · rw [List.getElem?_append_left hl] at h1
      rw [List.getElem?_append_left (by rw [s.len]; exact hl)] at h2
      exact (s.ok l c' a h1 h2).ext (Ext.push h) s.noTup fun u e => by rw [upd_ne (ne_of_none e h)]; exact e
    · rw [List.getElem?_append_right (by omega)] at h1
      rw [List.getElem?_append_right (by rw [s.len]; omega)] at h2
      rw [s.len] at h2
      cases e : l - S.length with
      | zero =>
        rw [e] at h1 h2
        simp at h1 h2
        subst h1 h2
        exact hc
      | succ n => rw [e] at h1; simp at h1
/-- a place changed -/
theorem Sok.set (s : Sok G H L S) (h : L[l]? = some a) (c : Cell) (hc : CellOk G (upd H a o) L a c) : Sok G (upd H a o) L (S.set l c) := by
  refine ⟨s.nd, by simp [s.len], fun m c' b h1 h2 => ?_⟩
  by_cases e : m = l
  · subst e
    rw [h] at h2
    cases h2
    have hl : m < S.length := by rw [← s.len]; exact (List.getElem?_eq_some_iff.mp h).1
    rw [List.getElem?_set_self hl] at h1
    cases h1
    exact hc
  · rw [List.getElem?_set_ne (Ne.symm e)] at h1
    have hab : b ≠ a := fun z => by
      subst z
      obtain ⟨x1, y1⟩ := List.getElem?_eq_some_iff.mp h2
      obtain ⟨x2, y2⟩ := List.getElem?_eq_some_iff.mp h
      exact e ((List.getElem_inj s.nd).mp (y1.trans y2.symm))
    exact (s.ok m c' b h1 h2).ext (Ext.upd_at h) s.noTup fun u q => by rw [upd_ne hab]; exact q
end
section
variable {G : Gx} {H : Hp} {L : List Addr}
theorem Reps.length : ∀ {ds : List D} {vs : List V}, Reps G H L ds vs → ds.length = vs.length
  | [], _, h => by rw [show _ = [] from h] <;> rfl
  | _ :: _, _, ⟨v, r, h1, _, h3⟩ => by rw [h1, List.length_cons, List.length_cons, Reps.length h3]
theorem Reps.get : ∀ {ds : List D} {vs : List V} {i : Nat} {d : D}, Reps G H L ds vs → ds[i]? = some d → ∃ v, vs[i]? = some v ∧ Rep G H L d v
  | [], _, _, _, _, e => by simp at e
  | _ :: _, _, 0, _, ⟨v, r, h1, h2, _⟩, e => by
    simp at e
    subst e h1
    exact ⟨v, rfl, h2⟩
  | _ :: _, _, i + 1, _, ⟨v, r, h1, _, h3⟩, e => by
    subst h1
    exact Reps.get (i := i) h3 (by simpa using e)
theorem Reps.append : ∀ {ds es : List D} {vs us : List V}, Reps G H L ds vs → Reps G H L es us → Reps G H L (ds ++ es) (vs ++ us)
  | [], _, _, _, h, k => by rw [show _ = [] from h]; exact k
  | _ :: _, _, _, _, ⟨v, r, h1, h2, h3⟩, k => ⟨v, _, by rw [h1]; rfl, h2, h3.append k⟩
theorem Reps.one {d : D} {v : V} (h : Rep G H L d v) : Reps G H L [d] [v] := ⟨v, [], rfl, h, rfl⟩
theorem Reps.take : ∀ {ds : List D} {vs : List V} (n : Nat), Reps G H L ds vs → Reps G H L (ds.take n) (vs.take n)
  | _, _, 0, _ => rfl
  | [], _, n + 1, h => by rw [show _ = [] from h]; exact rfl
  | _ :: _, _, n + 1, ⟨v, r, h1, h2, h3⟩ => ⟨v, r.take n, by rw [h1]; rfl, h2, h3.take n⟩
theorem Reps.drop : ∀ {ds : List D} {vs : List V} (n : Nat), Reps G H L ds vs → Reps G H L (ds.drop n) (vs.drop n)
  | _, _, 0, h => h
  | [], _, n + 1, h => by rw [show _ = [] from h]; exact rfl
  | _ :: _, _, n + 1, ⟨v, r, h1, h2, h3⟩ => by rw [h1]; exact h3.drop n
theorem Reps.set {d : D} {v : V} (q : Rep G H L d v) : ∀ {ds : List D} {vs : List V} (i : Nat), Reps G H L ds vs → Reps G H L (ds.set i d) (vs.set i v)
  | [], _, _, h => by rw [show _ = [] from h]; exact rfl
  | _ :: _, _, 0, ⟨u, r, h1, h2, h3⟩ => ⟨v, r, by rw [h1]; rfl, q, h3⟩
  | _ :: _, _, i + 1, ⟨u, r, h1, h2, h3⟩ => ⟨u, _, by rw [h1]; rfl, h2, h3.set q i⟩
theorem Reps.eraseIdx : ∀ {ds : List D} {vs : List V} (i : Nat), Reps G H L ds vs → Reps G H L (ds.eraseIdx i) (vs.eraseIdx i)
  | [], _, _, h => by rw [show _ = [] from h]; exact rfl
  | _ :: _, _, 0, ⟨u, r, h1, h2, h3⟩ => by rw [h1]; exact h3
  | _ :: _, _, i + 1, ⟨u, r, h1, h2, h3⟩ => ⟨u, _, by rw [h1]; rfl, h2, h3.eraseIdx i⟩
theorem Reps.dropLast : ∀ {ds : List D} {vs : List V}, Reps G H L ds vs → Reps G H L ds.dropLast vs.dropLast
  | [], _, h => by rw [show _ = [] from h]; exact rfl
  | [_], _, ⟨u, r, h1, h2, h3⟩ => by rw [h1, show r = [] from h3]; exact rfl
  | _ :: b :: ds, _, ⟨u, r, h1, h2, h3⟩ => by
    have h4 := Reps.dropLast h3
    obtain ⟨u2, r2, e, _, _⟩ := h3
    exact ⟨u, r.dropLast, by rw [h1, e]; rfl, h2, h4⟩
end

/-! ### arguments -/
section
variable {G : Gx} {X : Cx} {W : WX}
def nilA : MA := fun _ S => some (.ok [], S)
def consA (a : ME) (t : MA) : MA := fun ρ S => bnd (a ρ S) fun x S1 => bnd (t ρ S1) fun xs S2 => some (.ok (x :: xs), S2)
theorem rdNil : RdA G W tNil nilA := by
  intro σ H L ρ S r S' Q s e hm k
  simp only [nilA, Option.some.injEq, Prod.mk.injEq] at hm
  obtain ⟨rfl, rfl⟩ := hm
  exact k [] H L rfl s (Ext.refl H L)
theorem rdCons {ta : TE} {t : TA} {a : ME} {m : MA} (ha : RdE G W ta a) (ht : RdA G W t m) : RdA G W (tCons ta t) (consA a m) := by
  intro σ H L ρ S z S' Q s e hm k
  rcases bnd_some hm with ⟨x, S1, h1, h2⟩ | ⟨x, h1, rfl⟩
  · refine ha σ H L ρ S _ S1 _ s e h1 fun v H1 La rv s1 e1 => ?_
    rcases bnd_some h2 with ⟨y, S2, h3, h4⟩ | ⟨y, h3, rfl⟩
    · refine ht σ H1 La ρ S1 _ S2 _ s1 (e.ext e1 s.noTup) h3 fun vs H2 Lb rvs s2 e2 => ?_
      simp only [Option.some.injEq, Prod.mk.injEq] at h4
      obtain ⟨rfl, rfl⟩ := h4
      exact k (v :: vs) H2 Lb ⟨v, vs, rfl, rv.ext e2 s1.noTup, rvs⟩ s2 (e1.trans e2)
    · exact ht σ H1 La ρ S1 _ S' _ s1 (e.ext e1 s.noTup) h3 fun cls dx H' L' xr sx ex => k cls dx H' L' xr sx (e1.trans ex)
  · exact ha σ H L ρ S _ S' _ s e h1 k
theorem ra_nil : RA G X W [] nilA := ⟨_, pa_nil, rdNil⟩
theorem ra_cons {e : Expr} {es : List Expr} {a : ME} {m : MA} (ha : RE G X W e a) (hr : RA G X W es m) (hs : starEach (e :: es) X.env = (false, eval e X.env) :: starEach es X.env := by rfl) : RA G X W (e :: es) (consA a m) := by
  obtain ⟨_, a1, a2⟩ := ha
  obtain ⟨_, b1, b2⟩ := hr
  exact ⟨_, pa_cons a1 b1 hs, rdCons a2 b2⟩
/-! ### displays -/
def tupM (t : MA) : ME := fun ρ S => bnd (t ρ S) fun ds S1 => if ds.length ≤ sizeLine then some (.ok (.tup ds), S1) else none
def lstM (t : MA) : ME := fun ρ S => bnd (t ρ S) fun ds S1 => if ds.length ≤ sizeLine then some (.ok (.ref S1.length), S1 ++ [.lst ds]) else none
theorem rdTup {t : TA} {m : MA} (ht : RdA G W t m) : RdE G W (tTup t) (tupM m) := by
  intro σ H L ρ S z S' Q s e hm k
  rcases bnd_some hm with ⟨x, S1, h1, h2⟩ | ⟨x, h1, rfl⟩
  · refine ht σ H L ρ S _ S1 _ s e h1 fun vs H1 La rv s1 e1 => ?_
    split at h2
    · rename_i hl
      simp only [Option.some.injEq, Prod.mk.injEq] at h2
      obtain ⟨rfl, rfl⟩ := h2
      refine ⟨by rw [← rv.length]; exact hl, fun p hp => ?_⟩
      exact k _ _ La ⟨p, vs, rfl, .inl (.inl upd_same), rv.ext (Ext.upd_new hp) s1.noTup⟩ (s1.new hp) (e1.trans (Ext.upd_new hp))
    · cases h2
  · exact ht σ H L ρ S _ S' _ s e h1 k
theorem rdLst {t : TA} {m : MA} (ht : RdA G W t m) : RdE G W (tLst t) (lstM m) := by
  intro σ H L ρ S z S' Q s e hm k
  rcases bnd_some hm with ⟨x, S1, h1, h2⟩ | ⟨x, h1, rfl⟩
  · refine ht σ H L ρ S _ S1 _ s e h1 fun vs H1 La rv s1 e1 => ?_
    split at h2
    · rename_i hl
      simp only [Option.some.injEq, Prod.mk.injEq] at h2
      obtain ⟨rfl, rfl⟩ := h2
      refine ⟨by rw [← rv.length]; exact hl, fun p hp => ?_⟩
      refine k _ _ (La ++ [p]) ⟨p, rfl, ?_⟩ (s1.push hp _ ⟨vs, upd_same, rv.ext (Ext.push hp) s1.noTup⟩) (e1.trans (Ext.push hp))
      rw [← s1.len, List.getElem?_append_right (Nat.le_refl _), Nat.sub_self]
      rfl
    · cases h2
  · exact ht σ H L ρ S _ S' _ s e h1 k
theorem re_tup {es : List Expr} {m : MA} {x1} {pos : Pos} (h : RA G X W es m) : RE G X W (.Tuple es x1 pos) (tupM m) := by
  obtain ⟨_, a1, a2⟩ := h
  exact ⟨_, pe_tup a1, rdTup a2⟩
theorem re_lst {es : List Expr} {m : MA} {pos : Pos} (h : RA G X W es m) : RE G X W (.List es pos) (lstM m) := by
  obtain ⟨_, a1, a2⟩ := h
  exact ⟨_, pe_lst a1, rdLst a2⟩

/-! ### calls of what is built in, by values -/
def CallD (G : Gx) (r : List V → Hp → VK → Prop) (f : List D → Sto → Option (D × Sto)) : Prop :=
  ∀ (H : Hp) (L : List Addr) (S : Sto) (xs : List D) (vs : List V) (d : D) (S' : Sto) (Q : VK), Sok G H L S → Reps G H L xs vs → f xs S = some (d, S') →
    (∀ w H' L', Rep G H' L' d w → Sok G H' L' S' → Ext H L H' L' → Q w H') → r vs H Q
def cbM (f : List D → Sto → Option (D × Sto)) (t : MA) : ME := fun ρ S => bnd (t ρ S) fun ds S1 => match f ds S1 with
  | some (d, S2) => some (.ok d, S2)
  | none => none
theorem rdCB {r : List V → Hp → VK → Prop} {f : List D → Sto → Option (D × Sto)} {t : TA} {m : MA} (hr : CallD G r f) (ht : RdA G W t m) : RdE G W (tCB r t) (cbM f m) := by
  intro σ H L ρ S z S' Q s e hm k
  rcases bnd_some hm with ⟨x, S1, h1, h2⟩ | ⟨x, h1, rfl⟩
  · refine ht σ H L ρ S _ S1 _ s e h1 fun vs H1 La rv s1 e1 => ?_
    cases q : f x S1 with
    | none => rw [q] at h2; cases h2
    | some p =>
      obtain ⟨d, S2⟩ := p
      rw [q] at h2
      simp only [Option.some.injEq, Prod.mk.injEq] at h2
      obtain ⟨rfl, rfl⟩ := h2
      exact hr H1 La S1 x vs d S2 Q s1 rv q fun w H' L' a b c => k w H' L' a b (e1.trans c)
  · exact ht σ H L ρ S _ S' _ s e h1 k
theorem re_callB {r : List V → Hp → VK → Prop} {f : List D → Sto → Option (D × Sto)} {id : String} {x : Str} {p pos : Pos} {e : Expr} {es : List Expr} {m : MA} (hc : CallR X (.builtin id) r) (hd : CallD G r f) (hm : X.mg x = none) (hv : bootBuiltins x = some (.builtin id)) (ha : RA G X W (e :: es) m)
    (hg : Gl X x := by rfl) (hn : x ≠ "__name__" := by decide) (hdb : (x == ("__debug__" : Str)) = false := by decide) (he : starEach (e :: es) X.env = (false, eval e X.env) :: starEach es X.env := by rfl) (hpl : (backTo pos (starEach es X.env)).any (·.1) = false := by rfl) :
    RE G X W (.Call (.Name x p) (e :: es) [] pos) (cbM f m) := by
  obtain ⟨_, a1, a2⟩ := ha
  exact ⟨_, pe_callB hc hg hm hv a1 hn hdb he hpl, rdCB hd a2⟩
theorem re_callTy {r : List V → Hp → VK → Prop} {f : List D → Sto → Option (D × Sto)} {T : String} {x : Str} {p pos : Pos} {e : Expr} {es : List Expr} {m : MA} (hc : CallR X (.type T) r) (hd : CallD G r f) (hm : X.mg x = none) (hv : bootBuiltins x = some (.type T)) (ha : RA G X W (e :: es) m)
    (hg : Gl X x := by rfl) (hn : x ≠ "__name__" := by decide) (hdb : (x == ("__debug__" : Str)) = false := by decide) (he : starEach (e :: es) X.env = (false, eval e X.env) :: starEach es X.env := by rfl) (hpl : (backTo pos (starEach es X.env)).any (·.1) = false := by rfl) :
    RE G X W (.Call (.Name x p) (e :: es) [] pos) (cbM f m) := by
  obtain ⟨_, a1, a2⟩ := ha
  exact ⟨_, pe_callTy hc hg hm hv a1 hn hdb he hpl, rdCB hd a2⟩

/-! ### methods of what is built in -/
def MtD (G : Gx) (r : V → List V → Hp → VK → Prop) (f : D → List D → Sto → Option (D × Sto)) : Prop :=
  ∀ (H : Hp) (L : List Addr) (S : Sto) (x : D) (v : V) (xs : List D) (vs : List V) (d : D) (S' : Sto) (Q : VK), Sok G H L S → Rep G H L x v → Reps G H L xs vs → f x xs S = some (d, S') →
    (∀ w H' L', Rep G H' L' d w → Sok G H' L' S' → Ext H L H' L' → Q w H') → r v vs H Q
/-- of what kind a receiver is -/
def TyD (G : Gx) (T : String) (ty : D → Sto → Bool) : Prop := ∀ (H : Hp) (L : List Addr) (S : Sto) (x : D) (v : V), Sok G H L S → Rep G H L x v → ty x S = true → tyV G.K T v H
def mtM (ty : D → Sto → Bool) (f : D → List D → Sto → Option (D × Sto)) (o : ME) (t : MA) : ME := fun ρ S => bnd (o ρ S) fun x S1 => if ty x S1 = true then bnd (t ρ S1) fun ds S2 => (match f x ds S2 with
  | some (d, S3) => some (.ok d, S3)
  | none => none) else none
theorem rdBM {T : String} {ty : D → Sto → Bool} {r : V → List V → Hp → VK → Prop} {f : D → List D → Sto → Option (D × Sto)} {to : TE} {t : TA} {o : ME} {m : MA} (hty : TyD G T ty) (hr : MtD G r f) (ho : RdE G W to o) (ht : RdA G W t m) : RdE G W (tBM G.K T r to t) (mtM ty f o m) := by
  intro σ H L ρ S z S' Q s e hm k
  rcases bnd_some hm with ⟨x, S1, h1, h2⟩ | ⟨x, h1, rfl⟩
  · refine ho σ H L ρ S _ S1 _ s e h1 fun v H1 La rv s1 e1 => ?_
    split at h2
    · rename_i hy
      refine ⟨hty H1 La S1 x v s1 rv hy, ?_⟩
      rcases bnd_some h2 with ⟨ys, S2, h3, h4⟩ | ⟨y, h3, rfl⟩
      · refine ht σ H1 La ρ S1 _ S2 _ s1 (e.ext e1 s.noTup) h3 fun vs H2 Lb rvs s2 e2 => ?_
        cases q : f x ys S2 with
        | none => rw [q] at h4; cases h4
        | some p =>
          obtain ⟨d, S3⟩ := p
          rw [q] at h4
          simp only [Option.some.injEq, Prod.mk.injEq] at h4
          obtain ⟨rfl, rfl⟩ := h4
          exact hr H2 Lb S2 x v ys vs d S3 Q s2 (rv.ext e2 s1.noTup) rvs q fun w H' L' a b c => k w H' L' a b ((e1.trans e2).trans c)
      · exact ht σ H1 La ρ S1 _ S' _ s1 (e.ext e1 s.noTup) h3 fun cls dx H' L' xr sx ex => k cls dx H' L' xr sx (e1.trans ex)
    · cases h2
  · exact ho σ H L ρ S _ S' _ s e h1 k
theorem rdBM0 {T : String} {ty : D → Sto → Bool} {r : V → List V → Hp → VK → Prop} {f : D → List D → Sto → Option (D × Sto)} {to : TE} {o : ME} (hty : TyD G T ty) (hr : MtD G r f) (ho : RdE G W to o) : RdE G W (tBM0 G.K T r to) (mtM ty f o nilA) := by
  intro σ H L ρ S z S' Q s e hm k
  rcases bnd_some hm with ⟨x, S1, h1, h2⟩ | ⟨x, h1, rfl⟩
  · refine ho σ H L ρ S _ S1 _ s e h1 fun v H1 La rv s1 e1 => ?_
    split at h2
    · rename_i hy
      refine ⟨hty H1 La S1 x v s1 rv hy, ?_⟩
      have h4 : (match f x [] S1 with | some (d, S3) => some (Res.ok d, S3) | none => none) = some (z, S') := h2
      cases q : f x [] S1 with
      | none => rw [q] at h4; cases h4
      | some p =>
        obtain ⟨d, S3⟩ := p
        rw [q] at h4
        simp only [Option.some.injEq, Prod.mk.injEq] at h4
        obtain ⟨rfl, rfl⟩ := h4
        exact hr H1 La S1 x v [] [] d S3 Q s1 rv rfl q fun w H' L' a b c => k w H' L' a b (e1.trans c)
    · cases h2
  · exact ho σ H L ρ S _ S' _ s e h1 k
theorem re_bm {T : String} {ty : D → Sto → Bool} {id : String} {name : Str} {r : V → List V → Hp → VK → Prop} {f : D → List D → Sto → Option (D × Sto)} {o e : Expr} {es : List Expr} {mo : ME} {m : MA} {apos cpos : Pos} (c : Cc G X W) (pa : PlainAttrs T) (slot : Slot T name id) (hty : typeOf (.builtin id) = pure (.type "method_descriptor")) (hm : MtR X id r)
    (ht : TyD G T ty) (hd : MtD G r f) (ho : RE G X W o mo) (ha : RA G X W (e :: es) m)
    (hbase : attributeBase o name X.env (eval o X.env) = eval o X.env := by rfl)
    (hfew : ((backTo cpos (starEach (e :: es) X.env)).all (fun x => !x.1) && (backToKw cpos (keywordEach [] X.env)).all (fun x => x.1.isSome)
      && decide ((e :: es).length + ([] : List Keyword).length + (if ([] : List Keyword).isEmpty then 0 else 1) < 30)) = true := by rfl)
    (hline : (apos.endLine == cpos.line) = true := by rfl) (hs : starEach (e :: es) X.env = (false, eval e X.env) :: starEach es X.env := by rfl) (hplain : (backTo cpos (starEach es X.env)).any (·.1) = false := by rfl) :
    RE G X W (.Call (.Attribute o name apos) (e :: es) [] cpos) (mtM ty f mo m) := by
  obtain ⟨_, o1, o2⟩ := ho
  obtain ⟨_, a1, a2⟩ := ha
  have h := pe_bm pa slot hty hm o1 a1 (apos := apos) (cpos := cpos) hbase hfew hline hs hplain
  rw [c.K] at h
  exact ⟨_, h, rdBM ht hd o2 a2⟩
theorem re_bm0 {T : String} {ty : D → Sto → Bool} {id : String} {name : Str} {r : V → List V → Hp → VK → Prop} {f : D → List D → Sto → Option (D × Sto)} {o : Expr} {mo : ME} {apos cpos : Pos} (c : Cc G X W) (pa : PlainAttrs T) (slot : Slot T name id) (hty : typeOf (.builtin id) = pure (.type "method_descriptor")) (hm : MtR X id r)
    (ht : TyD G T ty) (hd : MtD G r f) (ho : RE G X W o mo) (hbase : attributeBase o name X.env (eval o X.env) = eval o X.env := by rfl) (hline : (apos.endLine == cpos.line) = true := by rfl) : RE G X W (.Call (.Attribute o name apos) [] [] cpos) (mtM ty f mo nilA) := by
  obtain ⟨_, o1, o2⟩ := ho
  have h := pe_bm0 pa slot hty hm o1 (apos := apos) (cpos := cpos) hbase hline
  rw [c.K] at h
  exact ⟨_, h, rdBM0 ht hd o2⟩
end

/-! ### statements -/
section
variable {G : Gx} {X : Cx} {W : WX}
def nextS : MS := fun ρ S => some (.nx, ρ, S)
def seqS (a b : MS) : MS := fun ρ S => match a ρ S with
  | some (.nx, ρ1, S1) => b ρ1 S1
  | r => r
theorem rdNext : RdS G W tNext nextS := by
  intro σ H L ρ S f ρ' S' Ds s e hm k
  simp only [nextS, Option.some.injEq, Prod.mk.injEq] at hm
  obtain ⟨rfl, rfl, rfl⟩ := hm
  exact k σ H L e s (Ext.refl H L)
theorem rdSeq {t u : TS} {a b : MS} (ha : RdS G W t a) (hb : RdS G W u b) : RdS G W (tSeq t u) (seqS a b) := by
  intro σ H L ρ S f ρ' S' Ds s e hm k
  unfold seqS at hm
  cases q : a ρ S with
  | none => rw [q] at hm; cases hm
  | some p =>
    obtain ⟨g, ρ1, S1⟩ := p
    rw [q] at hm
    cases g with
    | nx => exact ha σ H L ρ S _ ρ1 S1 { Ds with nx := u Ds } s e q fun σ1 H1 La e1 s1 x1 => hb σ1 H1 La ρ1 S1 _ _ _ Ds s1 e1 hm (k.ext x1)
    | bk => cases hm; exact ha σ H L ρ S _ _ _ { Ds with nx := u Ds } s e q k
    | ct => cases hm; exact ha σ H L ρ S _ _ _ { Ds with nx := u Ds } s e q k
    | rt d => cases hm; exact ha σ H L ρ S _ _ _ { Ds with nx := u Ds } s e q k
    | exn x => cases hm; exact ha σ H L ρ S _ _ _ { Ds with nx := u Ds } s e q k
theorem rss_nil : RSs G X W [] nextS := ⟨_, pss_nil, rdNext⟩
theorem rss_cons {st : Stmt} {rest : List Stmt} {a b : MS} (h1 : RS G X W st a) (h2 : RSs G X W rest b) : RSs G X W (st :: rest) (seqS a b) := by
  obtain ⟨_, a1, a2⟩ := h1
  obtain ⟨_, b1, b2⟩ := h2
  exact ⟨_, pss_cons a1 b1, rdSeq a2 b2⟩
theorem rss_one {st : Stmt} {a : MS} (h1 : RS G X W st a) : RSs G X W [st] a := by
  obtain ⟨_, a1, a2⟩ := h1
  exact ⟨_, pss_one a1, a2⟩
def passS : MS := nextS
def bkS : MS := fun ρ S => some (.bk, ρ, S)
def ctS : MS := fun ρ S => some (.ct, ρ, S)
theorem rs_pass {pos : Pos} : RS G X W (.Pass pos) nextS := ⟨_, ps_pass, rdNext⟩
theorem rs_break {pos : Pos} : RS G X W (.Break pos) bkS := ⟨_, ps_break, fun σ H L ρ S f ρ' S' Ds s e hm k => by
  simp only [bkS, Option.some.injEq, Prod.mk.injEq] at hm
  obtain ⟨rfl, rfl, rfl⟩ := hm
  exact k σ H L e s (Ext.refl H L)⟩
theorem rs_continue {pos : Pos} : RS G X W (.Continue pos) ctS := ⟨_, ps_continue, fun σ H L ρ S f ρ' S' Ds s e hm k => by
  simp only [ctS, Option.some.injEq, Prod.mk.injEq] at hm
  obtain ⟨rfl, rfl, rfl⟩ := hm
  exact k σ H L e s (Ext.refl H L)⟩
/-- an expression whose value goes on -/
def withE (a : ME) (k : D → MS) : MS := fun ρ S => match a ρ S with
  | some (.ok d, S1) => k d ρ S1
  | some (.exn x, S1) => some (.exn x, ρ, S1)
  | none => none
theorem withE_some {a : ME} {k : D → MS} {ρ : En} {S : Sto} {r : Fl × En × Sto} (h : withE a k ρ S = some r) : (∃ d S1, a ρ S = some (.ok d, S1) ∧ k d ρ S1 = some r) ∨ ∃ x S1, a ρ S = some (.exn x, S1) ∧ r = (.exn x, ρ, S1) := by
  unfold withE at h
  split at h
  · exact .inl ⟨_, _, by assumption, h⟩
  · exact .inr ⟨_, _, by assumption, (Option.some.inj h).symm⟩
  · cases h
def exprS (a : ME) : MS := withE a fun _ => nextS
def retS (a : ME) : MS := withE a fun d ρ S => some (.rt d, ρ, S)
def retNS : MS := fun ρ S => some (.rt .non, ρ, S)
theorem rs_expr {e : Expr} {m : ME} {pos : Pos} (he : RE G X W e m) (hs : swapsWith e none pos.line X.env = pure false := by rfl) : RS G X W (.Expr e pos) (exprS m) := by
  obtain ⟨t, a1, a2⟩ := he
  refine ⟨_, ps_expr a1 hs, fun σ H L ρ S f ρ' S' Ds s e hm k => ?_⟩
  rcases withE_some hm with ⟨d, S1, h1, h2⟩ | ⟨x, S1, h1, h2⟩
  · simp only [nextS, Option.some.injEq, Prod.mk.injEq] at h2
    obtain ⟨rfl, rfl, rfl⟩ := h2
    exact a2 σ H L ρ S _ S1 _ s e h1 fun v H1 La rv s1 e1 => k σ H1 La (e.ext e1 s.noTup) s1 e1
  · cases h2
    exact a2 σ H L ρ S _ _ (fun _ H1 => Ds.nx σ H1) s e h1 fun cls dx H' L' xr sx ex => k cls dx σ H' L' xr (e.ext ex s.noTup) sx ex
theorem rs_ret {e : Expr} {m : ME} {pos : Pos} (he : RE G X W e m) : RS G X W (.Return (some e) pos) (retS m) := by
  obtain ⟨t, a1, a2⟩ := he
  refine ⟨_, ps_ret a1, fun σ H L ρ S f ρ' S' Ds s e hm k => ?_⟩
  rcases withE_some hm with ⟨d, S1, h1, h2⟩ | ⟨x, S1, h1, h2⟩
  · simp only [Option.some.injEq, Prod.mk.injEq] at h2
    obtain ⟨rfl, rfl, rfl⟩ := h2
    exact a2 σ H L ρ S _ S1 _ s e h1 k
  · cases h2
    exact a2 σ H L ρ S _ _ Ds.rt s e h1 fun cls dx H' L' xr sx ex => k cls dx σ H' L' xr (e.ext ex s.noTup) sx ex
theorem rs_retN {pos : Pos} : RS G X W (.Return none pos) retNS := ⟨_, ps_retN, fun σ H L ρ S f ρ' S' Ds s e hm k => by
  simp only [retNS, Option.some.injEq, Prod.mk.injEq] at hm
  obtain ⟨rfl, rfl, rfl⟩ := hm
  exact k .non H L rfl s (Ext.refl H L)⟩
def ifS (c : MT) (a b : MS) : MS := fun ρ S => match c ρ S with
  | some (.ok true, S1) => a ρ S1
  | some (.ok false, S1) => b ρ S1
  | some (.exn x, S1) => some (.exn x, ρ, S1)
  | none => none
theorem rs_if {c : Expr} {a b : List Stmt} {mc : MT} {ma mb : MS} {pos : Pos} (hc : RT G X W c mc) (ha : RSs G X W a ma) (hb : RSs G X W b mb) : RS G X W (.If c a b pos) (ifS mc ma mb) := by
  obtain ⟨tc, c1, c2⟩ := hc
  obtain ⟨ta, a1, a2⟩ := ha
  obtain ⟨tb, b1, b2⟩ := hb
  refine ⟨_, ps_if c1 a1 b1, fun σ H L ρ S f ρ' S' Ds s e hm k => ?_⟩
  unfold ifS at hm
  split at hm
  · rename_i S1 q
    exact c2 σ H L ρ S _ S1 (fun b H1 => if b = true then ta Ds σ H1 else tb Ds σ H1) s e q fun H1 La s1 e1 => a2 σ H1 La ρ S1 _ _ _ Ds s1 (e.ext e1 s.noTup) hm (k.ext e1)
  · rename_i S1 q
    exact c2 σ H L ρ S _ S1 (fun b H1 => if b = true then ta Ds σ H1 else tb Ds σ H1) s e q fun H1 La s1 e1 => b2 σ H1 La ρ S1 _ _ _ Ds s1 (e.ext e1 s.noTup) hm (k.ext e1)
  · rename_i x S1 q
    cases hm
    exact c2 σ H L ρ S _ _ (fun b H1 => if b = true then ta Ds σ H1 else tb Ds σ H1) s e q fun cls dx H' L' xr sx ex => k cls dx σ H' L' xr (e.ext ex s.noTup) sx ex
  · cases hm

/-! ### targets -/
abbrev MG := D → En → Sto → Option (En × Sto)
def RdG (G : Gx) (t : TG) (m : MG) : Prop := ∀ (σ : Sl) (H : Hp) (L : List Addr) (ρ : En) (S : Sto) (d : D) (v : V) (ρ' : En) (S' : Sto) (Q : L2.St → Hp → Prop), Sok G H L S → Eok G H L ρ σ → Rep G H L d v → m d ρ S = some (ρ', S') →
  (∀ σ' H' L', Eok G H' L' ρ' σ' → Sok G H' L' S' → Ext H L H' L' → Q σ' H') → t v σ H Q
structure RG (G : Gx) (X : Cx) (e : Expr) (m : MG) : Prop where
  ex : ∃ t, PG X e t ∧ RdG G t m
def nameG (i : Nat) : MG := fun d ρ S => some (ρ.set i (some d), S)
theorem rdName (i : Nat) : RdG G (gName i) (nameG i) := by
  intro σ H L ρ S d v ρ' S' Q s e rv hm k
  simp only [nameG, Option.some.injEq, Prod.mk.injEq] at hm
  obtain ⟨rfl, rfl⟩ := hm
  exact k _ H L (e.set rv i) s (Ext.refl H L)
theorem rg_name (i : Nat) {x : Str} {pos : Pos} (hN : X.N.Nodup) (hi : X.N[i]? = some x := by rfl) (hx : Loc X.env.scope x := by first | exact Or.inl rfl | exact Or.inr rfl) (hf : X.fn x = true ∨ X.env.scope.names.lookup x = some .local := by first | exact .inl rfl | exact .inr rfl) : RG G X (.Name x pos) (nameG i) := ⟨_, pg_name hN hi hx hf, rdName i⟩
abbrev MGs := List D → En → Sto → Option (En × Sto)
def RdGs (G : Gx) (t : TGs) (m : MGs) : Prop := ∀ (σ : Sl) (H : Hp) (L : List Addr) (ρ : En) (S : Sto) (ds : List D) (vs : List V) (ρ' : En) (S' : Sto) (Q : L2.St → Hp → Prop), Sok G H L S → Eok G H L ρ σ → Reps G H L ds vs → m ds ρ S = some (ρ', S') →
  (∀ σ' H' L', Eok G H' L' ρ' σ' → Sok G H' L' S' → Ext H L H' L' → Q σ' H') → t vs σ H Q
structure RGs (G : Gx) (X : Cx) (es : List Expr) (m : MGs) : Prop where
  ex : ∃ t, PGs X es t ∧ RdGs G t m
def nilG : MGs := fun ds ρ S => match ds with
  | [] => some (ρ, S)
  | _ => none
def consG (a : MG) (b : MGs) : MGs := fun ds ρ S => match ds with
  | d :: r => (match a d ρ S with
    | some (ρ1, S1) => b r ρ1 S1
    | none => none)
  | [] => none
theorem rgs_nil : RGs G X [] nilG := ⟨_, pgs_nil, fun σ H L ρ S ds vs ρ' S' Q s e rv hm k => by
  cases ds with
  | nil =>
    simp only [nilG, Option.some.injEq, Prod.mk.injEq] at hm
    obtain ⟨rfl, rfl⟩ := hm
    exact ⟨rv, k σ H L e s (Ext.refl H L)⟩
  | cons _ _ => cases hm⟩
theorem rgs_cons {e : Expr} {es : List Expr} {a : MG} {b : MGs} (h1 : RG G X e a) (h2 : RGs G X es b) (hs : (assignEach (e :: es) X.env).map (·.2) = assign e X.env :: (assignEach es X.env).map (·.2) := by rfl) : RGs G X (e :: es) (consG a b) := by
  obtain ⟨_, a1, a2⟩ := h1
  obtain ⟨_, b1, b2⟩ := h2
  refine ⟨_, pgs_cons a1 b1 hs, fun σ H L ρ S ds vs ρ' S' Q s e rv hm k => ?_⟩
  cases ds with
  | nil => cases hm
  | cons d r =>
    obtain ⟨v, vr, rfl, r1, r2⟩ := rv
    refine ⟨v, vr, rfl, ?_⟩
    unfold consG at hm
    dsimp only at hm
    cases q : a d ρ S with
    | none => rw [q] at hm; cases hm
    | some p =>
      obtain ⟨ρ1, S1⟩ := p
      rw [q] at hm
      exact a2 σ H L ρ S d v ρ1 S1 _ s e r1 q fun σ1 H1 La e1 s1 x1 => b2 σ1 H1 La ρ1 S1 r vr _ _ Q s1 e1 (r2.ext x1 s.noTup) hm fun σ' H' L' p1 p2 p3 => k σ' H' L' p1 p2 (x1.trans p3)
/-- a, b, .. = a tuple of that length -/
def tupG (n : Nat) (g : MGs) : MG := fun d ρ S => match d with
  | .tup ds => if ds.length = n then g ds ρ S else none
  | _ => none
theorem rg_tup {W : WX} {es : List Expr} {k : Nat} {g : MGs} {n : Nat} {pos : Pos} (c : Cc G X W) (hc : X.calm = true) (h : RGs G X es g) (hn : (assignEach es X.env).length = n := by rfl) (hst : (assignEach es X.env).findIdx? (·.1) = none := by rfl) : RG G X (.Tuple es k pos) (tupG n g) := by
  obtain ⟨_, a1, a2⟩ := h
  refine ⟨_, pg_tup hc a1 hn hst, fun σ H L ρ S d v ρ' S' Q s e rv hm k => ?_⟩
  cases d with
  | tup ds =>
    obtain ⟨a, vs, rfl, hq, rvs⟩ := rv
    unfold tupG at hm
    dsimp only at hm
    split at hm
    · rename_i hl
      exact ⟨a, vs, rfl, by rw [c.K]; exact hq, by rw [← rvs.length]; exact hl, a2 σ H L ρ S ds vs ρ' S' Q s e rvs hm k⟩
    · cases hm
  | _ => cases hm
def asgS (a : ME) (g : MG) : MS := withE a fun d ρ S => match g d ρ S with
  | some (ρ', S') => some (.nx, ρ', S')
  | none => none
theorem rdAsg {te : TE} {m : ME} {tg : TG} {g : MG} (he : RdE G W te m) (hg : RdG G tg g) : RdS G W (tAsg te tg) (asgS m g) := by
  intro σ H L ρ S f ρ' S' Ds s e hm k
  rcases withE_some hm with ⟨d, S1, h1, h2⟩ | ⟨x, S1, h1, h2⟩
  · refine he σ H L ρ S _ S1 _ s e h1 fun v H1 La rv s1 e1 => ?_
    cases q : g d ρ S1 with
    | none => rw [q] at h2; cases h2
    | some p =>
      obtain ⟨ρ1, S2⟩ := p
      rw [q] at h2
      cases h2
      exact hg σ H1 La ρ S1 d v _ _ _ s1 (e.ext e1 s.noTup) rv q fun σ' H' L' p1 p2 p3 => k σ' H' L' p1 p2 (e1.trans p3)
  · cases h2
    exact he σ H L ρ S _ _ (fun x H1 => tg x σ H1 Ds.nx) s e h1 fun cls dx H' L' xr sx ex => k cls dx σ H' L' xr (e.ext ex s.noTup) sx ex
theorem rs_asg {tg e : Expr} {m : ME} {g : MG} {pos : Pos} (he : RE G X W e m) (hg : RG G X tg g) (hs : swapsWithSole [tg] e pos.line X.env = pure false := by rfl) (hw : swappedStores [tg] e X.env = pure none := by rfl)
    (h1 : (assignEach [tg] X.env).map (·.2) = [assign tg X.env] := by rfl) : RS G X W (.Assign [tg] e pos) (asgS m g) := by
  obtain ⟨_, a1, a2⟩ := he
  obtain ⟨_, b1, b2⟩ := hg
  exact ⟨_, ps_asg a1 b1 hs hw h1, rdAsg a2 b2⟩
def setS (i : Nat) (a : ME) : MS := asgS a (nameG i)
theorem rs_set (i : Nat) {x : Str} {e : Expr} {m : ME} {pos pos' : Pos} (hN : X.N.Nodup) (he : RE G X W e m) (hi : X.N[i]? = some x := by rfl) (hx : Loc X.env.scope x := by first | exact Or.inl rfl | exact Or.inr rfl) (hs : swapsWith e (some (.Name x pos')) pos.line X.env = pure false := by rfl) (hf : X.fn x = true ∨ X.env.scope.names.lookup x = some .local := by first | exact .inl rfl | exact .inr rfl) :
    RS G X W (.Assign [.Name x pos'] e pos) (setS i m) := by
  obtain ⟨_, a1, a2⟩ := he
  exact ⟨_, ps_set hN hi hx a1 hs hf, rdAsg a2 (rdName i)⟩
/-- a, b = x, y -/
def parS (i j : Nat) (t : MA) : MS := fun ρ S => match t ρ S with
  | some (.ok [x, y], S1) => some (.nx, (ρ.set i (some x)).set j (some y), S1)
  | some (.exn x, S1) => some (.exn x, ρ, S1)
  | _ => none
theorem rs_par (i j : Nat) {x y : Str} {a b : Expr} {m : MA} {px py pt : Pos} {kt k2 pt2} {pos : Pos} (hc : X.calm = true) (hN : X.N.Nodup) (ha : RA G X W [a, b] m) (hi : X.N[i]? = some x := by rfl) (hj : X.N[j]? = some y := by rfl) (hij : i ≠ j := by decide)
    (hx : X.env.scope.names.lookup x = some .local := by rfl) (hy : X.env.scope.names.lookup y = some .local := by rfl)
    (hw : swappedStores [.Tuple [.Name x px, .Name y py] kt pt] (.Tuple [a, b] k2 pt2) X.env = pure (some [x, y]) := by rfl)
    (hs : swapsWithSole [.Tuple [.Name x px, .Name y py] kt pt] (.Tuple [a, b] k2 pt2) pos.line X.env = pure false := by rfl) :
    RS G X W (.Assign [.Tuple [.Name x px, .Name y py] kt pt] (.Tuple [a, b] k2 pt2) pos) (parS i j m) := by
  obtain ⟨t, a1, a2⟩ := ha
  refine ⟨_, ps_par hc hN hi hj hij hx hy a1 hw hs, fun σ H L ρ S f ρ' S' Ds s e hm k => ?_⟩
  unfold parS at hm
  split at hm
  · rename_i x y S1 q
    cases hm
    refine a2 σ H L ρ S _ _ _ s e q fun vs H1 La rvs s1 e1 => ?_
    obtain ⟨v, r, rfl, rv, w, r2, rfl, rw', z⟩ := rvs
    cases z
    exact ⟨v, w, rfl, k _ H1 La (((e.ext e1 s.noTup).set rv i).set rw' j) s1 e1⟩
  · rename_i x S1 q
    cases hm
    exact a2 σ H L ρ S _ _ (fun vs H1 => ∃ v w, vs = [v, w] ∧ Ds.nx ((σ.set i (some v)).set j (some w)) H1) s e q fun cls dx H' L' xr sx ex => k cls dx σ H' L' xr (e.ext ex s.noTup) sx ex
  · cases hm
/-- o[i] = e, by values -/
def SetD (G : Gx) (r : TSet) (f : D → D → D → Sto → Option Sto) : Prop :=
  ∀ (H : Hp) (L : List Addr) (S : Sto) (x y z : D) (o i v : V) (S' : Sto) (Q : Hp → Prop), Sok G H L S → Rep G H L x o → Rep G H L y i → Rep G H L z v → f x y z S = some S' → (∀ H' L', Sok G H' L' S' → Ext H L H' L' → Q H') → r o i v H Q
def subS (f : D → D → D → Sto → Option Sto) (o i a : ME) : MS := withE a fun d => withE o fun x => withE i fun y ρ S => match f x y d S with
  | some S' => some (.nx, ρ, S')
  | none => none
theorem rs_sub {r : TSet} {f : D → D → D → Sto → Option Sto} {o i v : Expr} {mo mi mv : ME} {pos pos' : Pos} (hr : PSet X r) (hd : SetD G r f) (ho : RE G X W o mo) (hi : RE G X W i mi) (hv : RE G X W v mv)
    (hs : swapsWithSole [.Subscript o i pos'] v pos.line X.env = pure false := by rfl) (hw : swappedStores [.Subscript o i pos'] v X.env = pure none := by rfl)
    (h1 : (assignEach [.Subscript o i pos'] X.env).map (·.2) = [assign (.Subscript o i pos') X.env] := by rfl)
    (ha : ∀ v, assign (.Subscript o i pos') X.env v = (do
      let ov ← holding [v] (eval o X.env)
      let iv ← holding [v, ov] (eval i X.env)
      standAt pos'
      holding [v, ov, iv] (setItem ov iv v)
      release [v, ov, iv] []) := by intro _; rfl) : RS G X W (.Assign [.Subscript o i pos'] v pos) (subS f mo mi mv) := by
  obtain ⟨tt, o1, o2⟩ := ho
  obtain ⟨ti, i1, i2⟩ := hi
  obtain ⟨tv, v1, v2⟩ := hv
  refine ⟨_, ps_asg v1 (pg_sub o1 i1 hr ha) hs hw h1, fun σ H L ρ S f' ρ' S' Ds s e hm k => ?_⟩
  rcases withE_some hm with ⟨d, S1, h1, h2⟩ | ⟨x, S1, h1, h2⟩
  · refine v2 σ H L ρ S _ S1 _ s e h1 fun v H1 La rv s1 e1 => ?_
    have eo1 := e.ext e1 s.noTup
    rcases withE_some h2 with ⟨d2, S2, h3, h4⟩ | ⟨x, S2, h3, h4⟩
    · refine o2 σ H1 La ρ S1 _ S2 _ s1 eo1 h3 fun ov H2 Lb ro s2 e2 => ?_
      have eo2 := eo1.ext e2 s1.noTup
      rcases withE_some h4 with ⟨d3, S3, h5, h6⟩ | ⟨x, S3, h5, h6⟩
      · refine i2 σ H2 Lb ρ S2 _ S3 _ s2 eo2 h5 fun iv H3 Lc ri s3 e3 => ?_
        cases q : f d2 d3 d S3 with
        | none => rw [q] at h6; cases h6
        | some S4 =>
          rw [q] at h6
          cases h6
          exact hd H3 Lc S3 d2 d3 d ov iv v _ _ s3 (ro.ext e3 s2.noTup) ri ((rv.ext e2 s1.noTup).ext e3 s2.noTup) q fun H' L' p2 p3 => k σ H' L' ((eo2.ext e3 s2.noTup).ext p3 s3.noTup) p2 (((e1.trans e2).trans e3).trans p3)
      · cases h6
        exact i2 σ H2 Lb ρ S2 _ _ (fun i H3 => r ov i v H3 fun H4 => Ds.nx σ H4) s2 eo2 h5 fun cls dx H' L' xr sx ex => k cls dx σ H' L' xr (eo2.ext ex s2.noTup) sx ((e1.trans e2).trans ex)
    · cases h4
      exact o2 σ H1 La ρ S1 _ _ (fun o H2 => ti σ H2 fun i H3 => r o i v H3 fun H4 => Ds.nx σ H4) s1 eo1 h3 fun cls dx H' L' xr sx ex => k cls dx σ H' L' xr (eo1.ext ex s1.noTup) sx (e1.trans ex)
  · cases h2
    exact v2 σ H L ρ S _ _ (fun x H1 => gSub tt ti r x σ H1 Ds.nx) s e h1 fun cls dx H' L' xr sx ex => k cls dx σ H' L' xr (e.ext ex s.noTup) sx ex
/-- x op= e -/
def IpD (G : Gx) (r : TIp) (f : D → D → Sto → Option (D × Sto)) : Prop := OpD G r f
def augS (i : Nat) (f : D → D → Sto → Option (D × Sto)) (a : ME) : MS := fun ρ S => match ρ[i]? with
  | some (some x) => withE a (fun y ρ S1 => match f x y S1 with
    | some (d, S2) => some (.nx, ρ.set i (some d), S2)
    | none => none) ρ S
  | _ => none
theorem rs_aug (i : Nat) {x : Str} {e : Expr} {m : ME} {op : Operator} {r : TIp} {f : D → D → Sto → Option (D × Sto)} {pos pos' : Pos} (hN : X.N.Nodup) (ho : PIp X op r) (hd : OpD G r f) (he : RE G X W e m) (hi : X.N[i]? = some x := by rfl) (hx : Loc X.env.scope x := by first | exact Or.inl rfl | exact Or.inr rfl) (hf : X.fn x = true ∨ X.env.scope.names.lookup x = some .local := by first | exact .inl rfl | exact .inr rfl) :
    RS G X W (.AugAssign (.Name x pos') op e pos) (augS i f m) := by
  obtain ⟨t, a1, a2⟩ := he
  refine ⟨_, ps_aug hN hi hx a1 ho hf, fun σ H L ρ S fl ρ' S' Ds s e hm k => ?_⟩
  unfold augS at hm
  split at hm
  · rename_i d0 hd0
    obtain ⟨v0, h0, r0⟩ := e.get hd0
    refine ⟨v0, h0, ?_⟩
    rcases withE_some hm with ⟨d, S1, h1, h2⟩ | ⟨x, S1, h1, h2⟩
    · refine a2 σ H L ρ S _ S1 _ s e h1 fun v H1 La rv s1 e1 => ?_
      cases q : f d0 d S1 with
      | none => rw [q] at h2; cases h2
      | some p =>
        obtain ⟨d2, S2⟩ := p
        rw [q] at h2
        cases h2
        exact hd H1 La S1 d0 d v0 v d2 _ _ s1 (r0.ext e1 s.noTup) rv q fun w H' L' rw' p2 p3 => k _ H' L' (((e.ext e1 s.noTup).ext p3 s1.noTup).set rw' i) p2 (e1.trans p3)
    · cases h2
      exact a2 σ H L ρ S _ _ (fun y H1 => r v0 y H1 fun z H2 => Ds.nx (σ.set i (some z)) H2) s e h1 fun cls dx H' L' xr sx ex => k cls dx σ H' L' xr (e.ext ex s.noTup) sx ex
  · cases hm
end
end Td

set_option Elab.async false
set_option linter.all false
set_option maxRecDepth 100000
set_option maxHeartbeats 1000000
namespace Td
open PySem PySem.Spec PyProof.Rows L2 RZ

/-! ### readings by the plain function itself -/
section
variable (G : Gx) (W : WX)
def canE (m : ME) : TE := fun σ H Q => ∃ L ρ S r S', Sok G H L S ∧ Eok G H L ρ σ ∧ m ρ S = some (r, S') ∧ Ke G W H L σ Q S' r
def canT (m : MT) : TT := fun σ H Q => ∃ L ρ S r S', Sok G H L S ∧ Eok G H L ρ σ ∧ m ρ S = some (r, S') ∧ Kt G W H L σ Q S' r
end
section
variable {G : Gx} {X : Cx} {W : WX}
theorem RE.can {e : Expr} {m : ME} (h : RE G X W e m) : PE X e (canE G W m) := by
  obtain ⟨t, a, b⟩ := h
  exact ⟨fun pins s σ H Q I ⟨L, ρ, S, r, S', h1, h2, h3, h4⟩ => a.run pins s σ H Q I (b σ H L ρ S r S' Q h1 h2 h3 h4)⟩
theorem RT.can {e : Expr} {m : MT} (h : RT G X W e m) : PT X e (canT G W m) := by
  obtain ⟨t, a, b⟩ := h
  exact ⟨fun pins s σ H Q I ⟨L, ρ, S, r, S', h1, h2, h3, h4⟩ => a.run pins s σ H Q I (b σ H L ρ S r S' Q h1 h2 h3 h4)⟩
theorem rdCanE {m : ME} : RdE G W (canE G W m) m := fun σ H L ρ S r S' Q a b c d => ⟨L, ρ, S, r, S', a, b, c, d⟩
theorem rdCanT {m : MT} : RdT G W (canT G W m) m := fun σ H L ρ S r S' Q a b c d => ⟨L, ρ, S, r, S', a, b, c, d⟩
end

/-! ### while -/
def whileS (c : MT) (b : MS) : Nat → MS
  | 0 => fun _ _ => none
  | n + 1 => fun ρ S => match c ρ S with
    | some (.ok true, S1) => (match b ρ S1 with
      | some (.nx, ρ2, S2) => whileS c b n ρ2 S2
      | some (.ct, ρ2, S2) => whileS c b n ρ2 S2
      | some (.bk, ρ2, S2) => some (.nx, ρ2, S2)
      | r => r)
    | some (.ok false, S1) => some (.nx, ρ, S1)
    | some (.exn x, S1) => some (.exn x, ρ, S1)
    | none => none
section
variable {G : Gx} {X : Cx} {W : WX}
theorem rdWhile {tc : TT} {tb : TS} {c : MT} {b : MS} (hc : RdT G W tc c) (hb : RdS G W tb b) (n : Nat) : RdS G W (tWhile tc tb) (whileS c b n) := by
  intro σ H L ρ S f ρ' S' Ds s e hm k
  refine ⟨fun m σ1 H1 => ∃ L1 ρ1 S1, Sok G H1 L1 S1 ∧ Eok G H1 L1 ρ1 σ1 ∧ whileS c b m ρ1 S1 = some (f, ρ', S') ∧ Ext H L H1 L1, ⟨n, L, ρ, S, s, e, hm, Ext.refl H L⟩, ?_⟩
  rintro m σ1 H1 ⟨L1, ρ1, S1, s1, e1, hm1, x1⟩
  cases m with
  | zero => cases hm1
  | succ m =>
    unfold whileS at hm1
    split at hm1
    · rename_i S2 q
      refine hc σ1 H1 L1 ρ1 S1 _ S2 _ s1 e1 q fun H2 La s2 x2 => ?_
      rw [if_pos rfl]
      refine ⟨fun σ3 H3 => ∃ L3 ρ3 S3, Sok G H3 L3 S3 ∧ Eok G H3 L3 ρ3 σ3 ∧ whileS c b m ρ3 S3 = some (f, ρ', S') ∧ Ext H L H3 L3, fun σ3 H3 h3 => ⟨m, Nat.lt_succ_self m, h3⟩, ?_⟩
      have e2 := e1.ext x2 s1.noTup
      have k2 := k.ext (x1.trans x2)
      split at hm1
      · rename_i ρ3 S3 q3
        exact hb σ1 H2 La ρ1 S2 _ _ _ _ s2 e2 q3 fun σ3 H3 Lb e3 s3 x3 => ⟨Lb, ρ3, S3, s3, e3, hm1, (x1.trans x2).trans x3⟩
      · rename_i ρ3 S3 q3
        exact hb σ1 H2 La ρ1 S2 _ _ _ _ s2 e2 q3 fun σ3 H3 Lb e3 s3 x3 => ⟨Lb, ρ3, S3, s3, e3, hm1, (x1.trans x2).trans x3⟩
      · rename_i ρ3 S3 q3
        cases hm1
        exact hb σ1 H2 La ρ1 S2 _ _ _ _ s2 e2 q3 fun σ3 H3 Lb e3 s3 x3 => k2 σ3 H3 Lb e3 s3 x3
      · rename_i n1 n2 n3
        cases f with
        | nx => exact absurd hm1 (n1 _ _)
        | ct => exact absurd hm1 (n2 _ _)
        | bk => exact absurd hm1 (n3 _ _)
        | rt d => exact hb σ1 H2 La ρ1 S2 _ _ _ _ s2 e2 hm1 k2
        | exn x => exact hb σ1 H2 La ρ1 S2 _ _ _ _ s2 e2 hm1 k2
    · rename_i S2 q
      cases hm1
      refine hc σ1 H1 L1 _ S1 _ _ _ s1 e1 q fun H2 La s2 x2 => ?_
      rw [if_neg Bool.false_ne_true]
      exact k σ1 H2 La (e1.ext x2 s1.noTup) s2 (x1.trans x2)
    · rename_i x S2 q
      cases hm1
      exact hc σ1 H1 L1 _ S1 _ _ _ s1 e1 q fun cls dx H' L' xr sx ex => k cls dx σ1 H' L' xr (e1.ext ex s1.noTup) sx (x1.trans ex)
    · cases hm1
theorem rs_while {c : Expr} {b : List Stmt} {mc : MT} {mb : MS} {pos : Pos} (n : Nat) (hp : PassesOwn (model X.prog X.w) X.A X.env X.xe) (hc : RT G X W c mc) (hb : RSs G X W b mb) : RS G X W (.While c b [] pos) (whileS mc mb n) := by
  obtain ⟨_, a1, a2⟩ := hc
  obtain ⟨_, b1, b2⟩ := hb
  exact ⟨_, ps_while hp a1 b1, rdWhile a2 b2 n⟩
end

/-! ### what is walked -/
inductive Src where
  | its (ds : List D) | cell (l : Nat) | rng (lo : Int) (n : Nat) | enu (l : Nat) | zipc (l m : Nat) | zipt (xs ys : List D) | sgn (x : Str)
def pair? : Option D → Option D → Option D
  | some x, some y => some (.tup [x, y])
  | _, _ => none
/-- the thing at a turn; none within: it stops -/
def Src.get (S : Sto) (i : Nat) : Src → Option (Option D)
  | .its ds => some ds[i]?
  | .cell l => (match S[l]? with
    | some (.lst xs) => some xs[i]?
    | _ => none)
  | .rng lo n => some (if i < n then some (.int (lo + i)) else none)
  | .enu l => (match S[l]? with
    | some (.lst xs) => some (pair? (some (.int (i : Nat))) xs[i]?)
    | _ => none)
  | .zipc l m => (match S[l]?, S[m]? with
    | some (.lst xs), some (.lst ys) => some (pair? xs[i]? ys[i]?)
    | _, _ => none)
  | .zipt xs ys => some (pair? xs[i]? ys[i]?)
  | .sgn x => some (x.cps[i]?.map fun c => .str ⟨#[c]⟩)
def Src.len (S : Sto) : Src → Nat
  | .its ds => ds.length
  | .cell l => (match S[l]? with
    | some (.lst xs) => xs.length
    | _ => 0)
  | .rng _ n => n
  | .enu l => (match S[l]? with
    | some (.lst xs) => xs.length
    | _ => 0)
  | .zipc l _ => (match S[l]? with
    | some (.lst xs) => xs.length
    | _ => 0)
  | .zipt xs _ => xs.length
  | .sgn x => x.cps.size
section
variable {G : Gx} {X : Cx} {W : WX}
/-- the iterator does as the source tells -/
def ItOk (G : Gx) (J : It) (src : Src) (H1 : Hp) (L1 : List Addr) : Prop := ∀ (H : Hp) (L : List Addr) (S : Sto) (i : Nat) (r : Option D), Sok G H L S → Ext H1 L1 H L → src.get S i = some r →
  match r with
  | none => J.stop i H
  | some d => J.go i H ∧ ∀ x H', J.yld i H x H' → Rep G H' L d x ∧ Sok G H' L S ∧ Ext H L H' L
abbrev MI := En → Sto → Out Src
def Ki (G : Gx) (W : WX) (H : Hp) (L : List Addr) (σ : Sl) (R : It → Hp → Prop) (S' : Sto) : Res Src → Prop
  | .ok src => ∀ J H' L', ItOk G J src H' L' → Sok G H' L' S' → Ext H L H' L' → R J H'
  | .exn x => ∀ cls dx H' L', XRep G H' L' x cls dx → Sok G H' L' S' → Ext H L H' L' → W cls dx σ H'
def RdI (G : Gx) (W : WX) (t : TI) (m : MI) : Prop := ∀ (σ : Sl) (H : Hp) (L : List Addr) (ρ : En) (S : Sto) (r : Res Src) (S' : Sto) (R : It → Hp → Prop), Sok G H L S → Eok G H L ρ σ → m ρ S = some (r, S') → Ki G W H L σ R S' r → t σ H R
structure RI (G : Gx) (X : Cx) (W : WX) (tg iter : Expr) (m : MI) : Prop where
  ex : ∃ t, PI X tg iter t ∧ RdI G W t m
theorem itTup {H : Hp} {L : List Addr} {S : Sto} {a : Addr} {vs : List V} {ds : List D} (s : Sok G H L S) (h : SqT G.K H a vs) (r : Reps G H L ds vs) : ItOk G (Itt G.K a) (.its ds) H L := by
  intro H1 L1 S1 i q s1 e hq
  have h1 := e.sqT s.noTup h
  have r1 := r.ext e s.noTup
  simp only [Src.get, Option.some.injEq] at hq
  subst hq
  cases hd : ds[i]? with
  | none => exact ⟨vs, h1, by rw [← r1.length]; exact List.getElem?_eq_none_iff.mp hd⟩
  | some d =>
    obtain ⟨v, hv, rv⟩ := r1.get hd
    exact ⟨⟨vs, v, h1, hv⟩, fun x H' y => by
      obtain ⟨rfl, y⟩ := y
      have : vs[i]? = some x := y vs h1
      rw [hv] at this
      cases this
      exact ⟨rv, s1, Ext.refl _ _⟩⟩
theorem itRol {H : Hp} {L : List Addr} {S : Sto} {a : Addr} {vs : List V} {ds : List D} (s : Sok G H L S) (h : RoL G.K H a vs) (r : Reps G H L ds vs) : ItOk G (Itl G.K a) (.its ds) H L := by
  intro H1 L1 S1 i q s1 e hq
  have h1 := (e.roL s.noTup h).sqL
  have r1 := r.ext e s.noTup
  simp only [Src.get, Option.some.injEq] at hq
  subst hq
  cases hd : ds[i]? with
  | none => exact ⟨vs, h1, by rw [← r1.length]; exact List.getElem?_eq_none_iff.mp hd⟩
  | some d =>
    obtain ⟨v, hv, rv⟩ := r1.get hd
    exact ⟨⟨vs, v, h1, hv⟩, fun x H' y => by
      obtain ⟨rfl, y⟩ := y
      have : vs[i]? = some x := y vs h1
      rw [hv] at this
      cases this
      exact ⟨rv, s1, Ext.refl _ _⟩⟩
theorem Sok.lstAt {H : Hp} {L : List Addr} {S : Sto} {l : Nat} {a : Addr} {xs : List D} (s : Sok G H L S) (ha : L[l]? = some a) (h : S[l]? = some (.lst xs)) : ∃ vs, H a = some (.lst vs) ∧ Reps G H L xs vs := s.ok l _ a h ha
theorem itCell {H : Hp} {L : List Addr} {a : Addr} {l : Nat} (ha : L[l]? = some a) : ItOk G (Itl G.K a) (.cell l) H L := by
  intro H1 L1 S1 i q s1 e hq
  unfold Src.get at hq
  dsimp only at hq
  split at hq
  · rename_i xs hx
    cases hq
    obtain ⟨vs, h1, r1⟩ := s1.lstAt (e.get ha) hx
    cases hd : xs[i]? with
    | none => exact ⟨vs, SqL.of h1, by rw [← r1.length]; exact List.getElem?_eq_none_iff.mp hd⟩
    | some d =>
      obtain ⟨v, hv, rv⟩ := r1.get hd
      exact ⟨⟨vs, v, SqL.of h1, hv⟩, fun x H' y => by
        obtain ⟨rfl, y⟩ := y
        have : vs[i]? = some x := y vs (SqL.of h1)
        rw [hv] at this
        cases this
        exact ⟨rv, s1, Ext.refl _ _⟩⟩
  · cases hq
theorem itRng {H : Hp} {L : List Addr} {lo : Int} {n : Nat} : ItOk G (Itr lo n) (.rng lo n) H L := by
  intro H1 L1 S1 i q s1 e hq
  simp only [Src.get, Option.some.injEq] at hq
  subst hq
  split
  · rename_i h
    split at h
    · cases h
    · rename_i hn
      exact Nat.le_of_not_lt hn
  · rename_i d h
    split at h
    · rename_i hn
      cases h
      exact ⟨hn, fun x H' y => by
        obtain ⟨rfl, rfl⟩ := y
        exact ⟨rfl, s1, Ext.refl _ _⟩⟩
    · cases h
theorem itStr {H : Hp} {L : List Addr} {z : Str} : ItOk G (Its z) (.sgn z) H L := by
  intro H1 L1 S1 i q s1 e hq
  simp only [Src.get, Option.some.injEq] at hq
  subst hq
  cases hd : z.cps[i]? with
  | none => exact Array.getElem?_eq_none_iff.mp hd
  | some c =>
    exact ⟨(Array.getElem?_eq_some_iff.mp hd).1, fun x H' y => by
      obtain ⟨rfl, c', h1, rfl⟩ := y
      rw [hd] at h1
      cases h1
      exact ⟨rfl, s1, Ext.refl _ _⟩⟩
/-- a new pair at a turn -/
theorem pairYld {H : Hp} {L : List Addr} {S : Sto} {T : Addr} {d e : D} {x y : V} (s : Sok G H L S) (hT : H T = none) (r1 : Rep G H L d x) (r2 : Rep G H L e y) :
    Rep G (upd H T (.tup [x, y])) L (.tup [d, e]) (.ref T) ∧ Sok G (upd H T (.tup [x, y])) L S ∧ Ext H L (upd H T (.tup [x, y])) L :=
  ⟨⟨T, [x, y], rfl, SqT.of upd_same, x, [y], rfl, r1.ext (Ext.upd_new hT) s.noTup, y, [], rfl, r2.ext (Ext.upd_new hT) s.noTup, rfl⟩, s.new hT, Ext.upd_new hT⟩
theorem itEnu {H : Hp} {L : List Addr} {a : Addr} {l : Nat} (ha : L[l]? = some a) : ItOk G (Ite G.K a) (.enu l) H L := by
  intro H1 L1 S1 i q s1 e hq
  unfold Src.get at hq
  dsimp only at hq
  split at hq
  · rename_i xs hx
    cases hq
    obtain ⟨vs, h1, r1⟩ := s1.lstAt (e.get ha) hx
    cases hd : xs[i]? with
    | none => exact ⟨vs, SqL.of h1, by rw [← r1.length]; exact List.getElem?_eq_none_iff.mp hd⟩
    | some d =>
      obtain ⟨v, hv, rv⟩ := r1.get hd
      exact ⟨⟨vs, v, SqL.of h1, hv⟩, fun x H' y => by
        obtain ⟨T, w, rfl, hT, rfl, y⟩ := y
        have : vs[i]? = some w := y vs (SqL.of h1)
        rw [hv] at this
        cases this
        exact pairYld s1 hT (show Rep G H1 L1 (.int (i : Nat)) _ from rfl) rv⟩
  · cases hq
theorem itZipc {H : Hp} {L : List Addr} {a b : Addr} {l m : Nat} (ha : L[l]? = some a) (hb : L[m]? = some b) : ItOk G (Itz G.K a b) (.zipc l m) H L := by
  intro H1 L1 S1 i q s1 e hq
  unfold Src.get at hq
  dsimp only at hq
  split at hq
  · rename_i xs ys hx hy
    cases hq
    obtain ⟨vs, h1, r1⟩ := s1.lstAt (e.get ha) hx
    obtain ⟨us, h2, r2⟩ := s1.lstAt (e.get hb) hy
    cases hd : xs[i]? with
    | none => exact ⟨vs, us, SqL.of h1, SqL.of h2, .inl (by rw [← r1.length]; exact List.getElem?_eq_none_iff.mp hd)⟩
    | some d =>
      obtain ⟨v, hv, rv⟩ := r1.get hd
      cases hd2 : ys[i]? with
      | none => exact ⟨vs, us, SqL.of h1, SqL.of h2, .inr (by rw [← r2.length]; exact List.getElem?_eq_none_iff.mp hd2)⟩
      | some d2 =>
        obtain ⟨v2, hv2, rv2⟩ := r2.get hd2
        exact ⟨⟨vs, us, v, v2, SqL.of h1, SqL.of h2, hv, hv2⟩, fun x H' y => by
          obtain ⟨T, w, w2, rfl, hT, rfl, y, y2⟩ := y
          have z1 : vs[i]? = some w := y vs (SqL.of h1)
          have z2 : us[i]? = some w2 := y2 us (SqL.of h2)
          rw [hv] at z1
          rw [hv2] at z2
          cases z1
          cases z2
          exact pairYld s1 hT rv rv2⟩
  · cases hq
theorem itZipt {H : Hp} {L : List Addr} {S : Sto} {a b : Addr} {vs us : List V} {xs ys : List D} (s : Sok G H L S) (ha : SqT G.K H a vs) (hb : SqT G.K H b us) (ra : Reps G H L xs vs) (rb : Reps G H L ys us) : ItOk G (ItzT G.K a b) (.zipt xs ys) H L := by
  intro H1 L1 S1 i q s1 e hq
  simp only [Src.get, Option.some.injEq] at hq
  subst hq
  have h1 := e.sqT s.noTup ha
  have h2 := e.sqT s.noTup hb
  have r1 := ra.ext e s.noTup
  have r2 := rb.ext e s.noTup
  cases hd : xs[i]? with
  | none => exact ⟨vs, us, h1, h2, .inl (by rw [← r1.length]; exact List.getElem?_eq_none_iff.mp hd)⟩
  | some d =>
    obtain ⟨v, hv, rv⟩ := r1.get hd
    cases hd2 : ys[i]? with
    | none => exact ⟨vs, us, h1, h2, .inr (by rw [← r2.length]; exact List.getElem?_eq_none_iff.mp hd2)⟩
    | some d2 =>
      obtain ⟨v2, hv2, rv2⟩ := r2.get hd2
      exact ⟨⟨vs, us, v, v2, h1, h2, hv, hv2⟩, fun x H' y => by
        obtain ⟨T, w, w2, rfl, hT, rfl, y, y2⟩ := y
        have z1 : vs[i]? = some w := y vs h1
        have z2 : us[i]? = some w2 := y2 us h2
        rw [hv] at z1
        rw [hv2] at z2
        cases z1
        cases z2
        exact pairYld s1 hT rv rv2⟩

/-! ### for x in e -/
def iAny (K : PySem.W.Frag) (te : TE) : TI := fun σ H R => te σ H fun x H1 =>
  (∃ a, x = .ref a ∧ (∃ xs, SqL K H1 a xs) ∧ R (Itl K a) H1) ∨ (∃ a, x = .ref a ∧ (∃ xs, SqT K H1 a xs) ∧ R (Itt K a) H1) ∨ ∃ z, x = .str z ∧ R (Its z) H1
theorem pi_any {tg e : Expr} {te : TE} (he : PE X e te) : PI X tg e (iAny X.K te) := by
  refine ⟨fun pins s σ H R I h => ?_⟩
  refine thn (he.run pins s σ H _ I h) fun v s1 ⟨x, H1, I1, r1, q1⟩ => ?_
  rcases q1 with ⟨a, rfl, ⟨xs, hq⟩, q⟩ | ⟨a, rfl, ⟨xs, hq⟩, q⟩ | ⟨z, rfl, q⟩
  · cases r1
    obtain ⟨its, rv, pl, _⟩ := I1.list hq
    refine wpAny_pyIter_list pl.isList ⟨s1.heap.objs.size, [s1.heap.objs.size], _, _, H1, rfl, I1.kept (t' := s1.toks) fun b o z => Heap.get?_push_of_some _ z, turn_list a _, ⟨_, Heap.get?_push_size _ rfl, rfl, rfl⟩, fun b hb => ?_, q⟩
    rw [List.mem_singleton.mp hb]
    exact I1.fpOk (Nat.le_refl _) (I1.hok.fresh (Nat.le_refl _))
  · cases r1
    obtain ⟨its, rv, pt, _⟩ := I1.tuple hq
    refine wpAny_pyIter_tuple (show s1.heap.IsTuple a its.toArray from pt) ⟨s1.heap.objs.size, [s1.heap.objs.size], _, _, H1, rfl, I1.kept (t' := s1.toks) fun b o z => Heap.get?_push_of_some _ z, turn_tuple a _, ⟨_, Heap.get?_push_size _ rfl, rfl, rfl⟩, fun b hb => ?_, q⟩
    rw [List.mem_singleton.mp hb]
    exact I1.fpOk (Nat.le_refl _) (I1.hok.fresh (Nat.le_refl _))
  · obtain ⟨t, rfl⟩ := r1
    cases ha : z.cps.all (· < 128)
    · exact wpAny_pyIter_wide ha (pi_one (tk := s1.toks) I1 _ (turn_str _ z t _ (.inr rfl)) ⟨_, Heap.get?_push_size _ rfl, rfl, rfl⟩ q)
    · exact wpAny_pyIter_ascii ha (pi_one (tk := s1.toks) I1 _ (turn_str _ z t _ (.inl rfl)) ⟨_, Heap.get?_push_size _ rfl, rfl, rfl⟩ q)
def anyI (a : ME) : MI := fun ρ S => bnd (a ρ S) fun x S1 => match x with
  | .tup ds => some (.ok (.its ds), S1)
  | .rol ds => some (.ok (.its ds), S1)
  | .str z => some (.ok (.sgn z), S1)
  | .ref l => (match S1[l]? with
    | some (.lst _) => some (.ok (.cell l), S1)
    | _ => none)
  | _ => none
theorem ri_any {tg e : Expr} {m : ME} (c : Cc G X W) (he : RE G X W e m) : RI G X W tg e (anyI m) := by
  obtain ⟨t, a1, a2⟩ := he
  refine ⟨_, pi_any a1, ?_⟩
  rw [c.K]
  intro σ H L ρ S z S' R s e hm k
  rcases bnd_some hm with ⟨x, S1, h1, h2⟩ | ⟨x, h1, rfl⟩
  · refine a2 σ H L ρ S _ S1 _ s e h1 fun v H1 La rv s1 e1 => ?_
    cases x with
    | tup ds =>
      cases h2
      obtain ⟨a, vs, rfl, hq, r⟩ := rv
      exact .inr (.inl ⟨a, rfl, ⟨vs, hq⟩, k _ H1 La (itTup s1 hq r) s1 e1⟩)
    | rol ds =>
      cases h2
      obtain ⟨a, vs, rfl, hq, r⟩ := rv
      exact .inl ⟨a, rfl, ⟨vs, hq.sqL⟩, k _ H1 La (itRol s1 hq r) s1 e1⟩
    | str z =>
      cases h2
      exact .inr (.inr ⟨z, rv, k _ H1 La itStr s1 e1⟩)
    | ref l =>
      obtain ⟨a, rfl, ha⟩ := rv
      dsimp only at h2
      split at h2
      · rename_i xs hx
        cases h2
        obtain ⟨vs, h3, _⟩ := s1.lstAt ha hx
        exact .inl ⟨a, rfl, ⟨vs, SqL.of h3⟩, k _ H1 La (itCell ha) s1 e1⟩
      · cases h2
    | _ => cases h2
  · exact a2 σ H L ρ S _ S' (fun x H1 => (∃ a, x = .ref a ∧ (∃ xs, SqL G.K H1 a xs) ∧ R (Itl G.K a) H1) ∨ (∃ a, x = .ref a ∧ (∃ xs, SqT G.K H1 a xs) ∧ R (Itt G.K a) H1) ∨ ∃ z, x = .str z ∧ R (Its z) H1) s e h1 k
/-- range(n), range(a, b) -/
def rng1I (t : MA) : MI := fun ρ S => bnd (t ρ S) fun ds S1 => match ds with
  | [.int j] => if -(2 ^ 62) ≤ j ∧ j < 2 ^ 62 then some (.ok (.rng 0 j.toNat), S1) else none
  | _ => none
def rng2I (t : MA) : MI := fun ρ S => bnd (t ρ S) fun ds S1 => match ds with
  | [.int i, .int j] => if -(2 ^ 62) ≤ i ∧ i < 2 ^ 62 ∧ -(2 ^ 62) ≤ j ∧ j < 2 ^ 62 then some (.ok (.rng i (j - i).toNat), S1) else none
  | _ => none
theorem ri_range1 {tg a : Expr} {m : MA} {p pos : Pos} (hm : X.mg "range" = none) (ha : RA G X W [a] m) (hg : Gl X "range" := by rfl) (hs : starEach [a] X.env = [(false, eval a X.env)] := by rfl) : RI G X W tg (.Call (.Name "range" p) [a] [] pos) (rng1I m) := by
  obtain ⟨t, a1, a2⟩ := ha
  refine ⟨_, pi_range1 hg hm a1 hs, ?_⟩
  intro σ H L ρ S z S' R s e hm k
  rcases bnd_some hm with ⟨x, S1, h1, h2⟩ | ⟨x, h1, rfl⟩
  · refine a2 σ H L ρ S _ S1 _ s e h1 fun vs H1 La rv s1 e1 => ?_
    split at h2
    · rename_i j
      split at h2
      · rename_i hj
        cases h2
        obtain ⟨v, r, rfl, r1, r2⟩ := rv
        cases r1
        cases r2
        exact ⟨j, rfl, hj.1, hj.2, k _ H1 La itRng s1 e1⟩
      · cases h2
    · cases h2
  · exact a2 σ H L ρ S _ S' (fun vs H1 => ∃ j : Int, vs = [.int j] ∧ -(2 ^ 62) ≤ j ∧ j < 2 ^ 62 ∧ R (Itr 0 j.toNat) H1) s e h1 k
theorem ri_range2 {tg a b : Expr} {m : MA} {p pos : Pos} (hm : X.mg "range" = none) (ha : RA G X W [a, b] m) (hg : Gl X "range" := by rfl) (hs : starEach [a, b] X.env = [(false, eval a X.env), (false, eval b X.env)] := by rfl) (hs2 : starEach [b] X.env = [(false, eval b X.env)] := by rfl) : RI G X W tg (.Call (.Name "range" p) [a, b] [] pos) (rng2I m) := by
  obtain ⟨t, a1, a2⟩ := ha
  refine ⟨_, pi_range2 hg hm a1 hs hs2, ?_⟩
  intro σ H L ρ S z S' R s e hm k
  rcases bnd_some hm with ⟨x, S1, h1, h2⟩ | ⟨x, h1, rfl⟩
  · refine a2 σ H L ρ S _ S1 _ s e h1 fun vs H1 La rv s1 e1 => ?_
    split at h2
    · rename_i i j
      split at h2
      · rename_i hj
        cases h2
        obtain ⟨v, r, rfl, r1, v2, r3, rfl, r4, r2⟩ := rv
        cases r1
        cases r4
        cases r2
        exact ⟨i, j, rfl, hj, k _ H1 La itRng s1 e1⟩
      · cases h2
    · cases h2
  · exact a2 σ H L ρ S _ S' (fun vs H1 => ∃ i j : Int, vs = [.int i, .int j] ∧ (-(2 ^ 62) ≤ i ∧ i < 2 ^ 62 ∧ -(2 ^ 62) ≤ j ∧ j < 2 ^ 62) ∧ R (Itr i (j - i).toNat) H1) s e h1 k
/-- enumerate(list) -/
def enuI (t : MA) : MI := fun ρ S => bnd (t ρ S) fun ds S1 => match ds with
  | [.ref l] => (match S1[l]? with
    | some (.lst _) => some (.ok (.enu l), S1)
    | _ => none)
  | _ => none
theorem ri_enum {a : Expr} {m : MA} {p pos tpos : Pos} {elts : List Expr} {kk : Nat} (c : Cc G X W) (hm : X.mg "enumerate" = none) (ha : RA G X W [a] m) (hg : Gl X "enumerate" := by rfl) (hs : starEach [a] X.env = [(false, eval a X.env)] := by rfl) : RI G X W (.Tuple elts kk tpos) (.Call (.Name "enumerate" p) [a] [] pos) (enuI m) := by
  obtain ⟨t, a1, a2⟩ := ha
  refine ⟨_, pi_enum hg hm a1 hs, ?_⟩
  rw [c.K]
  intro σ H L ρ S z S' R s e hm k
  rcases bnd_some hm with ⟨x, S1, h1, h2⟩ | ⟨x, h1, rfl⟩
  · refine a2 σ H L ρ S _ S1 _ s e h1 fun vs H1 La rv s1 e1 => ?_
    split at h2
    · rename_i l
      split at h2
      · rename_i xs hx
        cases h2
        obtain ⟨v, r, rfl, ⟨b, rfl, hb⟩, r2⟩ := rv
        cases r2
        obtain ⟨vs, h3, _⟩ := s1.lstAt hb hx
        exact ⟨b, vs, rfl, SqL.of h3, k _ H1 La (itEnu hb) s1 e1⟩
      · cases h2
    · cases h2
  · exact a2 σ H L ρ S _ S' (fun vs H1 => ∃ a xs, vs = [.ref a] ∧ SqL G.K H1 a xs ∧ R (Ite G.K a) H1) s e h1 k
/-- zip of two lists, of two tuples -/
def zipI (t : MA) : MI := fun ρ S => bnd (t ρ S) fun ds S1 => match ds with
  | [.ref l, .ref m] => (match S1[l]?, S1[m]? with
    | some (.lst _), some (.lst _) => some (.ok (.zipc l m), S1)
    | _, _ => none)
  | [.tup xs, .tup ys] => some (.ok (.zipt xs ys), S1)
  | _ => none
theorem ri_zip {a b : Expr} {m : MA} {p pos tpos : Pos} {elts : List Expr} {kk : Nat} (c : Cc G X W) (hm : X.mg "zip" = none) (ha : RA G X W [a, b] m) (hg : Gl X "zip" := by rfl) (hs : starEach [a, b] X.env = (false, eval a X.env) :: starEach [b] X.env := by rfl) (hpl : (backTo pos (starEach [b] X.env)).any (·.1) = false := by rfl) :
    RI G X W (.Tuple elts kk tpos) (.Call (.Name "zip" p) [a, b] [] pos) (zipI m) := by
  obtain ⟨t, a1, a2⟩ := ha
  refine ⟨_, pi_zipA hg hm a1 hs hpl, ?_⟩
  rw [c.K]
  intro σ H L ρ S z S' R s e hm k
  rcases bnd_some hm with ⟨x, S1, h1, h2⟩ | ⟨x, h1, rfl⟩
  · refine a2 σ H L ρ S _ S1 _ s e h1 fun vs H1 La rv s1 e1 => ?_
    split at h2
    · rename_i l n
      split at h2
      · rename_i xs ys hx hy
        cases h2
        obtain ⟨v, r, rfl, ⟨b, rfl, hb⟩, v2, r3, rfl, ⟨b2, rfl, hb2⟩, r2⟩ := rv
        cases r2
        obtain ⟨vs, h3, _⟩ := s1.lstAt hb hx
        obtain ⟨us, h4, _⟩ := s1.lstAt hb2 hy
        exact ⟨b, b2, vs, us, rfl, .inl ⟨SqL.of h3, SqL.of h4, k _ H1 La (itZipc hb hb2) s1 e1⟩⟩
      · cases h2
    · rename_i xs ys
      cases h2
      obtain ⟨v, r, rfl, ⟨b, vs, rfl, hb, q1⟩, v2, r3, rfl, ⟨b2, us, rfl, hb2, q2⟩, r2⟩ := rv
      cases r2
      exact ⟨b, b2, vs, us, rfl, .inr ⟨hb, hb2, k _ H1 La (itZipt s1 hb hb2 q1 q2) s1 e1⟩⟩
    · cases h2
  · exact a2 σ H L ρ S _ S' (fun vs H1 => ∃ a b xs ys, vs = [.ref a, .ref b] ∧ ((SqL G.K H1 a xs ∧ SqL G.K H1 b ys ∧ R (Itz G.K a b) H1) ∨ (SqT G.K H1 a xs ∧ SqT G.K H1 b ys ∧ R (ItzT G.K a b) H1))) s e h1 k

/-! ### the for loop -/
def loopS (src : Src) (g : MG) (b : MS) : Nat → Nat → MS
  | 0, _ => fun _ _ => none
  | n + 1, i => fun ρ S => match src.get S i with
    | some none => some (.nx, ρ, S)
    | some (some d) => (match g d ρ S with
      | some (ρ1, S1) => (match b ρ1 S1 with
        | some (.nx, ρ2, S2) => loopS src g b n (i + 1) ρ2 S2
        | some (.ct, ρ2, S2) => loopS src g b n (i + 1) ρ2 S2
        | some (.bk, ρ2, S2) => some (.nx, ρ2, S2)
        | r => r)
      | none => none)
    | none => none
def forS (m : MI) (g : MG) (b : MS) : MS := fun ρ S => match m ρ S with
  | some (.ok src, S1) => loopS src g b (src.len S1 + 1) 0 ρ S1
  | some (.exn x, S1) => some (.exn x, ρ, S1)
  | none => none
theorem rdFor {wi : TI} {m : MI} {tg : TG} {g : MG} {tb : TS} {b : MS} (hi : RdI G W wi m) (hg : RdG G tg g) (hb : RdS G W tb b) : RdS G W (tFor wi tg tb) (forS m g b) := by
  intro σ H L ρ S f ρ' S' Ds s e hm k
  unfold forS at hm
  split at hm
  · rename_i src S1 q
    refine hi σ H L ρ S _ S1 _ s e q fun J H1 La J1 s1 x1 => ?_
    refine ⟨fun i n σ1 H2 => ∃ L2 ρ2 S2, Sok G H2 L2 S2 ∧ Eok G H2 L2 ρ2 σ1 ∧ loopS src g b n i ρ2 S2 = some (f, ρ', S') ∧ Ext H1 La H2 L2, ⟨_, La, ρ, S1, s1, e.ext x1 s.noTup, hm, Ext.refl _ _⟩, ?_⟩
    rintro i n σ2 H2 ⟨L2, ρ2, S2, s2, e2, hl, x2⟩
    have k2 := k.ext (x1.trans x2)
    cases n with
    | zero => cases hl
    | succ n =>
      unfold loopS at hl
      split at hl
      · rename_i q2
        cases hl
        exact .inl ⟨J1 H2 L2 _ i none s2 x2 q2, k2 σ2 H2 L2 e2 s2 (Ext.refl _ _)⟩
      · rename_i d q2
        obtain ⟨hgo, hy⟩ := J1 H2 L2 S2 i (some d) s2 x2 q2
        refine .inr ⟨hgo, fun σ3 H3 => ∃ L3 ρ3 S3, Sok G H3 L3 S3 ∧ Eok G H3 L3 ρ3 σ3 ∧ loopS src g b n (i + 1) ρ3 S3 = some (f, ρ', S') ∧ Ext H1 La H3 L3, fun σ3 H3 h3 => ⟨n, Nat.lt_succ_self n, h3⟩, fun x H' y => ?_⟩
        obtain ⟨rx, s3, x3⟩ := hy x H' y
        split at hl
        · rename_i ρ4 S4 q4
          refine hg σ2 H' L2 ρ2 S2 d x ρ4 S4 _ s3 (e2.ext x3 s2.noTup) rx q4 fun σ4 H4 L4 e4 s4 x4 => ?_
          have x34 := x3.trans x4
          have k4 := k2.ext x34
          split at hl
          · rename_i ρ5 S5 q5
            exact hb σ4 H4 L4 ρ4 S4 _ _ _ _ s4 e4 q5 fun σ5 H5 L5 e5 s5 x5 => ⟨L5, ρ5, S5, s5, e5, hl, (x2.trans x34).trans x5⟩
          · rename_i ρ5 S5 q5
            exact hb σ4 H4 L4 ρ4 S4 _ _ _ _ s4 e4 q5 fun σ5 H5 L5 e5 s5 x5 => ⟨L5, ρ5, S5, s5, e5, hl, (x2.trans x34).trans x5⟩
          · rename_i ρ5 S5 q5
            cases hl
            exact hb σ4 H4 L4 ρ4 S4 _ _ _ _ s4 e4 q5 fun σ5 H5 L5 e5 s5 x5 => k4 σ5 H5 L5 e5 s5 x5
          · rename_i n1 n2 n3
            cases f with
            | nx => exact absurd hl (n1 _ _)
            | ct => exact absurd hl (n2 _ _)
            | bk => exact absurd hl (n3 _ _)
            | rt d => exact hb σ4 H4 L4 ρ4 S4 _ _ _ _ s4 e4 hl k4
            | exn x => exact hb σ4 H4 L4 ρ4 S4 _ _ _ _ s4 e4 hl k4
        · cases hl
      · cases hl
  · rename_i x S1 q
    cases hm
    refine hi σ H L ρ S _ _ (fun J H1 => ∃ W : Nat → Nat → L2.St → Hp → Prop, (∃ m, W 0 m σ H1) ∧ ∀ i m σ H, W i m σ H →
      (J.stop i H ∧ Ds.nx σ H) ∨ (J.go i H ∧ ∃ N : L2.St → Hp → Prop, (∀ σ' H', N σ' H' → ∃ m', m' < m ∧ W (i + 1) m' σ' H') ∧ ∀ x H', J.yld i H x H' → tg x σ H' fun σ2 H2 => tb { Ds with nx := N, ct := N, bk := Ds.nx } σ2 H2)) s e q fun cls dx H' L' xr sx ex => k cls dx σ H' L' xr (e.ext ex s.noTup) sx ex
  · cases hm
theorem rs_for {tg iter : Expr} {body : List Stmt} {m : MI} {g : MG} {b : MS} {pos : Pos} (hp : PassesOwn (model X.prog X.w) X.A X.env X.xe) (hc : X.calm = true) (hi : RI G X W tg iter m) (hg : RG G X tg g) (hb : RSs G X W body b)
    (hs : ∀ x, foldedSetIterable iter X.env x = pure x := by intro _; rfl) : RS G X W (.For tg iter body [] pos) (forS m g b) := by
  obtain ⟨_, a1, a2⟩ := hi
  obtain ⟨_, g1, g2⟩ := hg
  obtain ⟨_, b1, b2⟩ := hb
  exact ⟨_, ps_for hp hc a1 g1 b1 hs, rdFor a2 g2 b2⟩

/-! ### comprehensions -/
abbrev W0 : WX := fun _ _ _ _ => False
/-- a target of a comprehension: its own slots alone -/
def canG (G : Gx) (m : MG) (vs : List Nat) : TG := fun v σ H Q => ∃ L ρ S d ρ' S', Sok G H L S ∧ Eok G H L ρ σ ∧ Rep G H L d v ∧ m d ρ S = some (ρ', S') ∧ ∀ σ' H' L', Eok G H' L' ρ' σ' → Sok G H' L' S' → Ext H L H' L' → wipe σ' vs = wipe σ vs → Q σ' H'
structure RGo (G : Gx) (X : Cx) (vs : List Nat) (e : Expr) (m : MG) : Prop where
  run : PG X e (canG G m vs)
theorem wipe_set (i : Nat) (o : Option V) : ∀ (vs : List Nat) (σ : Sl), i ∈ vs → wipe (σ.set i o) vs = wipe σ vs
  | [], _, h => by simp at h
  | v :: vs, σ, h => by
    unfold wipe
    by_cases e : i = v
    · subst e
      by_cases h2 : i ∈ vs
      · rw [wipe_set i o vs σ h2]
      · have : ∀ (vs : List Nat) (σ : Sl), i ∉ vs → wipe (σ.set i o) vs = (wipe σ vs).set i o := by
          intro vs
          induction vs with
          | nil => intro σ _; rfl
          | cons w ws ih =>
            intro σ hn
            unfold wipe
            rw [ih σ fun z => hn (List.mem_cons_of_mem _ z), List.set_comm _ _ (fun z => hn (by rw [z]; exact List.mem_cons_self))]
        rw [this vs σ h2, List.set_set]
    · rw [wipe_set i o vs σ (by rcases List.mem_cons.mp h with z | z; exact absurd z e; exact z)]
theorem wipe_wipe : ∀ (vs us : List Nat) (σ : Sl), (∀ v ∈ vs, v ∈ us) → wipe (wipe σ vs) us = wipe σ us
  | [], _, _, _ => rfl
  | v :: vs, us, σ, h => by
    show wipe ((wipe σ vs).set v none) us = wipe σ us
    rw [wipe_set v none us _ (h v List.mem_cons_self), wipe_wipe vs us σ fun w hw => h w (List.mem_cons_of_mem _ hw)]
theorem rgo_name {vs : List Nat} (i : Nat) {x : Str} {pos : Pos} (hN : X.N.Nodup) (hi : X.N[i]? = some x := by rfl) (hx : Loc X.env.scope x := by first | exact Or.inl rfl | exact Or.inr rfl) (hm : i ∈ vs := by decide) (hf : X.fn x = true ∨ X.env.scope.names.lookup x = some .local := by first | exact .inl rfl | exact .inr rfl) : RGo G X vs (.Name x pos) (nameG i) :=
  ⟨⟨fun pins s σ H v u Q I r h => by
    obtain ⟨L, ρ, S, d, ρ', S', s1, e1, r1, hm', k⟩ := h
    simp only [nameG, Option.some.injEq, Prod.mk.injEq] at hm'
    obtain ⟨rfl, rfl⟩ := hm'
    exact (pg_name hN hi hx hf).run pins s σ H v u Q I r (k _ H L (e1.set r1 i) s1 (Ext.refl _ _) (wipe_set i _ vs σ hm))⟩⟩
def canGs (G : Gx) (m : MGs) (vs : List Nat) : TGs := fun v σ H Q => ∃ L ρ S d ρ' S', Sok G H L S ∧ Eok G H L ρ σ ∧ Reps G H L d v ∧ m d ρ S = some (ρ', S') ∧ ∀ σ' H' L', Eok G H' L' ρ' σ' → Sok G H' L' S' → Ext H L H' L' → wipe σ' vs = wipe σ vs → Q σ' H'
structure RGos (G : Gx) (X : Cx) (vs : List Nat) (es : List Expr) (m : MGs) : Prop where
  run : PGs X es (canGs G m vs)
theorem rgos_nil {vs : List Nat} : RGos G X vs [] nilG := ⟨⟨fun pins s σ H v u Q I r h => by
  obtain ⟨L, ρ, S, d, ρ', S', s1, e1, r1, hm', k⟩ := h
  cases d with
  | nil =>
    simp only [nilG, Option.some.injEq, Prod.mk.injEq] at hm'
    obtain ⟨rfl, rfl⟩ := hm'
    exact pgs_nil.run pins s σ H v u Q I r ⟨r1, k σ H L e1 s1 (Ext.refl _ _) rfl⟩
  | cons _ _ => cases hm'⟩⟩
theorem rgos_cons {vs : List Nat} {e : Expr} {es : List Expr} {a : MG} {b : MGs} (h1 : RGo G X vs e a) (h2 : RGos G X vs es b) (hs : (assignEach (e :: es) X.env).map (·.2) = assign e X.env :: (assignEach es X.env).map (·.2) := by rfl) : RGos G X vs (e :: es) (consG a b) :=
  ⟨⟨fun pins s σ H v u Q I r h => by
    obtain ⟨L, ρ, S, d, ρ', S', s1, e1, r1, hm', k⟩ := h
    refine (pgs_cons h1.run h2.run hs).run pins s σ H v u Q I r ?_
    cases d with
    | nil => cases hm'
    | cons d0 r0 =>
      obtain ⟨v, vr, rfl, r1, r2⟩ := r1
      refine ⟨v, vr, rfl, ?_⟩
      unfold consG at hm'
      dsimp only at hm'
      cases q : a d0 ρ S with
      | none => rw [q] at hm'; cases hm'
      | some p =>
        obtain ⟨ρ1, S1⟩ := p
        rw [q] at hm'
        exact ⟨L, ρ, S, d0, ρ1, S1, s1, e1, r1, q, fun σ1 H1 La e2 s2 x2 w2 => ⟨La, ρ1, S1, r0, ρ', S', s2, e2, r2.ext x2 s1.noTup, hm', fun σ' H' L' p1 p2 p3 p4 => k σ' H' L' p1 p2 (x2.trans p3) (p4.trans w2)⟩⟩⟩⟩
theorem rgo_tup {vs : List Nat} {W : WX} {es : List Expr} {k : Nat} {g : MGs} {n : Nat} {pos : Pos} (hK : X.K = G.K) (hc : X.calm = true) (h : RGos G X vs es g) (hn : (assignEach es X.env).length = n := by rfl) (hst : (assignEach es X.env).findIdx? (·.1) = none := by rfl) : RGo G X vs (.Tuple es k pos) (tupG n g) :=
  ⟨⟨fun pins s σ H v u Q I r h' => by
    obtain ⟨L, ρ, S, d, ρ', S', s1, e1, r1, hm', kk⟩ := h'
    refine (pg_tup hc h.run hn hst).run pins s σ H v u Q I r ?_
    cases d with
    | tup ds =>
      obtain ⟨a, ws, rfl, hq, rws⟩ := r1
      unfold tupG at hm'
      dsimp only at hm'
      split at hm'
      · rename_i hl
        exact ⟨a, ws, rfl, by rw [hK]; exact hq, by rw [← rws.length]; exact hl, L, ρ, S, ds, ρ', S', s1, e1, rws, hm', kk⟩
      · cases hm'
    | _ => cases hm'⟩⟩
/-- the tests of a clause -/
structure RTs (G : Gx) (X : Cx) (ifs : List Expr) (m : MT) : Prop where
  run : PTs X ifs (canT G W0 m)
def yesT : MT := fun _ S => some (.ok true, S)
theorem rts_nil : RTs G X [] yesT := ⟨⟨fun pins s σ H Q I h => by
  obtain ⟨L, ρ, S, r, S', s1, e1, hm, k⟩ := h
  simp only [yesT, Option.some.injEq, Prod.mk.injEq] at hm
  obtain ⟨rfl, rfl⟩ := hm
  exact pts_nil.run pins s σ H Q I (k H L s1 (Ext.refl _ _))⟩⟩
theorem rts_one {c : Expr} {m : MT} (h : RT G X W0 c m) : RTs G X [c] m := ⟨pts_one h.can⟩
def wipeD (ρ : En) : List Nat → En
  | [] => ρ
  | v :: vs => (wipeD ρ vs).set v none
theorem Eok.wipe {H : Hp} {L : List Addr} {ρ : En} {σ : Sl} (e : Eok G H L ρ σ) : ∀ vs : List Nat, Eok G H L (wipeD ρ vs) (L2.wipe σ vs)
  | [] => e
  | v :: vs => (Eok.wipe e vs).off v
/-- what a comprehension makes, turn by turn -/
def compL (src : Src) (g : MG) (t : MT) (el : ME) (ρ : En) : Nat → Nat → Sto → List D → Option (List D × Sto)
  | 0, _, _, _ => none
  | n + 1, i, S, acc => match src.get S i with
    | some none => some (acc, S)
    | some (some d) => (match g d ρ S with
      | some (ρ1, S1) => (match t ρ1 S1 with
        | some (.ok true, S2) => (match el ρ1 S2 with
          | some (.ok y, S3) => if acc.length < sizeLine then compL src g t el ρ n (i + 1) S3 (acc ++ [y]) else none
          | _ => none)
        | some (.ok false, S2) => compL src g t el ρ n (i + 1) S2 acc
        | _ => none)
      | none => none)
    | none => none
def lcM (m : MI) (own : List Nat) (g : MG) (t : MT) (el : ME) : ME := fun ρ S => bnd (m ρ S) fun src S1 => match compL src g t el (wipeD ρ own) (src.len S1 + 1) 0 S1 [] with
  | some (ds, S2) => some (.ok (.ref S2.length), S2 ++ [.lst ds])
  | none => none
/-- a tracked list becomes a place -/
theorem Sok.adopt {H : Hp} {L : List Addr} {S : Sto} {a : Addr} {vs : List V} {ds : List D} (s : Sok G H L S) (h : H a = some (.lst vs)) (n : a ∉ L) (r : Reps G H L ds vs) : Sok G H (L ++ [a]) (S ++ [.lst ds]) := by
  have wk : Wk H L H (L ++ [a]) := ⟨⟨[a], rfl⟩, fun _ _ h _ => h⟩
  have cell : ∀ {c : Cell} {b : Addr}, CellOk G H L b c → CellOk G H (L ++ [a]) b c := fun {c b} h => by
    cases c with
    | lst ys => obtain ⟨vs, h, r⟩ := h; exact ⟨vs, h, r.wk wk s.noTup⟩
    | dct ys => obtain ⟨vs, h, r⟩ := h; exact ⟨vs, h, r.wk wk s.noTup⟩
    | ins C fs => obtain ⟨dx, vs, h, r⟩ := h; exact ⟨dx, vs, h, r.wk wk s.noTup⟩
  refine ⟨?_, by simp [s.len], fun l c' b h1 h2 => ?_⟩
  · refine List.nodup_append.mpr ⟨s.nd, List.nodup_cons.mpr ⟨by simp, List.nodup_nil⟩, fun x hx y hy => ?_⟩
    rw [List.mem_singleton.mp hy]
    exact fun z => n (z ▸ hx)
  · by_cases hl : l < S.length
    · rw [List.getElem?_append_left hl] at h1
      rw [List.getElem?_append_left (by rw [s.len]; exact hl)] at h2
      exact cell (s.ok l c' b h1 h2)
    · rw [List.getElem?_append_right (by omega)] at h1
      rw [List.getElem?_append_right (by rw [s.len]; omega)] at h2
      rw [s.len] at h2
      cases e : l - S.length with
      | zero =>
        rw [e] at h1 h2
        simp at h1 h2
        subst h1 h2
        exact ⟨vs, h, r.wk wk s.noTup⟩
      | succ n => rw [e] at h1; simp at h1
theorem Tk.lst {H : Hp} {L : List Addr} {a : Addr} {vs ys : List V} (h : H a = some (.lst vs)) : Tk H L (upd H a (.lst ys)) L := ⟨⟨[], by simp⟩, fun b xs e => by rw [upd_ne (fun z => by rw [z, h] at e; cases e)]; exact e, fun b o u e => by rw [upd_ne (fun z => by rw [z, h] at e; cases e)]; exact e⟩
theorem CellOk.tk {H H1 : Hp} {L La : List Addr} {a : Addr} {c : Cell} (e : Tk H L H1 La) (ha : ∀ o, H a = some o → H1 a = some o) (h : CellOk G H L a c) : CellOk G H1 La a c := by
  cases c with
  | lst ys => obtain ⟨vs, h, r⟩ := h; exact ⟨vs, ha _ h, r.tk e⟩
  | dct ys => obtain ⟨vs, h, r⟩ := h; exact ⟨vs, ha _ h, r.tk e⟩
  | ins C fs => obtain ⟨dx, vs, h, r⟩ := h; exact ⟨dx, vs, ha _ h, r.tk e⟩
/-- a list that is no place is changed -/
theorem Sok.off {H : Hp} {L : List Addr} {S : Sto} {a : Addr} {vs ys : List V} (s : Sok G H L S) (h : H a = some (.lst vs)) (n : a ∉ L) : Sok G (upd H a (.lst ys)) L S :=
  ⟨s.nd, s.len, fun l c b h1 h2 => (s.ok l c b h1 h2).tk (Tk.lst h) fun o e => by rw [upd_ne (fun z => n (by rw [← z]; exact List.mem_of_getElem? h2))]; exact e⟩
theorem Ext.mut {H H1 : Hp} {L La : List Addr} {a : Addr} {o : HO} (x : Ext H L H1 La) (h : H a = none) : Ext H L (upd H1 a o) La := ⟨x.pre, x.new, fun b u e n => by rw [upd_ne (ne_of_none e h)]; exact x.keep b u e n⟩
theorem rdLc {wi : TI} {m : MI} {own : List Nat} {g : MG} {t : MT} {el : ME} (hi : RdI G W wi m) : RdE G W (tLc wi (canG G g own) (canT G W0 t) (canE G W0 el) own) (lcM m own g t el) := by
  intro σ H L ρ S z S' Q s e hm k
  rcases bnd_some hm with ⟨src, S1, h1, h2⟩ | ⟨x, h1, rfl⟩
  · refine hi σ H L ρ S _ S1 _ s e h1 fun J H1 La J1 s1 x1 D hD => ?_
    cases q : compL src g t el (wipeD ρ own) (src.len S1 + 1) 0 S1 [] with
    | none => rw [q] at h2; cases h2
    | some p =>
      obtain ⟨ds, S2⟩ := p
      rw [q] at h2
      cases h2
      have xD : Ext H1 La (upd H1 D (.lst [])) La := Ext.upd_new hD
      have e1 := (e.ext x1 s.noTup).ext xD s1.noTup
      refine ⟨fun i n H2 => ∃ L2 S3 acc av, Sok G H2 L2 S3 ∧ D ∉ L2 ∧ H2 D = some (.lst av) ∧ Reps G H2 L2 acc av ∧ compL src g t el (wipeD ρ own) n i S3 acc = some (ds, S2) ∧ Ext H1 La H2 L2, ⟨_, La, S1, [], [], s1.new hD, s1.notin hD, upd_same, rfl, q, xD⟩, ?_⟩
      rintro i n H2 ⟨L2, S3, acc, av, s2, nD, aD, rD, hl, x2⟩
      cases n with
      | zero => cases hl
      | succ n =>
        unfold compL at hl
        split at hl
        · rename_i q2
          cases hl
          refine .inl ⟨J1 H2 L2 _ i none s2 x2 q2, k (.ref D) H2 (L2 ++ [D]) ⟨D, rfl, ?_⟩ (s2.adopt aD nD rD) ⟨?_, fun a ha na => ?_, (x1.trans x2).keep⟩⟩
          · rw [← s2.len, List.getElem?_append_right (Nat.le_refl _), Nat.sub_self]
            rfl
          · obtain ⟨M, hM⟩ := (x1.trans x2).pre
            exact ⟨M ++ [D], by rw [hM, List.append_assoc]⟩
          · rcases List.mem_append.mp ha with hz | hz
            · exact (x1.trans x2).new a hz na
            · rw [List.mem_singleton.mp hz]
              cases q3 : H D with
              | none => rfl
              | some o =>
                have := x1.keep D o q3 (by rw [← List.mem_singleton.mp hz]; exact na)
                rw [hD] at this
                cases this
        · rename_i d q2
          obtain ⟨hgo, hy⟩ := J1 H2 L2 S3 i (some d) s2 x2 q2
          refine .inr ⟨hgo, fun H3 => ∃ L3 S4 acc av, Sok G H3 L3 S4 ∧ D ∉ L3 ∧ H3 D = some (.lst av) ∧ Reps G H3 L3 acc av ∧ compL src g t el (wipeD ρ own) n (i + 1) S4 acc = some (ds, S2) ∧ Ext H1 La H3 L3, fun H3 h3 => ⟨n, Nat.lt_succ_self n, h3⟩, fun x H' y => ?_⟩
          obtain ⟨rx, s3, x3⟩ := hy x H' y
          split at hl
          · rename_i ρ4 S4 q4
            have e3 := ((e.ext x1 s.noTup).ext x2 s1.noTup).ext x3 s2.noTup
            refine ⟨L2, wipeD ρ own, S3, d, ρ4, S4, s3, e3.wipe own, rx, q4, fun σ4 H4 L4 e4 s4 x4 w4 => ⟨w4.trans (wipe_wipe own own σ fun _ h => h), ?_⟩⟩
            have x24 := (x2.trans x3).trans x4
            have D4 : D ∉ L4 := fun hz => by
              have a1 : H' D = some (.lst av) := x3.keep D _ aD nD
              have := x4.new D hz nD
              rw [a1] at this; cases this
            have aD4 : H4 D = some (.lst av) := x4.keep D _ (x3.keep D _ aD nD) nD
            have rD4 : Reps G H4 L4 acc av := (rD.ext x3 s2.noTup).ext x4 s3.noTup
            split at hl
            · rename_i S5 q5
              refine ⟨L4, ρ4, S4, _, S5, s4, e4, q5, fun H5 L5 s5 x5 => ?_⟩
              refine iteT ?_
              have D5 : D ∉ L5 := fun hz => by
                have := x5.new D hz D4
                rw [aD4] at this; cases this
              split at hl
              · rename_i y S6 q6
                refine ⟨L5, ρ4, S5, _, S6, s5, e4.ext x5 s4.noTup, q6, fun yv H6 L6 ry s6 x6 => ?_⟩
                split at hl
                · rename_i hsz
                  have aD5 := x5.keep D _ aD4 D4
                  have aD6 := x6.keep D _ aD5 D5
                  have D6 : D ∉ L6 := fun hz => by
                    have := x6.new D hz D5
                    rw [aD5] at this; cases this
                  have rD6 := (rD4.ext x5 s4.noTup).ext x6 s5.noTup
                  have tk := Tk.lst (L := L6) (ys := av ++ [yv]) aD6
                  exact ⟨av, aD6, by rw [← rD6.length]; exact hsz, L6, S6, acc ++ [y], av ++ [yv], s6.off aD6 D6, D6, upd_same, (rD6.append (Reps.one ry)).tk tk, hl, ((x24.trans x5).trans x6).mut hD⟩
                · cases hl
              · cases hl
            · rename_i S5 q5
              refine ⟨L4, ρ4, S4, _, S5, s4, e4, q5, fun H5 L5 s5 x5 => ?_⟩
              refine iteF ?_
              have D5 : D ∉ L5 := fun hz => by
                have := x5.new D hz D4
                rw [aD4] at this; cases this
              exact ⟨L5, S5, acc, av, s5, D5, x5.keep D _ aD4 D4, rD4.ext x5 s4.noTup, hl, x24.trans x5⟩
            · cases hl
          · cases hl
        · cases hl
  · exact hi σ H L ρ S _ S' (fun J H1 => ∀ D, H1 D = none → ∃ W : Nat → Nat → Hp → Prop, (∃ m, W 0 m (upd H1 D (.lst []))) ∧ ∀ i m H, W i m H →
      (J.stop i H ∧ Q (.ref D) H) ∨ (J.go i H ∧ ∃ Nx : Hp → Prop, (∀ H', Nx H' → ∃ m', m' < m ∧ W (i + 1) m' H') ∧ ∀ x H', J.yld i H x H' → canG G g own x (wipe σ own) H' fun σ2 H2 => wipe σ2 own = wipe σ own ∧ canT G W0 t σ2 H2 fun b H3 =>
        if b = true then canE G W0 el σ2 H3 fun y H4 => ∃ acc, H4 D = some (.lst acc) ∧ acc.length < sizeLine ∧ Nx (upd H4 D (.lst (acc ++ [y]))) else Nx H3)) s e h1 k
end
end Td

set_option Elab.async false
set_option linter.all false
set_option maxRecDepth 100000
set_option maxHeartbeats 1000000
namespace Td
open PySem PySem.Spec PyProof.Rows L2 RZ

/-! ### a def's promise: the plain function of its arguments -/
def Kf (G : Gx) (H : Hp) (L : List Addr) (Q : VK) (E : XK) (S' : Sto) : Res D → Prop
  | .ok d => ∀ v H' L', Rep G H' L' d v → Sok G H' L' S' → Ext H L H' L' → Q v H'
  | .exn x => ∀ cls dx H' L', XRep G H' L' x cls dx → Sok G H' L' S' → Ext H L H' L' → E cls dx H'
abbrev MF := List D → Sto → Out D
structure FnG (G : Gx) (P : Program) (w : World) (mg : Str → Option Value) (base : Heap) (k : Nat) (f : Addr) (fd : FuncData) (ps : List Str) (m : MF) : Prop where
  len : ∀ ds S r, m ds S = some r → ds.length = ps.length
  run : ∀ (A : Around) (outer : List Env) (s : Shared) (H : Hp) (args : Args) (us : List Value) (vs : List V) (ds : List D) (L : List Addr) (S : Sto) (r : Res D) (S' : Sto) (Q : VK) (E : XK), Room k A → A.guards = some [] → Env0 P w G.K mg base A outer s H →
    BindsTo s fd args (ps.zip us) → Vals vs us → Sok G H L S → Reps G H L ds vs → m ds S = some (r, S') → Kf G H L Q E S' r → codeAny (model P w) A (.call (.ref f) args) (CR (L2.CX P w) outer P w H s Q E) s
def endM : Option (Fl × En × Sto) → Out D
  | some (.nx, _, S) => some (.ok .non, S)
  | some (.rt d, _, S) => some (.ok d, S)
  | some (.exn x, _, S) => some (.exn x, S)
  | _ => none
def defM (np N : Nat) (b : MS) : MF := fun ds S => if ds.length = np then endM (b (ds.map some ++ List.replicate (N - np) none) S) else none
theorem Eok.start {G : Gx} {H : Hp} {L : List Addr} : ∀ {ds : List D} {vs : List V} (n : Nat), Reps G H L ds vs → Eok G H L (ds.map some ++ List.replicate n none) (vs.map some ++ List.replicate n none)
  | [], _, 0, h => by
    rw [show _ = ([] : List V) from h]
    exact rfl
  | [], _, n + 1, h => by
    rw [show _ = ([] : List V) from h]
    exact ⟨none, List.replicate n none, rfl, Eok.start (ds := []) (vs := []) n rfl⟩
  | d :: ds, _, n, ⟨v, r, h1, h2, h3⟩ => by
    subst h1
    exact ⟨v, _, rfl, h2, Eok.start n h3⟩
theorem guards_deeper (A : Around) (env : Env) : (A.deeper env).guards = A.guards := rfl
section
variable {G : Gx} {P : Program} {w : World} {mg : Str → Option Value} {base : Heap}
/-- a def keeps its promise by its body -/
theorem fnG_of {k : Nat} {f : Addr} {name qual : Str} {params : Arguments} {body : List Stmt} {scope : Scope} {dV kV doc pm cdv ct oc : Value} {an od : Option Addr} {osl : Array (Option Value)} {N ps : List Str} {b : MS}
    (lk : G.K.lookup f = some ⟨oc, od, .func (PySem.W.fnOf name qual params body scope dV kV doc pm an cdv ct), osl⟩) (hcd : PySem.W.codeIn G.K cdv qual = true) (Sc : FnScope N ps scope)
    (hb : ∀ (A : Around) (outer : List Env) (s : Shared) (H : Hp) (E : XK), Room k (A.deeper (envOfC qual scope s.heap.objs.size f cdv)) → Cc G (cxOf (L2.CX P w) P w G.K mg base N qual scope f cdv A outer s H E) (fun cls d _ H => E cls d H) →
      RSs G (cxOf (L2.CX P w) P w G.K mg base N qual scope f cdv A outer s H E) (fun cls d _ H => E cls d H) body b) :
    FnG G P w mg base (k + 1) f (PySem.W.fnOf name qual params body scope dV kV doc pm an cdv ct) ps (defM ps.length N.length b) := by
  refine ⟨fun ds S r h => ?_, fun A outer s H args us vs ds L S r S' Q E hr hg e0 hbd rv so rd hm kk => ?_⟩
  · unfold defM at h
    split at h
    · assumption
    · cases h
  · have hld : ds.length = ps.length := by
      unfold defM at hm
      split at hm
      · assumption
      · cases hm
    have hl : vs.length = ps.length := rd.length.symm.trans hld
    unfold defM at hm
    rw [if_pos hld] at hm
    have kin : G.K.In s.heap := e0.mod.kin.keeps fun b o e => (e0.bs b o e).1
    have nol : s.heap.NoLimit := e0.mod.nolimit.keeps fun b o e => (e0.bs b o e).1
    have kinds : ∀ y ∈ ps.zip us, scope.names.lookup y.1 = some .local ∨ (scope.names.lookup y.1 = some .cell ∧ ((cellsFrom (s.heap.objs.size + 1) scope.names []).lookup y.1).isSome = true) := fun y hy =>
      (Sc.par y.1 (List.of_mem_zip (show (y.1, y.2) ∈ ps.zip us from hy)).1).elim .inl fun q => .inr ⟨q, PySem.W.cellsFrom_some _ _ _ (.inl q)⟩
    refine codeAny_call_function hr.depth (kin _ _ lk) rfl Sc.co Sc.gen rfl (PySem.W.codeRec_of kin hcd) (hbd _ _ _ _ ?_)
    refine wpAny_newFunctionEnv_cells Sc.kind kinds fun env he s1 x => ?_
    subst he
    refine ⟨nol.keeps x.toInCall.keep, codeAny_func ?_⟩
    have hr' := hr.deeper (envOfC qual scope s.heap.objs.size f cdv)
    have J := inv_start (CX := L2.CX P w) (N := N) (E := E) Sc hr.hd e0 hl rv x
    have cc : Cc G (cxOf (L2.CX P w) P w G.K mg base N qual scope f cdv A outer s H E) (fun cls d _ H => E cls d H) :=
      ⟨rfl, takes_of rfl rfl rfl rfl, hg, by have := hr'.un; show (A.deeper _).units + 136 < cLine; omega⟩
    obtain ⟨t, ht, hq⟩ := hb A outer s H E hr' cc
    have e1 : Eok G H L (ds.map some ++ List.replicate (N.length - ps.length) none) (L2.start N vs) := by
      unfold L2.start
      rw [hl]
      exact Eok.start _ rd
    have fin : ∀ {σ' : L2.St} {H' : Hp} {v : V} {u : Value} {s' : Shared}, Inv (cxOf (L2.CX P w) P w G.K mg base N qual scope f cdv A outer s H E) [] σ' H' s' → RelV v u → Q v H' → CE outer P w H s Q u s' := fun {σ' H' v u s'} I rvu q => ⟨v, H', I.os, I.bare, I.base, I.hok, rvu, q⟩
    cases hbb : b (ds.map some ++ List.replicate (N.length - ps.length) none) S with
    | none => rw [hbb] at hm; cases hm
    | some p =>
      obtain ⟨fl, ρ', S2⟩ := p
      rw [hbb] at hm
      have go : t { nx := fun _ H' => Q .non H', rt := Q } (L2.start N vs) H := by
        refine hq _ H L _ S fl ρ' S2 _ so e1 hbb ?_
        cases fl with
        | nx =>
          cases hm
          exact fun σ' H' L' _ s2 x2 => kk .non H' L' rfl s2 x2
        | rt d =>
          cases hm
          exact kk
        | exn x =>
          cases hm
          exact fun cls dx σ' H' L' xr _ s2 x2 => kk cls dx H' L' xr s2 x2
        | bk => cases hm
        | ct => cases hm
      refine wpAny_mono (ht.run [] s1 (L2.start N vs) H _ J go) (fun fl2 s' hs => ?_) fun e s' hs => hs
      cases fl2 with
      | ret u =>
        obtain ⟨v, σ', H', I, rvu, q⟩ := hs
        exact fin I rvu q
      | next =>
        obtain ⟨σ', H', I, q⟩ := hs
        exact fin (v := V.non) (u := Value.none) I rfl q
      | brk =>
        obtain ⟨_, _, _, q⟩ := hs
        exact q.elim
      | cont =>
        obtain ⟨_, _, _, q⟩ := hs
        exact q.elim
theorem FunD.okG {x qual : Str} {params : Arguments} {body : List Stmt} {scope : Scope} {dvs : List V} {kws : List (Str × V)} {f : Addr} {fd : FuncData} {N ps : List Str} {k : Nat} {b : MS} (F : FunD G.K x qual params body scope dvs kws f fd) (Sc : FnScope N ps scope)
    (hb : ∀ (cdv : Value) (A : Around) (outer : List Env) (s : Shared) (H : Hp) (E : XK), Room k (A.deeper (envOfC qual scope s.heap.objs.size f cdv)) → Cc G (cxOf (L2.CX P w) P w G.K mg base N qual scope f cdv A outer s H E) (fun cls d _ H => E cls d H) →
      RSs G (cxOf (L2.CX P w) P w G.K mg base N qual scope f cdv A outer s H E) (fun cls d _ H => E cls d H) body b) : FnG G P w mg base (k + 1) f fd ps (defM ps.length N.length b) := by
  obtain ⟨oc, od, dV, kV, doc, pm, an, cdv, ct, osl, rfl, lk, hcd, _, _⟩ := F.ex
  exact fnG_of lk hcd Sc fun A outer s H E => hb cdv A outer s H E
end

/-! ### calls -/
section
variable {G : Gx} {X : Cx} {W : WX} {k : Nat} {f C : Addr} {fd : FuncData} {ps : List Str} {m : MF}
/-- the positions that are taken of a list -/
def pick {α : Type} (perm : List Nat) (xs : List α) : List α := perm.filterMap fun i => xs[i]?
theorem valsPick {vs : List V} {us : List Value} (r : Vals vs us) : ∀ perm : List Nat, Vals (pick perm vs) (pick perm us)
  | [] => .nil
  | i :: perm => by
    unfold pick
    rw [List.filterMap_cons, List.filterMap_cons]
    cases q : vs[i]? with
    | none => rw [r.none_of q]; exact valsPick r perm
    | some v =>
      obtain ⟨u, hu, ru⟩ := r.get q
      rw [hu]
      exact .cons ru (valsPick r perm)
theorem repsPick {H : Hp} {L : List Addr} {ds : List D} {vs : List V} (r : Reps G H L ds vs) : ∀ perm : List Nat, Reps G H L (pick perm ds) (pick perm vs)
  | [] => rfl
  | i :: perm => by
    unfold pick
    rw [List.filterMap_cons, List.filterMap_cons]
    cases q : ds[i]? with
    | none =>
      have : vs[i]? = none := List.getElem?_eq_none_iff.mpr (by rw [← r.length]; exact List.getElem?_eq_none_iff.mp q)
      rw [this]
      exact repsPick r perm
    | some d =>
      obtain ⟨v, hv, rv⟩ := r.get q
      rw [hv]
      exact ⟨v, _, rfl, rv, repsPick r perm⟩
/-- how a call binds: us the positional arguments, ws those by name; what stands in which place -/
def BindG (K : PySem.W.Frag) (fd : FuncData) (ps ks : List Str) (perm : List Nat) (n : Nat) : Prop := ∀ (s : Shared) (us ws : List Value), K.In s.heap → us.length = n → ws.length = ks.length → BindsTo s fd ⟨us, ks.zip ws⟩ (ps.zip (pick perm (us ++ ws)))
theorem runG {pins : List (Addr × Obj)} {σ : L2.St} {H : Hp} {s : Shared} {Q : VK} {args : Args} {us : List Value} {vs : List V} {ds : List D} {L : List Addr} {S : Sto} {r : Res D} {S' : Sto} (F : FnG G X.prog X.w X.mg X.base k f fd ps m) (c : Cc G X W) (hr : Room k X.A)
    (I : Inv X pins σ H s) (hb : BindsTo s fd args (ps.zip us)) (rv : Vals vs us) (so : Sok G H L S) (rd : Reps G H L ds vs) (hm : m ds S = some (r, S')) (kk : Ke G W H L σ Q S' r) : wpAny (model X.prog X.w) X.A (call (.ref f) args.pos args.kw) (EP X pins σ Q) X.xe s := by
  have e0 := I.env0
  rw [c.K] at e0
  have kk' : Kf G H L Q (fun cls d H' => W cls d σ H') S' r := by
    cases r with
    | ok d => exact kk
    | exn x => exact kk
  refine wpAny_call (codeAny_mono (F.run X.A X.stack s H args us vs ds L S r S' Q _ hr c.gd e0 hb rv so rd hm kk') fun r' s' hq => ?_)
  cases r' with
  | error e => exact c.tk e s' (XE.of_call I (fun cls d H' z => z) hq)
  | ok fl =>
    cases fl with
    | ret u => exact I.after hq
    | next => exact hq.elim
    | brk => exact hq.elim
    | cont => exact hq.elim
def callM (m : MF) (t : MA) : ME := fun ρ S => bnd (t ρ S) fun ds S1 => m ds S1
/-- the arguments come, or what they raise -/
theorem argsG {t : TA} {a : MA} {m : MF} {σ : L2.St} {H : Hp} {L : List Addr} {ρ : En} {S : Sto} {r : Res D} {S' : Sto} {Q : VK} (h : RdA G W t a) (so : Sok G H L S) (eo : Eok G H L ρ σ) (hm : callM m a ρ S = some (r, S')) (kk : Ke G W H L σ Q S' r) :
    t σ H fun vs H1 => ∃ ds S1 L1, Reps G H1 L1 ds vs ∧ Sok G H1 L1 S1 ∧ m ds S1 = some (r, S') ∧ Ke G W H1 L1 σ Q S' r := by
  rcases bnd_some hm with ⟨ds, S1, h1, h2⟩ | ⟨x, h1, rfl⟩
  · exact h σ H L ρ S _ S1 _ so eo h1 fun vs H1 L1 q1 q2 q3 => ⟨ds, S1, L1, q1, q2, h2, kk.ext q3⟩
  · exact h σ H L ρ S _ S' _ so eo h1 kk
def BindP (K : PySem.W.Frag) (fd : FuncData) (ps : List Str) : Prop := ∀ (s : Shared) (us : List Value), K.In s.heap → us.length = ps.length → BindsTo s fd ⟨us, []⟩ (ps.zip us)
theorem re_call {x : Str} {p pos : Pos} {e : Expr} {es : List Expr} {a : MA} (c : Cc G X W) (F : FnG G X.prog X.w X.mg X.base k f fd ps m) (hr : Room k X.A) (hm : X.mg x = some (.ref f)) (hk : PySem.W.keepIn G.K (.ref f) = true) (hb : BindP G.K fd ps)
    (ha : RA G X W (e :: es) a) (hg : Gl X x := by rfl) (hdb : (x == ("__debug__" : Str)) = false := by decide) (he : starEach (e :: es) X.env = (false, eval e X.env) :: starEach es X.env := by rfl) (hpl : (backTo pos (starEach es X.env)).any (·.1) = false := by rfl) :
    RE G X W (.Call (.Name x p) (e :: es) [] pos) (callM m a) := by
  obtain ⟨t, a1, a2⟩ := ha
  refine ⟨canE G W (callM m a), ⟨fun pins s σ H Q I h => ?_⟩, rdCanE⟩
  obtain ⟨L, ρ, S, r, S', so, eo, hm', kk⟩ := h
  refine wpAny_Call_Name_kw (ld_glob I hg hm ?_ hdb)
  refine PySem.W.callWith_K (h₀ := X.base) I.ok.mod.kin (by rw [c.K]; exact hk) (thn (a1.run pos pins s σ H _ I (argsG a2 so eo hm' kk)) fun us s1 ⟨vs, H1, I1, rv, ds, S1, L1, rd, so1, h2, k1⟩ => ⟨I1.kIn, ?_⟩) he hpl
  have hl : us.length = ps.length := by rw [← rv.length, ← rd.length]; exact F.len _ _ _ h2
  exact runG F c hr I1 (args := ⟨us, []⟩) (hb s1 us (by rw [← c.K]; exact I1.kIn) hl) rv so1 rd h2 k1
theorem re_call0 {x : Str} {p pos : Pos} (c : Cc G X W) (F : FnG G X.prog X.w X.mg X.base k f fd ps m) (hr : Room k X.A) (hm : X.mg x = some (.ref f)) (hk : PySem.W.keepIn G.K (.ref f) = true) (hb : BindP G.K fd ps)
    (hg : Gl X x := by rfl) (hdb : (x == ("__debug__" : Str)) = false := by decide) : RE G X W (.Call (.Name x p) [] [] pos) (callM m nilA) := by
  refine ⟨canE G W (callM m nilA), ⟨fun pins s σ H Q I h => ?_⟩, rdCanE⟩
  obtain ⟨L, ρ, S, r, S', so, eo, hm', kk⟩ := h
  refine wpAny_Call_Name_kw (ld_glob I hg hm ?_ hdb)
  have h2 : m [] S = some (r, S') := hm'
  have hl : ([] : List Value).length = ps.length := F.len _ _ _ h2
  exact PySem.W.callWith_K0 I.kIn (by rw [c.K]; exact hk) (runG F c hr I (args := ⟨[], []⟩) (hb s [] (by rw [← c.K]; exact I.kIn) hl) .nil so (show Reps G H L [] [] from rfl) h2 kk)
/-- o.m(e, ..), o an instance of the class of that name -/
def insD (C : Str) (x : D) (S : Sto) : Bool := match x with
  | .ref l => (match S[l]? with
    | some (.ins C' _) => decide (C' = C)
    | _ => false)
  | _ => false
def hasF (x : D) (S : Sto) (f : Str) : Bool := match x with
  | .ref l => (match S[l]? with
    | some (.ins _ fs) => (fs.lookup f).isSome
    | _ => false)
  | _ => false
theorem FReps.look {H : Hp} {L : List Addr} {f : Str} : ∀ {fs : List (Str × D)} {gs : List (Str × V)}, FReps G H L fs gs → (fs.lookup f = none ∧ gs.lookup f = none) ∨ ∃ d v, fs.lookup f = some d ∧ gs.lookup f = some v ∧ Rep G H L d v
  | [], _, h => by
    rw [show _ = ([] : List (Str × V)) from h]
    exact .inl ⟨rfl, rfl⟩
  | (g, d) :: fs, _, ⟨v, r, h1, h2, h3⟩ => by
    subst h1
    simp only [List.lookup_cons]
    cases q : f == g with
    | true => exact .inr ⟨d, v, rfl, rfl, h2⟩
    | false => exact FReps.look h3
theorem insD_at {H : Hp} {L : List Addr} {S : Sto} {Cn : Str} {x : D} {v : V} (so : Sok G H L S) (rv : Rep G H L x v) (h : insD Cn x S = true) : ∃ l a dx fs gs, x = .ref l ∧ v = .ref a ∧ L[l]? = some a ∧ S[l]? = some (.ins Cn fs) ∧ H a = some (.ins (G.cad Cn) dx gs) ∧ FReps G H L fs gs := by
  unfold insD at h
  cases x with
  | ref l =>
    dsimp only at h
    split at h
    · rename_i C' fs hS
      have e := of_decide_eq_true h
      subst e
      obtain ⟨a, rfl, ha⟩ := rv
      obtain ⟨dx, gs, h1, h2⟩ := so.ok l _ a hS ha
      exact ⟨l, a, dx, fs, gs, rfl, rfl, ha, hS, h1, h2⟩
    · cases h
  | _ => cases h
def methM (C nm : Str) (m : MF) (o : ME) (t : MA) : ME := fun ρ S => bnd (o ρ S) fun x S1 => if (insD C x S1 && !hasF x S1 nm) = true then bnd (t ρ S1) fun ds S2 => m (x :: ds) S2 else none
theorem re_meth {Cn nm : Str} {o e : Expr} {es : List Expr} {mo : ME} {a : MA} {apos pos : Pos} {pl : Sem Bool} (c : Cc G X W) (ho : RE G X W o mo) (cl : Cls G.K (G.cad Cn)) (hme : Meth G.K (G.cad Cn) nm f) (F : FnG G X.prog X.w X.mg X.base k f fd ps m) (hr : Room k X.A) (hb : BindP G.K fd ps) (ha : RA G X W (e :: es) a)
    (hst : starEach (e :: es) X.env = (false, eval e X.env) :: starEach es X.env := by rfl) (hpl : (backTo pos (starEach es X.env)).any (·.1) = false := by rfl)
    (ht : eval (.Call (.Attribute o nm apos) (e :: es) [] pos) X.env = (do
      let ov ← eval o X.env
      standAt apos.atName
      let (f, first) ← holding [ov] (getMethod ov nm pl)
      callWith pos f first (backTo pos (starEach (e :: es) X.env)) (backToKw pos (keywordEach [] X.env))) := by rfl) :
    RE G X W (.Call (.Attribute o nm apos) (e :: es) [] pos) (methM Cn nm m mo a) := by
  obtain ⟨to_, o1, o2⟩ := ho
  obtain ⟨t, a1, a2⟩ := ha
  refine ⟨canE G W (methM Cn nm m mo a), ⟨fun pins s σ H Q I h => ?_⟩, rdCanE⟩
  obtain ⟨L, ρ, S, r, S', so, eo, hm', kk⟩ := h
  have hto : to_ σ H fun x H1 => ∃ d S1 L1, Rep G H1 L1 d x ∧ Sok G H1 L1 S1 ∧ Eok G H1 L1 ρ σ ∧ insD Cn d S1 = true ∧ hasF d S1 nm = false ∧ callM (fun ds S2 => m (d :: ds) S2) a ρ S1 = some (r, S') ∧ Ke G W H1 L1 σ Q S' r := by
    rcases bnd_some hm' with ⟨d, S1, h1, h2⟩ | ⟨x, h1, rfl⟩
    · split at h2
      · rename_i hc
        rw [Bool.and_eq_true, Bool.not_eq_true'] at hc
        exact o2 σ H L ρ S _ S1 _ so eo h1 fun v H1 L1 q1 q2 q3 => ⟨d, S1, L1, q1, q2, eo.ext q3 so.noTup, hc.1, hc.2, h2, kk.ext q3⟩
      · cases h2
    · exact o2 σ H L ρ S _ S' _ so eo h1 kk
  refine PySem.W.methodCall_KW (pl := pl) (thn (o1.run pins s σ H _ I hto) fun u s1 ⟨x, H1, I1, rx, d, S1, L1, rd, so1, eo1, hi, hf, hm2, k1⟩ => ?_) ht
  obtain ⟨l, ad, dx, fs, gs, rfl, rfl, hL, hS, hH, hFR⟩ := insD_at so1 rd hi
  obtain rfl : u = Value.ref ad := rx
  have hl : gs.lookup nm = none := by
    unfold hasF at hf
    dsimp only at hf
    rw [hS] at hf
    rcases hFR.look (f := nm) with ⟨z1, z2⟩ | ⟨d, v, z1, _, _⟩
    · exact z2
    · dsimp only at hf
      rw [z1] at hf
      cases hf
  refine getmeth_ok I1 hH (by rw [c.K]; exact cl) (by rw [c.K]; exact hme) hl ?_
  refine PySem.W.callWith_K (first := [.ref ad]) (h₀ := X.base) I.ok.mod.kin (by rw [c.K]; exact hme.kp) (thn (a1.run pos pins s1 σ H1 (fun vs H2 => ∃ ds S2 L2, Reps G H2 L2 (.ref l :: ds) (.ref ad :: vs) ∧ Sok G H2 L2 S2 ∧ m (.ref l :: ds) S2 = some (r, S') ∧ Ke G W H2 L2 σ Q S' r) I1 ?_) fun us s2 ⟨vs, H2, I2, rv, ds, S2, L2, rd2, so2, h2, k2⟩ => ⟨I2.kIn, ?_⟩) hst hpl
  · rcases bnd_some hm2 with ⟨ds, S2, h1, h2⟩ | ⟨x, h1, rfl⟩
    · exact a2 σ H1 L1 ρ S1 _ S2 _ so1 eo1 h1 fun vs H2 L2 q1 q2 q3 => ⟨ds, S2, L2, ⟨.ref ad, vs, rfl, ⟨ad, rfl, q3.get hL⟩, q1⟩, q2, h2, k1.ext q3⟩
    · exact a2 σ H1 L1 ρ S1 _ S' _ so1 eo1 h1 k1
  · have rv' : Vals (V.ref ad :: vs) (Value.ref ad :: us) := .cons rfl rv
    have hlen : (Value.ref ad :: us).length = ps.length := by rw [← rv'.length, ← rd2.length]; exact F.len _ _ _ h2
    exact runG F c hr I2 (args := ⟨Value.ref ad :: us, []⟩) (hb s2 _ (by rw [← c.K]; exact I2.kIn) hlen) rv' so2 rd2 h2 k2
theorem re_meth0 {Cn nm : Str} {o : Expr} {mo : ME} {apos pos : Pos} {pl : Sem Bool} (c : Cc G X W) (ho : RE G X W o mo) (cl : Cls G.K (G.cad Cn)) (hme : Meth G.K (G.cad Cn) nm f) (F : FnG G X.prog X.w X.mg X.base k f fd ps m) (hr : Room k X.A) (hb : BindP G.K fd ps)
    (ht : eval (.Call (.Attribute o nm apos) [] [] pos) X.env = (do
      let ov ← eval o X.env
      standAt apos.atName
      let (f, first) ← holding [ov] (getMethod ov nm pl)
      callWith pos f first (backTo pos (starEach [] X.env)) (backToKw pos (keywordEach [] X.env))) := by rfl) :
    RE G X W (.Call (.Attribute o nm apos) [] [] pos) (methM Cn nm m mo nilA) := by
  obtain ⟨to_, o1, o2⟩ := ho
  refine ⟨canE G W (methM Cn nm m mo nilA), ⟨fun pins s σ H Q I h => ?_⟩, rdCanE⟩
  obtain ⟨L, ρ, S, r, S', so, eo, hm', kk⟩ := h
  have hto : to_ σ H fun x H1 => ∃ d S1 L1, Rep G H1 L1 d x ∧ Sok G H1 L1 S1 ∧ insD Cn d S1 = true ∧ hasF d S1 nm = false ∧ m [d] S1 = some (r, S') ∧ Ke G W H1 L1 σ Q S' r := by
    rcases bnd_some hm' with ⟨d, S1, h1, h2⟩ | ⟨x, h1, rfl⟩
    · split at h2
      · rename_i hc
        rw [Bool.and_eq_true, Bool.not_eq_true'] at hc
        exact o2 σ H L ρ S _ S1 _ so eo h1 fun v H1 L1 q1 q2 q3 => ⟨d, S1, L1, q1, q2, hc.1, hc.2, h2, kk.ext q3⟩
      · cases h2
    · exact o2 σ H L ρ S _ S' _ so eo h1 kk
  refine PySem.W.methodCall_KW (pl := pl) (thn (o1.run pins s σ H _ I hto) fun u s1 ⟨x, H1, I1, rx, d, S1, L1, rd, so1, hi, hf, h2, k1⟩ => ?_) ht
  obtain ⟨l, ad, dx, fs, gs, rfl, rfl, hL, hS, hH, hFR⟩ := insD_at so1 rd hi
  obtain rfl : u = Value.ref ad := rx
  have hl : gs.lookup nm = none := by
    unfold hasF at hf
    dsimp only at hf
    rw [hS] at hf
    rcases hFR.look (f := nm) with ⟨z1, z2⟩ | ⟨d, v, z1, _, _⟩
    · exact z2
    · dsimp only at hf
      rw [z1] at hf
      cases hf
  refine getmeth_ok I1 hH (by rw [c.K]; exact cl) (by rw [c.K]; exact hme) hl ?_
  have rv' : Vals [V.ref ad] [Value.ref ad] := .cons rfl .nil
  have rd2 : Reps G H1 L1 [.ref l] [V.ref ad] := Reps.one ⟨ad, rfl, hL⟩
  have hlen : [Value.ref ad].length = ps.length := by rw [← rv'.length, ← rd2.length]; exact F.len _ _ _ h2
  exact PySem.W.callWith_K0 (first := [.ref ad]) I1.kIn (by rw [c.K]; exact hme.kp) (runG F c hr I1 (args := ⟨[Value.ref ad], []⟩) (hb s1 _ (by rw [← c.K]; exact I1.kIn) hlen) rv' so1 rd2 h2 k1)
/-- C(e, ..): a new instance, then its __init__ -/
def makeM (C : Str) (m : MF) (t : MA) : ME := fun ρ S => bnd (t ρ S) fun ds S1 => match m (.ref S1.length :: ds) (S1 ++ [.ins C []]) with
  | some (.ok .non, S2) => some (.ok (.ref S1.length), S2)
  | some (.exn x, S2) => some (.exn x, S2)
  | _ => none
theorem re_make {x Cn : Str} {p pos : Pos} {e : Expr} {es : List Expr} {a : MA} (c : Cc G X W) (M : Mk G.K (G.cad Cn) f) (F : FnG G X.prog X.w X.mg X.base k f fd ps m) (hr : Room (k + 1) X.A) (hm : X.mg x = some (.ref (G.cad Cn))) (hb : BindP G.K fd ps)
    (ha : RA G X W (e :: es) a) (hg : Gl X x := by rfl) (hdb : (x == ("__debug__" : Str)) = false := by decide) (he : starEach (e :: es) X.env = (false, eval e X.env) :: starEach es X.env := by rfl) (hpl : (backTo pos (starEach es X.env)).any (·.1) = false := by rfl) :
    RE G X W (.Call (.Name x p) (e :: es) [] pos) (makeM Cn m a) := by
  obtain ⟨t, a1, a2⟩ := ha
  refine ⟨canE G W (makeM Cn m a), ⟨fun pins s σ H Q I h => ?_⟩, rdCanE⟩
  obtain ⟨L, ρ, S, r, S', so, eo, hm', kk⟩ := h
  have hta : t σ H fun vs H1 => ∃ ds S1 L1, Reps G H1 L1 ds vs ∧ Sok G H1 L1 S1 ∧ (match m (.ref S1.length :: ds) (S1 ++ [.ins Cn []]) with
      | some (.ok .non, S2) => some (.ok (.ref S1.length), S2)
      | some (.exn x, S2) => some (.exn x, S2)
      | _ => none) = some (r, S') ∧ Ke G W H1 L1 σ Q S' r := by
    rcases bnd_some hm' with ⟨ds, S1, h1, h2⟩ | ⟨x, h1, rfl⟩
    · exact a2 σ H L ρ S _ S1 _ so eo h1 fun vs H1 L1 q1 q2 q3 => ⟨ds, S1, L1, q1, q2, h2, kk.ext q3⟩
    · exact a2 σ H L ρ S _ S' _ so eo h1 kk
  refine wpAny_Call_Name_kw (ld_glob I hg hm ?_ hdb)
  refine PySem.W.callWith_K (h₀ := X.base) I.ok.mod.kin (by rw [c.K]; exact M.kp) (thn (a1.run pos pins s σ H _ I hta) fun us s1 ⟨vs, H1, I1, rv, ds, S1, L1, rd, so1, h2, k1⟩ => ⟨I1.kIn, ?_⟩) he hpl
  have I2 := Inv.made (C := G.cad Cn) I1
  have n1 : H1 s1.heap.objs.size = none := I1.hok.fresh (Nat.le_refl _)
  have n2 : H1 (s1.heap.objs.size + 1) = none := I1.hok.fresh (Nat.le_succ _)
  have ne : s1.heap.objs.size ≠ s1.heap.objs.size + 1 := Nat.ne_of_lt (Nat.lt_succ_self _)
  have n3 : upd H1 s1.heap.objs.size (.own (s1.heap.objs.size + 1)) (s1.heap.objs.size + 1) = none := by rw [upd_ne ne.symm]; exact n2
  have xa : Ext H1 L1 (upd H1 s1.heap.objs.size (.own (s1.heap.objs.size + 1))) L1 := Ext.upd_new n1
  have sa := so1.new (o := .own (s1.heap.objs.size + 1)) n1
  have xb : Ext H1 L1 (upd (upd H1 s1.heap.objs.size (.own (s1.heap.objs.size + 1))) (s1.heap.objs.size + 1) (.ins (G.cad Cn) s1.heap.objs.size [])) (L1 ++ [s1.heap.objs.size + 1]) := xa.trans (Ext.push n3)
  have sb := sa.push n3 (.ins Cn []) ⟨s1.heap.objs.size, [], upd_same, rfl⟩
  have hself : (L1 ++ [s1.heap.objs.size + 1])[S1.length]? = some (s1.heap.objs.size + 1) := by
    rw [← so1.len, List.getElem?_append_right (Nat.le_refl _), Nat.sub_self]
    rfl
  have rv' : Vals (V.ref (s1.heap.objs.size + 1) :: vs) (Value.ref (s1.heap.objs.size + 1) :: us) := .cons rfl rv
  have rd' : Reps G (upd (upd H1 s1.heap.objs.size (.own (s1.heap.objs.size + 1))) (s1.heap.objs.size + 1) (.ins (G.cad Cn) s1.heap.objs.size [])) (L1 ++ [s1.heap.objs.size + 1]) (.ref S1.length :: ds) (V.ref (s1.heap.objs.size + 1) :: vs) := ⟨_, _, rfl, ⟨_, rfl, hself⟩, rd.ext xb so1.noTup⟩
  cases q : m (.ref S1.length :: ds) (S1 ++ [.ins Cn []]) with
  | none => rw [q] at h2; cases h2
  | some pr =>
    obtain ⟨r2, S2⟩ := pr
    have hlen : (Value.ref (s1.heap.objs.size + 1) :: us).length = ps.length := by rw [← rv'.length, ← rd'.length]; exact F.len _ _ _ q
    rw [q] at h2
    have e0 := I2.env0.make (G.cad Cn) us []
    rw [c.K] at e0
    have Q2 : Kf G (upd (upd H1 s1.heap.objs.size (.own (s1.heap.objs.size + 1))) (s1.heap.objs.size + 1) (.ins (G.cad Cn) s1.heap.objs.size [])) (L1 ++ [s1.heap.objs.size + 1]) (fun v H2 => v = .non ∧ Q (.ref (s1.heap.objs.size + 1)) H2) (fun cls d H' => W cls d σ H') S2 r2 := by
      cases r2 with
      | ok d =>
        cases d with
        | non =>
          cases h2
          exact fun v H' L' z1 z2 z3 => ⟨z1, k1 _ H' L' ⟨_, rfl, z3.get hself⟩ z2 (xb.trans z3)⟩
        | _ => cases h2
      | exn x =>
        cases h2
        exact fun cls dx H' L' z1 z2 z3 => k1 cls dx H' L' z1 z2 (xb.trans z3)
    refine wpAny_call (make_map (f := f) I1.kIn (by rw [c.K]; exact M.makes) (by rw [c.K]; exact M.init) (by rw [c.K]; exact beq_iff_eq.mp M.fn) (codeAny_mono (F.run _ X.stack _ _ ⟨Value.ref (s1.heap.objs.size + 1) :: us, []⟩ (Value.ref (s1.heap.objs.size + 1) :: us) _ _ _ _ _ _ _ _ (hr.make (G.cad Cn) us []) ?gg e0
      (hb _ _ (by rw [← c.K]; exact I2.kIn) hlen) rv' sb rd' q Q2) fun r' s' hq => ?_))
    case gg =>
      have g : ∀ us : List Value, (X.A.under (.builtin "type.__call__" ⟨.ref (G.cad Cn) :: us, []⟩)).guards = X.A.guards := fun us => by
        first | rfl | simp [Around.under, Code.guards, Code.isGuard, guardIds, pushGuards]
      exact (g _).trans c.gd
    cases r' with
    | error e => exact c.tk e s' (XE.of_call I2 (fun cls d H' z => z) hq)
    | ok fl =>
      cases fl with
      | ret u =>
        obtain ⟨v, H', I3, rv3, ev, q3⟩ := I2.after hq
        subst ev
        exact ⟨rv3, ⟨V.ref (s1.heap.objs.size + 1), H', I3, rfl, q3⟩⟩
      | next => exact hq.elim
      | brk => exact hq.elim
      | cont => exact hq.elim
end
end Td

set_option Elab.async false
set_option linter.all false
set_option maxRecDepth 100000
set_option maxHeartbeats 1000000
/-! the operators, subscripts and slices, as plain functions -/
namespace Td
open PySem PySem.Spec PyProof.Rows L2 RZ

/-- one rule or another -/
theorem opOr {X : Cx} {f : Value → Value → Sem Value} {r r' : R2} (h : OpR X f r) (h' : OpR X f r') : OpR X f (fun x y H Q => r x y H Q ∨ r' x y H Q) := by
  intro pins s σ H x y v u Q I rx ry q
  rcases q with q | q
  · exact h pins s σ H x y v u Q I rx ry q
  · exact h' pins s σ H x y v u Q I rx ry q
abbrev DF2 := D → D → Sto → Option (D × Sto)
def liB (f : Int → Int → Bool) : DF2 := fun x y S => match x, y with
  | .int i, .int j => some (.bl (f i j), S)
  | _, _ => none
def liI (f : Int → Int → Int) : DF2 := fun x y S => match x, y with
  | .int i, .int j => some (.int (f i j), S)
  | _, _ => none
def liC (C : Int → Int → Bool) (f : Int → Int → Int) : DF2 := fun x y S => match x, y with
  | .int i, .int j => if C i j = true then some (.int (f i j), S) else none
  | _, _ => none
section
variable {G : Gx} {X : Cx} {W : WX}
theorem od_liB (f : Int → Int → Bool) : OpD G (rI0 fun i j => .bl (f i j)) (liB f) := by
  intro H L S x y v u d S' Q s rx ry h k
  unfold liB at h
  split at h
  · cases h
    cases rx
    cases ry
    exact ⟨_, _, rfl, rfl, k _ H L rfl s (Ext.refl H L)⟩
  · cases h
theorem od_liI (f : Int → Int → Int) : OpD G (rI0 fun i j => .int (f i j)) (liI f) := by
  intro H L S x y v u d S' Q s rx ry h k
  unfold liI at h
  split at h
  · cases h
    cases rx
    cases ry
    exact ⟨_, _, rfl, rfl, k _ H L rfl s (Ext.refl H L)⟩
  · cases h
theorem od_liC {C : Int → Int → Bool} {P : Int → Int → Prop} (hC : ∀ i j, C i j = true → P i j) (f : Int → Int → Int) : OpD G (rI P fun i j => .int (f i j)) (liC C f) := by
  intro H L S x y v u d S' Q s rx ry h k
  unfold liC at h
  split at h
  · split at h
    · rename_i hc
      cases h
      cases rx
      cases ry
      exact ⟨_, _, rfl, rfl, hC _ _ hc, k _ H L rfl s (Ext.refl H L)⟩
    · cases h
  · cases h
def ltD : DF2 := liB fun i j => decide (i < j)
def leD : DF2 := liB fun i j => decide (i ≤ j)
def gtD : DF2 := liB fun i j => decide (j < i)
def geD : DF2 := liB fun i j => decide (j ≤ i)
def subD : DF2 := liI fun i j => i - j
def cMul (i j : Int) : Bool := (decide (-(2 ^ 64) < i) && decide (i < 2 ^ 64)) || (decide (-(2 ^ 64) < j) && decide (j < 2 ^ 64)) || decide (i.natAbs.log2 + j.natAbs.log2 < 1000000)
def mulD : DF2 := liC cMul fun i j => i * j
def fdivD : DF2 := liC (fun _ j => decide (j ≠ 0) && decide (j.natAbs < 1073741824)) fun i j => i.fdiv j
def modD : DF2 := liC (fun _ j => decide (j ≠ 0)) fun i j => i.fmod j
def powD : DF2 := liC (fun i j => decide (0 ≤ j) && (decide (j ≤ 1000000) && decide (i.natAbs < 2 ^ 64))) fun i j => i ^ j.toNat
theorem opMulAll : OpR X (binaryOp .Mult) (rI (fun i j => CMul i j ∨ CMulW i j) fun i j => .int (i * j)) := opI fun _ _ _ _ _ _ _ hc q => mul_int q (hc.elim CMul.ok CMulW.ok)
theorem cMul_ok (i j : Int) (h : cMul i j = true) : CMul i j ∨ CMulW i j := by
  unfold cMul at h
  rw [Bool.or_eq_true, Bool.or_eq_true, Bool.and_eq_true, Bool.and_eq_true] at h
  rcases h with (⟨h1, h2⟩ | ⟨h1, h2⟩) | h
  · exact .inl (.inl ⟨of_decide_eq_true h1, of_decide_eq_true h2⟩)
  · exact .inl (.inr ⟨of_decide_eq_true h1, of_decide_eq_true h2⟩)
  · exact .inr (show i.natAbs.log2 + j.natAbs.log2 < 1000000 from of_decide_eq_true h)
theorem re_lt {a b : Expr} {ma mb : ME} {pos : Pos} (ha : RE G X W a ma) (hb : RE G X W b mb) (hm : behindInMarks .Lt b = false := by rfl) : RE G X W (.Compare a [.Lt] [b] pos) (binM ltD ma mb) := re_cmp op_lt (od_liB _) ha hb hm
theorem re_le {a b : Expr} {ma mb : ME} {pos : Pos} (ha : RE G X W a ma) (hb : RE G X W b mb) (hm : behindInMarks .LtE b = false := by rfl) : RE G X W (.Compare a [.LtE] [b] pos) (binM leD ma mb) := re_cmp op_le (od_liB _) ha hb hm
theorem re_gt {a b : Expr} {ma mb : ME} {pos : Pos} (ha : RE G X W a ma) (hb : RE G X W b mb) (hm : behindInMarks .Gt b = false := by rfl) : RE G X W (.Compare a [.Gt] [b] pos) (binM gtD ma mb) := re_cmp op_gt (od_liB _) ha hb hm
theorem re_ge {a b : Expr} {ma mb : ME} {pos : Pos} (ha : RE G X W a ma) (hb : RE G X W b mb) (hm : behindInMarks .GtE b = false := by rfl) : RE G X W (.Compare a [.GtE] [b] pos) (binM geD ma mb) := re_cmp op_ge (od_liB _) ha hb hm
theorem rt_lt {a b : Expr} {ma mb : ME} {pos : Pos} (ha : RE G X W a ma) (hb : RE G X W b mb) (hm : behindInMarks .Lt b = false := by rfl) : RT G X W (.Compare a [.Lt] [b] pos) (tstM (binM ltD ma mb)) := rt_cmp op_lt (od_liB _) ha hb hm
theorem rt_le {a b : Expr} {ma mb : ME} {pos : Pos} (ha : RE G X W a ma) (hb : RE G X W b mb) (hm : behindInMarks .LtE b = false := by rfl) : RT G X W (.Compare a [.LtE] [b] pos) (tstM (binM leD ma mb)) := rt_cmp op_le (od_liB _) ha hb hm
theorem rt_gt {a b : Expr} {ma mb : ME} {pos : Pos} (ha : RE G X W a ma) (hb : RE G X W b mb) (hm : behindInMarks .Gt b = false := by rfl) : RT G X W (.Compare a [.Gt] [b] pos) (tstM (binM gtD ma mb)) := rt_cmp op_gt (od_liB _) ha hb hm
theorem rt_ge {a b : Expr} {ma mb : ME} {pos : Pos} (ha : RE G X W a ma) (hb : RE G X W b mb) (hm : behindInMarks .GtE b = false := by rfl) : RT G X W (.Compare a [.GtE] [b] pos) (tstM (binM geD ma mb)) := rt_cmp op_ge (od_liB _) ha hb hm
theorem re_sub {a b : Expr} {ma mb : ME} {pos : Pos} (ha : RE G X W a ma) (hb : RE G X W b mb) : RE G X W (.BinOp a .Sub b pos) (binM subD ma mb) := re_op op_sub (od_liI _) ha hb
theorem re_mul {a b : Expr} {ma mb : ME} {pos : Pos} (ha : RE G X W a ma) (hb : RE G X W b mb) : RE G X W (.BinOp a .Mult b pos) (binM mulD ma mb) := re_op opMulAll (od_liC cMul_ok _) ha hb
theorem re_fdiv {a b : Expr} {ma mb : ME} {pos : Pos} (ha : RE G X W a ma) (hb : RE G X W b mb) : RE G X W (.BinOp a .FloorDiv b pos) (binM fdivD ma mb) := re_op op_fdivN (od_liC (fun i j h => by
  rw [Bool.and_eq_true] at h
  exact ⟨of_decide_eq_true h.1, of_decide_eq_true h.2⟩) _) ha hb
theorem re_mod {a b : Expr} {ma mb : ME} {pos : Pos} (ha : RE G X W a ma) (hb : RE G X W b mb) : RE G X W (.BinOp a .Mod b pos) (binM modD ma mb) := re_op op_modN (od_liC (fun i j h => of_decide_eq_true h) _) ha hb
theorem re_pow {a b : Expr} {ma mb : ME} {pos : Pos} (ha : RE G X W a ma) (hb : RE G X W b mb) : RE G X W (.BinOp a .Pow b pos) (binM powD ma mb) := re_op op_pow (od_liC (fun i j h => by
  rw [Bool.and_eq_true, Bool.and_eq_true] at h
  exact ⟨of_decide_eq_true h.1, of_decide_eq_true h.2.1, of_decide_eq_true h.2.2⟩) _) ha hb
def chainD (f g : DF2) (a b c : ME) : ME := chM f g a b c
theorem re_chain {op op' : CmpOp} {r r' : R2} {f g : DF2} {a b d : Expr} {ma mb md : ME} {pos : Pos} (ho : OpR X (compareOp op) r) (ho' : OpR X (compareOp op') r') (hf : OpD G r f) (hg : OpD G r' g) (ha : RE G X W a ma) (hb : RE G X W b mb) (hd : RE G X W d md)
    (hm : lastMarks [op, op'] [b, d] = false := by with_unfolding_all rfl) : RE G X W (.Compare a [op, op'] [b, d] pos) (chM f g ma mb md) := by
  obtain ⟨_, a1, a2⟩ := ha
  obtain ⟨_, b1, b2⟩ := hb
  obtain ⟨_, d1, d2⟩ := hd
  exact ⟨_, pe_chain ho ho' a1 b1 d1 hm, rdChain hf hg a2 b2 d2⟩
theorem rt_chain {op op' : CmpOp} {r r' : R2} {f g : DF2} {a b d : Expr} {ma mb md : ME} {pos : Pos} (ho : OpR X (compareOp op) r) (ho' : OpR X (compareOp op') r') (hf : OpD G r f) (hg : OpD G r' g) (ha : RE G X W a ma) (hb : RE G X W b mb) (hd : RE G X W d md)
    (hm : lastMarks [op, op'] [b, d] = false := by with_unfolding_all rfl) : RT G X W (.Compare a [op, op'] [b, d] pos) (tstM (chM f g ma mb md)) := by
  obtain ⟨_, a1, a2⟩ := ha
  obtain ⟨_, b1, b2⟩ := hb
  obtain ⟨_, d1, d2⟩ := hd
  exact ⟨_, pt_chain ho ho' a1 b1 d1 hm, rdTest (rdChain hf hg a2 b2 d2)⟩
theorem re_lele {a b d : Expr} {ma mb md : ME} {pos : Pos} (ha : RE G X W a ma) (hb : RE G X W b mb) (hd : RE G X W d md) (hm : lastMarks [.LtE, .LtE] [b, d] = false := by with_unfolding_all rfl) : RE G X W (.Compare a [.LtE, .LtE] [b, d] pos) (chM leD leD ma mb md) := re_chain op_le op_le (od_liB _) (od_liB _) ha hb hd hm
theorem rt_lele {a b d : Expr} {ma mb md : ME} {pos : Pos} (ha : RE G X W a ma) (hb : RE G X W b mb) (hd : RE G X W d md) (hm : lastMarks [.LtE, .LtE] [b, d] = false := by with_unfolding_all rfl) : RT G X W (.Compare a [.LtE, .LtE] [b, d] pos) (tstM (chM leD leD ma mb md)) := rt_chain op_le op_le (od_liB _) (od_liB _) ha hb hd hm
theorem re_lelt {a b d : Expr} {ma mb md : ME} {pos : Pos} (ha : RE G X W a ma) (hb : RE G X W b mb) (hd : RE G X W d md) (hm : lastMarks [.LtE, .Lt] [b, d] = false := by with_unfolding_all rfl) : RE G X W (.Compare a [.LtE, .Lt] [b, d] pos) (chM leD ltD ma mb md) := re_chain op_le op_lt (od_liB _) (od_liB _) ha hb hd hm
theorem rt_lelt {a b d : Expr} {ma mb md : ME} {pos : Pos} (ha : RE G X W a ma) (hb : RE G X W b mb) (hd : RE G X W d md) (hm : lastMarks [.LtE, .Lt] [b, d] = false := by with_unfolding_all rfl) : RT G X W (.Compare a [.LtE, .Lt] [b, d] pos) (tstM (chM leD ltD ma mb md)) := rt_chain op_le op_lt (od_liB _) (od_liB _) ha hb hd hm
/-- + : ints, texts, tuples, lists -/
def addD : DF2 := fun x y S => match x, y with
  | .int i, .int j => some (.int (i + j), S)
  | .str a, .str b => if a.length + b.length ≤ sizeLine then some (.str (a ++ b), S) else none
  | .tup xs, .tup ys => if xs.length + ys.length ≤ sizeLine then some (.tup (xs ++ ys), S) else none
  | .ref l, .ref m => (match S[l]?, S[m]? with
    | some (.lst xs), some (.lst ys) => if xs.length + ys.length ≤ sizeLine then some (.ref S.length, S ++ [.lst (xs ++ ys)]) else none
    | _, _ => none)
  | _, _ => none
theorem Reps.nil_iff {H : Hp} {L : List Addr} {ds : List D} {vs : List V} (r : Reps G H L ds vs) : vs = [] ↔ ds = [] := by
  rw [← List.length_eq_zero_iff, ← List.length_eq_zero_iff, r.length]
def rAdd (K : PySem.W.Frag) : R2 := fun x y H Q => rI0 (fun i j => .int (i + j)) x y H Q ∨ (∃ i j, x = .str i ∧ y = .str j ∧ i.length + j.length ≤ sizeLine ∧ Q (.str (i ++ j)) H) ∨ rCatA K x y H Q ∨ rCat x y H Q
/-- a new list -/
theorem newLst {H : Hp} {L : List Addr} {S : Sto} {p : Addr} {ds : List D} {vs : List V} (s : Sok G H L S) (r : Reps G H L ds vs) (hp : H p = none) :
    Rep G (upd H p (.lst vs)) (L ++ [p]) (.ref S.length) (.ref p) ∧ Sok G (upd H p (.lst vs)) (L ++ [p]) (S ++ [.lst ds]) ∧ Ext H L (upd H p (.lst vs)) (L ++ [p]) := by
  refine ⟨⟨p, rfl, ?_⟩, s.push hp _ ⟨vs, upd_same, r.ext (Ext.push hp) s.noTup⟩, Ext.push hp⟩
  rw [← s.len, List.getElem?_append_right (Nat.le_refl _), Nat.sub_self]
  rfl
theorem od_add : OpD G (rAdd G.K) addD := by
  intro H L S x y v u d S' Q s rx ry h k
  unfold addD at h
  split at h
  · cases h
    cases rx
    cases ry
    exact .inl ⟨_, _, rfl, rfl, k _ H L rfl s (Ext.refl H L)⟩
  · split at h
    · rename_i hc
      cases h
      cases rx
      cases ry
      exact .inr (.inl ⟨_, _, rfl, rfl, hc, k _ H L rfl s (Ext.refl H L)⟩)
    · cases h
  · split at h
    · rename_i hc
      cases h
      obtain ⟨a, vs, rfl, ha, ra⟩ := rx
      obtain ⟨b, us, rfl, hb, rb⟩ := ry
      refine .inr (.inr (.inl ⟨a, b, vs, us, rfl, rfl, ha, hb, by rw [← ra.length, ← rb.length]; exact hc, fun e => ?_, fun e1 e2 => ?_, fun e1 e2 p hp => ?_⟩))
      · have := ra.nil_iff.mp e
        subst this
        exact k _ H L ⟨b, us, rfl, hb, rb⟩ s (Ext.refl H L)
      · have := rb.nil_iff.mp e2
        subst this
        rw [List.append_nil] at k
        exact k _ H L ⟨a, vs, rfl, ha, ra⟩ s (Ext.refl H L)
      · exact k _ _ L ⟨p, _, rfl, .inl (.inl upd_same), (ra.append rb).ext (Ext.upd_new hp) s.noTup⟩ (s.new hp) (Ext.upd_new hp)
    · cases h
  · split at h
    · rename_i xs ys h1 h2
      split at h
      · rename_i hc
        cases h
        obtain ⟨a, rfl, ha⟩ := rx
        obtain ⟨b, rfl, hb⟩ := ry
        obtain ⟨vs, e1, r1⟩ := s.lstAt ha h1
        obtain ⟨us, e2, r2⟩ := s.lstAt hb h2
        refine .inr (.inr (.inr ⟨a, b, vs, us, rfl, rfl, e1, e2, by rw [← r1.length, ← r2.length]; exact hc, fun p hp => ?_⟩))
        obtain ⟨q1, q2, q3⟩ := newLst s (r1.append r2) hp
        exact k _ _ _ q1 q2 q3
      · cases h
    · cases h
  · cases h
theorem opAddAll : OpR X (binaryOp .Add) (rAdd X.K) := opOr op_add (opOr op_add_str (opOr op_catA op_cat))
theorem re_add {a b : Expr} {ma mb : ME} {pos : Pos} (c : Cc G X W) (ha : RE G X W a ma) (hb : RE G X W b mb) : RE G X W (.BinOp a .Add b pos) (binM addD ma mb) := re_op opAddAll (by rw [c.K]; exact od_add) ha hb

/-! ### is None, == , != -/
def nonB : D → Bool
  | .non => true
  | _ => false
def isD : DF2 := fun x y S => match y with
  | .non => some (.bl (nonB x), S)
  | _ => none
def isnD : DF2 := fun x y S => match y with
  | .non => some (.bl (!nonB x), S)
  | _ => none
theorem rep_non {H : Hp} {L : List Addr} {x : D} {v : V} (r : Rep G H L x v) : decide (v = V.non) = nonB x := by
  cases x with
  | non => cases r; rfl
  | bl b => cases r; rfl
  | int i => cases r; rfl
  | str z => cases r; rfl
  | tup ds => obtain ⟨a, vs, rfl, _⟩ := r; rfl
  | rol ds => obtain ⟨a, vs, rfl, _⟩ := r; rfl
  | ref l => obtain ⟨a, rfl, _⟩ := r; rfl
  | ty n => cases r; rfl
  | obj z => cases r; rfl
theorem od_is : OpD G (fun x y H Q => y = .non ∧ Q (.bl (decide (x = .non))) H) isD := by
  intro H L S x y v u d S' Q s rx ry h k
  unfold isD at h
  split at h
  · cases h
    cases ry
    refine ⟨rfl, ?_⟩
    rw [rep_non rx]
    exact k _ H L rfl s (Ext.refl H L)
  · cases h
theorem od_isn : OpD G (fun x y H Q => y = .non ∧ Q (.bl (!decide (x = .non))) H) isnD := by
  intro H L S x y v u d S' Q s rx ry h k
  unfold isnD at h
  split at h
  · cases h
    cases ry
    refine ⟨rfl, ?_⟩
    rw [rep_non rx]
    exact k _ H L rfl s (Ext.refl H L)
  · cases h
/-- a thing that does not change, read as data -/
def pydL (f : D → Option PyData) : List D → Option (List PyData)
  | [] => some []
  | d :: ds => match f d, pydL f ds with
    | some x, some xs => some (x :: xs)
    | _, _ => none
def pyd (S : Sto) : Nat → D → Option PyData
  | 0, _ => none
  | n + 1, d => match d with
    | .non => some .none
    | .bl b => some (.bool b)
    | .int i => some (.int i)
    | .str x => some (.str x)
    | .tup ds => (pydL (pyd S n) ds).map .tuple
    | .rol ds => (pydL (pyd S n) ds).map .list
    | .ref l => (match S[l]? with
      | some (.lst ds) => (pydL (pyd S n) ds).map .list
      | _ => none)
    | _ => none
theorem pydL_dp {K : PySem.W.Frag} {H : Hp} {L : List Addr} {f : D → Option PyData} (hf : ∀ d v x, Rep G H L d v → f d = some x → Dp K H v x) : ∀ {ds : List D} {vs : List V} {xs : List PyData}, Reps G H L ds vs → pydL f ds = some xs → DpAll K H vs xs
  | [], _, _, r, h => by
    cases h
    rw [show _ = ([] : List V) from r]
    exact .nil
  | d :: ds, _, xs, ⟨v, vr, e, r1, r2⟩, h => by
    subst e
    unfold pydL at h
    split at h
    · rename_i x xs' h1 h2
      cases h
      exact .cons (hf _ _ _ r1 h1) (pydL_dp hf r2 h2)
    · cases h
theorem pyd_dp {H : Hp} {L : List Addr} {S : Sto} (s : Sok G H L S) : ∀ (n : Nat) (d : D) (v : V) (x : PyData), Rep G H L d v → pyd S n d = some x → Dp G.K H v x
  | 0, _, _, _, _, h => by cases h
  | n + 1, d, v, x, r, h => by
    unfold pyd at h
    have ih := pyd_dp s n
    cases d with
    | non => cases h; cases r; exact .non
    | bl b => cases h; cases r; exact .bl b
    | int i => cases h; cases r; exact .int i
    | str z => cases h; cases r; exact .str z
    | tup ds =>
      obtain ⟨a, vs, rfl, h1, h2⟩ := r
      obtain ⟨xs, h3, rfl⟩ := Option.map_eq_some_iff.mp h
      exact .tup h1 (pydL_dp ih h2 h3)
    | rol ds =>
      obtain ⟨a, vs, rfl, h1, h2⟩ := r
      obtain ⟨xs, h3, rfl⟩ := Option.map_eq_some_iff.mp h
      exact .lst h1.sqL (pydL_dp ih h2 h3)
    | ref l =>
      obtain ⟨a, rfl, ha⟩ := r
      dsimp only at h
      split at h
      · rename_i ds hS
        obtain ⟨vs, h1, h2⟩ := s.lstAt ha hS
        obtain ⟨xs, h3, rfl⟩ := Option.map_eq_some_iff.mp h
        exact .lst (SqL.of h1) (pydL_dp ih h2 h3)
      · cases h
    | ty n => cases h
    | obj z => cases h
def eqDeep : DF2 := fun x y S => match pyd S 12 x, pyd S 12 y with
  | some d, some e => if (SeqAt.shaped d && SeqAt.shaped e) = true then some (.bl (PyData.eqv d e), S) else none
  | _, _ => none
def eqD : DF2 := fun x y S => match x, y with
  | .str a, .str b => some (.bl (decide (a = b)), S)
  | .int i, .int j => some (.bl (decide (i = j)), S)
  | x, y => eqDeep x y S
def neDeep : DF2 := fun x y S => match pyd S 12 x, pyd S 12 y with
  | some d, some e => if (SeqAt.shaped d && SeqAt.shaped e) = true then some (.bl (!PyData.eqv d e), S) else none
  | _, _ => none
def neD : DF2 := fun x y S => match x, y with
  | .str a, .str b => some (.bl (!decide (a = b)), S)
  | .int i, .int j => some (.bl (!decide (i = j)), S)
  | x, y => neDeep x y S
theorem od_eqDeep : OpD G (rEqD G.K) eqDeep := by
  intro H L S x y v u d S' Q s rx ry h k
  unfold eqDeep at h
  split at h
  · rename_i d1 e1 h1 h2
    split at h
    · rename_i hs
      rw [Bool.and_eq_true] at hs
      cases h
      exact ⟨_, _, pyd_dp s _ _ _ _ rx h1, pyd_dp s _ _ _ _ ry h2, hs.1, hs.2, k _ H L rfl s (Ext.refl H L)⟩
    · cases h
  · cases h
theorem od_neDeep : OpD G (rNeD G.K) neDeep := by
  intro H L S x y v u d S' Q s rx ry h k
  unfold neDeep at h
  split at h
  · rename_i d1 e1 h1 h2
    split at h
    · rename_i hs
      rw [Bool.and_eq_true] at hs
      cases h
      exact ⟨_, _, pyd_dp s _ _ _ _ rx h1, pyd_dp s _ _ _ _ ry h2, hs.1, hs.2, k _ H L rfl s (Ext.refl H L)⟩
    · cases h
  · cases h
theorem decStr (a b : Str) : decide (V.str a = V.str b) = decide (a = b) := decide_eq_decide.mpr ⟨fun h => by cases h; rfl, fun h => by rw [h]⟩
theorem decInt (a b : Int) : decide (V.int a = V.int b) = decide (a = b) := decide_eq_decide.mpr ⟨fun h => by cases h; rfl, fun h => by rw [h]⟩
theorem od_eq : OpD G (fun x y H Q => rEq x y H Q ∨ rEqD G.K x y H Q) eqD := by
  intro H L S x y v u d S' Q s rx ry h k
  unfold eqD at h
  split at h
  · cases h
    cases rx
    cases ry
    exact .inl ⟨rfl, by rw [decStr]; exact k _ H L rfl s (Ext.refl H L)⟩
  · cases h
    cases rx
    cases ry
    exact .inl ⟨rfl, by rw [decInt]; exact k _ H L rfl s (Ext.refl H L)⟩
  · exact .inr (od_eqDeep H L S _ _ v u d S' Q s rx ry h k)
theorem od_ne : OpD G (fun x y H Q => rNe x y H Q ∨ rNeD G.K x y H Q) neD := by
  intro H L S x y v u d S' Q s rx ry h k
  unfold neD at h
  split at h
  · cases h
    cases rx
    cases ry
    exact .inl ⟨rfl, by rw [decStr]; exact k _ H L rfl s (Ext.refl H L)⟩
  · cases h
    cases rx
    cases ry
    exact .inl ⟨rfl, by rw [decInt]; exact k _ H L rfl s (Ext.refl H L)⟩
  · exact .inr (od_neDeep H L S _ _ v u d S' Q s rx ry h k)
theorem re_eq {a b : Expr} {ma mb : ME} {pos : Pos} (c : Cc G X W) (ha : RE G X W a ma) (hb : RE G X W b mb) (hm : behindInMarks .Eq b = false := by rfl) : RE G X W (.Compare a [.Eq] [b] pos) (binM eqD ma mb) := re_cmp (opOr op_eq (op_eqD (by have := c.hu; omega))) (by rw [c.K]; exact od_eq) ha hb hm
theorem re_ne {a b : Expr} {ma mb : ME} {pos : Pos} (c : Cc G X W) (ha : RE G X W a ma) (hb : RE G X W b mb) (hm : behindInMarks .NotEq b = false := by rfl) : RE G X W (.Compare a [.NotEq] [b] pos) (binM neD ma mb) := re_cmp (opOr op_ne (op_neD (by have := c.hu; omega))) (by rw [c.K]; exact od_ne) ha hb hm
theorem rt_eq {a b : Expr} {ma mb : ME} {pos : Pos} (c : Cc G X W) (ha : RE G X W a ma) (hb : RE G X W b mb) (hm : behindInMarks .Eq b = false := by rfl) : RT G X W (.Compare a [.Eq] [b] pos) (tstM (binM eqD ma mb)) := rt_cmp (opOr op_eq (op_eqD (by have := c.hu; omega))) (by rw [c.K]; exact od_eq) ha hb hm
theorem rt_ne {a b : Expr} {ma mb : ME} {pos : Pos} (c : Cc G X W) (ha : RE G X W a ma) (hb : RE G X W b mb) (hm : behindInMarks .NotEq b = false := by rfl) : RT G X W (.Compare a [.NotEq] [b] pos) (tstM (binM neD ma mb)) := rt_cmp (opOr op_ne (op_neD (by have := c.hu; omega))) (by rw [c.K]; exact od_ne) ha hb hm
theorem re_isN {a b : Expr} {ma mb : ME} {pos : Pos} (ha : RE G X W a ma) (hb : RE G X W b mb) (hm : behindInMarks .Is b = false := by rfl) : RE G X W (.Compare a [.Is] [b] pos) (binM isD ma mb) := re_cmp op_isN od_is ha hb hm
theorem rt_isN {a b : Expr} {ma mb : ME} {pos : Pos} (ha : RE G X W a ma) (hb : RE G X W b mb) (hm : behindInMarks .Is b = false := by rfl) : RT G X W (.Compare a [.Is] [b] pos) (tstM (binM isD ma mb)) := rt_cmp op_isN od_is ha hb hm

/-! ### in, not in -/
def flatO : D → Option V
  | .non => some .non
  | .bl b => some (.bl b)
  | .int i => some (.int i)
  | .str x => some (.str x)
  | _ => none
def flatL : List D → Option (List V)
  | [] => some []
  | d :: ds => match flatO d, flatL ds with
    | some x, some xs => some (x :: xs)
    | _, _ => none
theorem flatO_eq {H : Hp} {L : List Addr} {d : D} {v w : V} (r : Rep G H L d v) (h : flatO d = some w) : v = w ∧ flatV v = true := by
  cases d with
  | non => cases h; cases r; exact ⟨rfl, rfl⟩
  | bl b => cases h; cases r; exact ⟨rfl, rfl⟩
  | int i => cases h; cases r; exact ⟨rfl, rfl⟩
  | str x => cases h; cases r; exact ⟨rfl, rfl⟩
  | _ => cases h
theorem flatL_eq {H : Hp} {L : List Addr} : ∀ {ds : List D} {vs ws : List V}, Reps G H L ds vs → flatL ds = some ws → vs = ws ∧ vs.all flatV = true
  | [], _, _, r, h => by
    cases h
    rw [show _ = ([] : List V) from r]
    exact ⟨rfl, rfl⟩
  | d :: ds, _, _, ⟨v, vr, e, r1, r2⟩, h => by
    subst e
    unfold flatL at h
    split at h
    · rename_i x xs h1 h2
      cases h
      obtain ⟨q1, q2⟩ := flatO_eq r1 h1
      obtain ⟨q3, q4⟩ := flatL_eq r2 h2
      subst q1 q3
      exact ⟨rfl, by rw [List.all_cons, q2, q4]; rfl⟩
    · cases h
/-- the items of a list or tuple -/
def seqO (S : Sto) : D → Option (List D)
  | .tup ds => some ds
  | .rol ds => some ds
  | .ref l => (match S[l]? with
    | some (.lst ds) => some ds
    | _ => none)
  | _ => none
theorem seqO_at {H : Hp} {L : List Addr} {S : Sto} {d : D} {v : V} {ds : List D} (s : Sok G H L S) (r : Rep G H L d v) (h : seqO S d = some ds) : ∃ a vs, v = .ref a ∧ (SqL G.K H a vs ∨ SqT G.K H a vs) ∧ Reps G H L ds vs := by
  cases d with
  | tup es =>
    cases h
    obtain ⟨a, vs, rfl, h1, h2⟩ := r
    exact ⟨a, vs, rfl, .inr h1, h2⟩
  | rol es =>
    cases h
    obtain ⟨a, vs, rfl, h1, h2⟩ := r
    exact ⟨a, vs, rfl, .inl h1.sqL, h2⟩
  | ref l =>
    obtain ⟨a, rfl, ha⟩ := r
    unfold seqO at h
    dsimp only at h
    split at h
    · rename_i es hS
      cases h
      obtain ⟨vs, h1, h2⟩ := s.lstAt ha hS
      exact ⟨a, vs, rfl, .inl (SqL.of h1), h2⟩
    · cases h
  | _ => cases h
/-- the first of the answers that is one -/
def firstO (a b : Option Bool) : Option Bool := match a with
  | some x => some x
  | none => b
def inFlat (x y : D) (S : Sto) : Option Bool := match seqO S y with
  | some ds => (match flatO x, flatL ds with
    | some v, some vs => some (inV v vs)
    | _, _ => none)
  | none => none
def inSign (x y : D) (S : Sto) : Option Bool := match x, y with
  | .str a, .str b => (match a.cps.toList with
    | [c] => some (decide (c ∈ b.cps.toList))
    | _ => none)
  | _, _ => none
def dctO (S : Sto) (l : Nat) : Option (List (D × D)) := match S[l]? with
  | some (.dct kvs) => some kvs
  | _ => none
def findD (kvs : List (D × D)) (k : Key) : Option D := (kvs.find? fun p => decide (keyD p.1 = some k)).map (·.2)
def inDict (x y : D) (S : Sto) : Option Bool := match y with
  | .ref l => (match dctO S l, keyD x with
    | some kvs, some k => some (findD kvs k).isSome
    | _, _ => none)
  | _ => none
def inDeep (x y : D) (S : Sto) : Option Bool := match pyd S 12 x, pyd S 12 y with
  | some d, some (.list es) => if (SeqAt.shaped d && SeqAt.shaped (.list es)) = true then some (es.any fun z => PyData.eqv z d) else none
  | _, _ => none
def inB (x y : D) (S : Sto) : Option Bool := firstO (inFlat x y S) (firstO (inSign x y S) (firstO (inDict x y S) (inDeep x y S)))
def inD : DF2 := fun x y S => (inB x y S).map fun b => (.bl b, S)
def notInD : DF2 := fun x y S => (inB x y S).map fun b => (.bl (!b), S)
theorem keyD_rep {H : Hp} {L : List Addr} {d : D} {v : V} {k : Key} (r : Rep G H L d v) (h : keyD d = some k) : v = kV k := by
  cases d with
  | int i => cases h; cases r; rfl
  | str x => cases h; cases r; rfl
  | _ => cases h
theorem findD_val {H : Hp} {L : List Addr} {k : Key} : ∀ {kvs : List (D × D)} {kv : List (Key × V)}, KReps G H L kvs kv → (findD kvs k = none ∧ valV kv k = none) ∨ ∃ d v, findD kvs k = some d ∧ valV kv k = some v ∧ Rep G H L d v
  | [], _, r => by
    rw [show _ = ([] : List (Key × V)) from r]
    exact .inl ⟨rfl, rfl⟩
  | p :: ps, _, ⟨k', v, r, e, h1, h2, h3⟩ => by
    subst e
    by_cases q : k' = k
    · subst q
      refine .inr ⟨p.2, v, ?_, valV_pos rfl, h2⟩
      unfold findD
      rw [List.find?_cons, h1]
      simp
    · rcases findD_val h3 (k := k) with ⟨z1, z2⟩ | ⟨d, w, z1, z2, z3⟩
      · refine .inl ⟨?_, (valV_neg q).trans z2⟩
        unfold findD at z1 ⊢
        rw [List.find?_cons, h1]
        simpa [q] using z1
      · refine .inr ⟨d, w, ?_, (valV_neg q).trans z2, z3⟩
        unfold findD at z1 ⊢
        rw [List.find?_cons, h1]
        simpa [q] using z1
theorem Sok.dctAt {H : Hp} {L : List Addr} {S : Sto} {l : Nat} {a : Addr} {kvs : List (D × D)} (s : Sok G H L S) (ha : L[l]? = some a) (h : dctO S l = some kvs) : ∃ kv, H a = some (.dK kv) ∧ KReps G H L kvs kv := by
  unfold dctO at h
  split at h
  · rename_i k hS
    cases h
    exact s.ok l _ a hS ha
  · cases h
/-- x in y, y a dict -/
def rInK (neg : Bool) : R2 := fun x y H Q => ∃ a o, y = .ref a ∧ DGet H a x o ∧ Q (.bl (if neg then !o.isSome else o.isSome)) H
theorem op_inK (hu : X.A.units + 1 < cLine) : OpR X (compareOp .In) (rInK false) := by
  intro pins s σ H x y v u Q I rx ry h
  obtain ⟨a, o, rfl, g, q⟩ := h
  cases ry
  exact d_in hu I g rx fun s' I' => ⟨.bl o.isSome, H, I', rfl, q⟩
theorem op_notInK (hu : X.A.units + 1 < cLine) : OpR X (compareOp .NotIn) (rInK true) := by
  intro pins s σ H x y v u Q I rx ry h
  obtain ⟨a, o, rfl, g, q⟩ := h
  cases ry
  exact d_notIn hu I g rx fun s' I' => ⟨.bl (!o.isSome), H, I', rfl, q⟩
def rInAll (K : PySem.W.Frag) (neg : Bool) (rs rd : R2) : R2 := fun x y H Q => rIn K neg x y H Q ∨ rs x y H Q ∨ rInK neg x y H Q ∨ rd x y H Q
theorem firstO_some {a b : Option Bool} {c : Bool} (h : firstO a b = some c) : a = some c ∨ b = some c := by
  unfold firstO at h
  split at h
  · exact .inl h
  · exact .inr h
theorem inParts {H : Hp} {L : List Addr} {S : Sto} {x y : D} {v u : V} {b : Bool} (s : Sok G H L S) (rx : Rep G H L x v) (ry : Rep G H L y u) (h : inB x y S = some b) :
    (∃ p xs, u = .ref p ∧ (SqL G.K H p xs ∨ SqT G.K H p xs) ∧ flatV v = true ∧ xs.all flatV = true ∧ inV v xs = b) ∨ (∃ (c : Nat) (z : Str), v = .str ⟨#[c]⟩ ∧ u = .str z ∧ decide (c ∈ z.cps.toList) = b) ∨
    (∃ a o, u = .ref a ∧ DGet H a v o ∧ o.isSome = b) ∨ ∃ d ds, Dp G.K H v d ∧ Dp G.K H u (.list ds) ∧ SeqAt.shaped d = true ∧ SeqAt.shaped (.list ds) = true ∧ (ds.any fun z => PyData.eqv z d) = b := by
  rcases firstO_some h with h | h
  · unfold inFlat at h
    split at h
    · rename_i ds hs
      split at h
      · rename_i w ws h1 h2
        cases h
        obtain ⟨a, vs, rfl, hq, r⟩ := seqO_at s ry hs
        obtain ⟨e1, f1⟩ := flatO_eq rx h1
        obtain ⟨e2, f2⟩ := flatL_eq r h2
        subst e1 e2
        exact .inl ⟨a, _, rfl, hq, f1, f2, rfl⟩
      · cases h
    · cases h
  · rcases firstO_some h with h | h
    · unfold inSign at h
      split at h
      · rename_i xa xb _ _
        split at h
        · rename_i cc hc
          have hb : decide (cc ∈ xb.cps.toList) = b := Option.some.inj h
          cases rx
          cases ry
          refine .inr (.inl ⟨cc, xb, ?_, rfl, hb⟩)
          have : xa = ⟨#[cc]⟩ := by
            obtain ⟨arr⟩ := xa
            simp only at hc
            congr
            exact Array.toList_inj.mp hc
          rw [this]
        · cases h
      · cases h
    · rcases firstO_some h with h | h
      · unfold inDict at h
        split at h
        · rename_i l
          split at h
          · rename_i kvs k h1 h2
            cases h
            obtain ⟨a, rfl, ha⟩ := ry
            obtain ⟨kv, e1, r1⟩ := s.dctAt ha h1
            have := keyD_rep rx h2
            subst this
            refine .inr (.inr (.inl ⟨a, valV kv k, rfl, DGet.k e1, ?_⟩))
            rcases findD_val r1 (k := k) with ⟨z1, z2⟩ | ⟨d, w, z1, z2, _⟩
            · rw [z1, z2]; rfl
            · rw [z1, z2]; rfl
          · cases h
        · cases h
      · unfold inDeep at h
        split at h
        · rename_i d es h1 h2
          split at h
          · rename_i hs
            rw [Bool.and_eq_true] at hs
            cases h
            exact .inr (.inr (.inr ⟨d, es, pyd_dp s _ _ _ _ rx h1, pyd_dp s _ _ _ _ ry h2, hs.1, hs.2, rfl⟩))
          · cases h
        · cases h
theorem od_in : OpD G (rInAll G.K false (fun x y H Q => ∃ (c : Nat) (z : Str), x = .str ⟨#[c]⟩ ∧ y = .str z ∧ Q (.bl (decide (c ∈ z.cps.toList))) H) (rInD G.K)) inD := by
  intro H L S x y v u d S' Q s rx ry h k
  obtain ⟨b, h1, h2⟩ := Option.map_eq_some_iff.mp h
  cases h2
  have q := k (.bl b) H L rfl s (Ext.refl H L)
  rcases inParts s rx ry h1 with ⟨p, xs, e, z1, z2, z3, rfl⟩ | ⟨c, z, e1, e2, rfl⟩ | ⟨a, o, e, g, rfl⟩ | ⟨d1, ds, z1, z2, z3, z4, rfl⟩
  · exact .inl ⟨p, xs, e, z1, z2, z3, q⟩
  · exact .inr (.inl ⟨c, z, e1, e2, q⟩)
  · exact .inr (.inr (.inl ⟨a, o, e, g, q⟩))
  · exact .inr (.inr (.inr ⟨d1, ds, z1, z2, z3, z4, q⟩))
theorem od_notIn : OpD G (rInAll G.K true (fun x y H Q => ∃ (c : Nat) (z : Str), x = .str ⟨#[c]⟩ ∧ y = .str z ∧ Q (.bl (!decide (c ∈ z.cps.toList))) H) (rNotInD G.K)) notInD := by
  intro H L S x y v u d S' Q s rx ry h k
  obtain ⟨b, h1, h2⟩ := Option.map_eq_some_iff.mp h
  cases h2
  have q := k (.bl (!b)) H L rfl s (Ext.refl H L)
  rcases inParts s rx ry h1 with ⟨p, xs, e, z1, z2, z3, rfl⟩ | ⟨c, z, e1, e2, rfl⟩ | ⟨a, o, e, g, rfl⟩ | ⟨d1, ds, z1, z2, z3, z4, rfl⟩
  · exact .inl ⟨p, xs, e, z1, z2, z3, q⟩
  · exact .inr (.inl ⟨c, z, e1, e2, q⟩)
  · exact .inr (.inr (.inl ⟨a, o, e, g, q⟩))
  · exact .inr (.inr (.inr ⟨d1, ds, z1, z2, z3, z4, q⟩))
theorem opInAll (c : Cc G X W) : OpR X (compareOp .In) (rInAll X.K false (fun x y H Q => ∃ (c : Nat) (z : Str), x = .str ⟨#[c]⟩ ∧ y = .str z ∧ Q (.bl (decide (c ∈ z.cps.toList))) H) (rInD X.K)) :=
  opOr op_in_seq (opOr op_in_sign (opOr (op_inK (by have := c.hu; omega)) (op_inD (by have := c.hu; omega))))
theorem opNotInAll (c : Cc G X W) : OpR X (compareOp .NotIn) (rInAll X.K true (fun x y H Q => ∃ (c : Nat) (z : Str), x = .str ⟨#[c]⟩ ∧ y = .str z ∧ Q (.bl (!decide (c ∈ z.cps.toList))) H) (rNotInD X.K)) :=
  opOr op_notIn_seq (opOr op_notIn_sign (opOr (op_notInK (by have := c.hu; omega)) (op_notInD (by have := c.hu; omega))))
theorem re_in {a b : Expr} {ma mb : ME} {pos : Pos} (c : Cc G X W) (ha : RE G X W a ma) (hb : RE G X W b mb) (hm : behindInMarks .In b = false := by rfl) : RE G X W (.Compare a [.In] [b] pos) (binM inD ma mb) := re_cmp (opInAll c) (by rw [c.K]; exact od_in) ha hb hm
theorem re_notIn {a b : Expr} {ma mb : ME} {pos : Pos} (c : Cc G X W) (ha : RE G X W a ma) (hb : RE G X W b mb) (hm : behindInMarks .NotIn b = false := by rfl) : RE G X W (.Compare a [.NotIn] [b] pos) (binM notInD ma mb) := re_cmp (opNotInAll c) (by rw [c.K]; exact od_notIn) ha hb hm
theorem rt_in {a b : Expr} {ma mb : ME} {pos : Pos} (c : Cc G X W) (ha : RE G X W a ma) (hb : RE G X W b mb) (hm : behindInMarks .In b = false := by rfl) : RT G X W (.Compare a [.In] [b] pos) (tstM (binM inD ma mb)) := rt_cmp (opInAll c) (by rw [c.K]; exact od_in) ha hb hm
theorem rt_notIn {a b : Expr} {ma mb : ME} {pos : Pos} (c : Cc G X W) (ha : RE G X W a ma) (hb : RE G X W b mb) (hm : behindInMarks .NotIn b = false := by rfl) : RT G X W (.Compare a [.NotIn] [b] pos) (tstM (binM notInD ma mb)) := rt_cmp (opNotInAll c) (by rw [c.K]; exact od_notIn) ha hb hm

/-! ### o[i] -/
def idxD : DF2 := fun x y S => match x with
  | .str z => (match y with
    | .int i => if z.length ≤ sizeLine then (match atI z.cps.toList i with
      | some c => some (.str ⟨#[c]⟩, S)
      | none => none) else none
    | _ => none)
  | _ => match seqO S x, y with
    | some ds, .int i => (match atI ds i with
      | some d => some (d, S)
      | none => none)
    | _, _ => (match x with
      | .ref l => (match dctO S l, keyD y with
        | some kvs, some k => (match findD kvs k with
          | some d => some (d, S)
          | none => none)
        | _, _ => none)
      | _ => none)
theorem atI_reps {H : Hp} {L : List Addr} {ds : List D} {vs : List V} {i : Int} {d : D} (r : Reps G H L ds vs) (h : atI ds i = some d) : ∃ v, atI vs i = some v ∧ Rep G H L d v := by
  unfold atI at h ⊢
  rw [← r.length]
  obtain ⟨j, h1, h2⟩ := Option.bind_eq_some_iff.mp h
  obtain ⟨v, h3, h4⟩ := r.get h2
  exact ⟨v, by rw [h1]; exact h3, h4⟩
def rIxDk : R2 := fun x y H Q => ∃ a v, x = .ref a ∧ DGet H a y (some v) ∧ Q v H
theorem ix_dk (hu : X.A.units + 1 < cLine) : IxR X rIxDk := by
  intro value slice pins s σ H x y v u Q I rx ry h hs
  obtain ⟨a, w, rfl, g, q⟩ := h
  cases rx
  have ht : s.TypeIs (.ref a) "dict" := by
    rcases g with ⟨kvs, k, e, _⟩ | ⟨kvs, k, b, e, _⟩
    · obtain ⟨_, _, vs, _, o, es, ep, h1, h2, _⟩ := dk_rd I.hok e
      exact ⟨o, h1, h2.1⟩
    · obtain ⟨_, _, xs, _, o, es, ep, h1, h2, _⟩ := dt_rd I.hok e
      exact ⟨o, h1, h2.1⟩
  exact tail_any ht PySem.F.slot_dict_getitem.lookup (d_getItem hu I g ry fun w' s' I' rw' => ⟨w, H, I', rw', q⟩) hs
def rIxAll (K : PySem.W.Frag) : R2 := fun x y H Q => rIx K x y H Q ∨ rIxDk x y H Q
theorem od_idx : OpD G (rIxAll G.K) idxD := by
  intro H L S x y v u d S' Q s rx ry h k
  unfold idxD at h
  split at h
  · rename_i z
    split at h
    · rename_i i
      split at h
      · rename_i hz
        split at h
        · rename_i c hc
          cases h
          cases rx
          cases ry
          exact .inl (.inr (.inr ⟨_, _, c, rfl, rfl, hz, hc, k _ H L rfl s (Ext.refl H L)⟩))
        · cases h
      · cases h
    · cases h
  · split at h
    · rename_i ds i hs
      split at h
      · rename_i e he
        cases h
        cases ry
        obtain ⟨a, vs, rfl, hq, r⟩ := seqO_at s rx hs
        obtain ⟨w, h1, h2⟩ := atI_reps r he
        have q := k w H L h2 s (Ext.refl H L)
        rcases hq with hq | hq
        · exact .inl (.inl ⟨a, vs, _, w, rfl, rfl, hq, h1, q⟩)
        · exact .inl (.inr (.inl ⟨a, vs, _, w, rfl, rfl, hq, h1, q⟩))
      · cases h
    · split at h
      · rename_i l _
        split at h
        · rename_i kvs kk h1 h2
          split at h
          · rename_i e he
            cases h
            obtain ⟨a, rfl, ha⟩ := rx
            obtain ⟨kv, e1, r1⟩ := s.dctAt ha h1
            have := keyD_rep ry h2
            subst this
            rcases findD_val r1 (k := kk) with ⟨z1, z2⟩ | ⟨d', w, z1, z2, z3⟩
            · rw [z1] at he; cases he
            · rw [z1] at he
              cases he
              exact .inr ⟨a, w, rfl, by rw [← z2]; exact DGet.k e1, k w H L z3 s (Ext.refl H L)⟩
          · cases h
        · cases h
      · cases h
  done
theorem re_idx {a b : Expr} {ma mb : ME} {pos : Pos} (c : Cc G X W) (ha : RE G X W a ma) (hb : RE G X W b mb) (hs : PlainIx b := by intro _ _; rfl) : RE G X W (.Subscript a b pos) (binM idxD ma mb) := by
  obtain ⟨_, a1, a2⟩ := ha
  obtain ⟨_, b1, b2⟩ := hb
  refine ⟨_, pe_ix (IxR.or ix_seq (ix_dk (by have := c.hu; omega))) a1 b1 hs, rdOp ?_ a2 b2⟩
  rw [c.K]
  exact od_idx
end
end Td

set_option Elab.async false
set_option linter.all false
set_option maxRecDepth 100000
set_option maxHeartbeats 1000000
/-! slices, stores, methods of lists, calls of what is built in, attributes -/
namespace Td
open PySem PySem.Spec PyProof.Rows L2 RZ
section
variable {G : Gx} {X : Cx} {W : WX}
theorem newTup {H : Hp} {L : List Addr} {S : Sto} {p : Addr} {ds : List D} {vs : List V} (s : Sok G H L S) (r : Reps G H L ds vs) (hp : H p = none) :
    Rep G (upd H p (.tup vs)) L (.tup ds) (.ref p) ∧ Sok G (upd H p (.tup vs)) L S ∧ Ext H L (upd H p (.tup vs)) L :=
  ⟨⟨p, vs, rfl, .inl (.inl upd_same), r.ext (Ext.upd_new hp) s.noTup⟩, s.new hp, Ext.upd_new hp⟩
/-- a place's list changed -/
theorem setLst {H : Hp} {L : List Addr} {S : Sto} {l : Nat} {a : Addr} {ds : List D} {vs : List V} (s : Sok G H L S) (ha : L[l]? = some a) (r : Reps G H L ds vs) :
    Sok G (upd H a (.lst vs)) L (S.set l (.lst ds)) ∧ Ext H L (upd H a (.lst vs)) L :=
  ⟨s.set ha _ ⟨vs, upd_same, r.ext (Ext.upd_at ha) s.noTup⟩, Ext.upd_at ha⟩
theorem setDct {H : Hp} {L : List Addr} {S : Sto} {l : Nat} {a : Addr} {ds : List (D × D)} {vs : List (Key × V)} (s : Sok G H L S) (ha : L[l]? = some a) (r : KReps G H L ds vs) :
    Sok G (upd H a (.dK vs)) L (S.set l (.dct ds)) ∧ Ext H L (upd H a (.dK vs)) L :=
  ⟨s.set ha _ ⟨vs, upd_same, r.ext (Ext.upd_at ha) s.noTup⟩, Ext.upd_at ha⟩

/-! ### slices -/
abbrev MO := En → Sto → Out (Option Int)
def noM : MO := fun _ S => some (.ok none, S)
def soM (a : ME) : MO := fun ρ S => bnd (a ρ S) fun x S1 => match x with
  | .int i => some (.ok (some i), S1)
  | _ => none
def Ko (G : Gx) (W : WX) (H : Hp) (L : List Addr) (σ : Sl) (Q : Option Int → Hp → Prop) (S' : Sto) : Res (Option Int) → Prop
  | .ok o => ∀ H' L', Sok G H' L' S' → Ext H L H' L' → Q o H'
  | .exn x => ∀ cls dx H' L', XRep G H' L' x cls dx → Sok G H' L' S' → Ext H L H' L' → W cls dx σ H'
def RdO (G : Gx) (W : WX) (t : TO) (m : MO) : Prop :=
  ∀ (σ : Sl) (H : Hp) (L : List Addr) (ρ : En) (S : Sto) (r : Res (Option Int)) (S' : Sto) (Q : Option Int → Hp → Prop), Sok G H L S → Eok G H L ρ σ → m ρ S = some (r, S') → Ko G W H L σ Q S' r → t σ H Q
structure RO (G : Gx) (X : Cx) (W : WX) (e : Option Expr) (m : MO) : Prop where
  ex : ∃ t, PO X e t ∧ RdO G W t m
theorem ro_none : RO G X W none noM := ⟨_, po_none, fun σ H L ρ S r S' Q s e hm k => by
  cases hm
  exact k H L s (Ext.refl _ _)⟩
theorem ro_some {e : Expr} {m : ME} (h : RE G X W e m) : RO G X W (some e) (soM m) := by
  obtain ⟨t, a1, a2⟩ := h
  refine ⟨_, po_some a1, fun σ H L ρ S r S' Q s e hm k => ?_⟩
  rcases bnd_some hm with ⟨x, S1, h1, h2⟩ | ⟨x, h1, rfl⟩
  · refine a2 σ H L ρ S _ S1 _ s e h1 fun v H1 La rv s1 e1 => ?_
    split at h2
    · cases h2
      cases rv
      exact ⟨_, rfl, k H1 La s1 e1⟩
    · cases h2
  · exact a2 σ H L ρ S _ S' (fun x H1 => ∃ i, x = .int i ∧ Q (some i) H1) s e h1 k
def cutD (xs : List D) (lo hi : Option Int) : List D := (xs.drop (HT.sIx xs.length 0 lo)).take (HT.sIx xs.length xs.length hi - HT.sIx xs.length 0 lo)
theorem Reps.cut {H : Hp} {L : List Addr} {ds : List D} {vs : List V} (r : Reps G H L ds vs) (lo hi : Option Int) : Reps G H L (cutD ds lo hi) (cutV vs lo hi) := by
  unfold cutD cutV
  rw [r.length]
  exact (r.drop _).take _
def sliD (x : D) (lo hi : Option Int) (S : Sto) : Option (D × Sto) := match x with
  | .tup ds => some (.tup (cutD ds lo hi), S)
  | _ => match seqO S x with
    | some ds => some (.ref S.length, S ++ [.lst (cutD ds lo hi)])
    | none => none
def rSlAll (K : PySem.W.Frag) : V → Option Int → Option Int → Hp → VK → Prop := fun x lo hi H Q => rSlL K x lo hi H Q ∨ rSlA K x lo hi H Q
def slM (o : ME) (lo hi : MO) : ME := fun ρ S => bnd (o ρ S) fun x S1 => bnd (lo ρ S1) fun l S2 => bnd (hi ρ S2) fun h S3 => match sliD x l h S3 with
  | some (d, S4) => some (.ok d, S4)
  | none => none
theorem cut_whole {ds : List D} {lo hi : Option Int} (h : HT.sIx ds.length 0 lo = 0 ∧ HT.sIx ds.length ds.length hi = ds.length) : cutD ds lo hi = ds := by
  unfold cutD
  rw [h.1, h.2]
  simp
theorem seqO_lst {H : Hp} {L : List Addr} {S : Sto} {d : D} {v : V} {ds : List D} (s : Sok G H L S) (r : Rep G H L d v) (hn : ∀ es, d ≠ .tup es) (h : seqO S d = some ds) : ∃ a vs, v = .ref a ∧ SqL G.K H a vs ∧ Reps G H L ds vs := by
  cases d with
  | tup es => exact absurd rfl (hn es)
  | rol es =>
    cases h
    obtain ⟨a, vs, rfl, h1, h2⟩ := r
    exact ⟨a, vs, rfl, h1.sqL, h2⟩
  | ref l =>
    obtain ⟨a, rfl, ha⟩ := r
    unfold seqO at h
    dsimp only at h
    split at h
    · rename_i es hS
      cases h
      obtain ⟨vs, h1, h2⟩ := s.lstAt ha hS
      exact ⟨a, vs, rfl, SqL.of h1, h2⟩
    · cases h
  | _ => cases h
theorem sliD_ok {H : Hp} {L : List Addr} {S : Sto} {x : D} {v : V} {lo hi : Option Int} {d : D} {S' : Sto} {Q : VK} (s : Sok G H L S) (rx : Rep G H L x v) (h : sliD x lo hi S = some (d, S'))
    (k : ∀ w H' L', Rep G H' L' d w → Sok G H' L' S' → Ext H L H' L' → Q w H') : rSlAll G.K v lo hi H Q := by
  unfold sliD at h
  split at h
  · rename_i ds
    cases h
    obtain ⟨a, vs, rfl, ha, ra⟩ := rx
    refine .inr ⟨a, vs, rfl, ha, fun hw => ?_, fun hw p hp => ?_⟩
    · rw [← ra.length] at hw
      rw [cut_whole hw] at k
      exact k _ H L ⟨a, vs, rfl, ha, ra⟩ s (Ext.refl _ _)
    · obtain ⟨q1, q2, q3⟩ := newTup s (ra.cut lo hi) hp
      exact k _ _ _ q1 q2 q3
  · split at h
    · rename_i hn _ ds hs
      cases h
      obtain ⟨a, vs, rfl, ha, ra⟩ := seqO_lst s rx (fun es e => by first | exact hn es e | (subst e; exact hn _ rfl)) hs
      refine .inl ⟨a, vs, rfl, ha, fun p hp => ?_⟩
      obtain ⟨q1, q2, q3⟩ := newLst s (ra.cut lo hi) hp
      exact k _ _ _ q1 q2 q3
    · cases h
theorem re_slice {e : Expr} {lo hi : Option Expr} {m : ME} {ml mh : MO} {p2 pos : Pos} (c : Cc G X W) (he : RE G X W e m) (hl : RO G X W lo ml) (hu : RO G X W hi mh) : RE G X W (.Subscript e (.Slice lo hi none p2) pos) (slM m ml mh) := by
  obtain ⟨te, a1, a2⟩ := he
  obtain ⟨tl, b1, b2⟩ := hl
  obtain ⟨th, c1, c2⟩ := hu
  have h := pe_slice (p2 := p2) (pos := pos) (SlR.or sl_list sl_tupA) a1 b1 c1
  rw [c.K] at h
  refine ⟨_, h, fun σ H L ρ S r S' Q s e hm k => ?_⟩
  rcases bnd_some hm with ⟨x, S1, h1, h2⟩ | ⟨x, h1, rfl⟩
  · refine a2 σ H L ρ S _ S1 _ s e h1 fun v H1 La rv s1 e1 => ?_
    have eo1 := e.ext e1 s.noTup
    rcases bnd_some h2 with ⟨l, S2, h3, h4⟩ | ⟨y, h3, rfl⟩
    · refine b2 σ H1 La ρ S1 _ S2 _ s1 eo1 h3 fun H2 Lb s2 e2 => ?_
      have eo2 := eo1.ext e2 s1.noTup
      rcases bnd_some h4 with ⟨u, S3, h5, h6⟩ | ⟨y, h5, rfl⟩
      · refine c2 σ H2 Lb ρ S2 _ S3 _ s2 eo2 h5 fun H3 Lc s3 e3 => ?_
        cases q : sliD x l u S3 with
        | none => rw [q] at h6; cases h6
        | some p =>
          obtain ⟨d, S4⟩ := p
          rw [q] at h6
          cases h6
          exact sliD_ok s3 ((rv.ext e2 s1.noTup).ext e3 s2.noTup) q fun w H' L' q1 q2 q3 => k w H' L' q1 q2 (((e1.trans e2).trans e3).trans q3)
      · exact c2 σ H2 Lb ρ S2 _ S' (fun u H3 => rSlAll G.K v l u H3 Q) s2 eo2 h5 fun cls dx H' L' xr sx ex => k cls dx H' L' xr sx ((e1.trans e2).trans ex)
    · exact b2 σ H1 La ρ S1 _ S' (fun l H2 => th σ H2 fun u H3 => rSlAll G.K v l u H3 Q) s1 eo1 h3 fun cls dx H' L' xr sx ex => k cls dx H' L' xr sx (e1.trans ex)
  · exact a2 σ H L ρ S _ S' (fun x H1 => tl σ H1 fun l H2 => th σ H2 fun u H3 => rSlAll G.K x l u H3 Q) s e h1 k

/-! ### o[i] = v -/
def putD (kvs : List (D × D)) (k : Key) (kd v : D) : List (D × D) := if (kvs.any fun p => decide (keyD p.1 = some k)) = true then kvs.map (fun p => if keyD p.1 = some k then (p.1, v) else p) else kvs ++ [(kd, v)]
def setID : D → D → D → Sto → Option Sto := fun o i v S => match o with
  | .ref l => (match S[l]? with
    | some (.lst xs) => (match i with
      | .int k => (match ixN xs.length k with
        | some j => some (S.set l (.lst (xs.set j v)))
        | none => none)
      | _ => none)
    | some (.dct kvs) => (match keyD i with
      | some k => if kvs.length < sizeLine then some (S.set l (.dct (putD kvs k i v))) else none
      | none => none)
    | _ => none)
  | _ => none
theorem KReps.length {H : Hp} {L : List Addr} : ∀ {kvs : List (D × D)} {kv : List (Key × V)}, KReps G H L kvs kv → kvs.length = kv.length
  | [], _, h => by rw [show _ = ([] : List (Key × V)) from h] <;> rfl
  | _ :: _, _, ⟨_, _, r, e, _, _, h⟩ => by rw [e, List.length_cons, List.length_cons, KReps.length h]
theorem KReps.any {H : Hp} {L : List Addr} {k : Key} : ∀ {kvs : List (D × D)} {kv : List (Key × V)}, KReps G H L kvs kv → (kvs.any fun p => decide (keyD p.1 = some k)) = kv.any fun p => decide (p.1 = k)
  | [], _, h => by rw [show _ = ([] : List (Key × V)) from h] <;> rfl
  | p :: _, _, ⟨k', _, r, e, h1, _, h⟩ => by
    rw [e, List.any_cons, List.any_cons, KReps.any h, h1]
    simp
theorem KReps.repl {H : Hp} {L : List Addr} {k : Key} {d : D} {v : V} (rd : Rep G H L d v) : ∀ {kvs : List (D × D)} {kv : List (Key × V)}, KReps G H L kvs kv → KReps G H L (kvs.map fun p => if keyD p.1 = some k then (p.1, d) else p) (kv.map fun p => if p.1 = k then (p.1, v) else p)
  | [], _, h => by rw [show _ = ([] : List (Key × V)) from h]; exact rfl
  | p :: ps, _, ⟨k', w, r, e, h1, h2, h⟩ => by
    rw [e, List.map_cons, List.map_cons, h1]
    by_cases q : k' = k
    · subst q
      simp only [if_true]
      exact ⟨k', v, _, rfl, h1, rd, KReps.repl rd h⟩
    · simp only [Option.some.injEq, if_neg q]
      exact ⟨k', w, _, rfl, h1, h2, KReps.repl rd h⟩
theorem KReps.snoc {H : Hp} {L : List Addr} {k : Key} {kd d : D} {v : V} (hk : keyD kd = some k) (rd : Rep G H L d v) : ∀ {kvs : List (D × D)} {kv : List (Key × V)}, KReps G H L kvs kv → KReps G H L (kvs ++ [(kd, d)]) (kv ++ [(k, v)])
  | [], _, h => by
    rw [show _ = ([] : List (Key × V)) from h]
    exact ⟨k, v, [], rfl, hk, rd, rfl⟩
  | p :: ps, _, ⟨k', w, r, e, h1, h2, h⟩ => by
    rw [e]
    exact ⟨k', w, _, rfl, h1, h2, KReps.snoc hk rd h⟩
theorem KReps.put {H : Hp} {L : List Addr} {k : Key} {kd d : D} {v : V} {kvs : List (D × D)} {kv : List (Key × V)} (r : KReps G H L kvs kv) (hk : keyD kd = some k) (rd : Rep G H L d v) : KReps G H L (putD kvs k kd d) (putK kv k v) := by
  unfold putD putK
  rw [r.any (k := k)]
  by_cases q : (kv.any fun p => decide (p.1 = k)) = true
  · rw [if_pos q, if_pos q]
    exact r.repl rd
  · rw [if_neg q, if_neg q]
    exact r.snoc hk rd
def rSetK : TSet := fun o i v H Q => ∃ a H', o = .ref a ∧ DPut H a i v H' ∧ Q H'
theorem set_k (hu : X.A.units + 1 < cLine) : PSet X rSetK := by
  intro pins s σ H o i v ov iv u Q I ro ri rv h
  obtain ⟨a, H', rfl, g, q⟩ := h
  cases ro
  exact d_setItem hu I g ri rv fun s' I' => ⟨H', I', q⟩
def rSetAll : TSet := fun o i v H Q => rSetL o i v H Q ∨ rSetK o i v H Q
theorem set_all (c : Cc G X W) : PSet X rSetAll := by
  intro pins s σ H o i v ov iv u Q I ro ri rv h
  rcases h with h | h
  · exact set_list pins s σ H o i v ov iv u Q I ro ri rv h
  · exact set_k (by have := c.hu; omega) pins s σ H o i v ov iv u Q I ro ri rv h
theorem sd_all : SetD G rSetAll setID := by
  intro H L S x y z o i v S' Q s rx ry rz h k
  unfold setID at h
  split at h
  · rename_i l
    obtain ⟨a, rfl, ha⟩ := rx
    split at h
    · rename_i xs hS
      split at h
      · rename_i kk
        split at h
        · rename_i j hj
          cases h
          cases ry
          obtain ⟨vs, h1, r1⟩ := s.lstAt ha hS
          obtain ⟨q1, q2⟩ := setLst s ha (r1.set rz j)
          exact .inl ⟨a, vs, kk, j, rfl, rfl, h1, by rw [← r1.length]; exact hj, k _ _ q1 q2⟩
        · cases h
      · cases h
    · rename_i kvs hS
      split at h
      · rename_i kk hk
        split at h
        · rename_i hz
          cases h
          have e := keyD_rep ry hk
          subst e
          obtain ⟨kv, h1, r1⟩ := s.ok l _ a hS ha
          obtain ⟨q1, q2⟩ := setDct s ha (r1.put hk rz)
          exact .inr ⟨a, _, rfl, DPut.k h1 (by rw [← r1.length]; exact hz), k _ _ q1 q2⟩
        · cases h
      · cases h
    · cases h
  · cases h
theorem rs_subK {o i v : Expr} {mo mi mv : ME} {pos pos' : Pos} (c : Cc G X W) (ho : RE G X W o mo) (hi : RE G X W i mi) (hv : RE G X W v mv)
    (hs : swapsWithSole [.Subscript o i pos'] v pos.line X.env = pure false := by rfl) (hw : swappedStores [.Subscript o i pos'] v X.env = pure none := by rfl)
    (h1 : (assignEach [.Subscript o i pos'] X.env).map (·.2) = [assign (.Subscript o i pos') X.env] := by rfl)
    (ha : ∀ v, assign (.Subscript o i pos') X.env v = (do
      let ov ← holding [v] (eval o X.env)
      let iv ← holding [v, ov] (eval i X.env)
      standAt pos'
      holding [v, ov, iv] (setItem ov iv v)
      release [v, ov, iv] []) := by intro _; rfl) : RS G X W (.Assign [.Subscript o i pos'] v pos) (subS setID mo mi mv) := rs_sub (set_all c) sd_all ho hi hv hs hw h1 ha

/-! ### methods of lists -/
def lstTy (x : D) (S : Sto) : Bool := match x with
  | .ref l => (match S[l]? with
    | some (.lst _) => true
    | _ => false)
  | _ => false
theorem ty_lst : TyD G "list" lstTy := by
  intro H L S x v s r h
  unfold lstTy at h
  split at h
  · obtain ⟨a, rfl, ha⟩ := r
    split at h
    · rename_i xs hS
      obtain ⟨vs, h1, _⟩ := s.lstAt ha hS
      exact .inl ⟨rfl, vs, SqL.of h1⟩
    · cases h
  · cases h
def lstO (S : Sto) (x : D) : Option (Nat × List D) := match x with
  | .ref l => (match S[l]? with
    | some (.lst xs) => some (l, xs)
    | _ => none)
  | _ => none
theorem lstO_at {H : Hp} {L : List Addr} {S : Sto} {x : D} {v : V} {l : Nat} {xs : List D} (s : Sok G H L S) (r : Rep G H L x v) (h : lstO S x = some (l, xs)) : ∃ a vs, v = .ref a ∧ L[l]? = some a ∧ H a = some (.lst vs) ∧ Reps G H L xs vs := by
  unfold lstO at h
  split at h
  · obtain ⟨a, rfl, ha⟩ := r
    split at h
    · rename_i ys hS
      cases h
      obtain ⟨vs, h1, h2⟩ := s.lstAt ha hS
      exact ⟨a, vs, rfl, ha, h1, h2⟩
    · cases h
  · cases h
def appD : D → List D → Sto → Option (D × Sto) := fun x as S => match lstO S x, as with
  | some (l, xs), [y] => if xs.length < sizeLine then some (.non, S.set l (.lst (xs ++ [y]))) else none
  | _, _ => none
theorem md_app : MtD G rAppend appD := by
  intro H L S x v as vs d S' Q s rx ras h k
  unfold appD at h
  split at h
  · rename_i l xs y hl
    split at h
    · rename_i hz
      cases h
      obtain ⟨a, ws, rfl, ha, h1, r1⟩ := lstO_at s rx hl
      obtain ⟨w, r, rfl, rw', r2⟩ := ras
      cases r2
      obtain ⟨q1, q2⟩ := setLst s ha (r1.append (Reps.one rw'))
      exact ⟨a, ws, w, rfl, rfl, h1, by rw [← r1.length]; exact hz, k _ _ _ rfl q1 q2⟩
    · cases h
  · cases h
def popD : D → List D → Sto → Option (D × Sto) := fun x as S => match lstO S x, as with
  | some (l, xs), [] => (match xs[xs.length - 1]? with
    | some y => some (y, S.set l (.lst xs.dropLast))
    | none => none)
  | some (l, xs), [.int i] => if -(2 ^ 63) ≤ i ∧ i < 2 ^ 63 then (match seqIndex? i xs.length with
    | some k => (match xs[k]? with
      | some y => some (y, S.set l (.lst (xs.eraseIdx k)))
      | none => none)
    | none => none) else none
  | _, _ => none
theorem md_pop : MtD G (fun x vs H Q => rPop x vs H Q ∨ rPopAt x vs H Q) popD := by
  intro H L S x v as vs d S' Q s rx ras h k
  unfold popD at h
  split at h
  · rename_i l xs hl
    split at h
    · rename_i y hy
      cases h
      obtain ⟨a, ws, rfl, ha, h1, r1⟩ := lstO_at s rx hl
      cases ras
      obtain ⟨w, hw, rw'⟩ := r1.get hy
      obtain ⟨q1, q2⟩ := setLst s ha r1.dropLast
      exact .inl ⟨a, ws, w, rfl, rfl, h1, by rw [← r1.length]; exact hw, k _ _ _ (rw'.ext q2 s.noTup) q1 q2⟩
    · cases h
  · rename_i l xs i hl
    split at h
    · rename_i hb
      split at h
      · rename_i kk hk
        split at h
        · rename_i y hy
          cases h
          obtain ⟨a, ws, rfl, ha, h1, r1⟩ := lstO_at s rx hl
          obtain ⟨w, r, rfl, e, r2⟩ := ras
          cases r2
          cases e
          obtain ⟨u, hu, ru⟩ := r1.get hy
          obtain ⟨q1, q2⟩ := setLst s ha (r1.eraseIdx kk)
          exact .inr ⟨a, ws, i, kk, u, rfl, rfl, h1, hb.1, hb.2, by rw [← r1.length]; exact hk, hu, k _ _ _ (ru.ext q2 s.noTup) q1 q2⟩
        · cases h
      · cases h
    · cases h
  · cases h
/-- xs.extend(a list or a tuple) -/
def rExtT (K : PySem.W.Frag) : V → List V → Hp → VK → Prop := fun x vs H Q => ∃ l b xs zs, x = .ref l ∧ vs = [.ref b] ∧ H l = some (.lst xs) ∧ SqT K H b zs ∧ xs.length + zs.length ≤ sizeLine ∧ Q .non (upd H l (.lst (xs ++ zs)))
theorem tup_plain {pins : List (Addr × Obj)} {σ : L2.St} {H : Hp} {s : Shared} {b : Addr} {zs : List V} (I : Inv X pins σ H s) (h : H b = some (.tup zs)) : ∃ its : List Value, Vals zs its ∧ ∃ o, s.heap.get? b = some o ∧ o.cls = .type "tuple" ∧ ∃ n, o.data = .seq its.toArray n := by
  obtain ⟨_, its, r, o, h1, h2, n, h3⟩ := (show ObjOk X.prog X.w H s.heap b (.tup zs) from I.hok b _ h)
  exact ⟨its, r, o, h1, h2, n, h3⟩
def extD : D → List D → Sto → Option (D × Sto) := fun x as S => match lstO S x, as with
  | some (l, xs), [y] => (match y with
    | .ref m => (match S[m]? with
      | some (.lst ys) => if xs.length + ys.length ≤ sizeLine then some (.non, S.set l (.lst (xs ++ ys))) else none
      | _ => none)
    | _ => none)
  | _, _ => none
theorem md_ext : MtD G rExtend extD := by
  intro H L S x v as vs d S' Q s rx ras h k
  unfold extD at h
  split at h
  · rename_i l xs y hl
    split at h
    · rename_i m
      split at h
      · rename_i ys hm
        split at h
        · rename_i hz
          cases h
          obtain ⟨a, ws, rfl, ha, h1, r1⟩ := lstO_at s rx hl
          obtain ⟨w, r, rfl, ⟨b, rfl, hb⟩, r2⟩ := ras
          cases r2
          obtain ⟨us, h3, r3⟩ := s.lstAt hb hm
          obtain ⟨q1, q2⟩ := setLst s ha (r1.append r3)
          exact ⟨a, b, ws, us, rfl, rfl, h1, h3, by rw [← r1.length, ← r3.length]; exact hz, k _ _ _ rfl q1 q2⟩
        · cases h
      · cases h
    · cases h
  · cases h
theorem mt_popAll : MtR X "list.pop" (fun x vs H Q => rPop x vs H Q ∨ rPopAt x vs H Q) := MtR.or mt_pop mt_popAt
theorem re_append {o e : Expr} {mo m : ME} {apos cpos : Pos} (c : Cc G X W) (ho : RE G X W o mo) (ha : RE G X W e m)
    (hbase : attributeBase o "append" X.env (eval o X.env) = eval o X.env := by rfl)
    (hfew : ((backTo cpos (starEach [e] X.env)).all (fun x => !x.1) && (backToKw cpos (keywordEach [] X.env)).all (fun x => x.1.isSome)
      && decide (([e] : List Expr).length + ([] : List Keyword).length + (if ([] : List Keyword).isEmpty then 0 else 1) < 30)) = true := by rfl)
    (hline : (apos.endLine == cpos.line) = true := by rfl) (hs : starEach [e] X.env = (false, eval e X.env) :: starEach [] X.env := by rfl) (hplain : (backTo cpos (starEach [] X.env)).any (·.1) = false := by rfl) :
    RE G X W (.Call (.Attribute o "append" apos) [e] [] cpos) (mtM lstTy appD mo (consA m nilA)) := re_bm c PySem.F.plainAttrs_list PySem.F.slot_list_append PySem.F.type_list_append mt_append ty_lst md_app ho (ra_cons ha ra_nil hs) hbase hfew hline hs hplain
theorem re_pop {o : Expr} {mo : ME} {apos cpos : Pos} (c : Cc G X W) (ho : RE G X W o mo)
    (hbase : attributeBase o "pop" X.env (eval o X.env) = eval o X.env := by rfl) (hline : (apos.endLine == cpos.line) = true := by rfl) :
    RE G X W (.Call (.Attribute o "pop" apos) [] [] cpos) (mtM lstTy popD mo nilA) := re_bm0 c PySem.F.plainAttrs_list PySem.F.slot_list_pop PySem.F.type_list_pop mt_popAll ty_lst md_pop ho hbase hline
theorem re_popAt {o e : Expr} {mo m : ME} {apos cpos : Pos} (c : Cc G X W) (ho : RE G X W o mo) (ha : RE G X W e m)
    (hbase : attributeBase o "pop" X.env (eval o X.env) = eval o X.env := by rfl)
    (hfew : ((backTo cpos (starEach [e] X.env)).all (fun x => !x.1) && (backToKw cpos (keywordEach [] X.env)).all (fun x => x.1.isSome)
      && decide (([e] : List Expr).length + ([] : List Keyword).length + (if ([] : List Keyword).isEmpty then 0 else 1) < 30)) = true := by rfl)
    (hline : (apos.endLine == cpos.line) = true := by rfl) (hs : starEach [e] X.env = (false, eval e X.env) :: starEach [] X.env := by rfl) (hplain : (backTo cpos (starEach [] X.env)).any (·.1) = false := by rfl) :
    RE G X W (.Call (.Attribute o "pop" apos) [e] [] cpos) (mtM lstTy popD mo (consA m nilA)) := re_bm c PySem.F.plainAttrs_list PySem.F.slot_list_pop PySem.F.type_list_pop mt_popAll ty_lst md_pop ho (ra_cons ha ra_nil hs) hbase hfew hline hs hplain

/-! ### calls -/
/-- how long a thing is -/
def lenO (S : Sto) (x : D) : Option Nat := match x with
  | .str z => if z.length ≤ sizeLine then some z.length else none
  | _ => (seqO S x).map List.length
def lenD : List D → Sto → Option (D × Sto) := fun as S => match as with
  | [x] => (lenO S x).map fun n => (.int (n : Nat), S)
  | _ => none
theorem cd_len : CallD G (fun xs H Q => ∃ x n, xs = [x] ∧ LenV G.K x H n ∧ Q (.int n) H) lenD := by
  intro H L S xs vs d S' Q s rs h k
  unfold lenD at h
  split at h
  · rename_i x
    obtain ⟨n, h1, h2⟩ := Option.map_eq_some_iff.mp h
    cases h2
    obtain ⟨v, r, rfl, rv, r2⟩ := rs
    cases r2
    refine ⟨v, n, rfl, ?_, k _ H L rfl s (Ext.refl _ _)⟩
    unfold lenO at h1
    split at h1
    · split at h1
      · rename_i hz
        cases h1
        cases rv
        exact ⟨hz, rfl⟩
      · cases h1
    · obtain ⟨ds, h3, rfl⟩ := Option.map_eq_some_iff.mp h1
      obtain ⟨a, vs, rfl, hq, r⟩ := seqO_at s rv h3
      rw [r.length]
      rcases hq with hq | hq
      · exact .inl ⟨vs, hq, rfl⟩
      · exact .inr ⟨vs, hq, rfl⟩
  · cases h
def listD : List D → Sto → Option (D × Sto) := fun as S => match as with
  | [x] => (seqO S x).map fun ds => (.ref S.length, S ++ [.lst ds])
  | _ => none
theorem cd_list : CallD G (fun xs H Q => ∃ p ys, xs = [.ref p] ∧ (SqL G.K H p ys ∨ SqT G.K H p ys) ∧ ∀ l, H l = none → Q (.ref l) (upd H l (.lst ys))) listD := by
  intro H L S xs vs d S' Q s rs h k
  unfold listD at h
  split at h
  · obtain ⟨ds, h1, h2⟩ := Option.map_eq_some_iff.mp h
    cases h2
    obtain ⟨v, r, rfl, rv, r2⟩ := rs
    cases r2
    obtain ⟨a, vs, rfl, hq, r⟩ := seqO_at s rv h1
    refine ⟨a, vs, rfl, hq, fun p hp => ?_⟩
    obtain ⟨q1, q2, q3⟩ := newLst s r hp
    exact k _ _ _ q1 q2 q3
  · cases h
def tupleD : List D → Sto → Option (D × Sto) := fun as S => match as with
  | [x] => (seqO S x).map fun ds => (.tup ds, S)
  | _ => none
theorem cd_tuple : CallD G (fun xs H Q => ∃ p ys, xs = [.ref p] ∧ ((SqL G.K H p ys ∧ ∀ l, H l = none → Q (.ref l) (upd H l (.tup ys))) ∨ (SqT G.K H p ys ∧ Q (.ref p) H))) tupleD := by
  intro H L S xs vs d S' Q s rs h k
  unfold tupleD at h
  split at h
  · obtain ⟨ds, h1, h2⟩ := Option.map_eq_some_iff.mp h
    cases h2
    obtain ⟨v, r, rfl, rv, r2⟩ := rs
    cases r2
    obtain ⟨a, vs, rfl, hq, r⟩ := seqO_at s rv h1
    rcases hq with hq | hq
    · refine ⟨a, vs, rfl, .inl ⟨hq, fun p hp => ?_⟩⟩
      obtain ⟨q1, q2, q3⟩ := newTup s r hp
      exact k _ _ _ q1 q2 q3
    · exact ⟨a, vs, rfl, .inr ⟨hq, k _ H L ⟨a, vs, rfl, hq, r⟩ s (Ext.refl _ _)⟩⟩
  · cases h
def blsO : List D → Option (List Bool)
  | [] => some []
  | .bl b :: ds => (blsO ds).map (b :: ·)
  | _ :: _ => none
theorem blsO_vs {H : Hp} {L : List Addr} : ∀ {ds : List D} {vs : List V} {bs : List Bool}, Reps G H L ds vs → blsO ds = some bs → vs = bs.map V.bl
  | [], _, _, r, h => by
    cases h
    rw [show _ = ([] : List V) from r]
    rfl
  | d :: ds, _, _, ⟨v, r, e, r1, r2⟩, h => by
    cases d with
    | bl b =>
      obtain ⟨cs, h1, rfl⟩ := Option.map_eq_some_iff.mp h
      cases r1
      rw [e, blsO_vs r2 h1]
      rfl
    | _ => cases h
/-- the items of a list -/
def lO (S : Sto) (x : D) : Option (List D) := match x with
  | .rol ds => some ds
  | .ref l => (match S[l]? with
    | some (.lst ds) => some ds
    | _ => none)
  | _ => none
theorem lO_at {H : Hp} {L : List Addr} {S : Sto} {d : D} {v : V} {ds : List D} (s : Sok G H L S) (r : Rep G H L d v) (h : lO S d = some ds) : ∃ a vs, v = .ref a ∧ SqL G.K H a vs ∧ Reps G H L ds vs := by
  unfold lO at h
  split at h
  · cases h
    obtain ⟨a, vs, rfl, h1, h2⟩ := r
    exact ⟨a, vs, rfl, h1.sqL, h2⟩
  · obtain ⟨a, rfl, ha⟩ := r
    split at h
    · rename_i es hS
      cases h
      obtain ⟨vs, h1, h2⟩ := s.lstAt ha hS
      exact ⟨a, vs, rfl, SqL.of h1, h2⟩
    · cases h
  · cases h
def allD : List D → Sto → Option (D × Sto) := fun as S => match as with
  | [x] => ((lO S x).bind blsO).map fun bs => (.bl (bs.all id), S)
  | _ => none
def anyD : List D → Sto → Option (D × Sto) := fun as S => match as with
  | [x] => ((lO S x).bind blsO).map fun bs => (.bl (bs.any id), S)
  | _ => none
theorem cd_all : CallD G (rAll G.K) allD := by
  intro H L S xs vs d S' Q s rs h k
  unfold allD at h
  split at h
  · obtain ⟨bs, h1, h2⟩ := Option.map_eq_some_iff.mp h
    cases h2
    obtain ⟨ds, h3, h4⟩ := Option.bind_eq_some_iff.mp h1
    obtain ⟨v, r, rfl, rv, r2⟩ := rs
    cases r2
    obtain ⟨a, vs, rfl, hq, r⟩ := lO_at s rv h3
    have e := blsO_vs r h4
    subst e
    exact ⟨a, bs, rfl, hq, k _ H L rfl s (Ext.refl _ _)⟩
  · cases h
theorem cd_any : CallD G (rAny G.K) anyD := by
  intro H L S xs vs d S' Q s rs h k
  unfold anyD at h
  split at h
  · obtain ⟨bs, h1, h2⟩ := Option.map_eq_some_iff.mp h
    cases h2
    obtain ⟨ds, h3, h4⟩ := Option.bind_eq_some_iff.mp h1
    obtain ⟨v, r, rfl, rv, r2⟩ := rs
    cases r2
    obtain ⟨a, vs, rfl, hq, r⟩ := lO_at s rv h3
    have e := blsO_vs r h4
    subst e
    exact ⟨a, bs, rfl, hq, k _ H L rfl s (Ext.refl _ _)⟩
  · cases h
def absD : List D → Sto → Option (D × Sto) := fun as S => match as with
  | [.int i] => some (.int (if i < 0 then -i else i), S)
  | _ => none
theorem cd_abs : CallD G (fun xs H Q => ∃ i, xs = [.int i] ∧ Q (.int (if i < 0 then -i else i)) H) absD := by
  intro H L S xs vs d S' Q s rs h k
  unfold absD at h
  split at h
  · cases h
    obtain ⟨v, r, rfl, rv, r2⟩ := rs
    cases r2
    cases rv
    exact ⟨_, rfl, k _ H L rfl s (Ext.refl _ _)⟩
  · cases h
def intD : List D → Sto → Option (D × Sto) := fun as S => match as with
  | [.int i] => some (.int i, S)
  | _ => none
theorem cd_int : CallD G (fun xs H Q => (∃ i, xs = [.int i] ∧ Q (.int i) H) ∨ ∃ k, xs = [.bl k] ∧ Q (.int (if k then 1 else 0)) H) intD := by
  intro H L S xs vs d S' Q s rs h k
  unfold intD at h
  split at h
  · cases h
    obtain ⟨v, r, rfl, rv, r2⟩ := rs
    cases r2
    cases rv
    exact .inl ⟨_, rfl, k _ H L rfl s (Ext.refl _ _)⟩
  · cases h
def min2D : List D → Sto → Option (D × Sto) := fun as S => match as with
  | [.int i, .int j] => some (.int (if j < i then j else i), S)
  | _ => none
theorem cd_min2 : CallD G (fun xs H Q => ∃ i j, xs = [.int i, .int j] ∧ Q (.int (if j < i then j else i)) H) min2D := by
  intro H L S xs vs d S' Q s rs h k
  unfold min2D at h
  split at h
  · cases h
    obtain ⟨v, r, rfl, rv, v2, r3, rfl, rv2, r2⟩ := rs
    cases r2
    cases rv
    cases rv2
    exact ⟨_, _, rfl, k _ H L rfl s (Ext.refl _ _)⟩
  · cases h
def max2D : List D → Sto → Option (D × Sto) := fun as S => match as with
  | [.int i, .int j] => some (.int (if j > i then j else i), S)
  | _ => none
theorem cd_max2 : CallD G (fun xs H Q => ∃ i j, xs = [.int i, .int j] ∧ Q (.int (if j > i then j else i)) H) max2D := by
  intro H L S xs vs d S' Q s rs h k
  unfold max2D at h
  split at h
  · cases h
    obtain ⟨v, r, rfl, rv, v2, r3, rfl, rv2, r2⟩ := rs
    cases r2
    cases rv
    cases rv2
    exact ⟨_, _, rfl, k _ H L rfl s (Ext.refl _ _)⟩
  · cases h

/-! ### isinstance -/
/-- the name of a thing's type -/
def tyN (S : Sto) (x : D) : Option String := match x with
  | .non => some "NoneType"
  | .bl _ => some "bool"
  | .int _ => some "int"
  | .str _ => some "str"
  | .tup _ => some "tuple"
  | .rol _ => some "list"
  | .ref l => (match S[l]? with
    | some (.lst _) => some "list"
    | some (.dct _) => some "dict"
    | _ => none)
  | _ => none
theorem sqT_ty {H : Hp} {a : Addr} {vs : List V} (h : SqT G.K H a vs) : TyX G.K H (.ref a) (.type "tuple") := by
  rcases h with (h | ⟨o, h⟩) | h
  · exact .base (.tup h)
  · exact .fTuple h
  · obtain ⟨o, its, n, e, c, _⟩ := h
    exact .kTuple e c
theorem roL_ty {H : Hp} {a : Addr} {vs : List V} (h : RoL G.K H a vs) : TyX G.K H (.ref a) (.type "list") := by
  rcases h with ⟨o, h⟩ | ⟨o, its, n, e, c, _⟩
  · exact .base (.frz h)
  · exact .kList e c
theorem tyN_ok {H : Hp} {L : List Addr} {S : Sto} {x : D} {v : V} {n : String} (s : Sok G H L S) (r : Rep G H L x v) (h : tyN S x = some n) : TyX G.K H v (.type n) := by
  cases x with
  | non => cases h; cases r; exact .base .non
  | bl b => cases h; cases r; exact .base (.bl b)
  | int i => cases h; cases r; exact .base (.int i)
  | str z => cases h; cases r; exact .base (.str z)
  | tup ds => cases h; obtain ⟨a, vs, rfl, h1, _⟩ := r; exact sqT_ty h1
  | rol ds => cases h; obtain ⟨a, vs, rfl, h1, _⟩ := r; exact roL_ty h1
  | ref l =>
    obtain ⟨a, rfl, ha⟩ := r
    unfold tyN at h
    dsimp only at h
    split at h
    · rename_i xs hS
      cases h
      obtain ⟨vs, h1, _⟩ := s.lstAt ha hS
      exact .base (.lst h1)
    · rename_i kvs hS
      cases h
      obtain ⟨kv, h1, _⟩ := s.ok l _ a hS ha
      exact .base (.dK h1)
    · cases h
  | ty n => cases h
  | obj z => cases h
def tyNames : List String := ["NoneType", "bool", "int", "str", "tuple", "list", "dict"]
theorem tyN_in {S : Sto} {x : D} {n : String} (h : tyN S x = some n) : n ∈ tyNames := by
  unfold tyN at h
  split at h
  all_goals first
    | (cases h; unfold tyNames; simp)
    | (split at h <;> first | (cases h; unfold tyNames; simp) | cases h)
    | cases h
def isaB (a b : String) : Bool := a == b || (a == "bool" && b == "int")
theorem isa_ok : ∀ a ∈ tyNames, ∀ b ∈ tyNames, kitB a b = some (isaB a b) := by decide +kernel
/-- isinstance(x, T), isinstance(x, (T, ..)), T built in -/
def tysO : List D → Option (List String)
  | [] => some []
  | .ty n :: ds => if n ∈ tyNames then (tysO ds).map (n :: ·) else none
  | _ :: _ => none
def isiD : List D → Sto → Option (D × Sto) := fun as S => match as with
  | [x, .ty n] => if n ∈ tyNames then (tyN S x).map fun t => (.bl (isaB t n), S) else none
  | [x, .tup ts] => (match tyN S x, tysO ts with
    | some t, some ns => some (.bl (ns.any fun n => isaB t n), S)
    | _, _ => none)
  | _ => none
theorem kitAny_tys {K : PySem.W.Frag} {t : String} (ht : t ∈ tyNames) : ∀ ns : List String, (∀ n ∈ ns, n ∈ tyNames) → PySem.W.kitAny K (.type t) (ns.map Value.type) = some (ns.any fun n => isaB t n)
  | [], _ => rfl
  | n :: ns, h => by
    have h1 := kit_ty (K := K) (isa_ok t ht n (h n List.mem_cons_self))
    have h2 := kitAny_tys (K := K) ht ns fun m hm => h m (List.mem_cons_of_mem _ hm)
    rw [List.map_cons, List.any_cons]
    cases e : isaB t n with
    | true =>
      rw [e] at h1
      unfold PySem.W.kitAny
      rw [h1]
      rfl
    | false =>
      rw [e] at h1
      unfold PySem.W.kitAny
      rw [h1]
      exact h2
theorem tysO_vs {H : Hp} {L : List Addr} : ∀ {ds : List D} {vs : List V} {ns : List String}, Reps G H L ds vs → tysO ds = some ns → vs = ns.map V.ty ∧ ∀ n ∈ ns, n ∈ tyNames
  | [], _, _, r, h => by
    cases h
    rw [show _ = ([] : List V) from r]
    exact ⟨rfl, by simp⟩
  | d :: ds, _, _, ⟨v, r, e, r1, r2⟩, h => by
    cases d with
    | ty m =>
      unfold tysO at h
      split at h
      · rename_i hm
        obtain ⟨cs, h1, rfl⟩ := Option.map_eq_some_iff.mp h
        cases r1
        obtain ⟨q1, q2⟩ := tysO_vs r2 h1
        refine ⟨by rw [e, q1]; rfl, fun n hn => ?_⟩
        rcases List.mem_cons.mp hn with z | z
        · rw [z]; exact hm
        · exact q2 n z
      · cases h
    | _ => cases h
theorem pairedTy : ∀ ns : List String, Paired ClsV (ns.map V.ty) (ns.map Value.type)
  | [] => .nil
  | n :: ns => .cons (.ty n) (pairedTy ns)
theorem cd_isi : CallD G (fun xs H Q => rIsi G.K xs H Q ∨ (∃ (x : V) (tp : Addr) (cs : List V) (t : Value) (us : List Value) (b : Bool), xs = [x, .ref tp] ∧ SqT G.K H tp cs ∧ Paired ClsV cs us ∧ TyX G.K H x t ∧ PySem.W.kitAny G.K t us = some b ∧ Q (.bl b) H)) isiD := by
  intro H L S xs vs d S' Q s rs h k
  unfold isiD at h
  split at h
  · rename_i x n
    split at h
    · rename_i hn
      obtain ⟨t, h1, h2⟩ := Option.map_eq_some_iff.mp h
      cases h2
      obtain ⟨v, r, rfl, rv, v2, r3, rfl, rv2, r2⟩ := rs
      cases r2
      cases rv2
      exact .inl ⟨v, .ty n, .type t, .type n, isaB t n, rfl, .ty n, tyN_ok s rv h1, kit_ty (isa_ok t (tyN_in h1) n hn), k _ H L rfl s (Ext.refl _ _)⟩
    · cases h
  · rename_i x ts
    split at h
    · rename_i t ns h1 h2
      cases h
      obtain ⟨v, r, rfl, rv, v2, r3, rfl, ⟨a, ws, rfl, ha, rw'⟩, r2⟩ := rs
      cases r2
      obtain ⟨q1, q2⟩ := tysO_vs rw' h2
      subst q1
      exact .inr ⟨v, a, _, .type t, _, _, rfl, ha, pairedTy ns, tyN_ok s rv h1, kitAny_tys (tyN_in h1) ns q2, k _ H L rfl s (Ext.refl _ _)⟩
    · cases h
  · cases h
theorem call_isiAny : CallR X (.builtin "isinstance") (fun xs H Q => rIsi X.K xs H Q ∨ (∃ (x : V) (tp : Addr) (cs : List V) (t : Value) (us : List Value) (b : Bool), xs = [x, .ref tp] ∧ SqT X.K H tp cs ∧ Paired ClsV cs us ∧ TyX X.K H x t ∧ PySem.W.kitAny X.K t us = some b ∧ Q (.bl b) H)) := by
  intro pins s σ H xs us Q I r h
  rcases h with h | ⟨x, tp, cs, t, ws, b, rfl, hT, k, ty, e, q⟩
  · exact call_isi pins s σ H xs us Q I r h
  · obtain ⟨u1, u2, rfl, r1, r2⟩ := vals2 r
    cases (show u2 = Value.ref tp from r2)
    obtain ⟨P, Z, p, hx⟩ := kit_of I r1 ty
    obtain ⟨its, rv, pt, _⟩ := I.tuple hT
    obtain ⟨o, h1, h2, n, h3⟩ := pt
    have e3 := ClsV.all k rv
    subst e3
    obtain ⟨oc, od, dt, sl⟩ := o
    simp only at h2 h3
    subst h2 h3
    exact PySem.W.kia_tup Z I.kIn p h1 e hx fun tk => ⟨.bl b, H, I.tok tk, rfl, q⟩

/-! ### repr -/
def hasRef : D → Bool
  | .tup _ => true
  | .rol _ => true
  | .ref _ => true
  | _ => false
def reprD : List D → Sto → Option (D × Sto) := fun as S => match as with
  | [.int i] => if i.natAbs.log2 < 1920 then some (.str (toString i), S) else none
  | [x] => if hasRef x = true then (match pyd S 12 x with
    | some d => if (d.showable && (!d.hasDict && (decide (d.shown.length ≤ sizeLine) && decide (d.depth < 64)))) = true then some (.str d.shown, S) else none
    | none => none) else none
  | _ => none
def rRepr (K : PySem.W.Frag) : List V → Hp → VK → Prop := fun xs H Q => ∃ a d, xs = [.ref a] ∧ Dp K H (.ref a) d ∧ d.showable = true ∧ d.hasDict = false ∧ d.shown.length ≤ sizeLine ∧ d.depth < 64 ∧ Q (.str d.shown) H
theorem call_reprAll (c : Cc G X W) : CallR X (.builtin "repr") (fun xs H Q => (∃ i, xs = [.int i] ∧ i.natAbs.log2 < 1920 ∧ Q (.str (toString i)) H) ∨ rRepr X.K xs H Q) := by
  intro pins s σ H xs us Q I r h
  rcases h with ⟨i, rfl, hz, q⟩ | ⟨a, d, rfl, hd, h1, h2, h3, h4, q⟩
  · obtain ⟨u, rfl, t, rfl⟩ := vals1 r
    exact PySem.P.repr_of_int hz ⟨.str _, H, I.tok _, ⟨_, rfl⟩, q⟩
  · obtain ⟨u, rfl, rx⟩ := vals1 r
    cases (show u = Value.ref a from rx)
    obtain ⟨as, rd⟩ := Dp.reads I d (.ref a) (.ref a) hd rfl
    exact PySem.repr_of_reads' rd h1 (fun z => by rw [h2] at z; cases z) c.gd (by have := c.hu; omega) (fun _ _ e => e) (fun h' u tk hk => ⟨.str d.shown, H, I.kept (t' := tk) hk, ⟨u, rfl⟩, q⟩) h3
theorem cd_repr : CallD G (fun xs H Q => (∃ i, xs = [.int i] ∧ i.natAbs.log2 < 1920 ∧ Q (.str (toString i)) H) ∨ rRepr G.K xs H Q) reprD := by
  intro H L S xs vs d S' Q s rs h k
  unfold reprD at h
  split at h
  · split at h
    · rename_i hz
      cases h
      obtain ⟨v, r, rfl, rv, r2⟩ := rs
      cases r2
      cases rv
      exact .inl ⟨_, rfl, hz, k _ H L rfl s (Ext.refl _ _)⟩
    · cases h
  · rename_i x _
    split at h
    · rename_i hr
      split at h
      · rename_i dd hd
        split at h
        · rename_i hc
          cases h
          rw [Bool.and_eq_true, Bool.and_eq_true, Bool.and_eq_true, Bool.not_eq_true'] at hc
          obtain ⟨v, r, rfl, rv, r2⟩ := rs
          cases r2
          have hD := pyd_dp s _ _ _ _ rv hd
          have hv : ∃ a, v = .ref a := by
            cases x with
            | tup ds => obtain ⟨a, vs, rfl, _⟩ := rv; exact ⟨a, rfl⟩
            | rol ds => obtain ⟨a, vs, rfl, _⟩ := rv; exact ⟨a, rfl⟩
            | ref l => obtain ⟨a, rfl, _⟩ := rv; exact ⟨a, rfl⟩
            | _ => cases hr
          obtain ⟨a, rfl⟩ := hv
          exact .inr ⟨a, dd, rfl, hD, hc.1, hc.2.1, of_decide_eq_true hc.2.2.1, of_decide_eq_true hc.2.2.2, k _ H L rfl s (Ext.refl _ _)⟩
        · cases h
      · cases h
    · cases h
  · cases h
end
end Td

set_option Elab.async false
set_option linter.all false
set_option maxRecDepth 100000
set_option maxHeartbeats 1000000
/-! attributes, comprehensions, dicts, len of an instance, calls by keywords -/
namespace Td
open PySem PySem.Spec PyProof.Rows L2 RZ
section
variable {G : Gx} {X : Cx} {W : WX}
/-- an expression that is never reached -/
theorem re_callB' : True := trivial
/-! ### calls, ready to use -/
theorem re_len {p pos : Pos} {e : Expr} {m : ME} (c : Cc G X W) (hm : X.mg "len" = none) (ha : RE G X W e m) (hg : Gl X "len" := by rfl)
    (he : starEach [e] X.env = (false, eval e X.env) :: starEach [] X.env := by rfl) (hpl : (backTo pos (starEach [] X.env)).any (·.1) = false := by rfl) : RE G X W (.Call (.Name "len" p) [e] [] pos) (cbM lenD (consA m nilA)) :=
  re_callB call_len (by rw [c.K]; exact cd_len) hm boot_len (ra_cons ha ra_nil he) hg (he := he) (hpl := hpl)
theorem re_abs {p pos : Pos} {e : Expr} {m : ME} (hm : X.mg "abs" = none) (ha : RE G X W e m) (hg : Gl X "abs" := by rfl)
    (he : starEach [e] X.env = (false, eval e X.env) :: starEach [] X.env := by rfl) (hpl : (backTo pos (starEach [] X.env)).any (·.1) = false := by rfl) : RE G X W (.Call (.Name "abs" p) [e] [] pos) (cbM absD (consA m nilA)) :=
  re_callB call_abs cd_abs hm boot_abs (ra_cons ha ra_nil he) hg (he := he) (hpl := hpl)
theorem re_all {p pos : Pos} {e : Expr} {m : ME} (c : Cc G X W) (hc : X.calm = true) (hm : X.mg "all" = none) (ha : RE G X W e m) (hg : Gl X "all" := by rfl)
    (he : starEach [e] X.env = (false, eval e X.env) :: starEach [] X.env := by rfl) (hpl : (backTo pos (starEach [] X.env)).any (·.1) = false := by rfl) : RE G X W (.Call (.Name "all" p) [e] [] pos) (cbM allD (consA m nilA)) :=
  re_callB (cr_all hc) (by rw [c.K]; exact cd_all) hm boot_all (ra_cons ha ra_nil he) hg (he := he) (hpl := hpl)
theorem re_any {p pos : Pos} {e : Expr} {m : ME} (c : Cc G X W) (hc : X.calm = true) (hm : X.mg "any" = none) (ha : RE G X W e m) (hg : Gl X "any" := by rfl)
    (he : starEach [e] X.env = (false, eval e X.env) :: starEach [] X.env := by rfl) (hpl : (backTo pos (starEach [] X.env)).any (·.1) = false := by rfl) : RE G X W (.Call (.Name "any" p) [e] [] pos) (cbM anyD (consA m nilA)) :=
  re_callB (cr_any hc) (by rw [c.K]; exact cd_any) hm boot_any (ra_cons ha ra_nil he) hg (he := he) (hpl := hpl)
theorem re_repr {p pos : Pos} {e : Expr} {m : ME} (c : Cc G X W) (hm : X.mg "repr" = none) (ha : RE G X W e m) (hg : Gl X "repr" := by rfl)
    (he : starEach [e] X.env = (false, eval e X.env) :: starEach [] X.env := by rfl) (hpl : (backTo pos (starEach [] X.env)).any (·.1) = false := by rfl) : RE G X W (.Call (.Name "repr" p) [e] [] pos) (cbM reprD (consA m nilA)) :=
  re_callB (call_reprAll c) (by rw [c.K]; exact cd_repr) hm boot_repr (ra_cons ha ra_nil he) hg (he := he) (hpl := hpl)
theorem re_isi {p pos : Pos} {e t : Expr} {m n : ME} (c : Cc G X W) (hm : X.mg "isinstance" = none) (ha : RE G X W e m) (hb : RE G X W t n) (hg : Gl X "isinstance" := by rfl)
    (he : starEach [e, t] X.env = (false, eval e X.env) :: starEach [t] X.env := by rfl) (he2 : starEach [t] X.env = (false, eval t X.env) :: starEach [] X.env := by rfl) (hpl : (backTo pos (starEach [t] X.env)).any (·.1) = false := by rfl) : RE G X W (.Call (.Name "isinstance" p) [e, t] [] pos) (cbM isiD (consA m (consA n nilA))) :=
  re_callB call_isiAny (by rw [c.K]; exact cd_isi) hm boot_isinstance (ra_cons ha (ra_cons hb ra_nil he2) he) hg (he := he) (hpl := hpl)
theorem re_min2 {p pos : Pos} {e t : Expr} {m n : ME} (hc : X.calm = true) (hm : X.mg "min" = none) (ha : RE G X W e m) (hb : RE G X W t n) (hg : Gl X "min" := by rfl)
    (he : starEach [e, t] X.env = (false, eval e X.env) :: starEach [t] X.env := by rfl) (he2 : starEach [t] X.env = (false, eval t X.env) :: starEach [] X.env := by rfl) (hpl : (backTo pos (starEach [t] X.env)).any (·.1) = false := by rfl) : RE G X W (.Call (.Name "min" p) [e, t] [] pos) (cbM min2D (consA m (consA n nilA))) :=
  re_callB (call_min2 hc) cd_min2 hm boot_min (ra_cons ha (ra_cons hb ra_nil he2) he) hg (he := he) (hpl := hpl)
theorem re_max2 {p pos : Pos} {e t : Expr} {m n : ME} (hc : X.calm = true) (hm : X.mg "max" = none) (ha : RE G X W e m) (hb : RE G X W t n) (hg : Gl X "max" := by rfl)
    (he : starEach [e, t] X.env = (false, eval e X.env) :: starEach [t] X.env := by rfl) (he2 : starEach [t] X.env = (false, eval t X.env) :: starEach [] X.env := by rfl) (hpl : (backTo pos (starEach [t] X.env)).any (·.1) = false := by rfl) : RE G X W (.Call (.Name "max" p) [e, t] [] pos) (cbM max2D (consA m (consA n nilA))) :=
  re_callB (call_max2 hc) cd_max2 hm boot_max (ra_cons ha (ra_cons hb ra_nil he2) he) hg (he := he) (hpl := hpl)
theorem re_list {p pos : Pos} {e : Expr} {m : ME} (c : Cc G X W) (hm : X.mg "list" = none) (ha : RE G X W e m) (hg : Gl X "list" := by rfl)
    (he : starEach [e] X.env = (false, eval e X.env) :: starEach [] X.env := by rfl) (hpl : (backTo pos (starEach [] X.env)).any (·.1) = false := by rfl) : RE G X W (.Call (.Name "list" p) [e] [] pos) (cbM listD (consA m nilA)) :=
  re_callTy call_list_of (by rw [c.K]; exact cd_list) hm boot_list (ra_cons ha ra_nil he) hg (he := he) (hpl := hpl)
theorem re_tuple {p pos : Pos} {e : Expr} {m : ME} (c : Cc G X W) (hm : X.mg "tuple" = none) (ha : RE G X W e m) (hg : Gl X "tuple" := by rfl)
    (he : starEach [e] X.env = (false, eval e X.env) :: starEach [] X.env := by rfl) (hpl : (backTo pos (starEach [] X.env)).any (·.1) = false := by rfl) : RE G X W (.Call (.Name "tuple" p) [e] [] pos) (cbM tupleD (consA m nilA)) :=
  re_callTy call_tuple_of (by rw [c.K]; exact cd_tuple) hm boot_tuple (ra_cons ha ra_nil he) hg (he := he) (hpl := hpl)
theorem re_intc {p pos : Pos} {e : Expr} {m : ME} (hm : X.mg "int" = none) (ha : RE G X W e m) (hg : Gl X "int" := by rfl)
    (he : starEach [e] X.env = (false, eval e X.env) :: starEach [] X.env := by rfl) (hpl : (backTo pos (starEach [] X.env)).any (·.1) = false := by rfl) : RE G X W (.Call (.Name "int" p) [e] [] pos) (cbM intD (consA m nilA)) :=
  re_callTy call_int1 cd_int hm boot_int (ra_cons ha ra_nil he) hg (he := he) (hpl := hpl)

/-! ### attributes -/
def fldM (C f : Str) (o : ME) : ME := fun ρ S => bnd (o ρ S) fun x S1 => match x with
  | .ref l => (match S1[l]? with
    | some (.ins C' fs) => if C' = C then (match fs.lookup f with
      | some d => some (.ok d, S1)
      | none => none) else none
    | _ => none)
  | _ => none
theorem re_fld {Cn f : Str} {o : Expr} {mo : ME} {pos : Pos} (c : Cc G X W) (ho : RE G X W o mo) (cl : Cls G.K (G.cad Cn)) (na : NoAttr G.K (G.cad Cn) f) (hb : attributeBase o f X.env (eval o X.env) = eval o X.env := by rfl) : RE G X W (.Attribute o f pos) (fldM Cn f mo) := by
  obtain ⟨t, a1, a2⟩ := ho
  refine ⟨_, pe_fld a1 hb, ?_⟩
  rw [c.K]
  intro σ H L ρ S r S' Q s e hm k
  rcases bnd_some hm with ⟨x, S1, h1, h2⟩ | ⟨x, h1, rfl⟩
  · refine a2 σ H L ρ S _ S1 _ s e h1 fun v H1 La rv s1 e1 => ?_
    split at h2
    · rename_i l
      obtain ⟨a, rfl, ha⟩ := rv
      split at h2
      · rename_i C' fs hS
        split at h2
        · rename_i hC
          subst hC
          split at h2
          · rename_i d hd
            cases h2
            obtain ⟨dx, gs, h3, h4⟩ := s1.ok l _ a hS ha
            rcases h4.look (f := f) with ⟨z1, z2⟩ | ⟨d', w, z1, z2, z3⟩
            · rw [z1] at hd; cases hd
            · rw [z1] at hd
              cases hd
              exact ⟨a, _, dx, gs, w, rfl, h3, cl, na, z2, k w H1 La z3 s1 e1⟩
          · cases h2
        · cases h2
      · cases h2
    · cases h2
  · exact a2 σ H L ρ S _ S' (fun x H1 => ∃ a C dx fs v, x = .ref a ∧ H1 a = some (.ins C dx fs) ∧ Cls G.K C ∧ NoAttr G.K C f ∧ fs.lookup f = some v ∧ Q v H1) s e h1 k
def putFD (f : Str) (v : D) : List (Str × D) → List (Str × D)
  | [] => [(f, v)]
  | (g, x) :: r => if g = f then (g, v) :: r else (g, x) :: putFD f v r
theorem FReps.length {H : Hp} {L : List Addr} : ∀ {fs : List (Str × D)} {gs : List (Str × V)}, FReps G H L fs gs → fs.length = gs.length
  | [], _, h => by rw [show _ = ([] : List (Str × V)) from h] <;> rfl
  | _ :: _, _, ⟨_, r, e, _, h⟩ => by rw [e, List.length_cons, List.length_cons, FReps.length h]
theorem FReps.put {H : Hp} {L : List Addr} {f : Str} {d : D} {v : V} (rd : Rep G H L d v) : ∀ {fs : List (Str × D)} {gs : List (Str × V)}, FReps G H L fs gs → FReps G H L (putFD f d fs) (putF f v gs)
  | [], _, h => by
    rw [show _ = ([] : List (Str × V)) from h]
    exact ⟨v, [], rfl, rd, rfl⟩
  | (g, x) :: fs, _, ⟨w, r, e, h1, h2⟩ => by
    rw [e]
    unfold putFD putF
    by_cases q : g = f
    · rw [if_pos q, if_pos q]
      exact ⟨v, r, rfl, rd, h2⟩
    · rw [if_neg q, if_neg q]
      exact ⟨w, _, rfl, h1, FReps.put rd h2⟩
def sfM (C f : Str) (o v : ME) : MS := withE v fun d => withE o fun x ρ S => match x with
  | .ref l => (match S[l]? with
    | some (.ins C' fs) => if C' = C ∧ fs.length < 1000 then some (.nx, ρ, S.set l (.ins C (putFD f d fs))) else none
    | _ => none)
  | _ => none
theorem rs_fld {Cn f : Str} {o v : Expr} {mo mv : ME} {pos pos' : Pos} (c : Cc G X W) (ho : RE G X W o mo) (hv : RE G X W v mv) (cl : Cls G.K (G.cad Cn)) (na : NoAttr G.K (G.cad Cn) f) (hs : swapsWith v (some (.Attribute o f pos')) pos.line X.env = pure false := by rfl) :
    RS G X W (.Assign [.Attribute o f pos'] v pos) (sfM Cn f mo mv) := by
  obtain ⟨to_, o1, o2⟩ := ho
  obtain ⟨tv, v1, v2⟩ := hv
  refine ⟨_, ps_fld o1 v1 hs, ?_⟩
  rw [c.K]
  intro σ H L ρ S f' ρ' S' Ds s e hm k
  rcases withE_some hm with ⟨d, S1, h1, h2⟩ | ⟨x, S1, h1, h2⟩
  · refine v2 σ H L ρ S _ S1 _ s e h1 fun v H1 La rv s1 e1 => ?_
    have eo1 := e.ext e1 s.noTup
    rcases withE_some h2 with ⟨x, S2, h3, h4⟩ | ⟨x, S2, h3, h4⟩
    · refine o2 σ H1 La ρ S1 _ S2 _ s1 eo1 h3 fun ov H2 Lb ro s2 e2 => ?_
      split at h4
      · rename_i l
        obtain ⟨a, rfl, ha⟩ := ro
        split at h4
        · rename_i C' fs hS
          split at h4
          · rename_i hC
            obtain ⟨rfl, hz⟩ := hC
            cases h4
            obtain ⟨dx, gs, h5, h6⟩ := s2.ok l _ a hS ha
            have xu : Ext H2 Lb (upd H2 a (.ins (G.cad C') dx (putF f v gs))) Lb := Ext.upd_at ha
            have q1 : Sok G (upd H2 a (.ins (G.cad C') dx (putF f v gs))) Lb (S2.set l (.ins C' (putFD f d fs))) := s2.set ha _ ⟨dx, _, upd_same, (h6.put (rv.ext e2 s1.noTup)).ext xu s2.noTup⟩
            exact ⟨a, _, dx, gs, rfl, h5, cl, na, by rw [← h6.length]; exact hz, k σ _ Lb ((eo1.ext e2 s1.noTup).ext xu s2.noTup) q1 ((e1.trans e2).trans xu)⟩
          · cases h4
        · cases h4
      · cases h4
    · cases h4
      exact o2 σ H1 La ρ S1 _ _ (fun x H2 => ∃ a C dx fs, x = .ref a ∧ H2 a = some (.ins C dx fs) ∧ Cls G.K C ∧ NoAttr G.K C f ∧ fs.length < 1000 ∧ Ds.nx σ (upd H2 a (.ins C dx (putF f v fs)))) s1 eo1 h3 fun cls dx H' L' xr sx ex => k cls dx σ H' L' xr (eo1.ext ex s1.noTup) sx (e1.trans ex)
  · cases h2
    exact v2 σ H L ρ S _ _ (fun y H1 => to_ σ H1 fun x H2 => ∃ a C dx fs, x = .ref a ∧ H2 a = some (.ins C dx fs) ∧ Cls G.K C ∧ NoAttr G.K C f ∧ fs.length < 1000 ∧ Ds.nx σ (upd H2 a (.ins C dx (putF f y fs)))) s e h1 fun cls dx H' L' xr sx ex => k cls dx σ H' L' xr (e.ext ex s.noTup) sx ex

/-! ### comprehensions -/
/-- the context of a comprehension's parts -/
theorem Cc.blk (c : Cc G X W) (s : Shared) (H : Hp) (scope : Scope) (C : Addr) (cl : List (Str × Addr)) (fp : List Addr) : True := trivial
theorem re_lc {elt tg iter : Expr} {ifs : List Expr} {scope : Scope} {own : List (Str × Nat)} {pos : Pos} {mi : MI} {g : MG} {mt : MT} {me : ME} (c : Cc G X W) (hc : X.calm = true) (hN : X.N.Nodup) (hi : RI G X W tg iter mi) (ok : BlkOk X.N X.env.scope scope own)
    (hg : ∀ (s : Shared) (H : Hp) (C : Addr) (cl : List (Str × Addr)) (fp : List Addr), RGo G (X.blk s H scope (compEnvC scope cl C X.env) fp) (own.map (·.2)) tg g)
    (ht : ∀ (s : Shared) (H : Hp) (C : Addr) (cl : List (Str × Addr)) (fp : List Addr), Cc G (X.blk s H scope (compEnvC scope cl C X.env) fp) W0 → RTs G (X.blk s H scope (compEnvC scope cl C X.env) fp) ifs mt)
    (he : ∀ (s : Shared) (H : Hp) (C : Addr) (cl : List (Str × Addr)) (fp : List Addr), Cc G (X.blk s H scope (compEnvC scope cl C X.env) fp) W0 → RE G (X.blk s H scope (compEnvC scope cl C X.env) fp) W0 elt me)
    (hcb : ∀ (s : Shared) (H : Hp) (C : Addr) (cl : List (Str × Addr)) (fp : List Addr), Cc G (X.blk s H scope (compEnvC scope cl C X.env) fp) W0)
    (hs : ∀ x, foldedSetIterable iter X.env x = pure x := by intro _; rfl) : RE G X W (.ListComp elt [⟨tg, iter, ifs, 0⟩] scope pos) (lcM mi (own.map (·.2)) g mt me) := by
  obtain ⟨ti, i1, i2⟩ := hi
  exact ⟨_, pe_lc hc hN i1 ok (fun s H C cl fp => (hg s H C cl fp).run) (fun s H C cl fp => (ht s H C cl fp (hcb s H C cl fp)).run) (fun s H C cl fp => (he s H C cl fp (hcb s H C cl fp)).can) hs, rdLc i2⟩
theorem rs_setLc {i : Nat} {y : Str} {py : Pos} {elt tg iter : Expr} {ifs : List Expr} {scope : Scope} {own : List (Str × Nat)} {pos spos : Pos} {mi : MI} {g : MG} {mt : MT} {me : ME} (c : Cc G X W) (hc : X.calm = true) (hN : X.N.Nodup) (hy : X.N[i]? = some y) (hyl : X.env.scope.names.lookup y = some .local)
    (hsw : swapsWith (.ListComp elt [⟨tg, iter, ifs, 0⟩] scope pos) (some (.Name y py)) spos.line X.env = pure true) (hi : RI G X W tg iter mi) (ok : BlkOk X.N X.env.scope scope own)
    (hg : ∀ (s : Shared) (H : Hp) (C : Addr) (cl : List (Str × Addr)) (fp : List Addr), RGo G (X.blk s H scope (compEnvC scope cl C X.env) fp) (own.map (·.2)) tg g)
    (ht : ∀ (s : Shared) (H : Hp) (C : Addr) (cl : List (Str × Addr)) (fp : List Addr), Cc G (X.blk s H scope (compEnvC scope cl C X.env) fp) W0 → RTs G (X.blk s H scope (compEnvC scope cl C X.env) fp) ifs mt)
    (he : ∀ (s : Shared) (H : Hp) (C : Addr) (cl : List (Str × Addr)) (fp : List Addr), Cc G (X.blk s H scope (compEnvC scope cl C X.env) fp) W0 → RE G (X.blk s H scope (compEnvC scope cl C X.env) fp) W0 elt me)
    (hcb : ∀ (s : Shared) (H : Hp) (C : Addr) (cl : List (Str × Addr)) (fp : List Addr), Cc G (X.blk s H scope (compEnvC scope cl C X.env) fp) W0)
    (hs : ∀ x, foldedSetIterable iter X.env x = pure x := by intro _; rfl) : RS G X W (.Assign [.Name y py] (.ListComp elt [⟨tg, iter, ifs, 0⟩] scope pos) spos) (setS i (lcM mi (own.map (·.2)) g mt me)) := by
  obtain ⟨ti, i1, i2⟩ := hi
  exact ⟨_, ps_setLc hc hN hy hyl hsw i1 ok (fun s H C cl fp => (hg s H C cl fp).run) (fun s H C cl fp => (ht s H C cl fp (hcb s H C cl fp)).run) (fun s H C cl fp => (he s H C cl fp (hcb s H C cl fp)).can) hs, rdAsg (rdLc i2) (rdName i)⟩
end
end Td

set_option Elab.async false
set_option linter.all false
set_option maxRecDepth 100000
set_option maxHeartbeats 1000000
namespace Td
open PySem PySem.Spec PyProof.Rows L2 RZ
section
variable {G : Gx} {X : Cx} {W : WX}
theorem Cc.ofBlk (c : Cc G X W) (s : Shared) (H : Hp) (scope : Scope) (C : Addr) (cl : List (Str × Addr)) (fp : List Addr) : Cc G (X.blk s H scope (compEnvC scope cl C X.env) fp) W0 :=
  ⟨c.K, fun u s' ⟨_, _, _, _, _, _, _, _, _, _, _, _, _, _, _, _, w⟩ => w, c.gd, c.hu⟩
/-! ### what is never reached -/
def noM' : ME := fun _ _ => none
def noS : MS := fun _ _ => none
theorem re_never {e : Expr} : RE G X W e noM' := ⟨fun _ _ _ => False, ⟨fun _ _ _ _ _ _ h => h.elim⟩, fun _ _ _ _ _ _ _ _ _ _ h _ => by cases h⟩
theorem rs_never {s : Stmt} : RS G X W s noS := ⟨fun _ _ _ => False, ⟨fun _ _ _ _ _ _ h => h.elim⟩, fun _ _ _ _ _ _ _ _ _ _ _ h _ => by cases h⟩
theorem rss_never {s : List Stmt} : RSs G X W s noS := ⟨fun _ _ _ => False, ⟨fun _ _ _ _ _ _ h => h.elim⟩, fun _ _ _ _ _ _ _ _ _ _ _ h _ => by cases h⟩

/-! ### dicts -/
/-- a thing that is no place becomes one -/
theorem Sok.adoptC {H : Hp} {L : List Addr} {S : Sto} {a : Addr} {c : Cell} (s : Sok G H L S) (n : a ∉ L) (hc : CellOk G H L a c) : Sok G H (L ++ [a]) (S ++ [c]) := by
  have wk : Wk H L H (L ++ [a]) := ⟨⟨[a], rfl⟩, fun _ _ h _ => h⟩
  have cell : ∀ {c : Cell} {b : Addr}, CellOk G H L b c → CellOk G H (L ++ [a]) b c := fun {c b} h => by
    cases c with
    | lst ys => obtain ⟨vs, h, r⟩ := h; exact ⟨vs, h, r.wk wk s.noTup⟩
    | dct ys => obtain ⟨vs, h, r⟩ := h; exact ⟨vs, h, r.wk wk s.noTup⟩
    | ins C fs => obtain ⟨dx, vs, h, r⟩ := h; exact ⟨dx, vs, h, r.wk wk s.noTup⟩
  refine ⟨?_, by simp [s.len], fun l c' b h1 h2 => ?_⟩
  · refine List.nodup_append.mpr ⟨s.nd, List.nodup_cons.mpr ⟨by simp, List.nodup_nil⟩, fun x hx y hy => ?_⟩
    rw [List.mem_singleton.mp hy]
    exact fun z => n (z ▸ hx)
  · by_cases hl : l < S.length
    · rw [List.getElem?_append_left hl] at h1
      rw [List.getElem?_append_left (by rw [s.len]; exact hl)] at h2
      exact cell (s.ok l c' b h1 h2)
    · rw [List.getElem?_append_right (by omega)] at h1
      rw [List.getElem?_append_right (by rw [s.len]; omega)] at h2
      rw [s.len] at h2
      cases e : l - S.length with
      | zero =>
        rw [e] at h1 h2
        simp at h1 h2
        subst h1 h2
        exact cell hc
      | succ n => rw [e] at h1; simp at h1
theorem Tk.dk {H : Hp} {L : List Addr} {a : Addr} {o : HO} {vs : List (Key × V)} (h : H a = some (.dK vs)) : Tk H L (upd H a o) L := ⟨⟨[], by simp⟩, fun b xs e => by rw [upd_ne (fun z => by rw [z, h] at e; cases e)]; exact e, fun b o u e => by rw [upd_ne (fun z => by rw [z, h] at e; cases e)]; exact e⟩
theorem Sok.offK {H : Hp} {L : List Addr} {S : Sto} {a : Addr} {o : HO} {vs : List (Key × V)} (s : Sok G H L S) (h : H a = some (.dK vs)) (n : a ∉ L) : Sok G (upd H a o) L S :=
  ⟨s.nd, s.len, fun l c b h1 h2 => (s.ok l c b h1 h2).tk (Tk.dk h) fun o' e => by rw [upd_ne (fun z => n (by rw [← z]; exact List.mem_of_getElem? h2))]; exact e⟩
theorem ext_adopt {H H2 : Hp} {L L2 : List Addr} {p : Addr} (x : Ext H L H2 L2) (hp : H p = none) : Ext H L H2 (L2 ++ [p]) := by
  refine ⟨?_, fun a ha na => ?_, x.keep⟩
  · obtain ⟨M, hM⟩ := x.pre
    exact ⟨M ++ [p], by rw [hM, List.append_assoc]⟩
  · rcases List.mem_append.mp ha with hz | hz
    · exact x.new a hz na
    · rw [List.mem_singleton.mp hz]; exact hp
theorem last_get {α : Type} {L : List α} {p : α} {n : Nat} (h : L.length = n) : (L ++ [p])[n]? = some p := by
  rw [← h, List.getElem?_append_right (Nat.le_refl _), Nat.sub_self]
  rfl
abbrev MP := List (ME × ME)
def pairM : MP → En → Sto → Out (List (D × D))
  | [], _, S => some (.ok [], S)
  | (a, b) :: r, ρ, S => bnd (a ρ S) fun x S1 => bnd (b ρ S1) fun y S2 => bnd (pairM r ρ S2) fun ps S3 => some (.ok ((x, y) :: ps), S3)
def Kp (G : Gx) (W : WX) (H : Hp) (L : List Addr) (σ : Sl) (Q : List (V × V) → Hp → Prop) (S' : Sto) : Res (List (D × D)) → Prop
  | .ok ds => ∀ ps H' L', Reps G H' L' (ds.map (·.1)) (ps.map (·.1)) → Reps G H' L' (ds.map (·.2)) (ps.map (·.2)) → Sok G H' L' S' → Ext H L H' L' → Q ps H'
  | .exn x => ∀ cls dx H' L', XRep G H' L' x cls dx → Sok G H' L' S' → Ext H L H' L' → W cls dx σ H'
def RdP (G : Gx) (W : WX) (t : List (TE × TE)) (m : MP) : Prop :=
  ∀ (σ : Sl) (H : Hp) (L : List Addr) (ρ : En) (S : Sto) (r : Res (List (D × D))) (S' : Sto) (Q : List (V × V) → Hp → Prop), Sok G H L S → Eok G H L ρ σ → pairM m ρ S = some (r, S') → Kp G W H L σ Q S' r → tPairs t σ H Q
structure RP (G : Gx) (X : Cx) (W : WX) (pos : Pos) (ks : List (Option Expr)) (vs : List Expr) (m : MP) : Prop where
  ex : ∃ t, PPs X pos ks vs t ∧ RdP G W t m
theorem rp_nil {pos : Pos} : RP G X W pos [] [] [] := ⟨_, pps_nil, fun σ H L ρ S r S' Q s e hm k => by
  cases hm
  exact k [] H L rfl rfl s (Ext.refl _ _)⟩
theorem rp_cons {pos : Pos} {k v : Expr} {ks : List (Option Expr)} {vs : List Expr} {mk mv : ME} {m : MP} (hk : RE G X W k mk) (hv : RE G X W v mv) (hr : RP G X W pos ks vs m) : RP G X W pos (some k :: ks) (v :: vs) ((mk, mv) :: m) := by
  obtain ⟨tk, a1, a2⟩ := hk
  obtain ⟨tv, b1, b2⟩ := hv
  obtain ⟨t, c1, c2⟩ := hr
  refine ⟨_, pps_cons a1 b1 c1, fun σ H L ρ S r S' Q s e hm kk => ?_⟩
  rcases bnd_some hm with ⟨x, S1, h1, h2⟩ | ⟨x, h1, rfl⟩
  · refine a2 σ H L ρ S _ S1 _ s e h1 fun xv H1 La rx s1 e1 => ?_
    have eo1 := e.ext e1 s.noTup
    rcases bnd_some h2 with ⟨y, S2, h3, h4⟩ | ⟨y, h3, rfl⟩
    · refine b2 σ H1 La ρ S1 _ S2 _ s1 eo1 h3 fun yv H2 Lb ry s2 e2 => ?_
      have eo2 := eo1.ext e2 s1.noTup
      rcases bnd_some h4 with ⟨ps, S3, h5, h6⟩ | ⟨y, h5, rfl⟩
      · cases h6
        exact c2 σ H2 Lb ρ S2 _ _ _ s2 eo2 h5 fun vs' H3 Lc q1 q2 s3 e3 => kk ((xv, yv) :: vs') H3 Lc ⟨_, _, rfl, (rx.ext e2 s1.noTup).ext e3 s2.noTup, q1⟩ ⟨_, _, rfl, ry.ext e3 s2.noTup, q2⟩ s3 ((e1.trans e2).trans e3)
      · exact c2 σ H2 Lb ρ S2 _ S' (fun ps H3 => Q ((xv, yv) :: ps) H3) s2 eo2 h5 fun cls dx H' L' xr sx ex => kk cls dx H' L' xr sx ((e1.trans e2).trans ex)
    · exact b2 σ H1 La ρ S1 _ S' (fun y H2 => tPairs t σ H2 fun ps H3 => Q ((xv, y) :: ps) H3) s1 eo1 h3 fun cls dx H' L' xr sx ex => kk cls dx H' L' xr sx (e1.trans ex)
  · exact a2 σ H L ρ S _ S' (fun x H1 => tv σ H1 fun y H2 => tPairs t σ H2 fun ps H3 => Q ((x, y) :: ps) H3) s e h1 kk
/-- the pairs put in one by one -/
def mergeD : List (D × D) → List (D × D) → Option (List (D × D))
  | kvs, [] => some kvs
  | kvs, p :: ps => match keyD p.1 with
    | some k => mergeD (putD kvs k p.1 p.2) ps
    | none => none
theorem mergeD_ok {H : Hp} {L : List Addr} : ∀ {ps : List (D × D)} {vs : List (V × V)} {kvs out : List (D × D)} {kv : List (Key × V)}, Reps G H L (ps.map (·.1)) (vs.map (·.1)) → Reps G H L (ps.map (·.2)) (vs.map (·.2)) → KReps G H L kvs kv → mergeD kvs ps = some out →
    ∃ ks : List (Key × V), vs = ks.map (fun q => (kV q.1, q.2)) ∧ ks.length = ps.length ∧ KReps G H L out (mergeK kv ks)
  | [], vs, kvs, out, kv, r1, r2, rk, h => by
    cases h
    have e : vs.map (·.1) = [] := r1
    have : vs = [] := List.map_eq_nil_iff.mp e
    subst this
    exact ⟨[], rfl, rfl, rk⟩
  | p :: ps, [], kvs, out, kv, r1, r2, rk, h => by
    obtain ⟨_, _, e, _⟩ := r1
    cases e
  | p :: ps, v :: vs, kvs, out, kv, ⟨a, ar, e1, r1, r1'⟩, ⟨b, br, e2, r2, r2'⟩, rk, h => by
    unfold mergeD at h
    split at h
    · rename_i k hk
      rw [List.map_cons] at e1 e2
      injection e1 with e1 e1'
      injection e2 with e2 e2'
      subst e1 e1' e2 e2'
      have ek := keyD_rep r1 hk
      obtain ⟨ks, q1, q2, q3⟩ := mergeD_ok r1' r2' (rk.put hk r2) h
      refine ⟨(k, v.2) :: ks, ?_, by rw [List.length_cons, List.length_cons, q2], q3⟩
      rw [List.map_cons, ← q1, ← ek]
    · cases h
def dspM (m : MP) : ME := fun ρ S => bnd (pairM m ρ S) fun ps S1 => if ps.length ≤ 15 then (match mergeD [] ps with
  | some kvs => some (.ok (.ref S1.length), S1 ++ [.dct kvs])
  | none => none) else none
theorem rdDsp {t : List (TE × TE)} {m : MP} (h : RdP G W t m) : RdE G W (tDisp t) (dspM m) := by
  intro σ H L ρ S z S' Q s e hm k p hp
  have xp : Ext H L (upd H p (.dK [])) L := Ext.upd_new hp
  have sp := s.new (o := .dK []) hp
  have ep := e.ext xp s.noTup
  have hn : p ∉ L := s.notin hp
  rcases bnd_some hm with ⟨ps, S1, h1, h2⟩ | ⟨x, h1, rfl⟩
  · refine h σ _ L ρ S _ S1 _ sp ep h1 fun vs H1 La r1 r2 s1 e1 => ?_
    have hp1 : H1 p = some (.dK []) := e1.keep p _ upd_same hn
    have pn : p ∉ La := fun z => by
      have := e1.new p z hn
      rw [upd_same] at this; cases this
    split at h2
    · rename_i hl
      split at h2
      · rename_i kvs hk
        cases h2
        obtain ⟨ks, q1, q2, q3⟩ := mergeD_ok r1 r2 (kvs := []) (kv := []) rfl hk
        refine ⟨hp1, ks, q1, by rw [q2]; exact hl, ?_⟩
        have xu : Tk H1 La (upd H1 p (.dK (mergeK [] ks))) La := Tk.dk hp1
        have s2 : Sok G (upd H1 p (.dK (mergeK [] ks))) La S1 := s1.offK hp1 pn
        refine k (.ref p) _ (La ++ [p]) ⟨p, rfl, last_get s1.len⟩ (s2.adoptC pn ⟨_, upd_same, q3.tk xu⟩) (ext_adopt ?_ hp)
        exact Ext.mut (xp.trans e1) hp
      · cases h2
    · cases h2
  · exact h σ _ L ρ S _ S' (fun ps H2 => H2 p = some (.dK []) ∧ ∃ kvs : List (Key × V), ps = kvs.map (fun kv => (kV kv.1, kv.2)) ∧ kvs.length ≤ 15 ∧ Q (.ref p) (upd H2 p (.dK (mergeK [] kvs)))) sp ep h1 fun cls dx H' L' xr sx ex => k cls dx H' L' xr sx (xp.trans ex)
theorem re_disp {pos : Pos} {ks : List (Option Expr)} {vs : List Expr} {m : MP} (h : RP G X W pos ks vs m) (hall : ks.all (·.isSome) = true := by rfl) (hl : ks.length = vs.length := by rfl) (h0 : ks ≠ [] := by simp) (h15 : ks.length ≤ 15 := by decide) : RE G X W (.Dict ks vs pos) (dspM m) := by
  obtain ⟨t, a, b⟩ := h
  exact ⟨_, pe_disp a hall hl h0 h15, rdDsp b⟩
/-- dict([(k, v), ..]) -/
def prsO : List D → Option (List (D × D))
  | [] => some []
  | .tup [k, v] :: r => (prsO r).map ((k, v) :: ·)
  | _ :: _ => none
def dictD : List D → Sto → Option (D × Sto) := fun as S => match as with
  | [x] => (match (lO S x).bind prsO with
    | some ps => (match mergeD [] ps with
      | some kvs => some (.ref S.length, S ++ [.dct kvs])
      | none => none)
    | none => none)
  | _ => none
theorem prsO_cons {d : D} {ds : List D} {ps : List (D × D)} (h : prsO (d :: ds) = some ps) : ∃ k w qs, d = .tup [k, w] ∧ prsO ds = some qs ∧ ps = (k, w) :: qs := by
  cases d with
  | tup es => match es, h with
    | [k, w], h =>
      obtain ⟨qs, h1, h2⟩ := Option.map_eq_some_iff.mp h
      exact ⟨k, w, qs, rfl, h1, h2.symm⟩
    | [], h => cases h
    | [_], h => cases h
    | _ :: _ :: _ :: _, h => cases h
  | _ => cases h
theorem prsO_at {K : PySem.W.Frag} (hK : K = G.K) {H : Hp} {L : List Addr} : ∀ {ds : List D} {vs : List V} {ps : List (D × D)} {kvs out : List (D × D)} {kv : List (Key × V)}, Reps G H L ds vs → prsO ds = some ps → KReps G H L kvs kv → mergeD kvs ps = some out →
    ∃ (as : List Addr) (ks : List (Key × V)), vs = as.map V.ref ∧ Paired (fun p kv => SqT K H p [kV kv.1, kv.2]) as ks ∧ KReps G H L out (mergeK kv ks)
  | [], _, ps, kvs, out, kv, r, h, rk, hm => by
    cases h
    cases hm
    rw [show _ = ([] : List V) from r]
    exact ⟨[], [], rfl, .nil, rk⟩
  | d :: ds, _, ps, kvs, out, kv, ⟨v, vr, e, r1, r2⟩, h, rk, hm => by
    obtain ⟨k, w, qs, rfl, h1, rfl⟩ := prsO_cons h
    obtain ⟨a, us, rfl, ha, ⟨kk, _, e1, rkk, ww, _, e2, rww, e3⟩⟩ := r1
    cases e3
    cases e2
    cases e1
    unfold mergeD at hm
    split at hm
    · rename_i key hk
      have ek := keyD_rep rkk hk
      subst ek
      obtain ⟨as, ks, q1, q2, q3⟩ := prsO_at hK r2 h1 (rk.put hk rww) hm
      subst e q1
      exact ⟨a :: as, (key, ww) :: ks, rfl, .cons (by rw [hK]; exact ha) q2, q3⟩
    · cases hm
theorem cd_dict : CallD G (fun xs H Q => ∃ (a : Addr) (ps : List Addr) (kvs : List (Key × V)), xs = [.ref a] ∧ SqL G.K H a (ps.map V.ref) ∧ Paired (fun p kv => SqT G.K H p [kV kv.1, kv.2]) ps kvs ∧
    ∀ p, H p = none → Q (.ref p) (upd H p (.dK (mergeK [] kvs)))) dictD := by
  intro H L S xs vs d S' Q s rs h k
  unfold dictD at h
  split at h
  · split at h
    · rename_i ps hps
      split at h
      · rename_i kvs hk
        cases h
        obtain ⟨ds, h3, h4⟩ := Option.bind_eq_some_iff.mp hps
        obtain ⟨v, r, rfl, rv, r2⟩ := rs
        cases r2
        obtain ⟨a, us, rfl, hq, r⟩ := lO_at s rv h3
        obtain ⟨as, ks, q1, q2, q3⟩ := prsO_at rfl r h4 (kvs := []) (kv := []) rfl hk
        subst q1
        refine ⟨a, as, ks, rfl, hq, q2, fun p hp => ?_⟩
        exact k _ _ (L ++ [p]) ⟨p, rfl, last_get s.len⟩ (s.push hp _ ⟨_, upd_same, q3.ext (Ext.push hp) s.noTup⟩) (Ext.push hp)
      · cases h
    · cases h
  · cases h
theorem re_dict {p pos : Pos} {e : Expr} {m : ME} (c : Cc G X W) (hc : X.calm = true) (hm : X.mg "dict" = none) (ha : RE G X W e m) (hg : Gl X "dict" := by rfl)
    (he : starEach [e] X.env = (false, eval e X.env) :: starEach [] X.env := by rfl) (hpl : (backTo pos (starEach [] X.env)).any (·.1) = false := by rfl) : RE G X W (.Call (.Name "dict" p) [e] [] pos) (cbM dictD (consA m nilA)) :=
  re_callTy (call_dictP hc) (by rw [c.K]; exact cd_dict) hm boot_dict (ra_cons ha ra_nil he) hg (he := he) (hpl := hpl)
/-! ### {k: v for ..} -/
def compK (src : Src) (g : MG) (t : MT) (ek ev : ME) (ρ : En) : Nat → Nat → Sto → List (D × D) → Option (List (D × D) × Sto)
  | 0, _, _, _ => none
  | n + 1, i, S, acc => match src.get S i with
    | some none => some (acc, S)
    | some (some d) => (match g d ρ S with
      | some (ρ1, S1) => (match t ρ1 S1 with
        | some (.ok true, S2) => (match ek ρ1 S2 with
          | some (.ok y, S3) => (match keyD y with
            | some k => (match ev ρ1 S3 with
              | some (.ok z, S4) => if acc.length < sizeLine then compK src g t ek ev ρ n (i + 1) S4 (putD acc k y z) else none
              | _ => none)
            | none => none)
          | _ => none)
        | some (.ok false, S2) => compK src g t ek ev ρ n (i + 1) S2 acc
        | _ => none)
      | none => none)
    | none => none
def dcM (m : MI) (own : List Nat) (g : MG) (t : MT) (ek ev : ME) : ME := fun ρ S => bnd (m ρ S) fun src S1 => match compK src g t ek ev (wipeD ρ own) (src.len S1 + 1) 0 S1 [] with
  | some (ds, S2) => some (.ok (.ref S2.length), S2 ++ [.dct ds])
  | none => none
theorem rdDc {wi : TI} {m : MI} {own : List Nat} {g : MG} {t : MT} {ek ev : ME} (hi : RdI G W wi m) : RdE G W (tDc wi (canG G g own) (canT G W0 t) (canE G W0 ek) (canE G W0 ev) own) (dcM m own g t ek ev) := by
  intro σ H L ρ S z S' Q s e hm k
  rcases bnd_some hm with ⟨src, S1, h1, h2⟩ | ⟨x, h1, rfl⟩
  · refine hi σ H L ρ S _ S1 _ s e h1 fun J H1 La J1 s1 x1 D hD => ?_
    cases q : compK src g t ek ev (wipeD ρ own) (src.len S1 + 1) 0 S1 [] with
    | none => rw [q] at h2; cases h2
    | some p =>
      obtain ⟨ds, S2⟩ := p
      rw [q] at h2
      cases h2
      have xD : Ext H1 La (upd H1 D (.dK [])) La := Ext.upd_new hD
      refine ⟨fun i n H2 => ∃ L2 S3 acc av, Sok G H2 L2 S3 ∧ D ∉ L2 ∧ H2 D = some (.dK av) ∧ KReps G H2 L2 acc av ∧ compK src g t ek ev (wipeD ρ own) n i S3 acc = some (ds, S2) ∧ Ext H1 La H2 L2, ⟨_, La, S1, [], [], s1.new hD, s1.notin hD, upd_same, rfl, q, xD⟩, ?_⟩
      rintro i n H2 ⟨L2, S3, acc, av, s2, nD, aD, rD, hl, x2⟩
      cases n with
      | zero => cases hl
      | succ n =>
        unfold compK at hl
        split at hl
        · rename_i q2
          cases hl
          have hHD : H D = none := by
            cases q3 : H D with
            | none => rfl
            | some o =>
              have hn : D ∉ L := fun z => nD ((x1.trans x2).mem z)
              have := x1.keep D o q3 hn
              rw [hD] at this
              cases this
          exact .inl ⟨J1 H2 L2 _ i none s2 x2 q2, k (.ref D) H2 (L2 ++ [D]) ⟨D, rfl, last_get s2.len⟩ (s2.adoptC nD ⟨av, aD, rD⟩) (ext_adopt (x1.trans x2) hHD)⟩
        · rename_i d q2
          obtain ⟨hgo, hy⟩ := J1 H2 L2 S3 i (some d) s2 x2 q2
          refine .inr ⟨hgo, fun H3 => ∃ L3 S4 acc av, Sok G H3 L3 S4 ∧ D ∉ L3 ∧ H3 D = some (.dK av) ∧ KReps G H3 L3 acc av ∧ compK src g t ek ev (wipeD ρ own) n (i + 1) S4 acc = some (ds, S2) ∧ Ext H1 La H3 L3, fun H3 h3 => ⟨n, Nat.lt_succ_self n, h3⟩, fun x H' y => ?_⟩
          obtain ⟨rx, s3, x3⟩ := hy x H' y
          split at hl
          · rename_i ρ4 S4 q4
            have e3 := ((e.ext x1 s.noTup).ext x2 s1.noTup).ext x3 s2.noTup
            refine ⟨L2, wipeD ρ own, S3, d, ρ4, S4, s3, e3.wipe own, rx, q4, fun σ4 H4 L4 e4 s4 x4 w4 => ⟨w4.trans (wipe_wipe own own σ fun _ h => h), ?_⟩⟩
            have x24 := (x2.trans x3).trans x4
            have a1 : H' D = some (.dK av) := x3.keep D _ aD nD
            have D4 : D ∉ L4 := fun hz => by
              have := x4.new D hz nD
              rw [a1] at this; cases this
            have aD4 : H4 D = some (.dK av) := x4.keep D _ a1 nD
            have rD4 : KReps G H4 L4 acc av := (rD.ext x3 s2.noTup).ext x4 s3.noTup
            split at hl
            · rename_i S5 q5
              refine ⟨L4, ρ4, S4, _, S5, s4, e4, q5, fun H5 L5 s5 x5 => ?_⟩
              refine iteT ?_
              have D5 : D ∉ L5 := fun hz => by
                have := x5.new D hz D4
                rw [aD4] at this; cases this
              have aD5 := x5.keep D _ aD4 D4
              split at hl
              · rename_i y S6 q6
                split at hl
                · rename_i kk hk
                  refine ⟨L5, ρ4, S5, _, S6, s5, e4.ext x5 s4.noTup, q6, fun yv H6 L6 ry s6 x6 => ?_⟩
                  have D6 : D ∉ L6 := fun hz => by
                    have := x6.new D hz D5
                    rw [aD5] at this; cases this
                  have aD6 := x6.keep D _ aD5 D5
                  split at hl
                  · rename_i z S7 q7
                    refine ⟨L6, ρ4, S6, _, S7, s6, (e4.ext x5 s4.noTup).ext x6 s5.noTup, q7, fun zv H7 L7 rz s7 x7 => ?_⟩
                    have D7 : D ∉ L7 := fun hz => by
                      have := x7.new D hz D6
                      rw [aD6] at this; cases this
                    have aD7 := x7.keep D _ aD6 D6
                    split at hl
                    · rename_i hsz
                      have ek := keyD_rep ry hk
                      have rD7 := ((rD4.ext x5 s4.noTup).ext x6 s5.noTup).ext x7 s6.noTup
                      have tk : Tk H7 L7 (upd H7 D (.dK (putK av kk zv))) L7 := Tk.dk aD7
                      exact ⟨av, kk, ek, aD7, by rw [← rD7.length]; exact hsz, L7, S7, _, _, s7.offK aD7 D7, D7, upd_same, (rD7.put hk rz).tk tk, hl, (((x24.trans x5).trans x6).trans x7).mut hD⟩
                    · cases hl
                  · cases hl
                · cases hl
              · cases hl
            · rename_i S5 q5
              refine ⟨L4, ρ4, S4, _, S5, s4, e4, q5, fun H5 L5 s5 x5 => ?_⟩
              refine iteF ?_
              have D5 : D ∉ L5 := fun hz => by
                have := x5.new D hz D4
                rw [aD4] at this; cases this
              exact ⟨L5, S5, acc, av, s5, D5, x5.keep D _ aD4 D4, rD4.ext x5 s4.noTup, hl, x24.trans x5⟩
            · cases hl
          · cases hl
        · cases hl
  · exact hi σ H L ρ S _ S' (fun J H1 => ∀ D, H1 D = none → ∃ W : Nat → Nat → Hp → Prop, (∃ m, W 0 m (upd H1 D (.dK []))) ∧ ∀ i m H, W i m H →
      (J.stop i H ∧ Q (.ref D) H) ∨ (J.go i H ∧ ∃ Nx : Hp → Prop, (∀ H', Nx H' → ∃ m', m' < m ∧ W (i + 1) m' H') ∧ ∀ x H', J.yld i H x H' → canG G g own x (wipe σ own) H' fun σ2 H2 => wipe σ2 own = wipe σ own ∧ canT G W0 t σ2 H2 fun b H3 =>
        if b = true then canE G W0 ek σ2 H3 fun y H4 => canE G W0 ev σ2 H4 fun z H5 => ∃ kvs k, y = kV k ∧ H5 D = some (.dK kvs) ∧ kvs.length < sizeLine ∧ Nx (upd H5 D (.dK (putK kvs k z))) else Nx H3)) s e h1 k
theorem re_dc {kx vx tg iter : Expr} {ifs : List Expr} {scope : Scope} {own : List (Str × Nat)} {pos : Pos} {mi : MI} {g : MG} {mt : MT} {mk mv : ME} (c : Cc G X W) (hc : X.calm = true) (hN : X.N.Nodup) (hi : RI G X W tg iter mi) (ok : BlkOk X.N X.env.scope scope own)
    (hg : ∀ (s : Shared) (H : Hp) (C : Addr) (cl : List (Str × Addr)) (fp : List Addr), RGo G (X.blk s H scope (compEnvC scope cl C X.env) fp) (own.map (·.2)) tg g)
    (ht : ∀ (s : Shared) (H : Hp) (C : Addr) (cl : List (Str × Addr)) (fp : List Addr), Cc G (X.blk s H scope (compEnvC scope cl C X.env) fp) W0 → RTs G (X.blk s H scope (compEnvC scope cl C X.env) fp) ifs mt)
    (hk : ∀ (s : Shared) (H : Hp) (C : Addr) (cl : List (Str × Addr)) (fp : List Addr), Cc G (X.blk s H scope (compEnvC scope cl C X.env) fp) W0 → RE G (X.blk s H scope (compEnvC scope cl C X.env) fp) W0 kx mk)
    (he : ∀ (s : Shared) (H : Hp) (C : Addr) (cl : List (Str × Addr)) (fp : List Addr), Cc G (X.blk s H scope (compEnvC scope cl C X.env) fp) W0 → RE G (X.blk s H scope (compEnvC scope cl C X.env) fp) W0 vx mv)
    (hs : ∀ x, foldedSetIterable iter X.env x = pure x := by intro _; rfl) : RE G X W (.DictComp kx vx [⟨tg, iter, ifs, 0⟩] scope pos) (dcM mi (own.map (·.2)) g mt mk mv) := by
  obtain ⟨ti, i1, i2⟩ := hi
  exact ⟨_, pe_dc hc hN i1 ok (fun s H C cl fp => (hg s H C cl fp).run) (fun s H C cl fp => (ht s H C cl fp (c.ofBlk s H scope C cl fp)).run) (fun s H C cl fp => (hk s H C cl fp (c.ofBlk s H scope C cl fp)).can) (fun s H C cl fp => (he s H C cl fp (c.ofBlk s H scope C cl fp)).can) hs, rdDc i2⟩
/-! ### list(range(n)) -/
def rgD (a b : Int) : List D := (List.range (b - a).toNat).map fun i => .int (a + (i : Nat))
theorem rg_reps {H : Hp} {L : List Addr} (a b : Int) : Reps G H L (rgD a b) (rgV a b) := by
  unfold rgD rgV
  generalize (b - a).toNat = n
  have : ∀ l : List Nat, Reps G H L (l.map fun i => D.int (a + (i : Nat))) (l.map fun i => V.int (a + (i : Nat))) := by
    intro l
    induction l with
    | nil => exact rfl
    | cons x l ih => exact ⟨_, _, rfl, rfl, ih⟩
  exact this _
def lrM (m : ME) : ME := fun ρ S => bnd (m ρ S) fun x S1 => match x with
  | .int n => if 0 ≤ n ∧ n ≤ 16777216 then some (.ok (.ref S1.length), S1 ++ [.lst (rgD 0 n)]) else none
  | _ => none
theorem re_lr {e : Expr} {m : ME} {p p2 pos pos2 : Pos} (hc : X.calm = true) (hm : X.mg "list" = none) (hm2 : X.mg "range" = none) (he : RE G X W e m) (hg : Gl X "list" := by rfl) (hg2 : Gl X "range" := by rfl)
    (na : starEach [e] X.env = (false, eval e X.env) :: starEach [] X.env := by rfl) (na2 : starEach [.Call (.Name "range" p2) [e] [] pos2] X.env = (false, eval (.Call (.Name "range" p2) [e] [] pos2) X.env) :: starEach [] X.env := by rfl) :
    RE G X W (.Call (.Name "list" p) [.Call (.Name "range" p2) [e] [] pos2] [] pos) (lrM m) := by
  obtain ⟨t, a1, a2⟩ := he
  refine ⟨_, pe_listRg hc hg hm (prg_1 (p := p2) (pos := pos2) hg2 hm2 a1 na) na2, fun σ H L ρ S r S' Q s e hm k => ?_⟩
  rcases bnd_some hm with ⟨x, S1, h1, h2⟩ | ⟨x, h1, rfl⟩
  · refine a2 σ H L ρ S _ S1 _ s e h1 fun v H1 La rv s1 e1 => ?_
    split at h2
    · rename_i n
      split at h2
      · rename_i hn
        cases h2
        cases rv
        refine ⟨n, rfl, RgOk.of_le (by omega) hn.2 (by omega) hn.1, fun p hp => ?_⟩
        obtain ⟨q1, q2, q3⟩ := newLst s1 (rg_reps (G := G) (H := H1) (L := La) 0 n) hp
        exact k _ _ _ q1 q2 (e1.trans q3)
      · cases h2
    · cases h2
  · exact a2 σ H L ρ S _ S' (fun x H1 => ∃ n, x = .int n ∧ RgOk 0 n ∧ ∀ q, H1 q = none → Q (.ref q) (upd H1 q (.lst (rgV 0 n)))) s e h1 k
/-! ### len(x), x an instance with its own __len__ -/
theorem len_own {prog : Program} {w : World} {A : Around} {E : Value → Shared → Prop} {s : Shared} {K : PySem.W.Frag} {x C f : Addr} {ox : Obj} {od : Option Obj} {Q : Value → Shared → Prop} (X₀ : K.In s.heap) (I : PySem.W.InstAt s.heap x ox C od) (hs : PySem.W.findIn K (.ref C) "__len__" = some (some (.ref f))) (hf : PySem.W.isFn K (.ref f) = true)
    (h : wpAny (model prog w) A.in1 (call (.ref f) [.ref x]) (PySem.W.LenBack Q) E s) : wpAny (model prog w) A (call (.builtin "len") [.ref x]) Q E s := by
  refine Calls.call_function_entry kind_len plain_len entry_len (args_len1 _) ?_
  unfold Builtin.«len»
  refine wpAny_bind (m := oneArg "len" _) (wpAny_pure ?_)
  refine wpAny_bind (m := callSpecial? (.ref x) (Str.ofString "__len__")) (PySem.W.special_fn X₀ I hs (beq_iff_eq.mp hf) (wpAny_mono h (fun r s' hr => ?_) fun _ _ y => y))
  cases r with
  | int n u =>
    obtain ⟨hb, hq⟩ := hr
    refine wpAny_bind (wpAny_holding (wpAny_pure ?_))
    refine wpAny_bind (wpAny_letGo ?_)
    show wpAny _ _ (if n < 0 then _ else _) _ _ _
    rw [if_neg (by omega)]
    show wpAny _ _ (if n ≥ 2 ^ 63 then _ else _) _ _ _
    rw [if_neg (by omega)]
    exact wpAny_bind (wpAny_mkInt (wpAny_pure ⟨_, rfl, hq⟩))
  | _ => exact hr.elim
def lenIM (C : Str) (m : MF) (o : ME) : ME := fun ρ S => bnd (o ρ S) fun x S1 => if insD C x S1 = true then (match m [x] S1 with
  | some (.ok (.int n), S2) => if 0 ≤ n ∧ n < 2 ^ 63 then some (.ok (.int n), S2) else none
  | some (.exn x, S2) => some (.exn x, S2)
  | _ => none) else none
theorem guards_in1 (A : Around) : A.in1.guards = A.guards := rfl
theorem re_lenI {Cn : Str} {k : Nat} {f : Addr} {fd : FuncData} {ps : List Str} {m : MF} {e : Expr} {me : ME} {p pos : Pos} (c : Cc G X W) (he' : RE G X W e me) (hme : Meth G.K (G.cad Cn) "__len__" f) (F : FnG G X.prog X.w X.mg X.base k f fd ps m) (hr : Room (k + 1) X.A) (hm : X.mg "len" = none) (hb : BindP G.K fd ps)
    (hg : Gl X "len" := by rfl) (he : starEach [e] X.env = (false, eval e X.env) :: starEach [] X.env := by rfl) (hpl : (backTo pos (starEach [] X.env)).any (·.1) = false := by rfl) : RE G X W (.Call (.Name "len" p) [e] [] pos) (lenIM Cn m me) := by
  obtain ⟨t, a1, a2⟩ := he'
  refine ⟨canE G W (lenIM Cn m me), ⟨fun pins s σ H Q I h => ?_⟩, rdCanE⟩
  obtain ⟨L, ρ, S, r, S', so, eo, hm', kk⟩ := h
  have hta : t σ H fun v H1 => ∃ x S1 L1, Rep G H1 L1 x v ∧ Sok G H1 L1 S1 ∧ insD Cn x S1 = true ∧ (match m [x] S1 with
      | some (.ok (.int n), S2) => if 0 ≤ n ∧ n < 2 ^ 63 then some (.ok (.int n), S2) else none
      | some (.exn x, S2) => some (.exn x, S2)
      | _ => none) = some (r, S') ∧ Ke G W H1 L1 σ Q S' r := by
    rcases bnd_some hm' with ⟨x, S1, h1, h2⟩ | ⟨x, h1, rfl⟩
    · split at h2
      · rename_i hi
        exact a2 σ H L ρ S _ S1 _ so eo h1 fun v H1 L1 q1 q2 q3 => ⟨x, S1, L1, q1, q2, hi, h2, kk.ext q3⟩
      · cases h2
    · exact a2 σ H L ρ S _ S' _ so eo h1 kk
  refine Call_ (ld_blt I hg hm boot_len ?_)
  refine PyProof.Rows.callWith_builtin1 (PyProof.Rows.args_cons (thn (a1.run pins s σ H _ I hta) fun u s1 ⟨v, H1, I1, rx, x, S1, L1, rd, so1, hi, h2, k1⟩ => PyProof.Rows.args_nil ?_) he) he hpl
  obtain ⟨l, ad, dx, fs, gs, rfl, rfl, hL, hS, hH, hFR⟩ := insD_at so1 rd hi
  obtain rfl : u = Value.ref ad := rx
  obtain ⟨mA, O, _⟩ := ins_get I1.hok hH
  obtain ⟨od, J, _⟩ := O.look
  cases q : m [.ref l] S1 with
  | none => rw [q] at h2; cases h2
  | some pr =>
    obtain ⟨r2, S2⟩ := pr
    rw [q] at h2
    have rv' : Vals [V.ref ad] [Value.ref ad] := .cons rfl .nil
    have rd2 : Reps G H1 L1 [.ref l] [V.ref ad] := Reps.one ⟨ad, rfl, hL⟩
    have hlen : [Value.ref ad].length = ps.length := by rw [← rv'.length, ← rd2.length]; exact F.len _ _ _ q
    have e0 := I1.env0.in1
    rw [c.K] at e0
    have Q2 : Kf G H1 L1 (fun v H2 => ∃ n : Int, v = .int n ∧ (0 ≤ n ∧ n < 2 ^ 63) ∧ Q (.int n) H2) (fun cls d H' => W cls d σ H') S2 r2 := by
      cases r2 with
      | ok d =>
        cases d with
        | int n =>
          dsimp only at h2
          split at h2
          · rename_i hn
            cases h2
            exact fun v H' L' z1 z2 z3 => ⟨n, z1, hn, k1 _ H' L' rfl z2 z3⟩
          · cases h2
        | _ => cases h2
      | exn x =>
        cases h2
        exact k1
    refine len_own I1.kIn J (by rw [c.K]; exact hme.at_) (by rw [c.K]; exact hme.fn) ?_
    refine wpAny_call (codeAny_mono (F.run X.A.in1 X.stack s1 H1 ⟨[Value.ref ad], []⟩ [Value.ref ad] _ _ L1 S1 r2 S2 _ _ hr.in1 ((guards_in1 _).trans c.gd) e0 (hb s1 _ (by rw [← c.K]; exact I1.kIn) hlen) rv' so1 rd2 q Q2) fun r' s' hq => ?_)
    cases r' with
    | error e => exact c.tk e s' (XE.of_call I1 (fun cls d H' z => z) hq)
    | ok fl =>
      cases fl with
      | ret u =>
        obtain ⟨v, H', I3, rv3, n, ev, hn, q3⟩ := I1.after hq
        subst ev
        obtain ⟨t', rfl⟩ := rv3
        exact ⟨hn, ⟨.int n, H', I3.tok _, ⟨_, rfl⟩, q3⟩⟩
      | next => exact hq.elim
      | brk => exact hq.elim
      | cont => exact hq.elim
/-! ### f(x=e): one argument by its name -/
theorem re_callK {x y : Str} {p pos kp : Pos} {e : Expr} {k : Nat} {f : Addr} {fd : FuncData} {m : MF} {me : ME} (c : Cc G X W) (F : FnG G X.prog X.w X.mg X.base k f fd [y] m) (hr : Room k X.A) (hm : X.mg x = some (.ref f)) (hk : PySem.W.keepIn G.K (.ref f) = true)
    (hb : ∀ (s : Shared) (u : Value), G.K.In s.heap → BindsTo s fd ⟨[], [(y, u)]⟩ [(y, u)]) (he : RE G X W e me) (hg : Gl X x := by rfl) (hdb : (x == ("__debug__" : Str)) = false := by decide)
    (hall : (backToKw pos (keywordEach [⟨some y, e, kp⟩] X.env)).all (·.1.isSome) = true := by rfl) (hks : (backToKw pos (keywordEach [⟨some y, e, kp⟩] X.env)).filterMap (·.1) = [y] := by rfl)
    (hpl : ((backTo pos (starEach [] X.env)).any (·.1) || (backToKw pos (keywordEach [⟨some y, e, kp⟩] X.env)).any (·.1.isNone)) = false := by rfl) :
    RE G X W (.Call (.Name x p) [] [⟨some y, e, kp⟩] pos) (callM m (consA me nilA)) := by
  obtain ⟨t, a1, a2⟩ := he
  refine ⟨canE G W (callM m (consA me nilA)), ⟨fun pins s σ H Q I h => ?_⟩, rdCanE⟩
  obtain ⟨L, ρ, S, r, S', so, eo, hm', kk⟩ := h
  have hta := argsG (rdCons (ta := t) a2 rdNil) so eo hm' kk
  refine wpAny_Call_Name_kw (ld_glob I hg hm ?_ hdb)
  refine PySem.W.callWith_KW0 (h₀ := X.base) I.ok.mod.kin (by rw [c.K]; exact hk) hall ?_ hpl
  rw [hks]
  refine thn ((pk_cons a1 pk_nil).run pos pins s σ H _ I hta) fun us s1 z => ?_
  obtain ⟨vs, H1, I1, rx, ds, S1, L1, rd, so1, h2, k1⟩ := z
  have hl : us.length = 1 := by rw [← rx.length, ← rd.length]; exact F.len _ _ _ h2
  match us, hl with
  | [u], _ => exact ⟨I1.kIn, runG F c hr I1 (args := ⟨[], [(y, u)]⟩) (us := [u]) (hb s1 u (by rw [← c.K]; exact I1.kIn)) rx so1 rd h2 k1⟩
end
end Td

set_option Elab.async false
set_option linter.all false
set_option maxRecDepth 100000
set_option maxHeartbeats 1000000
/-! len(set(xs)) of ints and texts -/
namespace Td
open PySem PySem.Spec PyProof.Rows L2 RZ
def hasK (l : List Key) (k : Key) : Bool := l.any fun j => decide (j = k)
theorem hasK_iff {l : List Key} {k : Key} : hasK l k = true ↔ k ∈ l := by
  unfold hasK
  rw [List.any_eq_true]
  exact ⟨fun ⟨j, h1, h2⟩ => of_decide_eq_true h2 ▸ h1, fun h => ⟨k, h, decide_eq_true rfl⟩⟩
theorem hasK_snoc (l : List Key) (k j : Key) : hasK (l ++ [k]) j = (hasK l j || decide (j = k)) := by
  unfold hasK
  rw [List.any_append]
  congr 1
  show (decide (k = j) || false) = _
  rw [Bool.or_false]
  exact decide_eq_decide.mpr eq_comm
/-- the keys, each once -/
def once (acc : List Key) (k : Key) : List Key := if hasK acc k = true then acc else acc ++ [k]
def onceL (ks : List Key) : List Key := ks.foldl once []
theorem onceL_snoc (ks : List Key) (k : Key) : onceL (ks ++ [k]) = once (onceL ks) k := by
  unfold onceL
  rw [List.foldl_append]
  rfl
theorem onceL_len : ∀ (n : Nat) (ks : List Key), ks.length = n → (onceL ks).length ≤ n
  | 0, ks, h => by
    rw [List.length_eq_zero_iff.mp h]
    exact Nat.le_refl _
  | n + 1, ks, h => by
    have hne : ks ≠ [] := fun e => by rw [e] at h; cases h
    rw [← List.dropLast_concat_getLast hne, onceL_snoc]
    have h2 := onceL_len n ks.dropLast (by rw [List.length_dropLast, h]; rfl)
    unfold once
    split
    · omega
    · rw [List.length_append, List.length_singleton]; omega
theorem onceL_nodup : ∀ (n : Nat) (ks : List Key), ks.length = n → ks.Nodup → onceL ks = ks
  | 0, ks, h, _ => by
    rw [List.length_eq_zero_iff.mp h]
    rfl
  | n + 1, ks, h, hd => by
    have hne : ks ≠ [] := fun e => by rw [e] at h; cases h
    have e := List.dropLast_concat_getLast hne
    rw [← e] at hd ⊢
    have h2 := List.nodup_append.mp hd
    rw [onceL_snoc, onceL_nodup n ks.dropLast (by rw [List.length_dropLast, h]; rfl) h2.1]
    unfold once
    rw [if_neg fun hm => h2.2.2 _ (hasK_iff.mp hm) _ (List.mem_singleton.mpr rfl) rfl]
section
variable {prog : Program} {w : World} {A : Around} {R : Result → Shared → Prop} {I : Addr} {fp wr : List Addr} {Gg : Array GenState → Array GenState → Prop} {n : Nat} {P : Nat → Value → Prop} {St : Nat → Shared → Prop}
/-- the keys go in, one turn each -/
theorem keysLoop (Wk : WalksS prog w A.in1 I fp wr Gg n P St) (T : Addr) (hT : T ∉ fp) (ks : List Key) (hsz : ks.length = n) (hb : n + 1 < scanBound) (hval : ∀ i v, P i v → ∃ k, ks[i]? = some k ∧ RelV (kV k) v) :
    ∀ (m i : Nat) (s : Shared), m + i = n → St i s → s.heap.SetOf (mixKind prog w) T (fun k => hasK (onceL (ks.take i)) k) (onceL (ks.take i)).length →
      (∀ s', Moved (T :: wr) Gg s s' → s'.heap.SetOf (mixKind prog w) T (fun k => hasK (onceL ks) k) (onceL ks).length → R (.ok (.ret .none)) s') →
      codeAny (model prog w) A (.builtin "set.update.loop" ⟨[.ref T, .ref I], []⟩) R s := by
  have nw : T ∉ wr := fun h => hT (Wk.sub _ h)
  have up : ∀ b ∈ wr, b ∈ T :: wr := fun b q => List.mem_cons_of_mem _ q
  intro m
  induction m with
  | zero =>
    intro i s hi st hS hR
    obtain rfl : i = n := by omega
    rw [List.take_of_length_le (by omega)] at hS
    refine codeAny_builtin PyProof.Rows.F.entry_set_update_loop ?_
    rw [Around.under_plainId PyProof.Rows.F.plain_set_update_loop _]
    refine wpAny_bind (m := pyNext (.ref I)) (Wk.done s _ _ st fun s' mv => ?_)
    refine wpAny_pure (hR s' (mv.mono up) ?_)
    obtain ⟨o, es, ep, tb, ho, z⟩ := hS
    exact ⟨o, es, ep, tb, mv.heap T _ nw ho, z⟩
  | succ m ih =>
    intro i s hi st hS hR
    refine codeAny_builtin PyProof.Rows.F.entry_set_update_loop ?_
    rw [Around.under_plainId PyProof.Rows.F.plain_set_update_loop _]
    refine wpAny_bind (m := pyNext (.ref I)) (Wk.item i s _ _ (by omega) st fun v s' hv st' mv => ?_)
    obtain ⟨k, hk, rk⟩ := hval i v hv
    have hS' : s'.heap.SetOf (mixKind prog w) T (fun k => hasK (onceL (ks.take i)) k) (onceL (ks.take i)).length := by
      obtain ⟨o, es, ep, tb, ho, z⟩ := hS
      exact ⟨o, es, ep, tb, mv.heap T _ nw ho, z⟩
    have et : ks.take (i + 1) = ks.take i ++ [k] := by
      rw [List.take_add_one, hk]
      rfl
    have hlen : (onceL (ks.take i)).length + 1 < scanBound := by
      have := onceL_len _ (ks.take i) rfl
      rw [List.length_take] at this
      omega
    show wpAny _ A.in1 (holding [v] (setAdd T v) >>= _) _ _ s'
    refine wpAny_bind (wpAny_holding ?_)
    unfold setAdd
    refine wpAny_holding ?_
    refine wpAny_bind ((mixKind prog w).pyHash (k := k) (kV_is rk) ?_)
    refine wpAny_setAddHashed_of (knd := mixKind prog w) (s := { s' with toks := s'.toks + 1 }) (kV_is rk) (key_scan rk) hS' hlen fun h' sb hS2 => ?_
    have hS3 : h'.SetOf (mixKind prog w) T (fun k => hasK (onceL (ks.take (i + 1))) k) (onceL (ks.take (i + 1))).length := by
      have e1 : (onceL (ks.take (i + 1))).length = if hasK (onceL (ks.take i)) k = true then (onceL (ks.take i)).length else (onceL (ks.take i)).length + 1 := by
        rw [et, onceL_snoc]
        unfold once
        by_cases q : hasK (onceL (ks.take i)) k = true
        · rw [if_pos q, if_pos q]
        · rw [if_neg q, if_neg q, List.length_append, List.length_singleton]
      rw [e1]
      refine (show (fun j => hasK (onceL (ks.take i)) j || decide (j = k)) = (fun j => hasK (onceL (ks.take (i + 1))) j) from funext fun j => ?_) ▸ hS2
      rw [et, onceL_snoc]
      unfold once
      by_cases q : hasK (onceL (ks.take i)) k = true
      · rw [if_pos q]
        by_cases ej : j = k
        · subst ej
          rw [q]; rfl
        · rw [decide_eq_false ej, Bool.or_false]
      · rw [if_neg q, hasK_snoc]
    refine wpAny_pure ⟨plainId_quiet PyProof.Rows.F.plain_set_update_loop _, ih (i + 1) _ (by omega) (Wk.frame _ s' _ _ st' (Nat.le_succ _) fun b hbm o e => ?_) hS3 fun s'' mv2 hS4 => ?_⟩
    · rw [sb.2 b fun z => hT (by rw [← z]; exact hbm)]
      exact e
    · refine hR s'' (Moved.trans Wk.gtrans ((mv.mono up).then_heap (Nat.le_succ _) fun b o hbm e => ?_) mv2) hS4
      rw [sb.2 b fun z => hbm (by rw [z]; exact List.mem_cons_self)]
      exact e
end
section
variable {prog : Program} {w : World} {A : Around} {E : Value → Shared → Prop} {s : Shared}
theorem valsK : ∀ {ks : List Key} {us : List Value}, Vals (ks.map kV) us → ∀ (i : Nat) (v : Value), us[i]? = some v → ∃ k, ks[i]? = some k ∧ RelV (kV k) v
  | [], _, .nil, i, v, h => by simp at h
  | k :: ks, _, .cons r t, 0, v, h => ⟨k, rfl, by simp at h; rw [← h]; exact r⟩
  | k :: ks, _, .cons r t, i + 1, v, h => by
    obtain ⟨k', h1, h2⟩ := valsK t i v (by simpa using h)
    exact ⟨k', by simpa using h1, h2⟩
set_option maxHeartbeats 3200000 in
/-- set(a list of keys) -/
theorem call_setK {l : Addr} {items : List Value} {ks : List Key} {Q : Value → Shared → Prop} (hh : A.handled = none) (hl : s.heap.IsList l items.toArray) (hv : Vals (ks.map kV) items) (hb : ks.length + 1 < scanBound)
    (h : ∀ (h' : Heap) (tk : Nat), h'.SetOf (mixKind prog w) s.heap.objs.size (fun k => hasK (onceL ks) k) (onceL ks).length →
      (∀ b o, b < s.heap.objs.size → s.heap.get? b = some o → h'.get? b = some o) → Q (.ref s.heap.objs.size) { s with heap := h', toks := tk }) :
    wpAny (model prog w) A (call (.type "set") [.ref l]) Q E s := by
  obtain ⟨c, tl, hmro⟩ := PySem.F.called_set.mro
  have m1 := PySem.F.called_set.made
  have m2 := PySem.F.called_set.sub
  refine wpAny_call (codeAny_of_tree ?_)
  show wpAny _ _ (callAny (.type "set") _) _ _ _
  refine wpAny_pure ⟨Code.quiet_builtin _ (by decide +kernel), codeAny_builtin PySem.F.entry_type_call ?_⟩
  rw [Around.under_plain (weight_type_call_type "set" [.ref l] []) rfl]
  have m3 := PySem.F.called_set.notType
  have m4 := PySem.F.called_set.canCreate
  have m5 := PySem.F.typeCall_set_1 (.ref l)
  repeat (any_goals (first | assumption | wp_step))
  refine codeAny_mono (code_set_new_1 (.ref l) (E := E) (Q₁ := fun obj s₁ => ∃ led : Bool, obj = .ref s.heap.objs.size ∧ s₁ = { s with heap := s.heap.push { cls := .type "set", dict := none, data := .set #[] 0 (.fresh 0 0 led) } }) fun led => ⟨led, rfl, rfl⟩) fun r s₁ hr => ?_
  cases r with
  | error e => exact hr
  | ok fl =>
    cases fl with
    | next => exact hr.elim
    | brk => exact hr.elim
    | cont => exact hr.elim
    | ret obj =>
      obtain ⟨led, rfl, rfl⟩ := hr
      have hS : (s.heap.push { cls := .type "set", dict := none, data := .set #[] 0 (.fresh 0 0 led) }).get? s.heap.objs.size = some { cls := .type "set", dict := none, data := .set #[] 0 (.fresh 0 0 led) } := Heap.get?_push_size _ rfl
      have hT : Shared.TypeIs { s with heap := s.heap.push { cls := .type "set", dict := none, data := .set #[] 0 (.fresh 0 0 led) } } (.ref s.heap.objs.size) "set" := ⟨_, hS, rfl⟩
      have n1 := PySem.F.called_set.init.lookup
      have n2 := PySem.F.called_set.init.bind (.ref s.heap.objs.size)
      repeat (any_goals (first | assumption | wp_step))
      refine codeAny_mono (codeAny_call_builtin (R := wants (fun r s₂ => r = .none ∧ ∃ h' tk, s₂ = { s with heap := h', toks := tk } ∧ h'.SetOf (mixKind prog w) s.heap.objs.size (fun k => hasK (onceL ks) k) (onceL ks).length ∧
          (∀ b o, b < s.heap.objs.size → s.heap.get? b = some o → h'.get? b = some o)) E) PySem.F.called_set.init.plain PySem.F.entry_set_init (check_set_init_1 hT ?_)) fun r₂ s₂ hr₂ => ?_
      · obtain ⟨ol, hol, hcl, nl, hdl⟩ := hl
        obtain ⟨ocls, odict, odata, oslots⟩ := ol
        simp only at hcl hdl
        subst hcl; subst hdl
        have hol' : (s.heap.push { cls := .type "set", dict := none, data := .set #[] 0 (.fresh 0 0 led) }).get? l = some { cls := .type "list", dict := odict, data := .seq items.toArray nl, slots := oslots } := Heap.get?_push_of_some _ hol
        have q1 := PySem.F.sub_list_set
        have q2 := PySem.F.sub_list_frozenset
        have q3 : (Value.type "list" == Value.type "dict") = false := by decide
        have hl1 : (s.heap.push { cls := .type "set", dict := none, data := .set #[] 0 (.fresh 0 0 led) }).IsList l items.toArray := ⟨_, hol', rfl, nl, rfl⟩
        unfold Builtin.«set.__init__» noKeywords Builtin.Frozenset.updateFrom
        generalize hPI : pyIter = PI
        wp_walk
        subst hPI
        refine wpAny_pyIter_list hl1 ?_
        refine wpAny_bind (wpAny_runValue ?_)
        have lt : l < s.heap.objs.size := Heap.lt_size hol
        have hh3 : A.in1.in1.in1.handled = none := by simp [hh]
        have ne1 : l ≠ (s.heap.push { cls := .type "set", dict := none, data := .set #[] 0 (.fresh 0 0 led) }).objs.size := by
          rw [Heap.size_push]; exact Nat.ne_of_lt (Nat.lt_succ_of_lt lt)
        have nf : s.heap.objs.size ∉ [(s.heap.push { cls := .type "set", dict := none, data := .set #[] 0 (.fresh 0 0 led) }).objs.size, l] := by
          rw [Heap.size_push]; simp only [List.mem_cons, List.not_mem_nil, or_false, not_or]
          exact ⟨Nat.ne_of_lt (Nat.lt_succ_self _), Nat.ne_of_gt lt⟩
        have sz : ks.length = items.toArray.size := by
          have := hv.length
          rw [List.length_map] at this
          rw [List.size_toArray]; exact this
        refine keysLoop ((Walks.list hh3 _ l ne1 items.toArray).toS) s.heap.objs.size nf ks sz (by rw [← sz]; exact hb) (fun i v e => valsK hv i v (by
          have e' : items.toArray[i]? = some v := e
          rw [← e', ← Array.getElem?_toList])) items.toArray.size 0 _ (by omega) ⟨⟨_, Heap.get?_push_size _ rfl, rfl, rfl⟩, hl1.push _⟩ ?k0 ?k1
        case k0 =>
          have g0 : ((s.heap.push { cls := .type "set", dict := none, data := .set #[] 0 (.fresh 0 0 led) }).push { cls := .type "list_iterator", data := .fields #[.ref l, .int 0 0] }).get? s.heap.objs.size
              = some { cls := .type "set", dict := none, data := .set #[] 0 (.fresh 0 0 led) } := Heap.get?_push_of_some _ hS
          have z : Heap.SetOf (mixKind prog w) ((s.heap.push { cls := .type "set", dict := none, data := .set #[] 0 (.fresh 0 0 led) }).push { cls := .type "list_iterator", data := .fields #[.ref l, .int 0 0] }) s.heap.objs.size (fun _ => false) 0 :=
            ⟨_, #[], 0, _, g0, ⟨rfl, rfl, rfl⟩, rfl, (fun e he => by simp at he), (fun k => by simp), (by decide), (by rfl), rfl⟩
          exact z
        case k1 =>
          intro s' mv hS'
          obtain ⟨h', g', d', tk', os'⟩ := s'
          obtain rfl : g' = s.gens := mv.gens
          obtain rfl : d' = s.drawn := mv.drawn
          obtain rfl : os' = s.os := mv.os
          show wpAny _ _ _ _ _ _
          refine wpAny_pure ?_
          show wpAny _ _ (ret Value.none) _ _ _
          refine wpAny_pure ⟨rfl, h', tk', rfl, hS', fun b o hb e => ?_⟩
          refine mv.heap b o ?_ (Heap.get?_push_of_some _ (Heap.get?_push_of_some _ e))
          rw [Heap.size_push]
          simp only [List.mem_cons, List.not_mem_nil, or_false, not_or]
          exact ⟨Nat.ne_of_lt hb, Nat.ne_of_lt (Nat.lt_succ_of_lt hb)⟩
      · cases r₂ with
        | error e => exact hr₂
        | ok fl₂ =>
          cases fl₂ with
          | ret r =>
            obtain ⟨rfl, h', tk, rfl, hS', kp⟩ := hr₂
            repeat (any_goals (first | assumption | wp_step))
            exact h _ _ hS' kp
          | _ => exact hr₂.elim
end
section
variable {G : Gx} {X : Cx} {W : WX}
def keysO : List D → Option (List Key)
  | [] => some []
  | d :: ds => match keyD d, keysO ds with
    | some k, some ks => some (k :: ks)
    | _, _ => none
theorem keysO_vs {H : Hp} {L : List Addr} : ∀ {ds : List D} {vs : List V} {ks : List Key}, Reps G H L ds vs → keysO ds = some ks → vs = ks.map kV
  | [], _, _, r, h => by
    cases h
    rw [show _ = ([] : List V) from r]
    rfl
  | d :: ds, _, _, ⟨v, vr, e, r1, r2⟩, h => by
    unfold keysO at h
    split at h
    · rename_i k ks h1 h2
      cases h
      rw [e, keyD_rep r1 h1, keysO_vs r2 h2]
      rfl
    · cases h
def lsM (m : ME) : ME := fun ρ S => bnd (m ρ S) fun x S1 => match (lO S1 x).bind keysO with
  | some ks => if ks.length < 4000 then some (.ok (.int (onceL ks).length), S1) else none
  | none => none
theorem re_ls {a : Expr} {m : ME} {p p2 q pos : Pos} (c : Cc G X W) (hc : X.calm = true) (hm : X.mg "len" = none) (hm2 : X.mg "set" = none) (ha : RE G X W a m) (hg : Gl X "len" := by rfl) (hg2 : Gl X "set" := by rfl)
    (na : starEach [a] X.env = (false, eval a X.env) :: starEach [] X.env := by rfl) : RE G X W (.Call (.Name "len" p) [.Call (.Name "set" p2) [a] [] q] [] pos) (lsM m) := by
  obtain ⟨t, a1, a2⟩ := ha
  refine ⟨canE G W (lsM m), ⟨fun pins s σ H Q I h => ?_⟩, rdCanE⟩
  obtain ⟨L, ρ, S, r, S', so, eo, hm', kk⟩ := h
  have hta : t σ H fun v H1 => ∃ x S1 L1, Rep G H1 L1 x v ∧ Sok G H1 L1 S1 ∧ (match (lO S1 x).bind keysO with
      | some ks => if ks.length < 4000 then some (Res.ok (D.int (onceL ks).length), S1) else none
      | none => none) = some (r, S') ∧ Ke G W H1 L1 σ Q S' r := by
    rcases bnd_some hm' with ⟨x, S1, h1, h2⟩ | ⟨x, h1, rfl⟩
    · exact a2 σ H L ρ S _ S1 _ so eo h1 fun v H1 L1 q1 q2 q3 => ⟨x, S1, L1, q1, q2, h2, kk.ext q3⟩
    · exact a2 σ H L ρ S _ S' _ so eo h1 kk
  refine Call_ (ld_blt I hg hm boot_len ?_)
  refine PyProof.Rows.callWith_builtin1 (PyProof.Rows.args_cons ?_ rfl) rfl rfl
  refine Call_ (ld_blt I hg2 hm2 PyProof.Rows.boot_set ?_)
  refine PyProof.Rows.callWith_type1 (PyProof.Rows.args_cons (thn (a1.run pins s σ H _ I hta) fun u s1 ⟨v, H1, I1, rx, x, S1, L1, rd, so1, h2, k1⟩ => PyProof.Rows.args_nil ?_) na) na rfl
  split at h2
  · rename_i ks hks
    split at h2
    · rename_i hz
      cases h2
      obtain ⟨ds, h3, h4⟩ := Option.bind_eq_some_iff.mp hks
      obtain ⟨a, vs, rfl, hq, r⟩ := lO_at so1 rd h3
      have e := keysO_vs r h4
      subst e
      obtain rfl : u = Value.ref a := rx
      obtain ⟨its, rv, pl, hzz⟩ := I1.list (by rw [c.K]; exact hq)
      refine call_setK (I1.ok.hd hc) pl.isList rv (by unfold scanBound; omega) fun h' tk hS hk => ?_
      refine PyProof.Rows.args_nil ?_
      obtain ⟨o, es, ep, tb, ho, hex, hd, _, _, _, hf, hn⟩ := hS
      have I2 : Inv X pins σ H1 { s1 with heap := h', toks := tk } := I1.kept fun b o e => hk b o (Heap.lt_size e) e
      have hlen := onceL_len _ ks rfl
      exact call_len_set ho hex hd hf (by rw [hn]; omega) ⟨.int (onceL ks).length, H1, I2.tok _, ⟨_, by rw [hn]⟩, k1 _ H1 L1 rfl so1 (Ext.refl _ _)⟩
    · cases h2
  · cases h2
end
end Td

set_option Elab.async false
set_option linter.all false
set_option maxRecDepth 100000
set_option maxHeartbeats 1000000
/-! the module's names; the end of a law -/
namespace Td
open PySem PySem.Spec PyProof.Rows L2 RZ
section
variable {G : Gx} {X : Cx} {W : WX}
theorem re_gint {x : Str} {i : Int} {pos : Pos} (hm : ∃ t, X.mg x = some (.int i t)) (hg : Gl X x := by rfl) (hd : (x == ("__debug__" : Str)) = false := by decide) : RE G X W (.Name x pos) (cM (.int i)) := by
  obtain ⟨t, h⟩ := hm
  exact re_glob (v := .int i) h ⟨t, rfl⟩ (fun _ _ => rfl) hg hd
theorem re_gstr {x z : Str} {pos : Pos} (hm : ∃ t, X.mg x = some (.str z t)) (hg : Gl X x := by rfl) (hd : (x == ("__debug__" : Str)) = false := by decide) : RE G X W (.Name x pos) (cM (.str z)) := by
  obtain ⟨t, h⟩ := hm
  exact re_glob (v := .str z) h ⟨t, rfl⟩ (fun _ _ => rfl) hg hd
/-- a tuple of texts that stands in the written part -/
theorem re_gtup {x : Str} {a : Addr} {zs : List Str} {pos : Pos} (hm : X.mg x = some (.ref a)) (ht : ∀ H, SqT G.K H a (zs.map V.str)) (hg : Gl X x := by rfl) (hd : (x == ("__debug__" : Str)) = false := by decide) : RE G X W (.Name x pos) (cM (.tup (zs.map D.str))) := by
  have hr : ∀ H L (zs : List Str), Reps G H L (zs.map D.str) (zs.map V.str) := fun H L zs => by
    induction zs with
    | nil => exact rfl
    | cons z zs ih => exact ⟨_, _, rfl, rfl, ih⟩
  exact re_glob (v := .ref a) hm rfl (fun H L => ⟨a, _, rfl, ht H, hr H L zs⟩) hg hd
theorem re_tyn {x : Str} {n : String} {pos : Pos} (hm : X.mg x = none) (hv : bootBuiltins x = some (.type n)) (hg : Gl X x := by rfl) (hn : x ≠ "__name__" := by decide) (hd : (x == ("__debug__" : Str)) = false := by decide) : RE G X W (.Name x pos) (cM (.ty n)) :=
  ⟨_, pe_bltn hg hm hv (v := .ty n) rfl hn hd, rdC fun _ _ => rfl⟩
theorem re_gcls {x : Str} {pos : Pos} (hm : X.mg x = some (.ref (G.cad x))) (hg : Gl X x := by rfl) (hd : (x == ("__debug__" : Str)) = false := by decide) : RE G X W (.Name x pos) (cM (.obj x)) :=
  re_glob (v := .ref (G.cad x)) hm rfl (fun _ _ => rfl) hg hd
/-- a class of one's own, asked by isinstance -/
structure IsC (G : Gx) (C : Str) : Prop where
  cl : Cls G.K (G.cad C)
  ha : PySem.W.findIn G.K (.ref (G.cad C)) "__class__" = some (some (.builtin "object.__class__"))
  hn : PySem.W.specialIn G.K (.builtin "object.__class__") "__get__" = some (some (.builtin "getset_descriptor.__get__"))
  ht : PySem.W.takesIn G.K (.builtin "object.__class__") = some true
  hm : PySem.W.mroIn G.K (G.cad C) (.type "object") = some true
  no : ∀ n ∈ tyNames, PySem.W.kitOne G.K (.type n) (.ref (G.cad C)) = some false
def isiOD (C : Str) : List D → Sto → Option (D × Sto) := fun as S => match as with
  | [x, .obj C'] => if C' = C then (if insD C x S = true then some (.bl true, S) else (tyN S x).map fun _ => (.bl false, S)) else none
  | _ => none
theorem cd_isiO {C : Str} (ic : IsC G C) : CallD G (rIsi G.K) (isiOD C) := by
  intro H L S xs vs d S' Q s rs h k
  unfold isiOD at h
  split at h
  · rename_i x C'
    split at h
    · rename_i hC
      subst hC
      obtain ⟨v, r, rfl, rv, v2, r3, rfl, rv2, r2⟩ := rs
      cases r2
      cases rv2
      split at h
      · rename_i hi
        cases h
        obtain ⟨l, a, dx, fs, gs, rfl, rfl, ha, hS, hH, hF⟩ := insD_at s rv hi
        refine ⟨_, _, .ref (G.cad C'), _, true, rfl, .own _, .base (.ins hH ic.cl ic.ha ic.hn ic.ht ic.hm), ?_, k _ H L rfl s (Ext.refl _ _)⟩
        unfold PySem.W.kitOne
        rw [if_pos (beq_self_eq_true _)]
      · obtain ⟨t, h1, h2⟩ := Option.map_eq_some_iff.mp h
        cases h2
        exact ⟨v, _, .type t, _, false, rfl, .own _, tyN_ok s rv h1, ic.no t (tyN_in h1), k _ H L rfl s (Ext.refl _ _)⟩
    · cases h
  · cases h
theorem re_isiO {C : Str} {p pos : Pos} {e t : Expr} {m n : ME} (c : Cc G X W) (ic : IsC G C) (hm : X.mg "isinstance" = none) (ha : RE G X W e m) (hb : RE G X W t n) (hg : Gl X "isinstance" := by rfl)
    (he : starEach [e, t] X.env = (false, eval e X.env) :: starEach [t] X.env := by rfl) (he2 : starEach [t] X.env = (false, eval t X.env) :: starEach [] X.env := by rfl) (hpl : (backTo pos (starEach [t] X.env)).any (·.1) = false := by rfl) : RE G X W (.Call (.Name "isinstance" p) [e, t] [] pos) (cbM (isiOD C) (consA m (consA n nilA))) :=
  re_callB call_isi (by rw [c.K]; exact cd_isiO ic) hm boot_isinstance (ra_cons ha (ra_cons hb ra_nil he2) he) hg (he := he) (hpl := hpl)
/-- xs.extend(a tuple) -/
theorem extT_meets (l : Addr) (items : Array Value) (n : Nat) (b : Addr) (items2 : Array Value) (n2 : Nat) (dd : Option Addr) (sl : Array (Option Value)) (h0 : ¬(!items.isEmpty && Builtin.List.listTooLong (items.size + items2.size)) = true) (h1 : items.size ≤ sizeLine) (h2 : items.size + items2.size ≤ sizeLine + 1) :
    Meets (Builtin.«list.extend» ⟨[.ref l, .ref b], []⟩) (fun _ R s => s.heap.get? l = some { cls := .type "list", dict := none, data := .seq items n, slots := #[] } ∧ s.heap.get? b = some { cls := .type "tuple", dict := dd, data := .seq items2 n2, slots := sl } ∧ R (.ok (.ret Value.none)) { s with heap := s.heap.update l (Obj.mapSeq fun x => x ++ items2), toks := s.toks }) :=
  .of_wp fun prog w A R s h => by
    obtain ⟨hp, g, d, tk, os⟩ := s
    obtain ⟨hl, hb, h⟩ := h
    have g1 := PySem.F.sub_tuple_list
    have g2 := PySem.F.sub_list_list
    have g3 := PySem.F.sub_list_tuple
    have g4 := PySem.F.sub_tuple_tuple
    have hz' : (items ++ items2).size ≤ sizeLine + 1 := by rw [Array.size_append]; exact h2
    wp_walk using (wpAny_updateSeq hl rfl (hz := h1) (_hz' := hz')), wpAny_loadPart' hl, wpAny_loadPart' hb
    exact ⟨_, rfl, h⟩
theorem mt_extT : MtR X "list.extend" (rExtT X.K) := by
  intro pins s σ H x vs v us Q I rx rv h
  obtain ⟨l, b, xs, zs, rfl, rfl, hH, hB, hz, q⟩ := h
  cases rx
  obtain ⟨u, rfl, ru⟩ := rv.one
  cases ru
  obtain ⟨z, its, n, r, hl, e⟩ := I.lstM hH
  obtain ⟨its2, r2, ⟨o, h1, h2, n2, h3⟩, _⟩ := I.tuple hB
  obtain ⟨oc, od, dt, sl⟩ := o
  simp only at h2 h3
  subst h2 h3
  have l2 := r2.length
  have hsz : its.toArray.size + its2.toArray.size ≤ sizeLine := by rw [List.size_toArray, List.size_toArray]; omega
  refine call_meets PySem.F.slot_list_extend ⟨_, e, rfl⟩ PySem.F.entry_list_extend (PySem.F.args_list_extend_2 _ _)
    (extT_meets l its.toArray n b its2.toArray n2 od sl (by rw [notLongL hsz, Bool.and_false]; exact Bool.false_ne_true) (by rw [List.size_toArray]; omega) (by omega)) ⟨e, h1, ?_⟩
  refine ⟨.non, _, I.lset (its' := its ++ its2) hH e (by simp) (r.append r2) ?_, rfl, q⟩
  rw [List.length_append]
  omega
def extTD : D → List D → Sto → Option (D × Sto) := fun x as S => match lstO S x, as with
  | some (l, xs), [.tup ys] => if xs.length + ys.length ≤ sizeLine then some (.non, S.set l (.lst (xs ++ ys))) else none
  | _, _ => none
theorem md_extT : MtD G (rExtT G.K) extTD := by
  intro H L S x v as vs d S' Q s rx ras h k
  unfold extTD at h
  split at h
  · rename_i l xs ys hl
    split at h
    · rename_i hz
      cases h
      obtain ⟨a, ws, rfl, ha, h1, r1⟩ := lstO_at s rx hl
      obtain ⟨w, r, rfl, ⟨b, us, rfl, hb, rb⟩, r2⟩ := ras
      cases r2
      obtain ⟨q1, q2⟩ := setLst s ha (r1.append rb)
      exact ⟨a, b, ws, us, rfl, rfl, h1, hb, by rw [← r1.length, ← rb.length]; exact hz, k _ _ _ rfl q1 q2⟩
    · cases h
  · cases h
def extAD : D → List D → Sto → Option (D × Sto) := fun x as S => match extTD x as S with
  | some r => some r
  | none => extD x as S
theorem md_extA : MtD G (fun x vs H Q => rExtend x vs H Q ∨ rExtT G.K x vs H Q) extAD := by
  intro H L S x v as vs d S' Q s rx ras h k
  unfold extAD at h
  split at h
  · rename_i r hr
    rw [h] at hr
    exact .inr (md_extT H L S x v as vs d S' Q s rx ras hr k)
  · exact .inl (md_ext H L S x v as vs d S' Q s rx ras h k)
theorem re_extend {o e : Expr} {mo m : ME} {apos cpos : Pos} (c : Cc G X W) (ho : RE G X W o mo) (ha : RE G X W e m)
    (hbase : attributeBase o "extend" X.env (eval o X.env) = eval o X.env := by rfl)
    (hfew : ((backTo cpos (starEach [e] X.env)).all (fun x => !x.1) && (backToKw cpos (keywordEach [] X.env)).all (fun x => x.1.isSome)
      && decide (([e] : List Expr).length + ([] : List Keyword).length + (if ([] : List Keyword).isEmpty then 0 else 1) < 30)) = true := by rfl)
    (hline : (apos.endLine == cpos.line) = true := by rfl) (hs : starEach [e] X.env = (false, eval e X.env) :: starEach [] X.env := by rfl) (hplain : (backTo cpos (starEach [] X.env)).any (·.1) = false := by rfl) :
    RE G X W (.Call (.Attribute o "extend" apos) [e] [] cpos) (mtM lstTy extAD mo (consA m nilA)) := re_bm c PySem.F.plainAttrs_list PySem.F.slot_list_extend PySem.F.type_list_extend (MtR.or mt_extend mt_extT) ty_lst (by rw [c.K]; exact md_extA) ho (ra_cons ha ra_nil hs) hbase hfew hline hs hplain
end
/-! ### the end of a law -/
theorem law_end {P : Program} {w : World} {G : Gx} {mg mb : Str → Option Value} {k : Nat} {fa a : Addr} {fd : FuncData} {x : Str} {m : MF} {s : Shared} {vs : List Value} {ns : List Int}
    (KX : G.K.In s.heap) (hns : s.heap.Ns mainGlobals mg) (hb : s.heap.Ns builtinsNs mb) (hbb : ∀ x : Str, x ≠ "__name__" → mb x = bootBuiltins x) (hlim : s.heap.NoLimit) (hg : s.gens = #[])
    (ha : s.heap.get? a = some { cls := .type "list", data := .seq vs.toArray }) (hi : IntsAre vs ns) (hl : ns.length ≤ sizeLine) (hr : Room k callerA)
    (F : ∀ base : Heap, G.K.In base → base.Ns mainGlobals mg → FnG G P w mg base k fa fd [x] m) (hbind : ∀ (s : Shared) (u : Value), BindsTo s fd ⟨[u], []⟩ [(x, u)])
    (hm : ∃ S', m [.rol (ns.map D.int)] [] = some (.ok (.bl true), S')) :
    codeAny (model P w) callerA (.call (.ref fa) ⟨[.ref a], []⟩) (fun r s' => r = .ok (.ret (.bool true)) ∧ OldK s.heap s'.heap ∧ s'.os = s.os ∧ AllBare s'.gens) s := by
  obtain ⟨S', hm⟩ := hm
  have rv := vals_ints hi
  have lv := hi.length
  have go : ∀ H : Hp, (H = fun _ => none) ∨ (G.K.lookup a = none ∧ H = fun b => if b = a then some (.frz { cls := .type "list", data := .seq vs.toArray } (.lst (ns.map V.int))) else none) → RoL G.K H a (ns.map V.int) → HOk P w H s.heap →
      codeAny (model P w) callerA (.call (.ref fa) ⟨[.ref a], []⟩) (fun r s' => r = .ok (.ret (.bool true)) ∧ OldK s.heap s'.heap ∧ s'.os = s.os ∧ AllBare s'.gens) s := by
    intro H hH hS hok
    have only : ∀ b u, H b = some u → b = a ∧ G.K.lookup a = none ∧ u = .frz { cls := .type "list", data := .seq vs.toArray } (.lst (ns.map V.int)) := fun b u e => by
      rcases hH with rfl | ⟨hk, rfl⟩
      · cases e
      · dsimp only at e
        split at e
        · rename_i hb
          exact ⟨hb, hk, (Option.some.inj e).symm⟩
        · cases e
    have free : ∀ {b : Addr} {o : Obj} {es : Array DictEntry} {ep : Nat}, s.heap.get? b = some o → o.data = .dict es ep → H b = none := fun {b o es ep} e d => by
      cases q : H b with
      | none => rfl
      | some u =>
        obtain ⟨rfl, _, _⟩ := only b u q
        rw [ha] at e
        cases e
        cases d
    have ns' : ∀ {b : Addr} {n : Str → Option Value}, s.heap.Ns b n → (hidT s.heap H).Ns b n := fun ⟨o, es, ep, e, d, r⟩ => ⟨o, es, ep, hidT_get e (free e d), d, r⟩
    have kin : G.K.In (hidT s.heap H) := fun b o e => hidT_get (KX b o e) (by
      cases q : H b with
      | none => rfl
      | some u =>
        obtain ⟨rfl, hk, _⟩ := only b u q
        rw [hk] at e
        cases e)
    have e0 : Env0 P w G.K mg (hidT s.heap H) callerA [] s H := ⟨rfl, ⟨kin, ns' hns, ⟨mb, ns' hb, hbb⟩, let ⟨mc, p1, p2⟩ := hlim; ⟨mc, ns' p1, p2⟩⟩, fun b o e => of_hidT e, Nat.le_of_eq (hidT_size _ _), trivial, fun b hb => absurd (show b ∈ ([] : List Addr) from hb) (by simp), hok, .of_eq hg⟩
    have rp : Reps G H [] (ns.map D.int) (ns.map V.int) := by
      have : ∀ ns : List Int, Reps G H [] (ns.map D.int) (ns.map V.int) := fun ns => by
        induction ns with
        | nil => exact rfl
        | cons z zs ih => exact ⟨_, _, rfl, rfl, ih⟩
      exact this ns
    have so : Sok G H [] [] := ⟨List.nodup_nil, rfl, fun l c b h1 _ => by simp at h1⟩
    refine codeAny_mono ((F _ kin (ns' hns)).run callerA [] s H ⟨[.ref a], []⟩ [.ref a] [.ref a] [.rol (ns.map D.int)] [] [] (.ok (.bl true)) S' (fun v _ => v = .bl true) (fun _ _ _ => False) hr rfl e0 (hbind s (.ref a)) (.cons rfl .nil) so ⟨_, _, rfl, ⟨a, _, rfl, hS, rp⟩, rfl⟩ hm fun v H' L' r _ _ => r) fun r s' h => ?_
    cases r with
    | error e =>
      obtain ⟨_, _, _, _, _, _, _, _, _, _, _, _, z⟩ := h
      exact z.elim
    | ok fl =>
      cases fl with
      | next => exact h.elim
      | brk => exact h.elim
      | cont => exact h.elim
      | ret u =>
        obtain ⟨v, H', os, bare, un, hok', r', q⟩ := h
        have q' : v = .bl true := q
        subst q'
        obtain rfl : u = Value.bool true := r'
        refine ⟨rfl, OldK.of_keep fun b o e => ?_, os, bare⟩
        cases q : H b with
        | none => exact un.keep b o e q (by intro z; exact absurd (show b ∈ ([] : List Addr) from z) (by simp)) (by simp)
        | some u =>
          obtain ⟨rfl, _, rfl⟩ := only b u q
          have z2 := un.frzs b _ _ q
          obtain ⟨e2, _⟩ := hok' b _ z2
          rw [ha] at e
          cases e
          exact e2
  cases hk : G.K.lookup a with
  | some o =>
    have e := KX a o hk
    rw [ha] at e
    cases e
    exact go _ (.inl rfl) (.inr ⟨_, vs.toArray, _, hk, rfl, rfl, rfl, by rw [List.size_toArray, lv]; exact hl, by simpa using rv⟩) fun b u z => by cases z
  | none =>
    refine go _ (.inr ⟨hk, rfl⟩) (.inl ⟨_, if_pos rfl⟩) fun b u z => ?_
    by_cases q : b = a
    · have z' := (if_pos q).symm.trans z
      cases z'
      subst q
      exact ⟨ha, by rw [List.length_map]; exact hl, vs, _, rv, ha⟩
    · have z' := (if_neg q).symm.trans z
      cases z'
theorem walk_end {l : PySem.W.OpenLaw} {n k : Nat} {q : Program} {loose : List Str} {XP : (Str → Option Value) → Heap → Prop} {YP : World → Heap → Prop} {d : DefRec} {x : Str}
    (hn : l.most = some n) (hn2 : n ≤ sizeLine) (hdf : d.params.defaults = []) (hr : Room k callerA)
    (F : ∀ (w : World) (mg : Str → Option Value) (fa : Addr) (h : Heap), YP w h → h.Ns mainGlobals mg → mg d.name = some (.ref fa) →
      ∃ (G : Gx) (fd : FuncData) (m : MF), G.K.In h ∧ (∀ (s : Shared) (u : Value), BindsTo s fd ⟨[u], []⟩ [(x, u)]) ∧
        (∀ ns : List Int, ns.length ≤ n → ∃ S', m [.rol (ns.map D.int)] [] = some (.ok (.bl true), S')) ∧
        ∀ base : Heap, G.K.In base → base.Ns mainGlobals mg → FnG G l.prog w mg base k fa fd [x] m) :
    PySem.W.WalkO q loose XP YP l.row.toRowW d [] (fun f vs => PySem.call f vs) := by
  refine Att.attach_call hn hdf fun w s₀ s₁ mg mb fa o pm cd doc a vs ns G Y ho hd hcd hmg hobj hints hlen hg => ?_
  obtain ⟨Gx, fd, m, KX, hb, hsp, hF⟩ := F w mg fa _ Y G.T.g hmg
  exact law_end KX G.T.g G.T.b G.T.builtins G.T.nolimit hg hobj hints (Nat.le_trans hlen hn2) hr hF hb (hsp ns hlen)
/-! ### the head: facts, and what else is asked of the written part -/
def obsX (n : Nat) (fa : List He.Fa) (fn : List He.DefD) (ex : PySem.W.Frag → Bool) (g : Addr → Option Obj) : He.AlD × Bool := (He.obsDG n fa fn g, ex (He.frG g (He.asD g n)))
def hookX (n : Nat) (fa : List He.Fa) (fn : List He.DefD) (ex : PySem.W.Frag → Bool) : PySem.W.Hook where
  α := He.AlD × Bool
  obs := fun s => obsX n fa fn ex s.heap.get?
  val := fun _ => (He.valD fn, true)
  says := fun _ h => ∃ K : PySem.W.Frag, K.In h ∧ He.SaysD fa fn K ∧ ex K = true
  of := fun _ _ e => by
    obtain ⟨e1, e2⟩ := Prod.mk.inj e
    exact ⟨_, He.frG_in, e1, e2⟩
  keeps := fun _ _ _ ⟨K, hK, c⟩ k => ⟨K, PySem.W.Frag.In.keeps hK k, c⟩
theorem obsX_eq {n : Nat} {fa : List He.Fa} {fn : List He.DefD} {ex : PySem.W.Frag → Bool} {g : Addr → Option Obj} {s : Shared} (h : ∀ a, g a = s.heap.get? a) : obsX n fa fn ex g = (hookX n fa fn ex).obs s := by
  have e : g = s.heap.get? := funext h
  rw [e]
  rfl
/-- a tuple of texts under a name -/
def tupTx (K : PySem.W.Frag) (x : Str) (zs : List Str) : Bool := He.tupB K x (zs.map He.Dv.str)
def isCB (K : PySem.W.Frag) (x : Str) : Bool := He.eqO (PySem.W.findIn K (.ref (He.ga K x)) "__class__") (some (some (.builtin "object.__class__"))) &&
  (He.eqO (PySem.W.specialIn K (.builtin "object.__class__") "__get__") (some (some (.builtin "getset_descriptor.__get__"))) && (decide (PySem.W.takesIn K (.builtin "object.__class__") = some true) &&
  (decide (PySem.W.mroIn K (He.ga K x) (.type "object") = some true) && tyNames.all fun n => decide (PySem.W.kitOne K (.type n) (.ref (He.ga K x)) = some false))))
abbrev gxOf (K : PySem.W.Frag) : Gx := ⟨K, fun C => He.ga K C⟩
theorem isC_of {K : PySem.W.Frag} {x : Str} (h : isCB K x = true) (c : (He.Fa.cls x).ok K = true) : IsC (gxOf K) x := by
  obtain ⟨h1, h⟩ := He.ba h
  obtain ⟨h2, h⟩ := He.ba h
  obtain ⟨h3, h⟩ := He.ba h
  obtain ⟨h4, h5⟩ := He.ba h
  exact ⟨He.cls_ok c, He.eqO_ok h1, He.eqO_ok h2, of_decide_eq_true h3, of_decide_eq_true h4, fun n hn => of_decide_eq_true (List.all_eq_true.mp h5 n hn)⟩
end Td

set_option Elab.async false
set_option linter.all false
set_option maxRecDepth 100000
set_option maxHeartbeats 1000000
/-! defs by their names -/
namespace Td
open PySem PySem.Spec PyProof.Rows L2 RZ
section
variable (G : Gx) (P : Program) (w : World) (mg : Str → Option Value) (base : Heap) (k : Nat)
structure Fu (x : Str) (ps : List Str) (m : MF) : Prop where
  ex : ∃ (f : Addr) (fd : FuncData), FnG G P w mg base k f fd ps m ∧ mg x = some (.ref f) ∧ PySem.W.keepIn G.K (.ref f) = true ∧ BindP G.K fd ps
structure FuK (x y : Str) (m : MF) : Prop where
  ex : ∃ (f : Addr) (fd : FuncData), FnG G P w mg base k f fd [y] m ∧ mg x = some (.ref f) ∧ PySem.W.keepIn G.K (.ref f) = true ∧ ∀ (s : Shared) (u : Value), G.K.In s.heap → BindsTo s fd ⟨[], [(y, u)]⟩ [(y, u)]
structure MeF (C nm : Str) (ps : List Str) (m : MF) : Prop where
  ex : ∃ (f : Addr) (fd : FuncData), Cls G.K (G.cad C) ∧ FnG G P w mg base k f fd ps m ∧ Meth G.K (G.cad C) nm f ∧ BindP G.K fd ps
structure MkF (C : Str) (ps : List Str) (m : MF) : Prop where
  ex : ∃ (f : Addr) (fd : FuncData), FnG G P w mg base k f fd ps m ∧ Mk G.K (G.cad C) f ∧ BindP G.K fd ps
end
section
variable {G : Gx} {X : Cx} {W : WX} {k : Nat} {ps : List Str} {m : MF}
theorem Fu.call {x : Str} {p pos : Pos} {e : Expr} {es : List Expr} {a : MA} (c : Cc G X W) (F : Fu G X.prog X.w X.mg X.base k x ps m) (hr : Room k X.A)
    (ha : RA G X W (e :: es) a) (hg : Gl X x := by rfl) (hdb : (x == ("__debug__" : Str)) = false := by decide) (he : starEach (e :: es) X.env = (false, eval e X.env) :: starEach es X.env := by rfl) (hpl : (backTo pos (starEach es X.env)).any (·.1) = false := by rfl) :
    RE G X W (.Call (.Name x p) (e :: es) [] pos) (callM m a) := by
  obtain ⟨f, fd, h1, h2, h3, h4⟩ := F
  exact re_call c h1 hr h2 h3 h4 ha hg hdb he hpl
theorem Fu.call0 {x : Str} {p pos : Pos} (c : Cc G X W) (F : Fu G X.prog X.w X.mg X.base k x ps m) (hr : Room k X.A) (hg : Gl X x := by rfl) (hdb : (x == ("__debug__" : Str)) = false := by decide) :
    RE G X W (.Call (.Name x p) [] [] pos) (callM m nilA) := by
  obtain ⟨f, fd, h1, h2, h3, h4⟩ := F
  exact re_call0 c h1 hr h2 h3 h4 hg hdb
theorem FuK.call {x y : Str} {p pos kp : Pos} {e : Expr} {me : ME} (c : Cc G X W) (F : FuK G X.prog X.w X.mg X.base k x y m) (hr : Room k X.A) (he : RE G X W e me) (hg : Gl X x := by rfl) (hdb : (x == ("__debug__" : Str)) = false := by decide)
    (hall : (backToKw pos (keywordEach [⟨some y, e, kp⟩] X.env)).all (·.1.isSome) = true := by rfl) (hks : (backToKw pos (keywordEach [⟨some y, e, kp⟩] X.env)).filterMap (·.1) = [y] := by rfl)
    (hpl : ((backTo pos (starEach [] X.env)).any (·.1) || (backToKw pos (keywordEach [⟨some y, e, kp⟩] X.env)).any (·.1.isNone)) = false := by rfl) :
    RE G X W (.Call (.Name x p) [] [⟨some y, e, kp⟩] pos) (callM m (consA me nilA)) := by
  obtain ⟨f, fd, h1, h2, h3, h4⟩ := F
  exact re_callK c h1 hr h2 h3 h4 he hg hdb hall hks hpl
theorem MeF.call {Cn nm : Str} {o e : Expr} {es : List Expr} {mo : ME} {a : MA} {apos pos : Pos} {pl : Sem Bool} (c : Cc G X W) (F : MeF G X.prog X.w X.mg X.base k Cn nm ps m) (hr : Room k X.A) (ho : RE G X W o mo) (ha : RA G X W (e :: es) a)
    (hst : starEach (e :: es) X.env = (false, eval e X.env) :: starEach es X.env := by rfl) (hpl : (backTo pos (starEach es X.env)).any (·.1) = false := by rfl)
    (ht : eval (.Call (.Attribute o nm apos) (e :: es) [] pos) X.env = (do
      let ov ← eval o X.env
      standAt apos.atName
      let (f, first) ← holding [ov] (getMethod ov nm pl)
      callWith pos f first (backTo pos (starEach (e :: es) X.env)) (backToKw pos (keywordEach [] X.env))) := by rfl) :
    RE G X W (.Call (.Attribute o nm apos) (e :: es) [] pos) (methM Cn nm m mo a) := by
  obtain ⟨f, fd, h1, h2, h3, h4⟩ := F
  exact re_meth c ho h1 h3 h2 hr h4 ha hst hpl ht
theorem MeF.call0 {Cn nm : Str} {o : Expr} {mo : ME} {apos pos : Pos} {pl : Sem Bool} (c : Cc G X W) (F : MeF G X.prog X.w X.mg X.base k Cn nm ps m) (hr : Room k X.A) (ho : RE G X W o mo)
    (ht : eval (.Call (.Attribute o nm apos) [] [] pos) X.env = (do
      let ov ← eval o X.env
      standAt apos.atName
      let (f, first) ← holding [ov] (getMethod ov nm pl)
      callWith pos f first (backTo pos (starEach [] X.env)) (backToKw pos (keywordEach [] X.env))) := by rfl) :
    RE G X W (.Call (.Attribute o nm apos) [] [] pos) (methM Cn nm m mo nilA) := by
  obtain ⟨f, fd, h1, h2, h3, h4⟩ := F
  exact re_meth0 c ho h1 h3 h2 hr h4 ht
theorem MeF.len {Cn : Str} {e : Expr} {me : ME} {p pos : Pos} (c : Cc G X W) (F : MeF G X.prog X.w X.mg X.base k Cn "__len__" ps m) (hr : Room (k + 1) X.A) (hm : X.mg "len" = none) (he' : RE G X W e me)
    (hg : Gl X "len" := by rfl) (he : starEach [e] X.env = (false, eval e X.env) :: starEach [] X.env := by rfl) (hpl : (backTo pos (starEach [] X.env)).any (·.1) = false := by rfl) : RE G X W (.Call (.Name "len" p) [e] [] pos) (lenIM Cn m me) := by
  obtain ⟨f, fd, h1, h2, h3, h4⟩ := F
  exact re_lenI c he' h3 h2 hr hm h4 hg he hpl
theorem MkF.make {Cn : Str} {p pos : Pos} {e : Expr} {es : List Expr} {a : MA} (c : Cc G X W) (F : MkF G X.prog X.w X.mg X.base k Cn ps m) (hr : Room (k + 1) X.A) (hm : X.mg Cn = some (.ref (G.cad Cn)))
    (ha : RA G X W (e :: es) a) (hg : Gl X Cn := by rfl) (hdb : (Cn == ("__debug__" : Str)) = false := by decide) (he : starEach (e :: es) X.env = (false, eval e X.env) :: starEach es X.env := by rfl) (hpl : (backTo pos (starEach es X.env)).any (·.1) = false := by rfl) :
    RE G X W (.Call (.Name Cn p) (e :: es) [] pos) (makeM Cn m a) := by
  obtain ⟨f, fd, h2, h3, h4⟩ := F
  exact re_make c h3 h2 hr hm h4 ha hg hdb he hpl
theorem FunD.bindK {K : PySem.W.Frag} {x qual y : Str} {params : Arguments} {body : List Stmt} {scope : Scope} {kws : List (Str × V)} {f : Addr} {fd : FuncData} (F : FunD K x qual params body scope [] kws f fd)
    (h : ∀ (kV doc pm : Value) (an : Option Addr) (cdv ct : Value) (u : Value), bindArgs (PySem.W.fnOf x qual params body scope .none kV doc pm an cdv ct) ⟨[], [(y, u)]⟩ = pure [(y, u)]) (s : Shared) (u : Value) (_ : K.In s.heap) : BindsTo s fd ⟨[], [(y, u)]⟩ [(y, u)] := by
  obtain ⟨oc, od, dV, kV, doc, pm, an, cdv, ct, osl, rfl, lk, hcd, hD, hK⟩ := F.ex
  rcases hD with ⟨_, rfl⟩ | ⟨e, _⟩
  · exact .of_eq (h kV doc pm an cdv ct u)
  · exact absurd rfl e
end
end Td

set_option Elab.async false
set_option linter.all false
set_option maxRecDepth 100000
set_option maxHeartbeats 1000000
/-! what a plain function comes to: rules for plain proofs -/
namespace Td
open PySem
def wE (m : ME) (ρ : En) (S : Sto) (Q : D → Sto → Prop) : Prop := ∃ d S', m ρ S = some (.ok d, S') ∧ Q d S'
def wT (m : MT) (ρ : En) (S : Sto) (Q : Bool → Sto → Prop) : Prop := ∃ d S', m ρ S = some (.ok d, S') ∧ Q d S'
def wA (m : MA) (ρ : En) (S : Sto) (Q : List D → Sto → Prop) : Prop := ∃ d S', m ρ S = some (.ok d, S') ∧ Q d S'
def wF (m : MF) (ds : List D) (S : Sto) (Q : D → Sto → Prop) : Prop := ∃ d S', m ds S = some (.ok d, S') ∧ Q d S'
def wI (m : MI) (ρ : En) (S : Sto) (Q : Src → Sto → Prop) : Prop := ∃ d S', m ρ S = some (.ok d, S') ∧ Q d S'
def wO (m : MO) (ρ : En) (S : Sto) (Q : Option Int → Sto → Prop) : Prop := ∃ d S', m ρ S = some (.ok d, S') ∧ Q d S'
def wS (m : MS) (ρ : En) (S : Sto) (Q : Fl → En → Sto → Prop) : Prop := ∃ f ρ' S', m ρ S = some (f, ρ', S') ∧ Q f ρ' S'
def opW (r : Option (D × Sto)) (Q : D → Sto → Prop) : Prop := ∃ d S', r = some (d, S') ∧ Q d S'
def gW (r : Option (En × Sto)) (Q : En → Sto → Prop) : Prop := ∃ d S', r = some (d, S') ∧ Q d S'
def sW (r : Option Sto) (Q : Sto → Prop) : Prop := ∃ S', r = some S' ∧ Q S'
def rW {α : Type} (r : Out α) (Q : α → Sto → Prop) : Prop := ∃ d S', r = some (.ok d, S') ∧ Q d S'
section
variable {ρ : En} {S : Sto} {Q : D → Sto → Prop}
@[simp] theorem opW_some {d : D} : opW (some (d, S)) Q ↔ Q d S := ⟨fun ⟨_, _, e, q⟩ => by cases e; exact q, fun q => ⟨d, S, rfl, q⟩⟩
@[simp] theorem sW_some {Q : Sto → Prop} : sW (some S) Q ↔ Q S := ⟨fun ⟨_, e, q⟩ => by cases e; exact q, fun q => ⟨S, rfl, q⟩⟩
@[simp] theorem gW_some {Q : En → Sto → Prop} : gW (some (ρ, S)) Q ↔ Q ρ S := ⟨fun ⟨_, _, e, q⟩ => by cases e; exact q, fun q => ⟨ρ, S, rfl, q⟩⟩
@[simp] theorem opW_none : opW none Q ↔ False := ⟨fun ⟨_, _, e, _⟩ => (by cases e), False.elim⟩
@[simp] theorem rW_ok {α : Type} {a : α} {Q : α → Sto → Prop} : rW (some (.ok a, S)) Q ↔ Q a S := ⟨fun ⟨_, _, e, q⟩ => by cases e; exact q, fun q => ⟨a, S, rfl, q⟩⟩
theorem bnd_iff {α β : Type} {o : Out α} {k : α → Sto → Out β} {d : β} {S' : Sto} : bnd o k = some (Res.ok d, S') ↔ ∃ a S1, o = some (.ok a, S1) ∧ k a S1 = some (.ok d, S') := by
  constructor
  · intro h
    rcases bnd_some h with ⟨a, S1, h1, h2⟩ | ⟨x, _, h2⟩
    · exact ⟨a, S1, h1, h2⟩
    · cases h2
  · rintro ⟨a, S1, h1, h2⟩
    rw [h1]
    exact h2
theorem bndW {α β : Type} {o : Out α} {k : α → Sto → Out β} {Q : β → Sto → Prop} : (∃ d S', bnd o k = some (Res.ok d, S') ∧ Q d S') ↔ ∃ a S1, o = some (.ok a, S1) ∧ ∃ d S', k a S1 = some (.ok d, S') ∧ Q d S' := by
  constructor
  · rintro ⟨d, S', h, q⟩
    obtain ⟨a, S1, h1, h2⟩ := bnd_iff.mp h
    exact ⟨a, S1, h1, d, S', h2, q⟩
  · rintro ⟨a, S1, h1, d, S', h2, q⟩
    exact ⟨d, S', bnd_iff.mpr ⟨a, S1, h1, h2⟩, q⟩
@[simp] theorem wE_var {i : Nat} : wE (varM i) ρ S Q ↔ ∃ d, ρ[i]? = some (some d) ∧ Q d S := by
  unfold wE varM
  constructor
  · rintro ⟨d, S', h, q⟩
    split at h
    · rename_i d' hd
      cases h
      exact ⟨_, hd, q⟩
    · cases h
  · rintro ⟨d, h, q⟩
    rw [h]
    exact ⟨d, S, rfl, q⟩
@[simp] theorem wE_c {d : D} : wE (cM d) ρ S Q ↔ Q d S := ⟨fun ⟨_, _, e, q⟩ => by cases e; exact q, fun q => ⟨d, S, rfl, q⟩⟩
@[simp] theorem wE_bin {f : DF2} {a b : ME} : wE (binM f a b) ρ S Q ↔ wE a ρ S fun x S1 => wE b ρ S1 fun y S2 => opW (f x y S2) Q := by
  unfold wE binM
  rw [bndW]
  constructor
  · rintro ⟨x, S1, h1, h2⟩
    refine ⟨x, S1, h1, ?_⟩
    rw [bndW] at h2
    obtain ⟨y, S2, h3, d, S', h4, q⟩ := h2
    refine ⟨y, S2, h3, ?_⟩
    split at h4
    · rename_i d' S3 e
      cases h4
      exact ⟨d, S', e, q⟩
    · cases h4
  · rintro ⟨x, S1, h1, y, S2, h3, d, S', e, q⟩
    refine ⟨x, S1, h1, bndW.mpr ⟨y, S2, h3, d, S', ?_, q⟩⟩
    rw [e]
@[simp] theorem wT_tst {a : ME} {Q : Bool → Sto → Prop} : wT (tstM a) ρ S Q ↔ wE a ρ S fun x S1 => ∃ b, x = .bl b ∧ Q b S1 := by
  unfold wT tstM
  rw [bndW]
  constructor
  · rintro ⟨x, S1, h1, d, S', h2, q⟩
    refine ⟨x, S1, h1, ?_⟩
    split at h2
    · cases h2
      exact ⟨_, rfl, q⟩
    · cases h2
  · rintro ⟨x, S1, h1, b, rfl, q⟩
    exact ⟨_, S1, h1, b, S1, rfl, q⟩
@[simp] theorem wT_not {a : MT} {Q : Bool → Sto → Prop} : wT (notT a) ρ S Q ↔ wT a ρ S fun x S1 => Q (!x) S1 := by
  unfold wT notT
  rw [bndW]
  constructor
  · rintro ⟨x, S1, h1, d, S', h2, q⟩
    cases h2
    exact ⟨x, S1, h1, q⟩
  · rintro ⟨x, S1, h1, q⟩
    exact ⟨x, S1, h1, _, _, rfl, q⟩
@[simp] theorem wT_or {a b : MT} {Q : Bool → Sto → Prop} : wT (orT a b) ρ S Q ↔ wT a ρ S fun x S1 => if x = true then Q true S1 else wT b ρ S1 Q := by
  unfold wT orT
  rw [bndW]
  constructor
  · rintro ⟨x, S1, h1, d, S', h2, q⟩
    refine ⟨x, S1, h1, ?_⟩
    cases x with
    | true => cases h2; exact q
    | false => exact ⟨d, S', h2, q⟩
  · rintro ⟨x, S1, h1, q⟩
    refine ⟨x, S1, h1, ?_⟩
    cases x with
    | true => exact ⟨true, S1, rfl, q⟩
    | false => exact q
@[simp] theorem wT_and {a b : MT} {Q : Bool → Sto → Prop} : wT (andT a b) ρ S Q ↔ wT a ρ S fun x S1 => if x = true then wT b ρ S1 Q else Q false S1 := by
  unfold wT andT
  rw [bndW]
  constructor
  · rintro ⟨x, S1, h1, d, S', h2, q⟩
    refine ⟨x, S1, h1, ?_⟩
    cases x with
    | false => cases h2; exact q
    | true => exact ⟨d, S', h2, q⟩
  · rintro ⟨x, S1, h1, q⟩
    refine ⟨x, S1, h1, ?_⟩
    cases x with
    | false => exact ⟨false, S1, rfl, q⟩
    | true => exact q
@[simp] theorem wT_yes {Q : Bool → Sto → Prop} : wT yesT ρ S Q ↔ Q true S := ⟨fun ⟨_, _, e, q⟩ => by cases e; exact q, fun q => ⟨true, S, rfl, q⟩⟩
@[simp] theorem wE_and {a b : ME} : wE (andE a b) ρ S Q ↔ wT (tstM a) ρ S fun x S1 => if x = true then wE b ρ S1 Q else Q (.bl false) S1 := by
  unfold wE andE
  rw [bndW]
  constructor
  · rintro ⟨x, S1, h1, d, S', h2, q⟩
    refine ⟨x, S1, h1, ?_⟩
    cases x with
    | false => cases h2; exact q
    | true => exact ⟨d, S', h2, q⟩
  · rintro ⟨x, S1, h1, q⟩
    refine ⟨x, S1, h1, ?_⟩
    cases x with
    | false => exact ⟨_, S1, rfl, q⟩
    | true => exact q
@[simp] theorem wE_or {a b : ME} : wE (orE a b) ρ S Q ↔ wT (tstM a) ρ S fun x S1 => if x = true then Q (.bl true) S1 else wE b ρ S1 Q := by
  unfold wE orE
  rw [bndW]
  constructor
  · rintro ⟨x, S1, h1, d, S', h2, q⟩
    refine ⟨x, S1, h1, ?_⟩
    cases x with
    | true => cases h2; exact q
    | false => exact ⟨d, S', h2, q⟩
  · rintro ⟨x, S1, h1, q⟩
    refine ⟨x, S1, h1, ?_⟩
    cases x with
    | true => exact ⟨_, S1, rfl, q⟩
    | false => exact q
@[simp] theorem wE_not {a : ME} : wE (notE a) ρ S Q ↔ wT (tstM a) ρ S fun x S1 => Q (.bl (!x)) S1 := by
  unfold wE notE
  rw [bndW]
  constructor
  · rintro ⟨x, S1, h1, d, S', h2, q⟩
    cases h2
    exact ⟨x, S1, h1, q⟩
  · rintro ⟨x, S1, h1, q⟩
    exact ⟨x, S1, h1, _, _, rfl, q⟩
@[simp] theorem wE_if {c : MT} {a b : ME} : wE (ifE c a b) ρ S Q ↔ wT c ρ S fun x S1 => if x = true then wE a ρ S1 Q else wE b ρ S1 Q := by
  unfold wE ifE
  rw [bndW]
  constructor
  · rintro ⟨x, S1, h1, d, S', h2, q⟩
    refine ⟨x, S1, h1, ?_⟩
    cases x with
    | true => exact ⟨d, S', h2, q⟩
    | false => exact ⟨d, S', h2, q⟩
  · rintro ⟨x, S1, h1, q⟩
    refine ⟨x, S1, h1, ?_⟩
    cases x with
    | true => exact q
    | false => exact q
@[simp] theorem wE_ch {f g : DF2} {a b c : ME} : wE (chM f g a b c) ρ S Q ↔ wE a ρ S fun x S1 => wE b ρ S1 fun y S2 => opW (f x y S2) fun d S3 => ∃ t, d = .bl t ∧ if t = true then wE c ρ S3 fun z S4 => opW (g y z S4) Q else Q (.bl false) S3 := by
  unfold wE chM
  rw [bndW]
  constructor
  · rintro ⟨x, S1, h1, h2⟩
    refine ⟨x, S1, h1, ?_⟩
    rw [bndW] at h2
    obtain ⟨y, S2, h3, d, S', h4, q⟩ := h2
    refine ⟨y, S2, h3, ?_⟩
    split at h4
    · rename_i S3 e
      obtain ⟨z, S4, h5, h6⟩ := bnd_iff.mp h4
      refine ⟨_, S3, e, true, rfl, z, S4, h5, ?_⟩
      split at h6
      · rename_i d2 S5 e2
        cases h6
        exact ⟨d, S', e2, q⟩
      · cases h6
    · rename_i S3 e
      cases h4
      exact ⟨_, _, e, false, rfl, q⟩
    · cases h4
  · rintro ⟨x, S1, h1, y, S2, h3, d, S3, e, t, rfl, q⟩
    refine ⟨x, S1, h1, bndW.mpr ⟨y, S2, h3, ?_⟩⟩
    rw [e]
    cases t with
    | true =>
      obtain ⟨z, S4, h5, d2, S5, e2, q⟩ := q
      refine ⟨d2, S5, bnd_iff.mpr ⟨z, S4, h5, ?_⟩, q⟩
      rw [e2]
    | false => exact ⟨_, S3, rfl, q⟩
@[simp] theorem wA_nil {Q : List D → Sto → Prop} : wA nilA ρ S Q ↔ Q [] S := ⟨fun ⟨_, _, e, q⟩ => by cases e; exact q, fun q => ⟨[], S, rfl, q⟩⟩
@[simp] theorem wA_cons {a : ME} {t : MA} {Q : List D → Sto → Prop} : wA (consA a t) ρ S Q ↔ wE a ρ S fun x S1 => wA t ρ S1 fun xs S2 => Q (x :: xs) S2 := by
  unfold wA consA
  rw [bndW]
  constructor
  · rintro ⟨x, S1, h1, h2⟩
    refine ⟨x, S1, h1, ?_⟩
    rw [bndW] at h2
    obtain ⟨y, S2, h3, d, S', h4, q⟩ := h2
    cases h4
    exact ⟨y, S2, h3, q⟩
  · rintro ⟨x, S1, h1, y, S2, h3, q⟩
    exact ⟨x, S1, h1, bndW.mpr ⟨y, S2, h3, _, _, rfl, q⟩⟩
@[simp] theorem wE_tup {t : MA} : wE (tupM t) ρ S Q ↔ wA t ρ S fun ds S1 => ds.length ≤ sizeLine ∧ Q (.tup ds) S1 := by
  unfold wE tupM
  rw [bndW]
  constructor
  · rintro ⟨x, S1, h1, d, S', h2, q⟩
    refine ⟨x, S1, h1, ?_⟩
    split at h2
    · rename_i hl
      cases h2
      exact ⟨hl, q⟩
    · cases h2
  · rintro ⟨x, S1, h1, hl, q⟩
    exact ⟨x, S1, h1, _, _, if_pos hl, q⟩
@[simp] theorem wE_lst {t : MA} : wE (lstM t) ρ S Q ↔ wA t ρ S fun ds S1 => ds.length ≤ sizeLine ∧ Q (.ref S1.length) (S1 ++ [.lst ds]) := by
  unfold wE lstM
  rw [bndW]
  constructor
  · rintro ⟨x, S1, h1, d, S', h2, q⟩
    refine ⟨x, S1, h1, ?_⟩
    split at h2
    · rename_i hl
      cases h2
      exact ⟨hl, q⟩
    · cases h2
  · rintro ⟨x, S1, h1, hl, q⟩
    exact ⟨x, S1, h1, _, _, if_pos hl, q⟩
@[simp] theorem wE_cb {f : List D → Sto → Option (D × Sto)} {t : MA} : wE (cbM f t) ρ S Q ↔ wA t ρ S fun ds S1 => opW (f ds S1) Q := by
  unfold wE cbM
  rw [bndW]
  constructor
  · rintro ⟨x, S1, h1, d, S', h2, q⟩
    refine ⟨x, S1, h1, ?_⟩
    split at h2
    · rename_i e
      cases h2
      exact ⟨_, _, e, q⟩
    · cases h2
  · rintro ⟨x, S1, h1, d, S', e, q⟩
    refine ⟨x, S1, h1, d, S', ?_, q⟩
    rw [e]
@[simp] theorem wE_mt {ty : D → Sto → Bool} {f : D → List D → Sto → Option (D × Sto)} {o : ME} {t : MA} : wE (mtM ty f o t) ρ S Q ↔ wE o ρ S fun x S1 => ty x S1 = true ∧ wA t ρ S1 fun ds S2 => opW (f x ds S2) Q := by
  unfold wE mtM
  rw [bndW]
  constructor
  · rintro ⟨x, S1, h1, d, S', h2, q⟩
    refine ⟨x, S1, h1, ?_⟩
    split at h2
    · rename_i hy
      obtain ⟨ds, S2, h3, h4⟩ := bnd_iff.mp h2
      refine ⟨hy, ds, S2, h3, ?_⟩
      split at h4
      · rename_i e
        cases h4
        exact ⟨_, _, e, q⟩
      · cases h4
    · cases h2
  · rintro ⟨x, S1, h1, hy, ds, S2, h3, d, S', e, q⟩
    refine ⟨x, S1, h1, d, S', ?_, q⟩
    rw [if_pos hy]
    refine bnd_iff.mpr ⟨ds, S2, h3, ?_⟩
    rw [e]
@[simp] theorem wE_call {m : MF} {t : MA} : wE (callM m t) ρ S Q ↔ wA t ρ S fun ds S1 => wF m ds S1 Q := by
  unfold wE callM
  rw [bndW]
  exact Iff.rfl
@[simp] theorem wE_sl {o : ME} {lo hi : MO} : wE (slM o lo hi) ρ S Q ↔ wE o ρ S fun x S1 => wO lo ρ S1 fun l S2 => wO hi ρ S2 fun h S3 => opW (sliD x l h S3) Q := by
  unfold wE slM
  rw [bndW]
  constructor
  · rintro ⟨x, S1, h1, h2⟩
    refine ⟨x, S1, h1, ?_⟩
    rw [bndW] at h2
    obtain ⟨l, S2, h3, h4⟩ := h2
    refine ⟨l, S2, h3, ?_⟩
    rw [bndW] at h4
    obtain ⟨u, S3, h5, d, S', h6, q⟩ := h4
    refine ⟨u, S3, h5, ?_⟩
    split at h6
    · rename_i e
      cases h6
      exact ⟨_, _, e, q⟩
    · cases h6
  · rintro ⟨x, S1, h1, l, S2, h3, u, S3, h5, d, S', e, q⟩
    refine ⟨x, S1, h1, bndW.mpr ⟨l, S2, h3, bndW.mpr ⟨u, S3, h5, d, S', ?_, q⟩⟩⟩
    rw [e]
@[simp] theorem wO_no {Q : Option Int → Sto → Prop} : wO noM ρ S Q ↔ Q none S := ⟨fun ⟨_, _, e, q⟩ => by cases e; exact q, fun q => ⟨none, S, rfl, q⟩⟩
@[simp] theorem wO_so {a : ME} {Q : Option Int → Sto → Prop} : wO (soM a) ρ S Q ↔ wE a ρ S fun x S1 => ∃ i, x = .int i ∧ Q (some i) S1 := by
  unfold wO soM
  rw [bndW]
  constructor
  · rintro ⟨x, S1, h1, d, S', h2, q⟩
    refine ⟨x, S1, h1, ?_⟩
    split at h2
    · cases h2
      exact ⟨_, rfl, q⟩
    · cases h2
  · rintro ⟨x, S1, h1, i, rfl, q⟩
    exact ⟨_, S1, h1, _, _, rfl, q⟩
@[simp] theorem wE_fld {C f : Str} {o : ME} : wE (fldM C f o) ρ S Q ↔ wE o ρ S fun x S1 => ∃ l fs d, x = .ref l ∧ S1[l]? = some (.ins C fs) ∧ fs.lookup f = some d ∧ Q d S1 := by
  unfold wE fldM
  rw [bndW]
  constructor
  · rintro ⟨x, S1, h1, d, S', h2, q⟩
    refine ⟨x, S1, h1, ?_⟩
    split at h2
    · rename_i l
      split at h2
      · rename_i C' fs hS
        split at h2
        · rename_i hC
          subst hC
          split at h2
          · rename_i d' hd
            cases h2
            exact ⟨l, fs, d, rfl, hS, hd, q⟩
          · cases h2
        · cases h2
      · cases h2
    · cases h2
  · rintro ⟨x, S1, h1, l, fs, d, rfl, hS, hd, q⟩
    refine ⟨_, S1, h1, d, S1, ?_, q⟩
    simp [hS, hd]
@[simp] theorem wE_dsp {m : MP} : wE (dspM m) ρ S Q ↔ rW (pairM m ρ S) fun ps S1 => ps.length ≤ 15 ∧ ∃ kvs, mergeD [] ps = some kvs ∧ Q (.ref S1.length) (S1 ++ [.dct kvs]) := by
  unfold wE dspM rW
  rw [bndW]
  constructor
  · rintro ⟨x, S1, h1, d, S', h2, q⟩
    refine ⟨x, S1, h1, ?_⟩
    split at h2
    · rename_i hl
      split at h2
      · rename_i kvs hk
        cases h2
        exact ⟨hl, kvs, hk, q⟩
      · cases h2
    · cases h2
  · rintro ⟨x, S1, h1, hl, kvs, hk, q⟩
    refine ⟨x, S1, h1, _, _, ?_, q⟩
    simp [hl, hk]
@[simp] theorem rW_pnil {Q : List (D × D) → Sto → Prop} : rW (pairM [] ρ S) Q ↔ Q [] S := ⟨fun ⟨_, _, e, q⟩ => by cases e; exact q, fun q => ⟨[], S, rfl, q⟩⟩
@[simp] theorem rW_pcons {a b : ME} {m : MP} {Q : List (D × D) → Sto → Prop} : rW (pairM ((a, b) :: m) ρ S) Q ↔ wE a ρ S fun x S1 => wE b ρ S1 fun y S2 => rW (pairM m ρ S2) fun ps S3 => Q ((x, y) :: ps) S3 := by
  unfold wE rW
  show (∃ d S', bnd (a ρ S) _ = _ ∧ _) ↔ _
  rw [bndW]
  constructor
  · rintro ⟨x, S1, h1, h2⟩
    refine ⟨x, S1, h1, ?_⟩
    rw [bndW] at h2
    obtain ⟨y, S2, h3, h4⟩ := h2
    refine ⟨y, S2, h3, ?_⟩
    rw [bndW] at h4
    obtain ⟨z, S3, h5, d, S', h6, q⟩ := h4
    cases h6
    exact ⟨z, S3, h5, q⟩
  · rintro ⟨x, S1, h1, y, S2, h3, z, S3, h5, q⟩
    exact ⟨x, S1, h1, bndW.mpr ⟨y, S2, h3, bndW.mpr ⟨z, S3, h5, _, _, rfl, q⟩⟩⟩
@[simp] theorem wE_ls {m : ME} : wE (lsM m) ρ S Q ↔ wE m ρ S fun x S1 => ∃ ks, (lO S1 x).bind keysO = some ks ∧ ks.length < 4000 ∧ Q (.int (onceL ks).length) S1 := by
  unfold wE lsM
  rw [bndW]
  constructor
  · rintro ⟨x, S1, h1, d, S', h2, q⟩
    refine ⟨x, S1, h1, ?_⟩
    split at h2
    · rename_i ks hk
      split at h2
      · rename_i hl
        cases h2
        exact ⟨ks, hk, hl, q⟩
      · cases h2
    · cases h2
  · rintro ⟨x, S1, h1, ks, hk, hl, q⟩
    refine ⟨x, S1, h1, _, _, ?_, q⟩
    simp [hk, hl]
@[simp] theorem wE_lr {m : ME} : wE (lrM m) ρ S Q ↔ wE m ρ S fun x S1 => ∃ n, x = .int n ∧ (0 ≤ n ∧ n ≤ 16777216) ∧ Q (.ref S1.length) (S1 ++ [.lst (rgD 0 n)]) := by
  unfold wE lrM
  rw [bndW]
  constructor
  · rintro ⟨x, S1, h1, d, S', h2, q⟩
    refine ⟨x, S1, h1, ?_⟩
    split at h2
    · split at h2
      · rename_i hl
        cases h2
        exact ⟨_, rfl, hl, q⟩
      · cases h2
    · cases h2
  · rintro ⟨x, S1, h1, n, rfl, hl, q⟩
    refine ⟨_, S1, h1, _, _, ?_, q⟩
    simp [hl]
@[simp] theorem wE_lenI {C : Str} {m : MF} {o : ME} : wE (lenIM C m o) ρ S Q ↔ wE o ρ S fun x S1 => insD C x S1 = true ∧ wF m [x] S1 fun d S2 => ∃ n, d = .int n ∧ (0 ≤ n ∧ n < 2 ^ 63) ∧ Q (.int n) S2 := by
  unfold wE lenIM wF
  rw [bndW]
  constructor
  · rintro ⟨x, S1, h1, d, S', h2, q⟩
    refine ⟨x, S1, h1, ?_⟩
    split at h2
    · rename_i hi
      split at h2
      · rename_i n S2 e
        split at h2
        · rename_i hn
          cases h2
          exact ⟨hi, _, _, e, n, rfl, hn, q⟩
        · cases h2
      · cases h2
      · cases h2
    · cases h2
  · rintro ⟨x, S1, h1, hi, d, S2, e, n, rfl, hn, q⟩
    refine ⟨x, S1, h1, _, _, ?_, q⟩
    rw [if_pos hi, e]
    exact if_pos hn
@[simp] theorem wE_make {C : Str} {m : MF} {t : MA} : wE (makeM C m t) ρ S Q ↔ wA t ρ S fun ds S1 => wF m (.ref S1.length :: ds) (S1 ++ [.ins C []]) fun d S2 => d = .non ∧ Q (.ref S1.length) S2 := by
  unfold wE makeM wF
  rw [bndW]
  constructor
  · rintro ⟨x, S1, h1, d, S', h2, q⟩
    refine ⟨x, S1, h1, ?_⟩
    split at h2
    · rename_i e
      cases h2
      exact ⟨_, _, e, rfl, q⟩
    · cases h2
    · cases h2
  · rintro ⟨x, S1, h1, d, S2, e, rfl, q⟩
    refine ⟨x, S1, h1, _, _, ?_, q⟩
    rw [e]
end
section
variable {ρ : En} {S : Sto} {Q : Fl → En → Sto → Prop}
@[simp] theorem wS_next : wS nextS ρ S Q ↔ Q .nx ρ S := ⟨fun ⟨_, _, _, e, q⟩ => by cases e; exact q, fun q => ⟨_, _, _, rfl, q⟩⟩
@[simp] theorem wS_seq {a b : MS} : wS (seqS a b) ρ S Q ↔ wS a ρ S fun f ρ1 S1 => match f with
    | .nx => wS b ρ1 S1 Q
    | f => Q f ρ1 S1 := by
  unfold wS seqS
  constructor
  · rintro ⟨f, ρ', S', h, q⟩
    cases e : a ρ S with
    | none => rw [e] at h; cases h
    | some p =>
      obtain ⟨g, ρ1, S1⟩ := p
      rw [e] at h
      refine ⟨g, ρ1, S1, rfl, ?_⟩
      cases g with
      | nx => exact ⟨f, ρ', S', h, q⟩
      | _ => cases h; exact q
  · rintro ⟨g, ρ1, S1, e, q⟩
    rw [e]
    cases g with
    | nx => exact q
    | _ => exact ⟨_, _, _, rfl, q⟩
theorem wS_with {a : ME} {k : D → MS} : (wE a ρ S fun d S1 => wS (k d) ρ S1 Q) → wS (withE a k) ρ S Q := by
  rintro ⟨d, S1, h1, f, ρ', S', h2, q⟩
  exact ⟨f, ρ', S', by unfold withE; rw [h1]; exact h2, q⟩
theorem wS_expr {a : ME} : (wE a ρ S fun _ S1 => Q .nx ρ S1) → wS (exprS a) ρ S Q := fun ⟨d, S1, h1, q⟩ => wS_with ⟨d, S1, h1, wS_next.mpr q⟩
theorem wS_ret {a : ME} : (wE a ρ S fun d S1 => Q (.rt d) ρ S1) → wS (retS a) ρ S Q := fun ⟨d, S1, h1, q⟩ => wS_with ⟨d, S1, h1, _, _, _, rfl, q⟩
theorem wS_if {c : MT} {a b : MS} : (wT c ρ S fun x S1 => if x = true then wS a ρ S1 Q else wS b ρ S1 Q) → wS (ifS c a b) ρ S Q := by
  rintro ⟨x, S1, h1, q⟩
  cases x with
  | true =>
    obtain ⟨f, ρ', S', h2, q⟩ := q
    exact ⟨f, ρ', S', by unfold ifS; rw [h1]; exact h2, q⟩
  | false =>
    obtain ⟨f, ρ', S', h2, q⟩ := q
    exact ⟨f, ρ', S', by unfold ifS; rw [h1]; exact h2, q⟩
theorem wS_asg {a : ME} {g : MG} : (wE a ρ S fun d S1 => gW (g d ρ S1) fun ρ2 S2 => Q .nx ρ2 S2) → wS (asgS a g) ρ S Q := by
  rintro ⟨d, S1, h1, ρ2, S2, h2, q⟩
  refine wS_with ⟨d, S1, h1, _, ρ2, S2, ?_, q⟩
  simp only
  rw [h2]
theorem wS_set {i : Nat} {a : ME} : (wE a ρ S fun d S1 => Q .nx (ρ.set i (some d)) S1) → wS (setS i a) ρ S Q := fun ⟨d, S1, h1, q⟩ => wS_asg ⟨d, S1, h1, _, _, rfl, q⟩
theorem wS_par {i j : Nat} {t : MA} : (wA t ρ S fun ds S1 => ∃ x y, ds = [x, y] ∧ Q .nx ((ρ.set i (some x)).set j (some y)) S1) → wS (parS i j t) ρ S Q := by
  rintro ⟨ds, S1, h1, x, y, rfl, q⟩
  exact ⟨_, _, _, by unfold parS; rw [h1], q⟩
theorem wS_sub {f : D → D → D → Sto → Option Sto} {o i a : ME} : (wE a ρ S fun d S1 => wE o ρ S1 fun x S2 => wE i ρ S2 fun y S3 => sW (f x y d S3) fun S4 => Q .nx ρ S4) → wS (subS f o i a) ρ S Q := by
  rintro ⟨d, S1, h1, x, S2, h2, y, S3, h3, S4, h4, q⟩
  refine wS_with ⟨d, S1, h1, wS_with ⟨x, S2, h2, wS_with ⟨y, S3, h3, _, ρ, S4, ?_, q⟩⟩⟩
  simp only
  rw [h4]
theorem wS_fld {C f : Str} {o v : ME} : (wE v ρ S fun d S1 => wE o ρ S1 fun x S2 => ∃ l fs, x = .ref l ∧ S2[l]? = some (.ins C fs) ∧ fs.length < 1000 ∧ Q .nx ρ (S2.set l (.ins C (putFD f d fs)))) → wS (sfM C f o v) ρ S Q := by
  rintro ⟨d, S1, h1, x, S2, h2, l, fs, rfl, hS, hl, q⟩
  refine wS_with ⟨d, S1, h1, wS_with ⟨_, S2, h2, _, ρ, _, ?_, q⟩⟩
  simp [hS, hl]
/-- a def's body -/
theorem wF_def {np N : Nat} {b : MS} {ds : List D} {Q : D → Sto → Prop} (hl : ds.length = np) (h : wS b (ds.map some ++ List.replicate (N - np) none) S fun f _ S' => match f with
    | .nx => Q .non S'
    | .rt d => Q d S'
    | _ => False) : wF (defM np N b) ds S Q := by
  obtain ⟨f, ρ', S', h1, q⟩ := h
  unfold wF defM
  rw [if_pos hl, h1]
  cases f with
  | nx => exact ⟨_, _, rfl, q⟩
  | rt d => exact ⟨_, _, rfl, q⟩
  | _ => exact q.elim
theorem wF_mono {m : MF} {ds : List D} {Q R : D → Sto → Prop} (h : wF m ds S Q) (k : ∀ d S', Q d S' → R d S') : wF m ds S R := by
  obtain ⟨d, S', e, q⟩ := h
  exact ⟨d, S', e, k _ _ q⟩
theorem wE_mono {m : ME} {Q R : D → Sto → Prop} (h : wE m ρ S Q) (k : ∀ d S', Q d S' → R d S') : wE m ρ S R := by
  obtain ⟨d, S', e, q⟩ := h
  exact ⟨d, S', e, k _ _ q⟩
theorem wS_mono {m : MS} {Q R : Fl → En → Sto → Prop} (h : wS m ρ S Q) (k : ∀ f ρ' S', Q f ρ' S' → R f ρ' S') : wS m ρ S R := by
  obtain ⟨f, ρ', S', e, q⟩ := h
  exact ⟨f, ρ', S', e, k _ _ _ q⟩
/-! ### loops -/
theorem loop_inv {src : Src} {g : MG} {b : MS} {n : Nat} (Inv : Nat → En → Sto → Prop) (hend : ∀ ρ S, Inv n ρ S → src.get S n = some none)
    (step : ∀ i ρ S, i < n → Inv i ρ S → ∃ d, src.get S i = some (some d) ∧ gW (g d ρ S) fun ρ1 S1 => wS b ρ1 S1 fun f ρ2 S2 => (f = .nx ∨ f = .ct) ∧ Inv (i + 1) ρ2 S2) :
    ∀ (k i fuel : Nat) (ρ : En) (S : Sto), k + i = n → k < fuel → Inv i ρ S → wS (loopS src g b fuel i) ρ S fun f ρ' S' => f = .nx ∧ Inv n ρ' S' := by
  intro k
  induction k with
  | zero =>
    intro i fuel ρ S hi hf h
    obtain ⟨m, rfl⟩ : ∃ m, fuel = m + 1 := ⟨fuel - 1, by omega⟩
    have : i = n := by omega
    subst this
    exact ⟨.nx, ρ, S, by unfold loopS; rw [hend ρ S h], rfl, h⟩
  | succ k ih =>
    intro i fuel ρ S hi hf h
    obtain ⟨m, rfl⟩ : ∃ m, fuel = m + 1 := ⟨fuel - 1, by omega⟩
    obtain ⟨d, h1, ρ1, S1, h2, f, ρ2, S2, h3, hfl, h4⟩ := step i ρ S (by omega) h
    obtain ⟨f', ρ', S', h5, q⟩ := ih (i + 1) m ρ2 S2 (by omega) (by omega) h4
    refine ⟨f', ρ', S', ?_, q⟩
    unfold loopS
    rw [h1]
    simp only
    rw [h2]
    simp only
    rw [h3]
    rcases hfl with rfl | rfl
    · exact h5
    · exact h5
theorem wS_for {m : MI} {g : MG} {b : MS} (h : wI m ρ S fun src S1 => ∃ (n : Nat) (Inv : Nat → En → Sto → Prop), n ≤ src.len S1 ∧ Inv 0 ρ S1 ∧ (∀ ρ S, Inv n ρ S → src.get S n = some none) ∧
    (∀ i ρ S, i < n → Inv i ρ S → ∃ d, src.get S i = some (some d) ∧ gW (g d ρ S) fun ρ1 S1 => wS b ρ1 S1 fun f ρ2 S2 => (f = .nx ∨ f = .ct) ∧ Inv (i + 1) ρ2 S2) ∧ ∀ ρ' S', Inv n ρ' S' → Q .nx ρ' S') : wS (forS m g b) ρ S Q := by
  obtain ⟨src, S1, h1, n, Inv, hn, h0, hend, step, fin⟩ := h
  obtain ⟨f, ρ', S', h2, rfl, h3⟩ := loop_inv Inv hend step n 0 (src.len S1 + 1) ρ S1 (by omega) (by omega) h0
  exact ⟨.nx, ρ', S', by unfold forS; rw [h1]; exact h2, fin _ _ h3⟩
theorem while_inv {c : MT} {b : MS} (Inv : Nat → En → Sto → Prop) (Fin : En → Sto → Prop)
    (step : ∀ k ρ S, Inv k ρ S → wT c ρ S fun x S1 => if x = true then ∃ k', k' < k ∧ wS b ρ S1 fun f ρ2 S2 => (f = .nx ∨ f = .ct) ∧ Inv k' ρ2 S2 else Fin ρ S1) :
    ∀ (fuel k : Nat) (ρ : En) (S : Sto), k < fuel → Inv k ρ S → wS (whileS c b fuel) ρ S fun f ρ' S' => f = .nx ∧ Fin ρ' S' := by
  intro fuel
  induction fuel with
  | zero => intro k ρ S h; omega
  | succ fuel ih =>
    intro k ρ S hk h
    obtain ⟨x, S1, h1, q⟩ := step k ρ S h
    cases x with
    | false =>
      refine ⟨.nx, ρ, S1, ?_, rfl, q⟩
      unfold whileS
      rw [h1]
    | true =>
      obtain ⟨k', hk', f, ρ2, S2, h2, hf, h3⟩ := q
      obtain ⟨f', ρ', S', h4, q'⟩ := ih k' ρ2 S2 (by omega) h3
      refine ⟨f', ρ', S', ?_, q'⟩
      unfold whileS
      rw [h1]
      simp only
      rw [h2]
      rcases hf with rfl | rfl
      · exact h4
      · exact h4
theorem comp_inv {src : Src} {g : MG} {t : MT} {el : ME} {ρ : En} {n : Nat} (Inv : Nat → Sto → List D → Prop) (hend : ∀ S acc, Inv n S acc → src.get S n = some none)
    (step : ∀ i S acc, i < n → Inv i S acc → ∃ d, src.get S i = some (some d) ∧ gW (g d ρ S) fun ρ1 S1 => wT t ρ1 S1 fun x S2 => if x = true then wE el ρ1 S2 fun y S3 => acc.length < sizeLine ∧ Inv (i + 1) S3 (acc ++ [y]) else Inv (i + 1) S2 acc) :
    ∀ (k i fuel : Nat) (S : Sto) (acc : List D), k + i = n → k < fuel → Inv i S acc → ∃ ds S', compL src g t el ρ fuel i S acc = some (ds, S') ∧ Inv n S' ds := by
  intro k
  induction k with
  | zero =>
    intro i fuel S acc hi hf h
    obtain ⟨m, rfl⟩ : ∃ m, fuel = m + 1 := ⟨fuel - 1, by omega⟩
    have : i = n := by omega
    subst this
    exact ⟨acc, S, by unfold compL; rw [hend S acc h], h⟩
  | succ k ih =>
    intro i fuel S acc hi hf h
    obtain ⟨m, rfl⟩ : ∃ m, fuel = m + 1 := ⟨fuel - 1, by omega⟩
    obtain ⟨d, h1, ρ1, S1, h2, x, S2, h3, q⟩ := step i S acc (by omega) h
    cases x with
    | true =>
      obtain ⟨y, S3, h4, hz, h5⟩ := q
      obtain ⟨ds, S', h6, q'⟩ := ih (i + 1) m S3 _ (by omega) (by omega) h5
      refine ⟨ds, S', ?_, q'⟩
      unfold compL
      rw [h1]
      simp only
      rw [h2]
      simp only
      rw [h3]
      simp only
      rw [h4]
      simp only
      rw [if_pos hz]
      exact h6
    | false =>
      obtain ⟨ds, S', h6, q'⟩ := ih (i + 1) m S2 _ (by omega) (by omega) q
      refine ⟨ds, S', ?_, q'⟩
      unfold compL
      rw [h1]
      simp only
      rw [h2]
      simp only
      rw [h3]
      exact h6
theorem wE_lc {m : MI} {own : List Nat} {g : MG} {t : MT} {el : ME} {Q : D → Sto → Prop} (h : wI m ρ S fun src S1 => ∃ (n : Nat) (Inv : Nat → Sto → List D → Prop), n ≤ src.len S1 ∧ Inv 0 S1 [] ∧ (∀ S acc, Inv n S acc → src.get S n = some none) ∧
    (∀ i S acc, i < n → Inv i S acc → ∃ d, src.get S i = some (some d) ∧ gW (g d (wipeD ρ own) S) fun ρ1 S1 => wT t ρ1 S1 fun x S2 => if x = true then wE el ρ1 S2 fun y S3 => acc.length < sizeLine ∧ Inv (i + 1) S3 (acc ++ [y]) else Inv (i + 1) S2 acc) ∧
    ∀ S' ds, Inv n S' ds → Q (.ref S'.length) (S' ++ [.lst ds])) : wE (lcM m own g t el) ρ S Q := by
  obtain ⟨src, S1, h1, n, Inv, hn, h0, hend, step, fin⟩ := h
  obtain ⟨ds, S', h2, h3⟩ := comp_inv Inv hend step n 0 (src.len S1 + 1) S1 [] (by omega) (by omega) h0
  refine ⟨.ref S'.length, S' ++ [.lst ds], bnd_iff.mpr ⟨src, S1, h1, ?_⟩, fin _ _ h3⟩
  rw [h2]
theorem compK_inv {src : Src} {g : MG} {t : MT} {ek ev : ME} {ρ : En} {n : Nat} (Inv : Nat → Sto → List (D × D) → Prop) (hend : ∀ S acc, Inv n S acc → src.get S n = some none)
    (step : ∀ i S acc, i < n → Inv i S acc → ∃ d, src.get S i = some (some d) ∧ gW (g d ρ S) fun ρ1 S1 => wT t ρ1 S1 fun x S2 => if x = true then wE ek ρ1 S2 fun y S3 => ∃ k, keyD y = some k ∧ wE ev ρ1 S3 fun z S4 => acc.length < sizeLine ∧ Inv (i + 1) S4 (putD acc k y z) else Inv (i + 1) S2 acc) :
    ∀ (k i fuel : Nat) (S : Sto) (acc : List (D × D)), k + i = n → k < fuel → Inv i S acc → ∃ ds S', compK src g t ek ev ρ fuel i S acc = some (ds, S') ∧ Inv n S' ds := by
  intro k
  induction k with
  | zero =>
    intro i fuel S acc hi hf h
    obtain ⟨m, rfl⟩ : ∃ m, fuel = m + 1 := ⟨fuel - 1, by omega⟩
    have : i = n := by omega
    subst this
    exact ⟨acc, S, by unfold compK; rw [hend S acc h], h⟩
  | succ k ih =>
    intro i fuel S acc hi hf h
    obtain ⟨m, rfl⟩ : ∃ m, fuel = m + 1 := ⟨fuel - 1, by omega⟩
    obtain ⟨d, h1, ρ1, S1, h2, x, S2, h3, q⟩ := step i S acc (by omega) h
    cases x with
    | true =>
      obtain ⟨y, S3, h4, kk, hk, z, S4, h7, hz, h5⟩ := q
      obtain ⟨ds, S', h6, q'⟩ := ih (i + 1) m S4 _ (by omega) (by omega) h5
      refine ⟨ds, S', ?_, q'⟩
      unfold compK
      rw [h1]
      simp only
      rw [h2]
      simp only
      rw [h3]
      simp only
      rw [h4]
      simp only
      rw [hk]
      simp only
      rw [h7]
      simp only
      rw [if_pos hz]
      exact h6
    | false =>
      obtain ⟨ds, S', h6, q'⟩ := ih (i + 1) m S2 _ (by omega) (by omega) q
      refine ⟨ds, S', ?_, q'⟩
      unfold compK
      rw [h1]
      simp only
      rw [h2]
      simp only
      rw [h3]
      exact h6
theorem wE_dc {m : MI} {own : List Nat} {g : MG} {t : MT} {ek ev : ME} {Q : D → Sto → Prop} (h : wI m ρ S fun src S1 => ∃ (n : Nat) (Inv : Nat → Sto → List (D × D) → Prop), n ≤ src.len S1 ∧ Inv 0 S1 [] ∧ (∀ S acc, Inv n S acc → src.get S n = some none) ∧
    (∀ i S acc, i < n → Inv i S acc → ∃ d, src.get S i = some (some d) ∧ gW (g d (wipeD ρ own) S) fun ρ1 S1 => wT t ρ1 S1 fun x S2 => if x = true then wE ek ρ1 S2 fun y S3 => ∃ k, keyD y = some k ∧ wE ev ρ1 S3 fun z S4 => acc.length < sizeLine ∧ Inv (i + 1) S4 (putD acc k y z) else Inv (i + 1) S2 acc) ∧
    ∀ S' ds, Inv n S' ds → Q (.ref S'.length) (S' ++ [.dct ds])) : wE (dcM m own g t ek ev) ρ S Q := by
  obtain ⟨src, S1, h1, n, Inv, hn, h0, hend, step, fin⟩ := h
  obtain ⟨ds, S', h2, h3⟩ := compK_inv Inv hend step n 0 (src.len S1 + 1) S1 [] (by omega) (by omega) h0
  refine ⟨.ref S'.length, S' ++ [.dct ds], bnd_iff.mpr ⟨src, S1, h1, ?_⟩, fin _ _ h3⟩
  rw [h2]
/-! ### what is walked -/
def srcO (S : Sto) : D → Option Src
  | .tup ds => some (.its ds)
  | .rol ds => some (.its ds)
  | .str z => some (.sgn z)
  | .ref l => (match S[l]? with
    | some (.lst _) => some (.cell l)
    | _ => none)
  | _ => none
theorem wI_any {a : ME} {Q : Src → Sto → Prop} : wI (anyI a) ρ S Q ↔ wE a ρ S fun x S1 => ∃ src, srcO S1 x = some src ∧ Q src S1 := by
  unfold wI anyI
  rw [bndW]
  constructor
  · rintro ⟨x, S1, h1, d, S', h2, q⟩
    refine ⟨x, S1, h1, ?_⟩
    split at h2
    · cases h2; exact ⟨_, rfl, q⟩
    · cases h2; exact ⟨_, rfl, q⟩
    · cases h2; exact ⟨_, rfl, q⟩
    · rename_i l
      split at h2
      · rename_i ds hS
        cases h2
        exact ⟨_, by unfold srcO; simp [hS], q⟩
      · cases h2
    · cases h2
  · rintro ⟨x, S1, h1, src, hs, q⟩
    refine ⟨x, S1, h1, src, S1, ?_, q⟩
    unfold srcO at hs
    split at hs
    · cases hs; rfl
    · cases hs; rfl
    · cases hs; rfl
    · split at hs
      · rename_i hS
        cases hs
        simp [hS]
      · cases hs
    · cases hs
theorem wI_rng1 {t : MA} {Q : Src → Sto → Prop} : (wA t ρ S fun ds S1 => ∃ j, ds = [.int j] ∧ (-(2 ^ 62) ≤ j ∧ j < 2 ^ 62) ∧ Q (.rng 0 j.toNat) S1) → wI (rng1I t) ρ S Q := by
  rintro ⟨ds, S1, h1, j, rfl, hj, q⟩
  refine ⟨_, S1, bnd_iff.mpr ⟨_, S1, h1, ?_⟩, q⟩
  exact if_pos hj
theorem wI_enu {t : MA} {Q : Src → Sto → Prop} : (wA t ρ S fun ds S1 => ∃ l xs, ds = [.ref l] ∧ S1[l]? = some (.lst xs) ∧ Q (.enu l) S1) → wI (enuI t) ρ S Q := by
  rintro ⟨ds, S1, h1, l, xs, rfl, hS, q⟩
  refine ⟨_, S1, bnd_iff.mpr ⟨_, S1, h1, ?_⟩, q⟩
  simp [hS]
end
end Td

set_option autoImplicit false
set_option Elab.async false
set_option linter.all false
set_option maxRecDepth 100000
set_option maxHeartbeats 4000000
namespace W77
open PySem PySem.Spec PyProof.Rows L2 RZ Td
abbrev FUEL : Nat := 4096
/-! ### the plain functions -/
def b_is_name : MS :=
  (seqS (ifS (orT (notT (tstM (cbM isiD (consA (varM 0) (consA (cM (.ty "str")) nilA))))) (orT (notT (tstM (chM leD leD (cM (.int 1)) (cbM lenD (consA (varM 0) nilA)) (cM (.int 6))))) (tstM (binM inD (varM 0) (cM (.tup ((["words", "places", "begin", "to", "when", "then"] : List Str).map D.str))))))) (retS (cM (.bl false))) nextS) (retS (cbM allD (consA (lcM (anyI (varM 0)) (([("sign", 1)] : List (Str × Nat)).map (·.2)) (nameG 1) yesT (binM inD (varM 1) (cM (.str "abcdefghijklmnopqrstuvwxyz")))) nilA))))
def m_is_name : MF := defM 1 2 b_is_name
def b_are_names : MS :=
  (seqS (ifS (orT (notT (tstM (cbM isiD (consA (varM 0) (consA (tupM (consA (cM (.ty "list")) (consA (cM (.ty "tuple")) nilA))) nilA))))) (notT (tstM (chM leD leD (cM (.int 1)) (cbM lenD (consA (varM 0) nilA)) (varM 1))))) (retS (cM (.bl false))) nextS) (retS (andE (cbM allD (consA (lcM (anyI (varM 0)) (([("name", 2)] : List (Str × Nat)).map (·.2)) (nameG 2) yesT (callM m_is_name (consA (varM 2) nilA))) nilA)) (binM eqD (lsM (varM 0)) (cbM lenD (consA (varM 0) nilA))))))
def m_are_names : MF := defM 2 3 b_are_names
def b_is_number : MS :=
  (retS (andE (cbM isiD (consA (varM 0) (consA (cM (.ty "int")) nilA))) (notE (cbM isiD (consA (varM 0) (consA (cM (.ty "bool")) nilA))))))
def m_is_number : MF := defM 1 1 b_is_number
def b_is_house_step : MS :=
  (seqS (ifS (orT (notT (tstM (cbM isiD (consA (varM 0) (consA (cM (.ty "tuple")) nilA))))) (orT (tstM (binM neD (cbM lenD (consA (varM 0) nilA)) (cM (.int 3)))) (orT (notT (tstM (callM m_is_name (consA (binM idxD (varM 0) (cM (.int 0))) nilA)))) (notT (tstM (callM m_is_name (consA (binM idxD (varM 0) (cM (.int 2))) nilA))))))) (retS (cM (.bl false))) nextS) (seqS (ifS (orT (tstM (binM notInD (binM idxD (varM 0) (cM (.int 0))) (varM 2))) (orT (tstM (binM notInD (binM idxD (varM 0) (cM (.int 2))) (varM 2))) (orT (notT (tstM (cbM isiD (consA (binM idxD (varM 0) (cM (.int 1))) (consA (cM (.ty "tuple")) nilA))))) (tstM (binM neD (cbM lenD (consA (binM idxD (varM 0) (cM (.int 1))) nilA)) (varM 1)))))) (retS (cM (.bl false))) nextS) (retS (cbM allD (consA (lcM (anyI (binM idxD (varM 0) (cM (.int 1)))) (([("one", 3)] : List (Str × Nat)).map (·.2)) (nameG 3) yesT (andE (callM m_is_number (consA (varM 3) nilA)) (chM leD leD (binM subD (cM (.int 0)) (cM (.int 9))) (varM 3) (cM (.int 9))))) nilA)))))
def m_is_house_step : MF := defM 3 4 b_is_house_step
def b_House___init__ : MS :=
  (seqS (ifS (notT (tstM (callM m_are_names (consA (varM 1) (consA (cM (.int 5)) nilA))))) noS nextS) (seqS (ifS (notT (tstM (callM m_are_names (consA (varM 2) (consA (cM (.int 4)) nilA))))) noS nextS) (seqS (ifS (orT (notT (tstM (cbM isiD (consA (varM 3) (consA (tupM (consA (cM (.ty "list")) (consA (cM (.ty "tuple")) nilA))) nilA))))) (notT (tstM (chM leD leD (cM (.int 1)) (cbM lenD (consA (varM 3) nilA)) (cM (.int 8)))))) noS nextS) (seqS (forS (enuI (consA (varM 3) nilA)) (tupG 2 (consG (nameG 4) (consG (nameG 5) nilG))) (ifS (notT (tstM (callM m_is_house_step (consA (varM 5) (consA (cbM lenD (consA (varM 1) nilA)) (consA (varM 2) nilA)))))) noS nextS)) (seqS (sfM "House" "ware_names" (varM 0) (cbM listD (consA (varM 1) nilA))) (seqS (sfM "House" "room_names" (varM 0) (cbM listD (consA (varM 2) nilA))) (sfM "House" "house_steps" (varM 0) (cbM listD (consA (varM 3) nilA)))))))))
def m_House___init__ : MF := defM 4 6 b_House___init__
def b__law_begun : MS :=
  (seqS (setS 1 (lcM (anyI (varM 0)) (([("cell", 2)] : List (Str × Nat)).map (·.2)) (nameG 2) (tstM (binM geD (cbM absD (consA (varM 2) nilA)) (binM powD (cM (.int 10)) (cM (.int 18))))) (binM subD (cbM absD (consA (varM 2) nilA)) (binM powD (cM (.int 10)) (cM (.int 18)))))) (retS (dspM (((cM (.str "great")), (varM 1)) :: (((cM (.str "cells")), (lcM (anyI (varM 0)) (([("cell", 2)] : List (Str × Nat)).map (·.2)) (nameG 2) yesT (cbM absD (consA (varM 2) nilA)))) :: (((cM (.str "rest")), (cM (.int 0))) :: (((cM (.str "turn")), (cM (.int 0))) :: [])))))))
def m__law_begun : MF := defM 1 3 b__law_begun
def b__law_mixed : MS :=
  (seqS (parS 1 2 (consA (binM addD (binM idxD (varM 0) (cM (.str "turn"))) (cM (.int 1))) (consA (cM (.int 0)) nilA))) (seqS (subS setID (varM 0) (cM (.str "turn")) (varM 1)) (seqS (forS (anyI (lstM (consA (cM (.int 2147483549)) (consA (cM (.int 2147483543)) (consA (cM (.int 2147483497)) (consA (cM (.int 2147483489)) nilA)))))) (nameG 3) (seqS (setS 4 (binM addD (binM mulD (cM (.int 69621)) (varM 1)) (binM fdivD (varM 3) (cM (.int 41))))) (seqS (forS (anyI (binM idxD (varM 0) (cM (.str "cells")))) (nameG 5) (setS 4 (binM modD (cbM intD (consA (binM addD (binM addD (binM mulD (varM 4) (cM (.int 48271))) (varM 5)) (varM 1)) nilA)) (varM 3)))) (setS 2 (binM addD (binM mulD (varM 2) (cM (.int 2147483659))) (binM modD (cbM intD (consA (binM powD (varM 4) (cM (.int 5))) nilA)) (varM 3))))))) (retS (varM 2)))))
def m__law_mixed : MF := defM 1 6 b__law_mixed
def b__law_draw : MS :=
  (seqS (ifS (tstM (binM eqD (binM idxD (varM 0) (cM (.str "rest"))) (cM (.int 0)))) (subS setID (varM 0) (cM (.str "rest")) (ifE (tstM (binM neD (binM idxD (varM 0) (cM (.str "great"))) (lstM nilA))) (mtM lstTy popD (binM idxD (varM 0) (cM (.str "great"))) (consA (cM (.int 0)) nilA)) (callM m__law_mixed (consA (varM 0) nilA)))) nextS) (seqS (setS 2 (binM modD (cbM intD (consA (binM idxD (varM 0) (cM (.str "rest"))) nilA)) (varM 1))) (seqS (subS setID (varM 0) (cM (.str "rest")) (binM fdivD (binM idxD (varM 0) (cM (.str "rest"))) (varM 1))) (retS (varM 2)))))
def m__law_draw : MF := defM 2 3 b__law_draw
def b__law_pick : MS :=
  (retS (binM idxD (varM 1) (callM m__law_draw (consA (varM 0) (consA (cbM lenD (consA (varM 1) nilA)) nilA)))))
def m__law_pick : MF := defM 2 2 b__law_pick
def b__law_shuffled : MS :=
  (seqS (parS 2 3 (consA (cbM listD (consA (varM 1) nilA)) (consA (lstM nilA) nilA))) (seqS (whileS (tstM (binM neD (varM 2) (lstM nilA))) (exprS (mtM lstTy appD (varM 3) (consA (mtM lstTy popD (varM 2) (consA (callM m__law_draw (consA (varM 0) (consA (cbM lenD (consA (varM 2) nilA)) nilA))) nilA)) nilA))) FUEL) (retS (varM 3))))
def m__law_shuffled : MF := defM 2 4 b__law_shuffled
def b__law_house : MS :=
  (seqS (setS 5 (slM (callM m__law_shuffled (consA (varM 0) (consA (lstM (consA (cM (.str "x")) (consA (cM (.str "y")) (consA (cM (.str "z")) (consA (cM (.str "u")) (consA (cM (.str "ore")) nilA)))))) nilA))) noM (soM (binM addD (cM (.int 1)) (callM m__law_draw (consA (varM 0) (consA (varM 1) nilA))))))) (seqS (setS 6 (slM (callM m__law_shuffled (consA (varM 0) (consA (lstM (consA (cM (.str "p")) (consA (cM (.str "q")) (consA (cM (.str "r")) (consA (cM (.str "x")) nilA))))) nilA))) noM (soM (binM addD (cM (.int 1)) (callM m__law_draw (consA (varM 0) (consA (varM 2) nilA))))))) (seqS (setS 7 (lstM nilA)) (seqS (forS (rng1I (consA (binM addD (cM (.int 1)) (callM m__law_draw (consA (varM 0) (consA (varM 3) nilA)))) nilA)) (nameG 8) (seqS (setS 9 (cbM tupleD (consA (lcM (anyI (varM 5)) (([("ware", 10)] : List (Str × Nat)).map (·.2)) (nameG 10) yesT (callM m__law_pick (consA (varM 0) (consA (lstM (consA (cM (.int 0)) (consA (cM (.int 0)) (consA (cM (.int 1)) (consA (binM subD (cM (.int 0)) (cM (.int 1))) (consA (binM subD (cM (.int 0)) (cM (.int 1))) (consA (varM 4) (consA (binM subD (cM (.int 0)) (varM 4)) nilA)))))))) nilA)))) nilA))) (exprS (mtM lstTy appD (varM 7) (consA (tupM (consA (callM m__law_pick (consA (varM 0) (consA (varM 6) nilA))) (consA (varM 9) (consA (callM m__law_pick (consA (varM 0) (consA (varM 6) nilA))) nilA)))) nilA))))) (retS (tupM (consA (varM 5) (consA (varM 6) (consA (varM 7) nilA)))))))))
def m__law_house : MF := defM 5 11 b__law_house
def b__law_is : MS :=
  (retS (andE (binM eqD (varM 0) (varM 1)) (andE (binM eqD (varM 1) (varM 0)) (binM eqD (cbM reprD (consA (varM 0) nilA)) (cbM reprD (consA (varM 1) nilA))))))
def m__law_is : MF := defM 2 2 b__law_is
def b_House___len__ : MS :=
  (retS (cbM lenD (consA (fldM "House" "house_steps" (varM 0)) nilA)))
def m_House___len__ : MF := defM 1 1 b_House___len__
def b_need_house : MS :=
  (ifS (notT (tstM (cbM (isiOD "House") (consA (varM 0) (consA (cM (.obj "House")) nilA))))) noS nextS)
def m_need_house : MF := defM 1 1 b_need_house
def b_reached : MS :=
  (seqS (parS 3 4 (consA (lstM (consA (varM 1) nilA)) (consA (lstM (consA (varM 1) nilA)) nilA))) (seqS (whileS (tstM (binM neD (varM 4) (lstM nilA))) (seqS (setS 5 (mtM lstTy popD (varM 4) nilA)) (forS (anyI (varM 2)) (nameG 6) (seqS (asgS (binM idxD (fldM "House" "house_steps" (varM 0)) (varM 6)) (tupG 3 (consG (nameG 7) (consG (nameG 8) (consG (nameG 9) nilG))))) (ifS (andT (tstM (binM eqD (varM 7) (varM 5))) (tstM (binM notInD (varM 9) (varM 3)))) (seqS (exprS (mtM lstTy appD (varM 3) (consA (varM 9) nilA))) (exprS (mtM lstTy appD (varM 4) (consA (varM 9) nilA)))) nextS)))) FUEL) (retS (varM 3))))
def m_reached : MF := defM 3 10 b_reached
def b_rings_by : MS :=
  (seqS (parS 2 3 (consA (lstM nilA) (consA (lstM nilA) nilA))) (seqS (setS 4 (dcM (anyI (fldM "House" "room_names" (varM 0))) (([("room", 5)] : List (Str × Nat)).map (·.2)) (nameG 5) yesT (varM 5) (callM m_reached (consA (varM 0) (consA (varM 5) (consA (varM 1) nilA)))))) (seqS (forS (anyI (fldM "House" "room_names" (varM 0))) (nameG 5) (ifS (tstM (binM notInD (varM 5) (varM 3))) (seqS (setS 6 (cbM tupleD (consA (lcM (anyI (fldM "House" "room_names" (varM 0))) (([("one", 9)] : List (Str × Nat)).map (·.2)) (nameG 9) (andT (tstM (binM inD (varM 9) (binM idxD (varM 4) (varM 5)))) (tstM (binM inD (varM 5) (binM idxD (varM 4) (varM 9))))) (varM 9)) nilA))) (seqS (exprS (mtM lstTy extAD (varM 3) (consA (varM 6) nilA))) (seqS (setS 7 (dcM (anyI (varM 1)) (([("at", 10)] : List (Str × Nat)).map (·.2)) (nameG 10) yesT (varM 10) (tupM (consA (binM idxD (binM idxD (fldM "House" "house_steps" (varM 0)) (varM 10)) (cM (.int 0))) (consA (binM idxD (binM idxD (fldM "House" "house_steps" (varM 0)) (varM 10)) (cM (.int 2))) nilA))))) (seqS (setS 8 (cbM tupleD (consA (lcM (anyI (varM 1)) (([("at", 10)] : List (Str × Nat)).map (·.2)) (nameG 10) (andT (tstM (binM inD (binM idxD (binM idxD (varM 7) (varM 10)) (cM (.int 0))) (varM 6))) (tstM (binM inD (binM idxD (binM idxD (varM 7) (varM 10)) (cM (.int 1))) (varM 6)))) (varM 10)) nilA))) (ifS (tstM (binM neD (varM 8) (tupM nilA))) (exprS (mtM lstTy appD (varM 2) (consA (tupM (consA (varM 6) (consA (varM 8) nilA))) nilA))) nextS))))) nextS)) (retS (varM 2)))))
def m_rings_by : MF := defM 2 11 b_rings_by
def b_rings : MS :=
  (seqS (exprS (callM m_need_house (consA (varM 0) nilA))) (retS (callM m_rings_by (consA (varM 0) (consA (lrM (lenIM "House" m_House___len__ (varM 0))) nilA)))))
def m_rings : MF := defM 1 1 b_rings
def b_law : MS :=
  (seqS (setS 1 (callM m__law_begun (consA (varM 0) nilA))) (seqS (forS (rng1I (consA (binM addD (cM (.int 6)) (cbM min2D (consA (cbM lenD (consA (varM 0) nilA)) (consA (cM (.int 6)) nilA)))) nilA)) (nameG 2) (seqS (asgS (callM m__law_house (consA (varM 1) (consA (cM (.int 2)) (consA (cM (.int 4)) (consA (cM (.int 8)) (consA (cM (.int 2)) nilA)))))) (tupG 3 (consG (nameG 3) (consG (nameG 4) (consG (nameG 5) nilG))))) (seqS (setS 6 (cbM dictD (consA (lcM (anyI (varM 4)) (([("room", 11)] : List (Str × Nat)).map (·.2)) (nameG 11) yesT (tupM (consA (varM 11) (consA (lstM (consA (varM 11) nilA)) nilA)))) nilA))) (seqS (forS (anyI (varM 4)) (nameG 7) (forS (anyI (varM 5)) (tupG 3 (consG (nameG 8) (consG (nameG 9) (consG (nameG 10) nilG)))) (forS (anyI (varM 4)) (nameG 11) (ifS (andT (tstM (binM inD (varM 8) (binM idxD (varM 6) (varM 11)))) (tstM (binM notInD (varM 10) (binM idxD (varM 6) (varM 11))))) (subS setID (varM 6) (varM 11) (binM addD (binM idxD (varM 6) (varM 11)) (lstM (consA (varM 10) nilA)))) nextS)))) (seqS (parS 12 13 (consA (lstM nilA) (consA (lstM nilA) nilA))) (seqS (forS (anyI (varM 4)) (nameG 11) (seqS (setS 14 (cbM tupleD (consA (lcM (anyI (varM 4)) (([("other", 10)] : List (Str × Nat)).map (·.2)) (nameG 10) (andT (tstM (binM inD (varM 10) (binM idxD (varM 6) (varM 11)))) (tstM (binM inD (varM 11) (binM idxD (varM 6) (varM 10))))) (varM 10)) nilA))) (seqS (setS 15 (cbM tupleD (consA (lcM (enuI (consA (varM 5) nilA)) (([("at", 17), ("step", 18)] : List (Str × Nat)).map (·.2)) (tupG 2 (consG (nameG 17) (consG (nameG 18) nilG))) (andT (tstM (binM inD (binM idxD (varM 18) (cM (.int 0))) (varM 14))) (tstM (binM inD (binM idxD (varM 18) (cM (.int 2))) (varM 14)))) (varM 17)) nilA))) (seqS (ifS (andT (tstM (binM notInD (varM 11) (varM 13))) (tstM (binM neD (varM 15) (tupM nilA)))) (exprS (mtM lstTy appD (varM 12) (consA (tupM (consA (varM 14) (consA (varM 15) nilA))) nilA))) nextS) (setS 13 (binM addD (varM 13) (cbM listD (consA (varM 14) nilA)))))))) (seqS (setS 16 (makeM "House" m_House___init__ (consA (varM 3) (consA (varM 4) (consA (varM 5) nilA))))) (ifS (orT (notT (tstM (callM m__law_is (consA (callM m_rings (consA (varM 16) nilA)) (consA (varM 12) nilA))))) (notT (tstM (callM m__law_is (consA (callM m_rings (consA (varM 16) nilA)) (consA (varM 12) nilA)))))) (retS (cM (.bl false))) nextS)))))))) (retS (callM m__law_is (consA (callM m_rings (consA (makeM "House" m_House___init__ (consA (lstM (consA (cM (.str "x")) nilA)) (consA (lstM (consA (cM (.str "p")) (consA (cM (.str "q")) nilA))) (consA (lstM (consA (tupM (consA (cM (.str "p")) (consA (tupM (consA (binM subD (cM (.int 0)) (cM (.int 1))) nilA)) (consA (cM (.str "p")) nilA)))) (consA (tupM (consA (cM (.str "p")) (consA (tupM (consA (cM (.int 0)) nilA)) (consA (cM (.str "q")) nilA)))) nilA))) nilA)))) nilA)) (consA (lstM (consA (tupM (consA (tupM (consA (cM (.str "p")) nilA)) (consA (tupM (consA (cM (.int 0)) nilA)) nilA))) nilA)) nilA))))))
def m_law : MF := defM 1 19 b_law
/-! ### the text -/
def cBody : Stmt → List Stmt
  | .ClassDef (body := b) .. => b
  | _ => []
def top (i : Nat) : Stmt := PySem.Challenge.pw_timesdone_k77_whole_rings_of_houses.main.body.getD i (.Pass ⟨0, 0, 0, 0⟩)
abbrev s_is_name : Stmt := top 7
abbrev s_are_names : Stmt := top 8
abbrev s_is_number : Stmt := top 14
abbrev s_is_house_step : Stmt := top 15
abbrev s_House___init__ : Stmt := (cBody (top 16)).getD 0 (.Pass ⟨0, 0, 0, 0⟩)
abbrev s__law_begun : Stmt := top 22
abbrev s__law_mixed : Stmt := top 23
abbrev s__law_draw : Stmt := top 24
abbrev s__law_pick : Stmt := top 25
abbrev s__law_shuffled : Stmt := top 26
abbrev s__law_house : Stmt := top 28
abbrev s__law_is : Stmt := top 27
abbrev s_House___len__ : Stmt := (cBody (top 16)).getD 2 (.Pass ⟨0, 0, 0, 0⟩)
abbrev s_need_house : Stmt := top 17
abbrev s_reached : Stmt := top 18
abbrev s_rings_by : Stmt := top 19
abbrev s_rings : Stmt := top 20
abbrev s_law : Stmt := top 29
theorem sc_is_name : FnScope ["thing", "sign"] ["thing"] (defScope s_is_name) := ⟨rfl, rfl, rfl, by decide +kernel, rfl, by decide +kernel, by decide +kernel⟩
theorem sc_are_names : FnScope ["thing", "most", "name"] ["thing", "most"] (defScope s_are_names) := ⟨rfl, rfl, rfl, by decide +kernel, rfl, by decide +kernel, by decide +kernel⟩
theorem sc_is_number : FnScope ["thing"] ["thing"] (defScope s_is_number) := ⟨rfl, rfl, rfl, by decide +kernel, rfl, by decide +kernel, by decide +kernel⟩
theorem sc_is_house_step : FnScope ["thing", "many", "rooms", "one"] ["thing", "many", "rooms"] (defScope s_is_house_step) := ⟨rfl, rfl, rfl, by decide +kernel, rfl, by decide +kernel, by decide +kernel⟩
theorem sc_House___init__ : FnScope ["self", "wares", "rooms", "steps", "at", "step"] ["self", "wares", "rooms", "steps"] (defScope s_House___init__) := ⟨rfl, rfl, rfl, by decide +kernel, rfl, by decide +kernel, by decide +kernel⟩
theorem sc__law_begun : FnScope ["script", "great", "cell"] ["script"] (defScope s__law_begun) := ⟨rfl, rfl, rfl, by decide +kernel, rfl, by decide +kernel, by decide +kernel⟩
theorem sc__law_mixed : FnScope ["state", "turn", "found", "prime", "blend", "cell"] ["state"] (defScope s__law_mixed) := ⟨rfl, rfl, rfl, by decide +kernel, rfl, by decide +kernel, by decide +kernel⟩
theorem sc__law_draw : FnScope ["state", "room", "found"] ["state", "room"] (defScope s__law_draw) := ⟨rfl, rfl, rfl, by decide +kernel, rfl, by decide +kernel, by decide +kernel⟩
theorem sc__law_pick : FnScope ["state", "some"] ["state", "some"] (defScope s__law_pick) := ⟨rfl, rfl, rfl, by decide +kernel, rfl, by decide +kernel, by decide +kernel⟩
theorem sc__law_shuffled : FnScope ["state", "some", "left", "found"] ["state", "some"] (defScope s__law_shuffled) := ⟨rfl, rfl, rfl, by decide +kernel, rfl, by decide +kernel, by decide +kernel⟩
theorem sc__law_house : FnScope ["state", "most_wares", "most_rooms", "most_steps", "far", "wares", "rooms", "steps", "lap", "change", "ware"] ["state", "most_wares", "most_rooms", "most_steps", "far"] (defScope s__law_house) := ⟨rfl, rfl, rfl, by decide +kernel, rfl, by decide +kernel, by decide +kernel⟩
theorem sc__law_is : FnScope ["found", "due"] ["found", "due"] (defScope s__law_is) := ⟨rfl, rfl, rfl, by decide +kernel, rfl, by decide +kernel, by decide +kernel⟩
theorem sc_House___len__ : FnScope ["self"] ["self"] (defScope s_House___len__) := ⟨rfl, rfl, rfl, by decide +kernel, rfl, by decide +kernel, by decide +kernel⟩
theorem sc_need_house : FnScope ["house"] ["house"] (defScope s_need_house) := ⟨rfl, rfl, rfl, by decide +kernel, rfl, by decide +kernel, by decide +kernel⟩
theorem sc_reached : FnScope ["house", "room", "steps", "found", "waiting", "here", "at", "begin", "change", "other"] ["house", "room", "steps"] (defScope s_reached) := ⟨rfl, rfl, rfl, by decide +kernel, rfl, by decide +kernel, by decide +kernel⟩
theorem sc_rings_by : FnScope ["house", "steps", "found", "done", "ways", "room", "some", "ends", "inside", "one", "at"] ["house", "steps"] (defScope s_rings_by) := ⟨rfl, rfl, rfl, by decide +kernel, rfl, by decide +kernel, by decide +kernel⟩
theorem sc_rings : FnScope ["house"] ["house"] (defScope s_rings) := ⟨rfl, rfl, rfl, by decide +kernel, rfl, by decide +kernel, by decide +kernel⟩
theorem sc_law : FnScope ["script", "state", "turn", "wares", "rooms", "steps", "ways", "lap", "begin", "change", "other", "room", "due", "done", "some", "inside", "house", "at", "step"] ["script"] (defScope s_law) := ⟨rfl, rfl, rfl, by decide +kernel, rfl, by decide +kernel, by decide +kernel⟩
/-! ### what is known of the module -/
structure Fc (K : PySem.W.Frag) (mg : Str → Option Value) : Prop where
  free_abs : mg "abs" = none
  free_all : mg "all" = none
  free_bool : mg "bool" = none
  free_dict : mg "dict" = none
  free_enumerate : mg "enumerate" = none
  free_int : mg "int" = none
  free_isinstance : mg "isinstance" = none
  free_len : mg "len" = none
  free_list : mg "list" = none
  free_min : mg "min" = none
  free_range : mg "range" = none
  free_repr : mg "repr" = none
  free_set : mg "set" = none
  free_str : mg "str" = none
  free_tuple : mg "tuple" = none
  glo_House : mg "House" = some (.ref (He.ga K "House"))
  glo_OWN : mg "OWN" = some (.ref (He.ga K "OWN"))
  int_MOST_CHANGE : ∃ t, mg "MOST_CHANGE" = some (.int 9 t)
  int_MOST_ROOMS : ∃ t, mg "MOST_ROOMS" = some (.int 4 t)
  int_MOST_STEPS : ∃ t, mg "MOST_STEPS" = some (.int 8 t)
  int_MOST_WARES : ∃ t, mg "MOST_WARES" = some (.int 5 t)
  str_LETTERS : ∃ t, mg "LETTERS" = some (.str "abcdefghijklmnopqrstuvwxyz" t)
  tup_OWN : ∀ H, SqT (gxOf K).K H (He.ga K "OWN") ((["words", "places", "begin", "to", "when", "then"] : List Str).map V.str)
  cls_House : Cls (gxOf K).K ((gxOf K).cad "House")
  noat_House_house_steps : NoAttr (gxOf K).K ((gxOf K).cad "House") "house_steps"
  noat_House_room_names : NoAttr (gxOf K).K ((gxOf K).cad "House") "room_names"
  noat_House_ware_names : NoAttr (gxOf K).K ((gxOf K).cad "House") "ware_names"
  isc_House : IsC (gxOf K) "House"
section
variable {P : Program} {w : World} {K : PySem.W.Frag} {mg : Str → Option Value} {base : Heap}
theorem ok_is_name {f : Addr} {fd : FuncData} (F : FunD K "is_name" "is_name" (defArgs s_is_name) (defBody s_is_name) (defScope s_is_name) [] [] f fd) (h : Fc K mg)   : FnG (gxOf K) P w mg base 1 f fd ["thing"] m_is_name := by
  have sc := sc_is_name
  exact FunD.okG (G := gxOf K) (N := ["thing", "sign"]) (ps := ["thing"]) (k := 0) (b := b_is_name) F sc fun cdv A outer s H E hr c =>
    (rss_cons (rs_if (RW.pt (rw_or (rt_not (rt_val (re_isi c h.free_isinstance (re_var 0) (re_tyn (n := "str") h.free_str (by decide +kernel))))) (rw_or (rt_not (rt_lele re_int (re_len c h.free_len (re_var 0)) re_int)) (rw_or1 (rt_in c (re_var 0) (re_gtup (zs := ["words", "places", "begin", "to", "when", "then"]) h.glo_OWN h.tup_OWN)))))) (rss_one (rs_ret re_bl)) rss_nil) (rss_one (rs_ret (re_all c rfl h.free_all (re_lc (own := [("sign", 1)]) c rfl sc.nd (ri_any c (re_var 0)) (blkOk_by (by kernel_rfl)) (fun _ _ _ _ _ => (rgo_name 1 sc.nd)) (fun _ _ _ _ _ c1 => rts_nil) (fun _ _ _ _ _ c1 => (re_in c1 (re_var 1) (re_gstr h.str_LETTERS))) (fun s H C cl fp => c.ofBlk s H _ C cl fp))))))
theorem ok_are_names {f : Addr} {fd : FuncData} (F : FunD K "are_names" "are_names" (defArgs s_are_names) (defBody s_are_names) (defScope s_are_names) [] [] f fd) (h : Fc K mg) (k_is_name : Fu (gxOf K) P w mg base 1 "is_name" ["thing"] m_is_name)  : FnG (gxOf K) P w mg base 2 f fd ["thing", "most"] m_are_names := by
  have sc := sc_are_names
  exact FunD.okG (G := gxOf K) (N := ["thing", "most", "name"]) (ps := ["thing", "most"]) (k := 1) (b := b_are_names) F sc fun cdv A outer s H E hr c =>
    (rss_cons (rs_if (RW.pt (rw_or (rt_not (rt_val (re_isi c h.free_isinstance (re_var 0) (re_tup (ra_cons (re_tyn (n := "list") h.free_list (by decide +kernel)) (ra_cons (re_tyn (n := "tuple") h.free_tuple (by decide +kernel)) ra_nil)))))) (rw_or1 (rt_not (rt_lele re_int (re_len c h.free_len (re_var 0)) (re_var 1)))))) (rss_one (rs_ret re_bl)) rss_nil) (rss_one (rs_ret (re_and (re_all c rfl h.free_all (re_lc (own := [("name", 2)]) c rfl sc.nd (ri_any c (re_var 0)) (blkOk_by (by kernel_rfl)) (fun _ _ _ _ _ => (rgo_name 2 sc.nd)) (fun _ _ _ _ _ c1 => rts_nil) (fun _ _ _ _ _ c1 => (Fu.call c1 k_is_name (hr.mono (by decide)) (ra_cons (re_var 2) ra_nil))) (fun s H C cl fp => c.ofBlk s H _ C cl fp))) (re_one (re_eq c (re_ls c rfl h.free_len h.free_set (re_var 0)) (re_len c h.free_len (re_var 0))))))))
theorem ok_is_number {f : Addr} {fd : FuncData} (F : FunD K "is_number" "is_number" (defArgs s_is_number) (defBody s_is_number) (defScope s_is_number) [] [] f fd) (h : Fc K mg)   : FnG (gxOf K) P w mg base 1 f fd ["thing"] m_is_number := by
  have sc := sc_is_number
  exact FunD.okG (G := gxOf K) (N := ["thing"]) (ps := ["thing"]) (k := 0) (b := b_is_number) F sc fun cdv A outer s H E hr c =>
    (rss_one (rs_ret (re_and (re_isi c h.free_isinstance (re_var 0) (re_tyn (n := "int") h.free_int (by decide +kernel))) (re_one (re_not (re_isi c h.free_isinstance (re_var 0) (re_tyn (n := "bool") h.free_bool (by decide +kernel))))))))
theorem ok_is_house_step {f : Addr} {fd : FuncData} (F : FunD K "is_house_step" "is_house_step" (defArgs s_is_house_step) (defBody s_is_house_step) (defScope s_is_house_step) [] [] f fd) (h : Fc K mg) (k_is_name : Fu (gxOf K) P w mg base 1 "is_name" ["thing"] m_is_name) (k_is_number : Fu (gxOf K) P w mg base 1 "is_number" ["thing"] m_is_number)  : FnG (gxOf K) P w mg base 2 f fd ["thing", "many", "rooms"] m_is_house_step := by
  have sc := sc_is_house_step
  exact FunD.okG (G := gxOf K) (N := ["thing", "many", "rooms", "one"]) (ps := ["thing", "many", "rooms"]) (k := 1) (b := b_is_house_step) F sc fun cdv A outer s H E hr c =>
    (rss_cons (rs_if (RW.pt (rw_or (rt_not (rt_val (re_isi c h.free_isinstance (re_var 0) (re_tyn (n := "tuple") h.free_tuple (by decide +kernel))))) (rw_or (rt_ne c (re_len c h.free_len (re_var 0)) re_int) (rw_or (rt_not (rt_val (Fu.call c k_is_name (hr.mono (by decide)) (ra_cons (re_idx c (re_var 0) re_int) ra_nil)))) (rw_or1 (rt_not (rt_val (Fu.call c k_is_name (hr.mono (by decide)) (ra_cons (re_idx c (re_var 0) re_int) ra_nil))))))))) (rss_one (rs_ret re_bl)) rss_nil) (rss_cons (rs_if (RW.pt (rw_or (rt_notIn c (re_idx c (re_var 0) re_int) (re_var 2)) (rw_or (rt_notIn c (re_idx c (re_var 0) re_int) (re_var 2)) (rw_or (rt_not (rt_val (re_isi c h.free_isinstance (re_idx c (re_var 0) re_int) (re_tyn (n := "tuple") h.free_tuple (by decide +kernel))))) (rw_or1 (rt_ne c (re_len c h.free_len (re_idx c (re_var 0) re_int)) (re_var 1))))))) (rss_one (rs_ret re_bl)) rss_nil) (rss_one (rs_ret (re_all c rfl h.free_all (re_lc (own := [("one", 3)]) c rfl sc.nd (ri_any c (re_idx c (re_var 0) re_int)) (blkOk_by (by kernel_rfl)) (fun _ _ _ _ _ => (rgo_name 3 sc.nd)) (fun _ _ _ _ _ c1 => rts_nil) (fun _ _ _ _ _ c1 => (re_and (Fu.call c1 k_is_number (hr.mono (by decide)) (ra_cons (re_var 3) ra_nil)) (re_one (re_lele (re_sub re_int (re_gint h.int_MOST_CHANGE)) (re_var 3) (re_gint h.int_MOST_CHANGE))))) (fun s H C cl fp => c.ofBlk s H _ C cl fp)))))))
theorem ok_House___init__ {f : Addr} {fd : FuncData} (F : FunD K "__init__" "House.__init__" (defArgs s_House___init__) (defBody s_House___init__) (defScope s_House___init__) [] [] f fd) (h : Fc K mg) (k_are_names : Fu (gxOf K) P w mg base 2 "are_names" ["thing", "most"] m_are_names) (k_is_house_step : Fu (gxOf K) P w mg base 2 "is_house_step" ["thing", "many", "rooms"] m_is_house_step)  : FnG (gxOf K) P w mg base 3 f fd ["self", "wares", "rooms", "steps"] m_House___init__ := by
  have sc := sc_House___init__
  exact FunD.okG (G := gxOf K) (N := ["self", "wares", "rooms", "steps", "at", "step"]) (ps := ["self", "wares", "rooms", "steps"]) (k := 2) (b := b_House___init__) F sc fun cdv A outer s H E hr c =>
    (rss_cons (rs_if (rt_not (rt_val (Fu.call c k_are_names (hr.mono (by decide)) (ra_cons (re_var 1) (ra_cons (re_gint h.int_MOST_WARES) ra_nil))))) (rss_one rs_never) rss_nil) (rss_cons (rs_if (rt_not (rt_val (Fu.call c k_are_names (hr.mono (by decide)) (ra_cons (re_var 2) (ra_cons (re_gint h.int_MOST_ROOMS) ra_nil))))) (rss_one rs_never) rss_nil) (rss_cons (rs_if (RW.pt (rw_or (rt_not (rt_val (re_isi c h.free_isinstance (re_var 3) (re_tup (ra_cons (re_tyn (n := "list") h.free_list (by decide +kernel)) (ra_cons (re_tyn (n := "tuple") h.free_tuple (by decide +kernel)) ra_nil)))))) (rw_or1 (rt_not (rt_lele re_int (re_len c h.free_len (re_var 3)) (re_gint h.int_MOST_STEPS)))))) (rss_one rs_never) rss_nil) (rss_cons (rs_for (passes_of rfl) rfl (ri_enum c h.free_enumerate (ra_cons (re_var 3) ra_nil)) (rg_tup (n := 2) c rfl (rgs_cons (rg_name 4 sc.nd) (rgs_cons (rg_name 5 sc.nd) rgs_nil))) (rss_one (rs_if (rt_not (rt_val (Fu.call c k_is_house_step (hr.mono (by decide)) (ra_cons (re_var 5) (ra_cons (re_len c h.free_len (re_var 1)) (ra_cons (re_var 2) ra_nil)))))) (rss_one rs_never) rss_nil))) (rss_cons (rs_fld c (re_var 0) (re_list c h.free_list (re_var 1)) h.cls_House h.noat_House_ware_names) (rss_cons (rs_fld c (re_var 0) (re_list c h.free_list (re_var 2)) h.cls_House h.noat_House_room_names) (rss_one (rs_fld c (re_var 0) (re_list c h.free_list (re_var 3)) h.cls_House h.noat_House_house_steps))))))))
theorem ok__law_begun {f : Addr} {fd : FuncData} (F : FunD K "_law_begun" "_law_begun" (defArgs s__law_begun) (defBody s__law_begun) (defScope s__law_begun) [] [] f fd) (h : Fc K mg)   : FnG (gxOf K) P w mg base 1 f fd ["script"] m__law_begun := by
  have sc := sc__law_begun
  exact FunD.okG (G := gxOf K) (N := ["script", "great", "cell"]) (ps := ["script"]) (k := 0) (b := b__law_begun) F sc fun cdv A outer s H E hr c =>
    (rss_cons (rs_setLc (i := 1) (own := [("cell", 2)]) c rfl sc.nd rfl rfl rfl (ri_any c (re_var 0)) (blkOk_by (by kernel_rfl)) (fun _ _ _ _ _ => (rgo_name 2 sc.nd)) (fun _ _ _ _ _ c1 => (rts_one (rt_ge (re_abs h.free_abs (re_var 2)) (re_pow re_int re_int)))) (fun _ _ _ _ _ c1 => (re_sub (re_abs h.free_abs (re_var 2)) (re_pow re_int re_int))) (fun s H C cl fp => c.ofBlk s H _ C cl fp)) (rss_one (rs_ret (re_disp (rp_cons re_str (re_var 1) (rp_cons re_str (re_lc (own := [("cell", 2)]) c rfl sc.nd (ri_any c (re_var 0)) (blkOk_by (by kernel_rfl)) (fun _ _ _ _ _ => (rgo_name 2 sc.nd)) (fun _ _ _ _ _ c1 => rts_nil) (fun _ _ _ _ _ c1 => (re_abs h.free_abs (re_var 2))) (fun s H C cl fp => c.ofBlk s H _ C cl fp)) (rp_cons re_str re_int (rp_cons re_str re_int rp_nil))))))))
theorem ok__law_mixed {f : Addr} {fd : FuncData} (F : FunD K "_law_mixed" "_law_mixed" (defArgs s__law_mixed) (defBody s__law_mixed) (defScope s__law_mixed) [] [] f fd) (h : Fc K mg)   : FnG (gxOf K) P w mg base 1 f fd ["state"] m__law_mixed := by
  have sc := sc__law_mixed
  exact FunD.okG (G := gxOf K) (N := ["state", "turn", "found", "prime", "blend", "cell"]) (ps := ["state"]) (k := 0) (b := b__law_mixed) F sc fun cdv A outer s H E hr c =>
    (rss_cons (rs_par 1 2 rfl sc.nd (ra_cons (re_add c (re_idx c (re_var 0) re_str) re_int) (ra_cons re_int ra_nil))) (rss_cons (rs_subK c (re_var 0) re_str (re_var 1)) (rss_cons (rs_for (passes_of rfl) rfl (ri_any c (re_lst (ra_cons re_int (ra_cons re_int (ra_cons re_int (ra_cons re_int ra_nil)))))) (rg_name 3 sc.nd) (rss_cons (rs_set 4 sc.nd (re_add c (re_mul re_int (re_var 1)) (re_fdiv (re_var 3) re_int))) (rss_cons (rs_for (passes_of rfl) rfl (ri_any c (re_idx c (re_var 0) re_str)) (rg_name 5 sc.nd) (rss_one (rs_set 4 sc.nd (re_mod (re_intc h.free_int (re_add c (re_add c (re_mul (re_var 4) re_int) (re_var 5)) (re_var 1))) (re_var 3))))) (rss_one (rs_set 2 sc.nd (re_add c (re_mul (re_var 2) re_int) (re_mod (re_intc h.free_int (re_pow (re_var 4) re_int)) (re_var 3)))))))) (rss_one (rs_ret (re_var 2))))))
theorem ok__law_draw {f : Addr} {fd : FuncData} (F : FunD K "_law_draw" "_law_draw" (defArgs s__law_draw) (defBody s__law_draw) (defScope s__law_draw) [] [] f fd) (h : Fc K mg) (k__law_mixed : Fu (gxOf K) P w mg base 1 "_law_mixed" ["state"] m__law_mixed)  : FnG (gxOf K) P w mg base 2 f fd ["state", "room"] m__law_draw := by
  have sc := sc__law_draw
  exact FunD.okG (G := gxOf K) (N := ["state", "room", "found"]) (ps := ["state", "room"]) (k := 1) (b := b__law_draw) F sc fun cdv A outer s H E hr c =>
    (rss_cons (rs_if (rt_eq c (re_idx c (re_var 0) re_str) re_int) (rss_one (rs_subK c (re_var 0) re_str (re_if (rt_ne c (re_idx c (re_var 0) re_str) (re_lst ra_nil)) (re_popAt c (re_idx c (re_var 0) re_str) re_int) (Fu.call c k__law_mixed (hr.mono (by decide)) (ra_cons (re_var 0) ra_nil))))) rss_nil) (rss_cons (rs_set 2 sc.nd (re_mod (re_intc h.free_int (re_idx c (re_var 0) re_str)) (re_var 1))) (rss_cons (rs_subK c (re_var 0) re_str (re_fdiv (re_idx c (re_var 0) re_str) (re_var 1))) (rss_one (rs_ret (re_var 2))))))
theorem ok__law_pick {f : Addr} {fd : FuncData} (F : FunD K "_law_pick" "_law_pick" (defArgs s__law_pick) (defBody s__law_pick) (defScope s__law_pick) [] [] f fd) (h : Fc K mg) (k__law_draw : Fu (gxOf K) P w mg base 2 "_law_draw" ["state", "room"] m__law_draw)  : FnG (gxOf K) P w mg base 3 f fd ["state", "some"] m__law_pick := by
  have sc := sc__law_pick
  exact FunD.okG (G := gxOf K) (N := ["state", "some"]) (ps := ["state", "some"]) (k := 2) (b := b__law_pick) F sc fun cdv A outer s H E hr c =>
    (rss_one (rs_ret (re_idx c (re_var 1) (Fu.call c k__law_draw (hr.mono (by decide)) (ra_cons (re_var 0) (ra_cons (re_len c h.free_len (re_var 1)) ra_nil))))))
theorem ok__law_shuffled {f : Addr} {fd : FuncData} (F : FunD K "_law_shuffled" "_law_shuffled" (defArgs s__law_shuffled) (defBody s__law_shuffled) (defScope s__law_shuffled) [] [] f fd) (h : Fc K mg) (k__law_draw : Fu (gxOf K) P w mg base 2 "_law_draw" ["state", "room"] m__law_draw)  : FnG (gxOf K) P w mg base 3 f fd ["state", "some"] m__law_shuffled := by
  have sc := sc__law_shuffled
  exact FunD.okG (G := gxOf K) (N := ["state", "some", "left", "found"]) (ps := ["state", "some"]) (k := 2) (b := b__law_shuffled) F sc fun cdv A outer s H E hr c =>
    (rss_cons (rs_par 2 3 rfl sc.nd (ra_cons (re_list c h.free_list (re_var 1)) (ra_cons (re_lst ra_nil) ra_nil))) (rss_cons (rs_while FUEL (passes_of rfl) (rt_ne c (re_var 2) (re_lst ra_nil)) (rss_one (rs_expr (re_append c (re_var 3) (re_popAt c (re_var 2) (Fu.call c k__law_draw (hr.mono (by decide)) (ra_cons (re_var 0) (ra_cons (re_len c h.free_len (re_var 2)) ra_nil)))))))) (rss_one (rs_ret (re_var 3)))))
theorem ok__law_house {f : Addr} {fd : FuncData} (F : FunD K "_law_house" "_law_house" (defArgs s__law_house) (defBody s__law_house) (defScope s__law_house) [] [] f fd) (h : Fc K mg) (k__law_draw : Fu (gxOf K) P w mg base 2 "_law_draw" ["state", "room"] m__law_draw) (k__law_pick : Fu (gxOf K) P w mg base 3 "_law_pick" ["state", "some"] m__law_pick) (k__law_shuffled : Fu (gxOf K) P w mg base 3 "_law_shuffled" ["state", "some"] m__law_shuffled)  : FnG (gxOf K) P w mg base 4 f fd ["state", "most_wares", "most_rooms", "most_steps", "far"] m__law_house := by
  have sc := sc__law_house
  exact FunD.okG (G := gxOf K) (N := ["state", "most_wares", "most_rooms", "most_steps", "far", "wares", "rooms", "steps", "lap", "change", "ware"]) (ps := ["state", "most_wares", "most_rooms", "most_steps", "far"]) (k := 3) (b := b__law_house) F sc fun cdv A outer s H E hr c =>
    (rss_cons (rs_set 5 sc.nd (re_slice c (Fu.call c k__law_shuffled (hr.mono (by decide)) (ra_cons (re_var 0) (ra_cons (re_lst (ra_cons re_str (ra_cons re_str (ra_cons re_str (ra_cons re_str (ra_cons re_str ra_nil)))))) ra_nil))) ro_none (ro_some (re_add c re_int (Fu.call c k__law_draw (hr.mono (by decide)) (ra_cons (re_var 0) (ra_cons (re_var 1) ra_nil))))))) (rss_cons (rs_set 6 sc.nd (re_slice c (Fu.call c k__law_shuffled (hr.mono (by decide)) (ra_cons (re_var 0) (ra_cons (re_lst (ra_cons re_str (ra_cons re_str (ra_cons re_str (ra_cons re_str ra_nil))))) ra_nil))) ro_none (ro_some (re_add c re_int (Fu.call c k__law_draw (hr.mono (by decide)) (ra_cons (re_var 0) (ra_cons (re_var 2) ra_nil))))))) (rss_cons (rs_set 7 sc.nd (re_lst ra_nil)) (rss_cons (rs_for (passes_of rfl) rfl (ri_range1 h.free_range (ra_cons (re_add c re_int (Fu.call c k__law_draw (hr.mono (by decide)) (ra_cons (re_var 0) (ra_cons (re_var 3) ra_nil)))) ra_nil)) (rg_name 8 sc.nd) (rss_cons (rs_set 9 sc.nd (re_tuple c h.free_tuple (re_lc (own := [("ware", 10)]) c rfl sc.nd (ri_any c (re_var 5)) (blkOk_by (by kernel_rfl)) (fun _ _ _ _ _ => (rgo_name 10 sc.nd)) (fun _ _ _ _ _ c1 => rts_nil) (fun _ _ _ _ _ c1 => (Fu.call c1 k__law_pick (hr.mono (by decide)) (ra_cons (re_var 0) (ra_cons (re_lst (ra_cons re_int (ra_cons re_int (ra_cons re_int (ra_cons (re_sub re_int re_int) (ra_cons (re_sub re_int re_int) (ra_cons (re_var 4) (ra_cons (re_sub re_int (re_var 4)) ra_nil)))))))) ra_nil)))) (fun s H C cl fp => c.ofBlk s H _ C cl fp)))) (rss_one (rs_expr (re_append c (re_var 7) (re_tup (ra_cons (Fu.call c k__law_pick (hr.mono (by decide)) (ra_cons (re_var 0) (ra_cons (re_var 6) ra_nil))) (ra_cons (re_var 9) (ra_cons (Fu.call c k__law_pick (hr.mono (by decide)) (ra_cons (re_var 0) (ra_cons (re_var 6) ra_nil))) ra_nil))))))))) (rss_one (rs_ret (re_tup (ra_cons (re_var 5) (ra_cons (re_var 6) (ra_cons (re_var 7) ra_nil))))))))))
theorem ok__law_is {f : Addr} {fd : FuncData} (F : FunD K "_law_is" "_law_is" (defArgs s__law_is) (defBody s__law_is) (defScope s__law_is) [] [] f fd) (h : Fc K mg)   : FnG (gxOf K) P w mg base 1 f fd ["found", "due"] m__law_is := by
  have sc := sc__law_is
  exact FunD.okG (G := gxOf K) (N := ["found", "due"]) (ps := ["found", "due"]) (k := 0) (b := b__law_is) F sc fun cdv A outer s H E hr c =>
    (rss_one (rs_ret (re_and (re_eq c (re_var 0) (re_var 1)) (re_and (re_eq c (re_var 1) (re_var 0)) (re_one (re_eq c (re_repr c h.free_repr (re_var 0)) (re_repr c h.free_repr (re_var 1))))))))
theorem ok_House___len__ {f : Addr} {fd : FuncData} (F : FunD K "__len__" "House.__len__" (defArgs s_House___len__) (defBody s_House___len__) (defScope s_House___len__) [] [] f fd) (h : Fc K mg)   : FnG (gxOf K) P w mg base 1 f fd ["self"] m_House___len__ := by
  have sc := sc_House___len__
  exact FunD.okG (G := gxOf K) (N := ["self"]) (ps := ["self"]) (k := 0) (b := b_House___len__) F sc fun cdv A outer s H E hr c =>
    (rss_one (rs_ret (re_len c h.free_len (re_fld c (re_var 0) h.cls_House h.noat_House_house_steps))))
theorem ok_need_house {f : Addr} {fd : FuncData} (F : FunD K "need_house" "need_house" (defArgs s_need_house) (defBody s_need_house) (defScope s_need_house) [] [] f fd) (h : Fc K mg)   : FnG (gxOf K) P w mg base 1 f fd ["house"] m_need_house := by
  have sc := sc_need_house
  exact FunD.okG (G := gxOf K) (N := ["house"]) (ps := ["house"]) (k := 0) (b := b_need_house) F sc fun cdv A outer s H E hr c =>
    (rss_one (rs_if (rt_not (rt_val (re_isiO c h.isc_House h.free_isinstance (re_var 0) (re_gcls h.glo_House)))) (rss_one rs_never) rss_nil))
theorem ok_reached {f : Addr} {fd : FuncData} (F : FunD K "reached" "reached" (defArgs s_reached) (defBody s_reached) (defScope s_reached) [] [] f fd) (h : Fc K mg)   : FnG (gxOf K) P w mg base 1 f fd ["house", "room", "steps"] m_reached := by
  have sc := sc_reached
  exact FunD.okG (G := gxOf K) (N := ["house", "room", "steps", "found", "waiting", "here", "at", "begin", "change", "other"]) (ps := ["house", "room", "steps"]) (k := 0) (b := b_reached) F sc fun cdv A outer s H E hr c =>
    (rss_cons (rs_par 3 4 rfl sc.nd (ra_cons (re_lst (ra_cons (re_var 1) ra_nil)) (ra_cons (re_lst (ra_cons (re_var 1) ra_nil)) ra_nil))) (rss_cons (rs_while FUEL (passes_of rfl) (rt_ne c (re_var 4) (re_lst ra_nil)) (rss_cons (rs_set 5 sc.nd (re_pop c (re_var 4))) (rss_one (rs_for (passes_of rfl) rfl (ri_any c (re_var 2)) (rg_name 6 sc.nd) (rss_cons (rs_asg (re_idx c (re_fld c (re_var 0) h.cls_House h.noat_House_house_steps) (re_var 6)) (rg_tup (n := 3) c rfl (rgs_cons (rg_name 7 sc.nd) (rgs_cons (rg_name 8 sc.nd) (rgs_cons (rg_name 9 sc.nd) rgs_nil))))) (rss_one (rs_if (RW.pt (rw_and (rt_eq c (re_var 7) (re_var 5)) (rw_and1 (rt_notIn c (re_var 9) (re_var 3))))) (rss_cons (rs_expr (re_append c (re_var 3) (re_var 9))) (rss_one (rs_expr (re_append c (re_var 4) (re_var 9))))) rss_nil))))))) (rss_one (rs_ret (re_var 3)))))
theorem ok_rings_by {f : Addr} {fd : FuncData} (F : FunD K "rings_by" "rings_by" (defArgs s_rings_by) (defBody s_rings_by) (defScope s_rings_by) [] [] f fd) (h : Fc K mg) (k_reached : Fu (gxOf K) P w mg base 1 "reached" ["house", "room", "steps"] m_reached)  : FnG (gxOf K) P w mg base 2 f fd ["house", "steps"] m_rings_by := by
  have sc := sc_rings_by
  exact FunD.okG (G := gxOf K) (N := ["house", "steps", "found", "done", "ways", "room", "some", "ends", "inside", "one", "at"]) (ps := ["house", "steps"]) (k := 1) (b := b_rings_by) F sc fun cdv A outer s H E hr c =>
    (rss_cons (rs_par 2 3 rfl sc.nd (ra_cons (re_lst ra_nil) (ra_cons (re_lst ra_nil) ra_nil))) (rss_cons (rs_set 4 sc.nd (re_dc (own := [("room", 5)]) c rfl sc.nd (ri_any c (re_fld c (re_var 0) h.cls_House h.noat_House_room_names)) (blkOk_by (by kernel_rfl)) (fun _ _ _ _ _ => (rgo_name 5 sc.nd)) (fun _ _ _ _ _ c1 => rts_nil) (fun _ _ _ _ _ c1 => (re_var 5)) (fun _ _ _ _ _ c1 => (Fu.call c1 k_reached (hr.mono (by decide)) (ra_cons (re_var 0) (ra_cons (re_var 5) (ra_cons (re_var 1) ra_nil))))))) (rss_cons (rs_for (passes_of rfl) rfl (ri_any c (re_fld c (re_var 0) h.cls_House h.noat_House_room_names)) (rg_name 5 sc.nd) (rss_one (rs_if (rt_notIn c (re_var 5) (re_var 3)) (rss_cons (rs_set 6 sc.nd (re_tuple c h.free_tuple (re_lc (own := [("one", 9)]) c rfl sc.nd (ri_any c (re_fld c (re_var 0) h.cls_House h.noat_House_room_names)) (blkOk_by (by kernel_rfl)) (fun _ _ _ _ _ => (rgo_name 9 sc.nd)) (fun _ _ _ _ _ c1 => (rts_one (RW.pt (rw_and (rt_in c1 (re_var 9) (re_idx c1 (re_var 4) (re_var 5))) (rw_and1 (rt_in c1 (re_var 5) (re_idx c1 (re_var 4) (re_var 9)))))))) (fun _ _ _ _ _ c1 => (re_var 9)) (fun s H C cl fp => c.ofBlk s H _ C cl fp)))) (rss_cons (rs_expr (re_extend c (re_var 3) (re_var 6))) (rss_cons (rs_set 7 sc.nd (re_dc (own := [("at", 10)]) c rfl sc.nd (ri_any c (re_var 1)) (blkOk_by (by kernel_rfl)) (fun _ _ _ _ _ => (rgo_name 10 sc.nd)) (fun _ _ _ _ _ c1 => rts_nil) (fun _ _ _ _ _ c1 => (re_var 10)) (fun _ _ _ _ _ c1 => (re_tup (ra_cons (re_idx c1 (re_idx c1 (re_fld c1 (re_var 0) h.cls_House h.noat_House_house_steps) (re_var 10)) re_int) (ra_cons (re_idx c1 (re_idx c1 (re_fld c1 (re_var 0) h.cls_House h.noat_House_house_steps) (re_var 10)) re_int) ra_nil)))))) (rss_cons (rs_set 8 sc.nd (re_tuple c h.free_tuple (re_lc (own := [("at", 10)]) c rfl sc.nd (ri_any c (re_var 1)) (blkOk_by (by kernel_rfl)) (fun _ _ _ _ _ => (rgo_name 10 sc.nd)) (fun _ _ _ _ _ c1 => (rts_one (RW.pt (rw_and (rt_in c1 (re_idx c1 (re_idx c1 (re_var 7) (re_var 10)) re_int) (re_var 6)) (rw_and1 (rt_in c1 (re_idx c1 (re_idx c1 (re_var 7) (re_var 10)) re_int) (re_var 6))))))) (fun _ _ _ _ _ c1 => (re_var 10)) (fun s H C cl fp => c.ofBlk s H _ C cl fp)))) (rss_one (rs_if (rt_ne c (re_var 8) (re_tup ra_nil)) (rss_one (rs_expr (re_append c (re_var 2) (re_tup (ra_cons (re_var 6) (ra_cons (re_var 8) ra_nil)))))) rss_nil)))))) rss_nil))) (rss_one (rs_ret (re_var 2))))))
theorem ok_rings {f : Addr} {fd : FuncData} (F : FunD K "rings" "rings" (defArgs s_rings) (defBody s_rings) (defScope s_rings) [] [] f fd) (h : Fc K mg) (k_House___len__ : MeF (gxOf K) P w mg base 1 "House" "__len__" ["self"] m_House___len__) (k_need_house : Fu (gxOf K) P w mg base 1 "need_house" ["house"] m_need_house) (k_rings_by : Fu (gxOf K) P w mg base 2 "rings_by" ["house", "steps"] m_rings_by)  : FnG (gxOf K) P w mg base 3 f fd ["house"] m_rings := by
  have sc := sc_rings
  exact FunD.okG (G := gxOf K) (N := ["house"]) (ps := ["house"]) (k := 2) (b := b_rings) F sc fun cdv A outer s H E hr c =>
    (rss_cons (rs_expr (Fu.call c k_need_house (hr.mono (by decide)) (ra_cons (re_var 0) ra_nil))) (rss_one (rs_ret (Fu.call c k_rings_by (hr.mono (by decide)) (ra_cons (re_var 0) (ra_cons (re_lr rfl h.free_list h.free_range (MeF.len c k_House___len__ (hr.mono (by decide)) h.free_len (re_var 0))) ra_nil))))))
theorem ok_law {f : Addr} {fd : FuncData} (F : FunD K "law" "law" (defArgs s_law) (defBody s_law) (defScope s_law) [] [] f fd) (h : Fc K mg) (k_House___init__ : MkF (gxOf K) P w mg base 3 "House" ["self", "wares", "rooms", "steps"] m_House___init__) (k__law_begun : Fu (gxOf K) P w mg base 1 "_law_begun" ["script"] m__law_begun) (k__law_house : Fu (gxOf K) P w mg base 4 "_law_house" ["state", "most_wares", "most_rooms", "most_steps", "far"] m__law_house) (k__law_is : Fu (gxOf K) P w mg base 1 "_law_is" ["found", "due"] m__law_is) (k_rings : Fu (gxOf K) P w mg base 3 "rings" ["house"] m_rings) (k_ringsK : FuK (gxOf K) P w mg base 3 "rings" "house" m_rings) : FnG (gxOf K) P w mg base 5 f fd ["script"] m_law := by
  have sc := sc_law
  exact FunD.okG (G := gxOf K) (N := ["script", "state", "turn", "wares", "rooms", "steps", "ways", "lap", "begin", "change", "other", "room", "due", "done", "some", "inside", "house", "at", "step"]) (ps := ["script"]) (k := 4) (b := b_law) F sc fun cdv A outer s H E hr c =>
    (rss_cons (rs_set 1 sc.nd (Fu.call c k__law_begun (hr.mono (by decide)) (ra_cons (re_var 0) ra_nil))) (rss_cons (rs_for (passes_of rfl) rfl (ri_range1 h.free_range (ra_cons (re_add c re_int (re_min2 rfl h.free_min (re_len c h.free_len (re_var 0)) re_int)) ra_nil)) (rg_name 2 sc.nd) (rss_cons (rs_asg (Fu.call c k__law_house (hr.mono (by decide)) (ra_cons (re_var 1) (ra_cons re_int (ra_cons re_int (ra_cons re_int (ra_cons re_int ra_nil)))))) (rg_tup (n := 3) c rfl (rgs_cons (rg_name 3 sc.nd) (rgs_cons (rg_name 4 sc.nd) (rgs_cons (rg_name 5 sc.nd) rgs_nil))))) (rss_cons (rs_set 6 sc.nd (re_dict c rfl h.free_dict (re_lc (own := [("room", 11)]) c rfl sc.nd (ri_any c (re_var 4)) (blkOk_by (by kernel_rfl)) (fun _ _ _ _ _ => (rgo_name 11 sc.nd)) (fun _ _ _ _ _ c1 => rts_nil) (fun _ _ _ _ _ c1 => (re_tup (ra_cons (re_var 11) (ra_cons (re_lst (ra_cons (re_var 11) ra_nil)) ra_nil)))) (fun s H C cl fp => c.ofBlk s H _ C cl fp)))) (rss_cons (rs_for (passes_of rfl) rfl (ri_any c (re_var 4)) (rg_name 7 sc.nd) (rss_one (rs_for (passes_of rfl) rfl (ri_any c (re_var 5)) (rg_tup (n := 3) c rfl (rgs_cons (rg_name 8 sc.nd) (rgs_cons (rg_name 9 sc.nd) (rgs_cons (rg_name 10 sc.nd) rgs_nil)))) (rss_one (rs_for (passes_of rfl) rfl (ri_any c (re_var 4)) (rg_name 11 sc.nd) (rss_one (rs_if (RW.pt (rw_and (rt_in c (re_var 8) (re_idx c (re_var 6) (re_var 11))) (rw_and1 (rt_notIn c (re_var 10) (re_idx c (re_var 6) (re_var 11)))))) (rss_one (rs_subK c (re_var 6) (re_var 11) (re_add c (re_idx c (re_var 6) (re_var 11)) (re_lst (ra_cons (re_var 10) ra_nil))))) rss_nil))))))) (rss_cons (rs_par 12 13 rfl sc.nd (ra_cons (re_lst ra_nil) (ra_cons (re_lst ra_nil) ra_nil))) (rss_cons (rs_for (passes_of rfl) rfl (ri_any c (re_var 4)) (rg_name 11 sc.nd) (rss_cons (rs_set 14 sc.nd (re_tuple c h.free_tuple (re_lc (own := [("other", 10)]) c rfl sc.nd (ri_any c (re_var 4)) (blkOk_by (by kernel_rfl)) (fun _ _ _ _ _ => (rgo_name 10 sc.nd)) (fun _ _ _ _ _ c1 => (rts_one (RW.pt (rw_and (rt_in c1 (re_var 10) (re_idx c1 (re_var 6) (re_var 11))) (rw_and1 (rt_in c1 (re_var 11) (re_idx c1 (re_var 6) (re_var 10)))))))) (fun _ _ _ _ _ c1 => (re_var 10)) (fun s H C cl fp => c.ofBlk s H _ C cl fp)))) (rss_cons (rs_set 15 sc.nd (re_tuple c h.free_tuple (re_lc (own := [("at", 17), ("step", 18)]) c rfl sc.nd (ri_enum c h.free_enumerate (ra_cons (re_var 5) ra_nil)) (blkOk_by (by kernel_rfl)) (fun _ _ _ _ _ => (rgo_tup (W := W0) (n := 2) (c.ofBlk _ _ _ _ _ _).K rfl (rgos_cons (rgo_name 17 sc.nd) (rgos_cons (rgo_name 18 sc.nd) rgos_nil)))) (fun _ _ _ _ _ c1 => (rts_one (RW.pt (rw_and (rt_in c1 (re_idx c1 (re_var 18) re_int) (re_var 14)) (rw_and1 (rt_in c1 (re_idx c1 (re_var 18) re_int) (re_var 14))))))) (fun _ _ _ _ _ c1 => (re_var 17)) (fun s H C cl fp => c.ofBlk s H _ C cl fp)))) (rss_cons (rs_if (RW.pt (rw_and (rt_notIn c (re_var 11) (re_var 13)) (rw_and1 (rt_ne c (re_var 15) (re_tup ra_nil))))) (rss_one (rs_expr (re_append c (re_var 12) (re_tup (ra_cons (re_var 14) (ra_cons (re_var 15) ra_nil)))))) rss_nil) (rss_one (rs_set 13 sc.nd (re_add c (re_var 13) (re_list c h.free_list (re_var 14))))))))) (rss_cons (rs_set 16 sc.nd (MkF.make c k_House___init__ (hr.mono (by decide)) h.glo_House (ra_cons (re_var 3) (ra_cons (re_var 4) (ra_cons (re_var 5) ra_nil))))) (rss_one (rs_if (RW.pt (rw_or (rt_not (rt_val (Fu.call c k__law_is (hr.mono (by decide)) (ra_cons (Fu.call c k_rings (hr.mono (by decide)) (ra_cons (re_var 16) ra_nil)) (ra_cons (re_var 12) ra_nil))))) (rw_or1 (rt_not (rt_val (Fu.call c k__law_is (hr.mono (by decide)) (ra_cons (FuK.call c k_ringsK (hr.mono (by decide)) (re_var 16)) (ra_cons (re_var 12) ra_nil)))))))) (rss_one (rs_ret re_bl)) rss_nil))))))))) (rss_one (rs_ret (Fu.call c k__law_is (hr.mono (by decide)) (ra_cons (Fu.call c k_rings (hr.mono (by decide)) (ra_cons (MkF.make c k_House___init__ (hr.mono (by decide)) h.glo_House (ra_cons (re_lst (ra_cons re_str ra_nil)) (ra_cons (re_lst (ra_cons re_str (ra_cons re_str ra_nil))) (ra_cons (re_lst (ra_cons (re_tup (ra_cons re_str (ra_cons (re_tup (ra_cons (re_sub re_int re_int) ra_nil)) (ra_cons re_str ra_nil)))) (ra_cons (re_tup (ra_cons re_str (ra_cons (re_tup (ra_cons re_int ra_nil)) (ra_cons re_str ra_nil)))) ra_nil))) ra_nil)))) ra_nil)) (ra_cons (re_lst (ra_cons (re_tup (ra_cons (re_tup (ra_cons re_str ra_nil)) (ra_cons (re_tup (ra_cons re_int ra_nil)) ra_nil))) ra_nil)) ra_nil)))))))
end
def fa : List He.Fa := [.free "abs", .free "all", .free "bool", .free "dict", .free "enumerate", .free "int", .free "isinstance", .free "len", .free "list", .free "min", .free "range", .free "repr", .free "set", .free "str", .free "tuple", .glo "House", .glo "OWN", .glo "_law_begun", .glo "_law_draw", .glo "_law_house", .glo "_law_is", .glo "_law_mixed", .glo "_law_pick", .glo "_law_shuffled", .glo "are_names", .glo "is_house_step", .glo "is_name", .glo "is_number", .glo "law", .glo "need_house", .glo "reached", .glo "rings", .glo "rings_by", .int "MOST_CHANGE" 9, .int "MOST_ROOMS" 4, .int "MOST_STEPS" 8, .int "MOST_WARES" 5, .str "LETTERS" "abcdefghijklmnopqrstuvwxyz", .cls "House", .noat "House" "house_steps", .noat "House" "room_names", .noat "House" "ware_names", .mkr "House", .meth "House" "__len__"]
def ex (K : PySem.W.Frag) : Bool := tupTx K "OWN" ["words", "places", "begin", "to", "when", "then"] && isCB K "House" && true
def d_is_name : He.DefD := ⟨("is_name", none), "is_name", "is_name", defArgs s_is_name, defBody s_is_name, defScope s_is_name, [], []⟩
def d_are_names : He.DefD := ⟨("are_names", none), "are_names", "are_names", defArgs s_are_names, defBody s_are_names, defScope s_are_names, [], []⟩
def d_is_number : He.DefD := ⟨("is_number", none), "is_number", "is_number", defArgs s_is_number, defBody s_is_number, defScope s_is_number, [], []⟩
def d_is_house_step : He.DefD := ⟨("is_house_step", none), "is_house_step", "is_house_step", defArgs s_is_house_step, defBody s_is_house_step, defScope s_is_house_step, [], []⟩
def d_House___init__ : He.DefD := ⟨("House", some "__init__"), "__init__", "House.__init__", defArgs s_House___init__, defBody s_House___init__, defScope s_House___init__, [], []⟩
def d__law_begun : He.DefD := ⟨("_law_begun", none), "_law_begun", "_law_begun", defArgs s__law_begun, defBody s__law_begun, defScope s__law_begun, [], []⟩
def d__law_mixed : He.DefD := ⟨("_law_mixed", none), "_law_mixed", "_law_mixed", defArgs s__law_mixed, defBody s__law_mixed, defScope s__law_mixed, [], []⟩
def d__law_draw : He.DefD := ⟨("_law_draw", none), "_law_draw", "_law_draw", defArgs s__law_draw, defBody s__law_draw, defScope s__law_draw, [], []⟩
def d__law_pick : He.DefD := ⟨("_law_pick", none), "_law_pick", "_law_pick", defArgs s__law_pick, defBody s__law_pick, defScope s__law_pick, [], []⟩
def d__law_shuffled : He.DefD := ⟨("_law_shuffled", none), "_law_shuffled", "_law_shuffled", defArgs s__law_shuffled, defBody s__law_shuffled, defScope s__law_shuffled, [], []⟩
def d__law_house : He.DefD := ⟨("_law_house", none), "_law_house", "_law_house", defArgs s__law_house, defBody s__law_house, defScope s__law_house, [], []⟩
def d__law_is : He.DefD := ⟨("_law_is", none), "_law_is", "_law_is", defArgs s__law_is, defBody s__law_is, defScope s__law_is, [], []⟩
def d_House___len__ : He.DefD := ⟨("House", some "__len__"), "__len__", "House.__len__", defArgs s_House___len__, defBody s_House___len__, defScope s_House___len__, [], []⟩
def d_need_house : He.DefD := ⟨("need_house", none), "need_house", "need_house", defArgs s_need_house, defBody s_need_house, defScope s_need_house, [], []⟩
def d_reached : He.DefD := ⟨("reached", none), "reached", "reached", defArgs s_reached, defBody s_reached, defScope s_reached, [], []⟩
def d_rings_by : He.DefD := ⟨("rings_by", none), "rings_by", "rings_by", defArgs s_rings_by, defBody s_rings_by, defScope s_rings_by, [], []⟩
def d_rings : He.DefD := ⟨("rings", none), "rings", "rings", defArgs s_rings, defBody s_rings, defScope s_rings, [], []⟩
def d_law : He.DefD := ⟨("law", none), "law", "law", defArgs s_law, defBody s_law, defScope s_law, [], []⟩
def fn : List He.DefD := [d_is_name, d_are_names, d_is_number, d_is_house_step, d_House___init__, d__law_begun, d__law_mixed, d__law_draw, d__law_pick, d__law_shuffled, d__law_house, d__law_is, d_House___len__, d_need_house, d_reached, d_rings_by, d_rings, d_law]
abbrev R : PySem.W.OpenRow := PySem.W.OpenLaw.row PySem.Challenge.rw_timesdone_k77_whole_rings_of_houses
abbrev hk : PySem.W.Hook := hookX 5 fa fn ex
def ob (s : PySem.W.SharedT) : He.AlD × Bool := obsX 5 fa fn ex (HandSHeadRun.getT s)
theorem ob_eq (s : PySem.W.SharedT) : ob s = hk.obs s.abs := obsX_eq (HandSHeadRun.getT_eq s)
abbrev names : List PySem.Str := ["_wall", "RoundError", "NoHouse", "LETTERS", "OWN", "is_name", "are_names", "MOST_WARES", "MOST_ROOMS", "MOST_STEPS", "MOST_CHANGE", "is_number", "is_house_step", "House", "need_house", "reached", "rings_by", "rings", "_law_begun", "_law_mixed", "_law_draw", "_law_pick", "_law_shuffled", "_law_is", "_law_house"]
theorem run (w : World) : HandSHeadRun.RunEq R (PySem.W.view R.prog [29]) hk ob 4000 names w := by
  intro os
  kernel_rfl
theorem facts {K : PySem.W.Frag} {h : Heap} {mg : Str → Option Value} (X : K.In h) (G : h.Ns mainGlobals mg) (c : He.SaysD fa fn K) (ce : ex K = true) : Fc K mg where
  free_abs := He.free_ok X G (c.fact 0 (f := .free "abs") rfl)
  free_all := He.free_ok X G (c.fact 1 (f := .free "all") rfl)
  free_bool := He.free_ok X G (c.fact 2 (f := .free "bool") rfl)
  free_dict := He.free_ok X G (c.fact 3 (f := .free "dict") rfl)
  free_enumerate := He.free_ok X G (c.fact 4 (f := .free "enumerate") rfl)
  free_int := He.free_ok X G (c.fact 5 (f := .free "int") rfl)
  free_isinstance := He.free_ok X G (c.fact 6 (f := .free "isinstance") rfl)
  free_len := He.free_ok X G (c.fact 7 (f := .free "len") rfl)
  free_list := He.free_ok X G (c.fact 8 (f := .free "list") rfl)
  free_min := He.free_ok X G (c.fact 9 (f := .free "min") rfl)
  free_range := He.free_ok X G (c.fact 10 (f := .free "range") rfl)
  free_repr := He.free_ok X G (c.fact 11 (f := .free "repr") rfl)
  free_set := He.free_ok X G (c.fact 12 (f := .free "set") rfl)
  free_str := He.free_ok X G (c.fact 13 (f := .free "str") rfl)
  free_tuple := He.free_ok X G (c.fact 14 (f := .free "tuple") rfl)
  glo_House := He.glo_ok X G (c.fact 15 (f := .glo "House") rfl)
  glo_OWN := He.glo_ok X G (c.fact 16 (f := .glo "OWN") rfl)
  int_MOST_CHANGE := He.int_ok X G (c.fact 33 (f := .int "MOST_CHANGE" 9) rfl)
  int_MOST_ROOMS := He.int_ok X G (c.fact 34 (f := .int "MOST_ROOMS" 4) rfl)
  int_MOST_STEPS := He.int_ok X G (c.fact 35 (f := .int "MOST_STEPS" 8) rfl)
  int_MOST_WARES := He.int_ok X G (c.fact 36 (f := .int "MOST_WARES" 5) rfl)
  str_LETTERS := He.str_ok X G (c.fact 37 (f := .str "LETTERS" "abcdefghijklmnopqrstuvwxyz") rfl)
  tup_OWN := He.tupB_ok ((He.ba (He.ba ce).1).1)
  cls_House := He.cls_ok (c.fact 38 (f := .cls "House") rfl)
  noat_House_house_steps := He.noat_ok (c.fact 39 (f := .noat "House" "house_steps") rfl)
  noat_House_room_names := He.noat_ok (c.fact 40 (f := .noat "House" "room_names") rfl)
  noat_House_ware_names := He.noat_ok (c.fact 41 (f := .noat "House" "ware_names") rfl)
  isc_House := isC_of ((He.ba ((He.ba ce).1)).2) (c.fact 38 (f := .cls "House") rfl)
theorem promise {P : Program} {w : World} {K : PySem.W.Frag} {h : Heap} {mg : Str → Option Value} {fa_ : Addr} (X : K.In h) (G : h.Ns mainGlobals mg) (hfa : mg ("law" : Str) = some (.ref fa_)) (c : He.SaysD fa fn K) (ce : ex K = true) :
    ∃ fd : FuncData, (∀ (s : Shared) (v : Value), BindsTo s fd ⟨[v], []⟩ [("script", v)]) ∧ ∀ base : Heap, K.In base → base.Ns mainGlobals mg → FnG (gxOf K) P w mg base 5 fa_ fd ["script"] m_law := by
  have hF := facts X G c ce
  obtain ⟨fd_is_name, F_is_name⟩ := c.def_ 0 (d := d_is_name) rfl
  obtain ⟨fd_are_names, F_are_names⟩ := c.def_ 1 (d := d_are_names) rfl
  obtain ⟨fd_is_number, F_is_number⟩ := c.def_ 2 (d := d_is_number) rfl
  obtain ⟨fd_is_house_step, F_is_house_step⟩ := c.def_ 3 (d := d_is_house_step) rfl
  obtain ⟨fd_House___init__, F_House___init__⟩ := c.def_ 4 (d := d_House___init__) rfl
  obtain ⟨fd__law_begun, F__law_begun⟩ := c.def_ 5 (d := d__law_begun) rfl
  obtain ⟨fd__law_mixed, F__law_mixed⟩ := c.def_ 6 (d := d__law_mixed) rfl
  obtain ⟨fd__law_draw, F__law_draw⟩ := c.def_ 7 (d := d__law_draw) rfl
  obtain ⟨fd__law_pick, F__law_pick⟩ := c.def_ 8 (d := d__law_pick) rfl
  obtain ⟨fd__law_shuffled, F__law_shuffled⟩ := c.def_ 9 (d := d__law_shuffled) rfl
  obtain ⟨fd__law_house, F__law_house⟩ := c.def_ 10 (d := d__law_house) rfl
  obtain ⟨fd__law_is, F__law_is⟩ := c.def_ 11 (d := d__law_is) rfl
  obtain ⟨fd_House___len__, F_House___len__⟩ := c.def_ 12 (d := d_House___len__) rfl
  obtain ⟨fd_need_house, F_need_house⟩ := c.def_ 13 (d := d_need_house) rfl
  obtain ⟨fd_reached, F_reached⟩ := c.def_ 14 (d := d_reached) rfl
  obtain ⟨fd_rings_by, F_rings_by⟩ := c.def_ 15 (d := d_rings_by) rfl
  obtain ⟨fd_rings, F_rings⟩ := c.def_ 16 (d := d_rings) rfl
  obtain ⟨fd_law, F_law⟩ := c.def_ 17 (d := d_law) rfl
  have e := hfa.symm.trans (He.glo_ok X G (c.fact 28 (f := .glo "law") rfl))
  cases e
  refine ⟨fd_law, fun s v => FunD.bindsA (ps := ["script"]) F_law (fun _ _ _ _ _ _ us hl => match us, hl with | [_], _ => rfl) s [v] rfl, fun base _ _ => ?_⟩
  have g_is_name := ok_is_name (P := P) (w := w) (base := base) F_is_name hF  
  have k_is_name : Fu (gxOf K) P w mg base 1 "is_name" ["thing"] m_is_name := ⟨_, _, g_is_name, He.glo_ok X G (c.fact 26 (f := .glo "is_name") rfl), F_is_name.kp, fun s us _ hl => (FunD.bindsA (ps := ["thing"]) F_is_name fun _ _ _ _ _ _ us hl => match us, hl with | [_], _ => rfl) s us hl⟩
  have g_are_names := ok_are_names (P := P) (w := w) (base := base) F_are_names hF k_is_name 
  have k_are_names : Fu (gxOf K) P w mg base 2 "are_names" ["thing", "most"] m_are_names := ⟨_, _, g_are_names, He.glo_ok X G (c.fact 24 (f := .glo "are_names") rfl), F_are_names.kp, fun s us _ hl => (FunD.bindsA (ps := ["thing", "most"]) F_are_names fun _ _ _ _ _ _ us hl => match us, hl with | [_, _], _ => rfl) s us hl⟩
  have g_is_number := ok_is_number (P := P) (w := w) (base := base) F_is_number hF  
  have k_is_number : Fu (gxOf K) P w mg base 1 "is_number" ["thing"] m_is_number := ⟨_, _, g_is_number, He.glo_ok X G (c.fact 27 (f := .glo "is_number") rfl), F_is_number.kp, fun s us _ hl => (FunD.bindsA (ps := ["thing"]) F_is_number fun _ _ _ _ _ _ us hl => match us, hl with | [_], _ => rfl) s us hl⟩
  have g_is_house_step := ok_is_house_step (P := P) (w := w) (base := base) F_is_house_step hF k_is_name k_is_number 
  have k_is_house_step : Fu (gxOf K) P w mg base 2 "is_house_step" ["thing", "many", "rooms"] m_is_house_step := ⟨_, _, g_is_house_step, He.glo_ok X G (c.fact 25 (f := .glo "is_house_step") rfl), F_is_house_step.kp, fun s us _ hl => (FunD.bindsA (ps := ["thing", "many", "rooms"]) F_is_house_step fun _ _ _ _ _ _ us hl => match us, hl with | [_, _, _], _ => rfl) s us hl⟩
  have g_House___init__ := ok_House___init__ (P := P) (w := w) (base := base) F_House___init__ hF k_are_names k_is_house_step 
  have k_House___init__ : MkF (gxOf K) P w mg base 3 "House" ["self", "wares", "rooms", "steps"] m_House___init__ := ⟨_, _, g_House___init__, He.mkr_ok (c.fact 42 (f := .mkr "House") rfl), fun s us _ hl => (FunD.bindsA (ps := ["self", "wares", "rooms", "steps"]) F_House___init__ fun _ _ _ _ _ _ us hl => match us, hl with | [_, _, _, _], _ => rfl) s us hl⟩
  have g__law_begun := ok__law_begun (P := P) (w := w) (base := base) F__law_begun hF  
  have k__law_begun : Fu (gxOf K) P w mg base 1 "_law_begun" ["script"] m__law_begun := ⟨_, _, g__law_begun, He.glo_ok X G (c.fact 17 (f := .glo "_law_begun") rfl), F__law_begun.kp, fun s us _ hl => (FunD.bindsA (ps := ["script"]) F__law_begun fun _ _ _ _ _ _ us hl => match us, hl with | [_], _ => rfl) s us hl⟩
  have g__law_mixed := ok__law_mixed (P := P) (w := w) (base := base) F__law_mixed hF  
  have k__law_mixed : Fu (gxOf K) P w mg base 1 "_law_mixed" ["state"] m__law_mixed := ⟨_, _, g__law_mixed, He.glo_ok X G (c.fact 21 (f := .glo "_law_mixed") rfl), F__law_mixed.kp, fun s us _ hl => (FunD.bindsA (ps := ["state"]) F__law_mixed fun _ _ _ _ _ _ us hl => match us, hl with | [_], _ => rfl) s us hl⟩
  have g__law_draw := ok__law_draw (P := P) (w := w) (base := base) F__law_draw hF k__law_mixed 
  have k__law_draw : Fu (gxOf K) P w mg base 2 "_law_draw" ["state", "room"] m__law_draw := ⟨_, _, g__law_draw, He.glo_ok X G (c.fact 18 (f := .glo "_law_draw") rfl), F__law_draw.kp, fun s us _ hl => (FunD.bindsA (ps := ["state", "room"]) F__law_draw fun _ _ _ _ _ _ us hl => match us, hl with | [_, _], _ => rfl) s us hl⟩
  have g__law_pick := ok__law_pick (P := P) (w := w) (base := base) F__law_pick hF k__law_draw 
  have k__law_pick : Fu (gxOf K) P w mg base 3 "_law_pick" ["state", "some"] m__law_pick := ⟨_, _, g__law_pick, He.glo_ok X G (c.fact 22 (f := .glo "_law_pick") rfl), F__law_pick.kp, fun s us _ hl => (FunD.bindsA (ps := ["state", "some"]) F__law_pick fun _ _ _ _ _ _ us hl => match us, hl with | [_, _], _ => rfl) s us hl⟩
  have g__law_shuffled := ok__law_shuffled (P := P) (w := w) (base := base) F__law_shuffled hF k__law_draw 
  have k__law_shuffled : Fu (gxOf K) P w mg base 3 "_law_shuffled" ["state", "some"] m__law_shuffled := ⟨_, _, g__law_shuffled, He.glo_ok X G (c.fact 23 (f := .glo "_law_shuffled") rfl), F__law_shuffled.kp, fun s us _ hl => (FunD.bindsA (ps := ["state", "some"]) F__law_shuffled fun _ _ _ _ _ _ us hl => match us, hl with | [_, _], _ => rfl) s us hl⟩
  have g__law_house := ok__law_house (P := P) (w := w) (base := base) F__law_house hF k__law_draw k__law_pick k__law_shuffled 
  have k__law_house : Fu (gxOf K) P w mg base 4 "_law_house" ["state", "most_wares", "most_rooms", "most_steps", "far"] m__law_house := ⟨_, _, g__law_house, He.glo_ok X G (c.fact 19 (f := .glo "_law_house") rfl), F__law_house.kp, fun s us _ hl => (FunD.bindsA (ps := ["state", "most_wares", "most_rooms", "most_steps", "far"]) F__law_house fun _ _ _ _ _ _ us hl => match us, hl with | [_, _, _, _, _], _ => rfl) s us hl⟩
  have g__law_is := ok__law_is (P := P) (w := w) (base := base) F__law_is hF  
  have k__law_is : Fu (gxOf K) P w mg base 1 "_law_is" ["found", "due"] m__law_is := ⟨_, _, g__law_is, He.glo_ok X G (c.fact 20 (f := .glo "_law_is") rfl), F__law_is.kp, fun s us _ hl => (FunD.bindsA (ps := ["found", "due"]) F__law_is fun _ _ _ _ _ _ us hl => match us, hl with | [_, _], _ => rfl) s us hl⟩
  have g_House___len__ := ok_House___len__ (P := P) (w := w) (base := base) F_House___len__ hF  
  have k_House___len__ : MeF (gxOf K) P w mg base 1 "House" "__len__" ["self"] m_House___len__ := ⟨_, _, hF.cls_House, g_House___len__, He.meth_ok (c.fact 43 (f := .meth "House" "__len__") rfl), fun s us _ hl => (FunD.bindsA (ps := ["self"]) F_House___len__ fun _ _ _ _ _ _ us hl => match us, hl with | [_], _ => rfl) s us hl⟩
  have g_need_house := ok_need_house (P := P) (w := w) (base := base) F_need_house hF  
  have k_need_house : Fu (gxOf K) P w mg base 1 "need_house" ["house"] m_need_house := ⟨_, _, g_need_house, He.glo_ok X G (c.fact 29 (f := .glo "need_house") rfl), F_need_house.kp, fun s us _ hl => (FunD.bindsA (ps := ["house"]) F_need_house fun _ _ _ _ _ _ us hl => match us, hl with | [_], _ => rfl) s us hl⟩
  have g_reached := ok_reached (P := P) (w := w) (base := base) F_reached hF  
  have k_reached : Fu (gxOf K) P w mg base 1 "reached" ["house", "room", "steps"] m_reached := ⟨_, _, g_reached, He.glo_ok X G (c.fact 30 (f := .glo "reached") rfl), F_reached.kp, fun s us _ hl => (FunD.bindsA (ps := ["house", "room", "steps"]) F_reached fun _ _ _ _ _ _ us hl => match us, hl with | [_, _, _], _ => rfl) s us hl⟩
  have g_rings_by := ok_rings_by (P := P) (w := w) (base := base) F_rings_by hF k_reached 
  have k_rings_by : Fu (gxOf K) P w mg base 2 "rings_by" ["house", "steps"] m_rings_by := ⟨_, _, g_rings_by, He.glo_ok X G (c.fact 32 (f := .glo "rings_by") rfl), F_rings_by.kp, fun s us _ hl => (FunD.bindsA (ps := ["house", "steps"]) F_rings_by fun _ _ _ _ _ _ us hl => match us, hl with | [_, _], _ => rfl) s us hl⟩
  have g_rings := ok_rings (P := P) (w := w) (base := base) F_rings hF k_House___len__ k_need_house k_rings_by 
  have k_rings : Fu (gxOf K) P w mg base 3 "rings" ["house"] m_rings := ⟨_, _, g_rings, He.glo_ok X G (c.fact 31 (f := .glo "rings") rfl), F_rings.kp, fun s us _ hl => (FunD.bindsA (ps := ["house"]) F_rings fun _ _ _ _ _ _ us hl => match us, hl with | [_], _ => rfl) s us hl⟩
  have k_ringsK : FuK (gxOf K) P w mg base 3 "rings" "house" m_rings := ⟨_, _, g_rings, He.glo_ok X G (c.fact 31 (f := .glo "rings") rfl), F_rings.kp, FunD.bindK F_rings fun _ _ _ _ _ _ _ => rfl⟩
  exact ok_law F_law hF k_House___init__ k__law_begun k__law_house k__law_is k_rings k_ringsK
end W77
section
open PySem PySem.W PySem.Calls PyProof.Rows
set_option maxHeartbeats 0
theorem W77.holds_of (law : ∀ ns : List Int, ns.length ≤ 63 → ∃ S', W77.m_law [.rol (ns.map Td.D.int)] [] = some (.ok (.bl true), S')) : PySem.Challenge.rw_timesdone_k77_whole_rings_of_houses.Holds := by
  w_on; o_law
  refine HandSHeadRun.head_any (r := OpenLaw.row PySem.Challenge.rw_timesdone_k77_whole_rings_of_houses) (q := view (OpenLaw.row PySem.Challenge.rw_timesdone_k77_whole_rings_of_houses).prog [29]) (H := W77.hk) (ob := W77.ob) (M := 4000) (loose := W77.names) (d := HandSHeadRun.topDef (OpenLaw.row PySem.Challenge.rw_timesdone_k77_whole_rings_of_houses).prog 29) (kwd := []) W77.ob_eq
    (by kernel_rfl) (fun s => by kernel_rfl) W77.run (by kernel_rfl) (by kernel_rfl) (by kernel_rfl) (by rfl) (by first | assumption | decide +kernel) (by decide +kernel) ⟨rfl, rfl, rfl, rfl, rfl, by decide +kernel⟩ ?hw ?hc
  case hw => w_witness2
  case hc =>
    refine Td.walk_end (l := PySem.Challenge.rw_timesdone_k77_whole_rings_of_houses) (n := 63) (k := 5) (x := "script") rfl (by decide) (by kernel_rfl) ⟨rfl, by decide, by decide⟩ ?F
    intro w mg fa h Y G hmg0
    obtain ⟨K, KX, c, ce⟩ := Y
    have hmg : mg ("law" : PySem.Str) = some (.ref fa) := by
      have e : (HandSHeadRun.topDef (OpenLaw.row PySem.Challenge.rw_timesdone_k77_whole_rings_of_houses).prog 29).name = ("law" : PySem.Str) := by kernel_rfl
      rw [← e]
      exact hmg0
    obtain ⟨fd, hb, hF⟩ := W77.promise (P := (PySem.Challenge.rw_timesdone_k77_whole_rings_of_houses).prog) (w := w) KX G hmg c ce
    exact ⟨Td.gxOf K, fd, W77.m_law, KX, hb, law, hF⟩
end
set_option maxHeartbeats 1000000

set_option autoImplicit false
set_option Elab.async false
set_option linter.all false
set_option maxRecDepth 100000
set_option maxHeartbeats 1000000
/-! plain proofs: frames, common turns -/
namespace Td
open PySem
/-- what stood still stands, but for the places of E -/
def Kp' (E : List Nat) (S S' : Sto) : Prop := S.length ≤ S'.length ∧ ∀ l c, l ∉ E → S[l]? = some c → S'[l]? = some c
theorem Kp'.refl {E : List Nat} (S : Sto) : Kp' E S S := ⟨Nat.le_refl _, fun _ _ _ h => h⟩
theorem Kp'.trans {E : List Nat} {S S1 S2 : Sto} (a : Kp' E S S1) (b : Kp' E S1 S2) : Kp' E S S2 := ⟨Nat.le_trans a.1 b.1, fun l c n h => b.2 l c n (a.2 l c n h)⟩
theorem Kp'.mono {E F : List Nat} {S S1 : Sto} (a : Kp' E S S1) (h : ∀ x, x ∈ E → x ∈ F) : Kp' F S S1 := ⟨a.1, fun l c n => a.2 l c fun z => n (h l z)⟩
theorem Kp'.any {F : List Nat} {S S1 : Sto} (a : Kp' [] S S1) : Kp' F S S1 := a.mono fun x h => by simp at h
theorem Kp'.app {E : List Nat} (S T : Sto) : Kp' E S (S ++ T) := ⟨by simp, fun l c _ h => by rw [List.getElem?_append_left (List.getElem?_eq_some_iff.mp h).1]; exact h⟩
theorem Kp'.set {E : List Nat} {S : Sto} {l : Nat} {c : Cell} (h : l ∈ E) : Kp' E S (S.set l c) := ⟨by simp, fun m d n e => by rw [List.getElem?_set_ne (fun z => n (by rw [← z]; exact h))]; exact e⟩
/-- a place that is new is no place of before -/
theorem Kp'.get {E : List Nat} {S S' : Sto} {l : Nat} {c : Cell} (a : Kp' E S S') (h : S[l]? = some c) (n : l ∉ E := by simp) : S'[l]? = some c := a.2 l c n h
theorem lt_of_get {S : Sto} {l : Nat} {c : Cell} (h : S[l]? = some c) : l < S.length := (List.getElem?_eq_some_iff.mp h).1
theorem last_at (S : Sto) (c : Cell) : (S ++ [c])[S.length]? = some c := by simp
/-- E's places that are new are as nothing -/
theorem Kp'.drop {E : List Nat} {S S' : Sto} (a : Kp' E S S') (h : ∀ x ∈ E, S.length ≤ x) : Kp' [] S S' := ⟨a.1, fun l c _ e => a.2 l c (fun z => by have := lt_of_get e; have := h l z; omega) e⟩
theorem blsO_rep : ∀ n : Nat, blsO (List.replicate n (D.bl true)) = some (List.replicate n true)
  | 0 => rfl
  | n + 1 => by
    rw [List.replicate_succ, List.replicate_succ]
    show (blsO (List.replicate n (D.bl true))).map _ = _
    rw [blsO_rep n]
    rfl
theorem all_rep (n : Nat) : (List.replicate n true).all id = true := by
  induction n with
  | zero => rfl
  | succ n ih => rw [List.replicate_succ, List.all_cons, ih]; rfl
theorem allD_rep {S : Sto} {l n : Nat} (h : S[l]? = some (.lst (List.replicate n (D.bl true)))) : allD [.ref l] S = some (.bl true, S) := by
  unfold allD lO
  simp only [h, Option.bind_some, blsO_rep, Option.map_some, all_rep]
/-- all([..]) where every turn says yes -/
theorem wE_all {m : MI} {own : List Nat} {g : MG} {el : ME} {ρ : En} {S : Sto} (h : wI m ρ S fun src S1 => Kp' [] S S1 ∧ ∃ n, n ≤ src.len S1 ∧ n ≤ sizeLine ∧ (∀ S2, Kp' [] S1 S2 → src.get S2 n = some none) ∧
    ∀ i S2, i < n → Kp' [] S1 S2 → ∃ d, src.get S2 i = some (some d) ∧ gW (g d (wipeD ρ own) S2) fun ρ1 S3 => wE el ρ1 S3 fun y S4 => y = .bl true ∧ Kp' [] S2 S4) :
    wE (cbM allD (consA (lcM m own g yesT el) nilA)) ρ S fun d S' => d = .bl true ∧ Kp' [] S S' := by
  obtain ⟨src, S1, h1, k1, n, hn, hz, hend, step⟩ := h
  rw [wE_cb, wA_cons]
  refine wE_lc ⟨src, S1, h1, n, fun i S2 acc => Kp' [] S1 S2 ∧ acc = List.replicate i (.bl true) ∧ i ≤ n, hn, ⟨Kp'.refl _, rfl, Nat.zero_le _⟩, fun S2 acc z => hend S2 z.1, fun i S2 acc hi z => ?_, fun S2 ds z => ?_⟩
  · obtain ⟨k2, rfl, _⟩ := z
    obtain ⟨d, q1, ρ1, S3, q2, y, S4, q3, rfl, k3⟩ := step i S2 hi k2
    have q2' : g d (wipeD ρ own) S2 = some (ρ1, S3) := q2
    refine ⟨d, q1, ρ1, S3, q2, wT_yes.mpr ?_⟩
    rw [if_pos rfl]
    refine ⟨_, S4, q3, by rw [List.length_replicate]; omega, k2.trans k3, ?_, hi⟩
    rw [List.replicate_succ']
  · obtain ⟨k2, rfl, _⟩ := z
    rw [wA_nil]
    exact ⟨_, _, allD_rep (last_at S2 _), rfl, (k1.trans k2).trans (Kp'.app _ _)⟩
end Td
namespace Td
open PySem
section
variable {ρ : En} {S : Sto} {Q : Fl → En → Sto → Prop}
theorem wS_seqN {a b : MS} (h : wS a ρ S fun f ρ1 S1 => f = .nx ∧ wS b ρ1 S1 Q) : wS (seqS a b) ρ S Q := by
  obtain ⟨f, ρ1, S1, e, rfl, q⟩ := h
  exact wS_seq.mpr ⟨.nx, ρ1, S1, e, q⟩
theorem wS_ifF {c : MT} {a b : MS} {R : Sto → Prop} (h : wT c ρ S fun x S1 => x = false ∧ R S1) (k : ∀ S1, R S1 → wS b ρ S1 Q) : wS (ifS c a b) ρ S Q := by
  obtain ⟨x, S1, e, rfl, q⟩ := h
  refine wS_if ⟨false, S1, e, ?_⟩
  simp only [Bool.false_eq_true, if_false]
  exact k S1 q
theorem wS_ifT {c : MT} {a b : MS} {R : Sto → Prop} (h : wT c ρ S fun x S1 => x = true ∧ R S1) (k : ∀ S1, R S1 → wS a ρ S1 Q) : wS (ifS c a b) ρ S Q := by
  obtain ⟨x, S1, e, rfl, q⟩ := h
  refine wS_if ⟨true, S1, e, ?_⟩
  simp only [if_true]
  exact k S1 q
theorem wT_mono {m : MT} {Q R : Bool → Sto → Prop} (h : wT m ρ S Q) (k : ∀ d S', Q d S' → R d S') : wT m ρ S R := by
  obtain ⟨d, S', e, q⟩ := h
  exact ⟨d, S', e, k _ _ q⟩
theorem wT_orF {a b : MT} {Q : Bool → Sto → Prop} (h : wT a ρ S fun x S1 => x = false ∧ wT b ρ S1 Q) : wT (orT a b) ρ S Q := by
  obtain ⟨x, S1, e, rfl, q⟩ := h
  refine wT_or.mpr ⟨false, S1, e, ?_⟩
  simp only [Bool.false_eq_true, if_false]
  exact q
theorem wE_andT {a b : ME} {Q : D → Sto → Prop} (h : wE a ρ S fun x S1 => x = .bl true ∧ wE b ρ S1 Q) : wE (andE a b) ρ S Q := by
  obtain ⟨x, S1, e, rfl, q⟩ := h
  refine wE_and.mpr (wT_tst.mpr ⟨_, S1, e, true, rfl, ?_⟩)
  simp only [if_true]
  exact q
theorem wT_notT {a : ME} {Q : Bool → Sto → Prop} (h : wE a ρ S fun x S1 => x = .bl true ∧ Q false S1) : wT (notT (tstM a)) ρ S Q := by
  obtain ⟨x, S1, e, rfl, q⟩ := h
  exact wT_not.mpr (wT_tst.mpr ⟨_, S1, e, true, rfl, q⟩)
theorem wE_callF {m : MF} {t : MA} {Q : D → Sto → Prop} {ds : List D} (h1 : wA t ρ S fun xs S1 => xs = ds ∧ S1 = S) (h2 : wF m ds S Q) : wE (callM m t) ρ S Q := by
  obtain ⟨xs, S1, e, rfl, rfl⟩ := h1
  exact wE_call.mpr ⟨xs, S1, e, h2⟩
end
end Td

set_option autoImplicit false
set_option Elab.async false
set_option linter.all false
set_option maxRecDepth 100000
set_option maxHeartbeats 1000000
namespace W77
open PySem Td
/-! ### the names that are drawn -/
def nms : List Str := ["x", "y", "z", "u", "ore", "p", "q", "r"]
def own : List Str := ["words", "places", "begin", "to", "when", "then"]
def letters : Str := "abcdefghijklmnopqrstuvwxyz"
theorem nms_len : ∀ z ∈ nms, 1 ≤ z.length ∧ z.length ≤ 6 := by decide +kernel
theorem nms_own : ∀ z ∈ nms, L2.inV (.str z) (own.map L2.V.str) = false := by decide +kernel
theorem nms_let : ∀ z ∈ nms, ∀ c ∈ z.cps.toList, c ∈ letters.cps.toList := by decide +kernel
theorem nms_ok : ∀ z ∈ nms, PyData.canLay0 (.str z) = true := by decide +kernel
theorem sizeBig : 1000 ≤ sizeLine := by decide
theorem flatL_str : ∀ zs : List Str, flatL (zs.map D.str) = some (zs.map L2.V.str)
  | [] => rfl
  | z :: zs => by
    rw [List.map_cons]
    unfold flatL
    rw [flatL_str zs]
    rfl
theorem isi_str (x : Str) (S : Sto) : isiD [.str x, .ty "str"] S = some (.bl true, S) := by
  unfold isiD
  rfl
theorem is_name_ok {z : Str} (hz : z ∈ nms) (S : Sto) : wF m_is_name [.str z] S fun d S' => d = .bl true ∧ Kp' [] S S' := by
  obtain ⟨l1, l2⟩ := nms_len z hz
  have hs := sizeBig
  refine wF_def rfl ?_
  unfold b_is_name
  have e1 : lenD [.str z] S = some (.int z.length, S) := by
    unfold lenD lenO
    simp only
    rw [if_pos (by omega)]
    rfl
  have e2 : inD (.str z) (.tup (own.map D.str)) S = some (.bl false, S) := by
    unfold inD inB inFlat
    simp only [seqO, flatO, flatL_str, nms_own z hz, firstO, Option.map_some]
  have h1 : decide ((1 : Int) ≤ (z.length : Int)) = true := decide_eq_true (by omega)
  have h2 : decide ((z.length : Int) ≤ 6) = true := decide_eq_true (by omega)
  refine wS_seqN (wS_ifF (R := fun S1 => S1 = S) ?_ ?_)
  · rw [show (([("words" : Str), "places", "begin", "to", "when", "then"] : List Str).map D.str) = own.map D.str from rfl]
    simp [isi_str, e1, e2, leD, liB, h1, h2]
  · rintro S1 rfl
    rw [wS_next]
    refine ⟨rfl, wS_ret (wE_all ?_)⟩
    rw [wI_any, wE_var]
    refine ⟨_, rfl, _, rfl, Kp'.refl _, z.cps.size, Nat.le_refl _, ?_, fun S2 _ => ?_, fun i S2 hi k2 => ?_⟩
    · have : z.cps.size = z.length := rfl
      omega
    · simp [Src.get]
    · have hi' : i < z.cps.size := hi
      refine ⟨.str ⟨#[z.cps[i]]⟩, by simp [Src.get, hi'], ?_⟩
      have hc : z.cps[i] ∈ letters.cps.toList := nms_let z hz _ (by simp)
      have e3 : inD (.str ⟨#[z.cps[i]]⟩) (.str letters) S2 = some (.bl true, S2) := by
        unfold inD inB inFlat inSign
        simp only [seqO, firstO, Option.map_some]
        rw [decide_eq_true hc]
      rw [show ("abcdefghijklmnopqrstuvwxyz" : Str) = letters from rfl]
      simp [nameG, wipeD, e3, Kp'.refl]
/-! ### membership -/
theorem inV_str (x : Str) (zs : List Str) : L2.inV (.str x) (zs.map L2.V.str) = decide (x ∈ zs) := by
  unfold L2.inV
  rw [Bool.eq_iff_iff, List.any_eq_true, decide_eq_true_iff]
  constructor
  · rintro ⟨v, hv, e⟩
    obtain ⟨y, hy, rfl⟩ := List.mem_map.mp hv
    have e' : (y == x) = true := e
    rw [← beq_iff_eq.mp e']
    exact hy
  · intro h
    refine ⟨.str x, List.mem_map.mpr ⟨x, h, rfl⟩, ?_⟩
    show (x == x) = true
    exact beq_self_eq_true x
theorem inD_lst {x : Str} {zs : List Str} {l : Nat} {S : Sto} (h : S[l]? = some (.lst (zs.map D.str))) : inD (.str x) (.ref l) S = some (.bl (decide (x ∈ zs)), S) := by
  unfold inD inB inFlat
  simp only [seqO, h, flatO, flatL_str, firstO, Option.map_some, inV_str]
theorem notInD_lst {x : Str} {zs : List Str} {l : Nat} {S : Sto} (h : S[l]? = some (.lst (zs.map D.str))) : notInD (.str x) (.ref l) S = some (.bl (!decide (x ∈ zs)), S) := by
  unfold notInD inB inFlat
  simp only [seqO, h, flatO, flatL_str, firstO, Option.map_some, inV_str]
theorem inD_tup {x : Str} {zs : List Str} {S : Sto} : inD (.str x) (.tup (zs.map D.str)) S = some (.bl (decide (x ∈ zs)), S) := by
  unfold inD inB inFlat
  simp only [seqO, flatO, flatL_str, firstO, Option.map_some, inV_str]
theorem lenD_lst {ds : List D} {l : Nat} {S : Sto} (h : S[l]? = some (.lst ds)) : lenD [.ref l] S = some (.int ds.length, S) := by
  unfold lenD lenO
  simp only [seqO, h, Option.map_some]
theorem lenD_tup {ds : List D} {S : Sto} : lenD [.tup ds] S = some (.int ds.length, S) := by
  unfold lenD lenO
  simp only [seqO, Option.map_some]
theorem isi_lst {ds : List D} {l : Nat} {S : Sto} (h : S[l]? = some (.lst ds)) : isiD [.ref l, .tup [.ty "list", .ty "tuple"]] S = some (.bl true, S) := by
  unfold isiD
  simp only [tyN, h]
  rfl
theorem isi_tup {ds : List D} {S : Sto} : isiD [.tup ds, .ty "tuple"] S = some (.bl true, S) := by
  unfold isiD
  rfl
theorem isi_int {i : Int} {S : Sto} : isiD [.int i, .ty "int"] S = some (.bl true, S) := by
  unfold isiD
  rfl
theorem isi_intB {i : Int} {S : Sto} : isiD [.int i, .ty "bool"] S = some (.bl false, S) := by
  unfold isiD
  rfl
theorem keysO_str : ∀ zs : List Str, keysO (zs.map D.str) = some (zs.map Sum.inr)
  | [] => rfl
  | z :: zs => by
    rw [List.map_cons]
    unfold keysO
    rw [keysO_str zs]
    rfl
theorem map_get_str {zs : List Str} {i : Nat} (h : i < zs.length) : (zs.map D.str)[i]? = some (.str zs[i]) := by simp [h]
theorem are_names_ok {zs : List Str} {l : Nat} {most : Int} {S : Sto} (hS : S[l]? = some (.lst (zs.map D.str))) (hz : ∀ z ∈ zs, z ∈ nms) (hn : zs.Nodup) (h1 : 1 ≤ zs.length) (h2 : (zs.length : Int) ≤ most) (h3 : zs.length ≤ 10) :
    wF m_are_names [.ref l, .int most] S fun d S' => d = .bl true ∧ Kp' [] S S' := by
  have hs := sizeBig
  refine wF_def rfl ?_
  unfold b_are_names
  have l1 : decide ((1 : Int) ≤ (zs.length : Int)) = true := decide_eq_true (by omega)
  have l2 : decide ((zs.length : Int) ≤ most) = true := decide_eq_true h2
  have e1 := lenD_lst hS
  rw [List.length_map] at e1
  refine wS_seqN (wS_ifF (R := fun S1 => S1 = S) ?_ ?_)
  · have : 2 ≤ sizeLine := by omega
    simp [isi_lst hS, e1, leD, liB, l1, l2, this]
  · rintro S1 rfl
    rw [wS_next]
    refine ⟨rfl, wS_ret (wE_andT ?_)⟩
    refine wE_mono (wE_all ?_) ?_
    · rw [wI_any, wE_var]
      refine ⟨_, rfl, .cell l, by simp [srcO, hS], Kp'.refl _, zs.length, by simp [Src.len, hS], by omega, fun S2 k => ?_, fun i S2 hi k2 => ?_⟩
      · simp [Src.get, k.get hS]
      · refine ⟨.str zs[i], by simp [Src.get, k2.get hS, hi], ?_⟩
        have q := is_name_ok (hz zs[i] (List.getElem_mem hi)) S2
        simpa [nameG, wipeD] using q
    · rintro d S' ⟨rfl, k⟩
      refine ⟨rfl, ?_⟩
      have e2 := lenD_lst (k.get hS)
      rw [List.length_map] at e2
      have e3 : onceL (zs.map Sum.inr) = zs.map Sum.inr := onceL_nodup _ _ rfl (List.Pairwise.map _ (fun a b (h : a ≠ b) => fun z => h (by injection z)) hn)
      simp [lO, k.get hS, keysO_str, e2, eqD, e3]
      exact ⟨by omega, k⟩
theorem is_number_ok {i : Int} {S : Sto} : wF m_is_number [.int i] S fun d S' => d = .bl true ∧ S' = S := by
  refine wF_def rfl ?_
  unfold b_is_number
  refine wS_ret ?_
  simp [isi_int, isi_intB]
theorem flatL_int : ∀ zs : List Int, flatL (zs.map D.int) = some (zs.map L2.V.int)
  | [] => rfl
  | z :: zs => by
    rw [List.map_cons]
    unfold flatL
    rw [flatL_int zs]
    rfl
theorem is_house_step_ok {a b : Str} {cs : List Int} {rs : List Str} {r : Nat} {S : Sto} (hS : S[r]? = some (.lst (rs.map D.str))) (ha : a ∈ rs) (hb : b ∈ rs) (hr : ∀ z ∈ rs, z ∈ nms) (hc : ∀ c ∈ cs, -9 ≤ c ∧ c ≤ 9) (hl : cs.length ≤ 10) :
    wF m_is_house_step [.tup [.str a, .tup (cs.map D.int), .str b], .int cs.length, .ref r] S fun d S' => d = .bl true ∧ Kp' [] S S' := by
  have hs := sizeBig
  refine wF_def rfl ?_
  unfold b_is_house_step
  have n1 := is_name_ok (hr a ha)
  have n2 := is_name_ok (hr b hb)
  have x0 : ∀ S : Sto, idxD (.tup [.str a, .tup (cs.map D.int), .str b]) (.int 0) S = some (.str a, S) := fun S => rfl
  have x1 : ∀ S : Sto, idxD (.tup [.str a, .tup (cs.map D.int), .str b]) (.int 1) S = some (.tup (cs.map D.int), S) := fun S => rfl
  have x2 : ∀ S : Sto, idxD (.tup [.str a, .tup (cs.map D.int), .str b]) (.int 2) S = some (.str b, S) := fun S => rfl
  refine wS_seqN (wS_ifF (R := fun S1 => Kp' [] S S1) ?_ ?_)
  · refine wT_orF ?_
    simp only [wT_not, wT_tst, wE_cb, wA_cons, wA_nil, wE_var, wE_c]
    refine ⟨_, rfl, _, S, isi_tup, true, rfl, rfl, ?_⟩
    refine wT_orF ?_
    simp only [wT_tst, wE_bin, wE_cb, wA_cons, wA_nil, wE_var, wE_c]
    refine ⟨_, rfl, _, S, lenD_tup, _, S, rfl, false, rfl, rfl, ?_⟩
    refine wT_orF (wT_notT ?_)
    simp only [wE_call, wA_cons, wA_nil, wE_bin, wE_var, wE_c]
    refine ⟨_, rfl, _, S, x0 S, wF_mono (n1 S) ?_⟩
    rintro d S1 ⟨rfl, k1⟩
    refine ⟨rfl, trivial, wT_notT ?_⟩
    simp only [wE_call, wA_cons, wA_nil, wE_bin, wE_var, wE_c]
    refine ⟨_, rfl, _, S1, x2 S1, wF_mono (n2 S1) ?_⟩
    rintro d S2 ⟨rfl, k2⟩
    exact ⟨rfl, trivial, k1.trans k2⟩
  · intro S1 k1
    rw [wS_next]
    refine ⟨rfl, wS_seqN (wS_ifF (R := fun S2 => S2 = S1) ?_ ?_)⟩
    · have h1 := notInD_lst (x := a) (k1.get hS)
      have h2 := notInD_lst (x := b) (k1.get hS)
      rw [decide_eq_true ha] at h1
      rw [decide_eq_true hb] at h2
      have h3 : lenD [.tup (cs.map D.int)] S1 = some (.int cs.length, S1) := by
        rw [lenD_tup, List.length_map]
      simp [x0, x1, x2, h1, h2, isi_tup, h3, neD]
    · rintro S2 rfl
      rw [wS_next]
      refine ⟨rfl, wS_ret ?_⟩
      refine wE_mono (wE_all ?_) (fun d S' q => ⟨q.1, k1.trans q.2⟩)
      rw [wI_any, wE_bin, wE_var]
      simp only [wE_c]
      refine ⟨_, rfl, _, S2, x1 S2, .its (cs.map D.int), rfl, Kp'.refl _, cs.length, by simp [Src.len], by omega, fun S3 _ => by simp [Src.get], fun i S3 hi k2 => ?_⟩
      refine ⟨.int cs[i], by simp [Src.get, hi], ?_⟩
      have hci := hc cs[i] (List.getElem_mem hi)
      simp only [nameG, gW_some]
      refine wE_andT ?_
      simp only [wE_call, wA_cons, wA_nil, wE_var]
      refine ⟨_, by simp [wipeD]; rfl, wF_mono is_number_ok ?_⟩
      rintro d S4 ⟨rfl, rfl⟩
      refine ⟨rfl, ?_⟩
      have g1 : decide ((-9 : Int) ≤ cs[i]) = true := decide_eq_true hci.1
      have g2 : decide (cs[i] ≤ (9 : Int)) = true := decide_eq_true hci.2
      simp [wipeD, subD, liI, leD, liB, g1, g2, Kp'.refl]
end W77

set_option autoImplicit false
set_option Elab.async false
set_option linter.all false
set_option maxRecDepth 100000
set_option maxHeartbeats 1000000
namespace W77
open PySem Td
/-! ### a house is made -/
abbrev St3 := Str × List Int × Str
def stepD (s : St3) : D := .tup [.str s.1, .tup (s.2.1.map D.int), .str s.2.2]
structure HIn (ws rs : List Str) (st : List St3) : Prop where
  w : ∀ z ∈ ws, z ∈ nms
  r : ∀ z ∈ rs, z ∈ nms
  wn : ws.Nodup
  rn : rs.Nodup
  w1 : 1 ≤ ws.length
  w2 : ws.length ≤ 5
  r1 : 1 ≤ rs.length
  r2 : rs.length ≤ 4
  s1 : 1 ≤ st.length
  s2 : st.length ≤ 8
  s : ∀ x ∈ st, x.1 ∈ rs ∧ x.2.2 ∈ rs ∧ x.2.1.length = ws.length ∧ ∀ c ∈ x.2.1, -9 ≤ c ∧ c ≤ 9
theorem put2 (x y : D) : putFD "room_names" y (putFD "ware_names" x []) = [(Str.ofString "ware_names", x), (Str.ofString "room_names", y)] := by
  have e : ¬ ((Str.ofString "ware_names") = Str.ofString "room_names") := by decide +kernel
  unfold putFD
  unfold putFD
  simp only [if_neg e]
theorem put3 (x y z : D) : putFD "house_steps" z [(Str.ofString "ware_names", x), (Str.ofString "room_names", y)] = [(Str.ofString "ware_names", x), (Str.ofString "room_names", y), (Str.ofString "house_steps", z)] := by
  have e : ¬ ((Str.ofString "ware_names") = Str.ofString "house_steps") := by decide +kernel
  have e2 : ¬ ((Str.ofString "room_names") = Str.ofString "house_steps") := by decide +kernel
  unfold putFD
  rw [if_neg e]
  unfold putFD
  rw [if_neg e2]
  unfold putFD
  rfl
theorem listD_lst {ds : List D} {l : Nat} {S : Sto} (h : S[l]? = some (.lst ds)) : listD [.ref l] S = some (.ref S.length, S ++ [.lst ds]) := by
  unfold listD
  simp only [seqO, h, Option.map_some]
theorem store_ok {f : Str} {j me x : Nat} {ρ : En} {S : Sto} {fs : List (Str × D)} {ds : List D} {Q : Fl → En → Sto → Prop} (h0 : ρ[0]? = some (some (.ref me))) (hj : ρ[j]? = some (some (.ref x))) (hm : S[me]? = some (.ins "House" fs)) (hx : S[x]? = some (.lst ds)) (hl : fs.length < 1000)
    (k : ∀ S', Kp' [me] S S' → S'[me]? = some (.ins "House" (putFD f (.ref S.length) fs)) → S'[S.length]? = some (.lst ds) → Q .nx ρ S') : wS (sfM "House" f (varM 0) (cbM listD (consA (varM j) nilA))) ρ S Q := by
  refine wS_fld ?_
  simp only [wE_cb, wA_cons, wA_nil, wE_var]
  have lt := lt_of_get hm
  have hm' : (S ++ [Cell.lst ds])[me]? = some (.ins "House" fs) := (Kp'.app (E := []) S _).get hm
  refine ⟨_, hj, _, _, listD_lst hx, _, h0, me, fs, rfl, hm', hl, k _ ?_ ?_ ?_⟩
  · exact (Kp'.app S _).trans (Kp'.set (by simp))
  · rw [List.getElem?_set_self (by simp; omega)]
  · rw [List.getElem?_set_ne (by omega)]
    exact last_at _ _
theorem init_ok {ws rs : List Str} {st : List St3} {me w r s : Nat} {S : Sto} (H : HIn ws rs st) (hm : S[me]? = some (.ins "House" [])) (hw : S[w]? = some (.lst (ws.map D.str))) (hr : S[r]? = some (.lst (rs.map D.str))) (hs : S[s]? = some (.lst (st.map stepD))) :
    wF m_House___init__ [.ref me, .ref w, .ref r, .ref s] S fun d S' => d = .non ∧ Kp' [me] S S' ∧ ∃ i j k, S'[me]? = some (.ins "House" [("ware_names", .ref i), ("room_names", .ref j), ("house_steps", .ref k)]) ∧ S'[j]? = some (.lst (rs.map D.str)) ∧ S'[k]? = some (.lst (st.map stepD)) ∧ j ≠ me ∧ k ≠ me := by
  have hb := sizeBig
  refine wF_def rfl ?_
  unfold b_House___init__
  refine wS_seqN (wS_ifF (R := fun S1 => Kp' [] S S1) (wT_notT ?_) ?_)
  · refine wE_callF (ds := [.ref w, .int 5]) (by simp) (wF_mono (are_names_ok hw H.w H.wn H.w1 (by have := H.w2; omega) (by have := H.w2; omega)) ?_)
    rintro d S1 ⟨rfl, k⟩
    exact ⟨rfl, rfl, k⟩
  intro S1 k1
  rw [wS_next]
  refine ⟨rfl, wS_seqN (wS_ifF (R := fun S2 => Kp' [] S S2) (wT_notT ?_) ?_)⟩
  · refine wE_callF (ds := [.ref r, .int 4]) (by simp) (wF_mono (are_names_ok (k1.get hr) H.r H.rn H.r1 (by have := H.r2; omega) (by have := H.r2; omega)) ?_)
    rintro d S2 ⟨rfl, k⟩
    exact ⟨rfl, rfl, k1.trans k⟩
  intro S2 k2
  rw [wS_next]
  refine ⟨rfl, wS_seqN (wS_ifF (R := fun S3 => S3 = S2) ?_ ?_)⟩
  · have e1 := lenD_lst (k2.get hs)
    rw [List.length_map] at e1
    have g1 : decide ((1 : Int) ≤ (st.length : Int)) = true := decide_eq_true (by have := H.s1; omega)
    have g2 : decide ((st.length : Int) ≤ 8) = true := decide_eq_true (by have := H.s2; omega)
    have : 2 ≤ sizeLine := by omega
    simp [isi_lst (k2.get hs), e1, leD, liB, g1, g2, this]
  rintro S3 rfl
  rw [wS_next]
  refine ⟨rfl, wS_seqN (wS_for (wI_enu ?_))⟩
  simp only [wA_cons, wA_nil, wE_var]
  refine ⟨_, rfl, s, st.map stepD, rfl, k2.get hs, st.length, fun i ρ S4 => Kp' [] S S4 ∧ ∃ a b, ρ = [some (.ref me), some (.ref w), some (.ref r), some (.ref s), a, b], by simp [Src.len, k2.get hs], ⟨k2, _, _, rfl⟩, ?_, ?_, ?_⟩
  · rintro ρ S4 ⟨k4, a, b, rfl⟩
    simp [Src.get, k4.get hs, pair?]
  · rintro i ρ S4 hi ⟨k4, a, b, rfl⟩
    refine ⟨.tup [.int i, stepD st[i]], by simp [Src.get, k4.get hs, pair?, hi], ?_⟩
    obtain ⟨q1, q2, q3, q4⟩ := H.s st[i] (List.getElem_mem hi)
    simp only [tupG, consG, nameG, nilG, List.length_cons, List.length_nil, if_true, gW_some, List.set_cons_succ, List.set_cons_zero]
    refine wS_ifF (R := fun S5 => Kp' [] S S5) (wT_notT ?_) ?_
    · have e1 := lenD_lst (k4.get hw)
      rw [List.length_map] at e1
      have e2 := is_house_step_ok (a := st[i].1) (b := st[i].2.2) (cs := st[i].2.1) (k4.get hr) q1 q2 H.r q4 (by rw [q3]; have := H.w2; omega)
      rw [q3] at e2
      refine wE_callF (ds := [stepD st[i], .int ws.length, .ref r]) (by simp [e1]) (wF_mono e2 ?_)
      rintro d S5 ⟨rfl, k⟩
      exact ⟨rfl, by first | rfl | trivial, k4.trans k⟩
    · intro S5 k5
      rw [wS_next]
      exact ⟨by first | exact .inl rfl | trivial, k5, _, _, rfl⟩
  rintro ρ S4 ⟨k4, a, b, rfl⟩
  refine ⟨by first | rfl | trivial, wS_seqN ?_⟩
  have m4 := k4.get hm
  have nw : w ∉ [me] := fun z => by
    rw [List.mem_singleton.mp z, hm] at hw
    cases hw
  have nr : r ∉ [me] := fun z => by
    rw [List.mem_singleton.mp z, hm] at hr
    cases hr
  have ns : s ∉ [me] := fun z => by
    rw [List.mem_singleton.mp z, hm] at hs
    cases hs
  refine store_ok rfl rfl m4 (k4.get hw) (by simp) fun S5 k5 m5 x5 => ⟨rfl, wS_seqN ?_⟩
  refine store_ok rfl rfl m5 (k5.get (k4.get hr) nr) (by simp [putFD]) fun S6 k6 m6 x6 => ⟨rfl, ?_⟩
  refine store_ok rfl rfl m6 (k6.get (k5.get (k4.get hs) ns) ns) (by rw [put2]; simp) fun S7 k7 m7 x7 => ?_
  have lt4 := lt_of_get m4
  have le5 := k5.1
  have le6 := k6.1
  have n5 : S5.length ≠ me := by omega
  have n6 : S6.length ≠ me := by omega
  refine ⟨by first | rfl | trivial, (k4.any.trans k5).trans (k6.trans k7), S4.length, S5.length, S6.length, ?_, k7.get x6 (by simp; omega), x7, n5, n6⟩
  rw [m7, put2, put3]
end W77

set_option autoImplicit false
set_option Elab.async false
set_option linter.all false
set_option maxRecDepth 100000
set_option maxHeartbeats 1000000
namespace W77
open PySem Td
/-! ### the state of the draws -/
def kG : Str := "great"
def kC : Str := "cells"
def kR : Str := "rest"
def kT : Str := "turn"
def dv (g c : Nat) (rest turn : Int) : List (D × D) := [(.str kG, .ref g), (.str kC, .ref c), (.str kR, .int rest), (.str kT, .int turn)]
theorem n1 : ¬ kG = kC := by decide +kernel
theorem n2 : ¬ kG = kR := by decide +kernel
theorem n3 : ¬ kG = kT := by decide +kernel
theorem n4 : ¬ kC = kR := by decide +kernel
theorem n5 : ¬ kC = kT := by decide +kernel
theorem n6 : ¬ kR = kT := by decide +kernel
theorem kinj (a b : Str) : ((some (Sum.inr a) : Option L2.Key) = some (Sum.inr b)) ↔ a = b := ⟨fun h => by injection h with h; injection h, fun h => by rw [h]⟩
section
variable {S : Sto} {l g c : Nat} {rest turn : Int}
theorem idx_of {kvs : List (D × D)} {x : Str} {d : D} (h : S[l]? = some (.dct kvs)) (hf : findD kvs (.inr x) = some d) : idxD (.ref l) (.str x) S = some (d, S) := by
  unfold idxD
  simp only [seqO, h, dctO, keyD, hf]
theorem idxG (h : S[l]? = some (.dct (dv g c rest turn))) : idxD (.ref l) (.str kG) S = some (.ref g, S) := idx_of h (by simp [findD, dv, keyD, kinj])
theorem idxC (h : S[l]? = some (.dct (dv g c rest turn))) : idxD (.ref l) (.str kC) S = some (.ref c, S) := idx_of h (by simp [findD, dv, keyD, kinj, n1])
theorem idxR (h : S[l]? = some (.dct (dv g c rest turn))) : idxD (.ref l) (.str kR) S = some (.int rest, S) := idx_of h (by simp [findD, dv, keyD, kinj, n2, n4])
theorem idxT (h : S[l]? = some (.dct (dv g c rest turn))) : idxD (.ref l) (.str kT) S = some (.int turn, S) := idx_of h (by simp [findD, dv, keyD, kinj, n3, n5, n6])
theorem setT (h : S[l]? = some (.dct (dv g c rest turn))) (v : Int) : setID (.ref l) (.str kT) (.int v) S = some (S.set l (.dct (dv g c rest v))) := by
  have hb : (dv g c rest turn).length < sizeLine := by have := sizeBig; show 4 < sizeLine; omega
  have e : putD (dv g c rest turn) (.inr kT) (.str kT) (.int v) = dv g c rest v := by
    simp [putD, dv, keyD, kinj, n3, n5, n6]
  unfold setID
  simp only [h, keyD, if_pos hb, e]
theorem setR (h : S[l]? = some (.dct (dv g c rest turn))) (v : Int) : setID (.ref l) (.str kR) (.int v) S = some (S.set l (.dct (dv g c v turn))) := by
  have hb : (dv g c rest turn).length < sizeLine := by have := sizeBig; show 4 < sizeLine; omega
  have n6' : ¬ kT = kR := fun z => n6 z.symm
  have e : putD (dv g c rest turn) (.inr kR) (.str kR) (.int v) = dv g c v turn := by
    simp [putD, dv, keyD, kinj, n2, n4, n6']
  unfold setID
  simp only [h, keyD, if_pos hb, e]
end
def DS (l g c t : Nat) (S : Sto) : Prop := ∃ (rest turn : Int) (gs cs : List Int), S[l]? = some (.dct (dv g c rest turn)) ∧ S[g]? = some (.lst (gs.map D.int)) ∧ S[c]? = some (.lst (cs.map D.int)) ∧ 0 ≤ turn ∧ turn ≤ t ∧ g ≠ c
theorem DS.keep {l g c t : Nat} {S S' : Sto} (h : DS l g c t S) (k : Kp' [] S S') : DS l g c t S' := by
  obtain ⟨r, u, gs, cs, h1, h2, h3, h4⟩ := h
  exact ⟨r, u, gs, cs, k.get h1, k.get h2, k.get h3, h4⟩
theorem DS.more {l g c t u : Nat} {S : Sto} (h : DS l g c t S) (hu : t ≤ u) : DS l g c u S := by
  obtain ⟨r, x, gs, cs, h1, h2, h3, h4, h5, h6⟩ := h
  exact ⟨r, x, gs, cs, h1, h2, h3, h4, by omega, h6⟩
theorem DS.ne {l g c t : Nat} {S : Sto} (h : DS l g c t S) : l ≠ g ∧ l ≠ c := by
  obtain ⟨r, x, gs, cs, h1, h2, h3, h4⟩ := h
  exact ⟨fun z => (by rw [z, h2] at h1; cases h1), fun z => (by rw [z, h3] at h1; cases h1)⟩
theorem fmod_nn {a b : Int} (h : 0 < b) : 0 ≤ a.fmod b ∧ a.fmod b < b := by
  rw [Int.fmod_eq_emod_of_nonneg a (by omega)]
  exact ⟨Int.emod_nonneg a (by omega), Int.emod_lt_of_pos a h⟩
theorem fdiv_nn {a b : Int} (h0 : 0 ≤ a) (h : 0 < b) : 0 ≤ a.fdiv b ∧ a.fdiv b ≤ a := by
  rw [Int.fdiv_eq_ediv_of_nonneg a (by omega)]
  exact ⟨Int.ediv_nonneg h0 (by omega), Int.ediv_le_self b h0⟩
theorem mixed_ok {l g c t : Nat} {S : Sto} (h : DS l g c t S) (ht : t < 2 ^ 30) : wF m__law_mixed [.ref l] S fun d S' => (∃ i : Int, d = .int i) ∧ DS l g c (t + 1) S' ∧ Kp' [l] S S' := by
  obtain ⟨hn1, hn2⟩ := h.ne
  obtain ⟨rest, turn, gs, cs, e1, e2, e3, t0, t1, hgc⟩ := h
  have hb := sizeBig
  refine wF_def rfl ?_
  unfold b__law_mixed
  refine wS_seqN (wS_par ?_)
  simp only [wA_cons, wA_nil, wE_bin, wE_var, wE_c]
  refine ⟨_, rfl, _, S, idxT e1, _, S, rfl, _, _, rfl, by simp, wS_seqN (wS_sub ?_)⟩
  simp only [wE_var, wE_c]
  refine ⟨_, rfl, _, rfl, _, setT e1 (turn + 1), by simp, ?_⟩
  have s1 : (S.set l (.dct (dv g c rest (turn + 1))))[l]? = some (.dct (dv g c rest (turn + 1))) := List.getElem?_set_self (lt_of_get e1)
  have k1 : Kp' [l] S (S.set l (.dct (dv g c rest (turn + 1)))) := Kp'.set (by simp)
  have s2 := k1.get e2 (by simpa using hn1.symm)
  have s3 := k1.get e3 (by simpa using hn2.symm)
  generalize S.set l (.dct (dv g c rest (turn + 1))) = S1 at s1 s2 s3 k1
  have fin : ∀ S2, Kp' [] S1 S2 → DS l g c (t + 1) S2 ∧ Kp' [l] S S2 := fun S2 k => ⟨⟨rest, turn + 1, gs, cs, k.get s1, k.get s2, k.get s3, by omega, by omega, hgc⟩, k1.trans k.any⟩
  refine wS_seqN (wS_for (wI_any.mpr ?_))
  simp only [wE_lst, wA_cons, wA_nil, wE_c]
  refine ⟨by simp; omega, .cell S1.length, by simp [srcO], 4, fun i ρ S2 => Kp' [] S1 S2 ∧ S2[S1.length]? = some (.lst [.int 2147483549, .int 2147483543, .int 2147483497, .int 2147483489]) ∧ ∃ a b x, ∃ f : Int, ρ = [some (.ref l), some (.int (turn + 1)), some (.int f), a, b, x], by simp [Src.len], ⟨Kp'.app _ _, by simp, _, _, _, _, rfl⟩, ?_, ?_, ?_⟩
  · rintro ρ S2 ⟨k2, q2, _⟩
    simp [Src.get, q2]
  · rintro i ρ S2 hi ⟨k2, q2, a, b, x, f, rfl⟩
    obtain ⟨pr, hp, hp1, hp2⟩ : ∃ pr : Int, ([D.int 2147483549, D.int 2147483543, D.int 2147483497, D.int 2147483489] : List D)[i]? = some (D.int pr) ∧ 0 < pr ∧ pr ≤ 2147483549 := by
      rcases i with _ | _ | _ | _ | i
      · exact ⟨_, rfl, by decide, by decide⟩
      · exact ⟨_, rfl, by decide, by decide⟩
      · exact ⟨_, rfl, by decide, by decide⟩
      · exact ⟨_, rfl, by decide, by decide⟩
      · omega
    refine ⟨.int pr, by simp only [Src.get, q2, hp], ?_⟩
    simp only [nameG, gW_some, List.set_cons_succ, List.set_cons_zero]
    refine wS_seqN (wS_set ?_)
    have d41 : fdivD (.int pr) (.int 41) S2 = some (.int (pr.fdiv 41), S2) := by
      unfold fdivD liC
      rfl
    have m1 : mulD (.int 69621) (.int (turn + 1)) S2 = some (.int (69621 * (turn + 1)), S2) := by
      unfold mulD liC
      simp only
      rw [if_pos]
      unfold cMul
      rfl
    simp only [wE_bin, wE_c, wE_var]
    refine ⟨_, rfl, _, _, m1, _, rfl, _, _, d41, _, _, rfl, by simp, ?_⟩
    obtain ⟨b0, b1⟩ := fdiv_nn (a := pr) (b := 41) (by omega) (by omega)
    simp only [List.set_cons_succ, List.set_cons_zero]
    refine wS_seqN (wS_for (wI_any.mpr ?_))
    simp only [wE_bin, wE_var, wE_c]
    refine ⟨_, rfl, _, S2, idxC (k2.get s1), .cell c, by simp [srcO, k2.get s3], cs.length, fun j ρ S3 => S3 = S2 ∧ ∃ bl : Int, ∃ x, 0 ≤ bl ∧ bl < 2 ^ 60 ∧ ρ = [some (.ref l), some (.int (turn + 1)), some (.int f), some (.int pr), some (.int bl), x], by simp [Src.len, k2.get s3], ⟨rfl, _, _, by omega, by omega, rfl⟩, ?_, ?_, ?_⟩
    · rintro ρ S3 ⟨rfl, _⟩
      simp [Src.get, k2.get s3]
    · rintro j ρ S3 hj ⟨rfl, bl, x, g0, g1, rfl⟩
      refine ⟨.int cs[j], by simp [Src.get, k2.get s3, hj], ?_⟩
      simp only [nameG, gW_some, List.set_cons_succ, List.set_cons_zero]
      refine wS_set ?_
      have m2 : mulD (.int bl) (.int 48271) S3 = some (.int (bl * 48271), S3) := by
        unfold mulD liC
        simp only
        rw [if_pos]
        unfold cMul
        simp
      have m3 : ∀ z : Int, modD (.int z) (.int pr) S3 = some (.int (z.fmod pr), S3) := fun z => by
        unfold modD liC
        simp only
        rw [if_pos]
        simp; omega
      simp only [wE_bin, wE_cb, wA_cons, wA_nil, wE_c, wE_var]
      refine ⟨_, rfl, _, _, m2, _, rfl, _, _, rfl, _, rfl, _, _, rfl, _, _, rfl, _, rfl, _, _, m3 _, ?_⟩
      obtain ⟨z0, z1⟩ := fmod_nn (a := bl * 48271 + cs[j] + (turn + 1)) hp1
      exact ⟨by simp, rfl, _, _, z0, by omega, rfl⟩
    · rintro ρ S3 ⟨rfl, bl, x, g0, g1, rfl⟩
      refine ⟨by simp, wS_set ?_⟩
      have m2 : mulD (.int f) (.int 2147483659) S3 = some (.int (f * 2147483659), S3) := by
        unfold mulD liC
        simp only
        rw [if_pos]
        unfold cMul
        simp
      have m3 : ∀ z : Int, modD (.int z) (.int pr) S3 = some (.int (z.fmod pr), S3) := fun z => by
        unfold modD liC
        simp only
        rw [if_pos]
        simp; omega
      have m4 : powD (.int bl) (.int 5) S3 = some (.int (bl ^ 5), S3) := by
        unfold powD liC
        simp only
        rw [if_pos]
        · rfl
        · simp; omega
      simp only [wE_bin, wE_cb, wA_cons, wA_nil, wE_c, wE_var]
      refine ⟨_, rfl, _, _, m2, _, rfl, _, _, m4, _, _, rfl, _, rfl, _, _, m3 _, _, _, rfl, ?_⟩
      exact ⟨by simp, k2, q2, _, _, _, _, rfl⟩
  · rintro ρ S2 ⟨k2, q2, a, b, x, f, rfl⟩
    refine ⟨by simp, wS_ret ?_⟩
    simp only [wE_var]
    exact ⟨_, rfl, ⟨f, rfl⟩, fin S2 k2⟩
end W77

set_option autoImplicit false
set_option Elab.async false
set_option linter.all false
set_option maxRecDepth 100000
set_option maxHeartbeats 1000000
namespace W77
open PySem Td
/-! ### draws -/
theorem pydL_map {α : Type} {f : D → Option PyData} {a : α → D} {b : α → PyData} (h : ∀ x, f (a x) = some (b x)) : ∀ xs : List α, pydL f (xs.map a) = some (xs.map b)
  | [] => rfl
  | x :: xs => by
    rw [List.map_cons]
    unfold pydL
    rw [h x, pydL_map h xs]
    rfl
theorem pyd_ints {S : Sto} {l n : Nat} {gs : List Int} (h : S[l]? = some (.lst (gs.map D.int))) : pyd S (n + 2) (.ref l) = some (.list (gs.map PyData.int)) := by
  unfold pyd
  simp only [h]
  rw [pydL_map (f := pyd S (n + 1)) (a := D.int) (b := PyData.int) (fun x => by unfold pyd; rfl)]
  rfl
theorem lay_ints : ∀ gs : List Int, PyData.canLayAll0 (gs.map PyData.int) = true
  | [] => by simp [PyData.canLayAll0]
  | g :: gs => by
    rw [List.map_cons]
    simp only [PyData.canLayAll0, PyData.canLay0, lay_ints gs, Bool.and_self]
theorem dep_ints : ∀ gs : List Int, PyData.depthAll (gs.map PyData.int) = 0
  | [] => by simp [PyData.depthAll]
  | g :: gs => by
    rw [List.map_cons]
    simp only [PyData.depthAll, PyData.depth, dep_ints gs]
    rfl
theorem shaped_ints (gs : List Int) : SeqAt.shaped (.list (gs.map PyData.int)) = true := by
  unfold SeqAt.shaped
  simp only [PyData.canLay0, PyData.depth, lay_ints, dep_ints]
  rfl
theorem neD_ints {S : Sto} {l m : Nat} {gs : List Int} (h : S[l]? = some (.lst (gs.map D.int))) (h2 : S[m]? = some (.lst [])) : neD (.ref l) (.ref m) S = some (.bl (!gs.isEmpty), S) := by
  have e1 := pyd_ints (n := 10) h
  have e2 := pyd_ints (n := 10) (gs := []) h2
  have sh := shaped_ints gs
  have sh2 := shaped_ints []
  unfold neD neDeep
  simp only [e1, e2, sh, sh2, Bool.and_self, if_true]
  cases gs with
  | nil => simp [PyData.eqv, PyData.eqvAll]
  | cons g gs => simp [PyData.eqv, PyData.eqvAll]
theorem draw_ok {l g c t : Nat} {room : Int} {S : Sto} (h : DS l g c t S) (ht : t < 2 ^ 30) (r0 : 0 < room) (r1 : room < 2 ^ 29) : wF m__law_draw [.ref l, .int room] S fun d S' => (∃ i : Int, d = .int i ∧ 0 ≤ i ∧ i < room) ∧ DS l g c (t + 1) S' ∧ Kp' [l, g] S S' := by
  have hne := h.ne
  have hb := sizeBig
  refine wF_def rfl ?_
  unfold b__law_draw
  -- the rest is filled
  have go : ∀ S1, DS l g c (t + 1) S1 → Kp' [l, g] S S1 → wS (seqS (setS 2 (binM modD (cbM intD (consA (binM idxD (varM 0) (cM (.str "rest"))) nilA)) (varM 1))) (seqS (subS setID (varM 0) (cM (.str "rest")) (binM fdivD (binM idxD (varM 0) (cM (.str "rest"))) (varM 1))) (retS (varM 2)))) [some (.ref l), some (.int room), none] S1 fun f _ S' => match f with
      | .nx => (∃ i : Int, D.non = .int i ∧ 0 ≤ i ∧ i < room) ∧ DS l g c (t + 1) S' ∧ Kp' [l, g] S S'
      | .rt d => (∃ i : Int, d = .int i ∧ 0 ≤ i ∧ i < room) ∧ DS l g c (t + 1) S' ∧ Kp' [l, g] S S'
      | _ => False := by
    rintro S1 ⟨rest, turn, gs, cs, e1, e2, e3, t0, t1, hgc⟩ k1
    have m3 : modD (.int rest) (.int room) S1 = some (.int (rest.fmod room), S1) := by
      unfold modD liC
      simp only
      rw [if_pos]
      simp; omega
    have m4 : fdivD (.int rest) (.int room) S1 = some (.int (rest.fdiv room), S1) := by
      unfold fdivD liC
      simp only
      rw [if_pos]
      simp; omega
    obtain ⟨z0, z1⟩ := fmod_nn (a := rest) r0
    refine wS_seqN (wS_set ?_)
    simp only [wE_bin, wE_cb, wA_cons, wA_nil, wE_c, wE_var]
    refine ⟨_, rfl, _, _, idxR e1, _, _, rfl, _, rfl, _, _, m3, by simp, wS_seqN (wS_sub ?_)⟩
    simp only [wE_bin, wE_c, wE_var]
    refine ⟨_, rfl, _, _, idxR e1, _, rfl, _, _, m4, _, rfl, _, setR e1 _, by simp, wS_ret ?_⟩
    simp only [wE_var]
    have k2 : Kp' [l] S1 (S1.set l (.dct (dv g c (rest.fdiv room) turn))) := Kp'.set (by simp)
    refine ⟨_, rfl, ⟨_, rfl, z0, z1⟩, ⟨_, turn, gs, cs, List.getElem?_set_self (lt_of_get e1), k2.get e2 (by simpa using hne.1.symm), k2.get e3 (by simpa using hne.2.symm), t0, t1, hgc⟩, k1.trans (k2.mono (by simp))⟩
  obtain ⟨rest, turn, gs, cs, e1, e2, e3, t0, t1, hgc⟩ := h
  refine wS_seqN ?_
  refine wS_if ?_
  simp only [wT_tst, wE_bin, wE_c, wE_var]
  refine ⟨_, rfl, _, _, idxR e1, _, S, rfl, _, rfl, ?_⟩
  by_cases hr : rest = 0
  · rw [decide_eq_true hr, if_pos rfl]
    refine wS_sub ?_
    rw [wE_if, wT_tst]
    simp only [wE_bin, wE_c, wE_var, wE_lst, wA_nil]
    have a1 : (S ++ [Cell.lst []])[g]? = some (.lst (gs.map D.int)) := (Kp'.app (E := []) S _).get e2
    have a2 : (S ++ [Cell.lst []])[l]? = some (.dct (dv g c rest turn)) := (Kp'.app (E := []) S _).get e1
    have a3 : (S ++ [Cell.lst []])[c]? = some (.lst (cs.map D.int)) := (Kp'.app (E := []) S _).get e3
    refine ⟨_, rfl, _, _, idxG e1, by simp, _, _, neD_ints a1 (last_at S _), _, rfl, ?_⟩
    have k0 : Kp' [] S (S ++ [Cell.lst []]) := Kp'.app _ _
    generalize S ++ [Cell.lst []] = S1 at a1 a2 a3 k0
    cases gs with
    | nil =>
      rw [if_neg (by simp)]
      rw [wE_call]
      simp only [wA_cons, wA_nil, wE_var]
      refine ⟨_, rfl, wF_mono (mixed_ok (l := l) (g := g) (c := c) (t := t) ⟨rest, turn, [], cs, a2, a1, a3, t0, t1, hgc⟩ ht) ?_⟩
      rintro d S2 ⟨⟨i, rfl⟩, ⟨rest2, turn2, gs2, cs2, b1, b2, b3, b4, b5, b6⟩, k2⟩
      have k3 : Kp' [l] S2 (S2.set l (.dct (dv g c i turn2))) := Kp'.set (by simp)
      refine ⟨_, rfl, _, setR b1 i, by simp, ?_⟩
      exact go _ ⟨i, turn2, gs2, cs2, List.getElem?_set_self (lt_of_get b1), k3.get b2 (by simpa using hne.1.symm), k3.get b3 (by simpa using hne.2.symm), b4, b5, b6⟩ ((k0.any.trans (k2.mono (by simp))).trans (k3.mono (by simp)))
    | cons z gs =>
      rw [if_pos (by simp)]
      rw [wE_mt]
      simp only [wE_bin, wE_c, wE_var, wA_cons, wA_nil]
      have pp : popD (.ref g) [.int 0] S1 = some (.int z, S1.set g (.lst (gs.map D.int))) := by
        unfold popD lstO
        simp only [a1]
        rw [if_pos (by decide)]
        have : seqIndex? 0 (List.map D.int (z :: gs)).length = some 0 := by
          simp [seqIndex?]
        simp only [this]
        rfl
      refine ⟨_, rfl, _, _, idxG a2, by simp [lstTy, a1], _, _, pp, ?_⟩
      have k2 : Kp' [g] S1 (S1.set g (.lst (gs.map D.int))) := Kp'.set (by simp)
      have b1 := k2.get a2 (by simpa using hne.1)
      have b2 : (S1.set g (.lst (gs.map D.int)))[g]? = some (.lst (gs.map D.int)) := List.getElem?_set_self (lt_of_get a1)
      have b3 := k2.get a3 (by simpa using hgc.symm)
      generalize S1.set g (.lst (gs.map D.int)) = S2 at b1 b2 b3 k2
      simp only [wE_c, wE_var]
      have k3 : Kp' [l] S2 (S2.set l (.dct (dv g c z turn))) := Kp'.set (by simp)
      refine ⟨_, rfl, _, setR b1 z, by simp, ?_⟩
      exact go _ ⟨z, turn, gs, cs, List.getElem?_set_self (lt_of_get b1), k3.get b2 (by simpa using hne.1.symm), k3.get b3 (by simpa using hne.2.symm), t0, by omega, hgc⟩ ((k0.any.trans (k2.mono (by simp))).trans (k3.mono (by simp)))
  · rw [decide_eq_false hr, if_neg (by simp), wS_next]
    exact ⟨rfl, go S ⟨rest, turn, gs, cs, e1, e2, e3, t0, by omega, hgc⟩ (Kp'.refl _)⟩
end W77

set_option autoImplicit false
set_option Elab.async false
set_option linter.all false
set_option maxRecDepth 100000
set_option maxHeartbeats 1000000
namespace W77
open PySem Td
theorem Kp'.cut {E F : List Nat} {S S' : Sto} (a : Kp' (E ++ F) S S') (h : ∀ x ∈ F, S.length ≤ x) : Kp' E S S' := ⟨a.1, fun l c n e => a.2 l c (fun z => by
  rcases List.mem_append.mp z with z | z
  · exact n z
  · have := lt_of_get e
    have := h l z
    omega) e⟩
theorem erase_perm {α : Type} : ∀ (l : List α) (i : Nat) (h : i < l.length), (l[i] :: l.eraseIdx i).Perm l
  | x :: l, 0, _ => .refl _
  | x :: l, i + 1, h => by
    have h' : i < l.length := by simpa using h
    have ih := erase_perm l i h'
    show (l[i] :: x :: l.eraseIdx i).Perm (x :: l)
    exact (List.Perm.swap _ _ _).trans (ih.cons x)
theorem atI_get {ds : List D} {i : Int} (h0 : 0 ≤ i) (h1 : i < ds.length) : L2.atI ds i = some ds[i.toNat] := by
  unfold L2.atI L2.ixN
  rw [if_pos h0, if_pos h1]
  simp only [Option.bind_some]
  exact List.getElem?_eq_getElem (by omega)
theorem idxD_lst {S : Sto} {s : Nat} {ds : List D} {i : Int} (h : S[s]? = some (.lst ds)) (h0 : 0 ≤ i) (h1 : i < ds.length) : ∃ d, d ∈ ds ∧ idxD (.ref s) (.int i) S = some (d, S) := by
  refine ⟨ds[i.toNat], List.getElem_mem _, ?_⟩
  unfold idxD
  simp only [seqO, h, atI_get h0 h1]
theorem pick_ok {l g c t s : Nat} {ds : List D} {S : Sto} (h : DS l g c t S) (ht : t < 2 ^ 30) (hs : S[s]? = some (.lst ds)) (d0 : ds ≠ []) (d1 : ds.length < 1000) (hsl : s ≠ l) (hsg : s ≠ g) :
    wF m__law_pick [.ref l, .ref s] S fun d S' => d ∈ ds ∧ DS l g c (t + 1) S' ∧ Kp' [l, g] S S' := by
  refine wF_def rfl ?_
  unfold b__law_pick
  refine wS_ret ?_
  simp only [wE_bin, wE_var]
  refine ⟨_, rfl, ?_⟩
  have hl : 0 < ds.length := List.length_pos_iff.mpr d0
  refine wE_callF (ds := [.ref l, .int ds.length]) (by simp [lenD_lst hs]) (wF_mono (draw_ok h ht (room := ds.length) (by omega) (by omega)) ?_)
  rintro d S' ⟨⟨i, rfl, i0, i1⟩, hd, k⟩
  obtain ⟨d, hm, e⟩ := idxD_lst (k.get hs (by simp [hsl, hsg])) i0 i1
  exact ⟨_, _, e, hm, hd, k⟩
theorem pyd_strs {S : Sto} {l n : Nat} {gs : List Str} (h : S[l]? = some (.lst (gs.map D.str))) : pyd S (n + 2) (.ref l) = some (.list (gs.map PyData.str)) := by
  unfold pyd
  simp only [h]
  rw [pydL_map (f := pyd S (n + 1)) (a := D.str) (b := PyData.str) (fun x => by unfold pyd; rfl)]
  rfl
theorem lay_strs : ∀ gs : List Str, (∀ z ∈ gs, z ∈ nms) → PyData.canLayAll0 (gs.map PyData.str) = true
  | [], _ => by simp [PyData.canLayAll0]
  | g :: gs, h => by
    rw [List.map_cons]
    have h1 := nms_ok g (h g List.mem_cons_self)
    have h2 := lay_strs gs fun z hz => h z (List.mem_cons_of_mem _ hz)
    simp only [PyData.canLayAll0, h1, h2, Bool.and_self]
theorem dep_strs : ∀ gs : List Str, PyData.depthAll (gs.map PyData.str) = 0
  | [] => by simp [PyData.depthAll]
  | g :: gs => by
    rw [List.map_cons]
    simp only [PyData.depthAll, PyData.depth, dep_strs gs]
    rfl
theorem shaped_strs {gs : List Str} (h : ∀ z ∈ gs, z ∈ nms) : SeqAt.shaped (.list (gs.map PyData.str)) = true := by
  unfold SeqAt.shaped
  simp only [PyData.canLay0, PyData.depth, lay_strs gs h, dep_strs]
  rfl
theorem neD_strs {S : Sto} {l m : Nat} {gs : List Str} (hz : ∀ z ∈ gs, z ∈ nms) (h : S[l]? = some (.lst (gs.map D.str))) (h2 : S[m]? = some (.lst [])) : neD (.ref l) (.ref m) S = some (.bl (!gs.isEmpty), S) := by
  have e1 := pyd_strs (n := 10) h
  have e2 := pyd_strs (n := 10) (gs := []) h2
  have sh := shaped_strs hz
  have sh2 := shaped_strs (gs := []) (by simp)
  unfold neD neDeep
  simp only [e1, e2, sh, sh2, Bool.and_self, if_true]
  cases gs with
  | nil => simp [PyData.eqv, PyData.eqvAll]
  | cons g gs => simp [PyData.eqv, PyData.eqvAll]
theorem erase_map {α β : Type} (f : α → β) : ∀ (l : List α) (i : Nat), (l.map f).eraseIdx i = (l.eraseIdx i).map f
  | [], _ => rfl
  | _ :: _, 0 => rfl
  | x :: l, i + 1 => by
    show f x :: (l.map f).eraseIdx i = f x :: (l.eraseIdx i).map f
    rw [erase_map f l i]
theorem popAt_strs {S : Sto} {a : Nat} {zs : List Str} {i : Int} (h : S[a]? = some (.lst (zs.map D.str))) (h0 : 0 ≤ i) (h1 : i < zs.length) (hb : zs.length < 1000) :
    ∃ (j : Nat) (hj : j < zs.length), popD (.ref a) [.int i] S = some (.str zs[j], S.set a (.lst ((zs.eraseIdx j).map D.str))) := by
  refine ⟨i.toNat, by omega, ?_⟩
  unfold popD lstO
  simp only [h]
  rw [if_pos (by omega)]
  have e : seqIndex? i (List.map D.str zs).length = some i.toNat := by
    unfold seqIndex?
    rw [List.length_map]
    simp only [if_neg (show ¬ i < 0 by omega)]
    rw [if_pos (by simp; omega)]
  have e2 : (List.map D.str zs)[i.toNat]? = some (.str zs[i.toNat]) := map_get_str (by omega)
  simp only [e, e2]
  rw [erase_map]
theorem appD_lst {S : Sto} {b : Nat} {ds : List D} {y : D} (h : S[b]? = some (.lst ds)) (hb : ds.length < 1000) : appD (.ref b) [y] S = some (.non, S.set b (.lst (ds ++ [y]))) := by
  have := sizeBig
  unfold appD lstO
  simp only [h]
  rw [if_pos (by omega)]
theorem shuffled_ok {l g c t s : Nat} {zs : List Str} {S : Sto} (h : DS l g c t S) (ht : t + zs.length < 2 ^ 30) (hs : S[s]? = some (.lst (zs.map D.str))) (hz : ∀ z ∈ zs, z ∈ nms) (hl : zs.length < 900) :
    wF m__law_shuffled [.ref l, .ref s] S fun d S' => ∃ (f : Nat) (fs : List Str), d = .ref f ∧ S.length ≤ f ∧ S'[f]? = some (.lst (fs.map D.str)) ∧ fs.Perm zs ∧ DS l g c (t + zs.length) S' ∧ Kp' [l, g] S S' := by
  have hne := h.ne
  refine wF_def rfl ?_
  unfold b__law_shuffled
  refine wS_seqN (wS_par ?_)
  simp only [wA_cons, wA_nil, wE_cb, wE_var, wE_lst]
  refine ⟨_, rfl, _, _, listD_lst hs, by simp, _, _, rfl, by simp, ?_⟩
  have k0 : Kp' [] S (S ++ [Cell.lst (zs.map D.str)] ++ [Cell.lst []]) := (Kp'.app S _).trans (Kp'.app _ _)
  have a1 : (S ++ [Cell.lst (zs.map D.str)] ++ [Cell.lst []])[S.length]? = some (.lst (zs.map D.str)) := (Kp'.app (E := []) _ _).get (last_at S _)
  have a2 : (S ++ [Cell.lst (zs.map D.str)] ++ [Cell.lst []])[S.length + 1]? = some (.lst (([] : List Str).map D.str)) := by
    have := last_at (S ++ [Cell.lst (zs.map D.str)]) (.lst [])
    simpa using this
  have h0 := h.keep k0
  have e3 : (S ++ [Cell.lst (zs.map D.str)]).length = S.length + 1 := by simp
  rw [e3]
  generalize hS1 : S ++ [Cell.lst (zs.map D.str)] ++ [Cell.lst []] = S1 at k0 a1 a2 h0
  generalize ha : S.length = a at a1 a2
  have al : a ≠ l ∧ a ≠ g ∧ a ≠ c ∧ a + 1 ≠ l ∧ a + 1 ≠ g ∧ a + 1 ≠ c := by
    obtain ⟨_, _, _, _, q1, q2, q3, _⟩ := h
    have := lt_of_get q1
    have := lt_of_get q2
    have := lt_of_get q3
    omega
  have loop := while_inv (c := tstM (binM neD (varM 2) (lstM nilA))) (b := exprS (mtM lstTy appD (varM 3) (consA (mtM lstTy popD (varM 2) (consA (callM m__law_draw (consA (varM 0) (consA (cbM lenD (consA (varM 2) nilA)) nilA))) nilA)) nilA)))
    (Inv := fun k ρ S2 => ρ = [some (.ref l), some (.ref s), some (.ref a), some (.ref (a + 1))] ∧ ∃ left fd : List Str, left.length = k ∧ S2[a]? = some (.lst (left.map D.str)) ∧ S2[a + 1]? = some (.lst (fd.map D.str)) ∧ (left ++ fd).Perm zs ∧ DS l g c (t + fd.length) S2 ∧ Kp' ([l, g] ++ [a, a + 1]) S1 S2)
    (Fin := fun ρ S2 => ρ = [some (.ref l), some (.ref s), some (.ref a), some (.ref (a + 1))] ∧ ∃ fd : List Str, S2[a + 1]? = some (.lst (fd.map D.str)) ∧ fd.Perm zs ∧ DS l g c (t + fd.length) S2 ∧ Kp' ([l, g] ++ [a, a + 1]) S1 S2) ?_
  · obtain ⟨f, ρ', S', e, rfl, rfl, fd, q1, q2, q3, q4⟩ := loop FUEL zs.length [some (.ref l), some (.ref s), some (.ref a), some (.ref (a + 1))] S1 (by show zs.length < 4096; omega) ⟨rfl, zs, [], rfl, a1, a2, by simp, by simpa using h0, Kp'.refl _⟩
    refine wS_seqN ⟨_, _, _, e, rfl, wS_ret ?_⟩
    simp only [wE_var]
    have hlen := q2.length_eq
    refine ⟨_, rfl, a + 1, fd, rfl, by omega, q1, q2, by rw [← hlen]; exact q3, ?_⟩
    exact Kp'.cut (k0.any.trans q4) (by simp; omega)
  · rintro k ρ S2 ⟨rfl, left, fd, rfl, b1, b2, b3, b4, b5⟩
    have hzl : ∀ z ∈ left, z ∈ nms := fun z hm => hz z (b3.mem_iff.mp (List.mem_append_left _ hm))
    have hsum : left.length + fd.length = zs.length := by rw [← List.length_append]; exact b3.length_eq
    rw [wT_tst]
    simp only [wE_bin, wE_var, wE_lst, wA_nil]
    have c1 : (S2 ++ [Cell.lst []])[a]? = some (.lst (left.map D.str)) := (Kp'.app (E := []) S2 _).get b1
    have c2 : (S2 ++ [Cell.lst []])[a + 1]? = some (.lst (fd.map D.str)) := (Kp'.app (E := []) S2 _).get b2
    have c3 := b4.keep (Kp'.app S2 [Cell.lst []])
    have c4 : Kp' ([l, g] ++ [a, a + 1]) S1 (S2 ++ [Cell.lst []]) := b5.trans (Kp'.app _ _)
    refine ⟨_, rfl, by simp, _, _, neD_strs hzl c1 (last_at S2 _), _, rfl, ?_⟩
    generalize S2 ++ [Cell.lst []] = S3 at c1 c2 c3 c4
    cases left with
    | nil =>
      rw [if_neg (by simp)]
      exact ⟨by simp, fd, c2, by simpa using b3, c3, c4⟩
    | cons z left =>
      rw [if_pos (by simp)]
      refine ⟨left.length, by simp, wS_expr ?_⟩
      rw [wE_mt]
      simp only [wE_var]
      refine ⟨_, rfl, by simp [lstTy, c2], ?_⟩
      simp only [wA_cons, wA_nil, wE_mt, wE_var]
      refine ⟨_, rfl, by simp [lstTy, c1], ?_⟩
      have e1 := lenD_lst c1
      rw [List.length_map] at e1
      refine wE_callF (ds := [.ref l, .int (z :: left).length]) (by simp only [wA_cons, wA_nil, wE_var, wE_cb]; exact ⟨_, rfl, _, rfl, _, _, e1, rfl, rfl⟩) (wF_mono (draw_ok c3 (by simp at hsum; omega) (room := ((z :: left).length : Nat)) (by simp) (by simp at hsum ⊢; omega)) ?_)
      rintro d S4 ⟨⟨i, rfl, i0, i1⟩, d4, k4⟩
      obtain ⟨j, hj, pp⟩ := popAt_strs (k4.get c1 (by simp [al])) i0 i1 (by simp at hsum ⊢; omega)
      refine ⟨_, _, pp, ?_⟩
      have x1 : Kp' [a] S4 (S4.set a (.lst (((z :: left).eraseIdx j).map D.str))) := Kp'.set (by simp)
      have y1 := x1.get (k4.get c2 (by simp [al])) (by simp)
      have y0 : (S4.set a (.lst (((z :: left).eraseIdx j).map D.str)))[a]? = some (.lst (((z :: left).eraseIdx j).map D.str)) := List.getElem?_set_self (lt_of_get (k4.get c1 (by simp [al])))
      refine ⟨_, _, appD_lst y1 (by simp at hsum ⊢; omega), ?_⟩
      have x2 : Kp' [a + 1] (S4.set a (.lst (((z :: left).eraseIdx j).map D.str))) ((S4.set a (.lst (((z :: left).eraseIdx j).map D.str))).set (a + 1) (.lst (fd.map D.str ++ [.str (z :: left)[j]]))) := Kp'.set (by simp)
      refine ⟨by simp, by simp, (z :: left).eraseIdx j, fd ++ [(z :: left)[j]], ?_, x2.get y0 (by simp), ?_, ?_, ?_, ?_⟩
      · rw [List.length_eraseIdx, if_pos hj]; simp
      · rw [List.getElem?_set_self (by simp; have := lt_of_get (k4.get c2 (by simp [al])); omega)]
        simp
      · refine List.Perm.trans ?_ b3
        have p1 := erase_perm (z :: left) j hj
        have p2 : ((z :: left).eraseIdx j ++ (fd ++ [(z :: left)[j]])).Perm ((z :: left)[j] :: ((z :: left).eraseIdx j ++ fd)) := by
          rw [← List.append_assoc]
          exact List.perm_append_singleton _ _
        exact p2.trans (p1.append_right fd)
      · obtain ⟨rest, turn, gs, cs, q1, q2, q3, q4, q5, q6⟩ := d4
        refine ⟨rest, turn, gs, cs, x2.get (x1.get q1 (by simp; omega)) (by simp; omega), x2.get (x1.get q2 (by simp; omega)) (by simp; omega), x2.get (x1.get q3 (by simp; omega)) (by simp; omega), q4, ?_, q6⟩
        simp
        first | omega | done
      · exact (c4.trans (k4.mono fun x hx => List.mem_append_left _ hx)).trans ((x1.mono (by simp)).trans (x2.mono (by simp)))
end W77

set_option autoImplicit false
set_option Elab.async false
set_option linter.all false
set_option maxRecDepth 100000
set_option maxHeartbeats 1000000
namespace W77
open PySem Td
theorem begun_ok {ns : List Int} {S : Sto} (hn : ns.length ≤ 63) : wF m__law_begun [.rol (ns.map D.int)] S fun d S' => ∃ l g c, d = .ref l ∧ DS l g c 0 S' ∧ Kp' [] S S' := by
  have hb := sizeBig
  refine wF_def rfl ?_
  unfold b__law_begun
  have ab : ∀ (z : Int) (S : Sto), absD [.int z] S = some (.int (if z < 0 then -z else z), S) := fun z S => rfl
  have p18 : ∀ S : Sto, powD (.int 10) (.int 18) S = some (.int (10 ^ 18), S) := fun S => by
    unfold powD liC
    simp only
    rw [if_pos]
    · rfl
    · decide
  refine wS_seqN (wS_set ?_)
  refine wE_lc (wI_any.mpr ?_)
  simp only [wE_var]
  refine ⟨_, rfl, .its (ns.map D.int), rfl, ns.length, fun i S2 acc => S2 = S ∧ ∃ gs : List Int, acc = gs.map D.int ∧ gs.length ≤ i, by simp [Src.len], ⟨rfl, [], rfl, by simp⟩, fun S2 acc _ => by simp [Src.get], fun i S2 acc hi z => ?_, ?_⟩
  · obtain ⟨rfl, gs, rfl, hg⟩ := z
    refine ⟨.int ns[i], by simp [Src.get, hi], ?_⟩
    simp only [nameG, gW_some, wT_tst, wE_bin, wE_cb, wA_cons, wA_nil, wE_c, wE_var]
    refine ⟨_, by simp [wipeD]; rfl, _, _, ab _ _, _, _, p18 _, _, _, rfl, _, rfl, ?_⟩
    by_cases hq : ((fun i j : Int => decide (j ≤ i)) (if ns[i] < 0 then -ns[i] else ns[i]) (10 ^ 18)) = true
    · rw [if_pos hq]
      refine ⟨_, by simp [wipeD]; rfl, _, _, ab _ _, _, _, p18 _, _, _, rfl, by rw [List.length_map]; omega, rfl, gs ++ [_], by rw [List.map_append]; rfl, by rw [List.length_append, List.length_singleton]; omega⟩
    · rw [if_neg hq]
      exact ⟨rfl, gs, rfl, by omega⟩
  rintro S2 ds ⟨rfl, gs, rfl, hg⟩
  refine ⟨by simp, wS_ret ?_⟩
  rw [wE_dsp, rW_pcons]
  simp only [wE_c, wE_var]
  refine ⟨_, rfl, ?_⟩
  rw [rW_pcons, wE_c]
  refine wE_lc (wI_any.mpr ?_)
  simp only [wE_var]
  have q0 : (S2 ++ [Cell.lst (gs.map D.int)])[S2.length]? = some (.lst (gs.map D.int)) := last_at _ _
  refine ⟨_, rfl, .its (ns.map D.int), rfl, ns.length, fun i S3 acc => S3 = S2 ++ [Cell.lst (gs.map D.int)] ∧ ∃ cs : List Int, acc = cs.map D.int ∧ cs.length = i, by simp [Src.len], ⟨rfl, [], rfl, by simp⟩, fun S3 acc _ => by simp [Src.get], fun i S3 acc hi z => ?_, ?_⟩
  · obtain ⟨rfl, cs, rfl, hg⟩ := z
    refine ⟨.int ns[i], by simp [Src.get, hi], ?_⟩
    simp only [nameG, gW_some, wT_yes, wE_cb, wA_cons, wA_nil, wE_c, wE_var, if_true]
    refine ⟨_, by simp [wipeD]; rfl, _, _, ab _ _, by rw [List.length_map]; omega, rfl, cs ++ [_], by rw [List.map_append]; rfl, by rw [List.length_append, List.length_singleton]; omega⟩
  rintro S3 ds ⟨rfl, cs, rfl, hg⟩
  rw [rW_pcons, wE_c, wE_c, rW_pcons, wE_c, wE_c, rW_pnil]
  have k1 : Kp' [] S2 (S2 ++ [Cell.lst (gs.map D.int)]) := Kp'.app _ _
  generalize S2 ++ [Cell.lst (gs.map D.int)] = S3 at q0 k1
  have q1 : (S3 ++ [Cell.lst (cs.map D.int)])[S3.length]? = some (.lst (cs.map D.int)) := last_at _ _
  have q2 : (S3 ++ [Cell.lst (cs.map D.int)])[S2.length]? = some (.lst (gs.map D.int)) := (Kp'.app (E := []) S3 _).get q0
  have k2 := k1.trans (Kp'.app (E := []) S3 [Cell.lst (cs.map D.int)])
  have n1 : S2.length ≠ S3.length := by have := lt_of_get q0; omega
  generalize hS4 : S3 ++ [Cell.lst (cs.map D.int)] = S4 at q1 q2 k2
  have me : mergeD [] [(.str kG, .ref S2.length), (.str kC, .ref S3.length), (.str kR, .int 0), (.str kT, .int 0)] = some (dv S2.length S3.length 0 0) := by
    have m1 : ¬ kC = kG := fun z => W77.n1 z.symm
    simp [mergeD, keyD, putD, kinj, W77.n1, n2, n3, n4, n5, n6, dv]
  refine ⟨by simp, dv S2.length S3.length 0 0, me, S4.length, S2.length, S3.length, rfl, ⟨0, 0, gs, cs, last_at _ _, (Kp'.app (E := []) S4 _).get q2, (Kp'.app (E := []) S4 _).get q1, by omega, by omega, n1⟩, k2.trans (Kp'.app _ _)⟩
theorem cut_take (ds : List D) (i : Int) (h : 0 ≤ i) : cutD ds none (some i) = ds.take i.toNat := by
  unfold cutD
  have e : HT.sIx ds.length ds.length (some i) = min i.toNat ds.length := by
    show (if i < 0 then _ else _) = _
    rw [if_neg (by omega)]
  rw [e]
  show List.take (min i.toNat ds.length - 0) (List.drop 0 ds) = _
  rw [List.drop_zero, Nat.sub_zero, List.take_eq_take_iff]
  omega
/-- a shuffled list, its first so many -/
theorem some_ok {l g c t : Nat} {zs : List Str} {most : Int} {j : Nat} {lm : MA} {ρ : En} {S : Sto} {Q : D → Sto → Prop} (h : DS l g c t S) (ht : t + 100 < 2 ^ 30) (hz : ∀ z ∈ zs, z ∈ nms) (hn : zs.Nodup) (hl : zs.length < 50) (m0 : 0 < most) (m1 : most ≤ zs.length)
    (r0 : ρ[0]? = some (some (.ref l))) (rj : ρ[j]? = some (some (.int most))) (hlm : wA lm ρ S fun ds S1 => ds = zs.map D.str ∧ S1 = S)
    (k : ∀ (f : Nat) (fs : List Str) (S' : Sto), S.length ≤ f → S'[f]? = some (.lst (fs.map D.str)) → fs.Nodup → (∀ z ∈ fs, z ∈ nms) → 1 ≤ fs.length → (fs.length : Int) ≤ most → DS l g c (t + zs.length + 1) S' → Kp' [l, g] S S' → Q (.ref f) S') :
    wE (slM (callM m__law_shuffled (consA (varM 0) (consA (lstM lm) nilA))) noM (soM (binM addD (cM (.int 1)) (callM m__law_draw (consA (varM 0) (consA (varM j) nilA)))))) ρ S Q := by
  have hb := sizeBig
  have hne := h.ne
  rw [wE_sl, wE_call]
  simp only [wA_cons, wA_nil, wE_var, wE_lst]
  obtain ⟨ds, S1, e1, rfl, rfl⟩ := hlm
  have h1 := h.keep (Kp'.app S1 [Cell.lst (zs.map D.str)])
  have hs : S1.length ≠ l ∧ S1.length ≠ g := by
    obtain ⟨_, _, _, _, q1, q2, _⟩ := h
    have := lt_of_get q1
    have := lt_of_get q2
    omega
  refine ⟨_, r0, _, _, e1, by rw [List.length_map]; omega, wF_mono (shuffled_ok h1 (by omega) (last_at _ _) hz (by omega)) ?_⟩
  rintro d S2 ⟨f, fs, rfl, hf, x1, x2, x3, x4⟩
  have hlen := x2.length_eq
  simp only [wO_no, wO_so, wE_bin, wE_c]
  rw [wE_call]
  simp only [wA_cons, wA_nil, wE_var]
  refine ⟨_, r0, _, rj, wF_mono (draw_ok x3 (by omega) m0 (by omega)) ?_⟩
  rintro d S3 ⟨⟨i, rfl, i0, i1⟩, y1, y2⟩
  have fl : f ≠ l ∧ f ≠ g := by
    obtain ⟨_, _, _, _, q1, q2, _⟩ := h
    have := lt_of_get q1
    have := lt_of_get q2
    have := (Kp'.app (E := []) S1 [Cell.lst (zs.map D.str)]).1
    omega
  have x1' := y2.get x1 (by simp [fl])
  have sl : sliD (.ref f) none (some (1 + i)) S3 = some (.ref S3.length, S3 ++ [.lst ((fs.take (1 + i).toNat).map D.str)]) := by
    unfold sliD
    simp only [seqO, x1', cut_take _ _ (show 0 ≤ 1 + i by omega), List.map_take]
  have ad : addD (.int 1) (.int i) S3 = some (.int (1 + i), S3) := rfl
  refine ⟨_, _, ad, _, rfl, _, _, sl, ?_⟩
  have kk : Kp' [l, g] S1 S3 := ((Kp'.app S1 _).trans x4).trans y2
  have hlt : (fs.take (1 + i).toNat).length = (1 + i).toNat := by rw [List.length_take]; omega
  refine k _ _ _ kk.1 (last_at _ _) ((List.take_sublist _ _).nodup (x2.nodup_iff.mpr hn)) (fun z hm => hz z (x2.mem_iff.mp (List.mem_of_mem_take hm))) (by rw [hlt]; omega) (by rw [hlt]; omega) (y1.keep (Kp'.app _ _)) (kk.trans (Kp'.app _ _))
end W77

set_option autoImplicit false
set_option Elab.async false
set_option linter.all false
set_option maxRecDepth 100000
set_option maxHeartbeats 1000000
namespace W77
open PySem Td
theorem tupleD_lst {ds : List D} {l : Nat} {S : Sto} (h : S[l]? = some (.lst ds)) : tupleD [.ref l] S = some (.tup ds, S) := by
  unfold tupleD
  simp only [seqO, h, Option.map_some]
theorem house_ok {l g c t : Nat} {S : Sto} (h : DS l g c t S) (ht : t + 1000 < 2 ^ 30) : wF m__law_house [.ref l, .int 2, .int 4, .int 8, .int 2] S fun d S' => ∃ (w r s : Nat) (ws rs : List Str) (st : List St3), d = .tup [.ref w, .ref r, .ref s] ∧ HIn ws rs st ∧
    S'[w]? = some (.lst (ws.map D.str)) ∧ S'[r]? = some (.lst (rs.map D.str)) ∧ S'[s]? = some (.lst (st.map stepD)) ∧ DS l g c (t + 200) S' ∧ Kp' [l, g] S S' ∧ (S.length ≤ w ∧ S.length ≤ r ∧ S.length ≤ s) := by
  have hb := sizeBig
  have old : l < S.length ∧ g < S.length := by
    obtain ⟨_, _, _, _, q1, q2, _⟩ := h
    exact ⟨lt_of_get q1, lt_of_get q2⟩
  refine wF_def rfl ?_
  unfold b__law_house
  refine wS_seqN (wS_set (some_ok (zs := ["x", "y", "z", "u", "ore"]) (most := 2) h (by omega) (by decide +kernel) (by decide +kernel) (by decide) (by decide) (by decide) rfl rfl (by simp) fun w ws S1 w0 w1 w2 w3 w4 w5 h1 k1 => ?_))
  refine ⟨rfl, wS_seqN (wS_set (some_ok (zs := ["p", "q", "r", "x"]) (most := 4) h1 (by simp; omega) (by decide +kernel) (by decide +kernel) (by decide) (by decide) (by decide) rfl rfl (by simp) fun r rs S2 r0 r1 r2 r3 r4 r5 h2 k2 => ?_))⟩
  refine ⟨rfl, wS_seqN (wS_set ?_)⟩
  simp only [wE_lst, wA_nil]
  have le1 := k1.1
  have le2 := k2.1
  have wne : w ∉ [l, g] := by simp; omega
  have rne : r ∉ [l, g] := by simp; omega
  have W3 := (Kp'.app (E := []) S2 [Cell.lst []]).get (k2.get w1 wne)
  have R3 := (Kp'.app (E := []) S2 [Cell.lst []]).get r1
  have T3 : (S2 ++ [Cell.lst []])[S2.length]? = some (.lst (([] : List St3).map stepD)) := last_at _ _
  have h3 := h2.keep (Kp'.app S2 [Cell.lst []])
  have k3 : Kp' [l, g] S (S2 ++ [Cell.lst []]) := (k1.trans k2).trans (Kp'.app _ _)
  have sne : S2.length ≠ l ∧ S2.length ≠ g ∧ S2.length ≠ w ∧ S2.length ≠ r := by
    have := lt_of_get (k2.get w1 wne)
    have := lt_of_get r1
    omega
  have cne : S2.length ≠ c := by
    obtain ⟨_, _, _, _, _, _, q3, _⟩ := h2
    have := lt_of_get q3
    omega
  generalize hS3 : S2 ++ [Cell.lst []] = S3 at W3 R3 T3 h3 k3
  generalize hs : S2.length = s at T3 sne cne
  refine ⟨by simp, by simp, wS_seqN (wS_for (wI_rng1 ?_))⟩
  simp only [wA_cons, wA_nil, wE_bin, wE_c]
  refine wE_callF (ds := [.ref l, .int 8]) (by simp) (wF_mono (draw_ok h3 (by simp; omega) (room := 8) (by decide) (by decide)) ?_)
  rintro d S4 ⟨⟨n, rfl, n0, n1⟩, h4, k4⟩
  have W4 := k4.get W3 wne
  have R4 := k4.get R3 rne
  have T4 := k4.get T3 (by simp [sne])
  refine ⟨.int (1 + n), S4, rfl, 1 + n, rfl, by omega, (1 + n).toNat, fun i ρ S5 => ∃ a b e, ρ = [some (.ref l), some (.int 2), some (.int 4), some (.int 8), some (.int 2), some (.ref w), some (.ref r), some (.ref s), a, b, e] ∧ ∃ st : List St3, S5[s]? = some (.lst (st.map stepD)) ∧ st.length = i ∧
    (∀ x ∈ st, x.1 ∈ rs ∧ x.2.2 ∈ rs ∧ x.2.1.length = ws.length ∧ ∀ c ∈ x.2.1, -9 ≤ c ∧ c ≤ 9) ∧ DS l g c (t + 20 + 10 * i) S5 ∧ Kp' ([l, g] ++ [s]) S3 S5, by simp [Src.len], ⟨_, _, _, rfl, [], T4, rfl, by simp, h4.more (by simp), k4.mono fun x hx => List.mem_append_left _ hx⟩, ?_, ?_, ?_⟩
  · rintro ρ S5 _
    simp [Src.get]
  · rintro i ρ S5 hi ⟨a, b, e, rfl, st, T5, rfl, cs5, h5, k5⟩
    have W5 := k5.get W3 (by simp at wne ⊢; omega)
    have R5 := k5.get R3 (by simp at rne ⊢; omega)
    refine ⟨.int (0 + st.length), by simp only [Src.get]; rw [if_pos hi], ?_⟩
    simp only [nameG, gW_some, List.set_cons_succ, List.set_cons_zero]
    refine wS_seqN (wS_set ?_)
    rw [wE_cb, wA_cons]
    refine wE_lc (wI_any.mpr ?_)
    simp only [wE_var]
    refine ⟨_, rfl, .cell w, by simp [srcO, W5], ws.length, fun j S6 acc => Kp' [l, g] S5 S6 ∧ DS l g c (t + 20 + 10 * st.length + j) S6 ∧ ∃ cs : List Int, acc = cs.map D.int ∧ cs.length = j ∧ ∀ c ∈ cs, -9 ≤ c ∧ c ≤ 9, by simp [Src.len, W5], ⟨Kp'.refl _, h5, [], rfl, rfl, by simp⟩, fun S6 acc z => by simp [Src.get, z.1.get W5 wne], fun j S6 acc hj z => ?_, ?_⟩
    · obtain ⟨k6, h6, cs, rfl, rfl, hc⟩ := z
      refine ⟨.str ws[cs.length], by simp [Src.get, k6.get W5 wne, hj], ?_⟩
      simp only [nameG, gW_some, wT_yes, if_true]
      rw [wE_call]
      simp only [wA_cons, wA_nil, wE_lst, wE_bin, wE_c, wE_var]
      have sb : ∀ (x : Int) (S : Sto), subD (.int 0) (.int x) S = some (.int (0 - x), S) := fun x S => rfl
      have h7 := h6.keep (Kp'.app S6 [Cell.lst [.int 0, .int 0, .int 1, .int (0 - 1), .int (0 - 1), .int 2, .int (0 - 2)]])
      have hnew : S6.length ≠ l ∧ S6.length ≠ g := by
        obtain ⟨_, _, _, _, q1, q2, _⟩ := h6
        have := lt_of_get q1
        have := lt_of_get q2
        omega
      have le0 := k3.1
      refine ⟨_, by simp [wipeD]; rfl, _, _, sb _ _, _, _, sb _ _, _, by simp [wipeD]; rfl, _, by simp [wipeD]; rfl, _, _, sb _ _, by simp; omega, ?_⟩
      have hi8 : st.length < 8 := by
        have : st.length < (1 + n).toNat := hi
        omega
      have hw2 : ws.length ≤ 2 := by omega
      refine wF_mono (pick_ok h7 (by omega) (last_at _ _) (by simp) (by simp) hnew.1 hnew.2) ?_
      rintro d S8 ⟨dm, h8, k8⟩
      have dz : ∃ z : Int, d = .int z ∧ -9 ≤ z ∧ z ≤ 9 := by
        simp only [List.mem_cons, List.not_mem_nil, or_false] at dm
        rcases dm with rfl | rfl | rfl | rfl | rfl | rfl | rfl <;> exact ⟨_, rfl, by decide, by decide⟩
      obtain ⟨z, rfl, z0, z1⟩ := dz
      refine ⟨by rw [List.length_map]; omega, k6.trans ((Kp'.app S6 _).trans k8), h8.more (by omega), cs ++ [z], by rw [List.map_append]; rfl, by rw [List.length_append]; rfl, fun q hq => ?_⟩
      rcases List.mem_append.mp hq with hq | hq
      · exact hc q hq
      · rw [List.mem_singleton.mp hq]
        exact ⟨z0, z1⟩
    rintro S6 ds ⟨k6, h6, cs, rfl, hcl, hc⟩
    simp only [wA_nil]
    have hi8 : st.length < 8 := by
      have : st.length < (1 + n).toNat := hi
      omega
    have hw2 : ws.length ≤ 2 := by omega
    have h7 := h6.keep (Kp'.app S6 [Cell.lst (cs.map D.int)])
    refine ⟨_, _, tupleD_lst (last_at S6 _), by simp, wS_expr ?_⟩
    have k7 : Kp' [l, g] S5 (S6 ++ [Cell.lst (cs.map D.int)]) := k6.trans (Kp'.app _ _)
    generalize S6 ++ [Cell.lst (cs.map D.int)] = S7 at h7 k7
    rw [wE_mt]
    simp only [wE_var]
    have T7 := k7.get T5 (by simp [sne])
    have R7 := k7.get R5 rne
    refine ⟨_, rfl, by simp [lstTy, T7], ?_⟩
    rw [wA_cons, wE_tup, wA_cons]
    have rl : (rs.map D.str).length < 1000 := by rw [List.length_map]; omega
    have rn0 : rs.map D.str ≠ [] := fun z => by
      have : rs = [] := List.map_eq_nil_iff.mp z
      rw [this] at r4
      simp at r4
    have rl2 : r ≠ l ∧ r ≠ g := by simp at rne; exact rne
    refine wE_callF (ds := [.ref l, .ref r]) (by simp) (wF_mono (pick_ok h7 (by omega) R7 rn0 rl rl2.1 rl2.2) ?_)
    rintro d S8 ⟨dm, h8, k8⟩
    obtain ⟨p1, hp1, rfl⟩ := List.mem_map.mp dm
    rw [wA_cons, wE_var]
    refine ⟨_, rfl, ?_⟩
    rw [wA_cons]
    refine wE_callF (ds := [.ref l, .ref r]) (by simp) (wF_mono (pick_ok h8 (by omega) (k8.get R7 rne) rn0 rl rl2.1 rl2.2) ?_)
    rintro d S9 ⟨dm, h9, k9⟩
    obtain ⟨p2, hp2, rfl⟩ := List.mem_map.mp dm
    simp only [wA_nil]
    have T9 := k9.get (k8.get T7 (by simp [sne])) (by simp [sne])
    refine ⟨by simp; omega, _, _, appD_lst T9 (by rw [List.length_map]; omega), by simp, _, _, _, rfl, st ++ [(p1, cs, p2)], ?_, by simp, ?_, ?_, ?_⟩
    · rw [List.getElem?_set_self (lt_of_get T9), List.map_append]
      rfl
    · intro x hx
      rcases List.mem_append.mp hx with hx | hx
      · exact cs5 x hx
      · rw [List.mem_singleton.mp hx]
        exact ⟨hp1, hp2, hcl, hc⟩
    · obtain ⟨rest, turn, gs, ccs, q1, q2, q3, q4, q5, q6⟩ := h9
      have x2 : Kp' [s] S9 (S9.set s (.lst (st.map stepD ++ [.tup [.str p1, .tup (cs.map D.int), .str p2]]))) := Kp'.set (by simp)
      exact ⟨rest, turn, gs, ccs, x2.get q1 (by simp; omega), x2.get q2 (by simp; omega), x2.get q3 (by simp; omega), q4, by omega, q6⟩
    · have x2 : Kp' ([l, g] ++ [s]) S9 (S9.set s (.lst (st.map stepD ++ [.tup [.str p1, .tup (cs.map D.int), .str p2]]))) := Kp'.set (by simp)
      have up : ∀ x, x ∈ [l, g] → x ∈ [l, g] ++ [s] := fun x hx => List.mem_append_left _ hx
      exact (((k5.trans (k7.mono up)).trans (k8.mono up)).trans (k9.mono up)).trans x2
  rintro ρ S5 ⟨a, b, e, rfl, st, T5, hst, cs5, h5, k5⟩
  refine ⟨by simp, wS_ret ?_⟩
  simp only [wE_tup, wA_cons, wA_nil, wE_var]
  refine ⟨_, rfl, _, rfl, _, rfl, by simp; omega, w, r, s, ws, rs, st, rfl, ⟨w3, r3, w2, r2, w4, by omega, r4, by omega, by omega, by omega, cs5⟩, k5.get W3 (by simp at wne ⊢; omega), k5.get R3 (by simp at rne ⊢; omega), T5, h5.more (by omega), ?_, by omega, by omega, by omega⟩
  exact Kp'.cut (k3.mono (fun x hx => List.mem_append_left _ hx) |>.trans k5) (by simp; omega)
end W77

set_option autoImplicit false
set_option Elab.async false
set_option linter.all false
set_option maxRecDepth 100000
set_option maxHeartbeats 1000000
namespace W77
open PySem Td
/-! ### ways, in plain lists -/
abbrev Ed := List (Str × Str)
inductive Reach (es : Ed) : Str → Str → Prop where
  | refl (a : Str) : Reach es a a
  | tail {a b c : Str} : Reach es a b → (b, c) ∈ es → Reach es a c
theorem Reach.trans {es : Ed} {a b c : Str} (h : Reach es a b) (k : Reach es b c) : Reach es a c := by
  induction k with
  | refl => exact h
  | tail _ e ih => exact .tail ih e
def stepW (W : List Str) (e : Str × Str) : List Str := if e.1 ∈ W ∧ e.2 ∉ W then W ++ [e.2] else W
def lapW (es : Ed) (W : List Str) : List Str := es.foldl stepW W
def itW (es : Ed) : Nat → List Str → List Str
  | 0, W => W
  | k + 1, W => lapW es (itW es k W)
def Clo (es : Ed) (W : List Str) : Prop := ∀ e ∈ es, e.1 ∈ W → e.2 ∈ W
theorem fold_grow : ∀ (es : Ed) (W : List Str), (es.foldl stepW W = W ∨ W.length < (es.foldl stepW W).length) ∧ (es.foldl stepW W = W → Clo es W)
  | [], W => ⟨.inl rfl, fun _ e h => by simp at h⟩
  | e :: es, W => by
    have ih := fold_grow es (stepW W e)
    show (es.foldl stepW (stepW W e) = W ∨ W.length < (es.foldl stepW (stepW W e)).length) ∧ _
    by_cases h : e.1 ∈ W ∧ e.2 ∉ W
    · have e1 : stepW W e = W ++ [e.2] := if_pos h
      have hl : W.length < (es.foldl stepW (stepW W e)).length := by
        rcases ih.1 with z | z
        · rw [z, e1]; simp
        · rw [e1] at z ⊢
          simp at z
          omega
      exact ⟨.inr hl, fun z => by
        have z' : es.foldl stepW (stepW W e) = W := z
        rw [z'] at hl
        omega⟩
    · have e1 : stepW W e = W := if_neg h
      rw [e1] at ih ⊢
      refine ⟨ih.1, fun z f hf hfw => ?_⟩
      have z' : es.foldl stepW W = W := by
        have z2 : es.foldl stepW (stepW W e) = W := z
        rwa [e1] at z2
      rcases List.mem_cons.mp hf with rfl | hf
      · exact Classical.byContradiction fun q => h ⟨hfw, q⟩
      · exact ih.2 z' f hf hfw
theorem fold_clo : ∀ (es : Ed) (W : List Str), Clo es W → es.foldl stepW W = W
  | [], W, _ => rfl
  | e :: es, W, h => by
    have e1 : stepW W e = W := if_neg fun q => q.2 (h e List.mem_cons_self q.1)
    show es.foldl stepW (stepW W e) = W
    rw [e1]
    exact fold_clo es W fun f hf => h f (List.mem_cons_of_mem _ hf)
theorem fold_keep {P : List Str → Prop} {es0 : Ed} (hP : ∀ W e, e ∈ es0 → P W → e.1 ∈ W → e.2 ∉ W → P (W ++ [e.2])) : ∀ (es : Ed) (W : List Str), (∀ e ∈ es, e ∈ es0) → P W → P (es.foldl stepW W)
  | [], W, _, h => h
  | e :: es, W, hs, h => by
    show P (es.foldl stepW (stepW W e))
    refine fold_keep hP es _ (fun f hf => hs f (List.mem_cons_of_mem _ hf)) ?_
    by_cases q : e.1 ∈ W ∧ e.2 ∉ W
    · rw [show stepW W e = W ++ [e.2] from if_pos q]
      exact hP W e (hs e List.mem_cons_self) h q.1 q.2
    · rw [show stepW W e = W from if_neg q]
      exact h
theorem it_keep {P : List Str → Prop} {es : Ed} (hP : ∀ W e, e ∈ es → P W → e.1 ∈ W → e.2 ∉ W → P (W ++ [e.2])) {W : List Str} (h : P W) : ∀ k, P (itW es k W)
  | 0 => h
  | k + 1 => fold_keep hP es _ (fun _ h => h) (it_keep hP h k)
theorem sub_len : ∀ (l m : List Str), l.Nodup → (∀ x ∈ l, x ∈ m) → l.length ≤ m.length
  | [], m, _, _ => Nat.zero_le _
  | x :: l, m, hn, hs => by
    have hx := hs x List.mem_cons_self
    have hn' := List.nodup_cons.mp hn
    have ih := sub_len l (m.erase x) hn'.2 fun y hy => (List.mem_erase_of_ne (fun z => hn'.1 (by rw [← z]; exact hy))).mpr (hs y (List.mem_cons_of_mem _ hy))
    rw [List.length_erase_of_mem hx] at ih
    have := List.length_pos_of_mem hx
    rw [List.length_cons]
    omega
/-- what a list of ways tells -/
structure WOk (es : Ed) (rs : List Str) (room : Str) (W : List Str) : Prop where
  nd : W.Nodup
  sub : ∀ x ∈ W, x ∈ rs
  me : room ∈ W
  ok : ∀ x ∈ W, Reach es room x
theorem WOk.grow {es : Ed} {rs : List Str} {room : Str} {W : List Str} (he : ∀ e ∈ es, e.2 ∈ rs) (e : Str × Str) (hm : e ∈ es) (h : WOk es rs room W) (h1 : e.1 ∈ W) (h2 : e.2 ∉ W) : WOk es rs room (W ++ [e.2]) where
  nd := List.nodup_append.mpr ⟨h.nd, by simp, fun x hx y hy => by
    rw [List.mem_singleton.mp hy]
    exact fun z => h2 (by rw [← z]; exact hx)⟩
  sub := fun x hx => by
    rcases List.mem_append.mp hx with hx | hx
    · exact h.sub x hx
    · rw [List.mem_singleton.mp hx]; exact he e hm
  me := List.mem_append_left _ h.me
  ok := fun x hx => by
    rcases List.mem_append.mp hx with hx | hx
    · exact h.ok x hx
    · rw [List.mem_singleton.mp hx]; exact .tail (h.ok _ h1) hm
theorem WOk.one {es : Ed} {rs : List Str} {room : Str} (h : room ∈ rs) : WOk es rs room [room] where
  nd := by simp
  sub := fun x hx => by rw [List.mem_singleton.mp hx]; exact h
  me := by simp
  ok := fun x hx => by rw [List.mem_singleton.mp hx]; exact .refl _
theorem WOk.len {es : Ed} {rs : List Str} {room : Str} {W : List Str} (h : WOk es rs room W) : W.length ≤ rs.length := sub_len _ _ h.nd h.sub
theorem WOk.iff {es : Ed} {rs : List Str} {room : Str} {W : List Str} (h : WOk es rs room W) (c : Clo es W) (x : Str) : x ∈ W ↔ Reach es room x := by
  refine ⟨h.ok x, fun r => ?_⟩
  induction r with
  | refl => exact h.me
  | tail _ e ih => exact c _ e ih
theorem it_ok {es : Ed} {rs : List Str} {room : Str} (he : ∀ e ∈ es, e.2 ∈ rs) (h : room ∈ rs) (k : Nat) : WOk es rs room (itW es k [room]) := it_keep (P := WOk es rs room) (fun W e hm hw h1 h2 => hw.grow he e hm h1 h2) (WOk.one h) k
theorem it_len {es : Ed} {room : Str} : ∀ k, k + 1 ≤ (itW es k [room]).length ∨ Clo es (itW es k [room])
  | 0 => .inl (Nat.le_refl _)
  | k + 1 => by
    rcases it_len (es := es) (room := room) k with h | h
    · rcases (fold_grow es (itW es k [room])).1 with q | q
      · right
        have c := (fold_grow es (itW es k [room])).2 q
        show Clo es (lapW es (itW es k [room]))
        rw [show lapW es (itW es k [room]) = itW es k [room] from q]
        exact c
      · left
        show k + 1 + 1 ≤ (lapW es (itW es k [room])).length
        unfold lapW
        omega
    · right
      show Clo es (lapW es (itW es k [room]))
      rw [show lapW es (itW es k [room]) = itW es k [room] from fold_clo es _ h]
      exact h
theorem ways_iff {es : Ed} {rs : List Str} {room : Str} (he : ∀ e ∈ es, e.2 ∈ rs) (h : room ∈ rs) (x : Str) : x ∈ itW es rs.length [room] ↔ Reach es room x := by
  have w := it_ok he h rs.length
  refine w.iff ?_ x
  rcases it_len (es := es) (room := room) rs.length with z | z
  · have := w.len
    omega
  · exact z
end W77

set_option autoImplicit false
set_option Elab.async false
set_option linter.all false
set_option maxRecDepth 100000
set_option maxHeartbeats 1000000
namespace W77
open PySem Td
/-- a house as it stands: its rooms, its steps -/
structure HAt (h j k : Nat) (rs : List Str) (st : List St3) (S : Sto) : Prop where
  i : ∃ i, S[h]? = some (.ins "House" [("ware_names", .ref i), ("room_names", .ref j), ("house_steps", .ref k)])
  r : S[j]? = some (.lst (rs.map D.str))
  s : S[k]? = some (.lst (st.map stepD))
theorem HAt.keep {h j k : Nat} {rs : List Str} {st : List St3} {S S' : Sto} (a : HAt h j k rs st S) (kp : Kp' [] S S') : HAt h j k rs st S' := by
  obtain ⟨⟨i, h1⟩, h2, h3⟩ := a
  exact ⟨⟨i, kp.get h1⟩, kp.get h2, kp.get h3⟩
theorem f1 : ¬ Str.ofString "house_steps" = Str.ofString "ware_names" := by decide +kernel
theorem f2 : ¬ Str.ofString "house_steps" = Str.ofString "room_names" := by decide +kernel
theorem f3 : ¬ Str.ofString "room_names" = Str.ofString "ware_names" := by decide +kernel
theorem wE_steps {h j k : Nat} {rs : List Str} {st : List St3} {S : Sto} {ρ : En} {Q : D → Sto → Prop} (a : HAt h j k rs st S) (r0 : ρ[0]? = some (some (.ref h))) (q : Q (.ref k) S) : wE (fldM "House" "house_steps" (varM 0)) ρ S Q := by
  obtain ⟨⟨i, h1⟩, h2, h3⟩ := a
  rw [wE_fld, wE_var]
  refine ⟨_, r0, h, _, .ref k, rfl, h1, ?_, q⟩
  simp only [List.lookup_cons]
  rw [beq_eq_false_iff_ne.mpr f1, beq_eq_false_iff_ne.mpr f2]
  simp
theorem wE_rooms {h j k : Nat} {rs : List Str} {st : List St3} {S : Sto} {ρ : En} {Q : D → Sto → Prop} (a : HAt h j k rs st S) (r0 : ρ[0]? = some (some (.ref h))) (q : Q (.ref j) S) : wE (fldM "House" "room_names" (varM 0)) ρ S Q := by
  obtain ⟨⟨i, h1⟩, h2, h3⟩ := a
  rw [wE_fld, wE_var]
  refine ⟨_, r0, h, _, .ref j, rfl, h1, ?_, q⟩
  simp only [List.lookup_cons]
  rw [beq_eq_false_iff_ne.mpr f3]
  simp
def eds (st : List St3) : Ed := st.map fun x => (x.1, x.2.2)
theorem idx_step {k n : Nat} {st : List St3} {S : Sto} (h : S[k]? = some (.lst (st.map stepD))) (hn : n < st.length) : idxD (.ref k) (.int n) S = some (stepD st[n], S) := by
  unfold idxD
  have e : L2.atI (st.map stepD) (n : Int) = some (stepD st[n]) := by
    rw [atI_get (by omega) (by simp; omega)]
    simp
  simp only [seqO, h, e]
theorem pop_strs {S : Sto} {a : Nat} {zs : List Str} {z : Str} (h : S[a]? = some (.lst ((zs ++ [z]).map D.str))) : popD (.ref a) [] S = some (.str z, S.set a (.lst (zs.map D.str))) := by
  unfold popD lstO
  simp only [h]
  have e : ((zs ++ [z]).map D.str)[((zs ++ [z]).map D.str).length - 1]? = some (.str z) := by simp
  have e2 : ((zs ++ [z]).map D.str).dropLast = zs.map D.str := by simp
  simp only [e, e2]
theorem rg_get {n i : Nat} (h : i < n) : (rgD 0 (n : Int))[i]? = some (.int (i : Nat)) := by
  unfold rgD
  simp [h]
theorem rg_len (n : Nat) : (rgD 0 (n : Int)).length = n := by
  unfold rgD
  simp
theorem reached_ok {h j k q : Nat} {rs : List Str} {st : List St3} {room : Str} {S : Sto} (a : HAt h j k rs st S) (hq : S[q]? = some (.lst (rgD 0 st.length))) (hr : room ∈ rs) (hz : ∀ z ∈ rs, z ∈ nms) (he : ∀ x ∈ st, x.2.2 ∈ rs) (hl : rs.length ≤ 10) :
    wF m_reached [.ref h, .str room, .ref q] S fun d S' => ∃ f W, d = .ref f ∧ S.length ≤ f ∧ S'[f]? = some (.lst (W.map D.str)) ∧ WOk (eds st) rs room W ∧ Clo (eds st) W ∧ Kp' [] S S' := by
  have hb := sizeBig
  have he2 : ∀ e ∈ eds st, e.2 ∈ rs := fun e hm => by
    obtain ⟨x, hx, rfl⟩ := List.mem_map.mp hm
    exact he x hx
  refine wF_def rfl ?_
  unfold b_reached
  refine wS_seqN (wS_par ?_)
  simp only [wA_cons, wA_nil, wE_lst, wE_var]
  have k0 : Kp' [] S (S ++ [Cell.lst [.str room]] ++ [Cell.lst [.str room]]) := (Kp'.app S _).trans (Kp'.app _ _)
  have a1 : (S ++ [Cell.lst [.str room]] ++ [Cell.lst [.str room]])[S.length]? = some (.lst (([room] : List Str).map D.str)) := (Kp'.app (E := []) _ _).get (last_at S _)
  have a2 : (S ++ [Cell.lst [.str room]] ++ [Cell.lst [.str room]])[S.length + 1]? = some (.lst (([room] : List Str).map D.str)) := by
    have := last_at (S ++ [Cell.lst [.str room]]) (.lst [.str room])
    simpa using this
  have e3 : (S ++ [Cell.lst [.str room]]).length = S.length + 1 := by simp
  refine ⟨_, rfl, by simp; omega, _, rfl, by simp; omega, _, _, rfl, by simp, ?_⟩
  rw [e3]
  have lh : h < S.length := by
    obtain ⟨i, z⟩ := a.i
    exact lt_of_get z
  have lj := lt_of_get a.r
  have lk := lt_of_get a.s
  have lq := lt_of_get hq
  have a0 := a.keep k0
  have hq0 := k0.get hq
  generalize hS1 : S ++ [Cell.lst [.str room]] ++ [Cell.lst [.str room]] = S1 at k0 a1 a2 a0 hq0
  generalize hfn : S.length = fn at a1 a2 lh lj lk lq
  have old : ∀ S2, Kp' [fn, fn + 1] S1 S2 → HAt h j k rs st S2 ∧ S2[q]? = some (.lst (rgD 0 st.length)) := fun S2 kk => by
    obtain ⟨⟨i, z1⟩, z2, z3⟩ := a0
    exact ⟨⟨⟨i, kk.get z1 (by simp; omega)⟩, kk.get z2 (by simp; omega), kk.get z3 (by simp; omega)⟩, kk.get hq0 (by simp; omega)⟩
  have loop := while_inv (c := tstM (binM neD (varM 4) (lstM nilA))) (b := seqS (setS 5 (mtM lstTy popD (varM 4) nilA)) (forS (anyI (varM 2)) (nameG 6) (seqS (asgS (binM idxD (fldM "House" "house_steps" (varM 0)) (varM 6)) (tupG 3 (consG (nameG 7) (consG (nameG 8) (consG (nameG 9) nilG))))) (ifS (andT (tstM (binM eqD (varM 7) (varM 5))) (tstM (binM notInD (varM 9) (varM 3)))) (seqS (exprS (mtM lstTy appD (varM 3) (consA (varM 9) nilA))) (exprS (mtM lstTy appD (varM 4) (consA (varM 9) nilA)))) nextS))))
    (Inv := fun m ρ S2 => (∃ x5 x6 x7 x8 x9, ρ = [some (.ref h), some (.str room), some (.ref q), some (.ref fn), some (.ref (fn + 1)), x5, x6, x7, x8, x9]) ∧ ∃ fd wt : List Str, m = wt.length + (rs.length - fd.length) ∧ S2[fn]? = some (.lst (fd.map D.str)) ∧ S2[fn + 1]? = some (.lst (wt.map D.str)) ∧ WOk (eds st) rs room fd ∧ (∀ x ∈ wt, x ∈ fd) ∧ (∀ e ∈ eds st, e.1 ∈ fd → e.1 ∉ wt → e.2 ∈ fd) ∧ Kp' [fn, fn + 1] S1 S2 ∧ wt.Nodup)
    (Fin := fun ρ S2 => (∃ x5 x6 x7 x8 x9, ρ = [some (.ref h), some (.str room), some (.ref q), some (.ref fn), some (.ref (fn + 1)), x5, x6, x7, x8, x9]) ∧ ∃ fd : List Str, S2[fn]? = some (.lst (fd.map D.str)) ∧ WOk (eds st) rs room fd ∧ Clo (eds st) fd ∧ Kp' [fn, fn + 1] S1 S2) ?_
  · obtain ⟨f, ρ', S', e, rfl, ⟨x5, x6, x7, x8, x9, rfl⟩, fd, q1, q2, q3, q4⟩ := loop FUEL (1 + (rs.length - 1)) [some (.ref h), some (.str room), some (.ref q), some (.ref fn), some (.ref (fn + 1)), none, none, none, none, none] S1 (by show _ < 4096; omega) ⟨⟨_, _, _, _, _, rfl⟩, [room], [room], rfl, a1, a2, WOk.one hr, by simp, fun e _ h1 h2 => absurd h1 h2, Kp'.refl _, by simp⟩
    refine wS_seqN ⟨_, _, _, e, rfl, wS_ret ?_⟩
    simp only [wE_var]
    refine ⟨_, rfl, fn, fd, rfl, by omega, q1, q2, q3, ?_⟩
    exact Kp'.drop (k0.any.trans q4) (by simp; omega)
  rintro m ρ S2 ⟨⟨x5, x6, x7, x8, x9, rfl⟩, fd, wt, rfl, b1, b2, b3, b4, b5, b6, b7⟩
  have hzw : ∀ z ∈ wt, z ∈ nms := fun z hm => hz z (b3.sub z (b4 z hm))
  rw [wT_tst]
  simp only [wE_bin, wE_var, wE_lst, wA_nil]
  have c1 : (S2 ++ [Cell.lst []])[fn]? = some (.lst (fd.map D.str)) := (Kp'.app (E := []) S2 _).get b1
  have c2 : (S2 ++ [Cell.lst []])[fn + 1]? = some (.lst (wt.map D.str)) := (Kp'.app (E := []) S2 _).get b2
  have c6 : Kp' [fn, fn + 1] S1 (S2 ++ [Cell.lst []]) := b6.trans (Kp'.app _ _)
  refine ⟨_, rfl, by simp, _, _, neD_strs hzw c2 (last_at S2 _), _, rfl, ?_⟩
  generalize S2 ++ [Cell.lst []] = S3 at c1 c2 c6
  by_cases hw : wt = []
  · subst hw
    rw [if_neg (by simp)]
    exact ⟨⟨_, _, _, _, _, rfl⟩, fd, c1, b3, fun e hm h1 => b5 e hm h1 (by simp), c6⟩
  have hwi : (!wt.isEmpty) = true := by
    cases wt with
    | nil => exact absurd rfl hw
    | cons _ _ => rfl
  rw [if_pos hwi]
  obtain ⟨ws, here, rfl⟩ : ∃ ws here, wt = ws ++ [here] := ⟨wt.dropLast, wt.getLast hw, (List.dropLast_concat_getLast hw).symm⟩
  refine ⟨ws.length + (rs.length - fd.length), by simp, wS_seqN (wS_set ?_)⟩
  rw [wE_mt]
  simp only [wE_var, wA_nil]
  refine ⟨_, rfl, by simp [lstTy, c2], _, _, pop_strs c2, by simp, ?_⟩
  have x1 : Kp' [fn, fn + 1] S3 (S3.set (fn + 1) (.lst (ws.map D.str))) := Kp'.set (by simp)
  have d1 : (S3.set (fn + 1) (.lst (ws.map D.str)))[fn]? = some (.lst (fd.map D.str)) := by
    rw [List.getElem?_set_ne (by omega)]
    exact c1
  have d2 : (S3.set (fn + 1) (.lst (ws.map D.str)))[fn + 1]? = some (.lst (ws.map D.str)) := List.getElem?_set_self (lt_of_get c2)
  have d6 := c6.trans x1
  generalize S3.set (fn + 1) (.lst (ws.map D.str)) = S4 at d1 d2 d6
  have hnd := List.nodup_append.mp b7
  refine wS_for (wI_any.mpr ?_)
  simp only [wE_var]
  obtain ⟨o1, o2⟩ := old S4 d6
  refine ⟨_, rfl, .cell q, by simp [srcO, o2], st.length, fun i ρ S5 => (∃ x6 x7 x8 x9, ρ = [some (.ref h), some (.str room), some (.ref q), some (.ref fn), some (.ref (fn + 1)), some (.str here), x6, x7, x8, x9]) ∧ ∃ fd' wt' : List Str, wt'.length + (rs.length - fd'.length) = ws.length + (rs.length - fd.length) ∧ S5[fn]? = some (.lst (fd'.map D.str)) ∧ S5[fn + 1]? = some (.lst (wt'.map D.str)) ∧ WOk (eds st) rs room fd' ∧ (∀ x ∈ wt', x ∈ fd') ∧
    here ∈ fd' ∧ here ∉ wt' ∧ (∀ e ∈ eds st, e.1 ∈ fd' → e.1 ∉ wt' → e.1 ≠ here → e.2 ∈ fd') ∧ (∀ (n : Nat) (hn : n < st.length), n < i → st[n].1 = here → st[n].2.2 ∈ fd') ∧ Kp' [fn, fn + 1] S1 S5 ∧ wt'.Nodup, by simp [Src.len, o2, rg_len], ?_, ?_, ?_, ?_⟩
  · refine ⟨⟨_, _, _, _, rfl⟩, fd, ws, rfl, d1, d2, b3, fun x hx => b4 x (List.mem_append_left _ hx), b4 here (by simp), fun hh => hnd.2.2 here hh here (by simp) rfl, fun e hm h1 h2 h3 => b5 e hm h1 fun z => ?_, fun n hn z => by omega, d6, hnd.1⟩
    rcases List.mem_append.mp z with z | z
    · exact h2 z
    · exact h3 (List.mem_singleton.mp z)
  · rintro ρ S5 ⟨_, fd', wt', _, _, _, _, _, _, _, _, _, z, _⟩
    simp [Src.get, (old S5 z).2, rg_len]
  · rintro i ρ S5 hi ⟨⟨x6, x7, x8, x9, rfl⟩, fd', wt', p0, p1, p2, p3, p4, p5, p6, p7, p8, p9, p10⟩
    obtain ⟨o1, o2⟩ := old S5 p9
    refine ⟨.int (i : Nat), by simp only [Src.get, o2]; rw [rg_get hi], ?_⟩
    simp only [nameG, gW_some, List.set_cons_succ, List.set_cons_zero]
    refine wS_seqN (wS_asg ?_)
    rw [wE_bin]
    refine wE_steps o1 rfl ?_
    simp only [wE_var]
    refine ⟨_, rfl, _, _, idx_step o1.s hi, ?_⟩
    have hei : (st[i].1, st[i].2.2) ∈ eds st := List.mem_map.mpr ⟨st[i], List.getElem_mem hi, rfl⟩
    have hf10 := p3.len
    simp only [stepD, tupG, consG, nameG, nilG, List.length_cons, List.length_nil, if_true, gW_some, List.set_cons_succ, List.set_cons_zero]
    refine ⟨by simp, wS_if ?_⟩
    rw [wT_and, wT_tst]
    simp only [wE_bin, wE_var]
    have eq1 : eqD (.str st[i].1) (.str here) S5 = some (.bl (decide (st[i].1 = here)), S5) := rfl
    refine ⟨_, rfl, _, rfl, _, _, eq1, _, rfl, ?_⟩
    have done : (st[i].1 = here → st[i].2.2 ∈ fd') → wS nextS [some (.ref h), some (.str room), some (.ref q), some (.ref fn), some (.ref (fn + 1)), some (.str here), some (.int i), some (.str st[i].1), some (.tup (st[i].2.1.map D.int)), some (.str st[i].2.2)] S5 fun f ρ2 S2 => (f = .nx ∨ f = .ct) ∧ (∃ x6 x7 x8 x9, ρ2 = [some (.ref h), some (.str room), some (.ref q), some (.ref fn), some (.ref (fn + 1)), some (.str here), x6, x7, x8, x9]) ∧ ∃ fd' wt' : List Str, wt'.length + (rs.length - fd'.length) = ws.length + (rs.length - fd.length) ∧ S2[fn]? = some (.lst (fd'.map D.str)) ∧ S2[fn + 1]? = some (.lst (wt'.map D.str)) ∧ WOk (eds st) rs room fd' ∧ (∀ x ∈ wt', x ∈ fd') ∧
        here ∈ fd' ∧ here ∉ wt' ∧ (∀ e ∈ eds st, e.1 ∈ fd' → e.1 ∉ wt' → e.1 ≠ here → e.2 ∈ fd') ∧ (∀ (n : Nat) (hn : n < st.length), n < i + 1 → st[n].1 = here → st[n].2.2 ∈ fd') ∧ Kp' [fn, fn + 1] S1 S2 ∧ wt'.Nodup := by
      intro hx
      rw [wS_next]
      refine ⟨.inl rfl, ⟨_, _, _, _, rfl⟩, fd', wt', p0, p1, p2, p3, p4, p5, p6, p7, fun n hn hni hh => ?_, p9, p10⟩
      by_cases hni' : n < i
      · exact p8 n hn hni' hh
      · have : n = i := by omega
        subst this
        exact hx hh
    by_cases hh : st[i].1 = here
    · rw [decide_eq_true hh, if_pos rfl, wT_tst]
      simp only [wE_bin, wE_var]
      refine ⟨_, rfl, _, rfl, _, _, notInD_lst p1, _, rfl, ?_⟩
      by_cases hin : st[i].2.2 ∈ fd'
      · rw [decide_eq_true hin, if_neg (by simp)]
        exact done fun _ => hin
      · rw [decide_eq_false hin, if_pos (by simp)]
        refine wS_seqN (wS_expr ?_)
        rw [wE_mt]
        simp only [wE_var, wA_cons, wA_nil]
        refine ⟨_, rfl, by simp [lstTy, p1], _, rfl, _, _, appD_lst p1 (by rw [List.length_map]; omega), by simp, wS_expr ?_⟩
        have y1 : Kp' [fn, fn + 1] S5 (S5.set fn (.lst (fd'.map D.str ++ [.str st[i].2.2]))) := Kp'.set (by simp)
        have g1 : (S5.set fn (.lst (fd'.map D.str ++ [.str st[i].2.2])))[fn]? = some (.lst ((fd' ++ [st[i].2.2]).map D.str)) := by
          rw [List.getElem?_set_self (lt_of_get p1)]
          simp
        have g2 : (S5.set fn (.lst (fd'.map D.str ++ [.str st[i].2.2])))[fn + 1]? = some (.lst (wt'.map D.str)) := by
          rw [List.getElem?_set_ne (by omega)]
          exact p2
        have g3 := p9.trans y1
        generalize S5.set fn (.lst (fd'.map D.str ++ [.str st[i].2.2])) = S6 at g1 g2 g3
        rw [wE_mt]
        simp only [wE_var, wA_cons, wA_nil]
        have wl : wt'.length ≤ rs.length := sub_len _ _ p10 fun x hx => p3.sub x (p4 x hx)
        refine ⟨_, rfl, by simp [lstTy, g2], _, rfl, _, _, appD_lst g2 (by rw [List.length_map]; omega), ?_⟩
        have y2 : Kp' [fn, fn + 1] S6 (S6.set (fn + 1) (.lst (wt'.map D.str ++ [.str st[i].2.2]))) := Kp'.set (by simp)
        have w2 := p3.grow he2 _ hei (by rw [hh]; exact p5) hin
        have w2l := w2.len
        simp only [List.length_append, List.length_singleton] at w2l
        refine ⟨by simp, ⟨_, _, _, _, rfl⟩, fd' ++ [st[i].2.2], wt' ++ [st[i].2.2], ?_, ?_, ?_, w2, ?_, List.mem_append_left _ p5, ?_, ?_, ?_, g3.trans y2, ?_⟩
        · simp only [List.length_append, List.length_singleton]
          omega
        · rw [List.getElem?_set_ne (by omega)]
          exact g1
        · rw [List.getElem?_set_self (lt_of_get g2)]
          simp
        · intro x hx
          rcases List.mem_append.mp hx with hx | hx
          · exact List.mem_append_left _ (p4 x hx)
          · exact List.mem_append_right _ hx
        · intro hx
          rcases List.mem_append.mp hx with hx | hx
          · exact p6 hx
          · rw [← List.mem_singleton.mp hx] at hin
            exact hin p5
        · intro e hm h1 h2 h3
          rcases List.mem_append.mp h1 with h1 | h1
          · exact List.mem_append_left _ (p7 e hm h1 (fun z => h2 (List.mem_append_left _ z)) h3)
          · exact absurd (List.mem_append_right _ h1) h2
        · intro n hn hni hnh
          by_cases hni' : n < i
          · exact List.mem_append_left _ (p8 n hn hni' hnh)
          · have : n = i := by omega
            subst this
            simp
        · refine List.nodup_append.mpr ⟨p10, by simp, fun x hx y hy => ?_⟩
          rw [List.mem_singleton.mp hy]
          exact fun z => hin (by rw [← z]; exact p4 x hx)
    · rw [decide_eq_false hh, if_neg (by simp), if_neg (by simp)]
      exact done fun z => absurd z hh
  · rintro ρ S5 ⟨⟨x6, x7, x8, x9, rfl⟩, fd', wt', p0, p1, p2, p3, p4, p5, p6, p7, p8, p9, p10⟩
    refine ⟨by simp, ⟨_, _, _, _, _, rfl⟩, fd', wt', p0.symm, p1, p2, p3, p4, fun e hm h1 h2 => ?_, p9, p10⟩
    by_cases h3 : e.1 = here
    · obtain ⟨x, hx, rfl⟩ := List.mem_map.mp hm
      obtain ⟨n, hn, rfl⟩ := List.getElem_of_mem hx
      exact p8 n hn hn h3
    · exact p7 e hm h1 h2 h3
end W77

set_option autoImplicit false
set_option Elab.async false
set_option linter.all false
set_option maxRecDepth 100000
set_option maxHeartbeats 1000000
namespace W77
open PySem Td
/-! ### dicts -/
theorem findD_cons {p : D × D} {ps : List (D × D)} {k : L2.Key} : findD (p :: ps) k = if keyD p.1 = some k then some p.2 else findD ps k := by
  unfold findD
  rw [List.find?_cons]
  by_cases h : keyD p.1 = some k
  · rw [decide_eq_true h, if_pos h]
    rfl
  · rw [decide_eq_false h, if_neg h]
theorem findD_app : ∀ (ps : List (D × D)) (q : D × D) (k : L2.Key), findD (ps ++ [q]) k = (findD ps k).or (if keyD q.1 = some k then some q.2 else none)
  | [], q, k => by
    rw [List.nil_append, findD_cons]
    rfl
  | p :: ps, q, k => by
    rw [List.cons_append, findD_cons, findD_cons, findD_app ps q k]
    by_cases h : keyD p.1 = some k
    · rw [if_pos h, if_pos h]
      rfl
    · rw [if_neg h, if_neg h]
theorem any_find {ps : List (D × D)} {k : L2.Key} : (ps.any fun p => decide (keyD p.1 = some k)) = (findD ps k).isSome := by
  induction ps with
  | nil => rfl
  | cons p ps ih =>
    rw [List.any_cons, findD_cons, ih]
    by_cases h : keyD p.1 = some k
    · rw [decide_eq_true h, if_pos h]; rfl
    · rw [decide_eq_false h, if_neg h]; rfl
theorem find_map {k k' : L2.Key} {v : D} : ∀ ps : List (D × D), findD (ps.map fun p => if keyD p.1 = some k then (p.1, v) else p) k' = if k' = k then (findD ps k').map fun _ => v else findD ps k'
  | [] => by
    by_cases h : k' = k
    · rw [if_pos h]; rfl
    · rw [if_neg h]; rfl
  | p :: ps => by
    rw [List.map_cons, findD_cons, findD_cons, find_map ps]
    by_cases h : k' = k
    · subst h
      by_cases h2 : keyD p.1 = some k'
      · simp [h2]
      · simp [h2]
    · by_cases h2 : keyD p.1 = some k
      · have h3 : ¬ k = k' := fun z => h z.symm
        simp [h, h2, h3]
      · simp [h, h2]
theorem find_put {ps : List (D × D)} {k k' : L2.Key} {kd v : D} (hk : keyD kd = some k) : findD (putD ps k kd v) k' = if k' = k then some v else findD ps k' := by
  unfold putD
  rw [any_find]
  by_cases h : (findD ps k).isSome = true
  · rw [if_pos h, find_map]
    by_cases h2 : k' = k
    · subst h2
      obtain ⟨d, hd⟩ := Option.isSome_iff_exists.mp h
      simp [hd]
    · simp [h2]
  · rw [if_neg h, findD_app]
    have hn : findD ps k = none := by simpa using h
    by_cases h2 : k' = k
    · subst h2
      simp [hn, hk]
    · have h3 : ¬ k = k' := fun z => h2 z.symm
      simp [h2, hk, h3]
theorem put_len {ps : List (D × D)} {k : L2.Key} {kd v : D} : (putD ps k kd v).length ≤ ps.length + 1 := by
  unfold putD
  split
  · rw [List.length_map]; omega
  · simp
/-! ### what the rings are -/
open Classical in
noncomputable def someR (es : Ed) (rs : List Str) (room : Str) : List Str := rs.filter fun o => decide (Reach es room o ∧ Reach es o room)
def inQ (st : List St3) (sm : List Str) (i : Nat) : Bool := match st[i]? with
  | some x => decide (x.1 ∈ sm ∧ x.2.2 ∈ sm)
  | none => false
def inR (st : List St3) (sm : List Str) : List Nat := (List.range st.length).filter (inQ st sm)
abbrev Rg := List Str × List Nat
open Classical in
noncomputable def outR (es : Ed) (rs : List Str) (st : List St3) : Nat → List Rg
  | 0 => []
  | i + 1 => outR es rs st i ++ (match rs[i]? with
    | some room => if (∃ r' ∈ rs.take i, Reach es r' room ∧ Reach es room r') then [] else if inR st (someR es rs room) = [] then [] else [(someR es rs room, inR st (someR es rs room))]
    | none => [])
def rgD' (p : Rg) : D := .tup [.tup (p.1.map D.str), .tup (p.2.map fun n => .int (n : Nat))]
theorem outR_len {es : Ed} {rs : List Str} {st : List St3} : ∀ i, (outR es rs st i).length ≤ i
  | 0 => Nat.le_refl _
  | i + 1 => by
    unfold outR
    rw [List.length_append]
    have := outR_len (es := es) (rs := rs) (st := st) i
    split
    · split
      · simp; omega
      · split
        · simp; omega
        · simp; omega
    · simp; omega
/-- the rooms of which one of the first i is one -/
def DnOk (es : Ed) (rs : List Str) (i : Nat) (dn : List Str) : Prop := ∀ x ∈ rs, x ∈ dn ↔ ∃ r' ∈ rs.take i, Reach es r' x ∧ Reach es x r'
theorem take_succ_mem {rs : List Str} {i : Nat} (hi : i < rs.length) (x : Str) : x ∈ rs.take (i + 1) ↔ x ∈ rs.take i ∨ x = rs[i] := by
  rw [List.take_succ_eq_append_getElem hi, List.mem_append, List.mem_singleton]
theorem DnOk.skip {es : Ed} {rs : List Str} {i : Nat} {dn : List Str} (h : DnOk es rs i dn) (hi : i < rs.length) (hd : rs[i] ∈ dn) : DnOk es rs (i + 1) dn := by
  intro x hx
  rw [h x hx]
  obtain ⟨r0, h0, g1, g2⟩ := (h _ (List.getElem_mem hi)).mp hd
  constructor
  · rintro ⟨r', m, z⟩
    exact ⟨r', (take_succ_mem hi r').mpr (.inl m), z⟩
  · rintro ⟨r', m, z1, z2⟩
    rcases (take_succ_mem hi r').mp m with m | rfl
    · exact ⟨r', m, z1, z2⟩
    · exact ⟨r0, h0, g1.trans z1, z2.trans g2⟩
open Classical in
theorem DnOk.add {es : Ed} {rs : List Str} {i : Nat} {dn : List Str} (h : DnOk es rs i dn) (hi : i < rs.length) : DnOk es rs (i + 1) (dn ++ someR es rs rs[i]) := by
  intro x hx
  rw [List.mem_append, h x hx]
  have e : x ∈ someR es rs rs[i] ↔ Reach es rs[i] x ∧ Reach es x rs[i] := by
    unfold someR
    rw [List.mem_filter, decide_eq_true_iff]
    exact ⟨fun z => z.2, fun z => ⟨hx, z⟩⟩
  rw [e]
  constructor
  · rintro (⟨r', m, z⟩ | z)
    · exact ⟨r', (take_succ_mem hi r').mpr (.inl m), z⟩
    · exact ⟨_, (take_succ_mem hi _).mpr (.inr rfl), z⟩
  · rintro ⟨r', m, z⟩
    rcases (take_succ_mem hi r').mp m with m | rfl
    · exact .inl ⟨r', m, z⟩
    · exact .inr z
open Classical in
theorem outR_in {es : Ed} {rs : List Str} {st : List St3} {i : Nat} {dn : List Str} (h : DnOk es rs i dn) (hi : i < rs.length) (hd : rs[i] ∈ dn) : outR es rs st (i + 1) = outR es rs st i := by
  have e := List.getElem?_eq_getElem hi
  show outR es rs st i ++ (match rs[i]? with
    | some room => _
    | none => []) = _
  rw [e]
  simp only
  rw [if_pos ((h _ (List.getElem_mem hi)).mp hd), List.append_nil]
open Classical in
theorem outR_no {es : Ed} {rs : List Str} {st : List St3} {i : Nat} {dn : List Str} (h : DnOk es rs i dn) (hi : i < rs.length) (hd : rs[i] ∉ dn) : outR es rs st (i + 1) = outR es rs st i ++ (if inR st (someR es rs rs[i]) = [] then [] else [(someR es rs rs[i], inR st (someR es rs rs[i]))]) := by
  have e := List.getElem?_eq_getElem hi
  show outR es rs st i ++ (match rs[i]? with
    | some room => _
    | none => []) = _
  rw [e]
  simp only
  rw [if_neg fun z => hd ((h _ (List.getElem_mem hi)).mpr z)]
open Classical in
theorem someR_iff {es : Ed} {rs : List Str} {room : Str} {p : Str → Bool} (h : ∀ o ∈ rs, p o = true ↔ (Reach es room o ∧ Reach es o room)) : rs.filter p = someR es rs room := by
  unfold someR
  refine List.filter_congr fun o ho => ?_
  rw [Bool.eq_iff_iff, h o ho, decide_eq_true_iff]
theorem neD_tup {ns : List Nat} {S : Sto} : neD (.tup (ns.map fun n => .int (n : Nat))) (.tup []) S = some (.bl (!ns.isEmpty), S) := by
  have e : ∀ ns : List Nat, pyd S 12 (.tup (ns.map fun n => D.int (n : Nat))) = some (.tuple ((ns.map fun n : Nat => (n : Int)).map PyData.int)) := fun ns => by
    unfold pyd
    simp only
    have : (ns.map fun n => D.int (n : Nat)) = (ns.map fun n : Nat => (n : Int)).map D.int := by
      rw [List.map_map]
      rfl
    rw [this, pydL_map (f := pyd S 11) (a := D.int) (b := PyData.int) (fun x => by unfold pyd; rfl)]
    rfl
  have sh : ∀ gs : List Int, SeqAt.shaped (.tuple (gs.map PyData.int)) = true := fun gs => by
    unfold SeqAt.shaped
    simp only [PyData.canLay0, PyData.depth, lay_ints, dep_ints]
    rfl
  have e1 := e ns
  have e2 := e []
  rw [List.map_nil] at e2
  have s1 := sh (ns.map fun n : Nat => (n : Int))
  have s2 := sh []
  unfold neD neDeep
  simp only [e1, e2]
  simp only [List.map_nil] at s2 ⊢
  rw [s1, s2]
  cases ns with
  | nil => simp [PyData.eqv, PyData.eqvAll]
  | cons n ns => simp [PyData.eqv, PyData.eqvAll]
end W77

set_option autoImplicit false
set_option Elab.async false
set_option linter.all false
set_option maxRecDepth 100000
set_option maxHeartbeats 1000000
namespace W77
open PySem Td
/-- a dict of ways: each room's list tells where it leads -/
def WaysOk (es : Ed) (rs : List Str) (P : Nat → Prop) (wy : Nat) (S : Sto) : Prop := ∃ kvs, S[wy]? = some (.dct kvs) ∧ P wy ∧ ∀ x ∈ rs, ∃ (f : Nat) (W : List Str), findD kvs (.inr x) = some (.ref f) ∧ P f ∧ S[f]? = some (.lst (W.map D.str)) ∧ ∀ y, y ∈ W ↔ Reach es x y
theorem WaysOk.keep {es : Ed} {rs : List Str} {P : Nat → Prop} {wy : Nat} {S S' : Sto} {E : List Nat} (h : WaysOk es rs P wy S) (k : Kp' E S S') (he : ∀ x ∈ E, ¬ P x) : WaysOk es rs P wy S' := by
  obtain ⟨kvs, h1, h2, h3⟩ := h
  refine ⟨kvs, k.2 _ _ (fun z => he _ z h2) h1, h2, fun x hx => ?_⟩
  obtain ⟨f, W, g1, g2, g3, g4⟩ := h3 x hx
  exact ⟨f, W, g1, g2, k.2 _ _ (fun z => he _ z g2) g3, g4⟩
open Classical in
theorem someC_ok {es : Ed} {rs : List Str} {P : Nat → Prop} {wy j iw ir io : Nat} {room : Str} {m : MI} {ρ : En} {S : Sto} {Q : D → Sto → Prop} (h : WaysOk es rs P wy S) (hj : S[j]? = some (.lst (rs.map D.str))) (hl : rs.length ≤ 10) (hr : room ∈ rs)
    (hm : wI m ρ S fun src S1 => src = .cell j ∧ S1 = S) (h1 : ρ[iw]? = some (some (.ref wy))) (h2 : ρ[ir]? = some (some (.str room))) (n1 : io ≠ iw) (n2 : io ≠ ir) (n3 : io < ρ.length)
    (k : ∀ S', Kp' [] S S' → Q (.tup ((someR es rs room).map D.str)) S') :
    wE (cbM tupleD (consA (lcM m [io] (nameG io) (andT (tstM (binM inD (varM io) (binM idxD (varM iw) (varM ir)))) (tstM (binM inD (varM ir) (binM idxD (varM iw) (varM io))))) (varM io)) nilA)) ρ S Q := by
  have hb := sizeBig
  obtain ⟨src, S1, e1, rfl, rfl⟩ := hm
  obtain ⟨kvs, w1, w2, w3⟩ := h
  rw [wE_cb, wA_cons]
  refine wE_lc ⟨_, S1, e1, rs.length, fun i S2 acc => S2 = S1 ∧ i ≤ rs.length ∧ acc = ((rs.take i).filter fun o => decide (Reach es room o ∧ Reach es o room)).map D.str, by simp [Src.len, hj], ⟨rfl, by omega, rfl⟩, ?_, ?_, ?_⟩
  · rintro S2 acc ⟨rfl, _, _⟩
    simp [Src.get, hj]
  · rintro i S2 acc hi ⟨rfl, _, rfl⟩
    have hmem := List.getElem_mem hi
    refine ⟨.str rs[i], by simp [Src.get, hj, hi], ?_⟩
    simp only [nameG, gW_some, wipeD]
    have r1 : ((ρ.set io none).set io (some (.str rs[i])))[iw]? = some (some (.ref wy)) := by
      rw [List.getElem?_set_ne n1, List.getElem?_set_ne n1]
      exact h1
    have r2 : ((ρ.set io none).set io (some (.str rs[i])))[ir]? = some (some (.str room)) := by
      rw [List.getElem?_set_ne n2, List.getElem?_set_ne n2]
      exact h2
    have r3 : ((ρ.set io none).set io (some (.str rs[i])))[io]? = some (some (.str rs[i])) := List.getElem?_set_self (by simpa using n3)
    obtain ⟨f, W, g1, g2, g3, g4⟩ := w3 room hr
    obtain ⟨f', W', g1', g2', g3', g4'⟩ := w3 rs[i] hmem
    rw [wT_and]
    simp only [wT_tst, wE_bin, wE_var]
    refine ⟨_, r3, _, r1, _, r2, _, S2, idx_of w1 g1, _, S2, inD_lst g3, _, rfl, ?_⟩
    have et : rs.take (i + 1) = rs.take i ++ [rs[i]] := List.take_succ_eq_append_getElem hi
    by_cases q1 : rs[i] ∈ W
    · rw [decide_eq_true q1, if_pos rfl]
      refine ⟨_, r2, _, r1, _, r3, _, S2, idx_of w1 g1', _, S2, inD_lst g3', _, rfl, ?_⟩
      by_cases q2 : room ∈ W'
      · rw [decide_eq_true q2, if_pos rfl]
        refine ⟨_, r3, ?_, rfl, hi, ?_⟩
        · rw [List.length_map]
          have := List.length_filter_le (fun o => decide (Reach es room o ∧ Reach es o room)) (rs.take i)
          rw [List.length_take] at this
          omega
        · rw [et, List.filter_append, List.map_append, List.filter_cons_of_pos (by rw [decide_eq_true_iff]; exact ⟨(g4 _).mp q1, (g4' _).mp q2⟩)]
          rfl
      · rw [decide_eq_false q2, if_neg (by simp)]
        refine ⟨rfl, hi, ?_⟩
        rw [et, List.filter_append, List.filter_cons_of_neg (by rw [decide_eq_true_iff]; exact fun z => q2 ((g4' _).mpr z.2)), List.filter_nil, List.append_nil]
    · rw [decide_eq_false q1, if_neg (by simp), if_neg (by simp)]
      refine ⟨rfl, hi, ?_⟩
      rw [et, List.filter_append, List.filter_cons_of_neg (by rw [decide_eq_true_iff]; exact fun z => q1 ((g4 _).mpr z.1)), List.filter_nil, List.append_nil]
  · rintro S2 ds ⟨rfl, _, rfl⟩
    rw [List.take_length]
    simp only [wA_nil]
    exact ⟨_, _, tupleD_lst (last_at S2 _), k _ (Kp'.app _ _)⟩
theorem inR_succ {st : List St3} {sm : List Str} {i : Nat} (hi : i < st.length) : (List.range (i + 1)).filter (inQ st sm) = (List.range i).filter (inQ st sm) ++ (if st[i].1 ∈ sm ∧ st[i].2.2 ∈ sm then [i] else []) := by
  rw [List.range_succ, List.filter_append]
  congr 1
  have e : inQ st sm i = decide (st[i].1 ∈ sm ∧ st[i].2.2 ∈ sm) := by
    unfold inQ
    rw [List.getElem?_eq_getElem hi]
  by_cases h : st[i].1 ∈ sm ∧ st[i].2.2 ∈ sm
  · rw [if_pos h, List.filter_cons_of_pos (by rw [e]; exact decide_eq_true h)]
    rfl
  · rw [if_neg h, List.filter_cons_of_neg (by rw [e, decide_eq_true_iff]; exact h)]
    rfl
theorem inR_len (st : List St3) (sm : List Str) (i : Nat) : ((List.range i).filter (inQ st sm)).length ≤ i := by
  have := List.length_filter_le (inQ st sm) (List.range i)
  rw [List.length_range] at this
  exact this
theorem rings_by_ok {h j k q : Nat} {rs : List Str} {st : List St3} {S : Sto} (a : HAt h j k rs st S) (hq : S[q]? = some (.lst (rgD 0 st.length))) (hz : ∀ z ∈ rs, z ∈ nms) (he : ∀ x ∈ st, x.2.2 ∈ rs) (hl : rs.length ≤ 10) (hn : rs.Nodup) (hs : st.length ≤ 10) :
    wF m_rings_by [.ref h, .ref q] S fun d S' => ∃ f, d = .ref f ∧ S'[f]? = some (.lst ((outR (eds st) rs st rs.length).map rgD')) ∧ Kp' [] S S' := by
  have hb := sizeBig
  refine wF_def rfl ?_
  unfold b_rings_by
  refine wS_seqN (wS_par ?_)
  simp only [wA_cons, wA_nil, wE_lst, wE_var]
  have k0 : Kp' [] S (S ++ [Cell.lst []] ++ [Cell.lst []]) := (Kp'.app S _).trans (Kp'.app _ _)
  have a1 : (S ++ [Cell.lst []] ++ [Cell.lst []])[S.length]? = some (.lst (([] : List Rg).map rgD')) := (Kp'.app (E := []) _ _).get (last_at S _)
  have a2 : (S ++ [Cell.lst []] ++ [Cell.lst []])[S.length + 1]? = some (.lst (([] : List Str).map D.str)) := by
    have := last_at (S ++ [Cell.lst []]) (.lst [])
    simpa using this
  have e3 : (S ++ [Cell.lst []]).length = S.length + 1 := by simp
  refine ⟨by simp, by simp, _, _, rfl, by simp, ?_⟩
  rw [e3]
  have lh : h < S.length := by
    obtain ⟨i, z⟩ := a.i
    exact lt_of_get z
  have lj := lt_of_get a.r
  have lk := lt_of_get a.s
  have lq := lt_of_get hq
  have a0 := a.keep k0
  have hq0 := k0.get hq
  have hlen1 : (S ++ [Cell.lst []] ++ [Cell.lst []]).length = S.length + 2 := by simp
  generalize hS1 : S ++ [Cell.lst []] ++ [Cell.lst []] = S1 at k0 a1 a2 a0 hq0 hlen1
  generalize hfo : S.length = fo at a1 a2 lh lj lk lq hlen1
  -- the ways
  refine wS_seqN (wS_set (wE_dc (wI_any.mpr ?_)))
  refine wE_rooms a0 rfl ?_
  refine ⟨.cell j, by simp [srcO, a0.r], rs.length, fun i S2 acc => Kp' [] S1 S2 ∧ acc.length ≤ i ∧ ∀ x ∈ rs.take i, ∃ (f : Nat) (W : List Str), findD acc (.inr x) = some (.ref f) ∧ fo + 2 ≤ f ∧ S2[f]? = some (.lst (W.map D.str)) ∧ ∀ y, y ∈ W ↔ Reach (eds st) x y, by simp [Src.len, a0.r], ⟨Kp'.refl _, by simp, by simp⟩, ?_, ?_, ?_⟩
  · rintro S2 acc ⟨k2, _, _⟩
    simp [Src.get, k2.get a0.r]
  · rintro i S2 acc hi ⟨k2, g1, g2⟩
    have hmem := List.getElem_mem hi
    refine ⟨.str rs[i], by simp [Src.get, k2.get a0.r, hi], ?_⟩
    simp only [nameG, gW_some, wT_yes, if_true, wE_var]
    refine ⟨.str rs[i], by simp [wipeD], .inr rs[i], rfl, ?_⟩
    refine wE_callF (ds := [.ref h, .str rs[i], .ref q]) (by simp [wipeD]) (wF_mono (reached_ok (a0.keep k2) (k2.get hq0) hmem hz he hl) ?_)
    rintro d S3 ⟨f, W, rfl, f1, f2, f3, f4, k3⟩
    refine ⟨by omega, k2.trans k3, by have := put_len (ps := acc) (k := .inr rs[i]) (kd := .str rs[i]) (v := .ref f); omega, fun x hx => ?_⟩
    rw [find_put (k := .inr rs[i]) rfl]
    by_cases hxe : x = rs[i]
    · subst hxe
      rw [if_pos rfl]
      exact ⟨f, W, rfl, by have := k2.1; omega, f2, f3.iff f4⟩
    · rw [if_neg (fun z => hxe (by injection z))]
      obtain ⟨f', W', c1, c2, c3, c4⟩ := g2 x (((take_succ_mem hi x).mp hx).resolve_right hxe)
      exact ⟨f', W', c1, c2, k3.get c3, c4⟩
  rintro S2 kvs ⟨k2, _, g2⟩
  rw [List.take_length] at g2
  have wo : WaysOk (eds st) rs (fun f => fo + 2 ≤ f) S2.length (S2 ++ [Cell.dct kvs]) := by
    refine ⟨kvs, last_at _ _, by have := k2.1; omega, fun x hx => ?_⟩
    obtain ⟨f, W, c1, c2, c3, c4⟩ := g2 x hx
    exact ⟨f, W, c1, c2, (Kp'.app (E := []) S2 _).get c3, c4⟩
  have k3 : Kp' [] S1 (S2 ++ [Cell.dct kvs]) := k2.trans (Kp'.app _ _)
  generalize hwy : S2.length = wy at wo
  generalize S2 ++ [Cell.dct kvs] = S3 at wo k3
  refine ⟨by simp, wS_seqN (wS_for (wI_any.mpr ?_))⟩
  refine wE_rooms (a0.keep k3) rfl ?_
  have old : ∀ S2, Kp' [fo, fo + 1] S3 S2 → HAt h j k rs st S2 ∧ S2[q]? = some (.lst (rgD 0 st.length)) ∧ WaysOk (eds st) rs (fun f => fo + 2 ≤ f) wy S2 := fun S2 kk => by
    obtain ⟨⟨i, z1⟩, z2, z3⟩ := a0.keep k3
    exact ⟨⟨⟨i, kk.get z1 (by simp; omega)⟩, kk.get z2 (by simp; omega), kk.get z3 (by simp; omega)⟩, kk.get (k3.get hq0) (by simp; omega), wo.keep kk (by simp; try omega)⟩
  refine ⟨.cell j, by simp [srcO, k3.get a0.r], rs.length, fun i ρ S4 => (∃ x5 x6 x7 x8 x9 x10, ρ = [some (.ref h), some (.ref q), some (.ref fo), some (.ref (fo + 1)), some (.ref wy), x5, x6, x7, x8, x9, x10]) ∧ Kp' [fo, fo + 1] S3 S4 ∧ S4[fo]? = some (.lst ((outR (eds st) rs st i).map rgD')) ∧
    ∃ dn : List Str, S4[fo + 1]? = some (.lst (dn.map D.str)) ∧ DnOk (eds st) rs i dn ∧ dn.length ≤ 10 * i, by simp [Src.len, k3.get a0.r], ⟨⟨_, _, _, _, _, _, rfl⟩, Kp'.refl _, k3.get a1, [], k3.get a2, fun x _ => by simp, by simp⟩, ?_, ?_, ?_⟩
  · rintro ρ S4 ⟨_, k4, _⟩
    simp [Src.get, (old S4 k4).1.r]
  · rintro i ρ S4 hi ⟨⟨x5, x6, x7, x8, x9, x10, rfl⟩, k4, o1, dn, o2, o3, o4⟩
    have hmem := List.getElem_mem hi
    refine ⟨.str rs[i], by simp [Src.get, (old S4 k4).1.r, hi], ?_⟩
    simp only [nameG, gW_some, List.set_cons_succ, List.set_cons_zero]
    refine wS_if ?_
    simp only [wT_tst, wE_bin, wE_var]
    refine ⟨_, rfl, _, rfl, _, _, notInD_lst o2, _, rfl, ?_⟩
    by_cases hd : rs[i] ∈ dn
    · rw [decide_eq_true hd, if_neg (by simp), wS_next]
      exact ⟨.inl rfl, ⟨_, _, _, _, _, _, rfl⟩, k4, by rw [outR_in o3 hi hd]; exact o1, dn, o2, o3.skip hi hd, by omega⟩
    rw [decide_eq_false hd, if_pos (by simp)]
    obtain ⟨b1, b2, b3⟩ := old S4 k4
    refine wS_seqN (wS_set ?_)
    refine someC_ok b3 b1.r hl hmem (by rw [wI_any]; exact wE_rooms b1 rfl ⟨.cell j, by simp [srcO, b1.r], rfl, rfl⟩) rfl rfl (by decide) (by decide) (by simp) fun S5 k5 => ?_
    have hsl : (someR (eds st) rs rs[i]).length ≤ 10 := by
      unfold someR
      exact Nat.le_trans (List.length_filter_le _ _) hl
    generalize hsm : someR (eds st) rs rs[i] = sm at hsl
    refine ⟨by simp, wS_seqN (wS_expr ?_)⟩
    rw [wE_mt]
    simp only [wE_var, wA_cons, wA_nil]
    have p2 := k5.get o2
    have ex : extAD (.ref (fo + 1)) [.tup (sm.map D.str)] S5 = some (.non, S5.set (fo + 1) (.lst ((dn ++ sm).map D.str))) := by
      unfold extAD extTD lstO
      simp only [p2]
      rw [if_pos (by rw [List.length_map, List.length_map]; omega)]
      simp
    refine ⟨_, rfl, by simp [lstTy, p2], _, rfl, _, _, ex, by simp, ?_⟩
    have y1 : Kp' [fo, fo + 1] S5 (S5.set (fo + 1) (.lst ((dn ++ sm).map D.str))) := Kp'.set (by simp)
    have d1 : (S5.set (fo + 1) (.lst ((dn ++ sm).map D.str)))[fo]? = some (.lst ((outR (eds st) rs st i).map rgD')) := by
      rw [List.getElem?_set_ne (by omega)]
      exact k5.get o1
    have d2 : (S5.set (fo + 1) (.lst ((dn ++ sm).map D.str)))[fo + 1]? = some (.lst ((dn ++ sm).map D.str)) := List.getElem?_set_self (lt_of_get p2)
    have k6 := (k4.trans k5.any).trans y1
    generalize S5.set (fo + 1) (.lst ((dn ++ sm).map D.str)) = S6 at d1 d2 k6
    -- the ends
    obtain ⟨b1, b2, b3⟩ := old S6 k6
    refine wS_seqN (wS_set (wE_dc (wI_any.mpr ?_)))
    simp only [wE_var]
    refine ⟨_, rfl, .cell q, by simp [srcO, b2], st.length, fun n S7 acc => S7 = S6 ∧ acc.length ≤ n ∧ ∀ (m : Nat) (hm : m < st.length), m < n → findD acc (.inl (m : Nat)) = some (.tup [.str st[m].1, .str st[m].2.2]), by simp [Src.len, b2, rg_len], ⟨rfl, by simp, fun m hm z => by omega⟩, ?_, ?_, ?_⟩
    · rintro S7 acc ⟨rfl, _⟩
      simp [Src.get, b2, rg_len]
    · rintro n S7 acc hn' ⟨rfl, c1, c2⟩
      refine ⟨.int (n : Nat), by simp only [Src.get, b2]; rw [rg_get hn'], ?_⟩
      simp only [nameG, gW_some, wT_yes, if_true, wE_var]
      refine ⟨.int (n : Nat), by simp [wipeD], .inl (n : Nat), rfl, ?_⟩
      rw [wE_tup, wA_cons, wE_bin, wE_bin]
      refine wE_steps b1 (by simp [wipeD]) ?_
      simp only [wE_var]
      refine ⟨.int (n : Nat), by simp [wipeD], _, _, idx_step b1.s hn', ?_⟩
      have i0 : idxD (stepD st[n]) (.int 0) S7 = some (.str st[n].1, S7) := rfl
      have i2 : idxD (stepD st[n]) (.int 2) S7 = some (.str st[n].2.2, S7) := rfl
      simp only [wE_c]
      refine ⟨_, _, i0, wA_cons.mpr (wE_bin.mpr (wE_bin.mpr ?_))⟩
      refine wE_steps b1 (by simp [wipeD]) ?_
      simp only [wE_var, wE_c, wA_nil]
      refine ⟨.int (n : Nat), by simp [wipeD], _, _, idx_step b1.s hn', _, _, i2, by simp; omega, by omega, rfl, ?_, fun m hm hmn => ?_⟩
      · have := put_len (ps := acc) (k := .inl ((n : Nat) : Int)) (kd := .int (n : Nat)) (v := .tup [.str st[n].1, .str st[n].2.2])
        omega
      · rw [find_put (k := .inl ((n : Nat) : Int)) rfl]
        by_cases hmn' : m = n
        · subst hmn'
          rw [if_pos rfl]
        · rw [if_neg (fun z => hmn' (by injection z with z; omega))]
          exact c2 m hm (by omega)
    rintro S7 ek ⟨rfl, _, c2⟩
    have k7 : Kp' [fo, fo + 1] S3 (S7 ++ [Cell.dct ek]) := k6.trans (Kp'.app _ _)
    have d1' := (Kp'.app (E := []) S7 [Cell.dct ek]).get d1
    have d2' := (Kp'.app (E := []) S7 [Cell.dct ek]).get d2
    have ne : (S7 ++ [Cell.dct ek])[S7.length]? = some (.dct ek) := last_at _ _
    obtain ⟨b1, b2, b3⟩ := old _ k7
    generalize hen : S7.length = en at ne
    generalize S7 ++ [Cell.dct ek] = S8 at k7 d1' d2' ne b1 b2 b3
    refine ⟨by simp, wS_seqN (wS_set ?_)⟩
    rw [wE_cb, wA_cons]
    refine wE_lc (wI_any.mpr ?_)
    simp only [wE_var]
    refine ⟨_, rfl, .cell q, by simp [srcO, b2], st.length, fun n S9 acc => S9 = S8 ∧ n ≤ st.length ∧ acc = ((List.range n).filter (inQ st sm)).map fun n => D.int (n : Nat), by simp [Src.len, b2, rg_len], ⟨rfl, by omega, rfl⟩, ?_, ?_, ?_⟩
    · rintro S9 acc ⟨rfl, _⟩
      simp [Src.get, b2, rg_len]
    · rintro n S9 acc hn' ⟨rfl, _, rfl⟩
      refine ⟨.int (n : Nat), by simp only [Src.get, b2]; rw [rg_get hn'], ?_⟩
      simp only [nameG, gW_some]
      have xe : idxD (.ref en) (.int (n : Nat)) S9 = some (.tup [.str st[n].1, .str st[n].2.2], S9) := by
        unfold idxD
        simp only [seqO, ne, dctO, keyD, c2 n hn' hn']
      have i0 : idxD (.tup [.str st[n].1, .str st[n].2.2]) (.int 0) S9 = some (.str st[n].1, S9) := rfl
      have i1 : idxD (.tup [.str st[n].1, .str st[n].2.2]) (.int 1) S9 = some (.str st[n].2.2, S9) := rfl
      rw [wT_and]
      simp only [wT_tst, wE_bin, wE_var, wE_c]
      refine ⟨.ref en, by simp [wipeD], .int (n : Nat), by simp [wipeD], _, _, xe, _, _, i0, .tup (sm.map D.str), by simp [wipeD], _, _, inD_tup, _, rfl, ?_⟩
      have hfl := inR_len st sm n
      by_cases q1 : st[n].1 ∈ sm
      · rw [decide_eq_true q1, if_pos rfl]
        refine ⟨.ref en, by simp [wipeD], .int (n : Nat), by simp [wipeD], _, _, xe, _, _, i1, .tup (sm.map D.str), by simp [wipeD], _, _, inD_tup, _, rfl, ?_⟩
        by_cases q2 : st[n].2.2 ∈ sm
        · rw [decide_eq_true q2, if_pos rfl]
          refine ⟨.int (n : Nat), by simp [wipeD], by rw [List.length_map]; omega, rfl, hn', ?_⟩
          rw [inR_succ hn', if_pos ⟨q1, q2⟩, List.map_append]
          rfl
        · rw [decide_eq_false q2, if_neg (by simp)]
          refine ⟨rfl, hn', ?_⟩
          rw [inR_succ hn', if_neg (fun z => q2 z.2), List.append_nil]
      · rw [decide_eq_false q1, if_neg (by simp), if_neg (by simp)]
        refine ⟨rfl, hn', ?_⟩
        rw [inR_succ hn', if_neg (fun z => q1 z.1), List.append_nil]
    rintro S9 ds ⟨rfl, _, rfl⟩
    simp only [wA_nil]
    refine ⟨_, _, tupleD_lst (last_at S9 _), by simp, ?_⟩
    have k9 : Kp' [fo, fo + 1] S3 (S9 ++ [Cell.lst (((List.range st.length).filter (inQ st sm)).map fun n => D.int (n : Nat))]) := k7.trans (Kp'.app _ _)
    have g1 := (Kp'.app (E := []) S9 [Cell.lst (((List.range st.length).filter (inQ st sm)).map fun n => D.int (n : Nat))]).get d1'
    have g2 := (Kp'.app (E := []) S9 [Cell.lst (((List.range st.length).filter (inQ st sm)).map fun n => D.int (n : Nat))]).get d2'
    generalize S9 ++ [Cell.lst (((List.range st.length).filter (inQ st sm)).map fun n => D.int (n : Nat))] = S10 at k9 g1 g2
    have ein : ((List.range st.length).filter (inQ st sm)) = inR st sm := rfl
    rw [ein]
    have o3' : DnOk (eds st) rs (i + 1) (dn ++ sm) := by
      rw [← hsm]
      exact o3.add hi
    have fin : outR (eds st) rs st (i + 1) = outR (eds st) rs st i ++ (if inR st sm = [] then [] else [(sm, inR st sm)]) := by
      rw [outR_no o3 hi hd, hsm]
    have dl : (dn ++ sm).length ≤ 10 * (i + 1) := by
      rw [List.length_append]
      omega
    refine wS_if ?_
    simp only [wT_tst, wE_bin, wE_var, wE_tup, wA_nil]
    refine ⟨_, rfl, by simp, _, _, neD_tup, _, rfl, ?_⟩
    by_cases hi0 : inR st sm = []
    · have : (!(inR st sm).isEmpty) = false := by rw [hi0]; rfl
      rw [this, if_neg (by simp), wS_next]
      refine ⟨.inl rfl, ⟨_, _, _, _, _, _, rfl⟩, k9, ?_, dn ++ sm, g2, o3', dl⟩
      rw [fin, if_pos hi0, List.append_nil]
      exact g1
    · have : (!(inR st sm).isEmpty) = true := by
        cases hx : inR st sm with
        | nil => exact absurd hx hi0
        | cons _ _ => rfl
      rw [this, if_pos rfl]
      refine wS_expr ?_
      rw [wE_mt]
      simp only [wE_var, wA_cons, wA_nil, wE_tup]
      have hol := outR_len (es := eds st) (rs := rs) (st := st) i
      refine ⟨_, rfl, by simp [lstTy, g1], _, rfl, _, rfl, by simp; omega, _, _, appD_lst g1 (by rw [List.length_map]; omega), ?_⟩
      refine ⟨by simp, ⟨_, _, _, _, _, _, rfl⟩, k9.trans (Kp'.set (by simp)), ?_, dn ++ sm, ?_, o3', dl⟩
      · rw [List.getElem?_set_self (lt_of_get g1), fin, if_neg hi0, List.map_append]
        rfl
      · rw [List.getElem?_set_ne (by omega)]
        exact g2
  · rintro ρ S4 ⟨⟨x5, x6, x7, x8, x9, x10, rfl⟩, k4, o1, _⟩
    refine ⟨by simp, wS_ret ?_⟩
    simp only [wE_var]
    exact ⟨_, rfl, fo, rfl, o1, Kp'.drop ((k0.any.trans k3.any).trans k4) (by simp; omega)⟩
end W77

set_option autoImplicit false
set_option Elab.async false
set_option linter.all false
set_option maxRecDepth 100000
set_option maxHeartbeats 1000000
namespace W77
open PySem Td
theorem HAt.ins {h j k : Nat} {rs : List Str} {st : List St3} {S : Sto} (a : HAt h j k rs st S) : insD "House" (.ref h) S = true := by
  obtain ⟨⟨i, h1⟩, _, _⟩ := a
  unfold insD
  simp [h1]
theorem need_ok {h j k : Nat} {rs : List Str} {st : List St3} {S : Sto} (a : HAt h j k rs st S) : wF m_need_house [.ref h] S fun d S' => d = .non ∧ S' = S := by
  refine wF_def rfl ?_
  unfold b_need_house
  have e : isiOD "House" [.ref h, .obj "House"] S = some (.bl true, S) := by
    unfold isiOD
    simp [a.ins]
  refine wS_ifF (R := fun S1 => S1 = S) ?_ ?_
  · simp [e]
  · rintro S1 rfl
    rw [wS_next]
    exact ⟨rfl, rfl⟩
theorem len_ok {h j k : Nat} {rs : List Str} {st : List St3} {S : Sto} (a : HAt h j k rs st S) : wF m_House___len__ [.ref h] S fun d S' => d = .int st.length ∧ S' = S := by
  refine wF_def rfl ?_
  unfold b_House___len__
  refine wS_ret ?_
  rw [wE_cb, wA_cons]
  refine wE_steps a rfl ?_
  rw [wA_nil]
  have e := lenD_lst a.s
  rw [List.length_map] at e
  exact ⟨_, _, e, rfl, rfl⟩
theorem rings_ok {h j k : Nat} {rs : List Str} {st : List St3} {S : Sto} (a : HAt h j k rs st S) (hz : ∀ z ∈ rs, z ∈ nms) (he : ∀ x ∈ st, x.2.2 ∈ rs) (hl : rs.length ≤ 10) (hn : rs.Nodup) (hs : st.length ≤ 10) :
    wF m_rings [.ref h] S fun d S' => ∃ f, d = .ref f ∧ S'[f]? = some (.lst ((outR (eds st) rs st rs.length).map rgD')) ∧ Kp' [] S S' := by
  refine wF_def rfl ?_
  unfold b_rings
  refine wS_seqN (wS_expr ?_)
  refine wE_callF (ds := [.ref h]) (by simp) (wF_mono (need_ok a) ?_)
  rintro d S1 ⟨rfl, rfl⟩
  refine ⟨rfl, wS_ret ?_⟩
  rw [wE_call]
  simp only [wA_cons, wA_nil, wE_lr, wE_lenI, wE_var]
  refine ⟨_, rfl, _, rfl, a.ins, wF_mono (len_ok a) ?_⟩
  rintro d S2 ⟨rfl, rfl⟩
  refine ⟨_, rfl, by omega, _, rfl, by omega, wF_mono (rings_by_ok (a.keep (Kp'.app S2 _)) (last_at _ _) hz he hl hn hs) ?_⟩
  rintro d S3 ⟨f, rfl, h1, h2⟩
  exact ⟨f, rfl, h1, (Kp'.app S2 _).trans h2⟩
end W77

set_option autoImplicit false
set_option Elab.async false
set_option linter.all false
set_option maxRecDepth 100000
set_option maxHeartbeats 1000000
namespace W77
open PySem Td
def rgP (p : Rg) : PyData := .tuple [.tuple (p.1.map PyData.str), .tuple ((p.2.map fun n : Nat => (n : Int)).map PyData.int)]
theorem pyd_rg {S : Sto} {n : Nat} (p : Rg) : pyd S (n + 3) (rgD' p) = some (rgP p) := by
  have e1 : pyd S (n + 2) (.tup (p.1.map D.str)) = some (.tuple (p.1.map PyData.str)) := by
    unfold pyd
    simp only
    rw [pydL_map (f := pyd S (n + 1)) (a := D.str) (b := PyData.str) (fun x => by unfold pyd; rfl)]
    rfl
  have e2 : pyd S (n + 2) (.tup (p.2.map fun n => D.int (n : Nat))) = some (.tuple ((p.2.map fun n : Nat => (n : Int)).map PyData.int)) := by
    have : (p.2.map fun n => D.int (n : Nat)) = (p.2.map fun n : Nat => (n : Int)).map D.int := by
      rw [List.map_map]
      rfl
    rw [this]
    unfold pyd
    simp only
    rw [pydL_map (f := pyd S (n + 1)) (a := D.int) (b := PyData.int) (fun x => by unfold pyd; rfl)]
    rfl
  show (pydL (pyd S (n + 2)) [.tup (p.1.map D.str), .tup (p.2.map fun n => D.int (n : Nat))]).map PyData.tuple = _
  unfold pydL
  rw [e1]
  unfold pydL
  rw [e2]
  unfold pydL
  rfl
theorem pyd_rgs {S : Sto} {f n : Nat} {os : List Rg} (h : S[f]? = some (.lst (os.map rgD'))) : pyd S (n + 4) (.ref f) = some (.list (os.map rgP)) := by
  unfold pyd
  simp only [h]
  rw [pydL_map (f := pyd S (n + 3)) (a := rgD') (b := rgP) (fun x => pyd_rg x)]
  rfl
structure RgOk (p : Rg) : Prop where
  a : ∀ z ∈ p.1, z ∈ nms
  b : p.1.length ≤ 10
  c : ∀ n ∈ p.2, n < 10
  d : p.2.length ≤ 10
theorem nms_size : ∀ z ∈ nms, z.cps.size ≤ 6 := by decide +kernel
theorem int_small : ∀ n ∈ List.range 10, (PyData.int (n : Nat)).intsShort 13 = true ∧ (PyData.int (n : Nat)).showable = true ∧ (PyData.int (n : Nat)).weight ≤ 5 := by decide +kernel
theorem strs_fine : ∀ zs : List Str, (∀ z ∈ zs, z ∈ nms) → PyData.showableAll (zs.map PyData.str) = true ∧ PyData.intsShortAll 13 (zs.map PyData.str) = true ∧ PyData.weightAll (zs.map PyData.str) ≤ 7 * zs.length
  | [], _ => by simp [PyData.showableAll, PyData.intsShortAll, PyData.weightAll]
  | z :: zs, h => by
    obtain ⟨h1, h2, h3⟩ := strs_fine zs fun y hy => h y (List.mem_cons_of_mem _ hy)
    have h4 := nms_size z (h z List.mem_cons_self)
    rw [List.map_cons]
    simp only [PyData.showableAll, PyData.intsShortAll, PyData.weightAll, PyData.showable, PyData.intsShort, PyData.weight, h1, h2, Bool.and_self, true_and, List.length_cons]
    omega
theorem ints_fine : ∀ ns : List Nat, (∀ n ∈ ns, n < 10) → PyData.showableAll ((ns.map fun n : Nat => (n : Int)).map PyData.int) = true ∧ PyData.intsShortAll 13 ((ns.map fun n : Nat => (n : Int)).map PyData.int) = true ∧ PyData.weightAll ((ns.map fun n : Nat => (n : Int)).map PyData.int) ≤ 6 * ns.length
  | [], _ => by simp [PyData.showableAll, PyData.intsShortAll, PyData.weightAll]
  | n :: ns, h => by
    obtain ⟨h1, h2, h3⟩ := ints_fine ns fun y hy => h y (List.mem_cons_of_mem _ hy)
    obtain ⟨g1, g2, g3⟩ := int_small n (List.mem_range.mpr (h n List.mem_cons_self))
    rw [List.map_cons, List.map_cons]
    simp only [PyData.showableAll, PyData.intsShortAll, PyData.weightAll, g1, g2, h1, h2, Bool.and_self, true_and, List.length_cons]
    omega
theorem rg_fine (p : Rg) (h : RgOk p) : (rgP p).canLay0 = true ∧ (rgP p).showable = true ∧ (rgP p).intsShort 13 = true ∧ (rgP p).weight ≤ 200 ∧ (rgP p).depth = 2 := by
  obtain ⟨a1, a2, a3⟩ := strs_fine p.1 h.a
  obtain ⟨b1, b2, b3⟩ := ints_fine p.2 h.c
  have c1 := lay_strs p.1 h.a
  have c2 := lay_ints (p.2.map fun n : Nat => (n : Int))
  have d1 := dep_strs p.1
  have d2 := dep_ints (p.2.map fun n : Nat => (n : Int))
  have l1 := h.b
  have l2 := h.d
  unfold rgP
  simp only [PyData.canLay0, PyData.canLayAll0, PyData.showable, PyData.showableAll, PyData.intsShort, PyData.intsShortAll, PyData.weight, PyData.weightAll, PyData.depth, PyData.depthAll, a1, a2, b1, b2, c1, c2, d1, d2, Bool.and_self, true_and]
  exact ⟨by omega, by omega⟩
theorem rgs_fine : ∀ os : List Rg, (∀ p ∈ os, RgOk p) → PyData.canLayAll0 (os.map rgP) = true ∧ PyData.showableAll (os.map rgP) = true ∧ PyData.intsShortAll 13 (os.map rgP) = true ∧ PyData.weightAll (os.map rgP) ≤ 201 * os.length ∧ PyData.depthAll (os.map rgP) ≤ 2
  | [], _ => by simp [PyData.canLayAll0, PyData.showableAll, PyData.intsShortAll, PyData.weightAll, PyData.depthAll]
  | p :: os, h => by
    obtain ⟨h1, h2, h3, h4, h5⟩ := rgs_fine os fun y hy => h y (List.mem_cons_of_mem _ hy)
    obtain ⟨g1, g2, g3, g4, g5⟩ := rg_fine p (h p List.mem_cons_self)
    rw [List.map_cons]
    simp only [PyData.canLayAll0, PyData.showableAll, PyData.intsShortAll, PyData.weightAll, PyData.depthAll, g1, g2, g3, g5, h1, h2, h3, Bool.and_self, true_and, List.length_cons]
    omega
theorem is_ok {f d : Nat} {os : List Rg} {S : Sto} (h1 : S[f]? = some (.lst (os.map rgD'))) (h2 : S[d]? = some (.lst (os.map rgD'))) (ho : ∀ p ∈ os, RgOk p) (hl : os.length ≤ 10) : wF m__law_is [.ref f, .ref d] S fun x S' => x = .bl true ∧ S' = S := by
  obtain ⟨g1, g2, g3, g4, g5⟩ := rgs_fine os ho
  have e1 := pyd_rgs (n := 8) h1
  have e2 := pyd_rgs (n := 8) h2
  have cl : (PyData.list (os.map rgP)).canLay0 = true := by simp only [PyData.canLay0, g1]
  have dp : (PyData.list (os.map rgP)).depth ≤ 3 := by
    simp only [PyData.depth]
    omega
  have sh : SeqAt.shaped (.list (os.map rgP)) = true := by
    unfold SeqAt.shaped
    rw [cl, decide_eq_true (by omega)]
    rfl
  have ev : PyData.eqv (.list (os.map rgP)) (.list (os.map rgP)) = true := SeqAt.eqv_refl _ cl
  have shw : (PyData.list (os.map rgP)).showable = true := by simp only [PyData.showable, g2]
  have nd : (PyData.list (os.map rgP)).hasDict = false := PyData.hasDict_of_canLay _ cl
  have lay : (PyData.list (os.map rgP)).layable0 = true := by
    have w : (PyData.list (os.map rgP)).weight ≤ 2 ^ 20 := by
      simp only [PyData.weight]
      omega
    show ((PyData.list (os.map rgP)).canLay0 && decide ((PyData.list (os.map rgP)).depth ≤ 64) && decide ((PyData.list (os.map rgP)).weight ≤ 2 ^ 20)) = true
    rw [cl, decide_eq_true (show (PyData.list (os.map rgP)).depth ≤ 64 by omega), decide_eq_true w]
    rfl
  have len := PyProof.Rows.shown_le13 lay (by simp only [PyData.intsShort, g3])
  have hs : (PyData.list (os.map rgP)).shown.length ≤ sizeLine := by
    have : sizeLine = 16777216 := by decide
    omega
  have eqs : ∀ a b : Nat, S[a]? = some (.lst (os.map rgD')) → S[b]? = some (.lst (os.map rgD')) → eqD (.ref a) (.ref b) S = some (.bl true, S) := fun a b ha hb => by
    have z1 := pyd_rgs (n := 8) ha
    have z2 := pyd_rgs (n := 8) hb
    unfold eqD eqDeep
    simp only [z1, z2, sh, Bool.and_self, if_true, ev]
  have rp : ∀ a : Nat, S[a]? = some (.lst (os.map rgD')) → reprD [.ref a] S = some (.str (PyData.list (os.map rgP)).shown, S) := fun a ha => by
    have z1 := pyd_rgs (n := 8) ha
    unfold reprD
    simp only [hasRef, if_true, z1]
    rw [if_pos]
    rw [shw, nd, decide_eq_true hs, decide_eq_true (show (PyData.list (os.map rgP)).depth < 64 by omega)]
    rfl
  refine wF_def rfl ?_
  unfold b__law_is
  have eqq : ∀ x : Str, eqD (.str x) (.str x) S = some (.bl true, S) := fun x => by
    unfold eqD
    simp
  refine wS_ret (wE_andT ?_)
  simp only [wE_bin, wE_var]
  refine ⟨_, rfl, _, rfl, _, _, eqs f d h1 h2, rfl, wE_andT ?_⟩
  simp only [wE_bin, wE_var, wE_cb, wA_cons, wA_nil]
  exact ⟨_, rfl, _, rfl, _, _, eqs d f h2 h1, rfl, _, rfl, _, _, rp f h1, _, rfl, _, _, rp d h2, _, _, eqq _, rfl, rfl⟩
open Classical in
theorem outR_ok {es : Ed} {rs : List Str} {st : List St3} (hz : ∀ z ∈ rs, z ∈ nms) (hl : rs.length ≤ 10) (hs : st.length ≤ 10) : ∀ i, ∀ p ∈ outR es rs st i, RgOk p
  | 0 => fun p h => by simp [outR] at h
  | i + 1 => fun p h => by
    unfold outR at h
    rcases List.mem_append.mp h with h | h
    · exact outR_ok hz hl hs i p h
    · split at h
      · rename_i room _
        split at h
        · simp at h
        · split at h
          · simp at h
          · rw [List.mem_singleton.mp h]
            refine ⟨fun z hm => hz z ((List.mem_filter.mp hm).1), Nat.le_trans (List.length_filter_le _ _) hl, fun n hm => ?_, ?_⟩
            · have := List.mem_range.mp (List.mem_filter.mp hm).1
              omega
            · exact Nat.le_trans (inR_len st _ st.length) hs
      · simp at h
end W77

set_option autoImplicit false
set_option Elab.async false
set_option linter.all false
set_option maxRecDepth 100000
set_option maxHeartbeats 1000000
namespace W77
open PySem Td
/-- the same but for the slots of F -/
def Ag (F : List Nat) (ρ ρ' : En) : Prop := ρ'.length = ρ.length ∧ ∀ i, i ∉ F → ρ'[i]? = ρ[i]?
theorem Ag.refl {F : List Nat} (ρ : En) : Ag F ρ ρ := ⟨rfl, fun _ _ => rfl⟩
theorem Ag.trans {F : List Nat} {a b c : En} (h : Ag F a b) (k : Ag F b c) : Ag F a c := ⟨k.1.trans h.1, fun i n => (k.2 i n).trans (h.2 i n)⟩
theorem Ag.set {F : List Nat} {a : En} {i : Nat} {x : Option D} (h : i ∈ F) : Ag F a (a.set i x) := ⟨by simp, fun j n => List.getElem?_set_ne (fun z => n (by rw [← z]; exact h))⟩
theorem Ag.mono {F G : List Nat} {a b : En} (h : Ag F a b) (k : ∀ x ∈ F, x ∈ G) : Ag G a b := ⟨h.1, fun i n => h.2 i fun z => n (k i z)⟩
theorem Ag.get {F : List Nat} {a b : En} {i : Nat} {x : Option (Option D)} (h : Ag F a b) (e : a[i]? = x) (n : i ∉ F := by decide) : b[i]? = x := (h.2 i n).trans e
/-- the ways as they stand: each room's list -/
def WS (rs : List Str) (wy : Nat) (W : Str → List Str) (S : Sto) : Prop := ∃ kvs, S[wy]? = some (.dct kvs) ∧ kvs.length ≤ 20 ∧ ∀ x ∈ rs, ∃ f : Nat, findD kvs (.inr x) = some (.ref f) ∧ f ≠ wy ∧ S[f]? = some (.lst ((W x).map D.str))
theorem WS.congr {rs : List Str} {wy : Nat} {W W' : Str → List Str} {S : Sto} (h : WS rs wy W S) (e : ∀ x ∈ rs, W x = W' x) : WS rs wy W' S := by
  obtain ⟨kvs, h1, h2, h3⟩ := h
  refine ⟨kvs, h1, h2, fun x hx => ?_⟩
  obtain ⟨f, g1, g2, g3⟩ := h3 x hx
  exact ⟨f, g1, g2, by rw [← e x hx]; exact g3⟩
theorem put_len_in {ps : List (D × D)} {k : L2.Key} {kd v d : D} (h : findD ps k = some d) : (putD ps k kd v).length = ps.length := by
  unfold putD
  rw [any_find, h]
  simp
/-- room by room -/
theorem ways_rooms {rs : List Str} {wy r : Nat} {W : Str → List Str} {b o : Str} {ρ : En} {S : Sto} (h : WS rs wy W S) (hr : S[r]? = some (.lst (rs.map D.str))) (hn : rs.Nodup) (hl : rs.length ≤ 10) (hW : ∀ x ∈ rs, (W x).length ≤ 20) (hrw : r ≠ wy)
    (h4 : ρ[4]? = some (some (.ref r))) (h6 : ρ[6]? = some (some (.ref wy))) (h8 : ρ[8]? = some (some (.str b))) (h10 : ρ[10]? = some (some (.str o))) (hlen : ρ.length = 19) :
    wS (forS (anyI (varM 4)) (nameG 11) (ifS (andT (tstM (binM inD (varM 8) (binM idxD (varM 6) (varM 11)))) (tstM (binM notInD (varM 10) (binM idxD (varM 6) (varM 11))))) (subS setID (varM 6) (varM 11) (binM addD (binM idxD (varM 6) (varM 11)) (lstM (consA (varM 10) nilA)))) nextS)) ρ S fun f ρ' S' => f = .nx ∧ Ag [11] ρ ρ' ∧ Kp' [wy] S S' ∧ WS rs wy (fun x => stepW (W x) (b, o)) S' := by
  have hb := sizeBig
  refine wS_for (wI_any.mpr ?_)
  simp only [wE_var]
  refine ⟨_, h4, .cell r, by simp [srcO, hr], rs.length, fun i ρ' S' => Ag [11] ρ ρ' ∧ Kp' [wy] S S' ∧ WS rs wy (fun x => if x ∈ rs.take i then stepW (W x) (b, o) else W x) S', by simp [Src.len, hr], ⟨Ag.refl _, Kp'.refl _, h.congr fun x _ => by simp⟩, ?_, ?_, ?_⟩
  · rintro ρ' S' ⟨_, k, _⟩
    simp [Src.get, k.get hr (by simpa using hrw)]
  · rintro i ρ' S' hi ⟨ag, k, kvs, w1, w2, w3⟩
    dsimp only at w3
    have hmem := List.getElem_mem hi
    refine ⟨.str rs[i], by simp [Src.get, k.get hr (by simpa using hrw), hi], ?_⟩
    simp only [nameG, gW_some]
    have ag2 : Ag [11] ρ (ρ'.set 11 (some (.str rs[i]))) := ag.trans (Ag.set (by simp))
    have h11 : (ρ'.set 11 (some (.str rs[i])))[11]? = some (some (.str rs[i])) := List.getElem?_set_self (by rw [ag.1, hlen]; decide)
    have g6 := ag2.get h6
    have g8 := ag2.get h8
    have g10 := ag2.get h10
    generalize ρ'.set 11 (some (.str rs[i])) = ρ2 at ag2 h11 g6 g8 g10
    have nin : rs[i] ∉ rs.take i := fun z => by
      have e := List.take_append_drop i rs
      have hd : rs.drop i = rs[i] :: rs.drop (i + 1) := List.drop_eq_getElem_cons hi
      rw [← e, hd] at hn
      exact (List.nodup_append.mp hn).2.2 _ z _ List.mem_cons_self rfl
    obtain ⟨f, c1, c2, c3⟩ := w3 rs[i] hmem
    rw [if_neg nin] at c3
    -- nothing is put in
    have still : stepW (W rs[i]) (b, o) = W rs[i] → WS rs wy (fun x => if x ∈ rs.take (i + 1) then stepW (W x) (b, o) else W x) S' := fun e => by
      refine WS.congr ⟨kvs, w1, w2, w3⟩ fun x hx => ?_
      by_cases q : x = rs[i]
      · subst q
        rw [if_neg nin, if_pos ((take_succ_mem hi _).mpr (.inr rfl)), e]
      · by_cases q2 : x ∈ rs.take i
        · rw [if_pos q2, if_pos ((take_succ_mem hi _).mpr (.inl q2))]
        · rw [if_neg q2, if_neg (fun z => ((take_succ_mem hi _).mp z).elim q2 q)]
    refine wS_if ?_
    rw [wT_and]
    simp only [wT_tst, wE_bin, wE_var]
    refine ⟨_, g8, _, g6, _, h11, _, _, idx_of w1 c1, _, _, inD_lst c3, _, rfl, ?_⟩
    by_cases q1 : b ∈ W rs[i]
    · rw [decide_eq_true q1, if_pos rfl]
      refine ⟨_, g10, _, g6, _, h11, _, _, idx_of w1 c1, _, _, notInD_lst c3, _, rfl, ?_⟩
      by_cases q2 : o ∈ W rs[i]
      · rw [decide_eq_true q2, if_neg (by simp), wS_next]
        exact ⟨.inl rfl, ag2, k, still (if_neg fun z => z.2 q2)⟩
      · rw [decide_eq_false q2, if_pos (by simp)]
        refine wS_sub ?_
        simp only [wE_bin, wE_var, wE_lst, wA_cons, wA_nil]
        have hWl := hW _ hmem
        have c3' := (Kp'.app (E := []) S' [Cell.lst [.str o]]).get c3
        have ad : addD (.ref f) (.ref S'.length) (S' ++ [Cell.lst [.str o]]) = some (.ref (S' ++ [Cell.lst [.str o]]).length, S' ++ [Cell.lst [.str o]] ++ [Cell.lst ((W rs[i]).map D.str ++ [.str o])]) := by
          unfold addD
          simp only [c3', last_at]
          rw [if_pos (by rw [List.length_map]; simp; omega)]
        refine ⟨_, g6, _, h11, _, _, idx_of w1 c1, _, g10, by simp; omega, _, _, ad, _, g6, _, h11, ?_⟩
        have k2 : Kp' [] S' (S' ++ [Cell.lst [.str o]] ++ [Cell.lst ((W rs[i]).map D.str ++ [.str o])]) := (Kp'.app _ _).trans (Kp'.app _ _)
        have nw : (S' ++ [Cell.lst [.str o]] ++ [Cell.lst ((W rs[i]).map D.str ++ [.str o])])[(S' ++ [Cell.lst [.str o]]).length]? = some (.lst ((W rs[i] ++ [o]).map D.str)) := by
          rw [last_at]
          simp
        have lo2 : (S' ++ [Cell.lst [.str o]]).length ≠ wy := by
          have := lt_of_get w1
          simp
          omega
        generalize (S' ++ [Cell.lst [.str o]]).length = v at nw lo2
        generalize S' ++ [Cell.lst [.str o]] ++ [Cell.lst ((W rs[i]).map D.str ++ [.str o])] = S3 at k2 nw
        have w1' := k2.get w1
        have st : setID (.ref wy) (.str rs[i]) (.ref v) S3 = some (S3.set wy (.dct (putD kvs (.inr rs[i]) (.str rs[i]) (.ref v)))) := by
          unfold setID
          simp only [w1', keyD]
          rw [if_pos (by omega)]
        refine ⟨_, st, by simp, ag2, (k.trans k2.any).trans (Kp'.set (by simp)), ?_⟩
        refine ⟨_, List.getElem?_set_self (lt_of_get w1'), by rw [put_len_in c1]; exact w2, fun x hx => ?_⟩
        dsimp only
        rw [find_put (k := .inr rs[i]) rfl]
        by_cases q : x = rs[i]
        · subst q
          rw [if_pos rfl, if_pos ((take_succ_mem hi _).mpr (.inr rfl))]
          refine ⟨v, rfl, lo2, ?_⟩
          rw [List.getElem?_set_ne (by omega), nw]
          rw [show stepW (W rs[i]) (b, o) = W rs[i] ++ [o] from if_pos ⟨q1, q2⟩]
        · rw [if_neg (fun z => q (by injection z))]
          obtain ⟨f', d1, d2, d3⟩ := w3 x hx
          refine ⟨f', d1, d2, ?_⟩
          rw [List.getElem?_set_ne (by omega), k2.get d3]
          by_cases q2' : x ∈ rs.take i
          · rw [if_pos q2', if_pos ((take_succ_mem hi _).mpr (.inl q2'))]
          · rw [if_neg q2', if_neg (fun z => ((take_succ_mem hi _).mp z).elim q2' q)]
    · rw [decide_eq_false q1, if_neg (by simp), if_neg (by simp), wS_next]
      exact ⟨.inl rfl, ag2, k, still (if_neg fun z => q1 z.1)⟩
  · rintro ρ' S' ⟨ag, k, w⟩
    refine ⟨by simp, ag, k, w.congr fun x hx => ?_⟩
    rw [List.take_length, if_pos hx]
/-- lap by lap -/
theorem ways_laps {rs : List Str} {st : List St3} {wy r s : Nat} {ρ : En} {S : Sto} (h : WS rs wy (fun x => [x]) S) (hr : S[r]? = some (.lst (rs.map D.str))) (hs : S[s]? = some (.lst (st.map stepD))) (hn : rs.Nodup) (hl : rs.length ≤ 10) (he : ∀ x ∈ st, x.2.2 ∈ rs) (hrw : r ≠ wy) (hsw : s ≠ wy)
    (h4 : ρ[4]? = some (some (.ref r))) (h5 : ρ[5]? = some (some (.ref s))) (h6 : ρ[6]? = some (some (.ref wy))) (hlen : ρ.length = 19) :
    wS (forS (anyI (varM 4)) (nameG 7) (forS (anyI (varM 5)) (tupG 3 (consG (nameG 8) (consG (nameG 9) (consG (nameG 10) nilG)))) (forS (anyI (varM 4)) (nameG 11) (ifS (andT (tstM (binM inD (varM 8) (binM idxD (varM 6) (varM 11)))) (tstM (binM notInD (varM 10) (binM idxD (varM 6) (varM 11))))) (subS setID (varM 6) (varM 11) (binM addD (binM idxD (varM 6) (varM 11)) (lstM (consA (varM 10) nilA)))) nextS)))) ρ S fun f ρ' S' => f = .nx ∧ Ag [7, 8, 9, 10, 11] ρ ρ' ∧ Kp' [wy] S S' ∧ WaysOk (eds st) rs (fun f => f < S'.length) wy S' := by
  have he2 : ∀ e ∈ eds st, e.2 ∈ rs := fun e hm => by
    obtain ⟨x, hx, rfl⟩ := List.mem_map.mp hm
    exact he x hx
  have hel : (eds st).length = st.length := by unfold eds; rw [List.length_map]
  have ok : ∀ (k e : Nat) (x : Str), x ∈ rs → (((eds st).take e).foldl stepW (itW (eds st) k [x])).length ≤ 20 := fun k e x hx => by
    have w : WOk (eds st) rs x (((eds st).take e).foldl stepW (itW (eds st) k [x])) := fold_keep (P := WOk (eds st) rs x) (es0 := eds st) (fun W f hm hW h1 h2 => hW.grow he2 f hm h1 h2) _ _ (fun f hf => List.mem_of_mem_take hf) (it_ok he2 hx k)
    have := w.len
    omega
  refine wS_for (wI_any.mpr ?_)
  simp only [wE_var]
  refine ⟨_, h4, .cell r, by simp [srcO, hr], rs.length, fun i ρ' S' => Ag [7, 8, 9, 10, 11] ρ ρ' ∧ Kp' [wy] S S' ∧ WS rs wy (fun x => itW (eds st) i [x]) S', by simp [Src.len, hr], ⟨Ag.refl _, Kp'.refl _, h⟩, ?_, ?_, ?_⟩
  · rintro ρ' S' ⟨_, k, _⟩
    simp [Src.get, k.get hr (by simpa using hrw)]
  · rintro i ρ' S' hi ⟨ag, k, w⟩
    refine ⟨.str rs[i], by simp [Src.get, k.get hr (by simpa using hrw), hi], ?_⟩
    simp only [nameG, gW_some]
    have ag2 : Ag [7, 8, 9, 10, 11] ρ (ρ'.set 7 (some (.str rs[i]))) := ag.trans (Ag.set (by simp))
    generalize ρ'.set 7 (some (.str rs[i])) = ρ2 at ag2
    have s2 := k.get hs (by simpa using hsw)
    refine wS_for (wI_any.mpr ?_)
    simp only [wE_var]
    refine ⟨_, ag2.get h5, .cell s, by simp [srcO, s2], st.length, fun e ρ' S' => Ag [7, 8, 9, 10, 11] ρ ρ' ∧ Kp' [wy] S S' ∧ WS rs wy (fun x => ((eds st).take e).foldl stepW (itW (eds st) i [x])) S', by simp [Src.len, s2], ⟨ag2, k, w⟩, ?_, ?_, ?_⟩
    · rintro ρ' S' ⟨_, k, _⟩
      simp [Src.get, k.get hs (by simpa using hsw)]
    · rintro e ρ' S' hei ⟨ag, k, w⟩
      refine ⟨stepD st[e], by simp [Src.get, k.get hs (by simpa using hsw), hei], ?_⟩
      simp only [stepD, tupG, consG, nameG, nilG, List.length_cons, List.length_nil, if_true, gW_some]
      have ag3 : Ag [7, 8, 9, 10, 11] ρ (((ρ'.set 8 (some (.str st[e].1))).set 9 (some (.tup (st[e].2.1.map D.int)))).set 10 (some (.str st[e].2.2))) := ((ag.trans (Ag.set (by simp))).trans (Ag.set (by simp))).trans (Ag.set (by simp))
      have g10 : (((ρ'.set 8 (some (.str st[e].1))).set 9 (some (.tup (st[e].2.1.map D.int)))).set 10 (some (.str st[e].2.2)))[10]? = some (some (.str st[e].2.2)) := List.getElem?_set_self (by simp [ag.1, hlen])
      have g8 : (((ρ'.set 8 (some (.str st[e].1))).set 9 (some (.tup (st[e].2.1.map D.int)))).set 10 (some (.str st[e].2.2)))[8]? = some (some (.str st[e].1)) := by
        rw [List.getElem?_set_ne (by decide), List.getElem?_set_ne (by decide)]
        exact List.getElem?_set_self (by rw [ag.1, hlen]; decide)
      generalize ((ρ'.set 8 (some (.str st[e].1))).set 9 (some (.tup (st[e].2.1.map D.int)))).set 10 (some (.str st[e].2.2)) = ρ3 at ag3 g10 g8
      have hq := ways_rooms (b := st[e].1) (o := st[e].2.2) (ρ := ρ3) w (k.get hr (by simpa using hrw)) hn hl (fun x hx => ok i e x hx) hrw (ag3.get h4) (ag3.get h6) g8 g10 (ag3.1.trans hlen)
      refine wS_mono hq ?_
      rintro f ρ4 S4 ⟨rfl, ag4, k4, w4⟩
      refine ⟨by simp, ag3.trans (ag4.mono (by simp)), k.trans k4, w4.congr fun x _ => ?_⟩
      have et : (eds st).take (e + 1) = (eds st).take e ++ [(st[e].1, st[e].2.2)] := by
        rw [List.take_succ_eq_append_getElem (by rw [hel]; exact hei)]
        congr 2
        unfold eds
        simp
      rw [et, List.foldl_append]
      rfl
    · rintro ρ' S' ⟨ag, k, w⟩
      refine ⟨by simp, ag, k, w.congr fun x _ => ?_⟩
      rw [← hel, List.take_length]
      rfl
  · rintro ρ' S' ⟨ag, k, kvs, w1, w2, w3⟩
    refine ⟨by simp, ag, k, kvs, w1, lt_of_get w1, fun x hx => ?_⟩
    obtain ⟨f, d1, d2, d3⟩ := w3 x hx
    exact ⟨f, _, d1, lt_of_get d3, d3, fun y => ways_iff he2 hx y⟩
end W77

set_option autoImplicit false
set_option Elab.async false
set_option linter.all false
set_option maxRecDepth 100000
set_option maxHeartbeats 1000000
namespace W77
open PySem Td
theorem merge_snoc : ∀ (ps : List (D × D)) (q : D × D) (kvs : List (D × D)), mergeD kvs (ps ++ [q]) = (mergeD kvs ps).bind fun o => (keyD q.1).map fun k => putD o k q.1 q.2
  | [], q, kvs => by
    show mergeD kvs [q] = _
    unfold mergeD
    cases keyD q.1 with
    | none => rfl
    | some k => rfl
  | p :: ps, q, kvs => by
    show mergeD kvs (p :: (ps ++ [q])) = _
    unfold mergeD
    cases keyD p.1 with
    | none => rfl
    | some k => exact merge_snoc ps q _
theorem prsO_map : ∀ ps : List (D × D), prsO (ps.map fun p => D.tup [p.1, p.2]) = some ps
  | [] => rfl
  | p :: ps => by
    rw [List.map_cons]
    unfold prsO
    rw [prsO_map ps]
    rfl
theorem dict_ok {rs : List Str} {r : Nat} {ρ : En} {S : Sto} {Q : D → Sto → Prop} (hr : S[r]? = some (.lst (rs.map D.str))) (hl : rs.length ≤ 10) (h4 : ρ[4]? = some (some (.ref r))) (hlen : ρ.length = 19)
    (k : ∀ (wy : Nat) (S' : Sto), Kp' [] S S' → S.length ≤ wy → WS rs wy (fun x => [x]) S' → Q (.ref wy) S') :
    wE (cbM dictD (consA (lcM (anyI (varM 4)) (([("room", 11)] : List (Str × Nat)).map (·.2)) (nameG 11) yesT (tupM (consA (varM 11) (consA (lstM (consA (varM 11) nilA)) nilA)))) nilA)) ρ S Q := by
  have hb := sizeBig
  rw [wE_cb, wA_cons]
  refine wE_lc (wI_any.mpr ?_)
  simp only [wE_var]
  refine ⟨_, h4, .cell r, by simp [srcO, hr], rs.length, fun i S2 acc => Kp' [] S S2 ∧ ∃ (ps kvs : List (D × D)), acc = ps.map (fun p => D.tup [p.1, p.2]) ∧ ps.length = i ∧ mergeD [] ps = some kvs ∧ kvs.length ≤ i ∧ ∀ x ∈ rs.take i, ∃ f : Nat, findD kvs (.inr x) = some (.ref f) ∧ S2[f]? = some (.lst (([x] : List Str).map D.str)), by simp [Src.len, hr], ⟨Kp'.refl _, [], [], rfl, rfl, rfl, by simp, by simp⟩, ?_, ?_, ?_⟩
  · rintro S2 acc ⟨k2, _⟩
    simp [Src.get, k2.get hr]
  · rintro i S2 acc hi ⟨k2, ps, kvs, rfl, hp, hm, hkl, hf⟩
    refine ⟨.str rs[i], by simp [Src.get, k2.get hr, hi], ?_⟩
    have e11 : ((wipeD ρ [11]).set 11 (some (D.str rs[i])))[11]? = some (some (.str rs[i])) := List.getElem?_set_self (by simp [wipeD, hlen])
    simp only [nameG, gW_some, wT_yes, if_true, wE_tup, wA_cons, wA_nil, wE_var, wE_lst]
    refine ⟨_, e11, _, e11, by simp; omega, by simp; omega, by rw [List.length_map, hp]; omega, k2.trans (Kp'.app _ _), ps ++ [(.str rs[i], .ref S2.length)], putD kvs (.inr rs[i]) (.str rs[i]) (.ref S2.length), ?_, by simp [hp], ?_, ?_, fun x hx => ?_⟩
    · rw [List.map_append]
      rfl
    · rw [merge_snoc, hm]
      rfl
    · have := put_len (ps := kvs) (k := .inr rs[i]) (kd := .str rs[i]) (v := .ref S2.length)
      omega
    · rw [find_put (k := .inr rs[i]) rfl]
      by_cases q : x = rs[i]
      · subst q
        rw [if_pos rfl]
        exact ⟨_, rfl, last_at _ _⟩
      · rw [if_neg (fun z => q (by injection z))]
        obtain ⟨f, f1, f2⟩ := hf x (((take_succ_mem hi x).mp hx).resolve_right q)
        exact ⟨f, f1, (Kp'.app (E := []) S2 _).get f2⟩
  rintro S2 ds ⟨k2, ps, kvs, rfl, hp, hm, hkl, hf⟩
  rw [List.take_length] at hf
  simp only [wA_nil]
  have e : dictD [.ref S2.length] (S2 ++ [Cell.lst (ps.map fun p => D.tup [p.1, p.2])]) = some (.ref (S2 ++ [Cell.lst (ps.map fun p => D.tup [p.1, p.2])]).length, S2 ++ [Cell.lst (ps.map fun p => D.tup [p.1, p.2])] ++ [.dct kvs]) := by
    unfold dictD lO
    simp only [last_at, Option.bind_some, prsO_map, hm]
  refine ⟨_, _, e, k _ _ (k2.trans ((Kp'.app _ _).trans (Kp'.app _ _))) (by have := k2.1; simp; omega) ⟨kvs, last_at _ _, by omega, fun x hx => ?_⟩⟩
  obtain ⟨f, f1, f2⟩ := hf x hx
  have lt := lt_of_get f2
  refine ⟨f, f1, by simp; omega, (Kp'.app (E := []) _ _).get ((Kp'.app (E := []) S2 _).get f2)⟩
/-- the steps within some rooms -/
theorem insideC_ok {st : List St3} {sm : List Str} {s : Nat} {ρ : En} {S : Sto} {Q : D → Sto → Prop} (hs : S[s]? = some (.lst (st.map stepD))) (hl : st.length ≤ 10) (h5 : ρ[5]? = some (some (.ref s))) (h14 : ρ[14]? = some (some (.tup (sm.map D.str)))) (hlen : ρ.length = 19)
    (k : ∀ S', Kp' [] S S' → Q (.tup ((inR st sm).map fun n => .int (n : Nat))) S') :
    wE (cbM tupleD (consA (lcM (enuI (consA (varM 5) nilA)) (([("at", 17), ("step", 18)] : List (Str × Nat)).map (·.2)) (tupG 2 (consG (nameG 17) (consG (nameG 18) nilG))) (andT (tstM (binM inD (binM idxD (varM 18) (cM (.int 0))) (varM 14))) (tstM (binM inD (binM idxD (varM 18) (cM (.int 2))) (varM 14)))) (varM 17)) nilA)) ρ S Q := by
  have hb := sizeBig
  rw [wE_cb, wA_cons]
  refine wE_lc (wI_enu ?_)
  simp only [wA_cons, wA_nil, wE_var]
  refine ⟨_, h5, s, st.map stepD, rfl, hs, st.length, fun n S2 acc => S2 = S ∧ n ≤ st.length ∧ acc = ((List.range n).filter (inQ st sm)).map fun n => D.int (n : Nat), by simp [Src.len, hs], ⟨rfl, by omega, rfl⟩, ?_, ?_, ?_⟩
  · rintro S2 acc ⟨rfl, _⟩
    simp [Src.get, hs, pair?]
  · rintro n S2 acc hn ⟨rfl, _, rfl⟩
    refine ⟨.tup [.int (n : Nat), stepD st[n]], by simp [Src.get, hs, pair?, hn], ?_⟩
    simp only [tupG, consG, nameG, nilG, List.length_cons, List.length_nil, if_true, gW_some]
    have wl : (wipeD ρ ([17, 18] : List Nat)).length = 19 := by simp [wipeD, hlen]
    have e17 : (((wipeD ρ ([17, 18] : List Nat)).set 17 (some (D.int (n : Nat)))).set 18 (some (stepD st[n])))[17]? = some (some (.int (n : Nat))) := by
      rw [List.getElem?_set_ne (by decide)]
      exact List.getElem?_set_self (by rw [wl]; decide)
    have e18 : (((wipeD ρ ([17, 18] : List Nat)).set 17 (some (D.int (n : Nat)))).set 18 (some (stepD st[n])))[18]? = some (some (stepD st[n])) := List.getElem?_set_self (by simp [wl])
    have e14 : (((wipeD ρ ([17, 18] : List Nat)).set 17 (some (D.int (n : Nat)))).set 18 (some (stepD st[n])))[14]? = some (some (.tup (sm.map D.str))) := by
      rw [List.getElem?_set_ne (by decide), List.getElem?_set_ne (by decide)]
      show ((ρ.set 18 none).set 17 none)[14]? = _
      rw [List.getElem?_set_ne (by decide), List.getElem?_set_ne (by decide)]
      exact h14
    have i0 : idxD (stepD st[n]) (.int 0) S2 = some (.str st[n].1, S2) := rfl
    have i2 : idxD (stepD st[n]) (.int 2) S2 = some (.str st[n].2.2, S2) := rfl
    refine wT_and.mpr ?_
    simp only [wT_tst, wE_bin, wE_var, wE_c]
    refine ⟨_, e18, _, _, i0, _, e14, _, _, inD_tup, _, rfl, ?_⟩
    have hfl := inR_len st sm n
    by_cases q1 : st[n].1 ∈ sm
    · rw [decide_eq_true q1, if_pos rfl]
      refine ⟨_, e18, _, _, i2, _, e14, _, _, inD_tup, _, rfl, ?_⟩
      by_cases q2 : st[n].2.2 ∈ sm
      · rw [decide_eq_true q2, if_pos rfl]
        refine ⟨_, e17, by rw [List.length_map]; omega, rfl, hn, ?_⟩
        rw [inR_succ hn, if_pos ⟨q1, q2⟩, List.map_append]
        rfl
      · rw [decide_eq_false q2, if_neg (by simp)]
        refine ⟨rfl, hn, ?_⟩
        rw [inR_succ hn, if_neg (fun z => q2 z.2), List.append_nil]
    · rw [decide_eq_false q1, if_neg (by simp), if_neg (by simp)]
      refine ⟨rfl, hn, ?_⟩
      rw [inR_succ hn, if_neg (fun z => q1 z.1), List.append_nil]
  · rintro S2 ds ⟨rfl, _, rfl⟩
    exact ⟨_, _, tupleD_lst (last_at S2 _), k _ (Kp'.app _ _)⟩
/-- what is due -/
theorem due_ok {rs : List Str} {st : List St3} {P : Nat → Prop} {wy r s du dn : Nat} {ρ : En} {S : Sto} (h : WaysOk (eds st) rs P wy S) (hP : ¬ P du) (hr : S[r]? = some (.lst (rs.map D.str))) (hs : S[s]? = some (.lst (st.map stepD))) (hd : S[du]? = some (.lst [])) (hdn : S[dn]? = some (.lst [])) (hl : rs.length ≤ 10) (hsl : st.length ≤ 10)
    (n1 : r ≠ du) (n2 : s ≠ du) (n3 : dn ≠ du) (h4 : ρ[4]? = some (some (.ref r))) (h5 : ρ[5]? = some (some (.ref s))) (h6 : ρ[6]? = some (some (.ref wy))) (h12 : ρ[12]? = some (some (.ref du))) (h13 : ρ[13]? = some (some (.ref dn))) (hlen : ρ.length = 19) :
    wS (forS (anyI (varM 4)) (nameG 11) (seqS (setS 14 (cbM tupleD (consA (lcM (anyI (varM 4)) (([("other", 10)] : List (Str × Nat)).map (·.2)) (nameG 10) (andT (tstM (binM inD (varM 10) (binM idxD (varM 6) (varM 11)))) (tstM (binM inD (varM 11) (binM idxD (varM 6) (varM 10))))) (varM 10)) nilA))) (seqS (setS 15 (cbM tupleD (consA (lcM (enuI (consA (varM 5) nilA)) (([("at", 17), ("step", 18)] : List (Str × Nat)).map (·.2)) (tupG 2 (consG (nameG 17) (consG (nameG 18) nilG))) (andT (tstM (binM inD (binM idxD (varM 18) (cM (.int 0))) (varM 14))) (tstM (binM inD (binM idxD (varM 18) (cM (.int 2))) (varM 14)))) (varM 17)) nilA))) (seqS (ifS (andT (tstM (binM notInD (varM 11) (varM 13))) (tstM (binM neD (varM 15) (tupM nilA)))) (exprS (mtM lstTy appD (varM 12) (consA (tupM (consA (varM 14) (consA (varM 15) nilA))) nilA))) nextS) (setS 13 (binM addD (varM 13) (cbM listD (consA (varM 14) nilA)))))))) ρ S
      fun f ρ' S' => f = .nx ∧ Ag [11, 13, 14, 15] ρ ρ' ∧ Kp' [du] S S' ∧ S'[du]? = some (.lst ((outR (eds st) rs st rs.length).map rgD')) := by
  have hb := sizeBig
  refine wS_for (wI_any.mpr ?_)
  simp only [wE_var]
  refine ⟨_, h4, .cell r, by simp [srcO, hr], rs.length, fun i ρ' S' => Ag [11, 13, 14, 15] ρ ρ' ∧ Kp' [du] S S' ∧ S'[du]? = some (.lst ((outR (eds st) rs st i).map rgD')) ∧ ∃ (dn' : Nat) (dl : List Str), ρ'[13]? = some (some (.ref dn')) ∧ S'[dn']? = some (.lst (dl.map D.str)) ∧ dn' ≠ du ∧ DnOk (eds st) rs i dl ∧ dl.length ≤ 10 * i, by simp [Src.len, hr], ⟨Ag.refl _, Kp'.refl _, hd, dn, [], h13, hdn, n3, fun x _ => by simp, by simp⟩, ?_, ?_, ?_⟩
  · rintro ρ' S' ⟨_, k, _⟩
    simp [Src.get, k.get hr (by simpa using n1)]
  · rintro i ρ' S' hi ⟨ag, k, o1, dn', dl, g13, o2, n3', o3, o4⟩
    have hmem := List.getElem_mem hi
    have hr' := k.get hr (by simpa using n1)
    have hs' := k.get hs (by simpa using n2)
    have w' := h.keep k (by simpa using hP)
    refine ⟨.str rs[i], by simp [Src.get, hr', hi], ?_⟩
    simp only [nameG, gW_some]
    have ag2 : Ag [11, 13, 14, 15] ρ (ρ'.set 11 (some (.str rs[i]))) := ag.trans (Ag.set (by simp))
    have g11 : (ρ'.set 11 (some (.str rs[i])))[11]? = some (some (.str rs[i])) := List.getElem?_set_self (by rw [ag.1, hlen]; decide)
    have g13' : (ρ'.set 11 (some (.str rs[i])))[13]? = some (some (.ref dn')) := by
      rw [List.getElem?_set_ne (by decide)]
      exact g13
    generalize ρ'.set 11 (some (.str rs[i])) = ρ2 at ag2 g11 g13'
    have l2 : ρ2.length = 19 := ag2.1.trans hlen
    refine wS_seqN (wS_set ?_)
    refine someC_ok w' hr' hl hmem (by rw [wI_any, wE_var]; exact ⟨_, ag2.get h4, .cell r, by simp [srcO, hr'], rfl, rfl⟩) (ag2.get h6) g11 (by decide) (by decide) (by rw [l2]; decide) fun S5 k5 => ?_
    have hsm10 : (someR (eds st) rs rs[i]).length ≤ 10 := by
      unfold someR
      exact Nat.le_trans (List.length_filter_le _ _) hl
    generalize hsm : someR (eds st) rs rs[i] = sm at hsm10
    refine ⟨by simp, ?_⟩
    have ag3 : Ag [11, 13, 14, 15] ρ (ρ2.set 14 (some (.tup (sm.map D.str)))) := ag2.trans (Ag.set (by simp))
    have e14 : (ρ2.set 14 (some (.tup (sm.map D.str))))[14]? = some (some (.tup (sm.map D.str))) := List.getElem?_set_self (by rw [l2]; decide)
    have e11 : (ρ2.set 14 (some (.tup (sm.map D.str))))[11]? = some (some (.str rs[i])) := by
      rw [List.getElem?_set_ne (by decide)]; exact g11
    have e13 : (ρ2.set 14 (some (.tup (sm.map D.str))))[13]? = some (some (.ref dn')) := by
      rw [List.getElem?_set_ne (by decide)]; exact g13'
    generalize ρ2.set 14 (some (.tup (sm.map D.str))) = ρ3 at ag3 e14 e11 e13
    have l3 : ρ3.length = 19 := ag3.1.trans hlen
    refine wS_seqN (wS_set (insideC_ok (k5.get hs') hsl (ag3.get h5) e14 l3 fun S6 k6 => ?_))
    refine ⟨by simp, ?_⟩
    have ag4 : Ag [11, 13, 14, 15] ρ (ρ3.set 15 (some (.tup ((inR st sm).map fun n => .int (n : Nat))))) := ag3.trans (Ag.set (by simp))
    have f15 : (ρ3.set 15 (some (.tup ((inR st sm).map fun n => .int (n : Nat)))))[15]? = some (some (.tup ((inR st sm).map fun n => .int (n : Nat)))) := List.getElem?_set_self (by rw [l3]; decide)
    have f14 : (ρ3.set 15 (some (.tup ((inR st sm).map fun n => .int (n : Nat)))))[14]? = some (some (.tup (sm.map D.str))) := by
      rw [List.getElem?_set_ne (by decide)]; exact e14
    have f13 : (ρ3.set 15 (some (.tup ((inR st sm).map fun n => .int (n : Nat)))))[13]? = some (some (.ref dn')) := by
      rw [List.getElem?_set_ne (by decide)]; exact e13
    have f11 : (ρ3.set 15 (some (.tup ((inR st sm).map fun n => .int (n : Nat)))))[11]? = some (some (.str rs[i])) := by
      rw [List.getElem?_set_ne (by decide)]; exact e11
    generalize ρ3.set 15 (some (.tup ((inR st sm).map fun n => .int (n : Nat)))) = ρ4 at ag4 f15 f14 f13 f11
    have l4 : ρ4.length = 19 := ag4.1.trans hlen
    have k56 := k5.trans k6
    have o1' := k56.get o1
    have o2' := k56.get o2
    have k7 := k.trans k56.any
    -- the last: done = done + list(some)
    have last : ∀ S7, Kp' [du] S S7 → S7[du]? = some (.lst ((outR (eds st) rs st (i + 1)).map rgD')) → S7[dn']? = some (.lst (dl.map D.str)) → wS (setS 13 (binM addD (varM 13) (cbM listD (consA (varM 14) nilA)))) ρ4 S7 fun f ρ2 S2 => (f = .nx ∨ f = .ct) ∧ Ag [11, 13, 14, 15] ρ ρ2 ∧ Kp' [du] S S2 ∧ S2[du]? = some (.lst ((outR (eds st) rs st (i + 1)).map rgD')) ∧ ∃ (dn' : Nat) (dl : List Str), ρ2[13]? = some (some (.ref dn')) ∧ S2[dn']? = some (.lst (dl.map D.str)) ∧ dn' ≠ du ∧ DnOk (eds st) rs (i + 1) dl ∧ dl.length ≤ 10 * (i + 1) := by
      intro S7 k7 p1 p2
      refine wS_set ?_
      simp only [wE_bin, wE_cb, wA_cons, wA_nil, wE_var]
      have e1 : listD [.tup (sm.map D.str)] S7 = some (.ref S7.length, S7 ++ [.lst (sm.map D.str)]) := rfl
      have p2' := (Kp'.app (E := []) S7 [Cell.lst (sm.map D.str)]).get p2
      have e2 : addD (.ref dn') (.ref S7.length) (S7 ++ [.lst (sm.map D.str)]) = some (.ref (S7 ++ [Cell.lst (sm.map D.str)]).length, S7 ++ [.lst (sm.map D.str)] ++ [.lst (dl.map D.str ++ sm.map D.str)]) := by
        unfold addD
        simp only [p2', last_at]
        rw [if_pos (by rw [List.length_map, List.length_map]; omega)]
      refine ⟨_, f13, _, f14, _, _, e1, _, _, e2, by simp, ag4.trans (Ag.set (by simp)), (k7.trans (Kp'.app _ _)).trans (Kp'.app _ _), (Kp'.app (E := []) _ _).get ((Kp'.app (E := []) _ _).get p1), (S7 ++ [Cell.lst (sm.map D.str)]).length, dl ++ sm, List.getElem?_set_self (by rw [l4]; decide), by rw [last_at, List.map_append], ?_, ?_, ?_⟩
      · have := lt_of_get p1
        simp
        omega
      · rw [← hsm]
        exact o3.add hi
      · rw [List.length_append]
        omega
    refine wS_seqN (wS_if ?_)
    rw [wT_and]
    simp only [wT_tst, wE_bin, wE_var, wE_tup, wA_nil]
    refine ⟨_, f11, _, f13, _, _, notInD_lst o2', _, rfl, ?_⟩
    by_cases hdone : rs[i] ∈ dl
    · rw [decide_eq_true hdone, if_neg (by simp), if_neg (by simp), wS_next]
      exact ⟨rfl, last S6 k7 (by rw [outR_in o3 hi hdone]; exact o1') o2'⟩
    rw [decide_eq_false hdone, if_pos (by simp)]
    have fin : outR (eds st) rs st (i + 1) = outR (eds st) rs st i ++ (if inR st sm = [] then [] else [(sm, inR st sm)]) := by
      rw [outR_no o3 hi hdone, hsm]
    refine ⟨_, f15, by simp, _, _, neD_tup, _, rfl, ?_⟩
    by_cases hi0 : inR st sm = []
    · have : (!(inR st sm).isEmpty) = false := by rw [hi0]; rfl
      rw [this, if_neg (by simp), wS_next]
      exact ⟨rfl, last S6 k7 (by rw [fin, if_pos hi0, List.append_nil]; exact o1') o2'⟩
    · have : (!(inR st sm).isEmpty) = true := by
        cases hx : inR st sm with
        | nil => exact absurd hx hi0
        | cons _ _ => rfl
      rw [this, if_pos rfl]
      refine wS_expr ?_
      rw [wE_mt]
      simp only [wE_var, wA_cons, wA_nil, wE_tup]
      have hol := outR_len (es := eds st) (rs := rs) (st := st) i
      refine ⟨_, ag4.get h12, by simp [lstTy, o1'], _, f14, _, f15, by simp; omega, _, _, appD_lst o1' (by rw [List.length_map]; omega), by simp, ?_⟩
      refine last _ (k7.trans (Kp'.set (by simp))) ?_ ?_
      · rw [List.getElem?_set_self (lt_of_get o1'), fin, if_neg hi0, List.map_append]
        rfl
      · rw [List.getElem?_set_ne (fun z => n3' z.symm)]
        exact o2'
  · rintro ρ' S' ⟨ag, k, o1, _⟩
    exact ⟨by simp, ag, k, o1⟩
end W77

set_option autoImplicit false
set_option Elab.async false
set_option linter.all false
set_option maxRecDepth 100000
set_option maxHeartbeats 1000000
namespace W77
open PySem Td
/-- a house, made -/
theorem make_ok {ws rs : List Str} {st : List St3} {w r s : Nat} {lm : MA} {ρ : En} {S : Sto} {Q : D → Sto → Prop} (H : HIn ws rs st) (hw : S[w]? = some (.lst (ws.map D.str))) (hr : S[r]? = some (.lst (rs.map D.str))) (hs : S[s]? = some (.lst (st.map stepD)))
    (hlm : wA lm ρ S fun ds S1 => ds = [.ref w, .ref r, .ref s] ∧ S1 = S) (k : ∀ (h j k : Nat) (S' : Sto), Kp' [] S S' → HAt h j k rs st S' → Q (.ref h) S') : wE (makeM "House" m_House___init__ lm) ρ S Q := by
  rw [wE_make]
  obtain ⟨ds, S1, e, rfl, rfl⟩ := hlm
  refine ⟨_, S1, e, ?_⟩
  have k0 : Kp' [] S1 (S1 ++ [Cell.ins "House" []]) := Kp'.app _ _
  refine wF_mono (init_ok H (last_at S1 _) (k0.get hw) (k0.get hr) (k0.get hs)) ?_
  rintro d S2 ⟨rfl, k1, i, j, kk, h1, h2, h3, _, _⟩
  exact ⟨rfl, k _ j kk S2 ((k0.any.trans k1).drop (by simp)) ⟨⟨i, h1⟩, h2, h3⟩⟩
theorem DS.lts {l g c t : Nat} {S : Sto} (h : DS l g c t S) : l < S.length ∧ g < S.length ∧ c < S.length := by
  obtain ⟨_, _, _, _, q1, q2, q3, _⟩ := h
  exact ⟨lt_of_get q1, lt_of_get q2, lt_of_get q3⟩
theorem outR_len10 {es : Ed} {rs : List Str} {st : List St3} (h : rs.length ≤ 10) : (outR es rs st rs.length).length ≤ 10 := Nat.le_trans (outR_len _) h
theorem turn_ok {l g c t : Nat} {ρ : En} {S : Sto} (h : DS l g c t S) (ht : t + 1000 < 2 ^ 30) (h1 : ρ[1]? = some (some (.ref l))) (hlen : ρ.length = 19) :
    wS (seqS (asgS (callM m__law_house (consA (varM 1) (consA (cM (.int 2)) (consA (cM (.int 4)) (consA (cM (.int 8)) (consA (cM (.int 2)) nilA)))))) (tupG 3 (consG (nameG 3) (consG (nameG 4) (consG (nameG 5) nilG))))) (seqS (setS 6 (cbM dictD (consA (lcM (anyI (varM 4)) (([("room", 11)] : List (Str × Nat)).map (·.2)) (nameG 11) yesT (tupM (consA (varM 11) (consA (lstM (consA (varM 11) nilA)) nilA)))) nilA))) (seqS (forS (anyI (varM 4)) (nameG 7) (forS (anyI (varM 5)) (tupG 3 (consG (nameG 8) (consG (nameG 9) (consG (nameG 10) nilG)))) (forS (anyI (varM 4)) (nameG 11) (ifS (andT (tstM (binM inD (varM 8) (binM idxD (varM 6) (varM 11)))) (tstM (binM notInD (varM 10) (binM idxD (varM 6) (varM 11))))) (subS setID (varM 6) (varM 11) (binM addD (binM idxD (varM 6) (varM 11)) (lstM (consA (varM 10) nilA)))) nextS)))) (seqS (parS 12 13 (consA (lstM nilA) (consA (lstM nilA) nilA))) (seqS (forS (anyI (varM 4)) (nameG 11) (seqS (setS 14 (cbM tupleD (consA (lcM (anyI (varM 4)) (([("other", 10)] : List (Str × Nat)).map (·.2)) (nameG 10) (andT (tstM (binM inD (varM 10) (binM idxD (varM 6) (varM 11)))) (tstM (binM inD (varM 11) (binM idxD (varM 6) (varM 10))))) (varM 10)) nilA))) (seqS (setS 15 (cbM tupleD (consA (lcM (enuI (consA (varM 5) nilA)) (([("at", 17), ("step", 18)] : List (Str × Nat)).map (·.2)) (tupG 2 (consG (nameG 17) (consG (nameG 18) nilG))) (andT (tstM (binM inD (binM idxD (varM 18) (cM (.int 0))) (varM 14))) (tstM (binM inD (binM idxD (varM 18) (cM (.int 2))) (varM 14)))) (varM 17)) nilA))) (seqS (ifS (andT (tstM (binM notInD (varM 11) (varM 13))) (tstM (binM neD (varM 15) (tupM nilA)))) (exprS (mtM lstTy appD (varM 12) (consA (tupM (consA (varM 14) (consA (varM 15) nilA))) nilA))) nextS) (setS 13 (binM addD (varM 13) (cbM listD (consA (varM 14) nilA)))))))) (seqS (setS 16 (makeM "House" m_House___init__ (consA (varM 3) (consA (varM 4) (consA (varM 5) nilA))))) (ifS (orT (notT (tstM (callM m__law_is (consA (callM m_rings (consA (varM 16) nilA)) (consA (varM 12) nilA))))) (notT (tstM (callM m__law_is (consA (callM m_rings (consA (varM 16) nilA)) (consA (varM 12) nilA)))))) (retS (cM (.bl false))) nextS))))))) ρ S
      fun f ρ' S' => f = .nx ∧ ρ'.length = 19 ∧ ρ'[1]? = some (some (.ref l)) ∧ DS l g c (t + 200) S' := by
  have hb := sizeBig
  refine wS_seqN (wS_asg ?_)
  refine wE_callF (ds := [.ref l, .int 2, .int 4, .int 8, .int 2]) (by simp [h1]) (wF_mono (house_ok h ht) ?_)
  rintro d S1 ⟨w, r, s, ws, rs, st, rfl, H, hw, hr, hs, h2, k1, _, _, _⟩
  have rl : rs.length ≤ 10 := by have := H.r2; omega
  have sl : st.length ≤ 10 := by have := H.s2; omega
  have he : ∀ x ∈ st, x.2.2 ∈ rs := fun x hx => (H.s x hx).2.1
  simp only [tupG, consG, nameG, nilG, List.length_cons, List.length_nil, if_true, gW_some]
  have l1 : (((ρ.set 3 (some (D.ref w))).set 4 (some (.ref r))).set 5 (some (.ref s))).length = 19 := by simp [hlen]
  have g1 : (((ρ.set 3 (some (D.ref w))).set 4 (some (.ref r))).set 5 (some (.ref s)))[1]? = some (some (.ref l)) := by
    rw [List.getElem?_set_ne (by decide), List.getElem?_set_ne (by decide), List.getElem?_set_ne (by decide)]; exact h1
  have g3 : (((ρ.set 3 (some (D.ref w))).set 4 (some (.ref r))).set 5 (some (.ref s)))[3]? = some (some (.ref w)) := by
    rw [List.getElem?_set_ne (by decide), List.getElem?_set_ne (by decide)]; exact List.getElem?_set_self (by rw [hlen]; decide)
  have g4 : (((ρ.set 3 (some (D.ref w))).set 4 (some (.ref r))).set 5 (some (.ref s)))[4]? = some (some (.ref r)) := by
    rw [List.getElem?_set_ne (by decide)]; exact List.getElem?_set_self (by simp [hlen])
  have g5 : (((ρ.set 3 (some (D.ref w))).set 4 (some (.ref r))).set 5 (some (.ref s)))[5]? = some (some (.ref s)) := List.getElem?_set_self (by simp [hlen])
  generalize ((ρ.set 3 (some (D.ref w))).set 4 (some (.ref r))).set 5 (some (.ref s)) = ρ1 at l1 g1 g3 g4 g5
  refine ⟨by simp, wS_seqN (wS_set (dict_ok hr rl g4 l1 fun wy S2 k2 y1 ww => ?_))⟩
  refine ⟨by simp, ?_⟩
  have a6 : Ag [6] ρ1 (ρ1.set 6 (some (.ref wy))) := Ag.set (by simp)
  have g6 : (ρ1.set 6 (some (D.ref wy)))[6]? = some (some (.ref wy)) := List.getElem?_set_self (by rw [l1]; decide)
  generalize ρ1.set 6 (some (D.ref wy)) = ρ2 at a6 g6
  have wr : r ≠ wy := by have := lt_of_get hr; omega
  have wsn : s ≠ wy := by have := lt_of_get hs; omega
  refine wS_seqN (wS_mono (ways_laps ww (k2.get hr) (k2.get hs) H.rn rl he wr wsn (a6.get g4) (a6.get g5) g6 (a6.1.trans l1)) ?_)
  rintro f ρ3 S3 ⟨rfl, a7, k3, wo⟩
  have K3 : Kp' [] S1 S3 := (k2.any.trans k3).drop (by simp; omega)
  have A3 : Ag [6, 7, 8, 9, 10, 11] ρ1 ρ3 := (a6.mono (by simp)).trans (a7.mono (by simp))
  have g6' : ρ3[6]? = some (some (.ref wy)) := a7.get g6
  refine ⟨rfl, wS_seqN (wS_par ?_)⟩
  simp only [wA_cons, wA_nil, wE_lst]
  refine ⟨by simp, by simp, _, _, rfl, by simp, ?_⟩
  have K4 : Kp' [] S1 (S3 ++ [Cell.lst []] ++ [Cell.lst []]) := K3.trans ((Kp'.app _ _).trans (Kp'.app _ _))
  have W4 : WaysOk (eds st) rs (fun f => f < S3.length) wy (S3 ++ [Cell.lst []] ++ [Cell.lst []]) := wo.keep (E := []) ((Kp'.app _ _).trans (Kp'.app _ _)) (by simp)
  have e3 : (S3 ++ [Cell.lst []]).length = S3.length + 1 := by simp
  rw [e3]
  have d1 : (S3 ++ [Cell.lst []] ++ [Cell.lst []])[S3.length]? = some (.lst []) := (Kp'.app (E := []) _ _).get (last_at S3 _)
  have d2 : (S3 ++ [Cell.lst []] ++ [Cell.lst []])[S3.length + 1]? = some (.lst []) := by
    have := last_at (S3 ++ [Cell.lst []]) (.lst [])
    simpa using this
  have lt3 := K3.1
  generalize S3 ++ [Cell.lst []] ++ [Cell.lst []] = S4 at K4 W4 d1 d2
  generalize hdu : S3.length = du at W4 d1 d2 lt3
  have l3 : ρ3.length = 19 := A3.1.trans l1
  have a8 : Ag [12, 13] ρ3 ((ρ3.set 12 (some (.ref du))).set 13 (some (.ref (du + 1)))) := (Ag.set (by simp)).trans (Ag.set (by simp))
  have g12 : ((ρ3.set 12 (some (D.ref du))).set 13 (some (.ref (du + 1))))[12]? = some (some (.ref du)) := by
    rw [List.getElem?_set_ne (by decide)]; exact List.getElem?_set_self (by rw [l3]; decide)
  have g13 : ((ρ3.set 12 (some (D.ref du))).set 13 (some (.ref (du + 1))))[13]? = some (some (.ref (du + 1))) := List.getElem?_set_self (by simp [l3])
  generalize (ρ3.set 12 (some (D.ref du))).set 13 (some (.ref (du + 1))) = ρ4 at a8 g12 g13
  have A4 : Ag [6, 7, 8, 9, 10, 11, 12, 13] ρ1 ρ4 := (A3.mono (by simp)).trans (a8.mono (by simp))
  have nr : r ≠ du := by have := lt_of_get hr; omega
  have nsd : s ≠ du := by have := lt_of_get hs; omega
  refine wS_seqN (wS_mono (due_ok W4 (by omega) (K4.get hr) (K4.get hs) d1 d2 rl sl nr nsd (by omega) (A4.get g4) (A4.get g5) (a8.get g6') g12 g13 (A4.1.trans l1)) ?_)
  rintro f ρ5 S5 ⟨rfl, a9, k5, o5⟩
  have K5 : Kp' [] S1 S5 := (K4.any.trans k5).drop (by simp; omega)
  have A5 : Ag [6, 7, 8, 9, 10, 11, 12, 13, 14, 15] ρ1 ρ5 := (A4.mono (by simp)).trans (a9.mono (by simp))
  have g12' : ρ5[12]? = some (some (.ref du)) := a9.get g12
  refine ⟨rfl, wS_seqN (wS_set (make_ok H (K5.get hw) (K5.get hr) (K5.get hs) ?_ fun hh j kk S6 k6 ha => ?_))⟩
  · simp only [wA_cons, wA_nil, wE_var]
    exact ⟨_, A5.get g3, _, A5.get g4, _, A5.get g5, by simp⟩
  have l5 : ρ5.length = 19 := A5.1.trans l1
  have A6 : Ag [6, 7, 8, 9, 10, 11, 12, 13, 14, 15, 16] ρ1 (ρ5.set 16 (some (.ref hh))) := (A5.mono (by simp)).trans (Ag.set (by simp))
  have g16 : (ρ5.set 16 (some (D.ref hh)))[16]? = some (some (.ref hh)) := List.getElem?_set_self (by rw [l5]; decide)
  have g12'' : (ρ5.set 16 (some (D.ref hh)))[12]? = some (some (.ref du)) := by
    rw [List.getElem?_set_ne (by decide)]; exact g12'
  generalize ρ5.set 16 (some (D.ref hh)) = ρ6 at A6 g16 g12''
  have K6 := K5.trans k6
  have rgs := outR_ok (es := eds st) (rs := rs) (st := st) H.r rl sl rs.length
  have ask : ∀ S7, Kp' [] S6 S7 → wE (callM m__law_is (consA (callM m_rings (consA (varM 16) nilA)) (consA (varM 12) nilA))) ρ6 S7 fun d S8 => d = .bl true ∧ Kp' [] S6 S8 := fun S7 k7 => by
    rw [wE_call, wA_cons]
    refine wE_callF (ds := [.ref hh]) (by simp [g16]) (wF_mono (rings_ok (ha.keep k7) H.r he rl H.rn sl) ?_)
    rintro d S8 ⟨f, rfl, f1, k8⟩
    simp only [wA_cons, wA_nil, wE_var]
    refine ⟨_, g12'', wF_mono (is_ok f1 ((k7.trans k8).get (k6.get o5)) rgs (outR_len10 rl)) ?_⟩
    rintro d S9 ⟨rfl, rfl⟩
    exact ⟨rfl, k7.trans k8⟩
  refine ⟨rfl, wS_ifF (R := fun S7 => Kp' [] S6 S7) ?_ ?_⟩
  · refine wT_orF (wT_notT (wE_mono (ask S6 (Kp'.refl _)) ?_))
    rintro d S7 ⟨rfl, k7⟩
    refine ⟨rfl, rfl, wT_notT (wE_mono (ask S7 k7) ?_)⟩
    rintro d S8 ⟨rfl, k8⟩
    exact ⟨rfl, rfl, k8⟩
  · intro S7 k7
    rw [wS_next]
    exact ⟨rfl, A6.1.trans l1, A6.get g1, h2.keep (K6.trans k7)⟩
/-! ### the known house -/
def st0 : List St3 := [("p", [-1], "p"), ("p", [0], "q")]
def rs0 : List Str := ["p", "q"]
theorem h0 : HIn ["x"] rs0 st0 where
  w := by decide +kernel
  r := by decide +kernel
  wn := by decide +kernel
  rn := by decide +kernel
  w1 := by decide
  w2 := by decide
  r1 := by decide
  r2 := by decide
  s1 := by decide
  s2 := by decide
  s := by decide +kernel
theorem pq : ¬ (Str.ofString "p" = Str.ofString "q") := by decide +kernel
theorem no_back {x : Str} (h : Reach (eds st0) "q" x) : x = "q" := by
  induction h with
  | refl => rfl
  | tail _ e ih =>
    subst ih
    unfold eds st0 at e
    simp only [List.map_cons, List.map_nil, List.mem_cons, Prod.mk.injEq, List.not_mem_nil, or_false] at e
    rcases e with ⟨z, _⟩ | ⟨z, _⟩
    · exact absurd z.symm pq
    · exact absurd z.symm pq
open Classical in
theorem some_p : someR (eds st0) rs0 "p" = [Str.ofString "p"] := by
  unfold someR rs0
  rw [List.filter_cons_of_pos (by rw [decide_eq_true_iff]; exact ⟨.refl _, .refl _⟩), List.filter_cons_of_neg, List.filter_nil]
  rw [decide_eq_true_iff]
  exact fun z => pq (no_back z.2)
open Classical in
theorem some_q : someR (eds st0) rs0 "q" = [Str.ofString "q"] := by
  unfold someR rs0
  rw [List.filter_cons_of_neg, List.filter_cons_of_pos (by rw [decide_eq_true_iff]; exact ⟨.refl _, .refl _⟩), List.filter_nil]
  rw [decide_eq_true_iff]
  exact fun z => pq (no_back z.1)
theorem in_p : inR st0 ["p"] = [0] := by decide +kernel
theorem in_q : inR st0 ["q"] = [] := by decide +kernel
open Classical in
theorem out0 : outR (eds st0) rs0 st0 rs0.length = [(([Str.ofString "p"], [0]) : Rg)] := by
  have d0 : DnOk (eds st0) rs0 0 [] := fun x _ => by simp
  have o1 := outR_no (st := st0) d0 (show 0 < rs0.length by decide) (by simp)
  rw [show rs0[0] = ("p" : Str) from rfl, some_p, in_p] at o1
  have d1 := d0.add (show 0 < rs0.length by decide)
  rw [show rs0[0] = ("p" : Str) from rfl, some_p] at d1
  have o2 := outR_no (st := st0) d1 (show 1 < rs0.length by decide) (by
    rw [show rs0[1] = ("q" : Str) from rfl]
    simp only [List.nil_append, List.mem_singleton]
    exact fun z => pq z.symm)
  rw [show rs0[1] = ("q" : Str) from rfl, some_q, in_q] at o2
  show outR (eds st0) rs0 st0 (1 + 1) = _
  rw [o2, o1]
  simp [outR]
theorem law_ok (ns : List Int) (hn : ns.length ≤ 63) : ∃ S', m_law [.rol (ns.map D.int)] [] = some (.ok (.bl true), S') := by
  have hb := sizeBig
  have main : wF m_law [.rol (ns.map D.int)] [] fun d _ => d = .bl true := by
    refine wF_def rfl ?_
    unfold b_law
    refine wS_seqN (wS_set ?_)
    refine wE_callF (ds := [.rol (ns.map D.int)]) (by simp) (wF_mono (begun_ok hn) ?_)
    rintro d S1 ⟨l, g, c, rfl, h1, k1⟩
    refine ⟨rfl, wS_seqN (wS_for (wI_rng1 ?_))⟩
    simp only [wA_cons, wA_nil, wE_bin, wE_c, wE_cb, wE_var]
    have e1 : lenD [.rol (ns.map D.int)] S1 = some (.int ns.length, S1) := by
      unfold lenD lenO
      simp only [seqO, Option.map_some, List.length_map]
    have e2 : min2D [.int ns.length, .int 6] S1 = some (.int (if (6 : Int) < ns.length then 6 else ns.length), S1) := rfl
    have mb : 0 ≤ (if (6 : Int) < ns.length then 6 else (ns.length : Int)) ∧ (if (6 : Int) < ns.length then 6 else (ns.length : Int)) ≤ 6 := by
      split <;> omega
    generalize hm : (if (6 : Int) < ns.length then 6 else (ns.length : Int)) = m at e2 mb
    refine ⟨_, rfl, _, _, e1, _, _, e2, _, _, rfl, 6 + m, rfl, by omega, (6 + m).toNat, fun i ρ S => ρ.length = 19 ∧ ρ[1]? = some (some (.ref l)) ∧ DS l g c (200 * i) S, by simp [Src.len], ⟨rfl, rfl, h1⟩, ?_, ?_, ?_⟩
    · rintro ρ S _
      simp [Src.get]
    · rintro i ρ S hi ⟨hl, hl1, hd⟩
      refine ⟨.int (0 + i), by simp only [Src.get]; rw [if_pos hi], ?_⟩
      simp only [nameG, gW_some]
      refine wS_mono (turn_ok (ρ := ρ.set 2 (some (.int (0 + i)))) hd (by omega) (by rw [List.getElem?_set_ne (by decide)]; exact hl1) (by simp [hl])) ?_
      rintro f ρ' S' ⟨rfl, q1, q2, q3⟩
      exact ⟨.inl rfl, q1, q2, q3.more (by omega)⟩
    rintro ρ S _
    refine ⟨by simp, wS_ret ?_⟩
    rw [wE_call, wA_cons, wE_call, wA_cons]
    rw [wE_make]
    have sb : ∀ (x : Int) (S : Sto), subD (.int 0) (.int x) S = some (.int (0 - x), S) := fun x S => rfl
    simp only [wA_cons, wA_nil, wE_lst, wE_tup, wE_bin, wE_c]
    refine ⟨by simp; omega, by simp; omega, _, _, sb _ _, by simp; omega, by simp; omega, by simp; omega, by simp; omega, by simp; omega, ?_⟩
    have kx : Kp' [] S (S ++ [Cell.lst [.str "x"]] ++ [Cell.lst [.str "p", .str "q"]] ++ [Cell.lst [.tup [.str "p", .tup [.int (0 - 1)], .str "p"], .tup [.str "p", .tup [.int 0], .str "q"]]]) := ((Kp'.app _ _).trans (Kp'.app _ _)).trans (Kp'.app _ _)
    have w1 : (S ++ [Cell.lst [.str "x"]] ++ [Cell.lst [.str "p", .str "q"]] ++ [Cell.lst [.tup [.str "p", .tup [.int (0 - 1)], .str "p"], .tup [.str "p", .tup [.int 0], .str "q"]]])[S.length]? = some (.lst ((["x"] : List Str).map D.str)) := (Kp'.app (E := []) _ _).get ((Kp'.app (E := []) _ _).get (last_at S _))
    have w2 : (S ++ [Cell.lst [.str "x"]] ++ [Cell.lst [.str "p", .str "q"]] ++ [Cell.lst [.tup [.str "p", .tup [.int (0 - 1)], .str "p"], .tup [.str "p", .tup [.int 0], .str "q"]]])[(S ++ [Cell.lst [.str "x"]]).length]? = some (.lst (rs0.map D.str)) := (Kp'.app (E := []) _ _).get (last_at _ _)
    have w3 : (S ++ [Cell.lst [.str "x"]] ++ [Cell.lst [.str "p", .str "q"]] ++ [Cell.lst [.tup [.str "p", .tup [.int (0 - 1)], .str "p"], .tup [.str "p", .tup [.int 0], .str "q"]]])[(S ++ [Cell.lst [.str "x"]] ++ [Cell.lst [.str "p", .str "q"]]).length]? = some (.lst (st0.map stepD)) := last_at _ _
    generalize S ++ [Cell.lst [.str "x"]] ++ [Cell.lst [.str "p", .str "q"]] ++ [Cell.lst [.tup [.str "p", .tup [.int (0 - 1)], .str "p"], .tup [.str "p", .tup [.int 0], .str "q"]]] = S2 at kx w1 w2 w3 ⊢
    have k0 : Kp' [] S2 (S2 ++ [Cell.ins "House" []]) := Kp'.app _ _
    refine wF_mono (init_ok h0 (last_at S2 _) (k0.get w1) (k0.get w2) (k0.get w3)) ?_
    rintro d S3 ⟨rfl, k3, i, j, kk, q1, q2, q3, _, _⟩
    have ha : HAt S2.length j kk rs0 st0 S3 := ⟨⟨i, q1⟩, q2, q3⟩
    refine ⟨rfl, wF_mono (rings_ok ha h0.r (fun x hx => (h0.s x hx).2.1) (by decide) h0.rn (by decide)) ?_⟩
    rintro d S4 ⟨f, rfl, f1, k4⟩
    rw [out0] at f1
    have d2 : (S4 ++ [Cell.lst [.tup [.tup [.str "p"], .tup [.int 0]]]])[S4.length]? = some (.lst (([((["p"] : List Str), ([0] : List Nat))] : List Rg).map rgD')) := last_at _ _
    refine ⟨by simp; omega, by simp; omega, by simp; omega, by simp; omega, wF_mono (is_ok ((Kp'.app (E := []) S4 _).get f1) d2 ?_ (by decide)) ?_⟩
    · intro p hp
      rw [List.mem_singleton.mp hp]
      exact ⟨by decide +kernel, by decide, by decide, by decide⟩
    · rintro d S5 ⟨rfl, _⟩
      rfl
  obtain ⟨d, S', e, rfl⟩ := main
  exact ⟨S', e⟩
end W77

theorem PySem.Challenge.cw_timesdone_k77_whole_rings_of_houses_holds : PySem.Challenge.rw_timesdone_k77_whole_rings_of_houses.Holds := by
  exact W77.holds_of W77.law_ok
