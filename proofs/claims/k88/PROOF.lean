import PyProof.Rows.All
import Wide.All
import OpenK.AllK
import Wide.FinOn
import HandS.ForMost
import HandS.ForExc
import HandS.Lambda
import HandS.TryMany
import HandS.ExcIs
import HandS.ExcCtx
import HandS.ExcField
import HandS.ExcSuper
import HandS.IsInst
import HandS.Wide
import KE.DataEq
import KE.DataCmp
import KE.DataIsa
import KE.DataAny
import KE.DataMinMax
import KE.DataFind
import KE.SortData
import HandS.TupAny
import HandS.TupMul
import HandS.Conv
import HandS.RaiseMore
import HandS.Flow
import HandS.CallSlots
import KE.GoesNew
import KE.GoesEnum
import KE.GoesZip
import KE.GoesMore
import HandS.Iter
import PyProof.Rows.StrMul
import HandS.TupLe
import HandS.WordsExc
import HandS.HotCalls
import HandS.Head0
import HandS.Head1
import HandS.Head2
import HandS.HeadEnd
import HandS.HeadHook1
import HandS.HeadHook2
import HandS.HeadHook3
import HandS.HeadHook4
import HandS.HeadWalk
import PyProof.ExcBaseAll.ValueError
import PySem.Challenge.RW_tilemakers_k88_whole_errors_of_seams
set_option Elab.async false
set_option linter.all false
set_option maxRecDepth 20000
set_option autoImplicit false
/-! Plain data, their representation, states and steps. -/
namespace TM
open PySem PySem.Spec PyProof.Rows L2

inductive D where
  | non | bl (b : Bool) | int (i : Int) | str (s : List Nat)
  | tup (xs : List D) | lst (xs : List D) | dic (ks vs : List D) | set (xs : List D)
  | fn (f : Nat) | cls (c : Nat) | ref (n : Nat) | scr (ns : List Int)
  deriving Inhabited

/-- a plain changeable thing: a list, a dict -/
inductive OB where
  | l (xs : List D) | d (ks vs : List D)
def OB.toD : OB → D
  | .l xs => .lst xs
  | .d ks vs => .dic ks vs
/-- what stands in the store: a plain thing with an identity, an instance -/
inductive SO where
  | b (o : OB) | ins (c : Nat) (fs : List (Nat × D))
abbrev Sto := List SO
/-- a slot's content -/
inductive SV where
  | val (d : D) | own (o : OB)
abbrev Slots := List (Option SV)
structure Xc where
  c : Nat
  fs : List (Nat × D)
inductive ER where
  | ok (d : D) (S : Sto) | exc (x : Xc) (S : Sto) | stuck
abbrev Ex := Slots → Sto → ER
@[inline] def ER.bind (r : ER) (g : D → Sto → ER) : ER := match r with
  | .ok d S => g d S
  | .exc x S => .exc x S
  | .stuck => .stuck
def lift (o : Option D) (S : Sto) : ER := match o with
  | some d => .ok d S
  | none => .stuck

/-- where the text's own things stand -/
structure Glo where
  fa : Nat → Option Addr
  ca : Nat → Option Value
  an : Nat → Str
  T : List (Addr × Str)

def nt (o : HO) : Prop := ∀ ps, o ≠ .tbl ps
/-- a text's signs, and not too many -/
structure SGood (s : List Nat) : Prop where
  len : s.length ≤ sizeLine
  cod : ∀ c ∈ s, c < 1114112

mutual
inductive Rp (K : PySem.W.Frag) (G : Glo) (α : List Addr) (F : Hp) : D → V → Prop
  | non : Rp K G α F .non .non
  | bl (b : Bool) : Rp K G α F (.bl b) (.bl b)
  | int (i : Int) : Rp K G α F (.int i) (.int i)
  | str {s : List Nat} : SGood s → Rp K G α F (.str s) (.str ⟨s.toArray⟩)
  | tup {a : Addr} {vs : List V} {ds : List D} : SqT K F a vs → vs.length ≤ sizeLine → Rps K G α F ds vs → Rp K G α F (.tup ds) (.ref a)
  | lst {a : Addr} {vs : List V} {ds : List D} : F a = some (.lst vs) → vs.length ≤ sizeLine → Rps K G α F ds vs → Rp K G α F (.lst ds) (.ref a)
  | fn {i : Nat} {f : Addr} : G.fa i = some f → Rp K G α F (.fn i) (.ref f)
  | cls {c : Nat} {v : V} {u : Value} : G.ca c = some u → RelV v u → Rp K G α F (.cls c) v
  | ref {n : Nat} {a : Addr} : α[n]? = some a → Rp K G α F (.ref n) (.ref a)
  | scr {ns : List Int} {a : Addr} : SqL K F a (ns.map V.int) → Rp K G α F (.scr ns) (.ref a)
inductive Rps (K : PySem.W.Frag) (G : Glo) (α : List Addr) (F : Hp) : List D → List V → Prop
  | nil : Rps K G α F [] []
  | cons {d : D} {v : V} {ds : List D} {vs : List V} : Rp K G α F d v → Rps K G α F ds vs → Rps K G α F (d :: ds) (v :: vs)
end

theorem same_tup {K : PySem.W.Frag} {H H' : Hp} {a : Addr} {xs : List V} (e : Same H H') (h : SqT K H a xs) : SqT K H' a xs := by
  rcases h with h | h
  · rcases h with h | ⟨o, h⟩
    · exact .inl (.inl (e _ _ h))
    · exact .inl (.inr ⟨o, e _ _ h⟩)
  · exact .inr h
section
variable {K : PySem.W.Frag} {G : Glo} {α α' : List Addr} {F F' H H' : Hp}
mutual
theorem Rp.mono (hf : Same F F') (ha : ∃ β, α' = α ++ β) : ∀ {d : D} {v : V}, Rp K G α F d v → Rp K G α' F' d v
  | _, _, .non => .non
  | _, _, .bl b => .bl b
  | _, _, .int i => .int i
  | _, _, .str g => .str g
  | _, _, .tup h l r => .tup (same_tup hf h) l (Rps.mono hf ha r)
  | _, _, .lst h l r => .lst (hf _ _ h) l (Rps.mono hf ha r)
  | _, _, .fn h => .fn h
  | _, _, .cls h r => .cls h r
  | _, _, .ref h => .ref (by
      obtain ⟨β, rfl⟩ := ha
      rw [List.getElem?_append_left (List.getElem?_eq_some_iff.mp h).1]
      exact h)
  | _, _, .scr h => .scr (hf.seq h)
theorem Rps.mono (hf : Same F F') (ha : ∃ β, α' = α ++ β) : ∀ {ds : List D} {vs : List V}, Rps K G α F ds vs → Rps K G α' F' ds vs
  | _, _, .nil => .nil
  | _, _, .cons h t => .cons (Rp.mono hf ha h) (Rps.mono hf ha t)
end
theorem Rps.length : ∀ {ds : List D} {vs : List V}, Rps K G α F ds vs → ds.length = vs.length
  | _, _, .nil => rfl
  | _, _, .cons _ t => congrArg (· + 1) t.length
theorem Rps.get : ∀ {ds : List D} {vs : List V} {i : Nat} {d : D}, Rps K G α F ds vs → ds[i]? = some d → ∃ v, vs[i]? = some v ∧ Rp K G α F d v
  | _, _, _, _, .nil, h => by cases h
  | _, _, 0, _, .cons h _, e => by cases e; exact ⟨_, rfl, h⟩
  | _, _, i + 1, d, .cons _ t, e => t.get (i := i) (d := d) e
theorem Rps.append : ∀ {ds es : List D} {vs ws : List V}, Rps K G α F ds vs → Rps K G α F es ws → Rps K G α F (ds ++ es) (vs ++ ws)
  | _, _, _, _, .nil, h => h
  | _, _, _, _, .cons a t, h => .cons a (t.append h)
theorem Rps.one {d : D} {v : V} (h : Rp K G α F d v) : Rps K G α F [d] [v] := .cons h .nil
theorem Rps.drop : ∀ {ds : List D} {vs : List V} (n : Nat), Rps K G α F ds vs → Rps K G α F (ds.drop n) (vs.drop n)
  | _, _, 0, h => h
  | _, _, _ + 1, .nil => .nil
  | _, _, n + 1, .cons _ t => t.drop n
theorem Rps.take : ∀ {ds : List D} {vs : List V} (n : Nat), Rps K G α F ds vs → Rps K G α F (ds.take n) (vs.take n)
  | _, _, 0, _ => .nil
  | _, _, _ + 1, .nil => .nil
  | _, _, n + 1, .cons a t => .cons a (t.take n)
theorem Rps.set : ∀ {ds : List D} {vs : List V} {d : D} {v : V} (n : Nat), Rp K G α F d v → Rps K G α F ds vs → Rps K G α F (ds.set n d) (vs.set n v)
  | _, _, _, _, _, _, .nil => .nil
  | _, _, _, _, 0, h, .cons _ t => .cons h t
  | _, _, _, _, n + 1, h, .cons a t => .cons a (t.set n h)
theorem Rps.ints : ∀ {ns : List Int} , Rps K G α F (ns.map D.int) (ns.map V.int)
  | [] => .nil
  | n :: _ => .cons (.int n) Rps.ints
end

/-- a plain thing stands as h -/
inductive ObOk (K : PySem.W.Frag) (G : Glo) (α : List Addr) (F : Hp) : OB → HO → Prop
  | l {xs : List D} {vs : List V} : vs.length ≤ sizeLine → Rps K G α F xs vs → ObOk K G α F (.l xs) (.lst vs)
theorem ObOk.mono {K : PySem.W.Frag} {G : Glo} {α α' : List Addr} {F F' : Hp} (hf : Same F F') (ha : ∃ β, α' = α ++ β) {o : OB} {h : HO} (x : ObOk K G α F o h) : ObOk K G α' F' o h := by
  cases x with
  | l z r => exact .l z (r.mono hf ha)
theorem ObOk.nt {K : PySem.W.Frag} {G : Glo} {α : List Addr} {F : Hp} {o : OB} {h : HO} (x : ObOk K G α F o h) : TM.nt h := by
  cases x with
  | l z r => exact fun ps e => by cases e

/-- a store entry at its place -/
inductive SoOk (K : PySem.W.Frag) (G : Glo) (α : List Addr) (H F : Hp) : SO → Addr → Prop
  | b {o : OB} {a : Addr} {h : HO} : H a = some h → ObOk K G α F o h → SoOk K G α H F (.b o) a

/-- the state, apart from the frame -/
structure Wd (K : PySem.W.Frag) (G : Glo) (S : Sto) (H F : Hp) (α : List Addr) : Prop where
  sub : Same F H
  nd : α.Nodup
  tabs : LamX.Tabs G.T H
  fnt : ∀ a o, F a = some o → nt o
  len : S.length = α.length
  sto : ∀ (n : Nat) (o : SO) (a : Addr), S[n]? = some o → α[n]? = some a → SoOk K G α H F o a
  anf : ∀ a ∈ α, F a = none

/-- tracked, and no table -/
def Trk (H : Hp) (a : Addr) : Prop := ∃ o, H a = some o ∧ nt o
theorem no_trk {H : Hp} {a : Addr} (h : H a = none) : ¬ Trk H a := fun ⟨o, e, _⟩ => by rw [h] at e; cases e
/-- from one state to a later one -/
structure Stp (H F : Hp) (α : List Addr) (H' F' : Hp) (α' : List Addr) : Prop where
  f : Same F F'
  fr : ∀ a, F' a ≠ none → F a ≠ none ∨ ¬ Trk H a
  al : ∃ β, α' = α ++ β ∧ ∀ a ∈ β, ¬ Trk H a
  keep : ∀ a o, H a = some o → a ∉ α → nt o → H' a = some o
  dom : ∀ a, Trk H a → Trk H' a
theorem Stp.pre {H F H' F' : Hp} {α α' : List Addr} (s : Stp H F α H' F' α') : ∃ β, α' = α ++ β := let ⟨β, e, _⟩ := s.al; ⟨β, e⟩
theorem Stp.refl (H F : Hp) (α : List Addr) : Stp H F α H F α := ⟨Same.refl _, fun _ h => .inl h, ⟨[], (List.append_nil _).symm, fun _ h => by cases h⟩, fun _ _ h _ _ => h, fun _ h => h⟩
theorem Stp.trans {H F H1 F1 H2 F2 : Hp} {α α1 α2 : List Addr} (a : Stp H F α H1 F1 α1) (b : Stp H1 F1 α1 H2 F2 α2) : Stp H F α H2 F2 α2 := by
  obtain ⟨β, rfl, hβ⟩ := a.al
  obtain ⟨γ, rfl, hγ⟩ := b.al
  have up : ∀ x, ¬ Trk H1 x → ¬ Trk H x := fun x e n => e (a.dom x n)
  refine ⟨a.f.trans b.f, fun x h => ?_, ⟨β ++ γ, by rw [List.append_assoc], fun x h => ?_⟩, fun x o h n q => ?_, fun x h => b.dom x (a.dom x h)⟩
  · rcases b.fr x h with h | h
    · exact a.fr x h
    · exact .inr (up x h)
  · rcases List.mem_append.mp h with h | h
    · exact hβ x h
    · exact up x (hγ x h)
  · refine b.keep x o (a.keep x o h n q) (fun m => ?_) q
    rcases List.mem_append.mp m with m | m
    · exact n m
    · exact hβ x m ⟨o, h, q⟩
/-- nothing but new things -/
theorem Stp.grow {H F H' F' : Hp} {α : List Addr} (hf : Same F F') (hh : Same H H') (fr : ∀ a, F' a ≠ none → F a ≠ none ∨ H a = none) : Stp H F α H' F' α :=
  ⟨hf, fun a h => (fr a h).imp id no_trk, ⟨[], (List.append_nil _).symm, fun _ h => by cases h⟩, fun a o h _ _ => hh a o h, fun a ⟨o, h, n⟩ => ⟨o, hh a o h, n⟩⟩

theorem same_upd {H : Hp} {p : Addr} {o : HO} (h : H p = none) : Same H (upd H p o) := fun b x e => by
  rw [upd_ne (ne_of_none e h)]; exact e
theorem upd_some {H : Hp} {p a : Addr} {o u : HO} (h : upd H p o a = some u) : (a = p ∧ u = o) ∨ (a ≠ p ∧ H a = some u) := by
  by_cases e : a = p
  · subst e; rw [upd_same] at h; cases h; exact .inl ⟨rfl, rfl⟩
  · rw [upd_ne e] at h; exact .inr ⟨e, h⟩

section
variable {K : PySem.W.Frag} {G : Glo} {α : List Addr} {F H : Hp} {S : Sto}
theorem Wd.fresh (w : Wd K G S H F α) {p : Addr} (h : H p = none) : F p = none := w.sub.free h
theorem Wd.freshA (w : Wd K G S H F α) {p : Addr} (h : H p = none) : p ∉ α := fun m => by
  obtain ⟨n, hn, e⟩ := List.getElem_of_mem m
  have hn' : n < S.length := by rw [w.len]; exact hn
  have q := w.sto n S[n] p (List.getElem?_eq_getElem hn') (by rw [List.getElem?_eq_getElem hn, e])
  generalize S[n] = so at q
  cases q with
  | b q _ => rw [h] at q; cases q
theorem SoOk.mono {H' F' : Hp} {α' : List Addr} {o : SO} {a : Addr} (hf : Same F F') (ha : ∃ β, α' = α ++ β) (hh : ∀ o, H a = some o → H' a = some o) (x : SoOk K G α H F o a) : SoOk K G α' H' F' o a := by
  cases x with
  | b q r => exact .b (hh _ q) (r.mono hf ha)
theorem tabs_upd {H : Hp} {p : Addr} {o : HO} {T : List (Addr × Str)} (h : H p = none) (t : LamX.Tabs T H) : LamX.Tabs T (upd H p o) := t.ext (same_upd h)
/-- a new frozen thing -/
theorem Wd.add (w : Wd K G S H F α) {p : Addr} {o : HO} (h : H p = none) (n : nt o) : Wd K G S (upd H p o) (upd F p o) α := by
  have hf := w.fresh h
  refine ⟨fun a u e => ?_, w.nd, tabs_upd h w.tabs, fun a u e => ?_, w.len, fun n o' a e1 e2 => ?_, fun a m => ?_⟩
  · rcases upd_some e with ⟨rfl, rfl⟩ | ⟨ne, e⟩
    · exact upd_same
    · rw [upd_ne ne]; exact w.sub a u e
  · rcases upd_some e with ⟨rfl, rfl⟩ | ⟨ne, e⟩
    · exact n
    · exact w.fnt a u e
  · exact (w.sto n o' a e1 e2).mono (same_upd hf) ⟨[], (List.append_nil _).symm⟩ fun u q => same_upd h _ _ q
  · rw [upd_ne (fun e => w.freshA h (by rw [← e]; exact m))]; exact w.anf a m
theorem stp_add (w : Wd K G S H F α) {p : Addr} {o : HO} (h : H p = none) : Stp H F α (upd H p o) (upd F p o) α :=
  .grow (same_upd (w.fresh h)) (same_upd h) fun a ha => by
    by_cases e : a = p
    · subst e; exact .inr h
    · rw [upd_ne e] at ha; exact .inl ha
end

/-- a def's entry -/
structure Ent where
  H : Hp
  F : Hp
  α : List Addr
inductive SlotOk (K : PySem.W.Frag) (G : Glo) (e : Ent) (α : List Addr) (H F : Hp) : Option SV → Option V → Prop
  | none (x : Option V) : SlotOk K G e α H F none x
  | val {d : D} {v : V} : Rp K G α F d v → SlotOk K G e α H F (some (.val d)) (some v)
  | own {o : OB} {h : HO} {a : Addr} : H a = some h → F a = Option.none → a ∉ α → ¬ Trk e.H a → ObOk K G α F o h → SlotOk K G e α H F (some (.own o)) (some (.ref a))
structure Ok (K : PySem.W.Frag) (G : Glo) (e : Ent) (ρ : Slots) (S : Sto) (σ : L2.St) (H F : Hp) (α : List Addr) : Prop where
  wd : Wd K G S H F α
  st : Stp e.H e.F e.α H F α
  len : ρ.length = σ.length
  sl : ∀ (i : Nat) (s : Option SV), ρ[i]? = some s → ∃ x, σ[i]? = some x ∧ SlotOk K G e α H F s x
  inj : ∀ (i j : Nat) (o u : OB) (a : Addr), ρ[i]? = some (some (.own o)) → ρ[j]? = some (some (.own u)) → σ[i]? = some (some (.ref a)) → σ[j]? = some (some (.ref a)) → i = j
section
variable {K : PySem.W.Frag} {G : Glo} {e : Ent} {ρ : Slots} {S S' : Sto} {σ : L2.St} {H F H' F' : Hp} {α α' : List Addr}
theorem SlotOk.step (s : Stp H F α H' F' α') {t : Option SV} {x : Option V} (q : SlotOk K G e α H F t x) : SlotOk K G e α' H' F' t x := by
  cases q with
  | none => exact .none _
  | val r => exact .val (r.mono s.f s.pre)
  | own h1 h2 h3 h4 h5 =>
    refine .own (s.keep _ _ h1 h3 h5.nt) ?_ (fun m => ?_) h4 (h5.mono s.f s.pre)
    · refine Classical.byContradiction fun n => ?_
      rcases s.fr _ n with z | z
      · exact z h2
      · exact z ⟨_, h1, h5.nt⟩
    · obtain ⟨β, rfl, hβ⟩ := s.al
      rcases List.mem_append.mp m with m | m
      · exact h3 m
      · exact hβ _ m ⟨_, h1, h5.nt⟩
theorem Ok.step (o : Ok K G e ρ S σ H F α) (w : Wd K G S' H' F' α') (s : Stp H F α H' F' α') : Ok K G e ρ S' σ H' F' α' :=
  ⟨w, o.st.trans s, o.len, fun i t h => let ⟨x, hx, q⟩ := o.sl i t h; ⟨x, hx, q.step s⟩, o.inj⟩
theorem Ok.eH (o : Ok K G e ρ S σ H F α) {p : Addr} (h : H p = none) : ¬ Trk e.H p := fun n => no_trk h (o.st.dom p n)
end

/-- what an operand may be: plain, or a slot's own thing just now -/
def RpO (K : PySem.W.Frag) (G : Glo) (α : List Addr) (H F : Hp) (d : D) (v : V) : Prop :=
  Rp K G α F d v ∨ ∃ (o : OB) (a : Addr) (h : HO), d = o.toD ∧ v = .ref a ∧ H a = some h ∧ a ∉ α ∧ ObOk K G α F o h
theorem RpO.step {K : PySem.W.Frag} {G : Glo} {H F H' F' : Hp} {α α' : List Addr} (s : Stp H F α H' F' α') {d : D} {v : V} (q : RpO K G α H F d v) : RpO K G α' H' F' d v := by
  rcases q with q | ⟨o, a, h, e1, e2, h1, h2, h3⟩
  · exact .inl (q.mono s.f s.pre)
  · refine .inr ⟨o, a, h, e1, e2, s.keep _ _ h1 h2 h3.nt, fun m => ?_, h3.mono s.f s.pre⟩
    obtain ⟨β, rfl, hβ⟩ := s.al
    rcases List.mem_append.mp m with m | m
    · exact h2 m
    · exact hβ _ m ⟨_, h1, h3.nt⟩

/-- an exception as the caller sees it -/
def XRep (K : PySem.W.Frag) (G : Glo) (α : List Addr) (H F : Hp) (x : Xc) (c : Value) (dd : Option Addr) : Prop :=
  G.ca x.c = some c ∧ ((x.fs = [] ∧ dd = none) ∨ (x.fs ≠ [] ∧ ∃ a hs, dd = some a ∧ H a = some (.xd hs) ∧ ∀ n d, x.fs.lookup n = some d → ∃ v, hs.lookup (G.an n) = some v ∧ Rp K G α F d v))

abbrev RelD := List Addr → Hp → Hp → D → V → Prop
/-- what is known behind an expression -/
def EPost (K : PySem.W.Frag) (G : Glo) (W : WX) (R : RelD) (σ : L2.St) (H F : Hp) (α : List Addr) (r : ER) (Q : VK) : Prop := match r with
  | .ok d S' => ∀ v H' F' α', Wd K G S' H' F' α' → Stp H F α H' F' α' → R α' H' F' d v → Q v H'
  | .exc x S' => ∀ c dd H' F' α', Wd K G S' H' F' α' → Stp H F α H' F' α' → XRep K G α' H' F' x c dd → W c dd σ H'
  | .stuck => False
abbrev rP (K : PySem.W.Frag) (G : Glo) : RelD := fun α _ F d v => Rp K G α F d v
abbrev rO (K : PySem.W.Frag) (G : Glo) : RelD := fun α H F d v => RpO K G α H F d v
section
variable {K : PySem.W.Frag} {G : Glo} {W : WX} {R R' : RelD} {σ : L2.St} {H F H1 F1 : Hp} {α α1 : List Addr} {r : ER} {Q Q' : VK}
theorem EPost.later (s : Stp H F α H1 F1 α1) (p : EPost K G W R σ H F α r Q) : EPost K G W R σ H1 F1 α1 r Q := by
  cases r with
  | ok d S => exact fun v H' F' α' w s' q => p v H' F' α' w (s.trans s') q
  | exc x S => exact fun c dd H' F' α' w s' q => p c dd H' F' α' w (s.trans s') q
  | stuck => exact p
theorem EPost.of_bind {g : D → Sto → ER} (p : EPost K G W R' σ H F α (r.bind g) Q)
    (k : ∀ d S1 v H1 F1 α1, r = .ok d S1 → Wd K G S1 H1 F1 α1 → Stp H F α H1 F1 α1 → R α1 H1 F1 d v → EPost K G W R' σ H1 F1 α1 (g d S1) Q → Q' v H1) : EPost K G W R σ H F α r Q' := by
  cases r with
  | ok d S => exact fun v H' F' α' w s q => k d S v H' F' α' rfl w s q (p.later s)
  | exc x S => exact p
  | stuck => exact p
end
section
variable (X : Cx) (G : Glo) (e : Ent) (W : WX)
/-- an expression's reading: its value is frozen -/
def tE (f : Ex) : TE := fun σ H Q => ∃ ρ S F α, Ok X.K G e ρ S σ H F α ∧ EPost X.K G W (rP X.K G) σ H F α (f ρ S) Q
/-- .. or a slot's own thing -/
def tO (f : Ex) : TE := fun σ H Q => ∃ ρ S F α, Ok X.K G e ρ S σ H F α ∧ EPost X.K G W (rO X.K G) σ H F α (f ρ S) Q
end
theorem pe_imp {X : Cx} {ex : Expr} {t t' : TE} (h : PE X ex t) (hi : ∀ σ H Q, t' σ H Q → t σ H Q) : PE X ex t' := ⟨fun pins s σ H Q I hq => h.run pins s σ H Q I (hi _ _ _ hq)⟩
theorem pe_o {X : Cx} {G : Glo} {e : Ent} {W : WX} {ex : Expr} {f : Ex} (h : PE X ex (tE X G e W f)) : PE X ex (tO X G e W f) := pe_imp h fun σ H Q ⟨ρ, S, F, α, o, p⟩ => ⟨ρ, S, F, α, o, by
  revert p
  cases f ρ S with
  | ok d S' => exact fun p v H' F' α' w s q => p v H' F' α' w s (.inl q)
  | exc x S' => exact fun p => p
  | stuck => exact fun p => p⟩
end TM

set_option Elab.async false
set_option linter.all false
set_option maxRecDepth 20000
set_option autoImplicit false
namespace TM
open PySem PySem.Spec PyProof.Rows L2

/-! ## plain data as the library tells it -/
mutual
def D.py : D → PyData
  | .non => .none
  | .bl b => .bool b
  | .int i => .int i
  | .str s => .str ⟨s.toArray⟩
  | .tup xs => .tuple (pys xs)
  | .lst xs => .list (pys xs)
  | .dic _ _ => .dict []
  | .set _ => .dict []
  | .fn _ => .dict []
  | .cls _ => .dict []
  | .ref _ => .dict []
  | .scr _ => .dict []
def pys : List D → List PyData
  | [] => []
  | x :: xs => x.py :: pys xs
end
theorem pys_map : ∀ xs : List D, pys xs = xs.map D.py
  | [] => rfl
  | x :: xs => by rw [pys, pys_map xs]; rfl
/-- no dict, no thing of the text's own, nested at most n deep -/
def pl : Nat → D → Bool
  | _, .non => true
  | _, .bl _ => true
  | _, .int _ => true
  | _, .str _ => true
  | n + 1, .tup xs => xs.all (pl n)
  | n + 1, .lst xs => xs.all (pl n)
  | _, _ => false
theorem pl_ok : ∀ (n : Nat) (d : D), pl n d = true → d.py.plain = true ∧ d.py.depth ≤ n := by
  intro n
  induction n with
  | zero =>
    intro d h
    cases d <;> first | (exact ⟨rfl, Nat.le_refl _⟩) | (cases h)
  | succ n ih =>
    have all : ∀ xs : List D, xs.all (pl n) = true → PyData.plainAll (pys xs) = true ∧ PyData.depthAll (pys xs) ≤ n := by
      intro xs
      induction xs with
      | nil => exact fun _ => ⟨rfl, Nat.zero_le _⟩
      | cons x xs ihx =>
        intro h
        rw [List.all_cons, Bool.and_eq_true] at h
        obtain ⟨a, b⟩ := ih x h.1
        obtain ⟨c, e⟩ := ihx h.2
        refine ⟨?_, ?_⟩
        · show (x.py.plain && PyData.plainAll (pys xs)) = true
          rw [a, c]; rfl
        · show max x.py.depth (PyData.depthAll (pys xs)) ≤ n
          omega
    intro d h
    cases d <;> first
      | (exact ⟨rfl, Nat.zero_le _⟩)
      | (obtain ⟨a, b⟩ := all _ h
         exact ⟨a, Nat.succ_le_succ b⟩)
      | (cases h)
theorem pl_all {n : Nat} {xs : List D} (h : xs.all (pl n) = true) : PyData.plainAll (pys xs) = true ∧ PyData.depthAll (pys xs) ≤ n := by
  have q := pl_ok (n + 1) (.tup xs) h
  exact ⟨q.1, Nat.le_of_succ_le_succ q.2⟩
section
variable {X : Cx} {G : Glo} {α : List Addr} {F H : Hp} {S : Sto}
mutual
theorem Rp.dp (hs : Same F H) : ∀ {d : D} {v : V}, Rp X.K G α F d v → d.py.plain = true → Dp X.K H v d.py
  | _, _, .non, _ => .non
  | _, _, .bl b, _ => .bl b
  | _, _, .int i, _ => .int i
  | _, _, .str _, _ => .str _
  | _, _, .tup h _ r, p => .tup (same_tup hs h) (Rps.dp hs r p)
  | _, _, .lst h _ r, p => .lst (.of (hs _ _ h)) (Rps.dp hs r p)
  | _, _, .fn _, p => by cases p
  | _, _, .cls _ _, p => by cases p
  | _, _, .ref _, p => by cases p
  | _, _, .scr _, p => by cases p
theorem Rps.dp (hs : Same F H) : ∀ {ds : List D} {vs : List V}, Rps X.K G α F ds vs → PyData.plainAll (pys ds) = true → DpAll X.K H vs (pys ds)
  | _, _, .nil, _ => .nil
  | _, _, .cons h t, p => by
    have p' : (_ && _) = true := p
    rw [Bool.and_eq_true] at p'
    exact .cons (Rp.dp hs h p'.1) (Rps.dp hs t p'.2)
end
theorem RpO.dp (w : Wd X.K G S H F α) {d : D} {v : V} (r : RpO X.K G α H F d v) (p : d.py.plain = true) : Dp X.K H v d.py := by
  rcases r with r | ⟨o, a, h, rfl, rfl, h1, h2, h3⟩
  · exact r.dp w.sub p
  · cases h3 with
    | l z r => exact .lst (.of h1) (r.dp w.sub p)
theorem RpO.reads {pins : List (Addr × Obj)} {σ : L2.St} {s : Shared} {u : Value} (I : Inv X pins σ H s) (w : Wd X.K G S H F α) {d : D} {v : V} (r : RpO X.K G α H F d v) (q : RelV v u) (p : d.py.plain = true) : ∃ as, Reads s.heap u d.py as :=
  Dp.reads I _ _ _ (r.dp w p) q
end

/-! ## equality -/
mutual
def eqv : D → D → Bool
  | .non, y => (match y with | .non => true | _ => false)
  | .bl a, y => (match y with | .bl b => a == b | .int j => (if a then 1 else 0) == j | _ => false)
  | .int i, y => (match y with | .int j => i == j | .bl b => i == (if b then 1 else 0) | _ => false)
  | .str s, y => (match y with | .str t => s == t | _ => false)
  | .tup xs, y => (match y with | .tup ys => eqvs xs ys | _ => false)
  | .lst xs, y => (match y with | .lst ys => eqvs xs ys | _ => false)
  | _, _ => false
def eqvs : List D → List D → Bool
  | [], y => (match y with | [] => true | _ => false)
  | a :: xs, y => (match y with | b :: ys => eqv a b && eqvs xs ys | [] => false)
end
theorem str_beq (s t : List Nat) : ((⟨s.toArray⟩ : Str) == ⟨t.toArray⟩) = (s == t) := by
  by_cases h : s = t
  · subst h; simp
  · have : ¬ (⟨s.toArray⟩ : Str) = ⟨t.toArray⟩ := fun e => h (by injection e with e; injection e)
    rw [beq_eq_false_iff_ne.mpr h]
    exact beq_eq_false_iff_ne.mpr this
mutual
theorem eqv_py : ∀ (a b : D), a.py.plain = true → b.py.plain = true → eqv a b = PyData.eqv a.py b.py
  | .non, b, _, q => by cases b <;> first | rfl | cases q
  | .bl a, b, _, q => by cases b <;> first | rfl | cases q
  | .int i, b, _, q => by cases b <;> first | rfl | cases q
  | .str s, b, _, q => by cases b <;> first | rfl | (cases q; done) | exact (str_beq _ _).symm
  | .tup xs, b, p, q => by cases b <;> first | rfl | (cases q; done) | exact eqvs_py _ _ p q
  | .lst xs, b, p, q => by cases b <;> first | rfl | (cases q; done) | exact eqvs_py _ _ p q
  | .dic _ _, _, p, _ => by cases p
  | .set _, _, p, _ => by cases p
  | .fn _, _, p, _ => by cases p
  | .cls _, _, p, _ => by cases p
  | .ref _, _, p, _ => by cases p
  | .scr _, _, p, _ => by cases p
theorem eqvs_py : ∀ (xs ys : List D), PyData.plainAll (pys xs) = true → PyData.plainAll (pys ys) = true → eqvs xs ys = PyData.eqvAll (pys xs) (pys ys)
  | [], [], _, _ => rfl
  | [], _ :: _, _, _ => rfl
  | _ :: _, [], _, _ => rfl
  | x :: xs, y :: ys, p, q => by
    have p' : (_ && _) = true := p
    have q' : (_ && _) = true := q
    rw [Bool.and_eq_true] at p' q'
    show (eqv x y && eqvs xs ys) = (PyData.eqv x.py y.py && PyData.eqvAll (pys xs) (pys ys))
    rw [eqv_py x y p'.1 q'.1, eqvs_py xs ys p'.2 q'.2]
end

/-! ## what is wanted behind a value -/
def Kon (K : PySem.W.Frag) (G : Glo) (S : Sto) (H F : Hp) (α : List Addr) (d : D) (Q : VK) : Prop :=
  ∀ v H' F' α', Wd K G S H' F' α' → Stp H F α H' F' α' → Rp K G α' F' d v → Q v H'
section
variable {K : PySem.W.Frag} {G : Glo} {S : Sto} {H F : Hp} {α : List Addr} {d : D} {Q : VK}
theorem Kon.val (k : Kon K G S H F α d Q) (w : Wd K G S H F α) {v : V} (r : Rp K G α F d v) : Q v H := k v H F α w (.refl H F α) r
theorem Kon.lst {ds : List D} {vs : List V} (k : Kon K G S H F α (.lst ds) Q) (w : Wd K G S H F α) (r : Rps K G α F ds vs) (z : vs.length ≤ sizeLine) {p : Addr} (h : H p = none) : Q (.ref p) (upd H p (.lst vs)) :=
  k _ _ _ _ (w.add h (fun ps e => by cases e)) (stp_add w h) (.lst upd_same z (r.mono (same_upd (w.fresh h)) ⟨[], (List.append_nil _).symm⟩))
theorem Kon.tup {ds : List D} {vs : List V} (k : Kon K G S H F α (.tup ds) Q) (w : Wd K G S H F α) (r : Rps K G α F ds vs) (z : vs.length ≤ sizeLine) {p : Addr} (h : H p = none) : Q (.ref p) (upd H p (.tup vs)) :=
  k _ _ _ _ (w.add h (fun ps e => by cases e)) (stp_add w h) (.tup (.inl (.inl upd_same)) z (r.mono (same_upd (w.fresh h)) ⟨[], (List.append_nil _).symm⟩))
end
/-- a two-place operation on data -/
def rD (X : Cx) (G : Glo) (op : D → D → Option D) : R2 := fun x y H Q =>
  ∃ (F : Hp) (α : List Addr) (S : Sto) (d1 d2 d3 : D), Wd X.K G S H F α ∧ RpO X.K G α H F d1 x ∧ RpO X.K G α H F d2 y ∧ op d1 d2 = some d3 ∧ Kon X.K G S H F α d3 Q
def rD1 (X : Cx) (G : Glo) (op : D → Option D) : V → Hp → VK → Prop := fun x H Q =>
  ∃ (F : Hp) (α : List Addr) (S : Sto) (d1 d3 : D), Wd X.K G S H F α ∧ RpO X.K G α H F d1 x ∧ op d1 = some d3 ∧ Kon X.K G S H F α d3 Q
inductive RpOs (K : PySem.W.Frag) (G : Glo) (α : List Addr) (H F : Hp) : List D → List V → Prop
  | nil : RpOs K G α H F [] []
  | cons {d : D} {v : V} {ds : List D} {vs : List V} : RpO K G α H F d v → RpOs K G α H F ds vs → RpOs K G α H F (d :: ds) (v :: vs)
theorem RpOs.step {K : PySem.W.Frag} {G : Glo} {H F H' F' : Hp} {α α' : List Addr} (s : Stp H F α H' F' α') {ds : List D} {vs : List V} (q : RpOs K G α H F ds vs) : RpOs K G α' H' F' ds vs := by
  induction q with
  | nil => exact .nil
  | cons a _ ih => exact .cons (a.step s) ih
theorem RpOs.of {K : PySem.W.Frag} {G : Glo} {H F : Hp} {α : List Addr} : ∀ {ds : List D} {vs : List V}, Rps K G α F ds vs → RpOs K G α H F ds vs
  | _, _, .nil => .nil
  | _, _, .cons a t => .cons (.inl a) (RpOs.of t)
/-- a call with data -/
def rC (X : Cx) (G : Glo) (op : List D → Option D) : List V → Hp → VK → Prop := fun xs H Q =>
  ∃ (F : Hp) (α : List Addr) (S : Sto) (ds : List D) (d3 : D), Wd X.K G S H F α ∧ RpOs X.K G α H F ds xs ∧ op ds = some d3 ∧ Kon X.K G S H F α d3 Q
theorem opImp {X : Cx} {f : Value → Value → Sem Value} {r r' : R2} (h : OpR X f r) (hi : ∀ x y H Q, r' x y H Q → r x y H Q) : OpR X f r' :=
  fun pins s σ H x y v u Q I rx ry q => h pins s σ H x y v u Q I rx ry (hi _ _ _ _ q)
theorem callImp {X : Cx} {f : Value} {r r' : List V → Hp → VK → Prop} (h : CallR X f r) (hi : ∀ xs H Q, r' xs H Q → r xs H Q) : CallR X f r' :=
  fun pins s σ H xs us Q I rx q => h pins s σ H xs us Q I rx (hi _ _ _ q)

section
variable {X : Cx} {G : Glo}
/-- an operation by cases -/
theorem opCases {f : Value → Value → Sem Value} {o1 o2 : D → D → Option D} (h1 : OpR X f (rD X G o1)) (h2 : OpR X f (rD X G o2)) : OpR X f (rD X G fun a b => (o1 a b).orElse fun _ => o2 a b) := by
  intro pins s σ H x y v u Q I rx ry h
  obtain ⟨F, α, S, d1, d2, d3, w, r1, r2, e, k⟩ := h
  have e : (o1 d1 d2).orElse (fun _ => o2 d1 d2) = some d3 := e
  cases q : o1 d1 d2 with
  | some d => rw [q] at e; cases e; exact h1 pins s σ H x y v u Q I rx ry ⟨F, α, S, d1, d2, _, w, r1, r2, q, k⟩
  | none => rw [q] at e; exact h2 pins s σ H x y v u Q I rx ry ⟨F, α, S, d1, d2, _, w, r1, r2, e, k⟩
theorem callCases {f : Value} {o1 o2 : List D → Option D} (h1 : CallR X f (rC X G o1)) (h2 : CallR X f (rC X G o2)) : CallR X f (rC X G fun a => (o1 a).orElse fun _ => o2 a) := by
  intro pins s σ H xs us Q I rx h
  obtain ⟨F, α, S, ds, d3, w, r1, e, k⟩ := h
  have e : (o1 ds).orElse (fun _ => o2 ds) = some d3 := e
  cases q : o1 ds with
  | some d => rw [q] at e; cases e; exact h1 pins s σ H xs us Q I rx ⟨F, α, S, ds, _, w, r1, q, k⟩
  | none => rw [q] at e; exact h2 pins s σ H xs us Q I rx ⟨F, α, S, ds, _, w, r1, e, k⟩

/-! ## comparisons -/
def eqO (a b : D) : Option D := if pl 60 a && pl 60 b then some (.bl (eqv a b)) else none
def neO (a b : D) : Option D := if pl 60 a && pl 60 b then some (.bl (!eqv a b)) else none
theorem of_bl {pins : List (Addr × Obj)} {σ : L2.St} {H F : Hp} {s : Shared} {Q : VK} {S : Sto} {α : List Addr} {b : Bool} (I : Inv X pins σ H s) (w : Wd X.K G S H F α) (k : Kon X.K G S H F α (.bl b) Q) : EP X pins σ Q (.bool b) s := ⟨.bl b, H, I, rfl, k.val w (.bl b)⟩
theorem depth_min {A : Around} {a b : PyData} (hu : A.units + 64 < cLine) (h : a.depth ≤ 60) : A.units + min a.depth b.depth < cLine := by
  have := Nat.min_le_left a.depth b.depth
  omega
theorem op_eqO (hu : X.A.units + 64 < cLine) : OpR X (compareOp .Eq) (rD X G eqO) := by
  intro pins s σ H x y v u Q I rx ry h
  obtain ⟨F, α, S, d1, d2, d3, w, r1, r2, e, k⟩ := h
  unfold eqO at e
  split at e
  · rename_i hp
    rw [Bool.and_eq_true] at hp
    cases e
    obtain ⟨p1, z1⟩ := pl_ok 60 d1 hp.1
    obtain ⟨p2, z2⟩ := pl_ok 60 d2 hp.2
    obtain ⟨as, q1⟩ := r1.reads I w rx p1
    obtain ⟨bs, q2⟩ := r2.reads I w ry p2
    rw [eqv_py d1 d2 p1 p2] at k
    exact SeqAt.eq_plain q1 q2 p1 p2 (depth_min hu z1) (of_bl I w k)
  · cases e
theorem op_neO (hu : X.A.units + 64 < cLine) : OpR X (compareOp .NotEq) (rD X G neO) := by
  intro pins s σ H x y v u Q I rx ry h
  obtain ⟨F, α, S, d1, d2, d3, w, r1, r2, e, k⟩ := h
  unfold neO at e
  split at e
  · rename_i hp
    rw [Bool.and_eq_true] at hp
    cases e
    obtain ⟨p1, z1⟩ := pl_ok 60 d1 hp.1
    obtain ⟨p2, z2⟩ := pl_ok 60 d2 hp.2
    obtain ⟨as, q1⟩ := r1.reads I w rx p1
    obtain ⟨bs, q2⟩ := r2.reads I w ry p2
    rw [eqv_py d1 d2 p1 p2] at k
    exact SeqAt.ne_plain q1 q2 p1 p2 (depth_min hu z1) (of_bl I w k)
  · cases e
end
end TM

set_option Elab.async false
set_option linter.all false
set_option maxRecDepth 20000
set_option autoImplicit false
namespace TM
open PySem PySem.Spec PyProof.Rows L2

/-! ## order -/
mutual
def alk : D → D → Bool
  | .non, y => (match y with | .non => true | _ => false)
  | .bl _, y => (match y with | .bl _ => true | _ => false)
  | .int _, y => (match y with | .int _ => true | _ => false)
  | .str _, y => (match y with | .str _ => true | _ => false)
  | .tup xs, y => (match y with | .tup ys => alks xs ys | _ => false)
  | .lst xs, y => (match y with | .lst ys => alks xs ys | _ => false)
  | _, _ => false
def alks : List D → List D → Bool
  | [], _ => true
  | a :: xs, y => (match y with | b :: ys => alk a b && alks xs ys | [] => true)
end
mutual
theorem alk_py : ∀ (a b : D), alk a b = true → PySem.W.alike a.py b.py = true
  | .non, b, h => by cases b <;> first | rfl | cases h
  | .bl a, b, h => by cases b <;> first | rfl | cases h
  | .int i, b, h => by cases b <;> first | rfl | cases h
  | .str s, b, h => by cases b <;> first | rfl | cases h
  | .tup xs, b, h => by cases b <;> first | (cases h; done) | exact alks_py _ _ h
  | .lst xs, b, h => by cases b <;> first | (cases h; done) | exact alks_py _ _ h
  | .dic _ _, _, h => by cases h
  | .set _, _, h => by cases h
  | .fn _, _, h => by cases h
  | .cls _, _, h => by cases h
  | .ref _, _, h => by cases h
  | .scr _, _, h => by cases h
theorem alks_py : ∀ (xs ys : List D), alks xs ys = true → PySem.W.alikeAll (pys xs) (pys ys) = true
  | [], [], _ => by unfold pys; unfold PySem.W.alikeAll; rfl
  | [], _ :: _, _ => by unfold pys; unfold PySem.W.alikeAll; rfl
  | _ :: _, [], _ => by unfold pys; unfold PySem.W.alikeAll; rfl
  | x :: xs, y :: ys, h => by
    have h' : (_ && _) = true := h
    rw [Bool.and_eq_true] at h'
    unfold pys
    unfold PySem.W.alikeAll
    rw [alk_py x y h'.1, alks_py xs ys h'.2]
    rfl
end
/-- texts in order -/
def ltL : List Nat → List Nat → Bool
  | [], [] => false
  | [], _ :: _ => true
  | _ :: _, [] => false
  | a :: s, b :: t => if a == b then ltL s t else Nat.blt a b
theorem ltL_eq : ∀ s t : List Nat, ltL s t = decide (s < t)
  | [], [] => by simp [ltL]
  | [], _ :: _ => by simp [ltL]
  | _ :: _, [] => by simp [ltL]
  | a :: s, b :: t => by
    unfold ltL
    rw [ltL_eq s t]
    by_cases h : a = b
    · subst h
      simp [List.cons_lt_cons_iff]
    · have hb : (a == b) = false := beq_eq_false_iff_ne.mpr h
      rw [hb, if_neg Bool.false_ne_true]
      by_cases h2 : a < b
      · rw [decide_eq_true (by rw [List.cons_lt_cons_iff]; exact .inl h2)]
        exact Nat.ble_eq_true_of_le h2
      · rw [decide_eq_false (by rw [List.cons_lt_cons_iff]; rintro (z | ⟨z, _⟩); exact h2 z; exact h z)]
        have : ¬ (a + 1 ≤ b) := by omega
        simp only [Nat.blt]
        exact Bool.eq_false_iff.mpr fun z => this (Nat.le_of_ble_eq_true z)
mutual
def ltv : D → D → Bool
  | .bl a, y => (match y with | .bl b => !a && b | _ => false)
  | .int i, y => (match y with | .int j => decide (i < j) | _ => false)
  | .str s, y => (match y with | .str t => ltL s t | _ => false)
  | .tup xs, y => (match y with | .tup ys => ltvs xs ys | _ => false)
  | .lst xs, y => (match y with | .lst ys => ltvs xs ys | _ => false)
  | _, _ => false
def ltvs : List D → List D → Bool
  | [], y => (match y with | [] => false | _ :: _ => true)
  | a :: xs, y => (match y with | [] => false | b :: ys => if eqv a b then ltvs xs ys else ltv a b)
end
theorem toks_nil_cons (y : PyData) (ys : List PyData) : PyProof.Rows.lexLt PyProof.Rows.itemOrd (PySem.W.keyToksAll []) (PySem.W.keyToksAll (y :: ys)) = true := by
  unfold PySem.W.keyToksAll
  rfl
theorem toks_cons_nil (x : PyData) (xs : List PyData) : PyProof.Rows.lexLt PyProof.Rows.itemOrd (PySem.W.keyToksAll (x :: xs)) (PySem.W.keyToksAll []) = false := by
  unfold PySem.W.keyToksAll
  rfl
theorem toks_nil_nil : PyProof.Rows.lexLt PyProof.Rows.itemOrd (PySem.W.keyToksAll []) (PySem.W.keyToksAll []) = false := by
  unfold PySem.W.keyToksAll
  rfl
mutual
theorem ltv_py : ∀ (a b : D), alk a b = true → a.py.plain = true → b.py.plain = true → ltv a b = PySem.W.dataLt a.py b.py
  | .non, b, h, _, _ => by cases b <;> first | rfl | cases h
  | .bl a, b, h, _, _ => by
    cases b <;> first | (cases h; done) | skip
    rename_i c _
    show (!a && c) = PySem.W.dataLt (.bool a) (.bool c)
    rw [PySem.W.dataLt_bool]
    cases a <;> cases c <;> rfl
  | .int i, b, h, _, _ => by
    cases b <;> first | (cases h; done) | exact (PySem.W.dataLt_int _ _).symm
  | .str s, b, h, _, _ => by
    cases b <;> first | (cases h; done) | skip
    rename_i t _
    show ltL s t = PySem.W.dataLt (.str _) (.str _)
    rw [PySem.W.dataLt_str, ltL_eq]
  | .tup xs, b, h, p, q => by
    cases b <;> first | (cases h; done) | skip
    rename_i ys
    show ltvs xs ys = PySem.W.dataLt (.tuple _) (.tuple _)
    rw [PySem.W.dataLt_tuple]
    exact ltvs_py xs ys h p q
  | .lst xs, b, h, p, q => by
    cases b <;> first | (cases h; done) | skip
    rename_i ys
    show ltvs xs ys = PySem.W.dataLt (.list _) (.list _)
    rw [PySem.W.dataLt_list]
    exact ltvs_py xs ys h p q
  | .dic _ _, _, h, _, _ => by cases h
  | .set _, _, h, _, _ => by cases h
  | .fn _, _, h, _, _ => by cases h
  | .cls _, _, h, _, _ => by cases h
  | .ref _, _, h, _, _ => by cases h
  | .scr _, _, h, _, _ => by cases h
theorem ltvs_py : ∀ (xs ys : List D), alks xs ys = true → PyData.plainAll (pys xs) = true → PyData.plainAll (pys ys) = true → ltvs xs ys = PyProof.Rows.lexLt PyProof.Rows.itemOrd (PySem.W.keyToksAll (pys xs)) (PySem.W.keyToksAll (pys ys))
  | [], [], _, _, _ => toks_nil_nil.symm
  | [], _ :: _, _, _, _ => (toks_nil_cons _ _).symm
  | _ :: _, [], _, _, _ => (toks_cons_nil _ _).symm
  | x :: xs, y :: ys, h, p, q => by
    have h' : (_ && _) = true := h
    have p' : (_ && _) = true := p
    have q' : (_ && _) = true := q
    rw [Bool.and_eq_true] at h' p' q'
    show (if eqv x y then ltvs xs ys else ltv x y) = _
    rw [eqv_py x y p'.1 q'.1, ltvs_py xs ys h'.2 p'.2 q'.2, ltv_py x y h'.1 p'.1 q'.1]
    exact (PySem.W.dataLt_cons (alk_py x y h'.1) _ _).symm
end
def isNon : D → Bool
  | .non => true
  | _ => false
def cmpO (f : D → D → Bool) (a b : D) : Option D := if pl 60 a && pl 60 b && alk a b && !isNon a then some (.bl (f a b)) else none
theorem non_py {a : D} (h : isNon a = false) : a.py ≠ .none := by
  cases a <;> first | (intro e; cases e; done) | cases h
section
variable {X : Cx} {G : Glo}
theorem cmp_run (hu : X.A.units + 64 < cLine) {f : D → D → Bool} {op : CmpOp} {g : PyData → PyData → Bool} (hg : ∀ a b, alk a b = true → a.py.plain = true → b.py.plain = true → f a b = g a.py b.py)
    (rule : ∀ (s : Shared) (a b : Value) (da db : PyData) (as bs : List Addr) (Q : Value → Shared → Prop), Reads s.heap a da as → Reads s.heap b db bs → PySem.W.alike da db = true → da ≠ .none → X.A.units + min da.depth db.depth < cLine → Q (.bool (g da db)) s → wpAny (model X.prog X.w) X.A (compareOp op a b) Q X.xe s) :
    OpR X (compareOp op) (rD X G (cmpO f)) := by
  intro pins s σ H x y v u Q I rx ry h
  obtain ⟨F, α, S, d1, d2, d3, w, r1, r2, e, k⟩ := h
  unfold cmpO at e
  split at e
  · rename_i hp
    simp only [Bool.and_eq_true, Bool.not_eq_true'] at hp
    obtain ⟨⟨⟨h1, h2⟩, h3⟩, h4⟩ := hp
    cases e
    obtain ⟨p1, z1⟩ := pl_ok 60 d1 h1
    obtain ⟨p2, z2⟩ := pl_ok 60 d2 h2
    obtain ⟨as, q1⟩ := r1.reads I w rx p1
    obtain ⟨bs, q2⟩ := r2.reads I w ry p2
    rw [hg d1 d2 h3 p1 p2] at k
    exact rule _ _ _ _ _ _ _ _ q1 q2 (alk_py _ _ h3) (non_py h4) (depth_min hu z1) (of_bl I w k)
  · cases e
theorem alike_flip {a b : D} (h : alk a b = true) : alk b a = true → True := fun _ => trivial
mutual
theorem alk_comm : ∀ a b : D, alk a b = alk b a
  | .non, b => by cases b <;> rfl
  | .bl _, b => by cases b <;> rfl
  | .int _, b => by cases b <;> rfl
  | .str _, b => by cases b <;> rfl
  | .tup xs, b => by cases b <;> first | rfl | exact alks_comm _ _
  | .lst xs, b => by cases b <;> first | rfl | exact alks_comm _ _
  | .dic _ _, b => by cases b <;> rfl
  | .set _, b => by cases b <;> rfl
  | .fn _, b => by cases b <;> rfl
  | .cls _, b => by cases b <;> rfl
  | .ref _, b => by cases b <;> rfl
  | .scr _, b => by cases b <;> rfl
theorem alks_comm : ∀ xs ys : List D, alks xs ys = alks ys xs
  | [], [] => rfl
  | [], _ :: _ => rfl
  | _ :: _, [] => rfl
  | x :: xs, y :: ys => by
    show (alk x y && alks xs ys) = (alk y x && alks ys xs)
    rw [alk_comm x y, alks_comm xs ys]
end
def ltO := cmpO ltv
def gtO := cmpO fun a b => ltv b a
def leO := cmpO fun a b => !ltv b a
def geO := cmpO fun a b => !ltv a b
theorem op_ltO (hu : X.A.units + 64 < cLine) : OpR X (compareOp .Lt) (rD X G ltO) := cmp_run hu (fun a b h p q => ltv_py a b h p q) fun _ _ _ _ _ _ _ _ r1 r2 h n z q => PySem.W.lt_data r1 r2 h n z q
theorem op_gtO (hu : X.A.units + 64 < cLine) : OpR X (compareOp .Gt) (rD X G gtO) := cmp_run hu (g := fun a b => PySem.W.dataLt b a) (fun a b h p q => ltv_py b a (by rw [alk_comm]; exact h) q p) fun _ _ _ _ _ _ _ _ r1 r2 h n z q => PySem.W.gt_data r1 r2 h n z q
theorem op_leO (hu : X.A.units + 64 < cLine) : OpR X (compareOp .LtE) (rD X G leO) := cmp_run hu (g := fun a b => !PySem.W.dataLt b a) (fun a b h p q => by rw [ltv_py b a (by rw [alk_comm]; exact h) q p]) fun _ _ _ _ _ _ _ _ r1 r2 h n z q => PySem.W.le_data r1 r2 h n z q
theorem op_geO (hu : X.A.units + 64 < cLine) : OpR X (compareOp .GtE) (rD X G geO) := cmp_run hu (g := fun a b => !PySem.W.dataLt a b) (fun a b h p q => by rw [ltv_py a b h p q]) fun _ _ _ _ _ _ _ _ r1 r2 h n z q => PySem.W.ge_data r1 r2 h n z q
end
end TM

set_option Elab.async false
set_option linter.all false
set_option maxRecDepth 20000
set_option autoImplicit false
namespace TM
open PySem PySem.Spec PyProof.Rows L2

section
variable {K : PySem.W.Frag} {G : Glo} {α : List Addr} {F H : Hp} {S : Sto}
theorem RpO.intH {i : Int} {v : V} (r : RpO K G α H F (.int i) v) : v = .int i := by
  rcases r with r | ⟨o, a, h, e, _⟩
  · cases r; rfl
  · cases o <;> cases e
theorem RpO.blH {b : Bool} {v : V} (r : RpO K G α H F (.bl b) v) : v = .bl b := by
  rcases r with r | ⟨o, a, h, e, _⟩
  · cases r; rfl
  · cases o <;> cases e
theorem RpO.nonH {v : V} (r : RpO K G α H F .non v) : v = .non := by
  rcases r with r | ⟨o, a, h, e, _⟩
  · cases r; rfl
  · cases o <;> cases e
theorem RpO.strH {s : List Nat} {v : V} (r : RpO K G α H F (.str s) v) : v = .str ⟨s.toArray⟩ ∧ SGood s := by
  rcases r with r | ⟨o, a, h, e, _⟩
  · cases r with | str g => exact ⟨rfl, g⟩
  · cases o <;> cases e
theorem RpO.tupH {ds : List D} {v : V} (r : RpO K G α H F (.tup ds) v) : ∃ a vs, v = .ref a ∧ SqT K F a vs ∧ vs.length ≤ sizeLine ∧ Rps K G α F ds vs := by
  rcases r with r | ⟨o, a, h, e, _⟩
  · cases r with | tup h1 h2 h3 => exact ⟨_, _, rfl, h1, h2, h3⟩
  · cases o <;> cases e
theorem RpO.lstH (w : Wd K G S H F α) {ds : List D} {v : V} (r : RpO K G α H F (.lst ds) v) : ∃ a vs, v = .ref a ∧ H a = some (.lst vs) ∧ vs.length ≤ sizeLine ∧ Rps K G α F ds vs := by
  rcases r with r | ⟨o, a, h, e, e2, h1, h2, h3⟩
  · cases r with | lst h1 h2 h3 => exact ⟨_, _, rfl, w.sub _ _ h1, h2, h3⟩
  · cases h3 with
    | l z q => cases e; exact ⟨_, _, e2, h1, z, q⟩
theorem RpO.str (g : List Nat) {v : V} : True := trivial
end
theorem SGood.append {s t : List Nat} (a : SGood s) (b : SGood t) (h : s.length + t.length ≤ sizeLine) : SGood (s ++ t) :=
  ⟨by rw [List.length_append]; exact h, fun c hc => (List.mem_append.mp hc).elim (a.cod c) (b.cod c)⟩
theorem SGood.sub {s t : List Nat} (a : SGood s) (h : ∀ c ∈ t, c ∈ s) (l : t.length ≤ s.length) : SGood t := ⟨Nat.le_trans l a.len, fun c hc => a.cod c (h c hc)⟩
abbrev big : Nat := 16777216
theorem big_eq : sizeLine = big := sizeLine_eq

def addO (a b : D) : Option D := match a with
  | .int i => (match b with | .int j => some (.int (i + j)) | _ => none)
  | .str s => (match b with | .str t => if s.length + t.length ≤ big then some (.str (s ++ t)) else none | _ => none)
  | .lst xs => (match b with | .lst ys => if xs.length + ys.length ≤ big then some (.lst (xs ++ ys)) else none | _ => none)
  | .tup xs => (match b with | .tup ys => if xs.length + ys.length ≤ big then some (.tup (xs ++ ys)) else none | _ => none)
  | _ => none
def subO (a b : D) : Option D := match a with
  | .int i => (match b with | .int j => some (.int (i - j)) | _ => none)
  | _ => none
/-- a factor that is not great -/
def small64 (i : Int) : Bool := decide (-18446744073709551616 < i) && decide (i < 18446744073709551616)
def repN {A : Type} (n : Nat) (xs : List A) : List A := (List.replicate n xs).flatten
def mulO (a b : D) : Option D := match b with
  | .int j => (match a with
    | .int i => if small64 i || small64 j then some (.int (i * j)) else none
    | .lst xs => if decide (j ≤ 1000000) && decide (-1000000 ≤ j) && decide (xs.length * j.toNat ≤ big) then some (.lst (repN j.toNat xs)) else none
    | .tup xs => if !xs.isEmpty && decide (2 ≤ j) && decide (j ≤ 1000) && decide (xs.length ≤ 1000) then some (.tup (repN j.toNat xs)) else none
    | _ => none)
  | _ => none
def fdivO (a b : D) : Option D := match a with
  | .int i => (match b with | .int j => if decide (0 < j) && decide (j < 1073741824) then some (.int (i / j)) else none | _ => none)
  | _ => none
def modO (a b : D) : Option D := match a with
  | .int i => (match b with | .int j => if 0 < j then some (.int (i % j)) else none | _ => none)
  | _ => none
def powO (a b : D) : Option D := match a with
  | .int i => (match b with | .int j => if decide (0 ≤ j) && decide (j ≤ 1000) && small64 i then some (.int (i ^ j.toNat)) else none | _ => none)
  | _ => none
theorem small64_ok {i : Int} (h : small64 i = true) : -(2 ^ 64) < i ∧ i < 2 ^ 64 := by
  unfold small64 at h
  rw [Bool.and_eq_true, decide_eq_true_eq, decide_eq_true_eq] at h
  exact ⟨h.1, h.2⟩
theorem rep_rps {K : PySem.W.Frag} {G : Glo} {α : List Addr} {F : Hp} {ds : List D} {vs : List V} (r : Rps K G α F ds vs) : ∀ n : Nat, Rps K G α F (repN n ds) (List.replicate n vs).flatten
  | 0 => .nil
  | n + 1 => by
    unfold repN
    rw [List.replicate_succ, List.replicate_succ, List.flatten_cons, List.flatten_cons]
    exact r.append (rep_rps r n)
section
variable {X : Cx} {G : Glo}
theorem op_addO : OpR X (binaryOp .Add) (rD X G addO) := by
  intro pins s σ H x y v u Q I rx ry h
  obtain ⟨F, α, S, d1, d2, d3, w, r1, r2, e, k⟩ := h
  cases d1 <;> cases d2 <;> first | (cases e; done) | skip
  · cases e
    exact op_add pins s σ H x y v u Q I rx ry ⟨_, _, r1.intH, r2.intH, k.val w (.int _)⟩
  · rename_i a b
    have e : (if a.length + b.length ≤ big then some (D.str (a ++ b)) else none) = some d3 := e
    split at e
    · rename_i hz
      cases e
      obtain ⟨e1, g1⟩ := r1.strH
      obtain ⟨e2, g2⟩ := r2.strH
      have hz' : a.length + b.length ≤ sizeLine := by rw [big_eq]; exact hz
      refine op_add_str pins s σ H x y v u Q I rx ry ⟨_, _, e1, e2, by simpa [Str.length] using hz', ?_⟩
      have := k.val w (Rp.str (g1.append g2 hz'))
      have e3 : ((⟨a.toArray⟩ : Str) ++ ⟨b.toArray⟩) = ⟨(a ++ b).toArray⟩ := by
        show Str.append _ _ = _
        unfold Str.append
        simp
      rw [e3]
      exact this
    · cases e
  · rename_i a b
    have e : (if a.length + b.length ≤ big then some (D.tup (a ++ b)) else none) = some d3 := e
    split at e
    · rename_i hz
      cases e
      obtain ⟨p, vs, e1, t1, z1, q1⟩ := r1.tupH
      obtain ⟨q, ws, e2, t2, z2, q2⟩ := r2.tupH
      have l1 := q1.length
      have l2 := q2.length
      have hz' : vs.length + ws.length ≤ sizeLine := by rw [big_eq, ← l1, ← l2]; exact hz
      refine op_catA pins s σ H x y v u Q I rx ry ⟨p, q, vs, ws, e1, e2, same_tup w.sub t1, same_tup w.sub t2, hz', fun z => ?_, fun _ z => ?_, fun _ _ c hc => k.tup w (q1.append q2) (by rw [List.length_append]; exact hz') hc⟩
      · subst z
        cases q1
        exact k.val w (.tup t2 z2 q2)
      · subst z
        cases q2
        rw [List.append_nil] at k
        exact k.val w (.tup t1 z1 q1)
    · cases e
  · rename_i a b
    have e : (if a.length + b.length ≤ big then some (D.lst (a ++ b)) else none) = some d3 := e
    split at e
    · rename_i hz
      cases e
      obtain ⟨p, vs, e1, t1, z1, q1⟩ := r1.lstH w
      obtain ⟨q, ws, e2, t2, z2, q2⟩ := r2.lstH w
      have l1 := q1.length
      have l2 := q2.length
      have hz' : vs.length + ws.length ≤ sizeLine := by rw [big_eq, ← l1, ← l2]; exact hz
      exact op_cat pins s σ H x y v u Q I rx ry ⟨p, q, vs, ws, e1, e2, t1, t2, hz', fun c hc => k.lst w (q1.append q2) (by rw [List.length_append]; exact hz') hc⟩
    · cases e
theorem op_subO : OpR X (binaryOp .Sub) (rD X G subO) := by
  intro pins s σ H x y v u Q I rx ry h
  obtain ⟨F, α, S, d1, d2, d3, w, r1, r2, e, k⟩ := h
  cases d1 <;> cases d2 <;> first | (cases e; done) | skip
  cases e
  exact op_sub pins s σ H x y v u Q I rx ry ⟨_, _, r1.intH, r2.intH, k.val w (.int _)⟩
theorem op_mulO : OpR X (binaryOp .Mult) (rD X G mulO) := by
  intro pins s σ H x y v u Q I rx ry h
  obtain ⟨F, α, S, d1, d2, d3, w, r1, r2, e, k⟩ := h
  cases d2 <;> first | (cases e; done) | skip
  rename_i j
  cases d1 <;> first | (cases e; done) | skip
  · rename_i i
    have e : (if (small64 i || small64 j) = true then some (D.int (i * j)) else none) = some d3 := e
    split at e
    · rename_i hz
      cases e
      rw [Bool.or_eq_true] at hz
      exact op_mul pins s σ H x y v u Q I rx ry ⟨_, _, r1.intH, r2.intH, hz.elim (fun z => .inl (small64_ok z)) (fun z => .inr (small64_ok z)), k.val w (.int _)⟩
    · cases e
  · rename_i xs
    have e : (if (!xs.isEmpty && decide (2 ≤ j) && decide (j ≤ 1000) && decide (xs.length ≤ 1000)) = true then some (D.tup (repN j.toNat xs)) else none) = some d3 := e
    split at e
    · rename_i hz
      cases e
      simp only [Bool.and_eq_true, Bool.not_eq_true', decide_eq_true_eq] at hz
      obtain ⟨⟨⟨h1, h2⟩, h3⟩, h4⟩ := hz
      obtain ⟨p, vs, e1, t1, z1, q1⟩ := r1.tupH
      have l1 := q1.length
      refine op_repT pins s σ H x y v u Q I rx ry ⟨p, j, vs, e1, r2.intH, same_tup w.sub t1, fun z => ?_, h2, h3, by omega, fun c hc => k.tup w (rep_rps q1 _) ?_ hc⟩
      · subst z
        cases q1
        cases h1
      · rw [PyProof.Rows.lm_len_rep_flat, big_eq]
        have : j.toNat * vs.length ≤ 1000 * 1000 := Nat.mul_le_mul (by omega) (by omega)
        show _ ≤ 16777216
        omega
    · cases e
  · rename_i xs
    have e : (if (decide (j ≤ 1000000) && decide (-1000000 ≤ j) && decide (xs.length * j.toNat ≤ big)) = true then some (D.lst (repN j.toNat xs)) else none) = some d3 := e
    split at e
    · rename_i hz
      cases e
      simp only [Bool.and_eq_true, decide_eq_true_eq] at hz
      obtain ⟨⟨h1, h2⟩, h3⟩ := hz
      obtain ⟨p, vs, e1, t1, z1, q1⟩ := r1.lstH w
      have l1 := q1.length
      have hz' : vs.length * j.toNat ≤ sizeLine := by rw [big_eq, ← l1]; exact h3
      exact op_rep pins s σ H x y v u Q I rx ry ⟨p, j, vs, e1, r2.intH, t1, by omega, by omega, hz', fun c hc => k.lst w (rep_rps q1 _) (by rw [PyProof.Rows.lm_len_rep_flat, Nat.mul_comm]; exact hz') hc⟩
    · cases e
theorem op_fdivO : OpR X (binaryOp .FloorDiv) (rD X G fdivO) := by
  intro pins s σ H x y v u Q I rx ry h
  obtain ⟨F, α, S, d1, d2, d3, w, r1, r2, e, k⟩ := h
  cases d1 <;> cases d2 <;> first | (cases e; done) | skip
  rename_i i j
  have e : (if (decide (0 < j) && decide (j < 1073741824)) = true then some (D.int (i / j)) else none) = some d3 := e
  split at e
  · rename_i hz
    cases e
    rw [Bool.and_eq_true, decide_eq_true_eq, decide_eq_true_eq] at hz
    exact op_fdiv pins s σ H x y v u Q I rx ry ⟨_, _, r1.intH, r2.intH, hz, k.val w (.int _)⟩
  · cases e
theorem op_modO : OpR X (binaryOp .Mod) (rD X G modO) := by
  intro pins s σ H x y v u Q I rx ry h
  obtain ⟨F, α, S, d1, d2, d3, w, r1, r2, e, k⟩ := h
  cases d1 <;> cases d2 <;> first | (cases e; done) | skip
  rename_i i j
  have e : (if 0 < j then some (D.int (i % j)) else none) = some d3 := e
  split at e
  · rename_i hz
    cases e
    exact op_mod pins s σ H x y v u Q I rx ry ⟨_, _, r1.intH, r2.intH, hz, k.val w (.int _)⟩
  · cases e
theorem op_powO : OpR X (binaryOp .Pow) (rD X G powO) := by
  intro pins s σ H x y v u Q I rx ry h
  obtain ⟨F, α, S, d1, d2, d3, w, r1, r2, e, k⟩ := h
  cases d1 <;> cases d2 <;> first | (cases e; done) | skip
  rename_i i j
  have e : (if (decide (0 ≤ j) && decide (j ≤ 1000) && small64 i) = true then some (D.int (i ^ j.toNat)) else none) = some d3 := e
  split at e
  · rename_i hz
    cases e
    simp only [Bool.and_eq_true, decide_eq_true_eq] at hz
    have := small64_ok hz.2
    exact op_pow pins s σ H x y v u Q I rx ry ⟨_, _, r1.intH, r2.intH, ⟨hz.1.1, by omega, by omega⟩, k.val w (.int _)⟩
  · cases e
end
end TM

set_option Elab.async false
set_option linter.all false
set_option maxRecDepth 20000
set_option autoImplicit false
namespace TM
open PySem PySem.Spec PyProof.Rows L2

/-! ## built-in functions over data -/
inductive Ty5 where
  | int | bool | str | tup | lst
def Ty5.nm : Ty5 → String
  | .int => "int"
  | .bool => "bool"
  | .str => "str"
  | .tup => "tuple"
  | .lst => "list"
def tyNm : D → Option String
  | .non => some "NoneType"
  | .bl _ => some "bool"
  | .int _ => some "int"
  | .str _ => some "str"
  | .tup _ => some "tuple"
  | .lst _ => some "list"
  | _ => none
/-- isinstance -/
def isaB : Ty5 → D → Option Bool
  | .int, .int _ => some true
  | .int, .bl _ => some true
  | .bool, .bl _ => some true
  | .str, .str _ => some true
  | .tup, .tup _ => some true
  | .lst, .lst _ => some true
  | _, .non => some false
  | _, .bl _ => some false
  | _, .int _ => some false
  | _, .str _ => some false
  | _, .tup _ => some false
  | _, .lst _ => some false
  | _, _ => none
section
variable {X : Cx} {G : Glo}
theorem RpO.ty {α : List Addr} {F H : Hp} {S : Sto} (w : Wd X.K G S H F α) {d : D} {v : V} (r : RpO X.K G α H F d v) {n : String} (h : tyNm d = some n) : TyX X.K H v (.type n) := by
  cases d <;> first | (cases h; done) | skip
  · cases h; rw [r.nonH]; exact .base .non
  · cases h; rw [r.blH]; exact .base (.bl _)
  · cases h; rw [r.intH]; exact .base (.int _)
  · cases h; rw [r.strH.1]; exact .base (.str _)
  · cases h
    obtain ⟨a, vs, rfl, t, _, _⟩ := r.tupH
    rcases t with t | ⟨o, its, m, e, c, _⟩
    · rcases t with t | ⟨o, t⟩
      · exact .base (.tup (w.sub _ _ t))
      · exact .fTuple (w.sub _ _ t)
    · exact .kTuple e c
  · cases h
    obtain ⟨a, vs, rfl, t, _, _⟩ := r.lstH w
    exact .base (.lst t)
theorem kit_isa : ∀ (T : Ty5) (d : D) (n : String), tyNm d = some n → ∀ b, isaB T d = some b → kitB n T.nm = some b := by
  intro T d n h b hb
  cases T <;> cases d <;> first | (cases h; done) | (cases h; cases hb; decide +kernel)
def isaO (T : Ty5) (d : D) : Option D := (isaB T d).map .bl
/-- isinstance(x, T) -/
theorem call_isaO (T : Ty5) : CallR X (.builtin "isinstance") (fun xs H Q => ∃ v, xs = [v, .ty T.nm] ∧ rD1 X G (isaO T) v H Q) := by
  refine callImp call_isi fun xs H Q h => ?_
  obtain ⟨v, rfl, F, α, S, d, d3, w, r, e, k⟩ := h
  unfold isaO at e
  cases q : isaB T d with
  | none => rw [q] at e; cases e
  | some b =>
    rw [q] at e
    cases e
    have hn : ∃ n, tyNm d = some n := by
      cases d <;> first | exact ⟨_, rfl⟩ | (cases T <;> cases q)
    obtain ⟨n, hn⟩ := hn
    exact ⟨v, .ty T.nm, .type n, .type T.nm, b, rfl, .ty _, r.ty w hn, kit_ty (kit_isa T d n hn b q), k.val w (.bl b)⟩

def lenO : List D → Option D
  | [.lst xs] => some (.int (xs.length : Nat))
  | [.tup xs] => some (.int (xs.length : Nat))
  | [.str s] => some (.int (s.length : Nat))
  | _ => none
theorem RpOs.one {α : List Addr} {F H : Hp} {d : D} {vs : List V} (r : RpOs X.K G α H F [d] vs) : ∃ v, vs = [v] ∧ RpO X.K G α H F d v := by
  cases r with
  | cons a t => cases t; exact ⟨_, rfl, a⟩
theorem RpOs.two {α : List Addr} {F H : Hp} {d e : D} {vs : List V} (r : RpOs X.K G α H F [d, e] vs) : ∃ v u, vs = [v, u] ∧ RpO X.K G α H F d v ∧ RpO X.K G α H F e u := by
  cases r with
  | cons a t =>
    obtain ⟨u, rfl, b⟩ := t.one
    exact ⟨_, u, rfl, a, b⟩
theorem call_lenO : CallR X (.builtin "len") (rC X G lenO) := by
  refine callImp call_len fun xs H Q h => ?_
  obtain ⟨F, α, S, ds, d3, w, r, e, k⟩ := h
  unfold lenO at e
  split at e
  · cases e
    obtain ⟨v, rfl, r1⟩ := r.one
    obtain ⟨a, vs, rfl, t, _, q⟩ := r1.lstH w
    exact ⟨_, _, rfl, .inl ⟨_, .of t, q.length⟩, k.val w (.int _)⟩
  · cases e
    obtain ⟨v, rfl, r1⟩ := r.one
    obtain ⟨a, vs, rfl, t, _, q⟩ := r1.tupH
    exact ⟨_, _, rfl, .inr ⟨_, same_tup w.sub t, q.length⟩, k.val w (.int _)⟩
  · cases e
    obtain ⟨v, rfl, r1⟩ := r.one
    obtain ⟨rfl, g⟩ := r1.strH
    exact ⟨_, _, rfl, ⟨by simpa [Str.length] using g.len, by simp [Str.length]⟩, k.val w (.int _)⟩
  · cases e
def absO : List D → Option D
  | [.int i] => some (.int (if i < 0 then -i else i))
  | _ => none
theorem call_absO : CallR X (.builtin "abs") (rC X G absO) := by
  refine callImp call_abs fun xs H Q h => ?_
  obtain ⟨F, α, S, ds, d3, w, r, e, k⟩ := h
  unfold absO at e
  split at e
  · cases e
    obtain ⟨v, rfl, r1⟩ := r.one
    exact ⟨_, by rw [r1.intH], k.val w (.int _)⟩
  · cases e
def intO : List D → Option D
  | [.int i] => some (.int i)
  | [.bl b] => some (.int (if b then 1 else 0))
  | _ => none
theorem call_intO : CallR X (.type "int") (rC X G intO) := by
  refine callImp call_int1 fun xs H Q h => ?_
  obtain ⟨F, α, S, ds, d3, w, r, e, k⟩ := h
  unfold intO at e
  split at e
  · cases e
    obtain ⟨v, rfl, r1⟩ := r.one
    exact .inl ⟨_, by rw [r1.intH], k.val w (.int _)⟩
  · cases e
    obtain ⟨v, rfl, r1⟩ := r.one
    exact .inr ⟨_, by rw [r1.blH], k.val w (.int _)⟩
  · cases e
/-- str(text) -/
def strSO : List D → Option D
  | [.str s] => some (.str s)
  | _ => none
theorem call_strSO : CallR X (.type "str") (rC X G strSO) := by
  refine callImp SkE.call_str_str fun xs H Q h => ?_
  obtain ⟨F, α, S, ds, d3, w, r, e, k⟩ := h
  unfold strSO at e
  split at e
  · cases e
    obtain ⟨v, rfl, r1⟩ := r.one
    obtain ⟨rfl, g⟩ := r1.strH
    exact ⟨_, rfl, k.val w (.str g)⟩
  · cases e
def tupO : List D → Option D
  | [.lst xs] => some (.tup xs)
  | [.tup xs] => some (.tup xs)
  | _ => none
theorem call_tupO : CallR X (.type "tuple") (rC X G tupO) := by
  refine callImp call_tuple_of fun xs H Q h => ?_
  obtain ⟨F, α, S, ds, d3, w, r, e, k⟩ := h
  unfold tupO at e
  split at e
  · cases e
    obtain ⟨v, rfl, r1⟩ := r.one
    obtain ⟨a, vs, rfl, t, z, q⟩ := r1.lstH w
    exact ⟨_, _, rfl, .inl ⟨.of t, fun l hl => k.tup w q z hl⟩⟩
  · cases e
    obtain ⟨v, rfl, r1⟩ := r.one
    obtain ⟨a, vs, rfl, t, z, q⟩ := r1.tupH
    exact ⟨_, _, rfl, .inr ⟨same_tup w.sub t, k.val w (.tup t z q)⟩⟩
  · cases e
def lstO : List D → Option D
  | [.lst xs] => some (.lst xs)
  | [.tup xs] => some (.lst xs)
  | [.scr ns] => if ns.length ≤ 63 then some (.lst (ns.map D.int)) else none
  | _ => none
theorem RpO.scrH {α : List Addr} {F H : Hp} {ns : List Int} {v : V} (r : RpO X.K G α H F (.scr ns) v) : ∃ a, v = .ref a ∧ SqL X.K F a (ns.map V.int) := by
  rcases r with r | ⟨o, a, h, e, _⟩
  · cases r with | scr h => exact ⟨_, rfl, h⟩
  · cases o <;> cases e
theorem call_lstO : CallR X (.type "list") (rC X G lstO) := by
  refine callImp call_list_of fun xs H Q h => ?_
  obtain ⟨F, α, S, ds, d3, w, r, e, k⟩ := h
  unfold lstO at e
  split at e
  · cases e
    obtain ⟨v, rfl, r1⟩ := r.one
    obtain ⟨a, vs, rfl, t, z, q⟩ := r1.lstH w
    exact ⟨_, _, rfl, .inl (.of t), fun l hl => k.lst w q z hl⟩
  · cases e
    obtain ⟨v, rfl, r1⟩ := r.one
    obtain ⟨a, vs, rfl, t, z, q⟩ := r1.tupH
    exact ⟨_, _, rfl, .inr (same_tup w.sub t), fun l hl => k.lst w q z hl⟩
  · split at e
    · rename_i hz
      cases e
      obtain ⟨v, rfl, r1⟩ := r.one
      obtain ⟨a, rfl, t⟩ := r1.scrH
      refine ⟨_, _, rfl, .inl (w.sub.seq t), fun l hl => k.lst w Rps.ints ?_ hl⟩
      rw [List.length_map, big_eq]
      show _ ≤ 16777216
      omega
    · cases e
  · cases e
/-- the signs of a text, a text each -/
def signs (s : List Nat) : List D := s.map fun c => .str [c]
def lstSO : List D → Option D
  | [.str s] => some (.lst (signs s))
  | _ => none
theorem signs_rps {K : PySem.W.Frag} {α : List Addr} {F : Hp} : ∀ {s : List Nat}, (∀ c ∈ s, c < 1114112) → Rps K G α F (signs s) (s.map fun c => V.str ⟨#[c]⟩)
  | [], _ => .nil
  | c :: s, h => .cons (.str ⟨by rw [big_eq]; show 1 ≤ 16777216; decide, fun x hx => by
      rw [List.mem_singleton] at hx
      rw [hx]
      exact h c List.mem_cons_self⟩) (signs_rps fun x hx => h x (List.mem_cons_of_mem _ hx))
theorem call_lstSO (hc : X.calm = true) : CallR X (.type "list") (rC X G lstSO) := by
  intro pins s σ H xs us Q I rx h
  obtain ⟨F, α, S, ds, d3, w, r, e, k⟩ := h
  unfold lstSO at e
  split at e
  · rename_i z
    cases e
    obtain ⟨v, e0, r0⟩ := r.one
    obtain ⟨e1, g⟩ := r0.strH
    subst e1
    subst e0
    obtain ⟨u, rfl, ru⟩ := vals1 rx
    obtain ⟨t, rfl⟩ := ru
    refine PySem.call_list_str (I.ok.hd hc) _ t (fun h' tk acc c' hk e' hi => ?_) (by simpa using g.len)
    have hv : Vals (z.map fun c => V.str ⟨#[c]⟩) acc.toList := by
      have el : acc.toList.length = z.length := by
        rw [Array.length_toList, hi.1]
        simp
      refine vals_of_at (by rw [List.length_map, el]) fun j y u hy hu => ?_
      rw [List.getElem?_map] at hy
      have hq := hi.2 j u (by rw [← hu, Array.getElem?_toList])
      obtain ⟨c, t', e1, e2⟩ := hq
      rw [List.getElem?_toArray] at e1
      rw [e1] at hy
      cases hy
      exact ⟨t', e2⟩
    have hl : (z.map fun c => V.str ⟨#[c]⟩).length ≤ sizeLine := by rw [List.length_map]; exact g.len
    refine ⟨.ref s.heap.objs.size, upd H s.heap.objs.size (.lst (z.map fun c => V.str ⟨#[c]⟩)), I.laid hk (Nat.le_refl _) ?_, rfl, k.lst w (signs_rps g.cod) hl (I.hok.fresh (Nat.le_refl _))⟩
    exact ⟨hl, acc.toList, c', hv, by rw [Array.toArray_toList]; exact e'⟩
  · cases e
end
end TM

set_option Elab.async false
set_option linter.all false
set_option maxRecDepth 20000
set_option autoImplicit false
namespace TM
open PySem PySem.Spec PyProof.Rows L2

def toInts : List D → Option (List Int)
  | [] => some []
  | .int i :: r => (toInts r).map (i :: ·)
  | _ :: _ => none
theorem toInts_eq : ∀ {xs : List D} {ns : List Int}, toInts xs = some ns → xs = ns.map D.int
  | [], _, h => by cases h; rfl
  | x :: xs, ns, h => by
    cases x <;> first | (cases h; done) | skip
    rename_i i
    have h : (toInts xs).map (i :: ·) = some ns := h
    cases q : toInts xs with
    | none => rw [q] at h; cases h
    | some ms => rw [q] at h; cases h; rw [toInts_eq q]; rfl
def toBls : List D → Option (List Bool)
  | [] => some []
  | .bl b :: r => (toBls r).map (b :: ·)
  | _ :: _ => none
theorem toBls_eq : ∀ {xs : List D} {ns : List Bool}, toBls xs = some ns → xs = ns.map D.bl
  | [], _, h => by cases h; rfl
  | x :: xs, ns, h => by
    cases x <;> first | (cases h; done) | skip
    rename_i i
    have h : (toBls xs).map (i :: ·) = some ns := h
    cases q : toBls xs with
    | none => rw [q] at h; cases h
    | some ms => rw [q] at h; cases h; rw [toBls_eq q]; rfl
def toStrs : List D → Option (List (List Nat))
  | [] => some []
  | .str b :: r => (toStrs r).map (b :: ·)
  | _ :: _ => none
theorem toStrs_eq : ∀ {xs : List D} {ns : List (List Nat)}, toStrs xs = some ns → xs = ns.map D.str
  | [], _, h => by cases h; rfl
  | x :: xs, ns, h => by
    cases x <;> first | (cases h; done) | skip
    rename_i i
    have h : (toStrs xs).map (i :: ·) = some ns := h
    cases q : toStrs xs with
    | none => rw [q] at h; cases h
    | some ms => rw [q] at h; cases h; rw [toStrs_eq q]; rfl
section
variable {K : PySem.W.Frag} {G : Glo} {α : List Addr} {F H : Hp} {S : Sto}
theorem Rps.intsV : ∀ {ns : List Int} {vs : List V}, Rps K G α F (ns.map D.int) vs → vs = ns.map V.int
  | [], _, h => by cases h; rfl
  | n :: ns, _, h => by
    cases h with
    | cons a t => cases a; rw [t.intsV]; rfl
theorem Rps.blsV : ∀ {ns : List Bool} {vs : List V}, Rps K G α F (ns.map D.bl) vs → vs = ns.map V.bl
  | [], _, h => by cases h; rfl
  | n :: ns, _, h => by
    cases h with
    | cons a t => cases a; rw [t.blsV]; rfl
theorem Rps.strsV : ∀ {ns : List (List Nat)} {vs : List V}, Rps K G α F (ns.map D.str) vs → vs = (ns.map fun s => (⟨s.toArray⟩ : Str)).map V.str ∧ ∀ s ∈ ns, SGood s
  | [], _, h => by cases h; exact ⟨rfl, fun s hs => by cases hs⟩
  | n :: ns, _, h => by
    cases h with
    | cons a t =>
      obtain ⟨e, g⟩ := t.strsV
      cases a with
      | str g0 =>
        rw [e]
        exact ⟨rfl, fun s hs => (List.mem_cons.mp hs).elim (fun z => by rw [z]; exact g0) (g s)⟩
/-- a list or a tuple, as a sequence -/
theorem RpO.seqH (w : Wd K G S H F α) {d : D} {ds : List D} {v : V} (h : d = .lst ds ∨ d = .tup ds) (r : RpO K G α H F d v) : ∃ a vs, v = .ref a ∧ (SqL K H a vs ∨ SqT K H a vs) ∧ vs.length ≤ sizeLine ∧ Rps K G α F ds vs := by
  rcases h with rfl | rfl
  · obtain ⟨a, vs, rfl, t, z, q⟩ := r.lstH w
    exact ⟨a, vs, rfl, .inl (.of t), z, q⟩
  · obtain ⟨a, vs, rfl, t, z, q⟩ := r.tupH
    exact ⟨a, vs, rfl, .inr (same_tup w.sub t), z, q⟩
end
def sumO : List D → Option D
  | [.lst xs] => (toInts xs).map fun ns => .int ns.sum
  | _ => none
def allO : List D → Option D
  | [.lst xs] => (toBls xs).map fun bs => .bl (bs.all id)
  | _ => none
def anyO : List D → Option D
  | [.lst xs] => (toBls xs).map fun bs => .bl (bs.any id)
  | _ => none
def max2O : List D → Option D
  | [.int i, .int j] => some (.int (if j > i then j else i))
  | _ => none
def min2O : List D → Option D
  | [.int i, .int j] => some (.int (if j < i then j else i))
  | _ => none
section
variable {X : Cx} {G : Glo}
theorem call_sumO (hc : X.calm = true) : CallR X (.builtin "sum") (rC X G sumO) := by
  refine callImp (cr_sum hc) fun xs H Q h => ?_
  obtain ⟨F, α, S, ds, d3, w, r, e, k⟩ := h
  unfold sumO at e
  split at e
  · rename_i xs
    obtain ⟨v, rfl, r1⟩ := r.one
    cases q : toInts xs with
    | none => rw [q] at e; cases e
    | some ns =>
      rw [q] at e
      cases e
      rw [toInts_eq q] at r1
      obtain ⟨a, vs, rfl, t, z, q⟩ := r1.lstH w
      rw [q.intsV] at t
      exact ⟨a, ns, rfl, .of t, k.val w (.int _)⟩
  · cases e
theorem call_allO (hc : X.calm = true) : CallR X (.builtin "all") (rC X G allO) := by
  refine callImp (cr_all hc) fun xs H Q h => ?_
  obtain ⟨F, α, S, ds, d3, w, r, e, k⟩ := h
  unfold allO at e
  split at e
  · rename_i xs
    obtain ⟨v, rfl, r1⟩ := r.one
    cases q : toBls xs with
    | none => rw [q] at e; cases e
    | some ns =>
      rw [q] at e
      cases e
      rw [toBls_eq q] at r1
      obtain ⟨a, vs, rfl, t, z, q⟩ := r1.lstH w
      rw [q.blsV] at t
      exact ⟨a, ns, rfl, .of t, k.val w (.bl _)⟩
  · cases e
theorem call_anyO (hc : X.calm = true) : CallR X (.builtin "any") (rC X G anyO) := by
  refine callImp (cr_any hc) fun xs H Q h => ?_
  obtain ⟨F, α, S, ds, d3, w, r, e, k⟩ := h
  unfold anyO at e
  split at e
  · rename_i xs
    obtain ⟨v, rfl, r1⟩ := r.one
    cases q : toBls xs with
    | none => rw [q] at e; cases e
    | some ns =>
      rw [q] at e
      cases e
      rw [toBls_eq q] at r1
      obtain ⟨a, vs, rfl, t, z, q⟩ := r1.lstH w
      rw [q.blsV] at t
      exact ⟨a, ns, rfl, .of t, k.val w (.bl _)⟩
  · cases e
theorem call_max2O (hc : X.calm = true) : CallR X (.builtin "max") (rC X G max2O) := by
  refine callImp (call_max2 hc) fun xs H Q h => ?_
  obtain ⟨F, α, S, ds, d3, w, r, e, k⟩ := h
  unfold max2O at e
  split at e
  · obtain ⟨v, u, rfl, r1, r2⟩ := r.two
    cases e
    exact ⟨_, _, by rw [r1.intH, r2.intH], k.val w (.int _)⟩
  · cases e
theorem call_min2O (hc : X.calm = true) : CallR X (.builtin "min") (rC X G min2O) := by
  refine callImp (call_min2 hc) fun xs H Q h => ?_
  obtain ⟨F, α, S, ds, d3, w, r, e, k⟩ := h
  unfold min2O at e
  split at e
  · obtain ⟨v, u, rfl, r1, r2⟩ := r.two
    cases e
    exact ⟨_, _, by rw [r1.intH, r2.intH], k.val w (.int _)⟩
  · cases e

/-! ### least and greatest of a list or tuple -/
def alkAll (xs : List D) : Bool := (toInts xs).isSome || (xs.all fun a => !isNon a && xs.all fun b => alk a b)
theorem alkAll_ok {xs : List D} (h : alkAll xs = true) : (∀ a ∈ xs, ∀ b ∈ xs, alk a b = true) ∧ ∀ a ∈ xs, isNon a = false := by
  unfold alkAll at h
  rw [Bool.or_eq_true] at h
  rcases h with h | h
  · cases q : toInts xs with
    | none => rw [q] at h; cases h
    | some ns =>
      rw [toInts_eq q]
      refine ⟨fun a ha b hb => ?_, fun a ha => ?_⟩
      · obtain ⟨i, _, rfl⟩ := List.mem_map.mp ha
        obtain ⟨j, _, rfl⟩ := List.mem_map.mp hb
        rfl
      · obtain ⟨i, _, rfl⟩ := List.mem_map.mp ha
        rfl
  · rw [List.all_eq_true] at h
    refine ⟨fun a ha b hb => ?_, fun a ha => ?_⟩
    · have := h a ha
      rw [Bool.and_eq_true, List.all_eq_true] at this
      exact this.2 b hb
    · have := h a ha
      rw [Bool.and_eq_true, Bool.not_eq_true'] at this
      exact this.1
def minV (x : D) (xs : List D) : D := xs.foldl (fun a y => if ltv y a then y else a) x
def maxV (x : D) (xs : List D) : D := xs.foldl (fun a y => if ltv a y then y else a) x
def bestO (f : D → List D → D) : List D → Option D
  | [.lst (x :: xs)] => if (x :: xs).all (pl 60) && alkAll (x :: xs) then some (f x xs) else none
  | [.tup (x :: xs)] => if (x :: xs).all (pl 60) && alkAll (x :: xs) then some (f x xs) else none
  | _ => none
mutual
theorem py_inj : ∀ (a b : D), a.py.plain = true → a.py = b.py → a = b
  | .non, b, _, e => by cases b <;> first | rfl | cases e
  | .bl _, b, _, e => by cases b <;> first | (cases e; rfl) | cases e
  | .int _, b, _, e => by cases b <;> first | (cases e; rfl) | cases e
  | .str s, b, _, e => by
    cases b <;> first | (cases e; done) | skip
    have e : PyData.str _ = PyData.str _ := e
    injection e with e
    injection e with e
    injection e with e
    rw [e]
  | .tup xs, b, p, e => by
    cases b <;> first | (cases e; done) | skip
    have e : PyData.tuple _ = PyData.tuple _ := e
    injection e with e
    rw [pys_inj _ _ p e]
  | .lst xs, b, p, e => by
    cases b <;> first | (cases e; done) | skip
    have e : PyData.list _ = PyData.list _ := e
    injection e with e
    rw [pys_inj _ _ p e]
  | .dic _ _, _, p, _ => by cases p
  | .set _, _, p, _ => by cases p
  | .fn _, _, p, _ => by cases p
  | .cls _, _, p, _ => by cases p
  | .ref _, _, p, _ => by cases p
  | .scr _, _, p, _ => by cases p
theorem pys_inj : ∀ (xs ys : List D), PyData.plainAll (pys xs) = true → pys xs = pys ys → xs = ys
  | [], [], _, _ => rfl
  | [], _ :: _, _, e => by cases e
  | _ :: _, [], _, e => by cases e
  | x :: xs, y :: ys, p, e => by
    have p' : (_ && _) = true := p
    rw [Bool.and_eq_true] at p'
    have e : _ :: _ = _ :: _ := e
    injection e with e1 e2
    rw [py_inj x y p'.1 e1, pys_inj xs ys p'.2 e2]
end
theorem alike_py {xs : List D} (h : alkAll xs = true) : PySem.W.AlikeAll (pys xs) := by
  obtain ⟨h1, h2⟩ := alkAll_ok h
  rw [pys_map]
  refine ⟨fun x hx y hy => ?_, fun x hx => ?_⟩
  · obtain ⟨a, ha, rfl⟩ := List.mem_map.mp hx
    obtain ⟨b, hb, rfl⟩ := List.mem_map.mp hy
    exact alk_py _ _ (h1 a ha b hb)
  · obtain ⟨a, ha, rfl⟩ := List.mem_map.mp hx
    exact non_py (h2 a ha)
theorem fold_py {L : List D} (g : D → D → Bool) (g' : PyData → PyData → Bool) (hg : ∀ a ∈ L, ∀ b ∈ L, g a b = g' a.py b.py) : ∀ (xs : List D) (x : D), x ∈ L → (∀ y ∈ xs, y ∈ L) →
    (xs.foldl (fun a y => if g y a then y else a) x).py = (pys xs).foldl (fun a y => if g' y a then y else a) x.py ∧ xs.foldl (fun a y => if g y a then y else a) x ∈ L
  | [], x, h, _ => ⟨rfl, h⟩
  | y :: xs, x, h, hs => by
    have hy := hs y List.mem_cons_self
    have ht := fun z hz => hs z (List.mem_cons_of_mem _ hz)
    show (List.foldl _ (if g y x then y else x) xs).py = List.foldl _ (if g' y.py x.py then y.py else x.py) (pys xs) ∧ List.foldl _ (if g y x then y else x) xs ∈ L
    rw [← hg y hy x h]
    cases g y x with
    | true => exact fold_py g g' hg xs y hy ht
    | false => exact fold_py g g' hg xs x h ht
theorem pl_mem {n : Nat} {xs : List D} (h : xs.all (pl n) = true) {a : D} (ha : a ∈ xs) : a.py.plain = true := (pl_ok n a (List.all_eq_true.mp h a ha)).1
theorem minV_py {x : D} {xs : List D} (h : alkAll (x :: xs) = true) (hp : (x :: xs).all (pl 60) = true) : (minV x xs).py = PySem.W.minD x.py (pys xs) ∧ minV x xs ∈ x :: xs :=
  fold_py (L := x :: xs) ltv PySem.W.dataLt (fun a ha b hb => ltv_py a b ((alkAll_ok h).1 a ha b hb) (pl_mem hp ha) (pl_mem hp hb)) xs x List.mem_cons_self fun y hy => List.mem_cons_of_mem _ hy
theorem maxV_py {x : D} {xs : List D} (h : alkAll (x :: xs) = true) (hp : (x :: xs).all (pl 60) = true) : (maxV x xs).py = PySem.W.maxD x.py (pys xs) ∧ maxV x xs ∈ x :: xs :=
  fold_py (L := x :: xs) (fun y a => ltv a y) (fun y a => PySem.W.dataLt a y) (fun a ha b hb => ltv_py b a ((alkAll_ok h).1 b hb a ha) (pl_mem hp hb) (pl_mem hp ha)) xs x List.mem_cons_self fun y hy => List.mem_cons_of_mem _ hy
theorem best_run (hc : X.calm = true) (hu : X.A.units + 64 < cLine) {id : String} {f : D → List D → D} {fp : PyData → List PyData → PyData}
    (hf : ∀ {x xs}, alkAll (x :: xs) = true → (x :: xs).all (pl 60) = true → (f x xs).py = fp x.py (pys xs) ∧ f x xs ∈ x :: xs)
    (rl : ∀ {s : Shared} {l : Addr} {vs : Array Value} {x : PyData} {xs : List PyData} {as : List Addr} {Q : Value → Shared → Prop}, X.A.handled = none → s.heap.IsList l vs → ReadsAll s.heap vs.toList (x :: xs) as → PySem.W.AlikeAll (x :: xs) → X.A.units + 1 + PyData.depthAll (x :: xs) < cLine →
      (∀ (i : Nat) v h' tk bs, vs[i]? = some v → Reads h' v (fp x xs) bs → (∀ b o, s.heap.get? b = some o → h'.get? b = some o) → Q v { s with heap := h', toks := tk }) → wpAny (model X.prog X.w) X.A (call (.builtin id) [.ref l]) Q X.xe s)
    (rt : ∀ {s : Shared} {l : Addr} {vs : Array Value} {x : PyData} {xs : List PyData} {as : List Addr} {Q : Value → Shared → Prop}, X.A.handled = none → s.heap.IsTuple l vs → ReadsAll s.heap vs.toList (x :: xs) as → PySem.W.AlikeAll (x :: xs) → X.A.units + 1 + PyData.depthAll (x :: xs) < cLine →
      (∀ (i : Nat) v h' tk bs, vs[i]? = some v → Reads h' v (fp x xs) bs → (∀ b o, s.heap.get? b = some o → h'.get? b = some o) → Q v { s with heap := h', toks := tk }) → wpAny (model X.prog X.w) X.A (call (.builtin id) [.ref l]) Q X.xe s) :
    CallR X (.builtin id) (rC X G (bestO f)) := by
  intro pins s σ H vs0 us Q I r0 h
  obtain ⟨F, α, S, ds, d3, w, r, e, k⟩ := h
  have key : ∀ (x : D) (xs : List D) (d : D), (d = .lst (x :: xs) ∨ d = .tup (x :: xs)) → ds = [d] → (if ((x :: xs).all (pl 60) && alkAll (x :: xs)) = true then some (f x xs) else none) = some d3 →
      wpAny (model X.prog X.w) X.A (call (.builtin id) us) (EP X pins σ Q) X.xe s := by
    intro x xs d hd hds e'
    subst hds
    split at e'
    · rename_i hp
      rw [Bool.and_eq_true] at hp
      cases e'
      obtain ⟨v, rfl, r1⟩ := r.one
      obtain ⟨hpl, hdep⟩ := pl_all hp.1
      obtain ⟨e1, e2⟩ := hf hp.2 hp.1
      have hdep' : X.A.units + 1 + PyData.depthAll (x.py :: pys xs) < cLine := by
        have : PyData.depthAll (x.py :: pys xs) ≤ 60 := hdep
        omega
      have fin : ∀ (a : Addr) (vs : List V) (its : List Value), Vals vs its → Rps X.K G α F (x :: xs) vs → ∀ (i : Nat) (u : Value) (h' : Heap) (tk : Nat) (bs : List Addr), its.toArray[i]? = some u → Reads h' u (fp x.py (pys xs)) bs → (∀ b o, s.heap.get? b = some o → h'.get? b = some o) → EP X pins σ Q u { s with heap := h', toks := tk } := by
        intro a vs its rv q i u h' tk bs hu hr hk
        have hu' : its[i]? = some u := by simpa using hu
        have hi : i < its.length := (List.getElem?_eq_some_iff.mp hu').1
        have hl1 := rv.length
        have hl2 := q.length
        have hix : i < (x :: xs).length := by omega
        obtain ⟨y, hy, ry⟩ := q.get (List.getElem?_eq_getElem hix)
        obtain ⟨u2, hu2, ru⟩ := rv.get hy
        rw [hu'] at hu2
        cases hu2
        have I1 : Inv X pins σ H { s with heap := h', toks := tk } := I.kept hk
        have hmem : (x :: xs)[i] ∈ x :: xs := List.getElem_mem hix
        obtain ⟨as, hr2⟩ := (RpO.reads (X := X) I1 w (.inl ry) ru (pl_mem hp.1 hmem))
        rw [← e1] at hr
        have hr3 : Reads h' u (x :: xs)[i].py as := hr2
        have eq := SeqAt.plain_unique _ _ _ _ _ (pl_mem hp.1 hmem) hr3 hr
        have eq2 := py_inj _ _ (pl_mem hp.1 hmem) eq
        rw [← eq2] at k
        exact ⟨y, H, I1, ru, k.val w ry⟩
      rcases hd with rfl | rfl
      · obtain ⟨a, vs, rfl, t, z, q⟩ := r1.lstH w
        obtain ⟨its, rv, pls, _⟩ := I.list (.of t)
        rw [Vals.ref1 r0]
        obtain ⟨as, hr⟩ := Dp.readsAll I _ _ its (q.dp w.sub hpl) rv
        exact rl (x := x.py) (xs := pys xs) (I.ok.hd hc) pls.isList (by rw [List.toList_toArray]; exact hr) (alike_py hp.2) hdep' (fin a vs its rv q)
      · obtain ⟨a, vs, rfl, t, z, q⟩ := r1.tupH
        obtain ⟨its, rv, pls, _⟩ := I.tuple (same_tup w.sub t)
        rw [Vals.ref1 r0]
        obtain ⟨as, hr⟩ := Dp.readsAll I _ _ its (q.dp w.sub hpl) rv
        exact rt (x := x.py) (xs := pys xs) (I.ok.hd hc) pls (by rw [List.toList_toArray]; exact hr) (alike_py hp.2) hdep' (fin a vs its rv q)
    · cases e'
  unfold bestO at e
  split at e
  · exact key _ _ _ (.inl rfl) rfl e
  · exact key _ _ _ (.inr rfl) rfl e
  · cases e
def minO := bestO minV
def maxO := bestO maxV
theorem call_minO (hc : X.calm = true) (hu : X.A.units + 64 < cLine) : CallR X (.builtin "min") (rC X G minO) :=
  best_run hc hu (fun h p => minV_py h p) (fun hh hl hr ha hu h => PySem.W.min_list_data hh hl hr ha hu h) (fun hh hl hr ha hu h => PySem.W.min_tuple_data hh hl hr ha hu h)
theorem call_maxO (hc : X.calm = true) (hu : X.A.units + 64 < cLine) : CallR X (.builtin "max") (rC X G maxO) :=
  best_run hc hu (fun h p => maxV_py h p) (fun hh hl hr ha hu h => PySem.W.max_list_data hh hl hr ha hu h) (fun hh hl hr ha hu h => PySem.W.max_tuple_data hh hl hr ha hu h)

/-! ### is -/
def isNonO (a b : D) : Option D := match b with
  | .non => (match a with | .ref _ => none | .fn _ => none | .cls _ => none | .set _ => none | _ => some (.bl (isNon a)))
  | _ => none
def notNonO (a b : D) : Option D := match b with
  | .non => (match a with | .ref _ => none | .fn _ => none | .cls _ => none | .set _ => none | _ => some (.bl (!isNon a)))
  | _ => none
theorem RpO.nonV {α : List Addr} {F H : Hp} {d : D} {v : V} (r : RpO X.K G α H F d v) (h : ∀ c, d ≠ .cls c) : decide (v = .non) = isNon d := by
  rcases r with r | ⟨o, a, h, e, rfl, _⟩
  · cases r <;> first | rfl | (exact absurd rfl (h _)) | simp [isNon]
  · subst e
    cases o <;> rfl
theorem op_isNonO : OpR X (compareOp .Is) (rD X G isNonO) := by
  refine opImp op_isN fun x y H Q h => ?_
  obtain ⟨F, α, S, d1, d2, d3, w, r1, r2, e, k⟩ := h
  cases d2 <;> first | (cases e; done) | skip
  refine ⟨r2.nonH, ?_⟩
  have hn : ∀ c, d1 ≠ .cls c := fun c z => by subst z; cases e
  rw [r1.nonV hn]
  have e2 : d3 = .bl (isNon d1) := by cases d1 <;> cases e <;> rfl
  rw [e2] at k
  exact k.val w (.bl _)
theorem op_notNonO : OpR X (compareOp .IsNot) (rD X G notNonO) := by
  refine opImp op_notN fun x y H Q h => ?_
  obtain ⟨F, α, S, d1, d2, d3, w, r1, r2, e, k⟩ := h
  cases d2 <;> first | (cases e; done) | skip
  refine ⟨r2.nonH, ?_⟩
  have hn : ∀ c, d1 ≠ .cls c := fun c z => by subst z; cases e
  rw [r1.nonV hn]
  have e2 : d3 = .bl (!isNon d1) := by cases d1 <;> cases e <;> rfl
  rw [e2] at k
  exact k.val w (.bl _)

/-! ### in -/
def memV (x : D) (xs : List D) : Bool := xs.any fun y => eqv y x
def inO (neg : Bool) (a b : D) : Option D := match b with
  | .lst xs => if pl 60 a && xs.all (pl 60) then some (.bl (memV a xs != neg)) else none
  | .tup xs => if pl 60 a && xs.all (pl 60) then some (.bl (memV a xs != neg)) else none
  | .str z => (match a with | .str [c] => some (.bl (decide (c ∈ z) != neg)) | _ => none)
  | _ => none
theorem memV_py {x : D} {xs : List D} (h : x.py.plain = true) (hs : PyData.plainAll (pys xs) = true) : ((pys xs).any fun y => PyData.eqv y x.py) = memV x xs := by
  induction xs with
  | nil => rfl
  | cons a xs ih =>
    have p' : (_ && _) = true := hs
    rw [Bool.and_eq_true] at p'
    show (PyData.eqv a.py x.py || (pys xs).any fun y => PyData.eqv y x.py) = (eqv a x || memV x xs)
    rw [ih p'.2, eqv_py a x p'.1 h]
theorem depth_in {A : Around} {xs : List PyData} {a : PyData} (hu : A.units + 64 < cLine) (h : a.depth ≤ 60) : A.units + 1 + min (PyData.depthAll xs) a.depth < cLine := by
  have := Nat.min_le_right (PyData.depthAll xs) a.depth
  omega
theorem op_inO (hu : X.A.units + 64 < cLine) : OpR X (compareOp .In) (rD X G (inO false)) := by
  intro pins s σ H x y v u Q I rx ry h
  obtain ⟨F, α, S, d1, d2, d3, w, r1, r2, e, k⟩ := h
  unfold inO at e
  split at e
  · split at e
    · rename_i xs hp
      rw [Bool.and_eq_true] at hp
      cases e
      obtain ⟨p1, z1⟩ := pl_ok 60 d1 hp.1
      obtain ⟨p2, _⟩ := pl_all hp.2
      obtain ⟨as, q1⟩ := r1.reads I w rx p1
      obtain ⟨bs, q2⟩ := r2.reads I w ry p2
      exact SeqAt.in_list_data q2 q1 p2 p1 (depth_in hu z1) (by rw [memV_py p1 p2]; exact of_bl I w (by rw [Bool.bne_false] at k; exact k))
    · cases e
  · split at e
    · rename_i xs hp
      rw [Bool.and_eq_true] at hp
      cases e
      obtain ⟨p1, z1⟩ := pl_ok 60 d1 hp.1
      obtain ⟨p2, _⟩ := pl_all hp.2
      obtain ⟨as, q1⟩ := r1.reads I w rx p1
      obtain ⟨bs, q2⟩ := r2.reads I w ry p2
      exact SeqAt.in_tuple_data q2 q1 p2 p1 (depth_in hu z1) (by rw [memV_py p1 p2]; exact of_bl I w (by rw [Bool.bne_false] at k; exact k))
    · cases e
  · split at e
    · cases e
      obtain ⟨e1, _⟩ := r1.strH
      obtain ⟨e2, _⟩ := r2.strH
      exact op_in_sign pins s σ H x y v u Q I rx ry ⟨_, _, e1, e2, by rw [Bool.bne_false] at k; simpa using k.val w (.bl _)⟩
    · cases e
  · cases e
theorem op_notInO (hu : X.A.units + 64 < cLine) : OpR X (compareOp .NotIn) (rD X G (inO true)) := by
  intro pins s σ H x y v u Q I rx ry h
  obtain ⟨F, α, S, d1, d2, d3, w, r1, r2, e, k⟩ := h
  unfold inO at e
  split at e
  · split at e
    · rename_i xs hp
      rw [Bool.and_eq_true] at hp
      cases e
      obtain ⟨p1, z1⟩ := pl_ok 60 d1 hp.1
      obtain ⟨p2, _⟩ := pl_all hp.2
      obtain ⟨as, q1⟩ := r1.reads I w rx p1
      obtain ⟨bs, q2⟩ := r2.reads I w ry p2
      exact SeqAt.notIn_list_data q2 q1 p2 p1 (depth_in hu z1) (by rw [memV_py p1 p2]; exact of_bl I w (by rw [Bool.bne_true] at k; exact k))
    · cases e
  · split at e
    · rename_i xs hp
      rw [Bool.and_eq_true] at hp
      cases e
      obtain ⟨p1, z1⟩ := pl_ok 60 d1 hp.1
      obtain ⟨p2, _⟩ := pl_all hp.2
      obtain ⟨as, q1⟩ := r1.reads I w rx p1
      obtain ⟨bs, q2⟩ := r2.reads I w ry p2
      exact SeqAt.notIn_tuple_data q2 q1 p2 p1 (depth_in hu z1) (by rw [memV_py p1 p2]; exact of_bl I w (by rw [Bool.bne_true] at k; exact k))
    · cases e
  · split at e
    · rename_i z c
      cases e
      obtain ⟨e1, _⟩ := r1.strH
      obtain ⟨e2, _⟩ := r2.strH
      exact op_notIn_sign pins s σ H x y v u Q I rx ry ⟨_, _, e1, e2, by rw [Bool.bne_true] at k; simpa using k.val w (.bl _)⟩
    · cases e
  · cases e
end
end TM

set_option Elab.async false
set_option linter.all false
set_option maxRecDepth 20000
set_option autoImplicit false
namespace TM
open PySem PySem.Spec PyProof.Rows L2

/-! ## expressions -/
inductive ERs where
  | ok (ds : List D) (S : Sto) | exc (x : Xc) (S : Sto) | stuck
abbrev Exs := Slots → Sto → ERs
abbrev RelDs := List Addr → Hp → Hp → List D → List V → Prop
def AsPost (K : PySem.W.Frag) (G : Glo) (W : WX) (R : RelDs) (σ : L2.St) (H F : Hp) (α : List Addr) (r : ERs) (Q : List V → Hp → Prop) : Prop := match r with
  | .ok d S' => ∀ v H' F' α', Wd K G S' H' F' α' → Stp H F α H' F' α' → R α' H' F' d v → Q v H'
  | .exc x S' => ∀ c dd H' F' α', Wd K G S' H' F' α' → Stp H F α H' F' α' → XRep K G α' H' F' x c dd → W c dd σ H'
  | .stuck => False
abbrev rPs (K : PySem.W.Frag) (G : Glo) : RelDs := fun α _ F d v => Rps K G α F d v
abbrev rOs (K : PySem.W.Frag) (G : Glo) : RelDs := fun α H F d v => RpOs K G α H F d v
section
variable {K : PySem.W.Frag} {G : Glo} {W : WX} {R : RelDs} {σ : L2.St} {H F H1 F1 : Hp} {α α1 : List Addr} {r : ERs} {Q Q' : List V → Hp → Prop}
theorem AsPost.later (s : Stp H F α H1 F1 α1) (p : AsPost K G W R σ H F α r Q) : AsPost K G W R σ H1 F1 α1 r Q := by
  cases r with
  | ok d S => exact fun v H' F' α' w s' q => p v H' F' α' w (s.trans s') q
  | exc x S => exact fun c dd H' F' α' w s' q => p c dd H' F' α' w (s.trans s') q
  | stuck => exact p
end
def ERs.bind (r : ERs) (g : List D → Sto → ER) : ER := match r with
  | .ok d S => g d S
  | .exc x S => .exc x S
  | .stuck => .stuck
def ER.binds (r : ER) (g : D → Sto → ERs) : ERs := match r with
  | .ok d S => g d S
  | .exc x S => .exc x S
  | .stuck => .stuck
def ERs.cons (d : D) (r : ERs) : ERs := match r with
  | .ok ds S => .ok (d :: ds) S
  | .exc x S => .exc x S
  | .stuck => .stuck
section
variable {K : PySem.W.Frag} {G : Glo} {W : WX} {R : RelDs} {R1 R2 : RelD} {σ : L2.St} {H F : Hp} {α : List Addr}
theorem AsPost.of_bind {r : ERs} {Q : List V → Hp → Prop} {Q' : VK} {g : List D → Sto → ER} (p : EPost K G W R1 σ H F α (r.bind g) Q')
    (k : ∀ d S1 v H1 F1 α1, r = .ok d S1 → Wd K G S1 H1 F1 α1 → Stp H F α H1 F1 α1 → R α1 H1 F1 d v → EPost K G W R1 σ H1 F1 α1 (g d S1) Q' → Q v H1) : AsPost K G W R σ H F α r Q := by
  cases r with
  | ok d S => exact fun v H' F' α' w s q => k d S v H' F' α' rfl w s q (p.later s)
  | exc x S => exact p
  | stuck => exact p
theorem EPost.of_binds {r : ER} {Q : List V → Hp → Prop} {Q' : VK} {g : D → Sto → ERs} (p : AsPost K G W R σ H F α (r.binds g) Q)
    (k : ∀ d S1 v H1 F1 α1, r = .ok d S1 → Wd K G S1 H1 F1 α1 → Stp H F α H1 F1 α1 → R1 α1 H1 F1 d v → AsPost K G W R σ H1 F1 α1 (g d S1) Q → Q' v H1) : EPost K G W R1 σ H F α r Q' := by
  cases r with
  | ok d S => exact fun v H' F' α' w s q => k d S v H' F' α' rfl w s q (p.later s)
  | exc x S => exact p
  | stuck => exact p
theorem AsPost.of_cons {r : ERs} {d : D} {Q Q' : List V → Hp → Prop} (p : AsPost K G W R σ H F α (r.cons d) Q)
    (k : ∀ ds S1 vs H1 F1 α1, r = .ok ds S1 → Wd K G S1 H1 F1 α1 → Stp H F α H1 F1 α1 → R α1 H1 F1 ds vs → AsPost K G W R σ H1 F1 α1 (.ok (d :: ds) S1) Q → Q' vs H1) : AsPost K G W R σ H F α r Q' := by
  cases r with
  | ok d S => exact fun v H' F' α' w s q => k d S v H' F' α' rfl w s q (AsPost.later s p)
  | exc x S => exact p
  | stuck => exact p
end
section
variable (X : Cx) (G : Glo) (e : Ent) (W : WX)
def tPs (f : Exs) : TA := fun σ H Q => ∃ ρ S F α, Ok X.K G e ρ S σ H F α ∧ AsPost X.K G W (rPs X.K G) σ H F α (f ρ S) Q
def tOs (f : Exs) : TA := fun σ H Q => ∃ ρ S F α, Ok X.K G e ρ S σ H F α ∧ AsPost X.K G W (rOs X.K G) σ H F α (f ρ S) Q
/-- a test -/
def tT (f : Ex) : TT := fun σ H Q => tO X G e W f σ H fun v H' => ∃ b, v = .bl b ∧ Q b H'
end
theorem pa_imp {X : Cx} {es : List Expr} {t t' : TA} (h : PA X es t) (hi : ∀ σ H Q, t' σ H Q → t σ H Q) : PA X es t' := ⟨fun pos pins s σ H Q I hq => h.run pos pins s σ H Q I (hi _ _ _ hq)⟩
theorem pt_imp {X : Cx} {ex : Expr} {t t' : TT} (h : PT X ex t) (hi : ∀ σ H Q, t' σ H Q → t σ H Q) : PT X ex t' := ⟨fun pins s σ H Q I hq => h.run pins s σ H Q I (hi _ _ _ hq)⟩
theorem pw_imp {X : Cx} {ex : Expr} {t t' : TT} (h : PW X ex t) (hi : ∀ σ H Q, t' σ H Q → t σ H Q) : PW X ex t' := ⟨fun w pins s σ H Q I hq => h.run w pins s σ H Q I (hi _ _ _ hq)⟩

theorem lift_post {K : PySem.W.Frag} {G : Glo} {W : WX} {σ : L2.St} {H F : Hp} {α : List Addr} {o : Option D} {S : Sto} {Q : VK} (p : EPost K G W (rP K G) σ H F α (lift o S) Q) : ∃ d, o = some d ∧ Kon K G S H F α d Q := by
  cases o with
  | none => exact p.elim
  | some d => exact ⟨d, rfl, p⟩

/-! mirrors -/
def binE (o : D → D → Option D) (f g : Ex) : Ex := fun ρ S => (f ρ S).bind fun a S1 => (g ρ S1).bind fun b S2 => lift (o a b) S2
def unE (o : D → Option D) (f : Ex) : Ex := fun ρ S => (f ρ S).bind fun a S1 => lift (o a) S1
def cstE (d : D) : Ex := fun _ S => .ok d S
def varE (i : Nat) : Ex := fun ρ S => match ρ[i]? with
  | some (some (.val d)) => .ok d S
  | _ => .stuck
/-- a slot read as an operand: its own thing too -/
def ownE (i : Nat) : Ex := fun ρ S => match ρ[i]? with
  | some (some (.val d)) => .ok d S
  | some (some (.own o)) => .ok o.toD S
  | _ => .stuck
def nilEs : Exs := fun _ S => .ok [] S
def consEs (f : Ex) (g : Exs) : Exs := fun ρ S => (f ρ S).binds fun a S1 => (g ρ S1).cons a
/-- a display: not too long -/
def dispE (mk : List D → D) (f : Exs) : Ex := fun ρ S => (f ρ S).bind fun ds S1 => if ds.length ≤ big then .ok (mk ds) S1 else .stuck
def callE (o : List D → Option D) (f : Exs) : Ex := fun ρ S => (f ρ S).bind fun ds S1 => lift (o ds) S1
def truD : D → Option Bool
  | .non => some false
  | .bl b => some b
  | .int i => some (i != 0)
  | .str s => some (!s.isEmpty)
  | .tup xs => some (!xs.isEmpty)
  | .lst xs => some (!xs.isEmpty)
  | _ => none
def truE (f : Ex) : Ex := unE (fun d => (truD d).map D.bl) f
def ifE (c a b : Ex) : Ex := fun ρ S => (c ρ S).bind fun k S1 => match k with
  | .bl true => a ρ S1
  | .bl false => b ρ S1
  | _ => .stuck
def andE (a b : Ex) : Ex := fun ρ S => (a ρ S).bind fun d S1 => match truD d with
  | some true => b ρ S1
  | some false => .ok d S1
  | none => .stuck
def orE (a b : Ex) : Ex := fun ρ S => (a ρ S).bind fun d S1 => match truD d with
  | some true => .ok d S1
  | some false => b ρ S1
  | none => .stuck
def notE (a : Ex) : Ex := unE (fun d => (truD d).map fun b => D.bl (!b)) a

section
variable {X : Cx} {G : Glo} {e : Ent} {W : WX} {f g h : Ex} {fs gs : Exs} {a b c : Expr} {es : List Expr} {pos p : Pos}
/-- two operands -/
theorem two_post {o : D → D → Option D} {σ : L2.St} {H : Hp} {Q : VK} (q : tE X G e W (binE o f g) σ H Q) : tO X G e W f σ H fun x H1 => tO X G e W g σ H1 fun y H2 => rD X G o x y H2 Q := by
  obtain ⟨ρ, S, F, α, k, p⟩ := q
  refine ⟨ρ, S, F, α, k, EPost.of_bind p fun d1 S1 v H1 F1 α1 _ w1 s1 r1 p1 => ?_⟩
  refine ⟨ρ, S1, F1, α1, k.step w1 s1, EPost.of_bind p1 fun d2 S2 u H2 F2 α2 _ w2 s2 r2 p2 => ?_⟩
  obtain ⟨d3, e3, k3⟩ := lift_post p2
  exact ⟨F2, α2, S2, d1, d2, d3, w2, r1.step s2, r2, e3, k3⟩
theorem pe_bin {op : Operator} {o : D → D → Option D} (ho : OpR X (binaryOp op) (rD X G o)) (ha : PE X a (tO X G e W f)) (hb : PE X b (tO X G e W g)) : PE X (.BinOp a op b pos) (tE X G e W (binE o f g)) :=
  pe_imp (pe_op ho ha hb) fun _ _ _ q => two_post q
theorem pe_cm {op : CmpOp} {o : D → D → Option D} (ho : OpR X (compareOp op) (rD X G o)) (ha : PE X a (tO X G e W f)) (hb : PE X b (tO X G e W g)) (hm : behindInMarks op b = false) : PE X (.Compare a [op] [b] pos) (tE X G e W (binE o f g)) :=
  pe_imp (pe_cmpR ho ha hb hm) fun _ _ _ q => two_post q
theorem to_of_te {σ : L2.St} {H : Hp} {Q : VK} (q : tO X G e W f σ H Q) : tE X G e W f σ H Q := by
  obtain ⟨ρ, S, F, α, k, p⟩ := q
  refine ⟨ρ, S, F, α, k, ?_⟩
  revert p
  cases f ρ S with
  | ok d S' => exact fun p v H' F' α' w s q => p v H' F' α' w s (.inl q)
  | exc x S' => exact fun p => p
  | stuck => exact fun p => p
theorem te_imp {σ : L2.St} {H : Hp} {Q Q' : VK} (q : tE X G e W f σ H Q) (hi : ∀ v H1, Q v H1 → Q' v H1) : tE X G e W f σ H Q' := by
  obtain ⟨ρ, S, F, α, k, p⟩ := q
  refine ⟨ρ, S, F, α, k, ?_⟩
  revert p
  cases f ρ S with
  | ok d S' => exact fun p v H' F' α' w s q => hi _ _ (p v H' F' α' w s q)
  | exc x S' => exact fun p => p
  | stuck => exact fun p => p
theorem pt_cm {op : CmpOp} {o : D → D → Option D} (ho : OpR X (compareOp op) (rD X G o)) (ha : PE X a (tO X G e W f)) (hb : PE X b (tO X G e W g)) (hm : behindInMarks op b = false) : PT X (.Compare a [op] [b] pos) (tT X G e W (binE o f g)) :=
  pt_imp (pt_cmpR ho ha hb hm) fun _ _ _ q => two_post (to_of_te q)
/-- a < b < c -/
def chE (o o' : D → D → Option D) (f g h : Ex) : Ex := fun ρ S => (f ρ S).bind fun a S1 => (g ρ S1).bind fun b S2 => match o a b with
  | some (.bl true) => (h ρ S2).bind fun c S3 => lift (o' b c) S3
  | some (.bl false) => .ok (.bl false) S2
  | _ => .stuck
theorem ch_post {o o' : D → D → Option D} {σ : L2.St} {H : Hp} {Q : VK} (q : tE X G e W (chE o o' f g h) σ H Q) : tChain (rD X G o) (rD X G o') (tO X G e W f) (tO X G e W g) (tO X G e W h) σ H Q := by
  obtain ⟨ρ, S, F, α, k, p⟩ := q
  refine ⟨ρ, S, F, α, k, EPost.of_bind p fun d1 S1 v H1 F1 α1 _ w1 s1 r1 p1 => ?_⟩
  refine ⟨ρ, S1, F1, α1, k.step w1 s1, EPost.of_bind p1 fun d2 S2 u H2 F2 α2 _ w2 s2 r2 p2 => ?_⟩
  have k2 := (k.step w1 s1).step w2 s2
  generalize e3 : o d1 d2 = od at p2
  cases od with
  | none => exact p2.elim
  | some d3 =>
    cases d3 with
    | bl z =>
      refine ⟨F2, α2, S2, d1, d2, _, w2, r1.step s2, r2, e3, fun zv H3 F3 α3 w3 s3 r3 => ?_⟩
      cases r3
      cases z with
      | false => exact ⟨false, rfl, p2 _ _ _ _ w3 s3 (.bl false)⟩
      | true =>
        refine ⟨true, rfl, ρ, S2, F3, α3, k2.step w3 s3, EPost.of_bind (EPost.later s3 p2) fun d4 S4 v4 H4 F4 α4 _ w4 s4 r4 p4 => ?_⟩
        obtain ⟨d5, e5, k5⟩ := lift_post p4
        exact ⟨F4, α4, S4, d2, d4, d5, w4, (r2.step s3).step s4, r4, e5, k5⟩
    | _ => exact p2.elim
theorem pe_ch {op op' : CmpOp} {o o' : D → D → Option D} (ho : OpR X (compareOp op) (rD X G o)) (ho' : OpR X (compareOp op') (rD X G o')) (ha : PE X a (tO X G e W f)) (hb : PE X b (tO X G e W g)) (hc : PE X c (tO X G e W h))
    (hm : lastMarks [op, op'] [b, c] = false) : PE X (.Compare a [op, op'] [b, c] pos) (tE X G e W (chE o o' f g h)) :=
  pe_imp (pe_chain ho ho' ha hb hc hm) fun _ _ _ q => ch_post q
theorem pt_ch {op op' : CmpOp} {o o' : D → D → Option D} (ho : OpR X (compareOp op) (rD X G o)) (ho' : OpR X (compareOp op') (rD X G o')) (ha : PE X a (tO X G e W f)) (hb : PE X b (tO X G e W g)) (hc : PE X c (tO X G e W h))
    (hm : lastMarks [op, op'] [b, c] = false) : PT X (.Compare a [op, op'] [b, c] pos) (tT X G e W (chE o o' f g h)) :=
  pt_imp (pt_chain ho ho' ha hb hc hm) fun _ _ _ q => ch_post (to_of_te q)
/-! names, constants -/
theorem pe_v {i : Nat} {x : Str} (hN : X.N[i]? = some x) (hv : Vis X.env.scope x) (hd : (x == ("__debug__" : Str)) = false) (hcd : (x == ("__classdict__" : Str)) = false) : PE X (.Name x pos) (tE X G e W (varE i)) :=
  pe_imp (pe_var (i := i) hN hv hd hcd) fun σ H Q ⟨ρ, S, F, α, k, p⟩ => by
    unfold varE at p
    split at p
    · rename_i d hi
      obtain ⟨x, hx, q⟩ := k.sl i _ hi
      cases q with
      | val r => exact ⟨_, hx, p _ _ _ _ k.wd (.refl _ _ _) r⟩
    · exact p.elim
theorem pe_ov {i : Nat} {x : Str} (hN : X.N[i]? = some x) (hv : Vis X.env.scope x) (hd : (x == ("__debug__" : Str)) = false) (hcd : (x == ("__classdict__" : Str)) = false) : PE X (.Name x pos) (tO X G e W (ownE i)) :=
  pe_imp (pe_var (i := i) hN hv hd hcd) fun σ H Q ⟨ρ, S, F, α, k, p⟩ => by
    unfold ownE at p
    split at p
    · rename_i d hi
      obtain ⟨x, hx, q⟩ := k.sl i _ hi
      cases q with
      | val r => exact ⟨_, hx, p _ _ _ _ k.wd (.refl _ _ _) (.inl r)⟩
    · rename_i o hi
      obtain ⟨x, hx, q⟩ := k.sl i _ hi
      cases q with
      | own h1 h2 h3 h4 h5 => exact ⟨_, hx, p _ _ _ _ k.wd (.refl _ _ _) (.inr ⟨o, _, _, rfl, rfl, h1, h3, h5⟩)⟩
    · exact p.elim
theorem pe_c {v : V} {d : D} {ex : Expr} (h : PE X ex (tC v)) (r : ∀ α F, Rp X.K G α F d v) : PE X ex (tE X G e W (cstE d)) :=
  pe_imp h fun σ H Q ⟨ρ, S, F, α, k, p⟩ => p _ _ _ _ k.wd (.refl _ _ _) (r _ _)
/-! argument lists, displays, calls of built-ins -/
theorem pa_n : PA X [] (tPs X G e W nilEs) := pa_imp pa_nil fun σ H Q ⟨ρ, S, F, α, k, p⟩ => p _ _ _ _ k.wd (.refl _ _ _) .nil
theorem pa_nO : PA X [] (tOs X G e W nilEs) := pa_imp pa_nil fun σ H Q ⟨ρ, S, F, α, k, p⟩ => p _ _ _ _ k.wd (.refl _ _ _) .nil
theorem pa_c (ha : PE X a (tE X G e W f)) (hr : PA X es (tPs X G e W gs)) (hs : starEach (a :: es) X.env = (false, eval a X.env) :: starEach es X.env) : PA X (a :: es) (tPs X G e W (consEs f gs)) :=
  pa_imp (pa_cons ha hr hs) fun σ H Q ⟨ρ, S, F, α, k, p⟩ => by
    refine ⟨ρ, S, F, α, k, EPost.of_binds p fun d1 S1 v H1 F1 α1 _ w1 s1 r1 p1 => ?_⟩
    refine ⟨ρ, S1, F1, α1, k.step w1 s1, AsPost.of_cons p1 fun ds S2 vs H2 F2 α2 _ w2 s2 r2 p2 => ?_⟩
    exact p2 _ _ _ _ w2 (.refl _ _ _) (.cons (Rp.mono s2.f s2.pre r1) r2)
theorem pa_cO (ha : PE X a (tO X G e W f)) (hr : PA X es (tOs X G e W gs)) (hs : starEach (a :: es) X.env = (false, eval a X.env) :: starEach es X.env) : PA X (a :: es) (tOs X G e W (consEs f gs)) :=
  pa_imp (pa_cons ha hr hs) fun σ H Q ⟨ρ, S, F, α, k, p⟩ => by
    refine ⟨ρ, S, F, α, k, EPost.of_binds p fun d1 S1 v H1 F1 α1 _ w1 s1 r1 p1 => ?_⟩
    refine ⟨ρ, S1, F1, α1, k.step w1 s1, AsPost.of_cons p1 fun ds S2 vs H2 F2 α2 _ w2 s2 r2 p2 => ?_⟩
    exact p2 _ _ _ _ w2 (.refl _ _ _) (.cons (r1.step s2) r2)
theorem le_line {n : Nat} (h : n ≤ big) : n ≤ sizeLine := by rw [big_eq]; exact h
theorem pe_l (ha : PA X es (tPs X G e W fs)) : PE X (.List es pos) (tE X G e W (dispE D.lst fs)) :=
  pe_imp (pe_lst ha) fun σ H Q ⟨ρ, S, F, α, k, p⟩ => by
    refine ⟨ρ, S, F, α, k, AsPost.of_bind p fun ds S1 vs H1 F1 α1 _ w1 s1 r1 p1 => ?_⟩
    split at p1
    · rename_i hz
      have hz' := le_line (by rw [r1.length] at hz; exact hz)
      exact ⟨hz', fun l hl => Kon.lst (k := p1) w1 r1 hz' hl⟩
    · exact p1.elim
theorem pe_t {x1} (ha : PA X es (tPs X G e W fs)) : PE X (.Tuple es x1 pos) (tE X G e W (dispE D.tup fs)) :=
  pe_imp (pe_tup ha) fun σ H Q ⟨ρ, S, F, α, k, p⟩ => by
    refine ⟨ρ, S, F, α, k, AsPost.of_bind p fun ds S1 vs H1 F1 α1 _ w1 s1 r1 p1 => ?_⟩
    split at p1
    · rename_i hz
      have hz' := le_line (by rw [r1.length] at hz; exact hz)
      exact ⟨hz', fun l hl => Kon.tup (k := p1) w1 r1 hz' hl⟩
    · exact p1.elim
theorem call_post {o : List D → Option D} {σ : L2.St} {H : Hp} {Q : VK} (q : tE X G e W (callE o fs) σ H Q) : tOs X G e W fs σ H fun xs H1 => rC X G o xs H1 Q := by
  obtain ⟨ρ, S, F, α, k, p⟩ := q
  refine ⟨ρ, S, F, α, k, AsPost.of_bind p fun ds S1 vs H1 F1 α1 _ w1 s1 r1 p1 => ?_⟩
  obtain ⟨d3, e3, k3⟩ := lift_post p1
  exact ⟨F1, α1, S1, ds, d3, w1, r1, e3, k3⟩
theorem pe_cB {id : String} {x : Str} {o : List D → Option D} (hc : CallR X (.builtin id) (rC X G o)) (hg : Gl X x) (hm : X.mg x = none) (hv : bootBuiltins x = some (.builtin id)) (ha : PA X (a :: es) (tOs X G e W fs)) (hn : x ≠ "__name__") (hdb : (x == ("__debug__" : Str)) = false)
    (he : starEach (a :: es) X.env = (false, eval a X.env) :: starEach es X.env) (hpl : (backTo pos (starEach es X.env)).any (·.1) = false) : PE X (.Call (.Name x p) (a :: es) [] pos) (tE X G e W (callE o fs)) :=
  pe_imp (pe_callB hc hg hm hv ha hn hdb he hpl) fun _ _ _ q => call_post q
theorem pe_cTy {T : String} {x : Str} {o : List D → Option D} (hc : CallR X (.type T) (rC X G o)) (hg : Gl X x) (hm : X.mg x = none) (hv : bootBuiltins x = some (.type T)) (ha : PA X (a :: es) (tOs X G e W fs)) (hn : x ≠ "__name__") (hdb : (x == ("__debug__" : Str)) = false)
    (he : starEach (a :: es) X.env = (false, eval a X.env) :: starEach es X.env) (hpl : (backTo pos (starEach es X.env)).any (·.1) = false) : PE X (.Call (.Name x p) (a :: es) [] pos) (tE X G e W (callE o fs)) :=
  pe_imp (pe_callTy hc hg hm hv ha hn hdb he hpl) fun _ _ _ q => call_post q
/-! truth -/
theorem RpO.tru {α : List Addr} {F H : Hp} {S : Sto} (w : Wd X.K G S H F α) {d : D} {v : V} (r : RpO X.K G α H F d v) {k : Bool} (h : truD d = some k) : TruV X.K v H k := by
  have em : ∀ {ds : List D} {vs : List V}, ds.length = vs.length → (!vs.isEmpty) = (!ds.isEmpty) := fun {ds vs} e => by
    cases ds <;> cases vs <;> first | rfl | cases e
  cases d <;> first | (cases h; done) | skip
  · cases h; rw [r.nonH]; rfl
  · cases h; rw [r.blH]; rfl
  · cases h; rw [r.intH]; rfl
  · rename_i s
    cases h
    obtain ⟨rfl, g⟩ := r.strH
    refine ⟨by simpa [Str.length] using g.len, ?_⟩
    cases s with
    | nil => rfl
    | cons x xs =>
      show true = ((((x :: xs).toArray.size : Nat) : Int) != 0)
      rw [List.size_toArray, List.length_cons]
      exact (bne_iff_ne.mpr (by omega)).symm
  · cases h
    obtain ⟨a, vs, rfl, t, _, q⟩ := r.tupH
    exact .inr (.inl ⟨vs, same_tup w.sub t, (em q.length).symm⟩)
  · cases h
    obtain ⟨a, vs, rfl, t, _, q⟩ := r.lstH w
    exact .inl ⟨vs, .of t, (em q.length).symm⟩
theorem tru_post {σ : L2.St} {H : Hp} {Q : Bool → Hp → Prop} (q : tT X G e W (truE f) σ H Q) : tO X G e W f σ H fun v H1 => ∃ k, TruV X.K v H1 k ∧ Q k H1 := by
  obtain ⟨ρ, S, F, α, k, p⟩ := to_of_te q
  refine ⟨ρ, S, F, α, k, EPost.of_bind p fun d S1 v H1 F1 α1 _ w1 s1 r1 p1 => ?_⟩
  obtain ⟨d3, e3, k3⟩ := lift_post p1
  have e3 : (truD d).map D.bl = some d3 := e3
  cases t : truD d with
  | none => rw [t] at e3; cases e3
  | some z =>
    rw [t] at e3
    cases e3
    obtain ⟨b, eb, qb⟩ := k3.val w1 (.bl z)
    cases eb
    exact ⟨_, r1.tru w1 t, qb⟩
theorem pt_tr (ha : PE X a (tO X G e W f)) (he : ∀ whole, isTrue a X.env whole = (do let v ← whole; standAt a.pos; holding [v] (truthy v))) : PT X a (tT X G e W (truE f)) :=
  pt_imp (pt_truth ha he) fun _ _ _ q => tru_post q
theorem tT_if {k : Ex} {σ : L2.St} {H : Hp} {Q : VK} (q : tE X G e W (ifE k f g) σ H Q) : tT X G e W k σ H fun c H1 => if c = true then tE X G e W f σ H1 Q else tE X G e W g σ H1 Q := by
  obtain ⟨ρ, S, F, α, o, p⟩ := q
  refine ⟨ρ, S, F, α, o, EPost.of_bind p fun d S1 v H1 F1 α1 _ w1 s1 r1 p1 => ?_⟩
  cases d with
  | bl z =>
    rw [r1.blH]
    refine ⟨z, rfl, ?_⟩
    cases z with
    | true => exact iteT ⟨ρ, S1, F1, α1, o.step w1 s1, p1⟩
    | false => exact iteF ⟨ρ, S1, F1, α1, o.step w1 s1, p1⟩
  | _ => exact p1.elim
theorem pe_if {k : Ex} (hc : PT X c (tT X G e W k)) (ha : PE X a (tE X G e W f)) (hb : PE X b (tE X G e W g)) : PE X (.IfExp c a b pos) (tE X G e W (ifE k f g)) :=
  pe_imp (pe_ifExp hc ha hb) fun _ _ _ q => tT_if q
/-! and, or, not as tests -/
theorem pw_and1' (ha : PT X a (tT X G e W f)) : PW X (.BoolOp .And [a] pos) (tT X G e W f) := pw_and1 ha
theorem pw_or1' (ha : PT X a (tT X G e W f)) : PW X (.BoolOp .Or [a] pos) (tT X G e W f) := pw_or1 ha
theorem tT_val {σ : L2.St} {H : Hp} {Q : Bool → Hp → Prop} {ρ : Slots} {S : Sto} {F : Hp} {α : List Addr} {z : Bool} (p : EPost X.K G W (rO X.K G) σ H F α (.ok (.bl z) S) fun v H' => ∃ b, v = .bl b ∧ Q b H') (w : Wd X.K G S H F α) : Q z H := by
  obtain ⟨b, eb, qb⟩ := p _ _ _ _ w (.refl _ _ _) (.inl (.bl z))
  cases eb
  exact qb
def andT (a b : Ex) : Ex := ifE a b (cstE (.bl false))
def orT (a b : Ex) : Ex := ifE a (cstE (.bl true)) b
theorem and_post {σ : L2.St} {H : Hp} {Q : Bool → Hp → Prop} (q : tT X G e W (andT f g) σ H Q) : tT X G e W f σ H fun c H1 => if c = true then tT X G e W g σ H1 Q else Q false H1 := by
  obtain ⟨ρ, S, F, α, o, p⟩ := q
  refine ⟨ρ, S, F, α, o, EPost.of_bind p fun d S1 v H1 F1 α1 _ w1 s1 r1 p1 => ?_⟩
  cases d with
  | bl z =>
    rw [r1.blH]
    refine ⟨z, rfl, ?_⟩
    cases z with
    | true => exact iteT ⟨ρ, S1, F1, α1, o.step w1 s1, p1⟩
    | false => exact iteF (tT_val (ρ := ρ) p1 w1)
  | _ => exact p1.elim
theorem or_post {σ : L2.St} {H : Hp} {Q : Bool → Hp → Prop} (q : tT X G e W (orT f g) σ H Q) : tT X G e W f σ H fun c H1 => if c = true then Q true H1 else tT X G e W g σ H1 Q := by
  obtain ⟨ρ, S, F, α, o, p⟩ := q
  refine ⟨ρ, S, F, α, o, EPost.of_bind p fun d S1 v H1 F1 α1 _ w1 s1 r1 p1 => ?_⟩
  cases d with
  | bl z =>
    rw [r1.blH]
    refine ⟨z, rfl, ?_⟩
    cases z with
    | true => exact iteT (tT_val (ρ := ρ) p1 w1)
    | false => exact iteF ⟨ρ, S1, F1, α1, o.step w1 s1, p1⟩
  | _ => exact p1.elim
variable {rest : List Expr}
theorem pw_and' (ha : PT X a (tT X G e W f)) (hb : PW X (.BoolOp .And (b :: rest) pos) (tT X G e W g)) : PW X (.BoolOp .And (a :: b :: rest) pos) (tT X G e W (andT f g)) :=
  pw_imp (pw_and ha hb) fun _ _ _ q => and_post q
theorem pw_or' (ha : PT X a (tT X G e W f)) (hb : PW X (.BoolOp .Or (b :: rest) pos) (tT X G e W g)) : PW X (.BoolOp .Or (a :: b :: rest) pos) (tT X G e W (orT f g)) :=
  pw_imp (pw_or ha hb) fun _ _ _ q => or_post q
def notT (a : Ex) : Ex := ifE a (cstE (.bl false)) (cstE (.bl true))
theorem pt_not' (ha : PT X a (tT X G e W f)) : PT X (.UnaryOp .Not a pos) (tT X G e W (notT f)) :=
  pt_imp (pt_not ha) fun σ H Q q => by
    obtain ⟨ρ, S, F, α, o, p⟩ := q
    refine ⟨ρ, S, F, α, o, EPost.of_bind p fun d S1 v H1 F1 α1 _ w1 s1 r1 p1 => ?_⟩
    cases d with
    | bl z =>
      rw [r1.blH]
      refine ⟨z, rfl, ?_⟩
      cases z with
      | true => exact tT_val (ρ := ρ) p1 w1
      | false => exact tT_val (ρ := ρ) p1 w1
    | _ => exact p1.elim
/-! and, or, not as values -/
theorem andV_post {σ : L2.St} {H : Hp} {Q : VK} (q : tE X G e W (andE f g) σ H Q) : tAndT X.K (tE X G e W f) (tE X G e W g) σ H Q := by
  obtain ⟨ρ, S, F, α, o, p⟩ := q
  refine ⟨ρ, S, F, α, o, EPost.of_bind p fun d S1 v H1 F1 α1 _ w1 s1 r1 p1 => ?_⟩
  have r1' : RpO X.K G α1 H1 F1 d v := .inl r1
  cases t : truD d with
  | none => rw [t] at p1; exact p1.elim
  | some z =>
    rw [t] at p1
    refine ⟨z, r1'.tru w1 t, ?_⟩
    cases z with
    | true => exact iteT ⟨ρ, S1, F1, α1, o.step w1 s1, p1⟩
    | false => exact iteF (p1 _ _ _ _ w1 (.refl _ _ _) r1)
theorem orV_post {σ : L2.St} {H : Hp} {Q : VK} (q : tE X G e W (orE f g) σ H Q) : tOrT X.K (tE X G e W f) (tE X G e W g) σ H Q := by
  obtain ⟨ρ, S, F, α, o, p⟩ := q
  refine ⟨ρ, S, F, α, o, EPost.of_bind p fun d S1 v H1 F1 α1 _ w1 s1 r1 p1 => ?_⟩
  have r1' : RpO X.K G α1 H1 F1 d v := .inl r1
  cases t : truD d with
  | none => rw [t] at p1; exact p1.elim
  | some z =>
    rw [t] at p1
    refine ⟨z, r1'.tru w1 t, ?_⟩
    cases z with
    | true => exact iteT (p1 _ _ _ _ w1 (.refl _ _ _) r1)
    | false => exact iteF ⟨ρ, S1, F1, α1, o.step w1 s1, p1⟩
theorem pe_and' (ha : PE X a (tE X G e W f)) (hb : PE X (.BoolOp .And (b :: rest) pos) (tE X G e W g)) : PE X (.BoolOp .And (a :: b :: rest) pos) (tE X G e W (andE f g)) :=
  pe_imp (pe_andT ha hb) fun _ _ _ q => andV_post q
theorem pe_or' (ha : PE X a (tE X G e W f)) (hb : PE X (.BoolOp .Or (b :: rest) pos) (tE X G e W g)) : PE X (.BoolOp .Or (a :: b :: rest) pos) (tE X G e W (orE f g)) :=
  pe_imp (pe_orT ha hb) fun _ _ _ q => orV_post q
theorem pe_not' (ha : PE X a (tO X G e W f)) : PE X (.UnaryOp .Not a pos) (tE X G e W (notE f)) :=
  pe_imp (pe_notT ha) fun σ H Q q => by
    obtain ⟨ρ, S, F, α, o, p⟩ := q
    refine ⟨ρ, S, F, α, o, EPost.of_bind p fun d S1 v H1 F1 α1 _ w1 s1 r1 p1 => ?_⟩
    obtain ⟨d3, e3, k3⟩ := lift_post p1
    have e3 : ((truD d).map fun b => D.bl (!b)) = some d3 := e3
    cases t : truD d with
    | none => rw [t] at e3; cases e3
    | some z =>
      rw [t] at e3
      cases e3
      exact ⟨z, r1.tru w1 t, k3.val w1 (.bl _)⟩
end
end TM

set_option Elab.async false
set_option linter.all false
set_option maxRecDepth 20000
set_option autoImplicit false
namespace TM
open PySem PySem.Spec PyProof.Rows L2

/-! ## subscripts, slices, texts' methods -/
def ixO (a b : D) : Option D := match a, b with
  | .lst xs, .int i => atI xs i
  | .tup xs, .int i => atI xs i
  | .str s, .int i => (atI s i).map fun c => .str [c]
  | _, _ => none
section
variable {X : Cx} {G : Glo} {e : Ent} {W : WX} {f g h : Ex} {fs gs : Exs} {a b c : Expr} {es : List Expr} {pos p : Pos}
theorem Rps.atI {K : PySem.W.Frag} {α : List Addr} {F : Hp} {ds : List D} {vs : List V} {i : Int} {d : D} (r : Rps K G α F ds vs) (h : L2.atI ds i = some d) : ∃ v, L2.atI vs i = some v ∧ Rp K G α F d v := by
  unfold L2.atI at h ⊢
  rw [← r.length]
  cases q : ixN ds.length i with
  | none => rw [q] at h; cases h
  | some j =>
    rw [q] at h
    exact r.get h
theorem ix_O : IxR X (rD X G ixO) := by
  intro value slice pins s σ H x y v u Q I rx ry h hs
  obtain ⟨F, α, S, d1, d2, d3, w, r1, r2, e, k⟩ := h
  unfold ixO at e
  split at e
  · obtain ⟨a, vs, rfl, t, _, q⟩ := r1.lstH w
    obtain ⟨z, hz, rz⟩ := q.atI e
    exact ix_list value slice pins s σ H _ y v u Q I rx ry ⟨a, vs, _, z, rfl, r2.intH, .of t, hz, k.val w rz⟩ hs
  · obtain ⟨a, vs, rfl, t, _, q⟩ := r1.tupH
    obtain ⟨z, hz, rz⟩ := q.atI e
    exact ix_tup value slice pins s σ H _ y v u Q I rx ry ⟨a, vs, _, z, rfl, r2.intH, same_tup w.sub t, hz, k.val w rz⟩ hs
  · rename_i s' i
    obtain ⟨rfl, g⟩ := r1.strH
    cases q : L2.atI s' i with
    | none => rw [q] at e; cases e
    | some c =>
      rw [q] at e
      cases e
      refine ix_str value slice pins s σ H _ y v u Q I rx ry ⟨_, i, c, rfl, r2.intH, by simpa [Str.length] using g.len, by simpa using q, k.val w (.str ⟨by rw [big_eq]; show 1 ≤ 16777216; decide, fun x hx => ?_⟩)⟩ hs
      rw [List.mem_singleton] at hx
      subst hx
      unfold L2.atI at q
      cases q2 : ixN s'.length i with
      | none => rw [q2] at q; cases q
      | some j =>
        rw [q2] at q
        exact g.cod _ (List.mem_of_getElem? q)
  · cases e
theorem pe_sub (ha : PE X a (tO X G e W f)) (hb : PE X b (tO X G e W g)) (hs : PlainIx b) : PE X (.Subscript a b pos) (tE X G e W (binE ixO f g)) :=
  pe_imp (pe_ix ix_O ha hb hs) fun _ _ _ q => two_post q
/-! slices -/
def cutD {β : Type} (xs : List β) (lo hi : Option Int) : List β := (xs.drop (HT.sIx xs.length 0 lo)).take (HT.sIx xs.length xs.length hi - HT.sIx xs.length 0 lo)
theorem cutD_length {β : Type} (xs : List β) (lo hi : Option Int) : (cutD xs lo hi).length ≤ xs.length := by
  unfold cutD
  rw [List.length_take, List.length_drop]
  omega
def slO (a : D) (lo hi : Option Int) : Option D := match a with
  | .lst xs => some (.lst (cutD xs lo hi))
  | .tup xs => some (.tup (cutD xs lo hi))
  | .str s => some (.str (cutD s lo hi))
  | _ => none
def rSl (X : Cx) (G : Glo) : V → Option Int → Option Int → Hp → VK → Prop := fun x lo hi H Q =>
  ∃ (F : Hp) (α : List Addr) (S : Sto) (d1 d3 : D), Wd X.K G S H F α ∧ RpO X.K G α H F d1 x ∧ slO d1 lo hi = some d3 ∧ Kon X.K G S H F α d3 Q
theorem Rps.cut {K : PySem.W.Frag} {α : List Addr} {F : Hp} {ds : List D} {vs : List V} (r : Rps K G α F ds vs) (lo hi : Option Int) : Rps K G α F (cutD ds lo hi) (cutV vs lo hi) := by
  unfold cutD cutV
  rw [← r.length]
  exact (r.drop _).take _
theorem SGood.cut {s : List Nat} (g : SGood s) (lo hi : Option Int) : SGood (cutD s lo hi) :=
  ⟨Nat.le_trans (cutD_length _ _ _) g.len, fun c hc => g.cod c (List.mem_of_mem_drop (List.mem_of_mem_take hc))⟩
theorem sl_O : SlR X (rSl X G) := by
  intro pins s σ H x v vl vu lo hi sl Q I rx hs pl pu h
  obtain ⟨F, α, S, d1, d3, w, r1, e, k⟩ := h
  unfold slO at e
  split at e
  · cases e
    obtain ⟨a, vs, rfl, t, z, q⟩ := r1.lstH w
    exact sl_list pins s σ H _ v vl vu lo hi sl Q I rx hs pl pu ⟨a, vs, rfl, .of t, fun p hp => k.lst w (q.cut lo hi) (Nat.le_trans (cutV_length _ _ _) z) hp⟩
  · cases e
    obtain ⟨a, vs, rfl, t, z, q⟩ := r1.tupH
    refine sl_tupA pins s σ H _ v vl vu lo hi sl Q I rx hs pl pu ⟨a, vs, rfl, same_tup w.sub t, fun hw => ?_, fun _ p hp => k.tup w (q.cut lo hi) (Nat.le_trans (cutV_length _ _ _) z) hp⟩
    have e : ∀ xs : List D, xs.length = vs.length → cutD xs lo hi = xs := fun xs hl => by
      unfold cutD
      rw [hl, hw.1, hw.2, List.drop_zero, Nat.sub_zero, ← hl, List.take_length]
    rw [e _ q.length] at k
    exact k.val w (.tup t z q)
  · cases e
    obtain ⟨rfl, g⟩ := r1.strH
    refine sl_str pins s σ H _ v vl vu lo hi sl Q I rx hs pl pu ⟨_, rfl, by simpa [Str.length] using g.len, ?_⟩
    have := k.val w (.str (g.cut lo hi))
    unfold cutS
    unfold cutD at this
    simpa [Str.length] using this
  · cases e
/-- a part of a slice -/
def sliceE (f : Ex) (l u : Option Ex) : Ex := fun ρ S => (f ρ S).bind fun d S1 =>
  let fin (lo : Option Int) (S2 : Sto) : ER := match u with
    | none => lift (slO d lo none) S2
    | some g => (g ρ S2).bind fun b S3 => match b with
      | .int j => lift (slO d lo (some j)) S3
      | _ => .stuck
  match l with
  | none => fin none S1
  | some g => (g ρ S1).bind fun b S2 => match b with
    | .int j => fin (some j) S2
    | _ => .stuck
inductive POk (X : Cx) (G : Glo) (e : Ent) (W : WX) : Option Expr → Option Ex → Prop
  | none : POk X G e W none none
  | some {a : Expr} {f : Ex} : PE X a (tO X G e W f) → POk X G e W (some a) (some f)
theorem slpost {d : D} {lo hi : Option Int} {S : Sto} {σ : L2.St} {H F : Hp} {α : List Addr} {Q : VK} {x : V} (w : Wd X.K G S H F α) (r : RpO X.K G α H F d x) (p : EPost X.K G W (rP X.K G) σ H F α (lift (slO d lo hi) S) Q) : rSl X G x lo hi H Q := by
  obtain ⟨d3, e3, k3⟩ := lift_post p
  exact ⟨F, α, S, d, d3, w, r, e3, k3⟩
theorem pe_sl {l u : Option Expr} {lf uf : Option Ex} {p2 : Pos} (ha : PE X a (tO X G e W f)) (hl : POk X G e W l lf) (hu : POk X G e W u uf) : PE X (.Subscript a (.Slice l u none p2) pos) (tE X G e W (sliceE f lf uf)) := by
  cases hl with
  | none =>
    cases hu with
    | none =>
      refine pe_imp (pe_slice (sl_O (G := G)) ha po_none po_none) fun σ H Q ⟨ρ, S, F, α, k, p⟩ => ⟨ρ, S, F, α, k, EPost.of_bind p fun d S1 v H1 F1 α1 _ w1 s1 r1 p1 => slpost w1 r1 p1⟩
    | some hu =>
      refine pe_imp (pe_slice (sl_O (G := G)) ha po_none (po_some hu)) fun σ H Q ⟨ρ, S, F, α, k, p⟩ => ⟨ρ, S, F, α, k, EPost.of_bind p fun d S1 v H1 F1 α1 _ w1 s1 r1 p1 => ?_⟩
      refine ⟨ρ, S1, F1, α1, k.step w1 s1, EPost.of_bind p1 fun d2 S2 v2 H2 F2 α2 _ w2 s2 r2 p2 => ?_⟩
      cases d2 with
      | int j => exact ⟨j, r2.intH, slpost w2 (r1.step s2) p2⟩
      | _ => exact p2.elim
  | some hl =>
    cases hu with
    | none =>
      refine pe_imp (pe_slice (sl_O (G := G)) ha (po_some hl) po_none) fun σ H Q ⟨ρ, S, F, α, k, p⟩ => ⟨ρ, S, F, α, k, EPost.of_bind p fun d S1 v H1 F1 α1 _ w1 s1 r1 p1 => ?_⟩
      refine ⟨ρ, S1, F1, α1, k.step w1 s1, EPost.of_bind p1 fun d2 S2 v2 H2 F2 α2 _ w2 s2 r2 p2 => ?_⟩
      cases d2 with
      | int j => exact ⟨j, r2.intH, slpost w2 (r1.step s2) p2⟩
      | _ => exact p2.elim
    | some hu =>
      refine pe_imp (pe_slice (sl_O (G := G)) ha (po_some hl) (po_some hu)) fun σ H Q ⟨ρ, S, F, α, k, p⟩ => ⟨ρ, S, F, α, k, EPost.of_bind p fun d S1 v H1 F1 α1 _ w1 s1 r1 p1 => ?_⟩
      refine ⟨ρ, S1, F1, α1, k.step w1 s1, EPost.of_bind p1 fun d2 S2 v2 H2 F2 α2 _ w2 s2 r2 p2 => ?_⟩
      cases d2 with
      | int j =>
        refine ⟨j, r2.intH, ρ, S2, F2, α2, (k.step w1 s1).step w2 s2, EPost.of_bind p2 fun d3 S3 v3 H3 F3 α3 _ w3 s3 r3 p3 => ?_⟩
        cases d3 with
        | int j' => exact ⟨j', r3.intH, slpost w3 ((r1.step s2).step s3) p3⟩
        | _ => exact p3.elim
      | _ => exact p2.elim
/-! -x -/
def negO : D → Option D
  | .int i => some (.int (-i))
  | _ => none
theorem pe_neg (ha : PE X a (tO X G e W f)) : PE X (.UnaryOp .USub a pos) (tE X G e W (unE negO f)) :=
  pe_imp (pe_un un_neg ha) fun σ H Q ⟨ρ, S, F, α, k, p⟩ => ⟨ρ, S, F, α, k, EPost.of_bind p fun d S1 v H1 F1 α1 _ w1 s1 r1 p1 => by
    obtain ⟨d3, e3, k3⟩ := lift_post p1
    unfold negO at e3
    split at e3
    · cases e3
      exact ⟨_, r1.intH, k3.val w1 (.int _)⟩
    · cases e3⟩
/-! sep.join(xs) -/
def joinO (a b : D) : Option D := match a with
  | .str sep => (match b with
    | .lst xs => (toStrs xs).bind fun ys => if (ys.map List.length).sum + ys.length * sep.length ≤ big then some (.str (TL.joinL sep ys)) else none
    | .tup xs => (toStrs xs).bind fun ys => if (ys.map List.length).sum + ys.length * sep.length ≤ big then some (.str (TL.joinL sep ys)) else none
    | _ => none)
  | _ => none
def mthE (o : D → D → Option D) (f g : Ex) : Ex := fun ρ S => (f ρ S).bind fun a S1 => match a with
  | .str s => (g ρ S1).bind fun b S2 => lift (o (.str s) b) S2
  | _ => .stuck
def rM (X : Cx) (G : Glo) (o : D → D → Option D) : V → List V → Hp → VK → Prop := fun x ys H Q => ∃ y, ys = [y] ∧ rD X G o x y H Q
theorem mth_post {o : D → D → Option D} {σ : L2.St} {H : Hp} {Q : VK} (q : tE X G e W (mthE o f g) σ H Q) : tM1 (rM X G o) (tO X G e W f) (tO X G e W g) σ H Q := by
  obtain ⟨ρ, S, F, α, k, p⟩ := q
  refine ⟨ρ, S, F, α, k, EPost.of_bind p fun d1 S1 v H1 F1 α1 _ w1 s1 r1 p1 => ?_⟩
  cases d1 with
  | str s =>
    refine ⟨⟨_, r1.strH.1⟩, ρ, S1, F1, α1, k.step w1 s1, EPost.of_bind p1 fun d2 S2 u H2 F2 α2 _ w2 s2 r2 p2 => ?_⟩
    obtain ⟨d3, e3, k3⟩ := lift_post p2
    exact ⟨u, rfl, F2, α2, S2, _, d2, d3, w2, r1.step s2, r2, e3, k3⟩
  | _ => exact p1.elim
theorem joinL_len (sep : List Nat) : ∀ xs : List (List Nat), (TL.joinL sep xs).length ≤ (xs.map List.length).sum + xs.length * sep.length
  | [] => Nat.zero_le _
  | [a] => by show a.length ≤ a.length + 0 + 1 * sep.length; omega
  | a :: b :: r => by
    have := joinL_len sep (b :: r)
    show (a ++ (sep ++ TL.joinL sep (b :: r))).length ≤ a.length + ((b :: r).map List.length).sum + ((b :: r).length + 1) * sep.length
    rw [List.length_append, List.length_append, Nat.add_mul]
    omega
theorem joinL_cod {sep : List Nat} (hs : ∀ c ∈ sep, c < 1114112) : ∀ {xs : List (List Nat)}, (∀ s ∈ xs, ∀ c ∈ s, c < 1114112) → ∀ c ∈ TL.joinL sep xs, c < 1114112
  | [], _, c, h => by cases h
  | [a], h, c, hc => h a List.mem_cons_self c hc
  | a :: b :: r, h, c, hc => by
    rcases List.mem_append.mp hc with hc | hc
    · exact h a List.mem_cons_self c hc
    · rcases List.mem_append.mp hc with hc | hc
      · exact hs c hc
      · exact joinL_cod hs (fun s z => h s (List.mem_cons_of_mem _ z)) c hc
theorem mt_joinO : MtR X "str.join" (rM X G joinO) := by
  intro pins s σ H x ys v us Q I rx rs h
  obtain ⟨y, rfl, F, α, S, d1, d2, d3, w, r1, r2, e, k⟩ := h
  have fin : ∀ (sep : List Nat) (xs : List D) (vs : List V) (p : Addr), x = .str ⟨sep.toArray⟩ → SGood sep → Rps X.K G α F xs vs → y = .ref p → (SqL X.K H p vs ∨ SqT X.K H p vs) →
      ((toStrs xs).bind fun zs => if (zs.map List.length).sum + zs.length * sep.length ≤ big then some (.str (TL.joinL sep zs)) else none) = some d3 → wpAny (model X.prog X.w) X.A (call (.builtin "str.join") (v :: us)) (EP X pins σ Q) X.xe s := by
    intro sep xs vs p e1 g1 rr e2 hq e
    cases q : toStrs xs with
    | none => rw [q] at e; cases e
    | some zs =>
      rw [q] at e
      have e : (if (zs.map List.length).sum + zs.length * sep.length ≤ big then some (D.str (TL.joinL sep zs)) else none) = some d3 := e
      split at e
      · rename_i hz
        cases e
        rw [toStrs_eq q] at rr
        obtain ⟨ev, gs⟩ := rr.strsV
        subst ev
        have hl : ((zs.map fun s => (⟨s.toArray⟩ : Str)).map (·.length)).sum + (zs.map fun s => (⟨s.toArray⟩ : Str)).length * (⟨sep.toArray⟩ : Str).length ≤ 16777216 := by
          have e3 : (zs.map fun s => (⟨s.toArray⟩ : Str)).map (·.length) = zs.map List.length := by rw [List.map_map]; exact List.map_congr_left fun s _ => by simp [Str.length]
          rw [e3, List.length_map]
          simpa [Str.length] using hz
        refine mt_join pins s σ H x [y] v us Q I rx rs ⟨_, p, _, e1, by rw [e2], hq, hl, ?_⟩
        have ej : Txt.join (⟨sep.toArray⟩ : Str) (zs.map fun s => (⟨s.toArray⟩ : Str)) = ⟨(TL.joinL sep zs).toArray⟩ := by
          rw [TL.join_eq]
          have := TL.tl_join (⟨sep.toArray⟩ : Str) (zs.map fun s => (⟨s.toArray⟩ : Str))
          rw [List.map_map] at this
          have e4 : (zs.map ((fun x : Str => x.cps.toList) ∘ fun s : List Nat => (⟨s.toArray⟩ : Str))) = zs := by
            conv => rhs; rw [← List.map_id zs]
            exact List.map_congr_left fun s _ => rfl
          rw [show (zs.map (TL.tl ∘ fun s : List Nat => (⟨s.toArray⟩ : Str))) = zs from e4] at this
          have e5 : (Str.join (⟨sep.toArray⟩ : Str) (zs.map fun s => (⟨s.toArray⟩ : Str))).cps.toList = TL.joinL sep zs := this
          rw [← e5]
        rw [ej]
        refine k.val w (.str ⟨Nat.le_trans (joinL_len sep zs) (le_line hz), joinL_cod g1.cod fun s hs => (gs s hs).cod⟩)
      · cases e
  unfold joinO at e
  split at e
  · rename_i sep
    obtain ⟨e1, g1⟩ := r1.strH
    split at e
    · obtain ⟨a, vs, e2, t, _, q⟩ := r2.lstH w
      exact fin sep _ vs a e1 g1 q e2 (.inl (.of t)) e
    · obtain ⟨a, vs, e2, t, _, q⟩ := r2.tupH
      exact fin sep _ vs a e1 g1 q e2 (.inr (same_tup w.sub t)) e
    · cases e
  · cases e
theorem pe_joinO {apos cpos : Pos} (ha : PE X a (tO X G e W f)) (hb : PE X b (tO X G e W g)) (hs : starEach [b] X.env = [(false, eval b X.env)]) (hbase : attributeBase a "join" X.env (eval a X.env) = eval a X.env) (hline : (apos.endLine == cpos.line) = true) :
    PE X (.Call (.Attribute a "join" apos) [b] [] cpos) (tE X G e W (mthE joinO f g)) :=
  pe_imp (pe_m1 F.slot_str_join F.type_str_join (mt_joinO (G := G)) ha hb hs hbase hline) fun _ _ _ q => mth_post q
end
end TM

set_option Elab.async false
set_option linter.all false
set_option maxRecDepth 20000
set_option autoImplicit false
namespace TM
open PySem PySem.Spec PyProof.Rows L2

/-! ## what is walked, of several kinds -/
inductive Sk where
  | l (a : Addr) (vs : List V) | t (a : Addr) (vs : List V) | s (z : Str)
def Sk.val : Sk → V
  | .l a _ => .ref a
  | .t a _ => .ref a
  | .s z => .str z
def Sk.items : Sk → List V
  | .l _ vs => vs
  | .t _ vs => vs
  | .s z => z.cps.toList.map fun c => V.str ⟨#[c]⟩
def Sk.Fz (K : PySem.W.Frag) (H : Hp) : Sk → Prop
  | .l a vs => SqL K H a vs
  | .t a vs => SqT K H a vs
  | .s _ => True
def Sk.itS (it : Addr) (i : Nat) (h : Heap) : Sk → Prop
  | .l a _ => h.IsListIter it a i
  | .t a _ => h.IsTupleIter it a i
  | .s z => ∃ t, h.IsStrIter it (strIterType z) z t i
def Sk.below (N : Nat) : Sk → Prop
  | .l a _ => a < N
  | .t a _ => a < N
  | .s _ => True
theorem Sk.itS_obj {k : Sk} {it : Addr} {i : Nat} {h : Heap} (q : k.itS it i h) : ∃ o, h.get? it = some o ∧ ∀ v, o.data ≠ .cell v := by
  cases k with
  | l a vs => obtain ⟨o, e, _, d⟩ := q; exact ⟨o, e, fun v z => by rw [d] at z; cases z⟩
  | t a vs => obtain ⟨o, e, _, d⟩ := q; exact ⟨o, e, fun v z => by rw [d] at z; cases z⟩
  | s z => obtain ⟨t, o, e, _, d⟩ := q; exact ⟨o, e, fun v z => by rw [d] at z; cases z⟩
theorem Sk.itS_keep {k : Sk} {it : Addr} {i : Nat} {h h' : Heap} (q : k.itS it i h) (e : ∀ o, h.get? it = some o → h'.get? it = some o) : k.itS it i h' := by
  cases k with
  | l a vs => exact Heap.IsListIter.at q e
  | t a vs => exact Heap.IsTupleIter.at q e
  | s z => obtain ⟨t, o, ho, r⟩ := q; exact ⟨t, o, e o ho, r⟩
section
variable {X : Cx} {pins : List (Addr × Obj)} {σ : L2.St} {H : Hp} {s : Shared}
theorem Sk.draws {k : Sk} {A : Around} {it N : Addr} {i : Nat} (hh : A.handled = none) (I : Inv X pins σ H s) (fz : k.Fz X.K H) (hb : k.below N) (hN : N ≤ it) (st : k.itS it i s.heap) :
    ∃ (fp : List Addr) (P : Nat → Value → Prop) (St : Nat → Heap → Prop), Draws X.prog X.w A it (it :: fp) k.items.length P St ∧ (∀ b ∈ fp, b < N) ∧ St i s.heap ∧ (∀ i h, St i h → k.itS it i h) ∧ ∀ i v, P i v → ∃ x, k.items[i]? = some x ∧ RelV x v := by
  cases k with
  | l a vs =>
    obtain ⟨its, rv, p, _⟩ := I.list fz
    have hne : a ≠ it := Nat.ne_of_lt (Nat.lt_of_lt_of_le hb hN)
    have D := Draws.list (prog := X.prog) (w := X.w) (A := A) hh it a hne its.toArray
    rw [List.size_toArray, ← rv.length] at D
    refine ⟨[a], _, _, D, fun b z => by rw [List.mem_singleton.mp z]; exact hb, ⟨st, p.isList⟩, fun i h q => q.1, fun j v q => ?_⟩
    have q : its.toArray[j]? = some v := q
    rw [List.getElem?_toArray] at q
    have hj : j < vs.length := by rw [rv.length]; exact (List.getElem?_eq_some_iff.mp q).1
    obtain ⟨u, hu, ru⟩ := rv.get (List.getElem?_eq_getElem hj)
    rw [hu] at q
    cases q
    exact ⟨_, List.getElem?_eq_getElem hj, ru⟩
  | t a vs =>
    obtain ⟨its, rv, p, _⟩ := I.tuple fz
    have hne : a ≠ it := Nat.ne_of_lt (Nat.lt_of_lt_of_le hb hN)
    have D := Draws.tuple (prog := X.prog) (w := X.w) (A := A) hh it a hne its.toArray
    rw [List.size_toArray, ← rv.length] at D
    refine ⟨[a], _, _, D, fun b z => by rw [List.mem_singleton.mp z]; exact hb, ⟨st, p⟩, fun i h q => q.1, fun j v q => ?_⟩
    have q : its.toArray[j]? = some v := q
    rw [List.getElem?_toArray] at q
    have hj : j < vs.length := by rw [rv.length]; exact (List.getElem?_eq_some_iff.mp q).1
    obtain ⟨u, hu, ru⟩ := rv.get (List.getElem?_eq_getElem hj)
    rw [hu] at q
    cases q
    exact ⟨_, List.getElem?_eq_getElem hj, ru⟩
  | s z =>
    obtain ⟨t, st⟩ := st
    have D := Draws.text (prog := X.prog) (w := X.w) (A := A) hh it z t
    have en : (Sk.s z).items.length = z.cps.size := by
      show (z.cps.toList.map _).length = _
      rw [List.length_map, Array.length_toList]
    rw [en]
    refine ⟨[], _, _, D, fun b z => (by cases z), st, fun i h q => ⟨t, q⟩, fun j v q => ?_⟩
    obtain ⟨c, u, hc, rfl⟩ := q
    refine ⟨.str ⟨#[c]⟩, ?_, ⟨u, rfl⟩⟩
    show (z.cps.toList.map fun c => V.str ⟨#[c]⟩)[j]? = _
    rw [List.getElem?_map, Array.getElem?_toList, hc]
    rfl
/-- its iterator comes -/
theorem Sk.begins {k : Sk} {v : Value} (I : Inv X pins σ H s) (fz : k.Fz X.K H) (r : RelV k.val v) : k.below s.heap.objs.size ∧ ∃ (o : Obj) (Hh : Heap → Prop), Begins v o Hh ∧ Hh s.heap ∧ ∀ (h' : Heap) (p : Addr), h'.get? p = some o → k.itS p 0 h' := by
  cases k with
  | l a vs =>
    obtain ⟨its, rv, p, _⟩ := I.list fz
    cases r
    exact ⟨p.lt, _, _, begins_list a its.toArray, p.isList, fun h' q e => ⟨_, e, rfl, rfl⟩⟩
  | t a vs =>
    obtain ⟨its, rv, p, _⟩ := I.tuple fz
    cases r
    obtain ⟨o, ho, _⟩ := id p
    exact ⟨Heap.lt_size ho, _, _, begins_tuple a its.toArray, p, fun h' q e => ⟨_, e, rfl, rfl⟩⟩
  | s z =>
    obtain ⟨t, rfl⟩ := r
    exact ⟨trivial, _, _, begins_text z t, trivial, fun h' q e => ⟨t, _, e, rfl, rfl⟩⟩
end

/-- pairs of the items -/
def ItP (K : PySem.W.Frag) (k1 k2 : Sk) : It :=
  ⟨fun i H => i < min k1.items.length k2.items.length ∧ k1.Fz K H ∧ k2.Fz K H,
   fun i H v H' => ∃ T x y, v = .ref T ∧ H T = none ∧ H' = upd H T (.tup [x, y]) ∧ k1.items[i]? = some x ∧ k2.items[i]? = some y,
   fun i H => i = min k1.items.length k2.items.length ∧ k1.Fz K H ∧ k2.Fz K H⟩
theorem mem5 {c z a b d e : Addr} (h : c ∈ [z, a, b, d, e]) : c = z ∨ c = a ∨ c = b ∨ c = d ∨ c = e := by simpa using h
theorem turn_zipK {P : Program} {w : World} {K : PySem.W.Frag} {elts : List Expr} {kk : Nat} {tpos : Pos} {k1 k2 : Sk} {N : Nat} (h1 : k1.below N) (h2 : k2.below N) :
    Turn P w K (.Tuple elts kk tpos) (ItP K k1 k2) [N + 4, N + 2, N + 3, N, N + 1] (N + 4)
      (fun i h => IsZip h (N + 4) (N + 2) (N + 3) .none ∧ IsTupOf2 h (N + 2) (.ref N) (.ref (N + 1)) ∧ (∃ a1 a2, IsTupOf2 h (N + 3) a1 a2) ∧ k1.itS N i h ∧ k2.itS (N + 1) i h) where
  mem := by simp
  obj := fun i h st c hc => by
    obtain ⟨hz, hTI, ⟨x, y, hTO⟩, s1, s2⟩ := st
    rcases mem5 hc with q | q | q | q | q
    · rw [q]; exact ⟨_, hz, fun v q => nomatch q⟩
    · rw [q]; exact ⟨_, hTI, fun v q => nomatch q⟩
    · rw [q]; exact ⟨_, hTO, fun v q => nomatch q⟩
    · rw [q]; exact Sk.itS_obj (k := k1) s1
    · rw [q]; exact Sk.itS_obj (k := k2) s2
  keep := fun i h h' st k => by
    obtain ⟨hz, hTI, ⟨x, y, hTO⟩, s1, s2⟩ := st
    exact ⟨k _ (by simp) _ hz, k _ (by simp) _ hTI, ⟨x, y, k _ (by simp) _ hTO⟩, Sk.itS_keep (k := k1) s1 fun o e => k _ (by simp) o e, Sk.itS_keep (k := k2) s2 fun o e => k _ (by simp) o e⟩
  item := by
    intro X hP hw hK hc i pins s σ H E I hf st hg
    subst hP hw hK
    obtain ⟨hz, hTI, hTO, s1, s2⟩ := st
    obtain ⟨hi, f1, f2⟩ := hg
    obtain ⟨fp1, P1, St1, D1, b1, t1, u1, v1⟩ := Sk.draws (A := X.A.in1) (I.ok.hd hc) I f1 h1 (Nat.le_refl N) s1
    obtain ⟨fp2, P2, St2, D2, b2, t2, u2, v2⟩ := Sk.draws (A := X.A.in1) (I.ok.hd hc) I f2 h2 (Nat.le_add_right N 1) s2
    have W := GoesN.zip2 (elts := elts) (x1 := kk) (pos := tpos) (zip_sep2 b1 b2) D1 D2
    refine W.goes i s _ _ hi ⟨hz, hTI, hTO, t1, t2⟩ fun v h' tk hY st' hk htk => ?_
    obtain ⟨T, x, y, rfl, hT, px, py, ht⟩ := hY
    obtain ⟨xv, ex, rx⟩ := v1 _ _ px
    obtain ⟨yv, ey, ry⟩ := v2 _ _ py
    obtain ⟨hz', hTI', hTO', t1', t2'⟩ := st'
    have new : ObjOk X.prog X.w (upd H T (.tup [xv, yv])) h' T (.tup [xv, yv]) := ⟨by show 2 ≤ sizeLine; decide, [x, y], .cons rx (.cons ry .nil), ht⟩
    have I1 : Inv X pins σ (upd H T (.tup [xv, yv])) { s with heap := h', toks := tk } :=
      I.turnedNew (ch := [N + 4, N + 2, N + 3, N, N + 1]) (fun c o hb q => hk c o (fun z => hb (by simp at z ⊢; rcases z with z | z | z | z <;> simp [z])) q) hf hT new
    refine ⟨.ref T, _, I1, rfl, ⟨T, xv, yv, rfl, I.hok.fresh hT, rfl, ex, ey⟩, ⟨hz', hTI', hTO', u1 _ _ t1', u2 _ _ t2'⟩, fun c hcm => ?_⟩
    have hlt : c < s.heap.objs.size := by
      obtain ⟨a1, a2, hTO⟩ := hTO
      rcases mem5 hcm with q | q | q | q | q
      · rw [q]; exact Heap.lt_size hz
      · rw [q]; exact Heap.lt_size hTI
      · rw [q]; exact Heap.lt_size hTO
      · rw [q]; obtain ⟨_, e, _⟩ := Sk.itS_obj (k := k1) s1; exact Heap.lt_size e
      · rw [q]; obtain ⟨_, e, _⟩ := Sk.itS_obj (k := k2) s2; exact Heap.lt_size e
    rw [upd_ne (Nat.ne_of_lt (Nat.lt_of_lt_of_le hlt hT))]
    exact (hf c hcm).1
  done := by
    intro X hP hw hK hc i pins s σ H E I hf st hg
    subst hP hw hK
    obtain ⟨hz, hTI, hTO, s1, s2⟩ := st
    obtain ⟨rfl, f1, f2⟩ := hg
    obtain ⟨fp1, P1, St1, D1, b1, t1, u1, v1⟩ := Sk.draws (A := X.A.in1) (I.ok.hd hc) I f1 h1 (Nat.le_refl N) s1
    obtain ⟨fp2, P2, St2, D2, b2, t2, u2, v2⟩ := Sk.draws (A := X.A.in1) (I.ok.hd hc) I f2 h2 (Nat.le_add_right N 1) s2
    have W := GoesN.zip2 (elts := elts) (x1 := kk) (pos := tpos) (zip_sep2 b1 b2) D1 D2
    refine W.stops s (fun s' => Inv X pins σ H s') E ⟨hz, hTI, hTO, t1, t2⟩ fun h' tk hk htk => ?_
    exact I.turnedL (ch := [N + 4, N + 2, N + 3, N, N + 1]) (fun c o hb q => hk c o (fun z => hb (by simp at z ⊢; rcases z with z | z | z | z <;> simp [z])) q) hf
  self := fun A i s Q E st h => wpAny_pyIter_zip st.1 h
/-- counted items -/
def ItN (K : PySem.W.Frag) (k : Sk) : It :=
  ⟨fun i H => i < k.items.length ∧ k.Fz K H,
   fun i H v H' => ∃ T x, v = .ref T ∧ H T = none ∧ H' = upd H T (.tup [.int (i : Nat), x]) ∧ k.items[i]? = some x,
   fun i H => i = k.items.length ∧ k.Fz K H⟩
theorem turn_enumK {P : Program} {w : World} {K : PySem.W.Frag} {elts : List Expr} {kk : Nat} {tpos : Pos} {kd : Sk} {N : Nat} (hb : kd.below N) :
    Turn P w K (.Tuple elts kk tpos) (ItN K kd) [N + 1, N] (N + 1) (fun i h => (∃ old, IsEnum h (N + 1) N ((i : Nat) : Int) old) ∧ kd.itS N i h) where
  mem := by simp
  obj := fun i h st c hc => by
    obtain ⟨⟨old, he⟩, s1⟩ := st
    have hc' : c = N + 1 ∨ c = N := by simpa using hc
    rcases hc' with q | q
    · rw [q]; exact ⟨_, he, fun v q => nomatch q⟩
    · rw [q]; exact Sk.itS_obj (k := kd) s1
  keep := fun i h h' st k => by
    obtain ⟨⟨old, he⟩, s1⟩ := st
    exact ⟨⟨old, k _ (by simp) _ he⟩, Sk.itS_keep (k := kd) s1 fun o e => k _ (by simp) o e⟩
  item := by
    intro X hP hw hK hc i pins s σ H E I hf st hg
    subst hP hw hK
    obtain ⟨⟨old, he⟩, s1⟩ := st
    obtain ⟨hi, f1⟩ := hg
    obtain ⟨fp1, P1, St1, D1, b1, t1, u1, v1⟩ := Sk.draws (A := X.A.in1) (I.ok.hd hc) I f1 hb (Nat.le_refl N) s1
    have hef : (N + 1 : Nat) ∉ N :: fp1 := notIn_new (j := 1) (i := 0) b1 (by omega)
    have W := GoesN.enumFrom (elts := elts) (x1 := kk) (pos := tpos) 0 D1 (N + 1) (Nat.succ_ne_self N) hef List.mem_cons_self
    have he0 : IsEnum s.heap (N + 1) N (0 + ((i : Nat) : Int)) old := by rw [Int.zero_add]; exact he
    refine W.goes i s _ _ hi ⟨⟨old, he0⟩, t1⟩ fun v h' tk hY st' hk htk => ?_
    obtain ⟨T, t, x, rfl, hT, px, ht⟩ := hY
    obtain ⟨xv, ex, rx⟩ := v1 _ _ px
    obtain ⟨⟨old', he'⟩, t1'⟩ := st'
    rw [Int.zero_add] at he' ht
    have new : ObjOk X.prog X.w (upd H T (.tup [.int (i : Nat), xv])) h' T (.tup [.int (i : Nat), xv]) := ⟨by show 2 ≤ sizeLine; decide, [.int i t, x], .cons ⟨t, rfl⟩ (.cons rx .nil), ht⟩
    have I1 : Inv X pins σ (upd H T (.tup [.int (i : Nat), xv])) { s with heap := h', toks := tk } :=
      I.turnedNew (ch := [N + 1, N]) (fun c o hb q => hk c o hb q) hf hT new
    refine ⟨.ref T, _, I1, rfl, ⟨T, xv, rfl, I.hok.fresh hT, rfl, ex⟩, ⟨⟨old', he'⟩, u1 _ _ t1'⟩, fun c hcm => ?_⟩
    have hlt : c < s.heap.objs.size := by
      have hc' : c = N + 1 ∨ c = N := by simpa using hcm
      rcases hc' with q | q
      · rw [q]; exact Heap.lt_size he
      · rw [q]; obtain ⟨_, e, _⟩ := Sk.itS_obj (k := kd) s1; exact Heap.lt_size e
    rw [upd_ne (Nat.ne_of_lt (Nat.lt_of_lt_of_le hlt hT))]
    exact (hf c hcm).1
  done := by
    intro X hP hw hK hc i pins s σ H E I hf st hg
    subst hP hw hK
    obtain ⟨⟨old, he⟩, s1⟩ := st
    obtain ⟨rfl, f1⟩ := hg
    obtain ⟨fp1, P1, St1, D1, b1, t1, u1, v1⟩ := Sk.draws (A := X.A.in1) (I.ok.hd hc) I f1 hb (Nat.le_refl N) s1
    have hef : (N + 1 : Nat) ∉ N :: fp1 := notIn_new (j := 1) (i := 0) b1 (by omega)
    have W := GoesN.enumFrom (elts := elts) (x1 := kk) (pos := tpos) 0 D1 (N + 1) (Nat.succ_ne_self N) hef List.mem_cons_self
    have he0 : IsEnum s.heap (N + 1) N (0 + ((kd.items.length : Nat) : Int)) old := by rw [Int.zero_add]; exact he
    refine W.stops s (fun s' => Inv X pins σ H s') E ⟨⟨old, he0⟩, t1⟩ fun h' tk hk htk => ?_
    exact I.turnedL (ch := [N + 1, N]) (fun c o hb q => hk c o hb q) hf
  self := fun A i s Q E st h => by
    obtain ⟨⟨old, he⟩, _⟩ := st
    exact wpAny_pyIter_enum he h
end TM

set_option Elab.async false
set_option linter.all false
set_option maxRecDepth 100000
set_option autoImplicit false
namespace TM
open PySem PySem.Spec PyProof.Rows L2

/-- what iter(v) gives: p, the heap then being g -/
def Iters (v : Value) (p : Addr) (g : Heap) (s : Shared) : Prop :=
  ∀ (prog : Program) (w : World) (A : Around) (E : Value → Shared → Prop) (Q : Value → Shared → Prop), Q (.ref p) { s with heap := g } → wpAny (model prog w) A (pyIter v) Q E s
abbrev enumObj (p : Addr) : Obj := { cls := .type "enumerate", data := .fields #[.none, .bool false, .ref p, rawInt 0, .none, .none] }
set_option maxHeartbeats 1000000 in
theorem meets_enum1 {v : Value} {p : Addr} {g : Heap} :
    Meets (Builtin.«enumerate.__new__» ⟨[.type "enumerate", v], []⟩) (fun _ R s => Iters v p g s ∧ R (.ok (.ret (.ref g.objs.size))) { s with heap := g.push (enumObj p) }) :=
  .of_wp fun prog w A R s h => by
    obtain ⟨hp, gs, d, tk, os⟩ := s; obtain ⟨hi, h⟩ := h
    have hsub := sub_enumerate
    have q1 : ∀ {A' : Around} {E : Value → Shared → Prop} {Q : Value → Shared → Prop}, Q (.ref p) ⟨g, gs, d, tk, os⟩ → wpAny (model prog w) A' (pyIter v) Q E ⟨hp, gs, d, tk, os⟩ :=
      fun q => hi prog w _ _ _ q
    wp_walk using q1
    refine wpAny_stack_any fun st => wpAny_pure ?_
    split
    · rename_i c _ _ _ _ _
      cases (c == Value.type "enumerate")
      · wp_walk using q1
        exact ⟨_, rfl, h⟩
      · wp_walk using q1
        exact ⟨_, rfl, h⟩
    · wp_walk using q1
      exact ⟨_, rfl, h⟩
theorem call_enum1 {prog : Program} {w : World} {A : Around} {E : Value → Shared → Prop} {s : Shared} {v : Value} {p : Addr} {g : Heap} {Q : Value → Shared → Prop} (hi : Iters v p g s)
    (h : IsEnum (g.push (enumObj p)) g.objs.size p 0 .none → Q (.ref g.objs.size) { s with heap := g.push (enumObj p) }) : wpAny (model prog w) A (call (.type "enumerate") [v]) Q E s := by
  refine callType_new F.called_enumerate (by decide) (F.typeCall_enumerate_1 _) (F.newCall_enumerate_1 _) (fun obj => F.args_object_init_2 obj _) F.entry_enumerate_new
    (meets_enum1 (v := v) (p := p) (g := g)) ⟨hi, ?_⟩
  have he : IsEnum (g.push (enumObj p)) g.objs.size p 0 .none := Heap.get?_push_size g rfl
  exact ⟨⟨_, he, rfl⟩, h he⟩
/-- enumerate(v), by how v begins -/
theorem enum_begins1 {prog : Program} {w : World} {A : Around} {E : Value → Shared → Prop} {s : Shared} {v : Value} {o : Obj} {Hh : Heap → Prop} {Q : Value → Shared → Prop} (B : Begins v o Hh) (h1 : Hh s.heap)
    (h : ∀ h', IsEnum h' (s.heap.objs.size + 1) s.heap.objs.size 0 .none → h'.get? s.heap.objs.size = some o → (∀ b o, s.heap.get? b = some o → h'.get? b = some o) → Q (.ref (s.heap.objs.size + 1)) { s with heap := h' }) :
    wpAny (model prog w) A (call (.type "enumerate") [v]) Q E s := by
  refine call_enum1 (p := s.heap.objs.size) (g := s.heap.push o) (fun prog w A E Q q => B.iter prog w A E s Q h1 q) fun he => ?_
  have hz : (s.heap.push o).objs.size = s.heap.objs.size + 1 := Heap.size_push ..
  rw [hz] at he ⊢
  exact h _ he (Heap.get?_push_of_some _ (Heap.get?_push_size _ B.free)) fun b o q => Heap.get?_push_of_some _ (Heap.get?_push_of_some _ q)
end TM

set_option Elab.async false
set_option linter.all false
set_option maxRecDepth 100000
set_option autoImplicit false
namespace TM
open PySem PySem.Spec PyProof.Rows L2

abbrev ZObj (TI TO : Addr) (f : Value) (b : Bool) : Obj := { cls := .type "zip", data := .fields #[f, .bool b, .bool false, .ref TI, .ref TO] }
/-- a zip, its own tuple free or given away -/
def ZS (h : Heap) (z TI TO : Addr) : Prop := ∃ (f : Value) (b : Bool), h.get? z = some (ZObj TI TO f b) ∧ (f = .none ∨ ∃ (a : Int) (t : Tok), f = .int a t)
section
variable {prog : Program} {w : World} {A : Around} {E : Value → Shared → Prop} {s : Shared} {z TI TO i1 i2 : Addr} {fp1 fp2 : List Addr} {n1 n2 i : Nat} {P1 P2 : Nat → Value → Prop} {St1 St2 : Nat → Heap → Prop}
theorem ifAlive {a : Addr} {Q : Option Obj → Shared → Prop} (h : Q (s.heap.get? a) s) : wpAny (model prog w) A (loadIfAlive a) Q E s := fun Γ p hΓ => by
  unfold loadIfAlive
  rw [Sem.wp_loadIfAlive]
  exact (wpAny_pure (E := E) h) Γ p hΓ
/-- is the owned tuple free: yes or no; z alone is written -/
theorem zs_free {Q : Bool → Shared → Prop} (hz : ZS s.heap z TI TO) (hy : ∀ b h', Heap.SameBut z s.heap h' → ZS h' z TI TO → Q b { s with heap := h' }) : wpAny (model prog w) A (Builtin.SmallTypes.ownedTupleIsFree (.ref z)) Q E s := by
  obtain ⟨f, b, hz, hf⟩ := hz
  unfold Builtin.SmallTypes.ownedTupleIsFree
  refine wpAny_bind (wpAny_field hz rfl (x := f) rfl ?_)
  rcases hf with rfl | ⟨a, t, rfl⟩
  · exact wpAny_pure (hy true s.heap ⟨rfl, fun _ _ => rfl⟩ ⟨_, _, hz, .inl rfl⟩)
  · refine wpAny_bind (ifAlive ?_)
    cases s.heap.get? a.toNat with
    | none => exact wpAny_pure (hy true s.heap ⟨rfl, fun _ _ => rfl⟩ ⟨_, _, hz, .inr ⟨a, t, rfl⟩⟩)
    | some o =>
      refine wpAny_bind (wpAny_field hz rfl (x := .bool b) rfl ?_)
      cases b with
      | true => exact wpAny_pure (hy false s.heap ⟨rfl, fun _ _ => rfl⟩ ⟨_, _, hz, .inr ⟨a, t, rfl⟩⟩)
      | false => exact wpAny_bind (wpAny_setField_rec hz (by simp) fun h' hz' hs' => wpAny_pure (hy false h' hs' ⟨_, true, hz', .inr ⟨a, t, rfl⟩⟩))
/-- next(zip) when both draw -/
theorem zs_item {Q : Value → Shared → Prop} (S : ZipSep2 z TI TO i1 i2 fp1 fp2) (D1 : Draws prog w A i1 fp1 n1 P1 St1) (D2 : Draws prog w A i2 fp2 n2 P2 St2)
    (hz : ZS s.heap z TI TO) (hTI : IsTupOf2 s.heap TI (.ref i1) (.ref i2)) (hTO : ∃ a1 a2, IsTupOf2 s.heap TO a1 a2) (st1 : St1 i s.heap) (st2 : St2 i s.heap) (l1 : i < n1) (l2 : i < n2)
    (hQ : ∀ x1 x2 h' tk T, P1 i x1 → P2 i x2 → s.heap.objs.size ≤ T → IsTupOf2 h' T x1 x2 → ZS h' z TI TO → (∃ a1 a2, IsTupOf2 h' TO a1 a2) → St1 (i + 1) h' → St2 (i + 1) h' →
      (∀ c o, c ≠ z → c ≠ TO → c ≠ i1 → c ≠ i2 → s.heap.get? c = some o → h'.get? c = some o) → Q (.ref T) { s with heap := h', toks := tk }) :
    wpAny (model prog w) A (Builtin.«zip.__next__» ⟨[.ref z], []⟩) (fun fin s' => ∃ v, fin = .done (.ret v) ∧ Q v s') E s := by
  obtain ⟨hp, g, d, tk0, os⟩ := s
  obtain ⟨f, b, hz0, hf⟩ := id hz
  obtain ⟨b1, b2, hTO⟩ := hTO
  show wpAny _ _ (field (.ref z) 2 >>= _) _ _ _
  refine wpAny_bind (wpAny_field hz0 rfl (x := .bool false) rfl ?_)
  show wpAny _ _ (field (.ref z) 3 >>= _) _ _ _
  refine wpAny_bind (wpAny_field hz0 rfl (x := .ref TI) rfl (wpAny_bind (wpAny_seqItems hTI rfl ?_)))
  show wpAny _ _ (Builtin.SmallTypes.ownedTupleIsFree (.ref z) >>= _) _ _ _
  refine wpAny_bind (zs_free hz fun free h0 sb0 hz1 => ?_)
  replace sb0 : Heap.SameBut z hp h0 := sb0
  obtain ⟨f1, c1, hz1, hf1⟩ := hz1
  replace hz1 : h0.get? z = some (ZObj TI TO f1 c1) := hz1
  have st1' := D1.over st1 sb0 S.zf1
  have st2' := D2.over st2 sb0 S.zf2
  have hTO0 : IsTupOf2 h0 TO b1 b2 := sb0.extBut _ _ S.TOz hTO
  cases free with
  | false =>
    rw [if_neg Bool.false_ne_true]
    simp only [← Array.forIn_toList, List.forIn_cons, List.forIn_nil]
    refine wpAny_bind (wpAny_bind (wpAny_bind (wpAny_holding ?_)))
    show wpAny _ _ (Builtin.SmallTypes.nextOf (.ref i1) >>= _) _ _ _
    refine wpAny_bind (D1.item i _ _ _ l1 st1' fun x1 p1 tk1 hx1 sn1 hp1 => wpAny_pure (wpAny_pure ?_))
    replace hp1 : Heap.SameBut i1 h0 p1 := hp1
    refine wpAny_bind (wpAny_bind (wpAny_holding ?_))
    show wpAny _ _ (Builtin.SmallTypes.nextOf (.ref i2) >>= _) _ _ _
    refine wpAny_bind (D2.item i _ _ _ l2 (D2.over st2' hp1 S.sep1_2) fun x2 p2 tk2 hx2 sn2 hp2 => wpAny_pure (wpAny_pure (wpAny_pure ?_)))
    replace hp2 : Heap.SameBut i2 p1 p2 := hp2
    show wpAny _ _ (newTuple [x1, x2] >>= _) _ _ ⟨p2, g, d, tk2, os⟩
    refine wpAny_bind (wpAny_newTuple ?_)
    have sz : p2.objs.size = hp.objs.size := by rw [hp2.1, hp1.1, sb0.1]
    have kk : ∀ c o, c ≠ i1 → c ≠ i2 → h0.get? c = some o → p2.get? c = some o := fun c o c1 c2 q => hp2.extBut _ _ c2 (hp1.extBut _ _ c1 q)
    refine wpAny_pure ⟨_, rfl, hQ x1 x2 (p2.push { cls := .type "tuple", data := .seq #[x1, x2] }) tk2 _ hx1 hx2 (Nat.le_of_eq sz.symm) (Heap.get?_push_size _ rfl) ⟨f1, c1, Heap.get?_push_of_some _ (kk _ _ S.zi1 S.zi2 hz1), hf1⟩ ⟨_, _, Heap.get?_push_of_some _ (kk _ _ S.Ti1 S.Ti2 hTO0)⟩ ?_ ?_ fun c o cz cT c1 c2 q => Heap.get?_push_of_some _ (kk _ _ c1 c2 (sb0.extBut _ _ cz q))⟩
    · exact D1.frame _ _ _ (D1.over sn1 hp2 S.sep2_1) fun b hb o q => Heap.get?_push_of_some _ q
    · exact D2.frame _ _ _ sn2 fun b hb o q => Heap.get?_push_of_some _ q
  | true =>
    rw [if_pos rfl]
    refine wpAny_bind (wpAny_rule (wpAny_bind (wpAny_field hz1 rfl (x := .ref TO) rfl ?_)))
    refine wpAny_bind (wpAny_setField_rec hz1 (by simp) fun g0 hg0 sg0 => wpAny_bind ?_)
    replace hg0 : g0.get? z = some (ZObj TI TO .ellipsis c1) := hg0
    replace sg0 : Heap.SameBut z h0 g0 := sg0
    simp only [List.zipIdx_cons, List.zipIdx_nil, List.forIn_cons, List.forIn_nil]
    refine wpAny_bind (wpAny_bind (wpAny_onRaise ?_))
    show wpAny _ _ (Builtin.SmallTypes.nextOf (.ref i1) >>= _) _ _ _
    refine wpAny_bind (D1.item i _ _ _ l1 (D1.over st1' sg0 S.zf1) fun x1 p1 tk1 hx1 sn1 hp1 => wpAny_pure ?_)
    replace hp1 : Heap.SameBut i1 g0 p1 := hp1
    have t1 : IsTupOf2 p1 TO b1 b2 := hp1.extBut _ _ S.Ti1 (sg0.extBut _ _ S.TOz hTO0)
    refine wpAny_bind (wpAny_seqItems (s := ⟨p1, g, d, tk1, os⟩) t1 rfl (wpAny_bind (updateSeq_IsTupOf2 (s := ⟨p1, g, d, tk1, os⟩) t1 fun g1 hg1 sg1 => ?_)))
    replace hg1 : IsTupOf2 g1 TO x1 b2 := hg1
    replace sg1 : Heap.SameBut TO p1 g1 := sg1
    refine wpAny_bind (wpAny_letGo (wpAny_pure (wpAny_bind (wpAny_bind (wpAny_onRaise ?_)))))
    show wpAny _ _ (Builtin.SmallTypes.nextOf (.ref i2) >>= _) _ _ _
    refine wpAny_bind (D2.item i _ _ _ l2 (D2.over (D2.over (D2.over st2' sg0 S.zf2) hp1 S.sep1_2) sg1 S.Tf2) fun x2 p2 tk2 hx2 sn2 hp2 => wpAny_pure ?_)
    replace hp2 : Heap.SameBut i2 g1 p2 := hp2
    have t2 : IsTupOf2 p2 TO x1 b2 := hp2.extBut _ _ S.Ti2 hg1
    refine wpAny_bind (wpAny_seqItems (s := ⟨p2, g, d, tk2, os⟩) t2 rfl (wpAny_bind (updateSeq_IsTupOf2 (s := ⟨p2, g, d, tk2, os⟩) t2 fun g2 hg2 sg2 => ?_)))
    replace hg2 : IsTupOf2 g2 TO x1 x2 := hg2
    replace sg2 : Heap.SameBut TO p2 g2 := sg2
    refine wpAny_bind (wpAny_letGo (wpAny_pure (wpAny_pure (wpAny_bind (wpAny_seqItems (s := ⟨g2, g, d, tk2, os⟩) hg2 rfl (wpAny_bind (wpAny_newTuple ?_)))))))
    have sz : g2.objs.size = hp.objs.size := by rw [sg2.1, hp2.1, sg1.1, hp1.1, sg0.1, sb0.1]
    have zz : g2.get? z = some (ZObj TI TO .ellipsis c1) := sg2.extBut _ _ S.TOz.symm (hp2.extBut _ _ S.zi2 (sg1.extBut _ _ S.TOz.symm (hp1.extBut _ _ S.zi1 hg0)))
    have kk : ∀ c o, c ≠ z → c ≠ TO → c ≠ i1 → c ≠ i2 → hp.get? c = some o → g2.get? c = some o := fun c o cz cT c1 c2 q =>
      sg2.extBut _ _ cT (hp2.extBut _ _ c2 (sg1.extBut _ _ cT (hp1.extBut _ _ c1 (sg0.extBut _ _ cz (sb0.extBut _ _ cz q)))))
    have zlt : z < g2.objs.size := Heap.lt_size zz
    show wpAny _ _ (Builtin.SmallTypes.ownedTupleHandOut (.ref z) (.ref g2.objs.size) >>= _) _ _ ⟨g2.push { cls := .type "tuple", data := .seq #[x1, x2] }, g, d, tk2, os⟩
    refine wpAny_bind ?_
    unfold Builtin.SmallTypes.ownedTupleHandOut
    have z3 : (g2.push { cls := .type "tuple", data := .seq #[x1, x2] }).get? z = some (ZObj TI TO .ellipsis c1) := Heap.get?_push_of_some _ zz
    refine wpAny_bind (wpAny_setField_rec z3 (by simp) fun h4 hz4 sb4 => ?_)
    replace hz4 : h4.get? z = some (ZObj TI TO (rawInt g2.objs.size) c1) := hz4
    replace sb4 : Heap.SameBut z (g2.push { cls := .type "tuple", data := .seq #[x1, x2] }) h4 := sb4
    refine wpAny_setField_rec hz4 (by simp) fun h5 hz5 sb5 => ?_
    replace hz5 : h5.get? z = some (ZObj TI TO (rawInt g2.objs.size) false) := hz5
    replace sb5 : Heap.SameBut z h4 h5 := sb5
    have up : ∀ c o, c ≠ z → (g2.push { cls := .type "tuple", data := .seq #[x1, x2] }).get? c = some o → h5.get? c = some o := fun c o cz q => sb5.extBut _ _ cz (sb4.extBut _ _ cz q)
    refine wpAny_pure ⟨_, rfl, hQ x1 x2 h5 tk2 _ hx1 hx2 (Nat.le_of_eq sz.symm) (up _ _ (Nat.ne_of_gt zlt) (Heap.get?_push_size _ rfl)) ⟨_, _, hz5, .inr ⟨_, _, rfl⟩⟩ ⟨_, _, up _ _ S.TOz (Heap.get?_push_of_some _ hg2)⟩ ?_ ?_ fun c o cz cT c1 c2 q => up _ _ cz (Heap.get?_push_of_some _ (kk _ _ cz cT c1 c2 q))⟩
    · exact D1.frame _ _ _ (D1.over (D1.over (D1.over sn1 sg1 S.Tf1) hp2 S.sep2_1) sg2 S.Tf1) fun b hb o q => up _ _ (fun e => S.zf1 (e ▸ hb)) (Heap.get?_push_of_some _ q)
    · exact D2.frame _ _ _ (D2.over sn2 sg2 S.Tf2) fun b hb o q => up _ _ (fun e => S.zf2 (e ▸ hb)) (Heap.get?_push_of_some _ q)
/-- next(zip) when one has ended -/
theorem zs_end {Q : Fin → Shared → Prop} (S : ZipSep2 z TI TO i1 i2 fp1 fp2) (D1 : Draws prog w A i1 fp1 n1 P1 St1) (D2 : Draws prog w A i2 fp2 n2 P2 St2)
    (hz : ZS s.heap z TI TO) (hTI : IsTupOf2 s.heap TI (.ref i1) (.ref i2)) (hTO : ∃ a1 a2, IsTupOf2 s.heap TO a1 a2) (st1 : St1 i s.heap) (st2 : St2 i s.heap) (l1 : i ≤ n1) (l2 : i ≤ n2) (hend : i = n1 ∨ i = n2)
    (hE : ∀ h' tk x, (∀ c o, c ≠ z → c ≠ TO → c ≠ i1 → c ≠ i2 → s.heap.get? c = some o → h'.get? c = some o) → (∃ o, h'.get? x = some o ∧ o.cls = .type "StopIteration") → E (.ref x) { s with heap := h', toks := tk }) :
    wpAny (model prog w) A (Builtin.«zip.__next__» ⟨[.ref z], []⟩) Q E s := by
  obtain ⟨hp, g, d, tk0, os⟩ := s
  obtain ⟨f, b, hz0, hf⟩ := id hz
  obtain ⟨b1, b2, hTO⟩ := hTO
  show wpAny _ _ (field (.ref z) 2 >>= _) _ _ _
  refine wpAny_bind (wpAny_field hz0 rfl (x := .bool false) rfl ?_)
  show wpAny _ _ (field (.ref z) 3 >>= _) _ _ _
  refine wpAny_bind (wpAny_field hz0 rfl (x := .ref TI) rfl (wpAny_bind (wpAny_seqItems hTI rfl ?_)))
  show wpAny _ _ (Builtin.SmallTypes.ownedTupleIsFree (.ref z) >>= _) _ _ _
  refine wpAny_bind (zs_free hz fun free h0 sb0 hz1 => ?_)
  replace sb0 : Heap.SameBut z hp h0 := sb0
  obtain ⟨f1, c1, hz1, hf1⟩ := hz1
  replace hz1 : h0.get? z = some (ZObj TI TO f1 c1) := hz1
  have st1' := D1.over st1 sb0 S.zf1
  have st2' := D2.over st2 sb0 S.zf2
  have hTO0 : IsTupOf2 h0 TO b1 b2 := sb0.extBut _ _ S.TOz hTO
  cases free with
  | false =>
    rw [if_neg Bool.false_ne_true]
    simp only [← Array.forIn_toList, List.forIn_cons, List.forIn_nil]
    refine wpAny_bind (wpAny_bind (wpAny_bind (wpAny_holding ?_)))
    show wpAny _ _ (Builtin.SmallTypes.nextOf (.ref i1) >>= _) _ _ _
    by_cases q1 : i < n1
    · refine wpAny_bind (D1.item i _ _ _ q1 st1' fun x1 p1 tk1 hx1 sn1 hp1 => wpAny_pure (wpAny_pure ?_))
      replace hp1 : Heap.SameBut i1 h0 p1 := hp1
      refine wpAny_bind (wpAny_bind (wpAny_holding ?_))
      show wpAny _ _ (Builtin.SmallTypes.nextOf (.ref i2) >>= _) _ _ _
      have e2 : i = n2 := by omega
      refine wpAny_bind (D2.done ⟨p1, g, d, tk1, os⟩ _ _ (by rw [← e2]; exact D2.over st2' hp1 S.sep1_2) fun q x hq hx => ?_)
      exact hE q tk1 x (fun c o cz cT c1 c2 y => hq _ _ c2 (hp1.extBut _ _ c1 (sb0.extBut _ _ cz y))) hx
    · have e1 : i = n1 := by omega
      refine wpAny_bind (D1.done ⟨h0, g, d, tk0, os⟩ _ _ (by rw [← e1]; exact st1') fun q x hq hx => ?_)
      exact hE q tk0 x (fun c o cz cT c1 c2 y => hq _ _ c1 (sb0.extBut _ _ cz y)) hx
  | true =>
    rw [if_pos rfl]
    refine wpAny_bind (wpAny_rule (wpAny_bind (wpAny_field hz1 rfl (x := .ref TO) rfl ?_)))
    refine wpAny_bind (wpAny_setField_rec hz1 (by simp) fun g0 hg0 sg0 => wpAny_bind ?_)
    replace hg0 : g0.get? z = some (ZObj TI TO .ellipsis c1) := hg0
    replace sg0 : Heap.SameBut z h0 g0 := sg0
    simp only [List.zipIdx_cons, List.zipIdx_nil, List.forIn_cons, List.forIn_nil]
    refine wpAny_bind (wpAny_bind (wpAny_onRaise ?_))
    show wpAny _ _ (Builtin.SmallTypes.nextOf (.ref i1) >>= _) _ _ _
    have last : ∀ {q : Heap} {tk : Nat} {x : Addr}, q.get? z = some (ZObj TI TO .ellipsis c1) → (∀ c o, c ≠ z → c ≠ TO → c ≠ i1 → c ≠ i2 → hp.get? c = some o → q.get? c = some o) → (∃ o, q.get? x = some o ∧ o.cls = .type "StopIteration") →
        wpAny (model prog w) A (setField (.ref z) 0 .none) (fun _ s' => E (.ref x) s') E ⟨q, g, d, tk, os⟩ := by
      intro q tk x hq hk ⟨oe, hoe, hce⟩
      have ne : x ≠ z := fun y => by
        rw [y, hq] at hoe
        cases hoe
        injection hce with hce
        exact absurd hce (by decide)
      refine wpAny_setField_rec (s := ⟨q, g, d, tk, os⟩) hq (by simp) fun q' _ sq => ?_
      replace sq : Heap.SameBut z q q' := sq
      exact hE q' tk x (fun c o cz cT c1 c2 y => sq.extBut _ _ cz (hk c o cz cT c1 c2 y)) ⟨oe, sq.extBut _ _ ne hoe, hce⟩
    by_cases q1 : i < n1
    · refine wpAny_bind (D1.item i _ _ _ q1 (D1.over st1' sg0 S.zf1) fun x1 p1 tk1 hx1 sn1 hp1 => wpAny_pure ?_)
      replace hp1 : Heap.SameBut i1 g0 p1 := hp1
      have t1 : IsTupOf2 p1 TO b1 b2 := hp1.extBut _ _ S.Ti1 (sg0.extBut _ _ S.TOz hTO0)
      refine wpAny_bind (wpAny_seqItems (s := ⟨p1, g, d, tk1, os⟩) t1 rfl (wpAny_bind (updateSeq_IsTupOf2 (s := ⟨p1, g, d, tk1, os⟩) t1 fun g1 hg1 sg1 => ?_)))
      replace hg1 : IsTupOf2 g1 TO x1 b2 := hg1
      replace sg1 : Heap.SameBut TO p1 g1 := sg1
      refine wpAny_bind (wpAny_letGo (wpAny_pure (wpAny_bind (wpAny_bind (wpAny_onRaise ?_)))))
      show wpAny _ _ (Builtin.SmallTypes.nextOf (.ref i2) >>= _) _ _ _
      have e2 : i = n2 := by omega
      refine wpAny_bind (D2.done ⟨g1, g, d, tk1, os⟩ _ _ (by rw [← e2]; exact D2.over (D2.over (D2.over st2' sg0 S.zf2) hp1 S.sep1_2) sg1 S.Tf2) fun q x hq hx => ?_)
      exact last (hq _ _ S.zi2 (sg1.extBut _ _ S.TOz.symm (hp1.extBut _ _ S.zi1 hg0))) (fun c o cz cT c1 c2 y => hq _ _ c2 (sg1.extBut _ _ cT (hp1.extBut _ _ c1 (sg0.extBut _ _ cz (sb0.extBut _ _ cz y))))) hx
    · have e1 : i = n1 := by omega
      refine wpAny_bind (D1.done ⟨g0, g, d, tk0, os⟩ _ _ (by rw [← e1]; exact D1.over st1' sg0 S.zf1) fun q x hq hx => ?_)
      exact last (hq _ _ S.zi1 hg0) (fun c o cz cT c1 c2 y => hq _ _ c1 (sg0.extBut _ _ cz (sb0.extBut _ _ cz y))) hx
theorem zs_type {h : Heap} (hz : ZS h z TI TO) : ∃ o, h.get? z = some o ∧ o.cls = .type "zip" := by
  obtain ⟨f, b, e, _⟩ := hz
  exact ⟨_, e, rfl⟩
/-- next(enumerate(zip)) -/
theorem ez_item {e : Addr} {k : Int} {old : Value} {Q : Option Value → Shared → Prop} (S : ZipSep2 z TI TO i1 i2 fp1 fp2) (D1 : Draws prog w A.in1.in1 i1 fp1 n1 P1 St1) (D2 : Draws prog w A.in1.in1 i2 fp2 n2 P2 St2) (he : IsEnum s.heap e z k old) (ne : e ≠ z ∧ e ≠ TO ∧ e ≠ i1 ∧ e ≠ i2) (neT : e ≠ TI) (ef1 : e ∉ fp1) (ef2 : e ∉ fp2)
    (hz : ZS s.heap z TI TO) (hTI : IsTupOf2 s.heap TI (.ref i1) (.ref i2)) (hTO : ∃ a1 a2, IsTupOf2 s.heap TO a1 a2) (st1 : St1 i s.heap) (st2 : St2 i s.heap) (l1 : i < n1) (l2 : i < n2)
    (hQ : ∀ x1 x2 h' tk T T2 t, P1 i x1 → P2 i x2 → s.heap.objs.size ≤ T → s.heap.objs.size ≤ T2 → T ≠ T2 → IsTupOf2 h' T2 x1 x2 → IsTupOf2 h' T (.int k t) (.ref T2) → IsEnumOut h' e z (k + 1) (.ref T2) T → ZS h' z TI TO → IsTupOf2 h' TI (.ref i1) (.ref i2) → (∃ a1 a2, IsTupOf2 h' TO a1 a2) → St1 (i + 1) h' → St2 (i + 1) h' →
      (∀ c o, c ≠ e → c ≠ z → c ≠ TO → c ≠ i1 → c ≠ i2 → s.heap.get? c = some o → h'.get? c = some o) → Q (some (.ref T)) { s with heap := h', toks := tk }) :
    wpAny (model prog w) A (pyNext (.ref e)) Q E s := by
  obtain ⟨hp, g, d, tk0, os⟩ := s
  have hT : Shared.TypeIs ⟨hp, g, d, tk0, os⟩ (.ref e) "enumerate" := ⟨_, he, rfl⟩
  have hZ : Shared.TypeIs ⟨hp, g, d, tk0, os⟩ (.ref z) "zip" := zs_type hz
  unfold pyNext
  refine wpAny_bind (wpAny_attempt (wpAny_callSpecial?_slot (name := Str.ofString "__next__") hT F.slot_enumerate_next (wpAny_call_entry F.slot_enumerate_next hT F.entry_enumerate_next ?_ (F.args_enumerate_next_1 _))))
  show wpAny _ _ (field (.ref e) 2 >>= _) _ _ _
  refine wpAny_bind (wpAny_field he rfl (x := .ref z) rfl (wpAny_bind ?_))
  unfold Builtin.SmallTypes.nextOf
  refine wpAny_bind (wpAny_callSpecial?_slot (name := Str.ofString "__next__") hZ F.slot_zip_next (wpAny_call_entry F.slot_zip_next hZ F.entry_zip_next
    (zs_item S D1 D2 hz hTI hTO st1 st2 l1 l2 fun x1 x2 h1 tk1 T2 px1 px2 hT2 ht2 hz1 hTO1 s1 s2 k1 => wpAny_pure ?_) (F.args_zip_next_1 _)))
  replace k1 : ∀ c o, c ≠ z → c ≠ TO → c ≠ i1 → c ≠ i2 → hp.get? c = some o → h1.get? c = some o := k1
  have he1 : IsEnum h1 e z k old := k1 _ _ ne.1 ne.2.1 ne.2.2.1 ne.2.2.2 he
  have e2 : T2 ≠ e := Nat.ne_of_gt (Nat.lt_of_lt_of_le (Heap.lt_size he) hT2)
  show wpAny _ _ (field (.ref e) 3 >>= _) _ _ ⟨h1, g, d, tk1, os⟩
  refine wpAny_bind (wpAny_field he1 rfl (x := rawInt k) rfl ?_)
  show wpAny _ _ (field (.ref e) 4 >>= _) _ _ ⟨h1, g, d, tk1, os⟩
  refine wpAny_bind (wpAny_field he1 rfl (x := .none) rfl ?_)
  show wpAny _ _ (mkInt k >>= _) _ _ ⟨h1, g, d, tk1, os⟩
  refine wpAny_bind (wpAny_mkInt ?_)
  show wpAny _ _ (setField (.ref e) 3 (rawInt (k + 1)) >>= _) _ _ ⟨h1, g, d, tk1 + 1, os⟩
  refine wpAny_bind (wpAny_setField_rec he1 (by simp) fun h2 he2 sb2 => ?_)
  replace he2 : IsEnum h2 e z (k + 1) old := he2
  replace sb2 : Heap.SameBut e h1 h2 := sb2
  show wpAny _ _ (setField (.ref e) 4 .none >>= _) _ _ ⟨h2, g, d, tk1 + 1, os⟩
  refine wpAny_bind (wpAny_setField_rec he2 (by simp) fun h3 he3 sb3 => ?_)
  replace he3 : IsEnum h3 e z (k + 1) old := he3
  replace sb3 : Heap.SameBut e h2 h3 := sb3
  show wpAny _ _ (newTuple [.int k tk1, .ref T2] >>= _) _ _ ⟨h3, g, d, tk1 + 1, os⟩
  refine wpAny_bind (wpAny_newTuple ?_)
  have he4 : IsEnum (h3.push { cls := .type "tuple", data := .seq #[.int k tk1, .ref T2] }) e z (k + 1) old := Heap.get?_push_of_some _ he3
  have ht3 : IsTupOf2 h3 T2 x1 x2 := sb3.extBut _ _ e2 (sb2.extBut _ _ e2 ht2)
  have hT3 : T2 < h3.objs.size := Heap.lt_size ht3
  have hTh : IsTupOf2 (h3.push { cls := .type "tuple", data := .seq #[.int k tk1, .ref T2] }) h3.objs.size (.int k tk1) (.ref T2) := Heap.get?_push_size _ rfl
  generalize hg4 : h3.push { cls := .type "tuple", data := .seq #[.int k tk1, .ref T2] } = h4 at he4 hTh
  have elt : e < h3.objs.size := Heap.lt_size he3
  have up4 : ∀ c o, c ≠ e → h1.get? c = some o → h4.get? c = some o := fun c o ce q => by
    rw [← hg4]; exact Heap.get?_push_of_some _ (sb3.extBut _ _ ce (sb2.extBut _ _ ce q))
  refine wpAny_bind ?_
  unfold Builtin.SmallTypes.ownedTupleIsFree
  refine wpAny_bind (wpAny_field (s := ⟨h4, g, d, tk1 + 1, os⟩) he4 rfl (x := .none) rfl (wpAny_pure ?_))
  simp only [if_true]
  refine wpAny_bind (wpAny_rule (wpAny_bind (wpAny_field (s := ⟨h4, g, d, tk1 + 1, os⟩) he4 rfl (x := old) rfl ?_)))
  refine wpAny_bind (wpAny_setField_rec (s := ⟨h4, g, d, tk1 + 1, os⟩) he4 (by simp) fun h5 he5 sb5 => ?_)
  replace he5 : IsEnum h5 e z (k + 1) (.ref T2) := he5
  replace sb5 : Heap.SameBut e h4 h5 := sb5
  show wpAny _ _ (Builtin.SmallTypes.ownedTupleHandOut (.ref e) (.ref h3.objs.size) >>= _) _ _ ⟨h5, g, d, tk1 + 1, os⟩
  refine wpAny_bind ?_
  unfold Builtin.SmallTypes.ownedTupleHandOut
  refine wpAny_bind (wpAny_setField_rec (s := ⟨h5, g, d, tk1 + 1, os⟩) he5 (by simp) fun h6 he6 sb6 => ?_)
  replace he6 : IsEnumOut h6 e z (k + 1) (.ref T2) h3.objs.size := he6
  replace sb6 : Heap.SameBut e h5 h6 := sb6
  refine wpAny_setField_rec (s := ⟨h6, g, d, tk1 + 1, os⟩) he6 (by simp) fun h7 he7 sb7 => ?_
  replace he7 : IsEnumOut h7 e z (k + 1) (.ref T2) h3.objs.size := he7
  replace sb7 : Heap.SameBut e h6 h7 := sb7
  have up : ∀ c o, c ≠ e → h1.get? c = some o → h7.get? c = some o := fun c o ce q => sb7.extBut _ _ ce (sb6.extBut _ _ ce (sb5.extBut _ _ ce (up4 c o ce q)))
  have top : ∀ c o, c ≠ e → h4.get? c = some o → h7.get? c = some o := fun c o ce q => sb7.extBut _ _ ce (sb6.extBut _ _ ce (sb5.extBut _ _ ce q))
  have s31 : h3.objs.size = h1.objs.size := by rw [sb3.1, sb2.1]
  have le1 : hp.objs.size ≤ h3.objs.size := Nat.le_of_lt (Nat.lt_of_le_of_lt hT2 hT3)
  obtain ⟨fz, bz, ez, cz⟩ := hz1
  obtain ⟨a1, a2, eT⟩ := hTO1
  refine wpAny_bind (wpAny_letGo (wpAny_pure ⟨_, rfl, wpAny_pure (hQ x1 x2 h7 (tk1 + 1) h3.objs.size T2 tk1 px1 px2 le1 hT2 (Nat.ne_of_gt hT3) (up _ _ e2 ht2) (top _ _ (Nat.ne_of_gt elt) hTh) he7 ⟨fz, bz, up _ _ (Ne.symm ne.1) ez, cz⟩ ?_ ⟨a1, a2, up _ _ (Ne.symm ne.2.1) eT⟩ ?_ ?_ ?_)⟩))
  · exact up _ _ (Ne.symm neT) (k1 _ _ S.TIz S.TITO S.TIi1 S.TIi2 hTI)
  · exact D1.frame _ _ _ s1 fun b hb o q => up _ _ (fun y => ef1 (y ▸ hb)) q
  · exact D2.frame _ _ _ s2 fun b hb o q => up _ _ (fun y => ef2 (y ▸ hb)) q
  · exact fun c o ce cz cT c1 c2 q => up _ _ ce (k1 c o cz cT c1 c2 q)
theorem ez_end {e : Addr} {k : Int} {old : Value} {Q : Option Value → Shared → Prop} (S : ZipSep2 z TI TO i1 i2 fp1 fp2) (D1 : Draws prog w A.in1.in1 i1 fp1 n1 P1 St1) (D2 : Draws prog w A.in1.in1 i2 fp2 n2 P2 St2) (he : IsEnum s.heap e z k old)
    (hz : ZS s.heap z TI TO) (hTI : IsTupOf2 s.heap TI (.ref i1) (.ref i2)) (hTO : ∃ a1 a2, IsTupOf2 s.heap TO a1 a2) (st1 : St1 i s.heap) (st2 : St2 i s.heap) (l1 : i ≤ n1) (l2 : i ≤ n2) (hend : i = n1 ∨ i = n2)
    (hQ : ∀ h' tk, (∀ c o, c ≠ z → c ≠ TO → c ≠ i1 → c ≠ i2 → s.heap.get? c = some o → h'.get? c = some o) → Q none { s with heap := h', toks := tk }) :
    wpAny (model prog w) A (pyNext (.ref e)) Q E s := by
  have hT : s.TypeIs (.ref e) "enumerate" := ⟨_, he, rfl⟩
  have hZ : s.TypeIs (.ref z) "zip" := zs_type hz
  unfold pyNext
  refine wpAny_bind (wpAny_attempt (wpAny_callSpecial?_slot (name := Str.ofString "__next__") hT F.slot_enumerate_next (wpAny_call_entry F.slot_enumerate_next hT F.entry_enumerate_next ?_ (F.args_enumerate_next_1 _))))
  show wpAny _ _ (field (.ref e) 2 >>= _) _ _ _
  refine wpAny_bind (wpAny_field he rfl (x := .ref z) rfl (wpAny_bind ?_))
  unfold Builtin.SmallTypes.nextOf
  refine wpAny_bind (wpAny_callSpecial?_slot (name := Str.ofString "__next__") hZ F.slot_zip_next (wpAny_call_entry F.slot_zip_next hZ F.entry_zip_next
    (zs_end S D1 D2 hz hTI hTO st1 st2 l1 l2 hend fun h1 tk1 x k1 ⟨o, ho, hc⟩ => ?_) (F.args_zip_next_1 _)))
  refine wpAny_bind (wpAny_isInstance (T := "StopIteration") (b := true) ⟨o, ho, hc⟩ isSubtype_stop ?_)
  exact wpAny_pure (hQ _ _ k1)
end
/-- two new things at once -/
theorem turned2 {X : Cx} {pins : List (Addr × Obj)} {σ : L2.St} {H : Hp} {s : Shared} {h' : Heap} {t' : Nat} {ch : List Addr} {T T2 : Addr} {o1 o2 : HO} (I : Inv X pins σ H s) (kp : ∀ c o, c ∉ ch → s.heap.get? c = some o → h'.get? c = some o) (hf : ∀ c ∈ ch, FpOk X pins H c)
    (l1 : s.heap.objs.size ≤ T) (l2 : s.heap.objs.size ≤ T2) (w1 : ObjOk X.prog X.w (upd (upd H T2 o2) T o1) h' T o1) (w2 : ObjOk X.prog X.w (upd H T2 o2) h' T2 o2) (ne : T ≠ T2) (st : ObjOk X.prog X.w (upd H T2 o2) h' T2 o2 → ObjOk X.prog X.w (upd (upd H T2 o2) T o1) h' T2 o2) : Inv X pins σ (upd (upd H T2 o2) T o1) { s with heap := h', toks := t' } := by
  have n1 : H T = none := I.hok.fresh l1
  have n2 : H T2 = none := I.hok.fresh l2
  have old : ∀ {c : Addr} {u : HO}, H c = some u → upd (upd H T2 o2) T o1 c = some u := fun {c u} q => by rw [upd_ne (ne_of_none q n1), upd_ne (ne_of_none q n2)]; exact q
  have young : ∀ {c : Addr} {o : Obj}, s.heap.get? c = some o → c ≠ T ∧ c ≠ T2 := fun {c o} q => ⟨Nat.ne_of_lt (Nat.lt_of_lt_of_le (Heap.lt_size q) l1), Nat.ne_of_lt (Nat.lt_of_lt_of_le (Heap.lt_size q) l2)⟩
  have notch : ∀ {c : Addr} {u : HO}, H c = some u → c ∉ ch := fun {c u} q z => by rw [(hf c z).1] at q; cases q
  refine I.step (g' := s.gens) (d' := s.drawn) (ch := ch) (fun c z => ⟨(hf c z).2.2.2.1, (hf c z).2.1, (hf c z).2.2.2.2.1, (hf c z).2.2.2.2.2⟩) (fun c o _ _ z q _ => kp c o z q) (fun c o _ _ z q _ => ⟨o.slots, kp c o z q⟩)
    (fun c o _ q n => ?_) (fun c o z q => ⟨o, kp c o z q⟩) (fun c xs q => old q) (fun c o u q => old q) (fun c ps q => ⟨#[], by rw [old q]; simp⟩) (fun m hm => ?_) (fun c u q => ?_) I.bare
  · rw [upd_ne (young q).1, upd_ne (young q).2]; exact n
  · obtain ⟨o, es, ep, ho, r⟩ := hm
    exact ⟨o, es, ep, kp _ o (fun z => (hf _ z).2.1 rfl) ho, r⟩
  · rcases upd_some q with ⟨rfl, rfl⟩ | ⟨d1, q⟩
    · exact w1
    · rcases upd_some q with ⟨rfl, rfl⟩ | ⟨d2, q⟩
      · exact st w2
      · refine (I.hok c u q).stay (fun b v hb z => kp b v ?_ z) (fun _ z => old z) fun _ xs z => old z
        rcases hb with z | z
        · rw [z]; exact notch q
        · exact notch z
/-- counted pairs -/
def ItE (K : PySem.W.Frag) (k1 k2 : Sk) : It :=
  ⟨fun i H => i < min k1.items.length k2.items.length ∧ k1.Fz K H ∧ k2.Fz K H,
   fun i H v H' => ∃ T T2 x y, v = .ref T ∧ H T2 = none ∧ H T = none ∧ T ≠ T2 ∧ H' = upd (upd H T2 (.tup [x, y])) T (.tup [.int (i : Nat), .ref T2]) ∧ k1.items[i]? = some x ∧ k2.items[i]? = some y,
   fun i H => i = min k1.items.length k2.items.length ∧ k1.Fz K H ∧ k2.Fz K H⟩
theorem mem6 {c z a b d e f : Addr} (h : c ∈ [z, a, b, d, e, f]) : c = z ∨ c = a ∨ c = b ∨ c = d ∨ c = e ∨ c = f := by simpa using h
theorem turn_ez {P : Program} {w : World} {K : PySem.W.Frag} {elts : List Expr} {kk : Nat} {tpos : Pos} {k1 k2 : Sk} {N : Nat} (h1 : k1.below N) (h2 : k2.below N) :
    Turn P w K (.Tuple elts kk tpos) (ItE K k1 k2) [N + 5, N + 4, N + 2, N + 3, N, N + 1] (N + 5)
      (fun i h => (∃ old, IsEnum h (N + 5) (N + 4) ((i : Nat) : Int) old) ∧ ZS h (N + 4) (N + 2) (N + 3) ∧ IsTupOf2 h (N + 2) (.ref N) (.ref (N + 1)) ∧ (∃ a1 a2, IsTupOf2 h (N + 3) a1 a2) ∧ k1.itS N i h ∧ k2.itS (N + 1) i h) where
  mem := by simp
  obj := fun i h st c hc => by
    obtain ⟨⟨old, he⟩, ⟨f, b, hz, _⟩, hTI, ⟨x, y, hTO⟩, s1, s2⟩ := st
    rcases mem6 hc with q | q | q | q | q | q
    · rw [q]; exact ⟨_, he, fun v q => nomatch q⟩
    · rw [q]; exact ⟨_, hz, fun v q => nomatch q⟩
    · rw [q]; exact ⟨_, hTI, fun v q => nomatch q⟩
    · rw [q]; exact ⟨_, hTO, fun v q => nomatch q⟩
    · rw [q]; exact Sk.itS_obj (k := k1) s1
    · rw [q]; exact Sk.itS_obj (k := k2) s2
  keep := fun i h h' st k => by
    obtain ⟨⟨old, he⟩, ⟨f, b, hz, hf⟩, hTI, ⟨x, y, hTO⟩, s1, s2⟩ := st
    exact ⟨⟨old, k _ (by simp) _ he⟩, ⟨f, b, k _ (by simp) _ hz, hf⟩, k _ (by simp) _ hTI, ⟨x, y, k _ (by simp) _ hTO⟩, Sk.itS_keep (k := k1) s1 fun o e => k _ (by simp) o e, Sk.itS_keep (k := k2) s2 fun o e => k _ (by simp) o e⟩
  item := by
    intro X hP hw hK hc i pins s σ H E I hf st hg
    subst hP hw hK
    obtain ⟨⟨old, he⟩, hz, hTI, hTO, s1, s2⟩ := st
    obtain ⟨hi, f1, f2⟩ := hg
    obtain ⟨fp1, P1, St1, D1, b1, t1, u1, v1⟩ := Sk.draws (A := X.A.in1.in1) (I.ok.hd hc) I f1 h1 (Nat.le_refl N) s1
    obtain ⟨fp2, P2, St2, D2, b2, t2, u2, v2⟩ := Sk.draws (A := X.A.in1.in1) (I.ok.hd hc) I f2 h2 (Nat.le_add_right N 1) s2
    have S := zip_sep2 b1 b2
    have o1 : (N + 5 : Nat) ∉ N :: fp1 := notIn_new (j := 5) (i := 0) b1 (by omega)
    have o2 : (N + 5 : Nat) ∉ (N + 1) :: fp2 := notIn_new (j := 5) (i := 1) b2 (by omega)
    refine ez_item S D1 D2 he ⟨show (N + 5 : Nat) ≠ N + 4 by omega, show (N + 5 : Nat) ≠ N + 3 by omega, show (N + 5 : Nat) ≠ N by omega, show (N + 5 : Nat) ≠ N + 1 by omega⟩ (show (N + 5 : Nat) ≠ N + 2 by omega) o1 o2 hz hTI hTO t1 t2 (Nat.lt_of_lt_of_le hi (Nat.min_le_left _ _)) (Nat.lt_of_lt_of_le hi (Nat.min_le_right _ _))
      fun x1 x2 h' tk T T2 t px1 px2 hT hT2 hne ht2 ht he' hz' hTI' hTO' n1 n2 kk' => ⟨_, rfl, ?_⟩
    refine wpAny_letOwnedTupleGo_enum (s := { s with heap := h', toks := tk }) he' fun h'' he'' sb => ?_
    replace sb : Heap.SameBut (N + 5) h' h'' := sb
    obtain ⟨xv, ex, rx⟩ := v1 _ _ px1
    obtain ⟨yv, ey, ry⟩ := v2 _ _ px2
    have ltE : (N + 5 : Nat) < s.heap.objs.size := Heap.lt_size he
    have g2 : IsTupOf2 h'' T2 x1 x2 := sb.extBut _ _ (Nat.ne_of_gt (Nat.lt_of_lt_of_le ltE hT2)) ht2
    have g1 : IsTupOf2 h'' T (.int i t) (.ref T2) := sb.extBut _ _ (Nat.ne_of_gt (Nat.lt_of_lt_of_le ltE hT)) ht
    have kall : ∀ c o, c ∉ [N + 5, N + 4, N + 2, N + 3, N, N + 1] → s.heap.get? c = some o → h''.get? c = some o := fun c o hb q =>
      sb.extBut _ _ (fun z => hb (by simp [z])) (kk' c o (fun z => hb (by simp [z])) (fun z => hb (by simp [z])) (fun z => hb (by simp [z])) (fun z => hb (by simp [z])) (fun z => hb (by simp [z])) q)
    have new2 : ObjOk X.prog X.w (upd H T2 (.tup [xv, yv])) h'' T2 (.tup [xv, yv]) := ⟨by show 2 ≤ sizeLine; decide, [x1, x2], .cons rx (.cons ry .nil), ⟨_, g2, rfl, _, rfl⟩⟩
    have hTn : H T = none := I.hok.fresh hT
    have hT2n : H T2 = none := I.hok.fresh hT2
    have new1 : ObjOk X.prog X.w (upd (upd H T2 (.tup [xv, yv])) T (.tup [.int (i : Nat), .ref T2])) h'' T (.tup [.int (i : Nat), .ref T2]) := ⟨by show 2 ≤ sizeLine; decide, [.int i t, .ref T2], .cons ⟨t, rfl⟩ (.cons rfl .nil), ⟨_, g1, rfl, _, rfl⟩⟩
    have I1 : Inv X pins σ (upd (upd H T2 (.tup [xv, yv])) T (.tup [.int (i : Nat), .ref T2])) { s with heap := h'', toks := tk } := turned2 (ch := [N + 5, N + 4, N + 2, N + 3, N, N + 1]) I kall hf hT hT2 new1 new2 hne fun q => q
    obtain ⟨fz, bz, ez, cz⟩ := hz'
    obtain ⟨a1, a2, eT⟩ := hTO'
    refine ⟨.ref T, _, I1, rfl, ⟨T, T2, xv, yv, rfl, hT2n, hTn, hne, rfl, ex, ey⟩, ⟨⟨.ref T2, ?_⟩, ⟨fz, bz, sb.extBut _ _ (show (N + 4 : Nat) ≠ N + 5 by omega) ez, cz⟩, sb.extBut _ _ (show (N + 2 : Nat) ≠ N + 5 by omega) hTI', ⟨a1, a2, sb.extBut _ _ (show (N + 3 : Nat) ≠ N + 5 by omega) eT⟩, u1 _ _ (D1.frame _ _ _ n1 fun b hb o q => sb.extBut _ _ (fun z => o1 (z ▸ hb)) q), u2 _ _ (D2.frame _ _ _ n2 fun b hb o q => sb.extBut _ _ (fun z => o2 (z ▸ hb)) q)⟩, fun c hcm => ?_⟩
    · have e1 : ((i + 1 : Nat) : Int) = (i : Int) + 1 := by omega
      rw [e1]; exact he''
    · have hlt : c < s.heap.objs.size := by
        obtain ⟨_, _, ezz, _⟩ := hz
        obtain ⟨_, _, eTT⟩ := hTO
        rcases mem6 hcm with q | q | q | q | q | q
        · rw [q]; exact ltE
        · rw [q]; exact Heap.lt_size ezz
        · rw [q]; exact Heap.lt_size hTI
        · rw [q]; exact Heap.lt_size eTT
        · rw [q]; obtain ⟨_, e, _⟩ := Sk.itS_obj (k := k1) s1; exact Heap.lt_size e
        · rw [q]; obtain ⟨_, e, _⟩ := Sk.itS_obj (k := k2) s2; exact Heap.lt_size e
      rw [upd_ne (Nat.ne_of_lt (Nat.lt_of_lt_of_le hlt hT)), upd_ne (Nat.ne_of_lt (Nat.lt_of_lt_of_le hlt hT2))]
      exact (hf c hcm).1
  done := by
    intro X hP hw hK hc i pins s σ H E I hf st hg
    subst hP hw hK
    obtain ⟨⟨old, he⟩, hz, hTI, hTO, s1, s2⟩ := st
    obtain ⟨rfl, f1, f2⟩ := hg
    obtain ⟨fp1, P1, St1, D1, b1, t1, u1, v1⟩ := Sk.draws (A := X.A.in1.in1) (I.ok.hd hc) I f1 h1 (Nat.le_refl N) s1
    obtain ⟨fp2, P2, St2, D2, b2, t2, u2, v2⟩ := Sk.draws (A := X.A.in1.in1) (I.ok.hd hc) I f2 h2 (Nat.le_add_right N 1) s2
    refine ez_end (zip_sep2 b1 b2) D1 D2 he hz hTI hTO t1 t2 (Nat.min_le_left _ _) (Nat.min_le_right _ _) (by omega) fun h' tk hk => ⟨rfl, ?_⟩
    exact I.turnedL (ch := [N + 5, N + 4, N + 2, N + 3, N, N + 1]) (fun c o hb q => hk c o (fun z => hb (by simp [z])) (fun z => hb (by simp [z])) (fun z => hb (by simp [z])) (fun z => hb (by simp [z])) q) hf
  self := fun A i s Q E st h => by
    obtain ⟨⟨old, he⟩, _⟩ := st
    exact wpAny_pyIter_enum he h
end TM

set_option Elab.async false
set_option linter.all false
set_option maxRecDepth 20000
set_option autoImplicit false
namespace TM
open PySem PySem.Spec PyProof.Rows L2

/-! ## walks -/
def Wlk (K : PySem.W.Frag) (G : Glo) (J : It) (ds : List D) (F : Hp) (α : List Addr) : Prop :=
  ∀ (i : Nat) (S2 : Sto) (H2 F2 : Hp) (α2 : List Addr), Wd K G S2 H2 F2 α2 → Same F F2 → (∃ β, α2 = α ++ β) →
    (∀ d, ds[i]? = some d → J.go i H2 ∧ ∀ x H3, J.yld i H2 x H3 → ∃ F3, Wd K G S2 H3 F3 α2 ∧ Stp H2 F2 α2 H3 F3 α2 ∧ Rp K G α2 F3 d x) ∧ (i = ds.length → J.stop i H2)
def IPost (K : PySem.W.Frag) (G : Glo) (W : WX) (σ : L2.St) (H F : Hp) (α : List Addr) (r : ERs) (R : It → Hp → Prop) : Prop := match r with
  | .ok ds S' => ∀ J H' F' α', Wd K G S' H' F' α' → Stp H F α H' F' α' → Wlk K G J ds F' α' → R J H'
  | .exc x S' => ∀ c dd H' F' α', Wd K G S' H' F' α' → Stp H F α H' F' α' → XRep K G α' H' F' x c dd → W c dd σ H'
  | .stuck => False
def tI (X : Cx) (G : Glo) (e : Ent) (W : WX) (f : Exs) : TI := fun σ H R => ∃ ρ S F α, Ok X.K G e ρ S σ H F α ∧ IPost X.K G W σ H F α (f ρ S) R
theorem pi_imp {X : Cx} {tg ex : Expr} {t t' : TI} (h : PI X tg ex t) (hi : ∀ σ H R, t' σ H R → t σ H R) : PI X tg ex t' := ⟨fun pins s σ H R I hq => h.run pins s σ H R I (hi _ _ _ hq)⟩
theorem pi_or {X : Cx} {tg ex : Expr} {t u : TI} (h : PI X tg ex t) (h' : PI X tg ex u) : PI X tg ex (fun σ H R => t σ H R ∨ u σ H R) := ⟨fun pins s σ H R I hq => hq.elim (h.run pins s σ H R I) (h'.run pins s σ H R I)⟩
section
variable {K : PySem.W.Frag} {G : Glo} {W : WX} {R : RelD} {Rs : RelDs} {σ : L2.St} {H F : Hp} {α : List Addr}
theorem IPost.later {H1 F1 : Hp} {α1 : List Addr} {r : ERs} {Q : It → Hp → Prop} (s : Stp H F α H1 F1 α1) (p : IPost K G W σ H F α r Q) : IPost K G W σ H1 F1 α1 r Q := by
  cases r with
  | ok d S => exact fun J H' F' α' w s' q => p J H' F' α' w (s.trans s') q
  | exc x S => exact fun c dd H' F' α' w s' q => p c dd H' F' α' w (s.trans s') q
  | stuck => exact p
theorem IPost.of_binds {r : ER} {Q : It → Hp → Prop} {Q' : VK} {g : D → Sto → ERs} (p : IPost K G W σ H F α (r.binds g) Q)
    (k : ∀ d S1 v H1 F1 α1, r = .ok d S1 → Wd K G S1 H1 F1 α1 → Stp H F α H1 F1 α1 → R α1 H1 F1 d v → IPost K G W σ H1 F1 α1 (g d S1) Q → Q' v H1) : EPost K G W R σ H F α r Q' := by
  cases r with
  | ok d S => exact fun v H' F' α' w s q => k d S v H' F' α' rfl w s q (p.later s)
  | exc x S => exact p
  | stuck => exact p
def ERs.bindl (r : ERs) (g : List D → Sto → ERs) : ERs := match r with
  | .ok d S => g d S
  | .exc x S => .exc x S
  | .stuck => .stuck
theorem IPost.of_bindl {r : ERs} {Q : It → Hp → Prop} {Q' : List V → Hp → Prop} {g : List D → Sto → ERs} (p : IPost K G W σ H F α (r.bindl g) Q)
    (k : ∀ d S1 v H1 F1 α1, r = .ok d S1 → Wd K G S1 H1 F1 α1 → Stp H F α H1 F1 α1 → Rs α1 H1 F1 d v → IPost K G W σ H1 F1 α1 (g d S1) Q → Q' v H1) : AsPost K G W Rs σ H F α r Q' := by
  cases r with
  | ok d S => exact fun v H' F' α' w s q => k d S v H' F' α' rfl w s q (p.later s)
  | exc x S => exact p
  | stuck => exact p
end
def lifts (o : Option (List D)) (S : Sto) : ERs := match o with
  | some d => .ok d S
  | none => .stuck
/-- the items of a walked value -/
def itemsO : D → Option (List D)
  | .lst xs => some xs
  | .tup xs => some xs
  | .str s => some (signs s)
  | _ => none
def seqI (f : Ex) : Exs := fun ρ S => (f ρ S).binds fun d S1 => lifts (itemsO d) S1
section
variable {X : Cx} {G : Glo} {e : Ent} {W : WX} {f g h : Ex} {fs gs : Exs} {a b c tg : Expr} {es : List Expr} {pos p : Pos}
/-- a kind and its data -/
def SkD (K : PySem.W.Frag) (G : Glo) (F : Hp) (α : List Addr) (k : Sk) (ds : List D) : Prop :=
  (∀ F2, Same F F2 → ∀ H, Same F2 H → k.Fz K H) ∧ Rps K G α F ds k.items
theorem Rp.kind {K : PySem.W.Frag} {F : Hp} {α : List Addr} {d : D} {v : V} (r : Rp K G α F d v) {ds : List D} (h : itemsO d = some ds) : ∃ k : Sk, v = k.val ∧ SkD K G F α k ds := by
  cases r with
  | tup t z q => cases h; exact ⟨.t _ _, rfl, fun F2 e H e' => same_tup e' (same_tup e t), q⟩
  | lst t z q => cases h; exact ⟨.l _ _, rfl, fun F2 e H e' => .of (e' _ _ (e _ _ t)), q⟩
  | @str s g =>
    cases h
    refine ⟨.s ⟨s.toArray⟩, rfl, fun _ _ _ _ => trivial, ?_⟩
    have := signs_rps (K := K) (G := G) (α := α) (F := F) g.cod
    exact this
  | _ => cases h
theorem SkD.fz {K : PySem.W.Frag} {F F2 H : Hp} {α : List Addr} {k : Sk} {ds : List D} (q : SkD K G F α k ds) (e : Same F F2) (e' : Same F2 H) : k.Fz K H := q.1 F2 e H e'
theorem wlk_list {K : PySem.W.Frag} {F : Hp} {α : List Addr} {ad : Addr} {vs : List V} {ds : List D} (q : F ad = some (.lst vs)) (r : Rps K G α F ds vs) : Wlk K G (Itl K ad) ds F α := by
  intro i S2 H2 F2 α2 w e ha
  have hq : SqL K H2 ad vs := .of (w.sub _ _ (e _ _ q))
  refine ⟨fun d hd => ?_, fun hi => ⟨vs, hq, by rw [← r.length]; exact Nat.le_of_eq hi.symm⟩⟩
  obtain ⟨v, hv, rv⟩ := r.get hd
  refine ⟨⟨vs, v, hq, hv⟩, fun x H3 y => ?_⟩
  obtain ⟨rfl, y⟩ := y
  have := y vs hq
  rw [hv] at this
  cases this
  exact ⟨F2, w, .refl _ _ _, rv.mono e ha⟩
theorem wlk_tup {K : PySem.W.Frag} {F : Hp} {α : List Addr} {ad : Addr} {vs : List V} {ds : List D} (q : SqT K F ad vs) (r : Rps K G α F ds vs) : Wlk K G (Itt K ad) ds F α := by
  intro i S2 H2 F2 α2 w e ha
  have hq : SqT K H2 ad vs := same_tup w.sub (same_tup e q)
  refine ⟨fun d hd => ?_, fun hi => ⟨vs, hq, by rw [← r.length]; exact Nat.le_of_eq hi.symm⟩⟩
  obtain ⟨v, hv, rv⟩ := r.get hd
  refine ⟨⟨vs, v, hq, hv⟩, fun x H3 y => ?_⟩
  obtain ⟨rfl, y⟩ := y
  have := y vs hq
  rw [hv] at this
  cases this
  exact ⟨F2, w, .refl _ _ _, rv.mono e ha⟩
def rangeD (lo : Int) (n : Nat) : List D := (List.range n).map fun i => D.int (lo + (i : Nat))
theorem wlk_range {K : PySem.W.Frag} {F : Hp} {α : List Addr} (lo : Int) (n : Nat) : Wlk K G (Itr lo n) (rangeD lo n) F α := by
  intro i S2 H2 F2 α2 w e ha
  have hl : (rangeD lo n).length = n := by unfold rangeD; rw [List.length_map, List.length_range]
  refine ⟨fun d hd => ?_, fun hi => by rw [hl] at hi; exact Nat.le_of_eq hi.symm⟩
  have hi : i < n := by rw [← hl]; exact (List.getElem?_eq_some_iff.mp hd).1
  refine ⟨hi, fun x H3 y => ?_⟩
  obtain ⟨rfl, rfl⟩ := y
  have ed : d = .int (lo + (i : Nat)) := by
    unfold rangeD at hd
    rw [List.getElem?_map, List.getElem?_range hi] at hd
    cases hd
    rfl
  subst ed
  exact ⟨F2, w, .refl _ _ _, .int _⟩
/-- x in a list, a tuple, a text -/
theorem pi_seq (ha : PE X a (tE X G e W f)) : PI X tg a (tI X G e W (seqI f)) := by
  refine pi_imp (pi_or (pi_list ha) (pi_or (pi_tup ha) (pi_str ha))) fun σ H R ⟨ρ, S, F, α, k, p⟩ => ?_
  have p : IPost X.K G W σ H F α ((f ρ S).binds fun d S1 => lifts (itemsO d) S1) R := p
  generalize hr : f ρ S = r at p
  cases r with
  | stuck => exact p.elim
  | exc x S1 => exact .inl ⟨ρ, S, F, α, k, by rw [hr]; exact p⟩
  | ok d S1 =>
    have p : IPost X.K G W σ H F α (lifts (itemsO d) S1) R := p
    cases d with
    | lst xs =>
      refine .inl ⟨ρ, S, F, α, k, ?_⟩
      rw [hr]
      intro v H1 F1 α1 w1 s1 r1
      cases r1 with
      | lst t z q => exact ⟨_, rfl, ⟨_, .of (w1.sub _ _ t)⟩, p _ _ _ _ w1 s1 (wlk_list t q)⟩
    | tup xs =>
      refine .inr (.inl ⟨ρ, S, F, α, k, ?_⟩)
      rw [hr]
      intro v H1 F1 α1 w1 s1 r1
      cases r1 with
      | tup t z q => exact ⟨_, rfl, ⟨_, same_tup w1.sub t⟩, p _ _ _ _ w1 s1 (wlk_tup t q)⟩
    | str s =>
      refine .inr (.inr ⟨ρ, S, F, α, k, ?_⟩)
      rw [hr]
      intro v H1 F1 α1 w1 s1 r1
      cases r1 with
      | str g =>
        refine ⟨_, rfl, p _ _ _ _ w1 s1 ?_⟩
        intro i S2 H2 F2 α2 w e ha
        have hl : (signs s).length = s.length := by unfold signs; rw [List.length_map]
        refine ⟨fun d hd => ?_, fun hi => ?_⟩
        · have hi : i < s.length := by rw [← hl]; exact (List.getElem?_eq_some_iff.mp hd).1
          unfold signs at hd
          rw [List.getElem?_map, List.getElem?_eq_getElem hi] at hd
          cases hd
          refine ⟨?_, fun x H3 y => ?_⟩
          · show i < s.toArray.size
            rw [List.size_toArray]; exact hi
          · obtain ⟨e1, c, e2, e3⟩ := y
            have e1 : H3 = H2 := e1
            subst e1
            have e3 : x = V.str ⟨#[c]⟩ := e3
            rw [e3]
            have e2 : s.toArray[i]? = some c := e2
            rw [List.getElem?_toArray, List.getElem?_eq_getElem hi] at e2
            cases e2
            exact ⟨F2, w, .refl _ _ _, .str ⟨by rw [big_eq]; show 1 ≤ 16777216; decide, fun z hz => by
              rw [List.mem_singleton.mp hz]
              exact g.cod _ (List.getElem_mem hi)⟩⟩
        · show s.toArray.size ≤ i
          rw [List.size_toArray, ← hl]; exact Nat.le_of_eq hi.symm
    | _ => exact p.elim

/-! ranges -/
def sm62 (i : Int) : Bool := decide (-4611686018427387904 ≤ i) && decide (i < 4611686018427387904)
theorem sm62_ok {i : Int} (h : sm62 i = true) : -(2 ^ 62) ≤ i ∧ i < 2 ^ 62 := by
  unfold sm62 at h
  rw [Bool.and_eq_true, decide_eq_true_iff, decide_eq_true_iff] at h
  omega
def range1O : List D → Option (List D)
  | [.int j] => if sm62 j then some (rangeD 0 j.toNat) else none
  | _ => none
def range2O : List D → Option (List D)
  | [.int i, .int j] => if sm62 i && sm62 j then some (rangeD i (j - i).toNat) else none
  | _ => none
def rangeC (lo c : Int) (n : Nat) : List D := (List.range n).map fun i => D.int (lo + (i : Nat) * c)
def range3O : List D → Option (List D)
  | [.int i, .int j, .int c] => if decide (c ≠ 0) && decide (c.natAbs < 1073741824) && Builtin.Range.small i j c && decide (0 ≤ Builtin.Range.rangeSize i j c) then some (rangeC i c (Builtin.Range.rangeSize i j c).toNat) else none
  | _ => none
def srcI (o : List D → Option (List D)) (fs : Exs) : Exs := fun ρ S => (fs ρ S).bindl fun ds S1 => lifts (o ds) S1
theorem lifts_post {K : PySem.W.Frag} {W : WX} {σ : L2.St} {H F : Hp} {α : List Addr} {o : Option (List D)} {S : Sto} {R : It → Hp → Prop} (p : IPost K G W σ H F α (lifts o S) R) :
    ∃ ds, o = some ds ∧ ∀ J H' F' α', Wd K G S H' F' α' → Stp H F α H' F' α' → Wlk K G J ds F' α' → R J H' := by
  cases o with
  | none => exact p.elim
  | some d => exact ⟨d, rfl, p⟩
theorem Rps.int1 {K : PySem.W.Frag} {F : Hp} {α : List Addr} {i : Int} {ds : List D} {vs : List V} (r : Rps K G α F (.int i :: ds) vs) : ∃ us, vs = .int i :: us ∧ Rps K G α F ds us := by
  cases r with
  | cons a t => cases a; exact ⟨_, rfl, t⟩
theorem Rps.nilV {K : PySem.W.Frag} {F : Hp} {α : List Addr} {vs : List V} (r : Rps K G α F [] vs) : vs = [] := by cases r; rfl
theorem src_post {o : List D → Option (List D)} {σ : L2.St} {H : Hp} {R : It → Hp → Prop} (q : tI X G e W (srcI o fs) σ H R) :
    tPs X G e W fs σ H fun vs H1 => ∃ ds S1 F1 α1 zs, Wd X.K G S1 H1 F1 α1 ∧ Rps X.K G α1 F1 ds vs ∧ o ds = some zs ∧ ∀ J H' F' α', Wd X.K G S1 H' F' α' → Stp H1 F1 α1 H' F' α' → Wlk X.K G J zs F' α' → R J H' := by
  obtain ⟨ρ, S, F, α, k, q⟩ := q
  refine ⟨ρ, S, F, α, k, IPost.of_bindl q fun ds S1 vs H1 F1 α1 _ w1 s1 r1 q1 => ?_⟩
  obtain ⟨zs, ez, kz⟩ := lifts_post q1
  exact ⟨ds, S1, F1, α1, zs, w1, r1, ez, kz⟩
theorem ps_mono {σ : L2.St} {H : Hp} {Q Q' : List V → Hp → Prop} (q : tPs X G e W fs σ H Q) (hi : ∀ vs H1, Q vs H1 → Q' vs H1) : tPs X G e W fs σ H Q' := by
  obtain ⟨ρ, S, F, α, k, p⟩ := q
  refine ⟨ρ, S, F, α, k, ?_⟩
  revert p
  cases fs ρ S with
  | ok d S' => exact fun p v H' F' α' w s q => hi _ _ (p v H' F' α' w s q)
  | exc x S' => exact fun p => p
  | stuck => exact fun p => p
theorem pi_rg1 (hg : Gl X "range") (hm : X.mg "range" = none) (ha : PA X [a] (tPs X G e W fs)) (hs : starEach [a] X.env = [(false, eval a X.env)]) : PI X tg (.Call (.Name "range" p) [a] [] pos) (tI X G e W (srcI range1O fs)) :=
  pi_imp (pi_range1 hg hm ha hs) fun σ H R q => ps_mono (src_post q) fun vs H1 ⟨ds, S1, F1, α1, zs, w1, r1, ez, kz⟩ => by
    unfold range1O at ez
    split at ez
    · split at ez
      · rename_i hj
        cases ez
        obtain ⟨us, rfl, t⟩ := r1.int1
        rw [t.nilV]
        obtain ⟨b1, b2⟩ := sm62_ok hj
        exact ⟨_, rfl, b1, b2, kz _ _ _ _ w1 (.refl _ _ _) (wlk_range 0 _)⟩
      · cases ez
    · cases ez
theorem pi_rg2 (hg : Gl X "range") (hm : X.mg "range" = none) (ha : PA X [a, b] (tPs X G e W fs)) (hs : starEach [a, b] X.env = [(false, eval a X.env), (false, eval b X.env)]) (hs2 : starEach [b] X.env = [(false, eval b X.env)]) :
    PI X tg (.Call (.Name "range" p) [a, b] [] pos) (tI X G e W (srcI range2O fs)) :=
  pi_imp (pi_range2 hg hm ha hs hs2) fun σ H R q => ps_mono (src_post q) fun vs H1 ⟨ds, S1, F1, α1, zs, w1, r1, ez, kz⟩ => by
    unfold range2O at ez
    split at ez
    · split at ez
      · rename_i hj
        rw [Bool.and_eq_true] at hj
        cases ez
        obtain ⟨us, rfl, t⟩ := r1.int1
        obtain ⟨us', rfl, t'⟩ := t.int1
        rw [t'.nilV]
        obtain ⟨b1, b2⟩ := sm62_ok hj.1
        obtain ⟨b3, b4⟩ := sm62_ok hj.2
        exact ⟨_, _, rfl, ⟨b1, b2, b3, b4⟩, kz _ _ _ _ w1 (.refl _ _ _) (wlk_range _ _)⟩
      · cases ez
    · cases ez
theorem wlk_rangeC {K : PySem.W.Frag} {F : Hp} {α : List Addr} (lo c : Int) (n : Nat) : Wlk K G (Itc lo c n) (rangeC lo c n) F α := by
  intro i S2 H2 F2 α2 w e ha
  have hl : (rangeC lo c n).length = n := by unfold rangeC; rw [List.length_map, List.length_range]
  refine ⟨fun d hd => ?_, fun hi => by rw [hl] at hi; exact Nat.le_of_eq hi.symm⟩
  have hi : i < n := by rw [← hl]; exact (List.getElem?_eq_some_iff.mp hd).1
  refine ⟨hi, fun x H3 y => ?_⟩
  obtain ⟨rfl, rfl⟩ := y
  unfold rangeC at hd
  rw [List.getElem?_map, List.getElem?_range hi] at hd
  cases hd
  exact ⟨F2, w, .refl _ _ _, .int _⟩
theorem pi_rg3 (hg : Gl X "range") (hm : X.mg "range" = none) (ha : PA X [a, b, c] (tPs X G e W fs)) (hs : starEach [a, b, c] X.env = (false, eval a X.env) :: starEach [b, c] X.env) (hpl : (backTo pos (starEach [b, c] X.env)).any (·.1) = false) :
    PI X tg (.Call (.Name "range" p) [a, b, c] [] pos) (tI X G e W (srcI range3O fs)) :=
  pi_imp (pi_range3 hg hm ha hs hpl) fun σ H R q => ps_mono (src_post q) fun vs H1 ⟨ds, S1, F1, α1, zs, w1, r1, ez, kz⟩ => by
    unfold range3O at ez
    split at ez
    · split at ez
      · rename_i hj
        rw [Bool.and_eq_true, Bool.and_eq_true, Bool.and_eq_true, decide_eq_true_iff, decide_eq_true_iff, decide_eq_true_iff] at hj
        cases ez
        obtain ⟨us, rfl, t⟩ := r1.int1
        obtain ⟨us', rfl, t'⟩ := t.int1
        obtain ⟨us2, rfl, t2⟩ := t'.int1
        rw [t2.nilV]
        exact ⟨_, _, _, _, rfl, ⟨hj.1.1.1, hj.1.1.2, hj.1.2, by omega⟩, kz _ _ _ _ w1 (.refl _ _ _) (wlk_rangeC _ _ _)⟩
      · cases ez
    · cases ez
/-! zip, enumerate -/
def zipO : List D → Option (List D)
  | [x, y] => (itemsO x).bind fun xs => (itemsO y).bind fun ys => some (List.zipWith (fun u v => D.tup [u, v]) xs ys)
  | _ => none
def enumD : Nat → List D → List D
  | _, [] => []
  | i, x :: xs => .tup [.int (i : Nat), x] :: enumD (i + 1) xs
def enumO : List D → Option (List D)
  | [x] => (itemsO x).bind fun xs => some (enumD 0 xs)
  | _ => none
theorem enumD_get : ∀ (xs : List D) (j i : Nat) (d : D), (enumD j xs)[i]? = some d → ∃ x, xs[i]? = some x ∧ d = .tup [.int ((j + i : Nat) : Int), x]
  | [], _, _, _, h => by cases h
  | x :: xs, j, 0, d, h => by cases h; exact ⟨x, rfl, rfl⟩
  | x :: xs, j, i + 1, d, h => by
    obtain ⟨y, hy, hd⟩ := enumD_get xs (j + 1) i d h
    exact ⟨y, hy, by rw [hd]; congr 3; omega⟩
theorem enumD_length : ∀ (xs : List D) (j : Nat), (enumD j xs).length = xs.length
  | [], _ => rfl
  | x :: xs, j => congrArg (· + 1) (enumD_length xs (j + 1))
theorem wlk_tupNew {K : PySem.W.Frag} {S2 : Sto} {H2 F2 : Hp} {α2 : List Addr} {T : Addr} {d1 d2 : D} {v1 v2 : V} (w : Wd K G S2 H2 F2 α2) (hT : H2 T = none) (r1 : Rp K G α2 F2 d1 v1) (r2 : Rp K G α2 F2 d2 v2) :
    ∃ F3, Wd K G S2 (upd H2 T (.tup [v1, v2])) F3 α2 ∧ Stp H2 F2 α2 (upd H2 T (.tup [v1, v2])) F3 α2 ∧ Rp K G α2 F3 (.tup [d1, d2]) (.ref T) := by
  have hs := same_upd (o := HO.tup [v1, v2]) (w.fresh hT)
  exact ⟨_, w.add hT (fun ps e => by cases e), stp_add w hT, .tup (.inl (.inl upd_same)) (by show 2 ≤ sizeLine; decide) (.cons (r1.mono hs ⟨[], (List.append_nil _).symm⟩) (.cons (r2.mono hs ⟨[], (List.append_nil _).symm⟩) .nil))⟩
theorem wlk_zip {K : PySem.W.Frag} {F : Hp} {α : List Addr} {k1 k2 : Sk} {xs ys : List D} (q1 : SkD K G F α k1 xs) (q2 : SkD K G F α k2 ys) : Wlk K G (ItP K k1 k2) (List.zipWith (fun u v => D.tup [u, v]) xs ys) F α := by
  intro i S2 H2 F2 α2 w e ha
  have l1 := q1.2.length
  have l2 := q2.2.length
  refine ⟨fun d hd => ?_, fun hi => ?_⟩
  · rw [List.getElem?_zipWith] at hd
    cases hx : xs[i]? with
    | none => rw [hx] at hd; cases hd
    | some x =>
      cases hy : ys[i]? with
      | none => rw [hx, hy] at hd; cases hd
      | some y =>
        rw [hx, hy] at hd
        cases hd
        have i1 := (List.getElem?_eq_some_iff.mp hx).1
        have i2 := (List.getElem?_eq_some_iff.mp hy).1
        refine ⟨⟨Nat.lt_min.mpr ⟨by omega, by omega⟩, q1.fz e w.sub, q2.fz e w.sub⟩, fun v H3 z => ?_⟩
        obtain ⟨T, u1, u2, rfl, hT, rfl, e1, e2⟩ := z
        obtain ⟨v1, hv1, r1⟩ := q1.2.get hx
        obtain ⟨v2, hv2, r2⟩ := q2.2.get hy
        rw [e1] at hv1
        rw [e2] at hv2
        cases hv1
        cases hv2
        exact wlk_tupNew w hT (r1.mono e ha) (r2.mono e ha)
  · rw [List.length_zipWith] at hi
    exact ⟨by rw [hi, l1, l2], q1.fz e w.sub, q2.fz e w.sub⟩
theorem wlk_enum {K : PySem.W.Frag} {F : Hp} {α : List Addr} {k : Sk} {xs : List D} (q : SkD K G F α k xs) : Wlk K G (ItN K k) (enumD 0 xs) F α := by
  intro i S2 H2 F2 α2 w e ha
  have l1 := q.2.length
  refine ⟨fun d hd => ?_, fun hi => ?_⟩
  · obtain ⟨x, hx, rfl⟩ := enumD_get _ _ _ _ hd
    rw [Nat.zero_add]
    have i1 := (List.getElem?_eq_some_iff.mp hx).1
    refine ⟨⟨by omega, q.fz e w.sub⟩, fun v H3 z => ?_⟩
    obtain ⟨T, u1, rfl, hT, rfl, e1⟩ := z
    obtain ⟨v1, hv1, r1⟩ := q.2.get hx
    rw [e1] at hv1
    cases hv1
    exact wlk_tupNew w hT (.int _) (r1.mono e ha)
  · rw [enumD_length] at hi
    exact ⟨by rw [hi, l1], q.fz e w.sub⟩
theorem SkD.mono {K : PySem.W.Frag} {F F2 : Hp} {α α2 : List Addr} {k : Sk} {ds : List D} (q : SkD K G F α k ds) (e : Same F F2) (ha : ∃ β, α2 = α ++ β) : SkD K G F2 α2 k ds := ⟨fun F3 e3 H e4 => q.1 F3 (e.trans e3) H e4, q.2.mono e ha⟩
variable {elts : List Expr} {kk : Nat} {tpos : Pos}
theorem pi_zipN (hg : Gl X "zip") (hm : X.mg "zip" = none) (ha : PA X [a, b] (tPs X G e W fs)) (hs : starEach [a, b] X.env = (false, eval a X.env) :: starEach [b] X.env) (hpl : (backTo pos (starEach [b] X.env)).any (·.1) = false) :
    PI X (.Tuple elts kk tpos) (.Call (.Name "zip" p) [a, b] [] pos) (tI X G e W (srcI zipO fs)) := by
  refine ⟨fun pins s σ H R I h => ?_⟩
  refine Call_ (ld_blt I hg hm PyProof.Rows.boot_zip (PyProof.Rows.callWith_type1 (thn (ha.run pos pins s σ H _ I (src_post h)) fun us s1 ⟨vs, H1, I1, r1, q1⟩ => ?_) hs hpl))
  obtain ⟨ds, S1, F1, α1, zs, w1, rd, ez, kz⟩ := q1
  unfold zipO at ez
  split at ez
  · rename_i x y
    cases hx : itemsO x with
    | none => rw [hx] at ez; cases ez
    | some xs =>
      cases hy : itemsO y with
      | none => rw [hx, hy] at ez; cases ez
      | some ys =>
        rw [hx, hy] at ez
        cases ez
        cases rd with
        | cons ra rt =>
          cases rt with
          | cons rb rt =>
            cases rt
            obtain ⟨k1, rfl, d1⟩ := ra.kind hx
            obtain ⟨k2, rfl, d2⟩ := rb.kind hy
            cases r1 with
            | cons ru rr =>
              cases rr with
              | cons ru2 rr =>
                cases rr
                have f1 := d1.fz (Same.refl _) w1.sub
                have f2 := d2.fz (Same.refl _) w1.sub
                obtain ⟨b1, o1, h1, B1, hh1, it1⟩ := Sk.begins I1 f1 ru
                obtain ⟨b2, o2, h2, B2, hh2, it2⟩ := Sk.begins I1 f2 ru2
                refine zip_begins2 B1 B2 hh1 hh2 fun h' hz hTI hTO g1 g2 hsz hk => wpAny_pyIter_zip hz ?_
                have I2 : Inv X pins σ H1 { s1 with heap := h' } := I1.kept (t' := s1.toks) hk
                refine ⟨_, _, _, _, H1, rfl, I2, turn_zipK (k1 := k1) (k2 := k2) b1 b2, ⟨hz, hTI, ⟨_, _, hTO⟩, it1 _ _ g1, it2 _ _ g2⟩, fun c hcm => ?_, kz _ _ _ _ w1 (.refl _ _ _) (wlk_zip d1 d2)⟩
                have hle : s1.heap.objs.size ≤ c := by
                  rcases mem5 hcm with z | z | z | z | z
                  · rw [z]; exact Nat.le_add_right _ _
                  · rw [z]; exact Nat.le_add_right _ _
                  · rw [z]; exact Nat.le_add_right _ _
                  · rw [z]; exact Nat.le_refl _
                  · rw [z]; exact Nat.le_add_right _ _
                exact I1.fpOk hle (I1.hok.fresh hle)
  · cases ez
theorem pi_enumN (hg : Gl X "enumerate") (hm : X.mg "enumerate" = none) (ha : PA X [a] (tPs X G e W fs)) (hs : starEach [a] X.env = [(false, eval a X.env)]) :
    PI X (.Tuple elts kk tpos) (.Call (.Name "enumerate" p) [a] [] pos) (tI X G e W (srcI enumO fs)) := by
  refine ⟨fun pins s σ H R I h => ?_⟩
  refine Call_ (ld_blt I hg hm boot_enumerate (PyProof.Rows.callWith_type1 (thn (ha.run pos pins s σ H _ I (src_post h)) fun us s1 ⟨vs, H1, I1, r1, q1⟩ => ?_) hs rfl))
  obtain ⟨ds, S1, F1, α1, zs, w1, rd, ez, kz⟩ := q1
  unfold enumO at ez
  split at ez
  · rename_i x
    cases hx : itemsO x with
    | none => rw [hx] at ez; cases ez
    | some xs =>
      rw [hx] at ez
      cases ez
      cases rd with
      | cons ra rt =>
        cases rt
        obtain ⟨k1, rfl, d1⟩ := ra.kind hx
        cases r1 with
        | cons ru rr =>
          cases rr
          have f1 := d1.fz (Same.refl _) w1.sub
          obtain ⟨b1, o1, h1, B1, hh1, it1⟩ := Sk.begins I1 f1 ru
          refine enum_begins1 B1 hh1 fun h' he g1 hk => wpAny_pyIter_enum he ?_
          have I2 : Inv X pins σ H1 { s1 with heap := h' } := I1.kept (t' := s1.toks) hk
          refine ⟨_, _, _, _, H1, rfl, I2, turn_enumK (kd := k1) b1, ⟨⟨.none, he⟩, it1 _ _ g1⟩, fun c hcm => ?_, kz _ _ _ _ w1 (.refl _ _ _) (wlk_enum d1)⟩
          have hc' : c = s1.heap.objs.size + 1 ∨ c = s1.heap.objs.size := by simpa using hcm
          have hle : s1.heap.objs.size ≤ c := by
            rcases hc' with z | z
            · rw [z]; exact Nat.le_add_right _ _
            · rw [z]; exact Nat.le_refl _
          exact I1.fpOk hle (I1.hok.fresh hle)
  · cases ez
/-! enumerate(zip(a, b)) -/
def ezO (ds : List D) : Option (List D) := (zipO ds).map fun zs => enumD 0 zs
theorem wlk_ez {K : PySem.W.Frag} {F : Hp} {α : List Addr} {k1 k2 : Sk} {xs ys : List D} (q1 : SkD K G F α k1 xs) (q2 : SkD K G F α k2 ys) : Wlk K G (ItE K k1 k2) (enumD 0 (List.zipWith (fun u v => D.tup [u, v]) xs ys)) F α := by
  intro i S2 H2 F2 α2 w e ha
  have l1 := q1.2.length
  have l2 := q2.2.length
  refine ⟨fun d hd => ?_, fun hi => ?_⟩
  · obtain ⟨z, hz, rfl⟩ := enumD_get _ _ _ _ hd
    rw [Nat.zero_add]
    rw [List.getElem?_zipWith] at hz
    cases hx : xs[i]? with
    | none => rw [hx] at hz; cases hz
    | some x =>
      cases hy : ys[i]? with
      | none => rw [hx, hy] at hz; cases hz
      | some y =>
        rw [hx, hy] at hz
        cases hz
        have i1 := (List.getElem?_eq_some_iff.mp hx).1
        have i2 := (List.getElem?_eq_some_iff.mp hy).1
        refine ⟨⟨Nat.lt_min.mpr ⟨by omega, by omega⟩, q1.fz e w.sub, q2.fz e w.sub⟩, fun v H3 z => ?_⟩
        obtain ⟨T, T2, u1, u2, rfl, hT2, hT, hne, rfl, e1, e2⟩ := z
        obtain ⟨v1, hv1, r1⟩ := q1.2.get hx
        obtain ⟨v2, hv2, r2⟩ := q2.2.get hy
        rw [e1] at hv1
        rw [e2] at hv2
        cases hv1
        cases hv2
        obtain ⟨F3, w3, s3, r3⟩ := wlk_tupNew w hT2 (r1.mono e ha) (r2.mono e ha)
        have hT' : upd H2 T2 (.tup [u1, u2]) T = none := by rw [upd_ne hne]; exact hT
        obtain ⟨F4, w4, s4, r4⟩ := wlk_tupNew w3 hT' (.int (i : Nat)) r3
        exact ⟨F4, w4, s3.trans s4, r4⟩
  · rw [enumD_length, List.length_zipWith] at hi
    exact ⟨by rw [hi, l1, l2], q1.fz e w.sub, q2.fz e w.sub⟩
theorem pi_ezN {p2 pos2 : Pos} (hg : Gl X "zip") (hm : X.mg "zip" = none) (hg2 : Gl X "enumerate") (hm2 : X.mg "enumerate" = none) (ha : PA X [a, b] (tPs X G e W fs)) (hs : starEach [a, b] X.env = (false, eval a X.env) :: starEach [b] X.env) (hpl : (backTo pos2 (starEach [b] X.env)).any (·.1) = false) :
    PI X (.Tuple elts kk tpos) (.Call (.Name "enumerate" p) [.Call (.Name "zip" p2) [a, b] [] pos2] [] pos) (tI X G e W (srcI ezO fs)) := by
  refine ⟨fun pins s σ H R I h => ?_⟩
  have na : starEach [.Call (.Name "zip" p2) [a, b] [] pos2] X.env = (false, eval (.Call (.Name "zip" p2) [a, b] [] pos2) X.env) :: starEach [] X.env := rfl
  refine Call_ (ld_blt I hg2 hm2 boot_enumerate (PyProof.Rows.callWith_type1 (args_cons (Call_ (ld_blt I hg hm PyProof.Rows.boot_zip (PyProof.Rows.callWith_type1 (thn (ha.run pos2 pins s σ H _ I (src_post h)) fun us s1 ⟨vs, H1, I1, r1, q1⟩ => ?_) hs hpl))) na) na))
  obtain ⟨ds, S1, F1, α1, zs, w1, rd, ez, kz⟩ := q1
  unfold ezO zipO at ez
  split at ez
  · rename_i x y
    cases hx : itemsO x with
    | none => rw [hx] at ez; cases ez
    | some xs =>
      cases hy : itemsO y with
      | none => rw [hx, hy] at ez; cases ez
      | some ys =>
        rw [hx, hy] at ez
        cases ez
        cases rd with
        | cons ra rt =>
          cases rt with
          | cons rb rt =>
            cases rt
            obtain ⟨k1, rfl, d1⟩ := ra.kind hx
            obtain ⟨k2, rfl, d2⟩ := rb.kind hy
            cases r1 with
            | cons ru rr =>
              cases rr with
              | cons ru2 rr =>
                cases rr
                have f1 := d1.fz (Same.refl _) w1.sub
                have f2 := d2.fz (Same.refl _) w1.sub
                obtain ⟨b1, o1, h1, B1, hh1, it1⟩ := Sk.begins I1 f1 ru
                obtain ⟨b2, o2, h2, B2, hh2, it2⟩ := Sk.begins I1 f2 ru2
                refine zip_begins2 B1 B2 hh1 hh2 fun h' hz hTI hTO g1 g2 hsz hk => args_nil ?_
                refine call_enum1 (s := { s1 with heap := h' }) (p := s1.heap.objs.size + 4) (g := h') (fun prog w A E Q q => wpAny_pyIter_zip hz q) fun he => wpAny_pyIter_enum he ?_
                have up : ∀ c o, h'.get? c = some o → (h'.push (enumObj (s1.heap.objs.size + 4))).get? c = some o := fun c o q => Heap.get?_push_of_some _ q
                have I2 : Inv X pins σ H1 { s1 with heap := h'.push (enumObj (s1.heap.objs.size + 4)) } := I1.kept (t' := s1.toks) fun c o q => up _ _ (hk c o q)
                rw [hsz] at he ⊢
                refine ⟨_, _, _, _, H1, rfl, I2, turn_ez (k1 := k1) (k2 := k2) b1 b2, ⟨⟨.none, he⟩, ⟨_, _, up _ _ hz, .inl rfl⟩, up _ _ hTI, ⟨_, _, up _ _ hTO⟩, it1 _ _ (up _ _ g1), it2 _ _ (up _ _ g2)⟩, fun c hcm => ?_, kz _ _ _ _ w1 (.refl _ _ _) (wlk_ez d1 d2)⟩
                have hle : s1.heap.objs.size ≤ c := by
                  rcases mem6 hcm with z | z | z | z | z | z
                  · rw [z]; exact Nat.le_add_right _ _
                  · rw [z]; exact Nat.le_add_right _ _
                  · rw [z]; exact Nat.le_add_right _ _
                  · rw [z]; exact Nat.le_add_right _ _
                  · rw [z]; exact Nat.le_refl _
                  · rw [z]; exact Nat.le_add_right _ _
                exact I1.fpOk hle (I1.hok.fresh hle)
  · cases ez
end
end TM

set_option Elab.async false
set_option linter.all false
set_option maxRecDepth 20000
set_option autoImplicit false
namespace TM
open PySem PySem.Spec PyProof.Rows L2

/-! ## an object under work: tracked, not frozen -/
section
variable {K : PySem.W.Frag} {G : Glo} {S : Sto} {H F : Hp} {α : List Addr}
theorem Wd.raw (w : Wd K G S H F α) {p : Addr} {o : HO} (h : H p = none) : Wd K G S (upd H p o) F α := by
  refine ⟨fun a u e => same_upd h _ _ (w.sub a u e), w.nd, tabs_upd h w.tabs, w.fnt, w.len, fun n o' a e1 e2 => ?_, w.anf⟩
  exact (w.sto n o' a e1 e2).mono (Same.refl F) ⟨[], (List.append_nil _).symm⟩ fun u q => same_upd h _ _ q
theorem stp_raw (w : Wd K G S H F α) {p : Addr} {o : HO} (h : H p = none) : Stp H F α (upd H p o) F α := .grow (Same.refl F) (same_upd h) fun a ha => .inl ha
theorem nt_lst (vs : List V) : nt (.lst vs) := fun ps e => by cases e
theorem nt_tup (vs : List V) : nt (.tup vs) := fun ps e => by cases e
theorem tabs_write {H : Hp} {T : List (Addr × Str)} {p : Addr} {vs : List V} {o : HO} (t : LamX.Tabs T H) (h : H p = some (.lst vs)) : LamX.Tabs T (upd H p o) := by
  intro q hq
  obtain ⟨ps, e1, e2, e3⟩ := t q hq
  have n1 : q.1 ≠ p := fun z => by rw [z, h] at e1; cases e1
  refine ⟨ps, by rw [upd_ne n1]; exact e1, e2, fun pos cv hcv => ?_⟩
  obtain ⟨c, rfl, hc⟩ := e3 pos cv hcv
  have n2 : c ≠ p := fun z => by
    rw [z, h] at hc
    have := Option.some.inj hc
    unfold LamX.CodeO at this
    cases this
  exact ⟨c, rfl, by rw [upd_ne n2]; exact hc⟩
/-- written over: it is no store's, nor frozen -/
theorem Wd.write (w : Wd K G S H F α) {p : Addr} {vs : List V} {o : HO} (h : H p = some (.lst vs)) (hf : F p = none) (ha : p ∉ α) : Wd K G S (upd H p o) F α := by
  refine ⟨fun a u e => ?_, w.nd, tabs_write w.tabs h, w.fnt, w.len, fun n o' a e1 e2 => ?_, w.anf⟩
  · have ne : a ≠ p := fun z => by rw [z, hf] at e; cases e
    rw [upd_ne ne]; exact w.sub a u e
  · have ne : a ≠ p := fun z => ha (by rw [← z]; exact List.mem_of_getElem? e2)
    exact (w.sto n o' a e1 e2).mono (Same.refl F) ⟨[], (List.append_nil _).symm⟩ fun u q => by rw [upd_ne ne]; exact q
/-- frozen now -/
theorem Wd.frz (w : Wd K G S H F α) {p : Addr} {o : HO} (h : H p = some o) (hf : F p = none) (ha : p ∉ α) (n : nt o) : Wd K G S H (upd F p o) α := by
  refine ⟨fun a u e => ?_, w.nd, w.tabs, fun a u e => ?_, w.len, fun m o' a e1 e2 => ?_, fun a m => ?_⟩
  · rcases upd_some e with ⟨rfl, rfl⟩ | ⟨_, e⟩
    · exact h
    · exact w.sub a u e
  · rcases upd_some e with ⟨rfl, rfl⟩ | ⟨_, e⟩
    · exact n
    · exact w.fnt a u e
  · exact (w.sto m o' a e1 e2).mono (same_upd hf) ⟨[], (List.append_nil _).symm⟩ fun u q => q
  · rw [upd_ne (fun z => ha (by rw [← z]; exact m))]; exact w.anf a m
/-- a step, from where p was not there, with p written -/
theorem Stp.write {H' F' : Hp} {α' : List Addr} (s : Stp H F α H' F' α') {p : Addr} {o : HO} (h0 : ¬ Trk H p) : Stp H F α (upd H' p o) F' α' := by
  refine ⟨s.f, s.fr, s.al, fun a u e q n => ?_, fun a q => ?_⟩
  · have ne : a ≠ p := fun z => h0 ⟨u, by rw [← z]; exact e, n⟩
    rw [upd_ne ne]; exact s.keep a u e q n
  · obtain ⟨u, e, n⟩ := s.dom a q
    have ne : a ≠ p := fun z => h0 (by rw [← z]; exact q)
    exact ⟨u, by rw [upd_ne ne]; exact e, n⟩
theorem Stp.frz {H' F' : Hp} {α' : List Addr} (s : Stp H F α H' F' α') {p : Addr} {o : HO} (h0 : ¬ Trk H p) (hf : F' p = none) : Stp H F α H' (upd F' p o) α' := by
  refine ⟨s.f.trans (same_upd hf), fun a q => ?_, s.al, s.keep, s.dom⟩
  by_cases z : a = p
  · rw [z]; exact .inr h0
  · rw [upd_ne z] at q; exact s.fr a q
end

/-! ## targets -/
abbrev Tg := D → Slots → Option Slots
def wipeD (ρ : Slots) : List Nat → Slots
  | [] => ρ
  | v :: vs => (wipeD ρ vs).set v none
theorem wipeD_length (ρ : Slots) : ∀ vs, (wipeD ρ vs).length = ρ.length
  | [] => rfl
  | v :: vs => by unfold wipeD; rw [List.length_set, wipeD_length ρ vs]
section
variable {K : PySem.W.Frag} {G : Glo} {e : Ent} {ρ : Slots} {S : Sto} {σ : L2.St} {H F : Hp} {α : List Addr}
theorem Ok.unset (k : Ok K G e ρ S σ H F α) (i : Nat) : Ok K G e (ρ.set i none) S (σ.set i none) H F α := by
  refine ⟨k.wd, k.st, by rw [List.length_set, List.length_set]; exact k.len, fun j s hj => ?_, fun j l o u a h1 h2 h3 h4 => ?_⟩
  · by_cases hi : i = j
    · subst hi
      by_cases hl : i < ρ.length
      · rw [List.getElem?_set_self hl] at hj
        cases hj
        exact ⟨none, List.getElem?_set_self (by rw [← k.len]; exact hl), .none _⟩
      · rw [List.getElem?_eq_none (by rw [List.length_set]; omega)] at hj
        cases hj
    · rw [List.getElem?_set_ne hi] at hj
      obtain ⟨x, hx, q⟩ := k.sl j s hj
      exact ⟨x, by rw [List.getElem?_set_ne hi]; exact hx, q⟩
  · have n1 : i ≠ j := fun z => by
      subst z
      by_cases hl : i < ρ.length
      · rw [List.getElem?_set_self hl] at h1; cases h1
      · rw [List.getElem?_eq_none (by rw [List.length_set]; omega)] at h1; cases h1
    have n2 : i ≠ l := fun z => by
      subst z
      by_cases hl : i < ρ.length
      · rw [List.getElem?_set_self hl] at h2; cases h2
      · rw [List.getElem?_eq_none (by rw [List.length_set]; omega)] at h2; cases h2
    rw [List.getElem?_set_ne n1] at h1 h3
    rw [List.getElem?_set_ne n2] at h2 h4
    exact k.inj j l o u a h1 h2 h3 h4
theorem Ok.wipe (k : Ok K G e ρ S σ H F α) : ∀ vs : List Nat, Ok K G e (wipeD ρ vs) S (L2.wipe σ vs) H F α
  | [] => k
  | v :: vs => (Ok.wipe k vs).unset v
theorem Ok.setVal (k : Ok K G e ρ S σ H F α) (i : Nat) {d : D} {v : V} (r : Rp K G α F d v) : Ok K G e (ρ.set i (some (.val d))) S (σ.set i (some v)) H F α := by
  refine ⟨k.wd, k.st, by rw [List.length_set, List.length_set]; exact k.len, fun j s hj => ?_, fun j l o u a h1 h2 h3 h4 => ?_⟩
  · by_cases hi : i = j
    · subst hi
      by_cases hl : i < ρ.length
      · rw [List.getElem?_set_self hl] at hj
        cases hj
        exact ⟨some v, List.getElem?_set_self (by rw [← k.len]; exact hl), .val r⟩
      · rw [List.getElem?_eq_none (by rw [List.length_set]; omega)] at hj
        cases hj
    · rw [List.getElem?_set_ne hi] at hj
      obtain ⟨x, hx, q⟩ := k.sl j s hj
      exact ⟨x, by rw [List.getElem?_set_ne hi]; exact hx, q⟩
  · have n1 : i ≠ j := fun z => by
      subst z
      by_cases hl : i < ρ.length
      · rw [List.getElem?_set_self hl] at h1; cases h1
      · rw [List.getElem?_eq_none (by rw [List.length_set]; omega)] at h1; cases h1
    have n2 : i ≠ l := fun z => by
      subst z
      by_cases hl : i < ρ.length
      · rw [List.getElem?_set_self hl] at h2; cases h2
      · rw [List.getElem?_eq_none (by rw [List.length_set]; omega)] at h2; cases h2
    rw [List.getElem?_set_ne n1] at h1 h3
    rw [List.getElem?_set_ne n2] at h2 h4
    exact k.inj j l o u a h1 h2 h3 h4
end
theorem wipe_set (σ : L2.St) (i : Nat) (x : Option V) : ∀ vs : List Nat, i ∈ vs → L2.wipe (σ.set i x) vs = L2.wipe σ vs
  | [], h => by cases h
  | v :: vs, h => by
    unfold L2.wipe
    by_cases e : i ∈ vs
    · rw [wipe_set σ i x vs e]
    · have e' : v = i := by
        rcases List.mem_cons.mp h with z | z
        · exact z.symm
        · exact absurd z e
      subst e'
      have : ∀ (us : List Nat), v ∉ us → (L2.wipe (σ.set v x) us) = (L2.wipe σ us).set v x := by
        intro us
        induction us with
        | nil => exact fun _ => rfl
        | cons u us ih =>
          intro hn
          rw [List.mem_cons, not_or] at hn
          unfold L2.wipe
          rw [ih hn.2, List.set_comm _ _ hn.1]
      rw [this vs e, List.set_set]
theorem wipe_none {σ : L2.St} {i : Nat} : ∀ {us : List Nat}, i ∈ us → (L2.wipe σ us)[i]? = none ∨ (L2.wipe σ us)[i]? = some none
  | [], h => by cases h
  | w :: ws, h => by
    unfold L2.wipe
    by_cases e : w = i
    · subst e
      by_cases hl : w < (L2.wipe σ ws).length
      · exact .inr (List.getElem?_set_self hl)
      · exact .inl (List.getElem?_eq_none (by rw [List.length_set]; omega))
    · rw [List.getElem?_set_ne e]
      rcases List.mem_cons.mp h with z | z
      · exact absurd z.symm e
      · exact wipe_none z
theorem wipe_id {τ : L2.St} : ∀ {ws : List Nat}, (∀ i ∈ ws, τ[i]? = none ∨ τ[i]? = some none) → L2.wipe τ ws = τ
  | [], _ => rfl
  | w :: ws, h => by
    unfold L2.wipe
    rw [wipe_id fun i hi => h i (List.mem_cons_of_mem _ hi)]
    rcases h w List.mem_cons_self with z | z
    · exact List.set_eq_of_length_le (List.getElem?_eq_none_iff.mp z)
    · have hl := (List.getElem?_eq_some_iff.mp z).1
      have hv := (List.getElem?_eq_some_iff.mp z).2
      rw [← hv]
      exact List.set_getElem_self hl
theorem wipe_wipe (σ : L2.St) (us : List Nat) : L2.wipe (L2.wipe σ us) us = L2.wipe σ us := wipe_id fun i hi => wipe_none hi
/-- a target's reading; idx: what it stores -/
def tG (X : Cx) (G : Glo) (e : Ent) (g : Tg) (idx : List Nat) : TG := fun v σ H Q => ∃ ρ S F α d ρ', Ok X.K G e ρ S σ H F α ∧ Rp X.K G α F d v ∧ g d ρ = some ρ' ∧
  ∀ σ', Ok X.K G e ρ' S σ' H F α → (∀ vs : List Nat, (∀ i ∈ idx, i ∈ vs) → L2.wipe σ' vs = L2.wipe σ vs) → Q σ' H
abbrev Tgs := List D → Slots → Option Slots
def tGs (X : Cx) (G : Glo) (e : Ent) (g : Tgs) (idx : List Nat) : TGs := fun vs σ H Q => ∃ ρ S F α ds ρ', Ok X.K G e ρ S σ H F α ∧ Rps X.K G α F ds vs ∧ g ds ρ = some ρ' ∧
  ∀ σ', Ok X.K G e ρ' S σ' H F α → (∀ vs : List Nat, (∀ i ∈ idx, i ∈ vs) → L2.wipe σ' vs = L2.wipe σ vs) → Q σ' H
def nameG (i : Nat) : Tg := fun d ρ => some (ρ.set i (some (.val d)))
def nilGs : Tgs := fun ds ρ => match ds with
  | [] => some ρ
  | _ => none
def consGs (g : Tg) (gs : Tgs) : Tgs := fun ds ρ => match ds with
  | d :: r => (g d ρ).bind fun ρ' => gs r ρ'
  | [] => none
def tupG (n : Nat) (gs : Tgs) : Tg := fun d ρ => match d with
  | .tup ds => if ds.length = n then gs ds ρ else none
  | _ => none
theorem pg_imp {X : Cx} {ex : Expr} {t t' : TG} (h : PG X ex t) (hi : ∀ v σ H Q, t' v σ H Q → t v σ H Q) : PG X ex t' := ⟨fun pins s σ H v u Q I r hq => h.run pins s σ H v u Q I r (hi _ _ _ _ hq)⟩
theorem pgs_imp {X : Cx} {ex : List Expr} {t t' : TGs} (h : PGs X ex t) (hi : ∀ v σ H Q, t' v σ H Q → t v σ H Q) : PGs X ex t' := ⟨fun pins s σ H v u Q I r hq => h.run pins s σ H v u Q I r (hi _ _ _ _ hq)⟩
section
variable {X : Cx} {G : Glo} {e : Ent} {W : WX} {tg : Expr} {es : List Expr} {pos : Pos} {g : Tg} {gs : Tgs} {idx idx' : List Nat}
theorem pg_n {i : Nat} {x : Str} (hN : X.N.Nodup) (hi : X.N[i]? = some x) (hx : Loc X.env.scope x) (hf : X.fn x = true ∨ X.env.scope.names.lookup x = some .local) : PG X (.Name x pos) (tG X G e (nameG i) [i]) :=
  pg_imp (pg_name (i := i) hN hi hx hf) fun v σ H Q ⟨ρ, S, F, α, d, ρ', k, r, hg, q⟩ => by
    cases hg
    exact q _ (k.setVal i r) fun vs h => wipe_set σ i _ vs (h i List.mem_cons_self)
theorem pgs_n : PGs X [] (tGs X G e nilGs []) :=
  pgs_imp pgs_nil fun v σ H Q ⟨ρ, S, F, α, ds, ρ', k, r, hg, q⟩ => by
    unfold nilGs at hg
    split at hg
    · cases hg
      cases r
      exact ⟨rfl, q _ k fun _ _ => rfl⟩
    · cases hg
theorem pgs_c (h1 : PG X tg (tG X G e g idx)) (h2 : PGs X es (tGs X G e gs idx')) (hs : (assignEach (tg :: es) X.env).map (·.2) = assign tg X.env :: (assignEach es X.env).map (·.2)) : PGs X (tg :: es) (tGs X G e (consGs g gs) (idx ++ idx')) :=
  pgs_imp (pgs_cons h1 h2 hs) fun v σ H Q ⟨ρ, S, F, α, ds, ρ', k, r, hg, q⟩ => by
    unfold consGs at hg
    split at hg
    · rename_i d rest
      cases h : g d ρ with
      | none => rw [h] at hg; cases hg
      | some ρ1 =>
        rw [h] at hg
        cases r with
        | cons a t =>
          refine ⟨_, _, rfl, ρ, S, F, α, d, ρ1, k, a, h, fun σ1 k1 w1 => ⟨ρ1, S, F, α, rest, ρ', k1, t, hg, fun σ2 k2 w2 => q σ2 k2 fun vs hv => ?_⟩⟩
          rw [w2 vs fun i hi => hv i (List.mem_append_right _ hi), w1 vs fun i hi => hv i (List.mem_append_left _ hi)]
    · cases hg
theorem pg_t {n k : Nat} (hc : X.calm = true) (h : PGs X es (tGs X G e gs idx)) (hn : (assignEach es X.env).length = n) (hst : (assignEach es X.env).findIdx? (·.1) = none) : PG X (.Tuple es k pos) (tG X G e (tupG n gs) idx) :=
  pg_imp (pg_tup hc h hn hst) fun v σ H Q ⟨ρ, S, F, α, d, ρ', k, r, hg, q⟩ => by
    unfold tupG at hg
    split at hg
    · split at hg
      · rename_i hl
        cases r with
        | tup t z rr => exact ⟨_, _, rfl, same_tup k.wd.sub t, by rw [← rr.length]; exact hl, ρ, S, F, α, _, ρ', k, rr, hg, q⟩
      · cases hg
    · cases hg
end

/-! ## comprehensions -/
/-- over the items -/
def lcGo (ρ0 : Slots) (g : Tg) (c f : Ex) : List D → Sto → ERs
  | [], S => .ok [] S
  | d :: ds, S => match g d ρ0 with
    | none => .stuck
    | some ρ => match c ρ S with
      | .ok (.bl true) S1 => (match f ρ S1 with
        | .ok y S2 => (lcGo ρ0 g c f ds S2).cons y
        | _ => .stuck)
      | .ok (.bl false) S1 => lcGo ρ0 g c f ds S1
      | _ => .stuck
def lcE (src : Exs) (g : Tg) (c f : Ex) (own : List Nat) : Ex := fun ρ S => (src ρ S).bind fun ds S1 => match lcGo (wipeD ρ own) g c f ds S1 with
  | .ok ys S2 => if ys.length ≤ big then .ok (.lst ys) S2 else .stuck
  | _ => .stuck
abbrev W0 : WX := fun _ _ _ _ => False
theorem IPost.of_bind {K : PySem.W.Frag} {G : Glo} {W : WX} {R : RelD} {σ : L2.St} {H F : Hp} {α : List Addr} {r : ERs} {Q : VK} {R' : It → Hp → Prop} {g : List D → Sto → ER} (p : EPost K G W R σ H F α (r.bind g) Q)
    (k : ∀ ds S1 J H1 F1 α1, r = .ok ds S1 → Wd K G S1 H1 F1 α1 → Stp H F α H1 F1 α1 → Wlk K G J ds F1 α1 → EPost K G W R σ H1 F1 α1 (g ds S1) Q → R' J H1) : IPost K G W σ H F α r R' := by
  cases r with
  | ok d S => exact fun J H' F' α' w s q => k d S J H' F' α' rfl w s q (p.later s)
  | exc x S => exact p
  | stuck => exact p
section
variable {X : Cx} {G : Glo} {e : Ent} {W : WX} {src : Exs} {g : Tg} {c f : Ex} {own idx : List Nat}
/-- an expression that raises nothing, read where nothing may be raised -/
theorem te_ok {f : Ex} {ρ : Slots} {S S' : Sto} {σ : L2.St} {H F : Hp} {α : List Addr} {d : D} {Q : VK} (k : Ok X.K G e ρ S σ H F α) (h : f ρ S = .ok d S') (q : ∀ v H' F' α', Wd X.K G S' H' F' α' → Stp H F α H' F' α' → Rp X.K G α' F' d v → Q v H') : tE X G e W f σ H Q :=
  ⟨ρ, S, F, α, k, by rw [h]; exact q⟩
theorem to_ok {f : Ex} {ρ : Slots} {S S' : Sto} {σ : L2.St} {H F : Hp} {α : List Addr} {d : D} {Q : VK} (k : Ok X.K G e ρ S σ H F α) (h : f ρ S = .ok d S') (q : ∀ v H' F' α', Wd X.K G S' H' F' α' → Stp H F α H' F' α' → RpO X.K G α' H' F' d v → Q v H') : tO X G e W f σ H Q :=
  ⟨ρ, S, F, α, k, by rw [h]; exact q⟩
theorem lc_gen {σ : L2.St} {H : Hp} {Q : VK} {R : RelD} (hw : ∀ i ∈ idx, i ∈ own) {ρ : Slots} {S : Sto} {F : Hp} {α : List Addr} (k : Ok X.K G e ρ S σ H F α) (p : EPost X.K G W R σ H F α (lcE src g c f own ρ S) Q)
    (fin : ∀ {H1 F1 H2 F2 : Hp} {α1 α2 : List Addr} {D : Addr} {vs : List V} {ys : List TM.D} {S1 S2 : Sto}, Ok X.K G e ρ S1 σ H1 F1 α1 → Stp H F α H1 F1 α1 → Wd X.K G S2 H2 F2 α2 → Stp H1 F1 α1 H2 F2 α2 → H1 D = none → H2 D = some (.lst vs) → F2 D = none → D ∉ α2 → Rps X.K G α2 F2 ys vs → vs.length ≤ sizeLine →
      ∃ F3, Wd X.K G S2 H2 F3 α2 ∧ Stp H1 F1 α1 H2 F3 α2 ∧ R α2 H2 F3 (.lst ys) (.ref D)) :
    tLc (tI X G e W src) (tG X G e g idx) (tT X G e W0 c) (tE X G e W0 f) own σ H Q := by
  refine ⟨ρ, S, F, α, k, IPost.of_bind p fun ds S1 J H1 F1 α1 _ w1 s1 wk p1 => fun D hD => ?_⟩
  have k1 := k.step w1 s1
  generalize hz : lcGo (wipeD ρ own) g c f ds S1 = z at p1
  cases z with
  | exc x S => exact p1.elim
  | stuck => exact p1.elim
  | ok ys Sz =>
    have p1 : EPost X.K G W R σ H1 F1 α1 (if ys.length ≤ big then .ok (.lst ys) Sz else .stuck) Q := p1
    split at p1
    · rename_i hbig
      have hF1 : F1 D = none := w1.fresh hD
      refine ⟨fun i m H2 => m = ds.length - i ∧ i ≤ ds.length ∧ ∃ S2 F2 α2 acc vs zs, Wd X.K G S2 H2 F2 α2 ∧ Stp H1 F1 α1 H2 F2 α2 ∧ H2 D = some (.lst vs) ∧ F2 D = none ∧ D ∉ α2 ∧ Rps X.K G α2 F2 acc vs ∧
        lcGo (wipeD ρ own) g c f (ds.drop i) S2 = .ok zs Sz ∧ acc ++ zs = ys, ⟨ds.length, rfl, Nat.zero_le _, S1, F1, α1, [], [], ys, w1.raw hD, stp_raw w1 hD, upd_same, hF1, w1.freshA hD, .nil, hz, rfl⟩, ?_⟩
      rintro i m H2 ⟨rfl, hi, S2, F2, α2, acc, vs, zs, w2, s2, hD2, hF2, hA2, ra, hz2, ey⟩
      obtain ⟨wg, wst⟩ := wk i S2 H2 F2 α2 w2 s2.f s2.pre
      by_cases hlt : i < ds.length
      · refine .inr ?_
        have hd : ds[i]? = some ds[i] := List.getElem?_eq_getElem hlt
        obtain ⟨go, yld⟩ := wg _ hd
        rw [List.drop_eq_getElem_cons hlt] at hz2
        refine ⟨go, fun H' => ∃ S2 F2 α2 acc vs zs, Wd X.K G S2 H' F2 α2 ∧ Stp H1 F1 α1 H' F2 α2 ∧ H' D = some (.lst vs) ∧ F2 D = none ∧ D ∉ α2 ∧ Rps X.K G α2 F2 acc vs ∧
          lcGo (wipeD ρ own) g c f (ds.drop (i + 1)) S2 = .ok zs Sz ∧ acc ++ zs = ys, fun H' h => ⟨_, by omega, rfl, hlt, h⟩, fun x H3 y => ?_⟩
        obtain ⟨F3, w3, s3, rx⟩ := yld x H3 y
        have s13 := s2.trans s3
        have hD3 : H3 D = some (.lst vs) := s3.keep _ _ hD2 hA2 (nt_lst vs)
        have hFn : ∀ {H' F' : Hp} {α' : List Addr}, H2 D = some (.lst vs) → Stp H2 F2 α2 H' F' α' → F' D = none := fun {H' F' α'} h s => Classical.byContradiction fun n => by
          rcases s.fr D n with z | z
          · exact z hF2
          · exact z ⟨_, h, nt_lst vs⟩
        have hAn : ∀ {H' F' : Hp} {α' : List Addr}, Stp H2 F2 α2 H' F' α' → D ∉ α' := fun {H' F' α'} s m => by
          obtain ⟨β, rfl, hβ⟩ := s.al
          rcases List.mem_append.mp m with m | m
          · exact hA2 m
          · exact hβ _ m ⟨_, hD2, nt_lst vs⟩
        have k3 : Ok X.K G e (wipeD ρ own) S2 (L2.wipe σ own) H3 F3 α2 := (k1.step w3 s13).wipe own
        unfold lcGo at hz2
        split at hz2
        · cases hz2
        · rename_i ρ' hg
          refine ⟨_, S2, F3, α2, _, ρ', k3, rx, hg, fun σ' k' hw' => ⟨?_, ?_⟩⟩
          · rw [hw' own hw, wipe_wipe]
          · split at hz2
            · rename_i S4 hc
              refine to_ok k' hc fun v H4 F4 α4 w4 s4 r4 => ?_
              rw [r4.blH]
              refine ⟨true, rfl, iteT ?_⟩
              split at hz2
              · rename_i y' S5 hf
                refine te_ok (k'.step w4 s4) hf fun v5 H5 F5 α5 w5 s5 r5 => ?_
                have s25 := s3.trans (s4.trans s5)
                have hD5 : H5 D = some (.lst vs) := s25.keep _ _ hD2 hA2 (nt_lst vs)
                cases hr : lcGo (wipeD ρ own) g c f (List.drop (i + 1) ds) S5 with
                | exc x S => rw [hr] at hz2; cases hz2
                | stuck => rw [hr] at hz2; cases hz2
                | ok zs' S6 =>
                  rw [hr] at hz2
                  have hz2 : ERs.ok (y' :: zs') S6 = ERs.ok zs Sz := hz2
                  cases hz2
                  have hF5 := hFn hD2 s25
                  have hA5 := hAn s25
                  have hlen : vs.length < sizeLine := by
                    have := congrArg List.length ey
                    rw [List.length_append, List.length_cons] at this
                    rw [← ra.length]
                    have h2 := le_line hbig
                    omega
                  refine ⟨vs, hD5, hlen, S5, F5, α5, acc ++ [y'], vs ++ [v5], zs', w5.write hD5 hF5 hA5, (s2.trans s25).write (no_trk hD), upd_same, hF5, hA5, ?_, hr, by rw [List.append_assoc]; exact ey⟩
                  exact (ra.mono s25.f s25.pre).append (Rps.one r5)
              · cases hz2
            · rename_i S4 hc
              refine to_ok k' hc fun v H4 F4 α4 w4 s4 r4 => ?_
              rw [r4.blH]
              refine ⟨false, rfl, iteF ?_⟩
              have s24 := s3.trans s4
              exact ⟨S4, F4, α4, acc, vs, zs, w4, s2.trans s24, s24.keep _ _ hD2 hA2 (nt_lst vs), hFn hD2 s24, hAn s24, ra.mono s24.f s24.pre, hz2, ey⟩
            · cases hz2
      · refine .inl ?_
        have ei : i = ds.length := by omega
        refine ⟨wst ei, ?_⟩
        rw [ei, List.drop_length] at hz2
        cases hz2
        rw [List.append_nil] at ey
        subst ey
        have hv : vs.length ≤ sizeLine := by rw [← ra.length]; exact le_line hbig
        obtain ⟨F3, w3, s3, r3⟩ := fin k1 s1 w2 s2 hD hD2 hF2 hA2 ra hv
        exact p1 _ _ _ _ w3 s3 r3
    · exact p1.elim
theorem lc_post {σ : L2.St} {H : Hp} {Q : VK} (hw : ∀ i ∈ idx, i ∈ own) (q : tE X G e W (lcE src g c f own) σ H Q) :
    tLc (tI X G e W src) (tG X G e g idx) (tT X G e W0 c) (tE X G e W0 f) own σ H Q := by
  obtain ⟨ρ, S, F, α, k, p⟩ := q
  refine lc_gen hw k p fun {H1 F1 H2 F2 α1 α2 D vs ys S1 S2} _ _ w2 s2 hD hD2 hF2 hA2 ra hv => ?_
  exact ⟨_, w2.frz hD2 hF2 hA2 (nt_lst vs), s2.frz (no_trk hD) hF2, .lst upd_same hv (ra.mono (same_upd hF2) ⟨[], (List.append_nil _).symm⟩)⟩
variable {elt tg iter : Expr} {ifs : List Expr} {scope : Scope} {ownN : List (Str × Nat)} {pos : Pos}
theorem pe_lcE (hc : X.calm = true) (hN : X.N.Nodup) (hi : PI X tg iter (tI X G e W src)) (ok : BlkOk X.N X.env.scope scope ownN) (hw : ∀ i ∈ idx, i ∈ ownN.map (·.2))
    (hg : ∀ (s : Shared) (H : Hp) (C : Addr) (cl : List (Str × Addr)) (fp : List Addr), PG (X.blk s H scope (compEnvC scope cl C X.env) fp) tg (tG X G e g idx)) (ht : ∀ (s : Shared) (H : Hp) (C : Addr) (cl : List (Str × Addr)) (fp : List Addr), PTs (X.blk s H scope (compEnvC scope cl C X.env) fp) ifs (tT X G e W0 c))
    (he : ∀ (s : Shared) (H : Hp) (C : Addr) (cl : List (Str × Addr)) (fp : List Addr), PE (X.blk s H scope (compEnvC scope cl C X.env) fp) elt (tE X G e W0 f)) (hs : ∀ x, foldedSetIterable iter X.env x = pure x) :
    PE X (.ListComp elt [⟨tg, iter, ifs, 0⟩] scope pos) (tE X G e W (lcE src g c f (ownN.map (·.2)))) :=
  pe_imp (pe_lc hc hN hi ok hg ht he hs) fun _ _ _ q => lc_post hw q
end
end TM

set_option Elab.async false
set_option linter.all false
set_option maxRecDepth 20000
set_option autoImplicit false
namespace TM
open PySem PySem.Spec PyProof.Rows L2

/-! ## statements -/
inductive SR where
  | nx (ρ : Slots) (S : Sto) | rt (d : D) (S : Sto) | bk (ρ : Slots) (S : Sto) | ct (ρ : Slots) (S : Sto) | exc (x : Xc) (ρ : Slots) (S : Sto) | stuck
abbrev Sx := Slots → Sto → SR
def Grw (F : Hp) (α : List Addr) (F' : Hp) (α' : List Addr) : Prop := Same F F' ∧ ∃ β, α' = α ++ β
theorem Grw.refl (F : Hp) (α : List Addr) : Grw F α F α := ⟨Same.refl F, [], (List.append_nil _).symm⟩
theorem Grw.trans {F F1 F2 : Hp} {α α1 α2 : List Addr} (a : Grw F α F1 α1) (b : Grw F1 α1 F2 α2) : Grw F α F2 α2 := by
  obtain ⟨a1, β, rfl⟩ := a
  obtain ⟨b1, γ, rfl⟩ := b
  exact ⟨a1.trans b1, β ++ γ, by rw [List.append_assoc]⟩
theorem Stp.grw {H F H' F' : Hp} {α α' : List Addr} (s : Stp H F α H' F' α') : Grw F α F' α' := ⟨s.f, s.pre⟩
def SPost (K : PySem.W.Frag) (G : Glo) (e : Ent) (W : WX) (F : Hp) (α : List Addr) (r : SR) (D : Ends) : Prop := match r with
  | .nx ρ S => ∀ σ' H' F' α', Ok K G e ρ S σ' H' F' α' → Grw F α F' α' → D.nx σ' H'
  | .bk ρ S => ∀ σ' H' F' α', Ok K G e ρ S σ' H' F' α' → Grw F α F' α' → D.bk σ' H'
  | .ct ρ S => ∀ σ' H' F' α', Ok K G e ρ S σ' H' F' α' → Grw F α F' α' → D.ct σ' H'
  | .rt d S => ∀ v H' F' α', Wd K G S H' F' α' → Stp e.H e.F e.α H' F' α' → Rp K G α' F' d v → D.rt v H'
  | .exc x ρ S => ∀ c dd σ' H' F' α', Ok K G e ρ S σ' H' F' α' → XRep K G α' H' F' x c dd → W c dd σ' H'
  | .stuck => False
def tS (X : Cx) (G : Glo) (e : Ent) (W : WX) (f : Sx) : TS := fun D σ H => ∃ ρ S F α, Ok X.K G e ρ S σ H F α ∧ SPost X.K G e W F α (f ρ S) D
theorem ps_imp {X : Cx} {st : Stmt} {t t' : TS} (h : PS X st t) (hi : ∀ D σ H, t' D σ H → t D σ H) : PS X st t' := ⟨fun pins s σ H D I hq => h.run pins s σ H D I (hi _ _ _ hq)⟩
theorem pss_imp {X : Cx} {st : List Stmt} {t t' : TS} (h : PSs X st t) (hi : ∀ D σ H, t' D σ H → t D σ H) : PSs X st t' := ⟨fun pins s σ H D I hq => h.run pins s σ H D I (hi _ _ _ hq)⟩
section
variable {K : PySem.W.Frag} {G : Glo} {e : Ent} {W : WX} {F : Hp} {α : List Addr} {r : SR} {D : Ends}
theorem SPost.later {F1 : Hp} {α1 : List Addr} (g : Grw F α F1 α1) (p : SPost K G e W F α r D) : SPost K G e W F1 α1 r D := by
  cases r with
  | nx ρ S => exact fun σ' H' F' α' k g' => p σ' H' F' α' k (g.trans g')
  | bk ρ S => exact fun σ' H' F' α' k g' => p σ' H' F' α' k (g.trans g')
  | ct ρ S => exact fun σ' H' F' α' k g' => p σ' H' F' α' k (g.trans g')
  | rt d S => exact p
  | exc x ρ S => exact p
  | stuck => exact p
end
def ER.sbind (r : ER) (ρ : Slots) (g : D → Sto → SR) : SR := match r with
  | .ok d S => g d S
  | .exc x S => .exc x ρ S
  | .stuck => .stuck
def SR.bind (r : SR) (g : Slots → Sto → SR) : SR := match r with
  | .nx ρ S => g ρ S
  | r => r
section
variable {K : PySem.W.Frag} {G : Glo} {e : Ent} {W : WX} {R : RelD} {F H : Hp} {α : List Addr} {D : Ends} {σ : L2.St} {ρ : Slots} {S : Sto}
theorem SPost.of_sbind {r : ER} {g : TM.D → Sto → SR} {Q : VK} (k : Ok K G e ρ S σ H F α) (p : SPost K G e W F α (r.sbind ρ g) D)
    (kk : ∀ d S1 v H1 F1 α1, r = .ok d S1 → Ok K G e ρ S1 σ H1 F1 α1 → Stp H F α H1 F1 α1 → R α1 H1 F1 d v → SPost K G e W F1 α1 (g d S1) D → Q v H1) : EPost K G W R σ H F α r Q := by
  cases r with
  | ok d S1 => exact fun v H1 F1 α1 w s q => kk d S1 v H1 F1 α1 rfl (k.step w s) s q (SPost.later s.grw p)
  | exc x S1 => exact fun c dd H1 F1 α1 w s q => p c dd σ H1 F1 α1 (k.step w s) q
  | stuck => exact p
/-- what comes behind a statement -/
theorem SPost.of_bind {r : SR} {g : Slots → Sto → SR} {N : L2.St → Hp → Prop} (p : SPost K G e W F α (r.bind g) D)
    (kk : ∀ ρ' S' σ' H' F' α', Ok K G e ρ' S' σ' H' F' α' → Grw F α F' α' → SPost K G e W F' α' (g ρ' S') D → N σ' H') : SPost K G e W F α r { D with nx := N } := by
  cases r with
  | nx ρ' S' => exact fun σ' H' F' α' k g' => kk ρ' S' σ' H' F' α' k g' (p.later g')
  | bk ρ' S' => exact p
  | ct ρ' S' => exact p
  | rt d S' => exact p
  | exc x ρ' S' => exact p
  | stuck => exact p
end
def seqS (f g : Sx) : Sx := fun ρ S => (f ρ S).bind g
def nopS : Sx := fun ρ S => .nx ρ S
def exprS (f : Ex) : Sx := fun ρ S => (f ρ S).sbind ρ fun _ S1 => .nx ρ S1
def retS (f : Ex) : Sx := fun ρ S => (f ρ S).sbind ρ fun d S1 => .rt d S1
def setS (i : Nat) (f : Ex) : Sx := fun ρ S => (f ρ S).sbind ρ fun d S1 => .nx (ρ.set i (some (.val d))) S1
def asgS (g : Tg) (f : Ex) : Sx := fun ρ S => (f ρ S).sbind ρ fun d S1 => match g d ρ with
  | some ρ' => .nx ρ' S1
  | none => .stuck
def iffS (c : Ex) (f g : Sx) : Sx := fun ρ S => (c ρ S).sbind ρ fun d S1 => match d with
  | .bl true => f ρ S1
  | .bl false => g ρ S1
  | _ => .stuck
def forGo (g : Tg) (f : Sx) : List D → Sx
  | [], ρ, S => .nx ρ S
  | d :: ds, ρ, S => match g d ρ with
    | none => .stuck
    | some ρ1 => match f ρ1 S with
      | .nx ρ2 S2 => forGo g f ds ρ2 S2
      | .ct ρ2 S2 => forGo g f ds ρ2 S2
      | .bk ρ2 S2 => .nx ρ2 S2
      | r => r
def forS (src : Exs) (g : Tg) (f : Sx) : Sx := fun ρ S => match src ρ S with
  | .ok ds S1 => forGo g f ds ρ S1
  | .exc x S1 => .exc x ρ S1
  | .stuck => .stuck
def whileGo (c : Ex) (f : Sx) : Nat → Sx
  | 0, _, _ => .stuck
  | n + 1, ρ, S => (c ρ S).sbind ρ fun d S1 => match d with
    | .bl true => (match f ρ S1 with
      | .nx ρ2 S2 => whileGo c f n ρ2 S2
      | .ct ρ2 S2 => whileGo c f n ρ2 S2
      | .bk ρ2 S2 => .nx ρ2 S2
      | r => r)
    | .bl false => .nx ρ S1
    | _ => .stuck
/-- own things become plain -/
def frz1 (i : Nat) (ρ : Slots) : Slots := match ρ[i]? with
  | some (some (.own o)) => ρ.set i (some (.val o.toD))
  | _ => ρ
def frzS : List Nat → Slots → Slots
  | [], ρ => ρ
  | i :: is, ρ => frzS is (frz1 i ρ)
section
variable {X : Cx} {G : Glo} {e : Ent} {W : WX} {f g : Sx} {a b c h : Ex} {ex ec : Expr} {st : Stmt} {sts : List Stmt} {pos : Pos}
theorem pss_n : PSs X [] (tS X G e W nopS) := pss_imp pss_nil fun D σ H ⟨ρ, S, F, α, k, p⟩ => p _ _ _ _ k (.refl _ _)
theorem pss_c (h1 : PS X st (tS X G e W f)) (h2 : PSs X sts (tS X G e W g)) : PSs X (st :: sts) (tS X G e W (seqS f g)) :=
  pss_imp (pss_cons h1 h2) fun D σ H ⟨ρ, S, F, α, k, p⟩ => ⟨ρ, S, F, α, k, SPost.of_bind p fun ρ' S' σ' H' F' α' k' _ p' => ⟨ρ', S', F', α', k', p'⟩⟩
theorem ps_e (h : PE X ex (tE X G e W a)) (hs : swapsWith ex none pos.line X.env = pure false) : PS X (.Expr ex pos) (tS X G e W (exprS a)) :=
  ps_imp (ps_expr h hs) fun D σ H ⟨ρ, S, F, α, k, p⟩ => ⟨ρ, S, F, α, k, SPost.of_sbind k p fun d S1 v H1 F1 α1 _ k1 _ _ p1 => p1 _ _ _ _ k1 (.refl _ _)⟩
theorem ps_r (h : PE X ex (tE X G e W a)) : PS X (.Return (some ex) pos) (tS X G e W (retS a)) :=
  ps_imp (ps_ret h) fun D σ H ⟨ρ, S, F, α, k, p⟩ => ⟨ρ, S, F, α, k, SPost.of_sbind k p fun d S1 v H1 F1 α1 _ k1 _ r1 p1 => p1 _ _ _ _ k1.wd k1.st r1⟩
theorem ps_rn : PS X (.Return none pos) (tS X G e W (retS (cstE .non))) :=
  ps_imp ps_retN fun D σ H ⟨ρ, S, F, α, k, p⟩ => p _ _ _ _ k.wd k.st .non
theorem ps_cont : PS X (.Continue pos) (tS X G e W fun ρ S => .ct ρ S) := ps_imp ps_continue fun D σ H ⟨ρ, S, F, α, k, p⟩ => p _ _ _ _ k (.refl _ _)
theorem ps_brk : PS X (.Break pos) (tS X G e W fun ρ S => .bk ρ S) := ps_imp ps_break fun D σ H ⟨ρ, S, F, α, k, p⟩ => p _ _ _ _ k (.refl _ _)
theorem ps_pss : PS X (.Pass pos) (tS X G e W nopS) := ps_imp ps_pass fun D σ H ⟨ρ, S, F, α, k, p⟩ => p _ _ _ _ k (.refl _ _)
theorem ps_s {i : Nat} {x : Str} {pos' : Pos} (hN : X.N.Nodup) (hi : X.N[i]? = some x) (hx : Loc X.env.scope x) (he : PE X ex (tE X G e W a)) (hs : swapsWith ex (some (.Name x pos')) pos.line X.env = pure false) (hf : X.fn x = true ∨ X.env.scope.names.lookup x = some .local) :
    PS X (.Assign [.Name x pos'] ex pos) (tS X G e W (setS i a)) :=
  ps_imp (ps_set hN hi hx he hs hf) fun D σ H ⟨ρ, S, F, α, k, p⟩ => ⟨ρ, S, F, α, k, SPost.of_sbind k p fun d S1 v H1 F1 α1 _ k1 _ r1 p1 => p1 _ _ _ _ (k1.setVal i r1) (.refl _ _)⟩
theorem ps_g {tg : Expr} {gt : Tg} {idx : List Nat} (he : PE X ex (tE X G e W a)) (hg : PG X tg (tG X G e gt idx)) (hs : swapsWithSole [tg] ex pos.line X.env = pure false) (hw : swappedStores [tg] ex X.env = pure none) (h1 : (assignEach [tg] X.env).map (·.2) = [assign tg X.env]) :
    PS X (.Assign [tg] ex pos) (tS X G e W (asgS gt a)) :=
  ps_imp (ps_asg he hg hs hw h1) fun D σ H ⟨ρ, S, F, α, k, p⟩ => ⟨ρ, S, F, α, k, SPost.of_sbind k p fun d S1 v H1 F1 α1 _ k1 _ r1 p1 => by
    cases hg : gt d ρ with
    | none => rw [hg] at p1; exact p1.elim
    | some ρ' =>
      rw [hg] at p1
      exact ⟨ρ, S1, F1, α1, d, ρ', k1, r1, hg, fun σ' k' _ => p1 _ _ _ _ k' (.refl _ _)⟩⟩
theorem ps_i {p q : List Stmt} (hc : PT X ec (tT X G e W c)) (ha : PSs X p (tS X G e W f)) (hb : PSs X q (tS X G e W g)) : PS X (.If ec p q pos) (tS X G e W (iffS c f g)) :=
  ps_imp (ps_if hc ha hb) fun D σ H ⟨ρ, S, F, α, k, p⟩ => ⟨ρ, S, F, α, k, SPost.of_sbind k p fun d S1 v H1 F1 α1 _ k1 _ r1 p1 => by
    cases d with
    | bl z =>
      rw [r1.blH]
      refine ⟨z, rfl, ?_⟩
      cases z with
      | true => exact iteT ⟨ρ, S1, F1, α1, k1, p1⟩
      | false => exact iteF ⟨ρ, S1, F1, α1, k1, p1⟩
    | _ => exact p1.elim⟩
theorem ps_f {tg iter : Expr} {body : List Stmt} {src : Exs} {gt : Tg} {idx : List Nat} (hp : PassesOwn (model X.prog X.w) X.A X.env X.xe) (hc : X.calm = true) (hi : PI X tg iter (tI X G e W src)) (hg : PG X tg (tG X G e gt idx)) (hb : PSs X body (tS X G e W f))
    (hs : ∀ x, foldedSetIterable iter X.env x = pure x) : PS X (.For tg iter body [] pos) (tS X G e W (forS src gt f)) :=
  ps_imp (ps_for hp hc hi hg hb hs) fun D σ H ⟨ρ, S, F, α, k, p⟩ => by
    refine ⟨ρ, S, F, α, k, ?_⟩
    unfold forS at p
    generalize src ρ S = r at p
    cases r with
    | stuck => exact p
    | exc x S1 => exact fun c dd H1 F1 α1 w s q => p c dd σ H1 F1 α1 (k.step w s) q
    | ok ds S1 =>
      intro J H1 F1 α1 w1 s1 wk
      have k1 := k.step w1 s1
      have p1 : SPost X.K G e W F1 α1 (forGo gt f ds ρ S1) D := SPost.later s1.grw p
      refine ⟨fun i m σ2 H2 => m = ds.length - i ∧ i ≤ ds.length ∧ ∃ ρ2 S2 F2 α2, Ok X.K G e ρ2 S2 σ2 H2 F2 α2 ∧ Grw F1 α1 F2 α2 ∧ SPost X.K G e W F2 α2 (forGo gt f (ds.drop i) ρ2 S2) D,
        ⟨ds.length, rfl, Nat.zero_le _, ρ, S1, F1, α1, k1, .refl _ _, p1⟩, ?_⟩
      rintro i m σ2 H2 ⟨rfl, hi, ρ2, S2, F2, α2, k2, g2, p2⟩
      obtain ⟨wg, wst⟩ := wk i S2 H2 F2 α2 k2.wd g2.1 g2.2
      by_cases hlt : i < ds.length
      · refine .inr ?_
        obtain ⟨go, yld⟩ := wg _ (List.getElem?_eq_getElem hlt)
        rw [List.drop_eq_getElem_cons hlt] at p2
        refine ⟨go, fun σ' H' => ∃ ρ2 S2 F2 α2, Ok X.K G e ρ2 S2 σ' H' F2 α2 ∧ Grw F1 α1 F2 α2 ∧ SPost X.K G e W F2 α2 (forGo gt f (ds.drop (i + 1)) ρ2 S2) D, fun σ' H' h => ⟨_, by omega, rfl, hlt, h⟩, fun x H3 y => ?_⟩
        obtain ⟨F3, w3, s3, rx⟩ := yld x H3 y
        have k3 := k2.step w3 s3
        unfold forGo at p2
        split at p2
        · exact p2.elim
        · rename_i ρ' hg
          refine ⟨ρ2, S2, F3, α2, _, ρ', k3, rx, hg, fun σ' k' _ => ⟨ρ', S2, F3, α2, k', ?_⟩⟩
          have g3 := g2.trans s3.grw
          generalize f ρ' S2 = r at p2
          cases r with
          | nx ρ4 S4 => exact fun σ4 H4 F4 α4 k4 g4 => ⟨ρ4, S4, F4, α4, k4, g3.trans g4, SPost.later (s3.grw.trans g4) p2⟩
          | ct ρ4 S4 => exact fun σ4 H4 F4 α4 k4 g4 => ⟨ρ4, S4, F4, α4, k4, g3.trans g4, SPost.later (s3.grw.trans g4) p2⟩
          | bk ρ4 S4 => exact fun σ4 H4 F4 α4 k4 g4 => p2 _ _ _ _ k4 (s3.grw.trans g4)
          | rt d S4 => exact p2
          | exc x ρ4 S4 => exact p2
          | stuck => exact p2
      · refine .inl ?_
        have ei : i = ds.length := by omega
        refine ⟨wst ei, ?_⟩
        rw [ei, List.drop_length] at p2
        exact p2 _ _ _ _ k2 (.refl _ _)
theorem ps_w {body : List Stmt} (n : Nat) (hp : PassesOwn (model X.prog X.w) X.A X.env X.xe) (hc : PT X ec (tT X G e W c)) (hb : PSs X body (tS X G e W f)) : PS X (.While ec body [] pos) (tS X G e W (whileGo c f n)) :=
  ps_imp (ps_while hp hc hb) fun D σ H ⟨ρ, S, F, α, k, p⟩ => by
    refine ⟨fun m σ2 H2 => ∃ ρ2 S2 F2 α2, Ok X.K G e ρ2 S2 σ2 H2 F2 α2 ∧ SPost X.K G e W F2 α2 (whileGo c f m ρ2 S2) D, ⟨n, ρ, S, F, α, k, p⟩, ?_⟩
    rintro m σ2 H2 ⟨ρ2, S2, F2, α2, k2, p2⟩
    cases m with
    | zero => exact p2.elim
    | succ m =>
      refine ⟨ρ2, S2, F2, α2, k2, SPost.of_sbind k2 p2 fun d S3 v H3 F3 α3 _ k3 s3 r3 p3 => ?_⟩
      cases d with
      | bl z =>
        rw [r3.blH]
        refine ⟨z, rfl, ?_⟩
        cases z with
        | true =>
          refine iteT ⟨fun σ' H' => ∃ ρ2 S2 F2 α2, Ok X.K G e ρ2 S2 σ' H' F2 α2 ∧ SPost X.K G e W F2 α2 (whileGo c f m ρ2 S2) D, fun σ' H' h => ⟨m, Nat.lt_succ_self m, h⟩, ρ2, S3, F3, α3, k3, ?_⟩
          have p3 : SPost X.K G e W F3 α3 (match f ρ2 S3 with
            | .nx ρ2 S2 => whileGo c f m ρ2 S2
            | .ct ρ2 S2 => whileGo c f m ρ2 S2
            | .bk ρ2 S2 => .nx ρ2 S2
            | r => r) D := p3
          generalize f ρ2 S3 = r at p3
          cases r with
          | nx ρ4 S4 => exact fun σ4 H4 F4 α4 k4 g4 => ⟨ρ4, S4, F4, α4, k4, SPost.later g4 p3⟩
          | ct ρ4 S4 => exact fun σ4 H4 F4 α4 k4 g4 => ⟨ρ4, S4, F4, α4, k4, SPost.later g4 p3⟩
          | bk ρ4 S4 => exact fun σ4 H4 F4 α4 k4 g4 => p3 _ _ _ _ k4 g4
          | rt d S4 => exact p3
          | exc x ρ4 S4 => exact p3
          | stuck => exact p3
        | false => exact iteF (p3 _ _ _ _ k3 (.refl _ _))
      | _ => exact p3.elim
/-! freezing, a ghost's step -/
theorem Ok.frz1 {K : PySem.W.Frag} {ρ : Slots} {S : Sto} {σ : L2.St} {H F : Hp} {α : List Addr} (k : Ok K G e ρ S σ H F α) (i : Nat) : ∃ F', Ok K G e (TM.frz1 i ρ) S σ H F' α ∧ Grw F α F' α := by
  unfold TM.frz1
  split
  · rename_i o hi
    obtain ⟨x, hx, q⟩ := k.sl i _ hi
    cases q with
    | @own _ hh a h1 h2 h3 h4 h5 =>
      have hs := same_upd (o := hh) h2
      have ha : ∃ β, α = α ++ β := ⟨[], (List.append_nil _).symm⟩
      refine ⟨upd F a hh, ⟨k.wd.frz h1 h2 h3 h5.nt, k.st.frz h4 h2, by rw [List.length_set]; exact k.len, fun j s hj => ?_, fun j l o1 u b p1 p2 p3 p4 => ?_⟩, hs, ha⟩
      · by_cases e : i = j
        · subst e
          rw [List.getElem?_set_self (List.getElem?_eq_some_iff.mp hi).1] at hj
          cases hj
          refine ⟨_, hx, .val ?_⟩
          cases h5 with
          | l z r => exact .lst upd_same z (r.mono hs ha)
        · rw [List.getElem?_set_ne e] at hj
          obtain ⟨y, hy, q⟩ := k.sl j s hj
          refine ⟨y, hy, ?_⟩
          cases q with
          | none => exact .none _
          | val r => exact .val (r.mono hs ha)
          | @own o2 h2' b q1 q2 q3 q4 q5 =>
            have ne : b ≠ a := fun z => e (k.inj i j _ _ a hi hj hx (by rw [hy, z]))
            exact .own q1 (by rw [upd_ne ne]; exact q2) q3 q4 (q5.mono hs ha)
      · have n1 : i ≠ j := fun z => by
          subst z
          rw [List.getElem?_set_self (List.getElem?_eq_some_iff.mp hi).1] at p1; cases p1
        have n2 : i ≠ l := fun z => by
          subst z
          rw [List.getElem?_set_self (List.getElem?_eq_some_iff.mp hi).1] at p2; cases p2
        rw [List.getElem?_set_ne n1] at p1
        rw [List.getElem?_set_ne n2] at p2
        exact k.inj j l o1 u b p1 p2 p3 p4
  · exact ⟨F, k, .refl _ _⟩
theorem Ok.frzS {K : PySem.W.Frag} {S : Sto} {σ : L2.St} {H : Hp} {α : List Addr} : ∀ (is : List Nat) {ρ : Slots} {F : Hp}, Ok K G e ρ S σ H F α → ∃ F', Ok K G e (TM.frzS is ρ) S σ H F' α ∧ Grw F α F' α
  | [], ρ, F, k => ⟨F, k, .refl _ _⟩
  | i :: is, ρ, F, k => by
    obtain ⟨F1, k1, g1⟩ := k.frz1 i
    obtain ⟨F2, k2, g2⟩ := Ok.frzS is k1
    exact ⟨F2, k2, g1.trans g2⟩
theorem pss_z (is : List Nat) (h : PSs X sts (tS X G e W f)) : PSs X sts (tS X G e W fun ρ S => f (TM.frzS is ρ) S) :=
  pss_imp h fun D σ H ⟨ρ, S, F, α, k, p⟩ => by
    obtain ⟨F', k', g'⟩ := k.frzS is
    exact ⟨_, S, F', α, k', SPost.later g' p⟩
/-! own things: made, appended to -/
def rN (K : PySem.W.Frag) (G : Glo) (e : Ent) (H0 : Hp) : RelD := fun α H F d v => ∃ o a h, d = OB.toD o ∧ v = .ref a ∧ H a = some h ∧ F a = none ∧ a ∉ α ∧ ¬ Trk e.H a ∧ ¬ Trk H0 a ∧ ObOk K G α F o h
def tN (X : Cx) (G : Glo) (e : Ent) (W : WX) (f : Ex) : TE := fun σ H Q => ∃ ρ S F α, Ok X.K G e ρ S σ H F α ∧ EPost X.K G W (rN X.K G e H) σ H F α (f ρ S) Q
def obOf : D → Option OB
  | .lst xs => some (.l xs)
  | .dic ks vs => some (.d ks vs)
  | _ => none
theorem obOf_toD {d : D} {o : OB} (h : obOf d = some o) : d = o.toD := by
  cases d <;> cases h <;> rfl
theorem toD_inj {o u : OB} (h : o.toD = u.toD) : o = u := by cases o <;> cases u <;> cases h <;> rfl
def newS (i : Nat) (f : Ex) : Sx := fun ρ S => (f ρ S).sbind ρ fun d S1 => match obOf d with
  | some o => .nx (ρ.set i (some (.own o))) S1
  | none => .stuck
theorem Ok.setNew {K : PySem.W.Frag} {ρ : Slots} {S S0 : Sto} {σ : L2.St} {H F H0 F0 : Hp} {α α0 : List Addr} {i : Nat} {o : OB} {h : HO} {a : Addr} (k0 : Ok K G e ρ S0 σ H0 F0 α0) (k : Ok K G e ρ S σ H F α) (h1 : H a = some h) (h2 : F a = none) (h3 : a ∉ α) (h4 : ¬ Trk e.H a) (h0 : ¬ Trk H0 a) (h5 : ObOk K G α F o h) :
    Ok K G e (ρ.set i (some (.own o))) S (σ.set i (some (.ref a))) H F α := by
  have fr : ∀ (j : Nat) (u : OB), ρ[j]? = some (some (.own u)) → σ[j]? ≠ some (some (.ref a)) := fun j u hj hs => by
    obtain ⟨x, hx, q⟩ := k0.sl j _ hj
    rw [hs] at hx
    cases hx
    cases q with
    | own q1 _ _ _ q5 => exact h0 ⟨_, q1, q5.nt⟩
  refine ⟨k.wd, k.st, by rw [List.length_set, List.length_set]; exact k.len, fun j s hj => ?_, fun j l o1 u b p1 p2 p3 p4 => ?_⟩
  · by_cases hi : i = j
    · subst hi
      by_cases hl : i < ρ.length
      · rw [List.getElem?_set_self hl] at hj
        cases hj
        exact ⟨_, List.getElem?_set_self (by rw [← k.len]; exact hl), .own h1 h2 h3 h4 h5⟩
      · rw [List.getElem?_eq_none (by rw [List.length_set]; omega)] at hj
        cases hj
    · rw [List.getElem?_set_ne hi] at hj
      obtain ⟨x, hx, q⟩ := k.sl j s hj
      exact ⟨x, by rw [List.getElem?_set_ne hi]; exact hx, q⟩
  · by_cases n1 : i = j
    · by_cases n2 : i = l
      · rw [← n1, ← n2]
      · subst n1
        have hl : i < σ.length := by
          have := (List.getElem?_eq_some_iff.mp p1).1
          rw [List.length_set, k.len] at this; exact this
        rw [List.getElem?_set_self hl] at p3
        cases p3
        rw [List.getElem?_set_ne n2] at p2 p4
        exact absurd p4 (fr l _ p2)
    · by_cases n2 : i = l
      · subst n2
        have hl : i < σ.length := by
          have := (List.getElem?_eq_some_iff.mp p2).1
          rw [List.length_set, k.len] at this; exact this
        rw [List.getElem?_set_self hl] at p4
        cases p4
        rw [List.getElem?_set_ne n1] at p1 p3
        exact absurd p3 (fr j _ p1)
      · rw [List.getElem?_set_ne n1] at p1 p3
        rw [List.getElem?_set_ne n2] at p2 p4
        exact k.inj j l o1 u b p1 p2 p3 p4
theorem ps_new {i : Nat} {x : Str} {pos' : Pos} (hN : X.N.Nodup) (hi : X.N[i]? = some x) (hx : Loc X.env.scope x) (he : PE X ex (tN X G e W a)) (hs : swapsWith ex (some (.Name x pos')) pos.line X.env = pure false) (hf : X.fn x = true ∨ X.env.scope.names.lookup x = some .local) :
    PS X (.Assign [.Name x pos'] ex pos) (tS X G e W (newS i a)) :=
  ps_imp (ps_set hN hi hx he hs hf) fun D σ H ⟨ρ, S, F, α, k, p⟩ => ⟨ρ, S, F, α, k, SPost.of_sbind k p fun d S1 v H1 F1 α1 _ k1 _ r1 p1 => by
    obtain ⟨o, ad, hh, ed, rfl, h1, h2, h3, h4, h0, h5⟩ := r1
    cases hob : obOf d with
    | none => rw [hob] at p1; exact p1.elim
    | some u =>
      rw [hob] at p1
      have : u = o := toD_inj (by rw [← obOf_toD hob, ed])
      subst this
      exact p1 _ _ _ _ (k.setNew k1 h1 h2 h3 h4 h0 h5) (.refl _ _)⟩
end
end TM

set_option Elab.async false
set_option linter.all false
set_option maxRecDepth 20000
set_option autoImplicit false
namespace TM
open PySem PySem.Spec PyProof.Rows L2

/-! ## own things made by expressions -/
section
variable {X : Cx} {G : Glo} {e : Ent} {W : WX} {f g : Ex} {fs : Exs} {a b c : Expr} {es : List Expr} {pos p : Pos}
theorem rN_new {H0 H1 F1 : Hp} {α1 : List Addr} {S : Sto} {ρ : Slots} {σ : L2.St} (k : Ok X.K G e ρ S σ H1 F1 α1) (hd : ∀ a, Trk H0 a → Trk H1 a) {ds : List D} {vs : List V} (r : Rps X.K G α1 F1 ds vs) (z : vs.length ≤ sizeLine) {q : Addr} (hq : H1 q = none) :
    Wd X.K G S (upd H1 q (.lst vs)) F1 α1 ∧ Stp H1 F1 α1 (upd H1 q (.lst vs)) F1 α1 ∧ rN X.K G e H0 α1 (upd H1 q (.lst vs)) F1 (.lst ds) (.ref q) :=
  ⟨k.wd.raw hq, stp_raw k.wd hq, .l ds, q, _, rfl, rfl, upd_same, k.wd.fresh hq, k.wd.freshA hq, k.eH hq, fun n => no_trk hq (hd q n), .l z r⟩
theorem pe_lN (ha : PA X es (tPs X G e W fs)) : PE X (.List es pos) (tN X G e W (dispE D.lst fs)) :=
  pe_imp (pe_lst ha) fun σ H Q ⟨ρ, S, F, α, k, p⟩ => by
    refine ⟨ρ, S, F, α, k, AsPost.of_bind p fun ds S1 vs H1 F1 α1 _ w1 s1 r1 p1 => ?_⟩
    split at p1
    · rename_i hz
      have hz' := le_line (by rw [r1.length] at hz; exact hz)
      refine ⟨hz', fun l hl => ?_⟩
      obtain ⟨w2, s2, r2⟩ := rN_new (H0 := H) (k.step w1 s1) s1.dom r1 hz' hl
      exact p1 _ _ _ _ w2 s2 r2
    · exact p1.elim
variable {elt tg iter : Expr} {ifs : List Expr} {scope : Scope} {ownN : List (Str × Nat)} {src : Exs} {gt : Tg} {cd : Ex} {idx : List Nat}
theorem lc_postN {own : List Nat} {σ : L2.St} {H : Hp} {Q : VK} (hw : ∀ i ∈ idx, i ∈ own) (q : tN X G e W (lcE src gt cd f own) σ H Q) :
    tLc (tI X G e W src) (tG X G e gt idx) (tT X G e W0 cd) (tE X G e W0 f) own σ H Q := by
  obtain ⟨ρ, S, F, α, k, p⟩ := q
  refine lc_gen hw k p fun {H1 F1 H2 F2 α1 α2 D vs ys S1 S2} k1 s1 w2 s2 hD hD2 hF2 hA2 ra hv => ?_
  exact ⟨F2, w2, s2, .l ys, D, _, rfl, rfl, hD2, hF2, hA2, k1.eH hD, fun n => no_trk hD (s1.dom D n), .l hv ra⟩
/-- x = [..] by a comprehension on the name's line: an own list, a plain one -/
theorem ps_lcS {i : Nat} {y : Str} {py spos : Pos} (hc : X.calm = true) (hN : X.N.Nodup) (hy : X.N[i]? = some y) (hyl : X.env.scope.names.lookup y = some .local)
    (hsw : swapsWith (.ListComp elt [⟨tg, iter, ifs, 0⟩] scope pos) (some (.Name y py)) spos.line X.env = pure true) (hi : PI X tg iter (tI X G e W src)) (ok : BlkOk X.N X.env.scope scope ownN) (hw : ∀ i ∈ idx, i ∈ ownN.map (·.2))
    (hg : ∀ (s : Shared) (H : Hp) (C : Addr) (cl : List (Str × Addr)) (fp : List Addr), PG (X.blk s H scope (compEnvC scope cl C X.env) fp) tg (tG X G e gt idx)) (ht : ∀ (s : Shared) (H : Hp) (C : Addr) (cl : List (Str × Addr)) (fp : List Addr), PTs (X.blk s H scope (compEnvC scope cl C X.env) fp) ifs (tT X G e W0 cd))
    (he : ∀ (s : Shared) (H : Hp) (C : Addr) (cl : List (Str × Addr)) (fp : List Addr), PE (X.blk s H scope (compEnvC scope cl C X.env) fp) elt (tE X G e W0 f)) (hs : ∀ x, foldedSetIterable iter X.env x = pure x) :
    PS X (.Assign [.Name y py] (.ListComp elt [⟨tg, iter, ifs, 0⟩] scope pos) spos) (tS X G e W (setS i (lcE src gt cd f (ownN.map (·.2))))) :=
  ps_imp (ps_setLc hc hN hy hyl hsw hi ok hg ht he hs) fun D σ H ⟨ρ, S, F, α, k, p⟩ => lc_post hw ⟨ρ, S, F, α, k, SPost.of_sbind k p fun d S1 v H1 F1 α1 _ k1 _ r1 p1 => p1 _ _ _ _ (k1.setVal i r1) (.refl _ _)⟩
theorem ps_lcN {i : Nat} {y : Str} {py spos : Pos} (hc : X.calm = true) (hN : X.N.Nodup) (hy : X.N[i]? = some y) (hyl : X.env.scope.names.lookup y = some .local)
    (hsw : swapsWith (.ListComp elt [⟨tg, iter, ifs, 0⟩] scope pos) (some (.Name y py)) spos.line X.env = pure true) (hi : PI X tg iter (tI X G e W src)) (ok : BlkOk X.N X.env.scope scope ownN) (hw : ∀ i ∈ idx, i ∈ ownN.map (·.2))
    (hg : ∀ (s : Shared) (H : Hp) (C : Addr) (cl : List (Str × Addr)) (fp : List Addr), PG (X.blk s H scope (compEnvC scope cl C X.env) fp) tg (tG X G e gt idx)) (ht : ∀ (s : Shared) (H : Hp) (C : Addr) (cl : List (Str × Addr)) (fp : List Addr), PTs (X.blk s H scope (compEnvC scope cl C X.env) fp) ifs (tT X G e W0 cd))
    (he : ∀ (s : Shared) (H : Hp) (C : Addr) (cl : List (Str × Addr)) (fp : List Addr), PE (X.blk s H scope (compEnvC scope cl C X.env) fp) elt (tE X G e W0 f)) (hs : ∀ x, foldedSetIterable iter X.env x = pure x) :
    PS X (.Assign [.Name y py] (.ListComp elt [⟨tg, iter, ifs, 0⟩] scope pos) spos) (tS X G e W (newS i (lcE src gt cd f (ownN.map (·.2))))) :=
  ps_imp (ps_setLc hc hN hy hyl hsw hi ok hg ht he hs) fun D σ H ⟨ρ, S, F, α, k, p⟩ => lc_postN hw ⟨ρ, S, F, α, k, SPost.of_sbind k p fun d S1 v H1 F1 α1 _ k1 _ r1 p1 => by
    obtain ⟨o, ad, hh, ed, rfl, h1, h2, h3, h4, h0, h5⟩ := r1
    cases hob : obOf d with
    | none => rw [hob] at p1; exact p1.elim
    | some u =>
      rw [hob] at p1
      have : u = o := toD_inj (by rw [← obOf_toD hob, ed])
      subst this
      exact p1 _ _ _ _ (k.setNew k1 h1 h2 h3 h4 h0 h5) (.refl _ _)⟩
/-! x.append(v), x own -/
def appS (i : Nat) (f : Ex) : Sx := fun ρ S => match ρ[i]? with
  | some (some (.own (.l _))) => (f ρ S).sbind ρ fun d S1 => match ρ[i]? with
    | some (some (.own (.l xs))) => if xs.length < big then .nx (ρ.set i (some (.own (.l (xs ++ [d]))))) S1 else .stuck
    | _ => .stuck
  | _ => .stuck
theorem Ok.setOwn {K : PySem.W.Frag} {ρ : Slots} {S : Sto} {σ : L2.St} {H F : Hp} {α : List Addr} {i : Nat} {xs ys : List D} {vs us : List V} {ad : Addr} (k : Ok K G e ρ S σ H F α) (hi : ρ[i]? = some (some (.own (.l xs)))) (hs : σ[i]? = some (some (.ref ad)))
    (h1 : H ad = some (.lst vs)) (h2 : F ad = none) (h3 : ad ∉ α) (h4 : ¬ Trk e.H ad) (r : Rps K G α F ys us) (z : us.length ≤ sizeLine) : Ok K G e (ρ.set i (some (.own (.l ys)))) S σ (upd H ad (.lst us)) F α := by
  have hl : i < ρ.length := (List.getElem?_eq_some_iff.mp hi).1
  have rid : ∀ {j : Nat} {u : OB}, (ρ.set i (some (.own (.l ys))))[j]? = some (some (.own u)) → ∃ u', ρ[j]? = some (some (.own u')) := fun {j u} h => by
    by_cases e : i = j
    · subst e; exact ⟨_, hi⟩
    · rw [List.getElem?_set_ne e] at h; exact ⟨_, h⟩
  refine ⟨k.wd.write h1 h2 h3, k.st.write h4, by rw [List.length_set]; exact k.len, fun j s hj => ?_, fun j l o1 u b p1 p2 p3 p4 => ?_⟩
  · by_cases e : i = j
    · subst e
      rw [List.getElem?_set_self hl] at hj
      cases hj
      exact ⟨_, hs, .own upd_same h2 h3 h4 (.l z r)⟩
    · rw [List.getElem?_set_ne e] at hj
      obtain ⟨x, hx, q⟩ := k.sl j s hj
      refine ⟨x, hx, ?_⟩
      cases q with
      | none => exact .none _
      | val r => exact .val r
      | @own o2 h2' b q1 q2 q3 q4 q5 =>
        have ne : b ≠ ad := fun z => e (k.inj i j _ _ ad hi hj hs (by rw [hx, z]))
        exact .own (by rw [upd_ne ne]; exact q1) q2 q3 q4 q5
  · obtain ⟨u1, e1⟩ := rid p1
    obtain ⟨u2, e2⟩ := rid p2
    exact k.inj j l _ _ b e1 e2 p3 p4
theorem ps_app {i : Nat} {x : Str} {apos cpos p1 : Pos} (hN : X.N[i]? = some x) (hv : Vis X.env.scope x) (hd : (x == ("__debug__" : Str)) = false) (hcd : (x == ("__classdict__" : Str)) = false) (ha : PE X a (tE X G e W f))
    (hbase : attributeBase (.Name x p1) "append" X.env (eval (.Name x p1) X.env) = eval (.Name x p1) X.env)
    (hline : (apos.endLine == cpos.line) = true) (hs : starEach [a] X.env = (false, eval a X.env) :: starEach [] X.env)
    (hsw : swapsWith (.Call (.Attribute (.Name x p1) "append" apos) [a] [] cpos) none pos.line X.env = pure false)
    (hfew : ((backTo cpos (starEach [a] X.env)).all (fun x => !x.1) && (backToKw cpos (keywordEach [] X.env)).all (fun x => x.1.isSome) && decide ([a].length + ([] : List Keyword).length + (if ([] : List Keyword).isEmpty then 0 else 1) < 30)) = true) :
    PS X (.Expr (.Call (.Attribute (.Name x p1) "append" apos) [a] [] cpos) pos) (tS X G e W (appS i f)) :=
  ps_imp (ps_expr (pe_bm PySem.F.plainAttrs_list PySem.F.slot_list_append PySem.F.type_list_append mt_append (pe_var (i := i) hN hv hd hcd) (pa_cons ha pa_nil hs) hbase hfew hline hs rfl) hsw) fun D σ H ⟨ρ, S, F, α, k, p⟩ => by
    unfold appS at p
    split at p
    · rename_i hi
      obtain ⟨x, hx, q⟩ := k.sl i _ hi
      cases q with
      | @own _ hh ad h1 h2 h3 h4 h5 =>
        cases h5 with
        | l z0 r0 =>
          refine ⟨_, hx, .inl ⟨rfl, _, .of h1⟩, ρ, S, F, α, k, SPost.of_sbind k p fun d S1 v H1 F1 α1 _ k1 s1 r1 p1 => ?_⟩
          have p1 : SPost X.K G e W F1 α1 (if _ < big then .nx (ρ.set i (some (.own (.l (_ ++ [d]))))) S1 else .stuck) D := p1
          split at p1
          · rename_i hz
            obtain ⟨y, hy, q1⟩ := k1.sl i _ hi
            rw [hx] at hy
            cases hy
            cases q1 with
            | @own _ hh1 _ g1 g2 g3 g4 g5 =>
              cases g5 with
              | @l _ vs zz rr =>
                have hlen : vs.length < sizeLine := by rw [big_eq, ← rr.length]; exact hz
                refine ⟨ad, vs, v, rfl, rfl, g1, hlen, p1 _ _ _ _ (k1.setOwn hi hx g1 g2 g3 g4 (rr.append (Rps.one r1)) (by rw [List.length_append]; exact hlen)) (.refl _ _)⟩
          · exact p1.elim
    · exact p.elim
/-! text * number -/
def smulO (a b : D) : Option D := match a, b with
  | .str s, .int n => if decide (0 ≤ n) && decide (n ≤ 1000000) && decide (s.length * n.toNat ≤ big) then some (.str (repN n.toNat s)) else none
  | _, _ => none
def mul2O (a b : D) : Option D := (mulO a b).orElse fun _ => smulO a b
theorem foldl_arr (c : Array Nat) : ∀ (k : Nat) (acc : Array Nat), ((List.replicate k c).foldl (· ++ ·) acc) = (acc.toList ++ repN k c.toList).toArray
  | 0, acc => by simp [repN]
  | k + 1, acc => by
    rw [List.replicate_succ, List.foldl_cons, foldl_arr c k]
    unfold repN
    rw [List.replicate_succ, List.flatten_cons]
    simp
theorem txt_mul (s : List Nat) (n : Int) (h0 : 0 ≤ n) : Txt.mul ⟨s.toArray⟩ n = ⟨(repN n.toNat s).toArray⟩ := by
  unfold Txt.mul
  by_cases h1 : n < 1
  · rw [if_pos h1]
    have : n = 0 := by omega
    subst this
    rfl
  · rw [if_neg h1]
    split
    · rename_i h
      rw [Bool.or_eq_true, beq_iff_eq, beq_iff_eq] at h
      rcases h with h | h
      · subst h
        show _ = (⟨(repN 1 s).toArray⟩ : Str)
        simp [repN]
      · have : s = [] := by
          cases s with
          | nil => rfl
          | cons x xs => simp [Str.length] at h
        subst this
        have : ∀ k, repN k ([] : List Nat) = [] := fun k => by unfold repN; induction k with
          | zero => rfl
          | succ k ih => rw [List.replicate_succ, List.flatten_cons]; exact ih
        rw [this]
    · rw [foldl_arr]
      rfl
theorem op_smulO : OpR X (binaryOp .Mult) (rD X G smulO) := by
  intro pins s σ H x y v u Q I rx ry h
  obtain ⟨F, α, S, d1, d2, d3, w, r1, r2, e, k⟩ := h
  unfold smulO at e
  split at e
  · rename_i z n
    split at e
    · rename_i hz
      simp only [Bool.and_eq_true, decide_eq_true_eq] at hz
      obtain ⟨⟨h0, h1⟩, h2⟩ := hz
      cases e
      obtain ⟨rfl, g⟩ := r1.strH
      have ey := r2.intH
      subst ey
      obtain ⟨t, rfl⟩ := rx
      obtain ⟨t', rfl⟩ := ry
      have hok : MulOk (⟨z.toArray⟩ : Str) n := by
        by_cases hn : n < 1
        · exact ⟨by rw [decide_eq_false (by omega), decide_eq_false (by omega)]; rfl, fun h => absurd hn h, fun h => absurd hn h⟩
        · by_cases hz0 : z.length = 0
          · refine ⟨by rw [decide_eq_false (by omega), decide_eq_false (by omega)]; rfl, fun _ h => ?_, fun _ h => ?_⟩
            · rw [Bool.or_eq_false_iff, beq_eq_false_iff_ne, beq_eq_false_iff_ne] at h
              exact absurd (by simp [Str.length, hz0]) h.2
            · rw [Bool.or_eq_false_iff, beq_eq_false_iff_ne, beq_eq_false_iff_ne] at h
              exact absurd (by simp [Str.length, hz0]) h.2
          · refine mulOk_of z.length n.toNat (by simp [Str.length]) (by omega) (by omega) (by omega) ?_
            show _ ≤ 16777216
            exact h2
      refine SB.mul hok fun t2 k2 => ?_
      rw [txt_mul z n h0]
      have len : (repN n.toNat z).length = n.toNat * z.length := by unfold repN; rw [PyProof.Rows.lm_len_rep_flat]
      refine ⟨.str ⟨(repN n.toNat z).toArray⟩, H, I.tok k2, ⟨t2, rfl⟩, k.val w (.str ⟨by rw [len, big_eq, Nat.mul_comm]; exact h2, fun c hc => ?_⟩)⟩
      unfold repN at hc
      obtain ⟨l, hl, hcl⟩ := List.mem_flatten.mp hc
      rw [List.eq_of_mem_replicate hl] at hcl
      exact g.cod c hcl
    · cases e
  · cases e
theorem op_mul2O : OpR X (binaryOp .Mult) (rD X G mul2O) := opCases op_mulO op_smulO
/-! is True, is False -/
def isBO (neg : Bool) (a b : D) : Option D := match a, b with
  | .bl x, .bl y => some (.bl (if neg then !(x == y) else (x == y)))
  | _, _ => none
theorem op_isBO : OpR X (compareOp .Is) (rD X G (isBO false)) := by
  intro pins s σ H x y v u Q I rx ry h
  obtain ⟨F, α, S, d1, d2, d3, w, r1, r2, e, k⟩ := h
  unfold isBO at e
  split at e
  · rename_i i j
    cases e
    exact op_is_bl pins s σ H x y v u Q I rx ry ⟨i, j, r1.blH, r2.blH, by
      have := k.val w (.bl _)
      rw [show decide (i = j) = (i == j) by rw [Bool.beq_eq_decide_eq]]
      exact this⟩
  · cases e
theorem op_isnBO : OpR X (compareOp .IsNot) (rD X G (isBO true)) := by
  intro pins s σ H x y v u Q I rx ry h
  obtain ⟨F, α, S, d1, d2, d3, w, r1, r2, e, k⟩ := h
  unfold isBO at e
  split at e
  · rename_i i j
    cases e
    exact op_isnot_bl pins s σ H x y v u Q I rx ry ⟨i, j, r1.blH, r2.blH, by
      have := k.val w (.bl _)
      rw [show decide (i = j) = (i == j) by rw [Bool.beq_eq_decide_eq]]
      exact this⟩
  · cases e
end
end TM

set_option Elab.async false
set_option linter.all false
set_option maxRecDepth 20000
set_option autoImplicit false
namespace TM
open PySem PySem.Spec PyProof.Rows L2

/-! ## own functions -/
abbrev Fm := List D → Sto → ER
def CPost (K : PySem.W.Frag) (G : Glo) (H F : Hp) (α : List Addr) (r : ER) (Q : VK) (E : XK) : Prop := match r with
  | .ok d S' => ∀ v H' F' α', Wd K G S' H' F' α' → Stp H F α H' F' α' → Rp K G α' F' d v → Q v H'
  | .exc x S' => ∀ c dd H' F' α', Wd K G S' H' F' α' → Stp H F α H' F' α' → XRep K G α' H' F' x c dd → E c dd H'
  | .stuck => False
/-- a def's promise: it computes m -/
def spF (K : PySem.W.Frag) (G : Glo) (m : Fm) (n : Nat) : Sp := fun vs H Q E => ∃ ds S F α, Wd K G S H F α ∧ Rps K G α F ds vs ∧ vs.length = n ∧ CPost K G H F α (m ds S) Q E
/-- a def that stands there and computes m -/
structure FnI (P : Program) (w : World) (K : PySem.W.Frag) (mg : Str → Option Value) (base : Heap) (G : Glo) (L : Nat) (f : Addr) (n : Nat) (m : Fm) : Prop where
  ex : ∃ (fd : FuncData) (ps : List Str), FnOk P w K mg base (L2N.CX P w) L f fd ps (spF K G m n) ∧ Binds K fd ps []
  kp : PySem.W.keepIn K (.ref f) = true
def fcE (n : Nat) (m : Fm) (fs : Exs) : Ex := fun ρ S => (fs ρ S).bind fun ds S1 => if ds.length = n then m ds S1 else .stuck
section
variable {X : Cx} {G : Glo} {e : Ent} {W : WX} {f g : Ex} {fs : Exs} {a b c ex : Expr} {es : List Expr} {pos p : Pos} {L n : Nat} {m : Fm} {ad : Addr}
theorem fc_post {σ : L2.St} {H : Hp} {Q : VK} (q : tE X G e W (fcE n m fs) σ H Q) : tPs X G e W fs σ H fun vs H1 => spF X.K G m n vs H1 Q (WE W σ) := by
  obtain ⟨ρ, S, F, α, k, q⟩ := q
  refine ⟨ρ, S, F, α, k, AsPost.of_bind q fun ds S1 vs H1 F1 α1 _ w1 s1 r1 q1 => ?_⟩
  split at q1
  · rename_i hl
    exact ⟨ds, S1, F1, α1, w1, r1, by rw [← r1.length]; exact hl, q1⟩
  · exact q1.elim
theorem pe_fc {x : Str} (A : FnI X.prog X.w X.K X.mg X.base G L ad n m) (hr : Room L X.A) (tk : L2N.Takes X W) (hg : Gl X x) (hm : X.mg x = some (.ref ad)) (ha : PA X (a :: es) (tPs X G e W fs)) (hdb : (x == ("__debug__" : Str)) = false)
    (he : starEach (a :: es) X.env = (false, eval a X.env) :: starEach es X.env) (hpl : (backTo pos (starEach es X.env)).any (·.1) = false) : PE X (.Call (.Name x p) (a :: es) [] pos) (tE X G e W (fcE n m fs)) := by
  obtain ⟨fd, ps, F, hb⟩ := A.ex
  exact pe_imp (pe_callS F hr hg hm A.kp hb (fun σ => L2N.passAt tk σ) ha hdb he hpl) fun _ _ _ q => fc_post q
/-- the def is what a slot holds -/
def fvE (i : Nat) (Φ : Nat → Option (Nat × Fm)) (fs : Exs) : Ex := fun ρ S => match ρ[i]? with
  | some (some (.val (.fn j))) => (match Φ j with
    | some (n, m) => fcE n m fs ρ S
    | none => .stuck)
  | _ => .stuck
theorem pe_fv {x : Str} {i : Nat} {Φ : Nat → Option (Nat × Fm)} (A : ∀ j ad n m, G.fa j = some ad → Φ j = some (n, m) → FnI X.prog X.w X.K X.mg X.base G L ad n m) (hr : Room L X.A) (tk : L2N.Takes X W) (hN : X.N[i]? = some x) (hv : Vis X.env.scope x)
    (ha : PA X (a :: es) (tPs X G e W fs)) (hdb : (x == ("__debug__" : Str)) = false) (hcd : (x == ("__classdict__" : Str)) = false)
    (he : starEach (a :: es) X.env = (false, eval a X.env) :: starEach es X.env) (hpl : (backTo pos (starEach es X.env)).any (·.1) = false) : PE X (.Call (.Name x p) (a :: es) [] pos) (tE X G e W (fvE i Φ fs)) := by
  refine ⟨fun pins s σ H Q I h => ?_⟩
  obtain ⟨ρ, S, F0, α, k, h⟩ := h
  unfold fvE at h
  split at h
  · rename_i j hi
    split at h
    · rename_i n m hj
      obtain ⟨y, hy, q⟩ := k.sl i _ hi
      cases q with
      | val r =>
        cases r with
        | @fn _ ad hf =>
          have A1 := A j ad n m hf hj
          obtain ⟨fd, ps, F, hb⟩ := A1.ex
          refine wpAny_Call_Name_kw (thn ((pe_var (pos := p) hN hv hdb hcd).run pins s σ H (fun v H1 => v = .ref ad ∧ H1 = H) I ⟨.ref ad, hy, rfl, rfl⟩) fun u s1 ⟨v, H1, I1, r1, q1⟩ => ?_)
          obtain ⟨rfl, rfl⟩ := q1
          cases r1
          refine PySem.W.callWith_K (h₀ := X.base) I.ok.mod.kin A1.kp (thn (ha.run pos pins s1 σ _ _ I1 (fc_post ⟨ρ, S, F0, α, k, h⟩)) fun us s2 ⟨vs, H2, I2, r, q⟩ => ⟨I2.kIn, ?_⟩) he hpl
          exact run_fnS F hr hb (L2N.passAt tk σ) I2 r q
    · exact h.elim
  · exact h.elim
/-! raise X('..') -/
structure XcF (X : Cx) (G : Glo) (c : Nat) (x : Str) : Prop where
  ex : ∃ (C : Addr) (B newId initId : String) (bmB : List Value), ExcBaseFacts B newId initId bmB ∧ PySem.W.excIn X.K C bmB newId = true ∧ X.mg x = some (.ref C) ∧ PySem.W.keepIn X.K (.ref C) = true ∧ L2.Raises X (.ref C) ∧ G.ca c = some (.ref C)
def raiS (c : Nat) : Sx := fun ρ S => .exc ⟨c, []⟩ ρ S
theorem ps_rai {c : Nat} {x m : Str} {j : Nat} {p2 pos2 : Pos} (hc : X.calm = true) (tk : L2N.Takes X W) (A : XcF X G c x) (hg : Gl X x) (hdb : (x == ("__debug__" : Str)) = false) :
    PS X (.Raise (some (.Call (.Name x p) [.Constant (.str m) j p2] [] pos2)) none pos) (tS X G e W (raiS c)) := by
  obtain ⟨C, B, newId, initId, bmB, F, q, gC, kC, r, hca⟩ := A.ex
  exact ps_imp (L2N.ps_raise hc tk (L2N.pmk_own F q gC kC r hg hdb)) fun D σ H ⟨ρ, S, F, α, k, p⟩ => p _ _ _ _ _ _ k ⟨hca, .inl ⟨rfl, rfl⟩⟩
/-! a def's body -/
def runF (N n : Nat) (b : Sx) : Fm := fun ds S => match b (ds.map (fun d => some (SV.val d)) ++ List.replicate (N - n) none) S with
  | .rt d S' => .ok d S'
  | .nx _ S' => .ok .non S'
  | .exc x _ S' => .exc x S'
  | _ => .stuck
theorem start_ok {K : PySem.W.Frag} {N : List Str} {n : Nat} {ds : List D} {vs : List V} {S : Sto} {H F : Hp} {α : List Addr} (w : Wd K G S H F α) (r : Rps K G α F ds vs) (hl : vs.length = n) (hn : n ≤ N.length) :
    Ok K G ⟨H, F, α⟩ (ds.map (fun d => some (SV.val d)) ++ List.replicate (N.length - n) none) S (L2.start N vs) H F α := by
  have ld := r.length
  refine ⟨w, .refl _ _ _, ?_, fun i s h => ?_, fun i j o u a p1 p2 p3 p4 => ?_⟩
  · unfold L2.start
    rw [List.length_append, List.length_append, List.length_map, List.length_map, List.length_replicate, List.length_replicate, hl, ld, hl]
  · unfold L2.start
    by_cases hi : i < ds.length
    · rw [List.getElem?_append_left (by rw [List.length_map]; exact hi), List.getElem?_map, List.getElem?_eq_getElem hi] at h
      cases h
      obtain ⟨v, hv, rv⟩ := r.get (List.getElem?_eq_getElem hi)
      refine ⟨some v, ?_, .val rv⟩
      rw [List.getElem?_append_left (by rw [List.length_map]; omega), List.getElem?_map, hv]
      rfl
    · rw [List.getElem?_append_right (by rw [List.length_map]; omega)] at h
      have h1 := (List.getElem?_eq_some_iff.mp h).1
      rw [List.length_replicate, List.length_map] at h1
      have hs : s = none := by
        have := List.mem_of_getElem? h
        exact List.eq_of_mem_replicate this
      subst hs
      refine ⟨none, ?_, .none _⟩
      rw [List.getElem?_append_right (by rw [List.length_map]; omega), List.getElem?_replicate, if_pos (by rw [List.length_map]; omega)]
  · exfalso
    by_cases hi : i < ds.length
    · rw [List.getElem?_append_left (by rw [List.length_map]; exact hi), List.getElem?_map, List.getElem?_eq_getElem hi] at p1
      cases p1
    · rw [List.getElem?_append_right (by rw [List.length_map]; omega)] at p1
      have := List.eq_of_mem_replicate (List.mem_of_getElem? p1)
      cases this
theorem run_post {K : PySem.W.Frag} {N : List Str} {n : Nat} {ds : List D} {vs : List V} {S : Sto} {H F : Hp} {α : List Addr} {Q : VK} {E : XK} {b : Sx} {P : Program} (w : Wd K G S H F α) (r : Rps K G α F ds vs) (hl : vs.length = n) (hn : n ≤ N.length) (p : CPost K G H F α (runF N.length n b ds S) Q E) :
    SPost K G ⟨H, F, α⟩ (fun cls d _ H' => E cls d H') F α (b (ds.map (fun d => some (SV.val d)) ++ List.replicate (N.length - n) none) S) { nx := fun _ H' => Q .non H', rt := Q } := by
  unfold runF at p
  revert p
  cases b (ds.map (fun d => some (SV.val d)) ++ List.replicate (N.length - n) none) S with
  | nx ρ' S' => exact fun p σ' H' F' α' k _ => p _ _ _ _ k.wd k.st .non
  | rt d S' => exact fun p v H' F' α' w' s' r' => p _ _ _ _ w' s' r'
  | bk ρ' S' => exact fun p => p.elim
  | ct ρ' S' => exact fun p => p.elim
  | exc x ρ' S' => exact fun p c dd σ' H' F' α' k q => p _ _ _ _ _ k.wd k.st q
  | stuck => exact fun p => p.elim
/-- THE RULE for a def: its body computes b in every frame of it -/
theorem fn_okE {P : Program} {w : World} {K : PySem.W.Frag} {mg : Str → Option Value} {base : Heap} {x qual : Str} {st : Stmt} {ad : Addr} {fd : FuncData} {N ps : List Str} {k : Nat} {b : Sx} (F : Fun K x qual st ad fd) (S : FnScope N ps (defScope st)) (hps : ps.length ≤ N.length)
    (hb : ∀ (X : Cx) (e : Ent) (W : WX), X.prog = P → X.w = w → X.K = K → X.mg = mg → X.base = base → X.N = N → X.env.scope = defScope st → (∀ y, X.fn y = true) → X.calm = true → Room k X.A → L2N.Takes X W → PassesOwn (model X.prog X.w) X.A X.env X.xe →
      X.env.code = fd.code → X.env.qual = qual ++ ".<locals>." → PSs X (defBody st) (tS X G e W b)) : FnOk P w K mg base (L2N.CX P w) (k + 1) ad fd ps (spF K G (runF N.length ps.length b) ps.length) := by
  obtain ⟨oc, od, kV, doc, pm, an, cdv, ct, osl, rfl, lk, hcd⟩ := F.ex
  refine fn_of lk hcd S (fun vs H Q E ⟨ds, S, F, α, _, _, hl, _⟩ => hl) fun A outer s H vs Q E hr ⟨ds, S0, F0, α, w0, r0, hl, hp⟩ => ?_
  refine ⟨_, hb (cxOf (L2N.CX P w) P w K mg base N qual (defScope st) ad cdv A outer s H E) ⟨H, F0, α⟩ (fun cls d _ H' => E cls d H') rfl rfl rfl rfl rfl rfl rfl (fun _ => rfl) rfl hr (L2N.takes_of rfl rfl rfl rfl) (passes_of rfl) rfl rfl, ?_⟩
  exact ⟨_, S0, F0, α, start_ok w0 r0 hl hps, run_post (P := P) w0 r0 hl hps hp⟩
theorem fn_ok {P : Program} {w : World} {K : PySem.W.Frag} {mg : Str → Option Value} {base : Heap} {x qual : Str} {st : Stmt} {ad : Addr} {fd : FuncData} {N ps : List Str} {k : Nat} {b : Sx} (F : Fun K x qual st ad fd) (S : FnScope N ps (defScope st)) (hps : ps.length ≤ N.length)
    (hbind : Binds K fd ps [])
    (hb : ∀ (X : Cx) (e : Ent) (W : WX), X.prog = P → X.w = w → X.K = K → X.mg = mg → X.base = base → X.N = N → X.env.scope = defScope st → (∀ y, X.fn y = true) → X.calm = true → Room k X.A → L2N.Takes X W → PassesOwn (model X.prog X.w) X.A X.env X.xe →
      X.env.code = fd.code → X.env.qual = qual ++ ".<locals>." → PSs X (defBody st) (tS X G e W b)) : FnI P w K mg base G (k + 1) ad ps.length (runF N.length ps.length b) := ⟨⟨fd, ps, fn_okE F S hps hb, hbind⟩, F.kp⟩
end
end TM

set_option Elab.async false
set_option linter.all false
set_option maxRecDepth 20000
set_option autoImplicit false
namespace TM
open PySem PySem.Spec PyProof.Rows L2

/-! ## side conditions of the text, by its shape -/
def nst : Expr → Bool
  | .Starred _ _ => false
  | _ => true
theorem star_nst {a : Expr} {es : List Expr} {env : Env} (h : nst a = true) : starEach (a :: es) env = (false, eval a env) :: starEach es env := by
  cases a <;> first | rfl | cases h
theorem star_all : ∀ {es : List Expr} {env : Env}, es.all nst = true → (starEach es env).any (·.1) = false ∧ (starEach es env).all (fun x => !x.1) = true
  | [], _, _ => ⟨rfl, rfl⟩
  | a :: es, env, h => by
    rw [List.all_cons, Bool.and_eq_true] at h
    rw [star_nst h.1]
    obtain ⟨h1, h2⟩ := star_all (env := env) h.2
    exact ⟨h1, h2⟩
theorem back_any {pos : Pos} : ∀ {l : List (Bool × Sem Value)}, (backTo pos l).any (·.1) = l.any (·.1)
  | [] => rfl
  | (b, t) :: r => by
    have := back_any (pos := pos) (l := r)
    unfold backTo at this ⊢
    rw [List.map_cons, List.any_cons, List.any_cons, this]
theorem back_all {pos : Pos} : ∀ {l : List (Bool × Sem Value)}, (backTo pos l).all (fun x => !x.1) = l.all (fun x => !x.1)
  | [] => rfl
  | (b, t) :: r => by
    have := back_all (pos := pos) (l := r)
    unfold backTo at this ⊢
    rw [List.map_cons, List.all_cons, List.all_cons, this]
theorem hpl_of {pos : Pos} {es : List Expr} {env : Env} (h : es.all nst = true) : (backTo pos (starEach es env)).any (·.1) = false := by rw [back_any]; exact (star_all h).1
/-- read as a test by its value -/
def plainT : Expr → Bool
  | .UnaryOp .Not _ _ => false
  | .BoolOp _ _ _ => false
  | .IfExp _ _ _ _ => false
  | .Compare _ _ _ _ => false
  | _ => true
theorem isTrue_of {a : Expr} {env : Env} (h : plainT a = true) : ∀ whole, isTrue a env whole = (do let v ← whole; standAt a.pos; holding [v] (truthy v)) := by
  intro whole
  cases a <;> first | rfl | (cases h; done) | skip
  rename_i op x p
  cases op <;> first | rfl | cases h
def plainI : Expr → Bool
  | .Slice _ _ _ _ => false
  | _ => true
theorem plainIx_of {b : Expr} (h : plainI b = true) : PlainIx b := by
  intro o i
  cases b <;> first | rfl | cases h
def nocall : Expr → Bool
  | .Call _ _ _ _ => false
  | _ => true
theorem base_of {a : Expr} {attr : Str} {env : Env} {whole : Sem Value} (h : nocall a = true) : attributeBase a attr env whole = whole := by
  cases a <;> first | rfl | cases h
def noset : Expr → Bool
  | .Set _ _ _ => false
  | _ => true
theorem marks_of {b : Expr} {op : CmpOp} (h : noset b = true) : behindInMarks op b = false := by
  cases b <;> first | rfl | cases h
theorem lmarks_of {b c : Expr} {op op' : CmpOp} (h : noset c = true) : lastMarks [op, op'] [b, c] = false := marks_of h
theorem fold_of {e : Expr} {env : Env} (h : noset e = true) : ∀ x, foldedSetIterable e env x = pure x := by
  intro x
  cases e <;> first | rfl | cases h
def nocomp : Expr → Bool
  | .ListComp _ _ _ _ => false
  | .SetComp _ _ _ _ => false
  | .DictComp _ _ _ _ _ => false
  | _ => true
theorem swaps_of {e : Expr} {t : Option Expr} {l : Nat} {env : Env} (h : nocomp e = true) : swapsWith e t l env = pure false := by
  cases e <;> first | rfl | cases h
theorem swapsS_of {e t : Expr} {l : Nat} {env : Env} (h : nocomp e = true) : swapsWithSole [t] e l env = pure false := swaps_of h
def notup : Expr → Bool
  | .Tuple _ _ _ => false
  | _ => true
theorem stores_of {e t : Expr} {env : Env} (h : notup e = true) : swappedStores [t] e env = pure none := by
  cases e <;> first | (cases h; done) | (cases t <;> rfl)
theorem stores_many {ts vs : List Expr} {k k' : Nat} {p p' : Pos} {env : Env} (h : (ts.length == 2 || ts.length == 3) = false) : swappedStores [.Tuple ts k p] (.Tuple vs k' p') env = pure none := by
  unfold swappedStores
  simp only [h]
  rfl
theorem assign_nst {tg : Expr} {es : List Expr} {env : Env} (h : nst tg = true) : (assignEach (tg :: es) env).map (·.2) = assign tg env :: (assignEach es env).map (·.2) := by
  cases tg <;> first | rfl | cases h
theorem assign_len : ∀ {es : List Expr} {env : Env}, (assignEach es env).length = es.length
  | [], _ => rfl
  | tg :: es, env => by
    have := assign_len (es := es) (env := env)
    cases tg <;> exact congrArg (· + 1) this
theorem assign_idx : ∀ {es : List Expr} {env : Env}, es.all nst = true → (assignEach es env).findIdx? (·.1) = none
  | [], _, _ => rfl
  | tg :: es, env, h => by
    rw [List.all_cons, Bool.and_eq_true] at h
    have := assign_idx (env := env) h.2
    rw [List.findIdx?_eq_none_iff] at this ⊢
    intro x hx
    cases tg <;> first | (cases h.1; done) | (
      rcases List.mem_cons.mp hx with rfl | hx
      · rfl
      · exact this x hx)
end TM

set_option Elab.async false
set_option linter.all false
set_option maxRecDepth 20000
set_option autoImplicit false
namespace TM
open PySem PySem.Spec PyProof.Rows L2

/-! ## lists with an identity -/
section
variable {K : PySem.W.Frag} {G : Glo} {S : Sto} {H F : Hp} {α : List Addr}
/-- an own list given an identity -/
theorem Wd.push (w : Wd K G S H F α) {a : Addr} {o : OB} {h : HO} (h1 : H a = some h) (h2 : F a = none) (h3 : a ∉ α) (h5 : ObOk K G α F o h) : Wd K G (S ++ [.b o]) H F (α ++ [a]) := by
  refine ⟨w.sub, ?_, w.tabs, w.fnt, by rw [List.length_append, List.length_append, w.len]; rfl, fun n u b e1 e2 => ?_, fun b m => ?_⟩
  · rw [List.nodup_append]
    exact ⟨w.nd, by simp, fun x hx y hy e => h3 (by rw [List.mem_singleton.mp hy] at e; rw [← e]; exact hx)⟩
  · by_cases hn : n < S.length
    · rw [List.getElem?_append_left hn] at e1
      rw [List.getElem?_append_left (by rw [← w.len]; exact hn)] at e2
      exact (w.sto n u b e1 e2).mono (Same.refl F) ⟨[a], rfl⟩ fun o q => q
    · rw [List.getElem?_append_right (by omega)] at e1
      rw [List.getElem?_append_right (by rw [← w.len]; omega)] at e2
      have hl := (List.getElem?_eq_some_iff.mp e1).1
      have hz : n - S.length = 0 := by
        rw [List.length_singleton] at hl; omega
      rw [hz] at e1
      rw [← w.len, hz] at e2
      cases e1
      cases e2
      exact .b h1 (h5.mono (Same.refl F) ⟨[a], rfl⟩)
  · rcases List.mem_append.mp m with m | m
    · exact w.anf b m
    · rw [List.mem_singleton.mp m]; exact h2
theorem Wd.at (w : Wd K G S H F α) {n : Nat} {o : OB} (h : S[n]? = some (.b o)) : ∃ a hh, α[n]? = some a ∧ H a = some hh ∧ ObOk K G α F o hh := by
  have hn := (List.getElem?_eq_some_iff.mp h).1
  have hn' : n < α.length := by rw [← w.len]; exact hn
  have ha : α[n]? = some α[n] := List.getElem?_eq_getElem hn'
  cases w.sto n _ _ h ha with
  | b q r => exact ⟨_, _, ha, q, r⟩
theorem wst (w : Wd K G S H F α) {n : Nat} {a : Addr} {xs : List D} {vs us : List V} {ys : List D} (h : S[n]? = some (.b (.l xs))) (ha : α[n]? = some a) (h1 : H a = some (.lst vs)) (z : us.length ≤ sizeLine) (r : Rps K G α F ys us) :
    Wd K G (S.set n (.b (.l ys))) (upd H a (.lst us)) F α ∧ Stp H F α (upd H a (.lst us)) F α := by
  have hf : F a = none := w.anf a (List.mem_of_getElem? ha)
  refine ⟨⟨fun b u e => ?_, w.nd, tabs_write w.tabs h1, w.fnt, by rw [List.length_set]; exact w.len, fun m u b e1 e2 => ?_, w.anf⟩, ⟨Same.refl F, fun b q => .inl q, ⟨[], (List.append_nil _).symm, fun _ h => by cases h⟩, fun b u e q _ => ?_, fun b q => ?_⟩⟩
  · have ne : b ≠ a := fun z => by rw [z, hf] at e; cases e
    rw [upd_ne ne]; exact w.sub b u e
  · by_cases hm : n = m
    · subst hm
      rw [List.getElem?_set_self (List.getElem?_eq_some_iff.mp h).1] at e1
      cases e1
      rw [ha] at e2
      cases e2
      exact .b upd_same (.l z r)
    · rw [List.getElem?_set_ne hm] at e1
      have ne : b ≠ a := fun q => by
        rw [q] at e2
        exact hm ((List.getElem?_inj (List.getElem?_eq_some_iff.mp ha).1 w.nd).mp (ha.trans e2.symm))
      exact (w.sto m u b e1 e2).mono (Same.refl F) ⟨[], (List.append_nil _).symm⟩ fun o q => by rw [upd_ne ne]; exact q
  · have ne : b ≠ a := fun z => q (by rw [z]; exact List.mem_of_getElem? ha)
    rw [upd_ne ne]; exact e
  · obtain ⟨u, e, nn⟩ := q
    by_cases z : b = a
    · exact ⟨.lst us, by rw [z, upd_same], nt_lst us⟩
    · exact ⟨u, by rw [upd_ne z]; exact e, nn⟩
end
/-- an operation that looks into the store -/
def rDS (X : Cx) (G : Glo) (op : Sto → D → D → Option D) : R2 := fun x y H Q =>
  ∃ (F : Hp) (α : List Addr) (S : Sto) (d1 d2 d3 : D), Wd X.K G S H F α ∧ RpO X.K G α H F d1 x ∧ RpO X.K G α H F d2 y ∧ op S d1 d2 = some d3 ∧ Kon X.K G S H F α d3 Q
def ixS (S : Sto) (a b : D) : Option D := match a with
  | .ref n => (match S[n]? with
    | some (.b (.l xs)) => ixO (.lst xs) b
    | _ => none)
  | a => ixO a b
def binES (o : Sto → D → D → Option D) (f g : Ex) : Ex := fun ρ S => (f ρ S).bind fun a S1 => (g ρ S1).bind fun b S2 => lift (o S2 a b) S2
section
variable {X : Cx} {G : Glo} {e : Ent} {W : WX} {f g : Ex} {a b ex ix : Expr} {pos : Pos}
theorem two_postS {o : Sto → D → D → Option D} {σ : L2.St} {H : Hp} {Q : VK} (q : tE X G e W (binES o f g) σ H Q) : tO X G e W f σ H fun x H1 => tO X G e W g σ H1 fun y H2 => rDS X G o x y H2 Q := by
  obtain ⟨ρ, S, F, α, k, p⟩ := q
  refine ⟨ρ, S, F, α, k, EPost.of_bind p fun d1 S1 v H1 F1 α1 _ w1 s1 r1 p1 => ?_⟩
  refine ⟨ρ, S1, F1, α1, k.step w1 s1, EPost.of_bind p1 fun d2 S2 u H2 F2 α2 _ w2 s2 r2 p2 => ?_⟩
  obtain ⟨d3, e3, k3⟩ := lift_post p2
  exact ⟨F2, α2, S2, d1, d2, d3, w2, r1.step s2, r2, e3, k3⟩
theorem RpO.refH {α : List Addr} {F H : Hp} {n : Nat} {v : V} (r : RpO X.K G α H F (.ref n) v) : ∃ ad, v = .ref ad ∧ α[n]? = some ad := by
  rcases r with r | ⟨o, a, h, e, _⟩
  · cases r with | ref h => exact ⟨_, rfl, h⟩
  · cases o <;> cases e
theorem ix_S : IxR X (rDS X G ixS) := by
  intro value slice pins s σ H x y v u Q I rx ry h hs
  obtain ⟨F, α, S, d1, d2, d3, w, r1, r2, e, k⟩ := h
  unfold ixS at e
  split at e
  · rename_i n
    split at e
    · rename_i xs hS
      obtain ⟨ad, hh, ha, h1, h5⟩ := w.at hS
      obtain ⟨ad', rfl, ha'⟩ := r1.refH
      rw [ha] at ha'
      cases ha'
      cases h5 with
      | @l _ vs z r =>
        cases d2 with
        | int i =>
          obtain ⟨zv, hz, rz⟩ := r.atI e
          exact ix_list value slice pins s σ H _ y v u Q I rx ry ⟨ad, vs, i, zv, rfl, r2.intH, .of h1, hz, k.val w rz⟩ hs
        | _ => cases e
    · cases e
  · exact ix_O value slice pins s σ H x y v u Q I rx ry ⟨F, α, S, _, d2, d3, w, r1, r2, e, k⟩ hs
theorem pe_subS (ha : PE X a (tO X G e W f)) (hb : PE X b (tO X G e W g)) (hs : PlainIx b) : PE X (.Subscript a b pos) (tE X G e W (binES ixS f g)) :=
  pe_imp (pe_ix ix_S ha hb hs) fun _ _ _ q => two_postS q
/-- x[i] = v: x a slot's own list, or a list with an identity -/
def stiS (i : Nat) (f g : Ex) : Sx := fun ρ S => match ρ[i]? with
  | some (some sv) => (f ρ S).sbind ρ fun d S1 => (g ρ S1).sbind ρ fun j S2 => match sv, j with
    | .own (.l xs), .int k => (match ixN xs.length k with
      | some n => .nx (ρ.set i (some (.own (.l (xs.set n d))))) S2
      | none => .stuck)
    | .val (.ref m), .int k => (match S2[m]? with
      | some (.b (.l xs)) => (match ixN xs.length k with
        | some n => .nx ρ (S2.set m (.b (.l (xs.set n d))))
        | none => .stuck)
      | _ => .stuck)
    | _, _ => .stuck
  | _ => .stuck
theorem asg_sub {o i : Expr} {env : Env} {p : Pos} (h : plainI i = true) : ∀ v, assign (.Subscript o i p) env v = (do
      let ov ← holding [v] (eval o env)
      let iv ← holding [v, ov] (eval i env)
      standAt p
      holding [v, ov, iv] (setItem ov iv v)
      release [v, ov, iv] []) := by
  intro v
  cases i <;> first | rfl | cases h
theorem ps_sti {i : Nat} {x : Str} {p1 p2 : Pos} (hN : X.N[i]? = some x) (hv : Vis X.env.scope x) (hd : (x == ("__debug__" : Str)) = false) (hcd : (x == ("__classdict__" : Str)) = false) (ha : PE X ex (tE X G e W f)) (hb : PE X ix (tE X G e W g)) (hn : nocomp ex = true) (hi : plainI ix = true) (ht : notup ex = true) :
    PS X (.Assign [.Subscript (.Name x p1) ix p2] ex pos) (tS X G e W (stiS i f g)) :=
  ps_imp (ps_asg ha (pg_sub (pe_var (i := i) hN hv hd hcd) hb set_list (asg_sub hi)) (swapsS_of hn) (stores_of ht) rfl) fun D σ H ⟨ρ, S, F, α, k, p⟩ => by
    unfold stiS at p
    split at p
    · rename_i sv hi
      obtain ⟨y, hy⟩ : ∃ y, σ[i]? = some (some y) := by
        obtain ⟨y, hy, q⟩ := k.sl i _ hi
        cases q with
        | val => exact ⟨_, hy⟩
        | own => exact ⟨_, hy⟩
      refine ⟨ρ, S, F, α, k, SPost.of_sbind k p fun d S1 v H1 F1 α1 _ k1 s1 r1 p1 => ?_⟩
      refine ⟨y, hy, ρ, S1, F1, α1, k1, SPost.of_sbind k1 p1 fun j S2 u H2 F2 α2 _ k2 s2 r2 p2 => ?_⟩
      obtain ⟨y', hy', q⟩ := k2.sl i _ hi
      rw [hy] at hy'
      cases hy'
      have r1' := r1.mono s2.f s2.pre
      split at p2
      · rename_i xs kk _
        split at p2
        · rename_i n hn
          cases q with
          | @own _ hh ad g1 g2 g3 g4 g5 =>
            cases g5 with
            | @l _ vs z rr =>
              rw [rr.length] at hn
              exact ⟨ad, vs, kk, n, rfl, RpO.intH (H := H2) (.inl r2), g1, hn, p2 _ _ _ _ (k2.setOwn hi hy g1 g2 g3 g4 (Rps.set _ r1' rr) (by rw [List.length_set]; exact z)) (.refl _ _)⟩
        · exact p2.elim
      · rename_i m kk _
        split at p2
        · rename_i xs hS
          split at p2
          · rename_i n hn
            cases q with
            | val rv =>
              obtain ⟨ad, hh, ha, h1, h5⟩ := k2.wd.at hS
              cases rv with
              | ref ha' =>
                rw [ha] at ha'
                cases ha'
                cases h5 with
                | @l _ vs z rr =>
                  rw [rr.length] at hn
                  obtain ⟨w3, s3⟩ := wst (us := vs.set n v) k2.wd hS ha h1 (by rw [List.length_set]; exact z) (Rps.set _ r1' rr)
                  exact ⟨ad, vs, kk, n, rfl, RpO.intH (H := H2) (.inl r2), h1, hn, p2 _ _ _ _ (k2.step w3 s3) (.refl _ _)⟩
          · exact p2.elim
        · exact p2.elim
      · exact p2.elim
    · exact p.elim
/-- return of a fresh list: from here on it has an identity -/
def retNS (f : Ex) : Sx := fun ρ S => (f ρ S).sbind ρ fun d S1 => match obOf d with
  | some o => .rt (.ref S1.length) (S1 ++ [.b o])
  | none => .stuck
theorem ps_rnew (h : PE X ex (tN X G e W f)) : PS X (.Return (some ex) pos) (tS X G e W (retNS f)) :=
  ps_imp (ps_ret h) fun D σ H ⟨ρ, S, F, α, k, p⟩ => ⟨ρ, S, F, α, k, SPost.of_sbind k p fun d S1 v H1 F1 α1 _ k1 _ r1 p1 => by
    obtain ⟨o, ad, hh, ed, rfl, h1, h2, h3, h4, h0, h5⟩ := r1
    cases hob : obOf d with
    | none => rw [hob] at p1; exact p1.elim
    | some u =>
      rw [hob] at p1
      have : u = o := toD_inj (by rw [← obOf_toD hob, ed])
      subst this
      have s2 : Stp e.H e.F e.α H1 F1 (α1 ++ [ad]) := by
        obtain ⟨β, hβ, q⟩ := k1.st.al
        refine ⟨k1.st.f, k1.st.fr, ⟨β ++ [ad], by rw [hβ, List.append_assoc], fun a m => ?_⟩, k1.st.keep, k1.st.dom⟩
        rcases List.mem_append.mp m with m | m
        · exact q a m
        · rw [List.mem_singleton.mp m]; exact h4
      exact p1 _ _ _ _ (k1.wd.push h1 h2 h3 h5) s2 (.ref (by rw [k1.wd.len, List.getElem?_append_right (Nat.le_refl _), Nat.sub_self]; rfl))⟩
end
end TM

set_option Elab.async false
set_option linter.all false
set_option maxRecDepth 20000
set_option autoImplicit false
namespace TM
open PySem PySem.Spec PyProof.Rows L2

/-! ## a lambda's call, its exceptions' context told -/
section
open LamX
/-- the context of the lambda's body, what leaves it told with its context -/
abbrev lamCxN (X : Cx) (A : Around) (outer : List Env) (s : Shared) (H : Hp) (E : XK) (scope : Scope) (f c' : Addr) : Cx :=
  (lamCx X A outer s H E scope f c').wish fun e s' => wpAny (model X.prog X.w) (A.deeper (lamEnv X scope s.heap.objs.size f c')) (leaving (lamEnv X scope s.heap.objs.size f c') e) (fun _ s'' => L2N.CX X.prog X.w outer H s E e s'') (fun e' s'' => L2N.CX X.prog X.w outer H s E e' s'') s'
section
variable {X : Cx} {pins : List (Addr × Obj)} {σ : L2.St} {H HZ : Hp} {s s1 : Shared}
theorem pe_actN {CXg : CXT} {Eg : XK} {Ng : List Str} {qg : Str} {sg : Scope} {g f c' : Addr} {cdg pm ctv : Value} {params : Arguments} {body : Expr} {scope : Scope} {k i : Nat} {a : Str} {pn : List (Addr × Obj)} {xe : Value → Shared → Prop} {W : WX} {E : XK} {tb : TE} {p1 p2 : Pos}
    (I : Inv X pins σ H s) (L : LamS X.env.scope scope) (hf : s.heap.get? f = some (PySem.W.kla_obj "<lambda>" (X.env.qual ++ "<lambda>") params body scope (cloFrom X.env.cells scope.names []) pm c' ctv)) (hfn : H f = none) (hfr : f ∉ frs X.stack)
    (hbind : bindArgs (PySem.W.kla_fn "<lambda>" (X.env.qual ++ "<lambda>") params body scope (cloFrom X.env.cells scope.names []) pm (.ref c') ctv) ⟨[], []⟩ = pure [])
    (tk : L2N.Takes ((cxOf CXg X.prog X.w X.K X.mg X.base Ng qg sg g cdg X.A X.stack s H Eg).tr pn xe) W) (hW : ∀ cls d σ' H', E cls d H' → W cls d σ' H') (hr : Room (k + 1) (X.A.deeper (envOfC qg sg s.heap.objs.size g cdg)))
    (hbody : ∀ (A : Around) (outer : List Env) (s : Shared) (H : Hp), Room k (A.deeper (LamX.lamEnv X scope s.heap.objs.size f c')) → PE (lamCxN X A outer s H E scope f c') body tb)
    (hN : Ng[i]? = some a) (hv : Vis sg a) (hd : (a == ("__debug__" : Str)) = false := by decide) (hcd : (a == ("__classdict__" : Str)) = false := by decide) :
    PE ((cxOf CXg X.prog X.w X.K X.mg X.base Ng qg sg g cdg X.A X.stack s H Eg).tr pn xe) (.Call (.Name a p1) [] [] p2)
      (fun σZ HZ Q => σZ[i]? = some (some (.ref f)) ∧ HZ c' = some (CodeO c' (X.env.qual ++ "<lambda>")) ∧ tb σ HZ Q) := by
  refine ⟨fun pinsZ sZ σZ HZ Q IZ h => ?_⟩
  obtain ⟨hs, hc, ht⟩ := h
  refine wpAny_Call_Name_kw (thn ((pe_var (pos := p1) (i := i) hN hv hd hcd).run pinsZ sZ σZ HZ (fun v H1 => v = .ref f ∧ H1 = HZ) IZ ⟨.ref f, hs, rfl, rfl⟩) fun u s1 ⟨v, H1, I1, r1, q1⟩ => ?_)
  obtain ⟨ev, eH⟩ := q1
  subst ev
  rw [eH] at I1
  obtain rfl : u = Value.ref f := r1
  have of1 : s1.heap.get? f = some (PySem.W.kla_obj "<lambda>" (X.env.qual ++ "<lambda>") params body scope (cloFrom X.env.cells scope.names []) pm c' ctv) := I1.base.keep f _ hf hfn hfr (fun z => nomatch (show f ∈ ([] : List Addr) from z))
  refine PySem.W.callWith_F0 ⟨_, _, _, _, of1⟩ ?_
  have un : Un (frs X.stack) [] H HZ s.heap s1.heap := I1.base
  obtain ⟨⟨oc, vs, t, hoc, hdc, hvc⟩, _, _⟩ := I1.hok c' _ hc
  have rc : codeAny (model X.prog X.w) (X.A.deeper (envOfC qg sg s.heap.objs.size g cdg)) (.call (.ref f) ⟨[], []⟩) (CR (L2N.CX X.prog X.w) (envOfC qg sg s.heap.objs.size g cdg :: X.stack) X.prog X.w HZ s1 Q E) s1 := by
    refine PySem.W.kla_callFunE hr.depth of1 rfl L.co L.gen rfl ⟨c', oc, vs, t, rfl, hoc, hdc, hvc⟩ ?_
    rw [hbind]
    refine wpAny_pure (wpAny_newFunctionEnv (fun y hy => (L.own y hy).2) (fun y hy => absurd hy (by simp)) (fun h₁ hns hsb => ⟨I1.nolimit.fresh _ hsb, ?_⟩) L.kind)
    show codeAny _ _ (.expr body (LamX.lamEnv X scope s1.heap.objs.size f c')) _ _
    have kp : ∀ b o, s1.heap.get? b = some o → h₁.get? b = some o := fun b o e => hsb.extBut b o (Nat.ne_of_lt (Heap.lt_size e)) (Heap.get?_push_of_some _ e)
    have J : Inv (lamCxN X (X.A.deeper (envOfC qg sg s.heap.objs.size g cdg)) (envOfC qg sg s.heap.objs.size g cdg :: X.stack) s1 HZ E scope f c') [] σ HZ { s1 with heap := h₁, toks := s1.toks + ([] : List (Str × Value)).length } :=
      (lam_start2 I L I1.env0 hr.hd un hns kp).wish _
    refine PySem.W.kla_codeExpr (wpAny_mono ((hbody _ _ s1 HZ (hr.deeper _)).run [] _ _ HZ Q J ht) (fun v s' hq => ?_) fun e s' hq => hq)
    obtain ⟨w', H', J', rv, q⟩ := hq
    exact ⟨w', H', J'.os, J'.bare, J'.base, J'.hok, rv, q⟩
  have hx : Passes (L2N.CX X.prog X.w) ((cxOf CXg X.prog X.w X.K X.mg X.base Ng qg sg g cdg X.A X.stack s H Eg).tr pn xe) E := L2N.passes_call tk hW
  refine wpAny_call (codeAny_mono rc fun r s' hq => ?_)
  cases r with
  | error e => exact hx pinsZ σZ HZ s1 e s' I1 hq
  | ok fl =>
    cases fl with
    | ret u => exact I1.after hq
    | next => exact False.elim hq
    | brk => exact False.elim hq
    | cont => exact False.elim hq
end
def GivesToN (X : Cx) (Ng : List Str) (x : Str) (sg : Scope) (g : Addr) (cdg : Value) (bg : List Stmt) (a : Str) (q : Str) (TT : (XK → Hp → VK → Prop) → Hp → VK → Prop) : Prop :=
  ∀ (f c' : Addr) (s : Shared) (H : Hp) (Q : VK) (tl : XK → Hp → VK → Prop),
    Room 1 (X.A.deeper (envOfC x sg s.heap.objs.size g cdg)) → (∀ (W : WX) (pn : List (Addr × Obj)) (xe : Value → Shared → Prop) (E : XK) (p1 p2 : Pos), L2N.Takes ((cxOf C8.CX0 X.prog X.w X.K X.mg X.base Ng x sg g cdg X.A X.stack s H C8.E0).tr pn xe) W → (∀ cls d σ' H', E cls d H' → W cls d σ' H') →
      PE ((cxOf C8.CX0 X.prog X.w X.K X.mg X.base Ng x sg g cdg X.A X.stack s H C8.E0).tr pn xe) (.Call (.Name a p1) [] [] p2) (fun σZ HZ Q => σZ[0]? = some (some (.ref f)) ∧ HZ c' = some (CodeO c' q) ∧ tl E HZ Q)) →
    H c' = some (CodeO c' q) → TT tl H Q →
    ∃ t, PSs (cxOf C8.CX0 X.prog X.w X.K X.mg X.base Ng x sg g cdg X.A X.stack s H C8.E0).nox bg t ∧ t { nx := fun _ H' => Q .non H', rt := Q } (L2.start Ng [.ref f]) H
section
variable {X : Cx}
theorem pe_lamcallN {T : List (Addr × Str)} {TT : (XK → Hp → VK → Prop) → Hp → VK → Prop} {x a : Str} {g c P : Addr} {k : Nat} {pg : Arguments} {bg : List Stmt} {sg : Scope} {dV kV doc pm cdv ct oc : Value} {an od : Option Addr} {osl : Array (Option Value)} {Ng : List Str}
    {params : Arguments} {body : Expr} {scope : Scope} {t : XK → TE} {p lpos pos : Pos} (hg : Gl X x) (hm : X.mg x = some (.ref g)) (hk : PySem.W.keepIn X.K (.ref g) = true)
    (lk : X.K.lookup g = some ⟨oc, od, .func (PySem.W.fnOf x x pg bg sg dV kV doc pm an cdv ct), osl⟩) (hcg : PySem.W.codeIn X.K cdv x = true) (hb : L2.Binds X.K (PySem.W.fnOf x x pg bg sg dV kV doc pm an cdv ct) [a] []) (Sg : FnScope Ng [a] sg) (hNg : Ng[0]? = some a) (hva : Vis sg a)
    (hG : GivesToN X Ng x sg g cdv bg a (X.env.qual ++ "<lambda>") TT)
    (TB : TabB X.base X.mg c P) (hcode : X.env.code = .ref c) (hmT : (P, X.env.qual ++ "<lambda>") ∈ T) (hu : ∀ p ∈ T, p.1 = P → p.2 = X.env.qual ++ "<lambda>") (hr : Room (k + 2) X.A) (L : LamS X.env.scope scope) (hdef : defaultsOf params X.env = ([], []))
    (hbind : ∀ (q : Str) (cl : List (Str × Addr)) (pm cv ctv : Value), bindArgs (PySem.W.kla_fn "<lambda>" q params body scope cl pm cv ctv) ⟨[], []⟩ = pure [])
    (hbody : ∀ (A : Around) (outer : List Env) (s : Shared) (H : Hp) (E : XK) (f c' : Addr), Room k (A.deeper (lamEnv X scope s.heap.objs.size f c')) → PE (lamCxN X A outer s H E scope f c') body (t E))
    (hdb : (x == ("__debug__" : Str)) = false := by decide) (hd : (a == ("__debug__" : Str)) = false := by decide) (hcd : (a == ("__classdict__" : Str)) = false := by decide) :
    PE X (.Call (.Name x p) [.Lambda params body scope lpos] [] pos) (tLam T TT t) := by
  refine ⟨fun pins s σ H Q I h => ?_⟩
  obtain ⟨hT, h⟩ := h
  refine wpAny_Call_Name_kw (ld_glob I hg hm ?_ hdb)
  refine PySem.W.callWith_K (h₀ := X.base) I.ok.mod.kin hk ?_ (by rfl) (by rfl)
  show wpAny _ _ (spliced ((false, eval (.Lambda params body scope lpos) X.env) :: backTo pos (starEach [] X.env))) _ _ s
  refine Calls.spliced_cons (lam_make2 I TB hcode hmT hu hT hdef (L.has I.ok) fun f c' pm' ctv H1 s' I1 eN T1 hf hfn hfr hco => ?_)
  refine Calls.spliced_nil ⟨I1.kIn, ?_⟩
  have rc : codeAny (model X.prog X.w) X.A (.call (.ref g) ⟨[.ref f], []⟩) (CR C8.CX0 X.stack X.prog X.w H1 s' Q C8.E0) s' := by
    refine run_ofS (N := Ng) (ps := [a]) (us := [.ref f]) (vs := [.ref f]) lk hcg Sg hr I1.env0 (hb s' [.ref f] I1.kIn rfl) (.cons rfl .nil) rfl fun hr' => ?_
    obtain ⟨t', ht', hq'⟩ := hG f c' s' H1 Q (fun E H' Q' => t E σ H' Q') (hr'.mono (Nat.le_add_left 1 k)) (fun W pn xe E p1 p2 tk hW => pe_actN (i := 0) I1 L hf hfn hfr (hbind _ _ _ _ _) tk hW hr' (fun A outer s H hr2 => hbody A outer s H E f c' hr2) hNg hva hd hcd) hco (h H1 eN T1)
    exact ⟨t', ht'.nox, hq'⟩
  refine wpAny_call (codeAny_mono rc fun r s2 hq => ?_)
  cases r with
  | error e => exact (show False from hq).elim
  | ok fl =>
    cases fl with
    | ret u => exact I1.after hq
    | next => exact False.elim hq
    | brk => exact False.elim hq
    | cont => exact False.elim hq
end
theorem takesN0 {X : Cx} : L2N.Takes X (fun _ _ _ _ => False) := fun _ _ x => by
  obtain ⟨_, _, _, _, _, _, _, _, _, _, _, _, _, _, _, _, z⟩ := x
  exact z.elim
end
/-! ## a lambda handed to a def that calls it -/
abbrev Act := Sto → ER
abbrev Cat := Act → Sto → ER
/-- what a catcher makes of the lambda's reading -/
def TTm (K : PySem.W.Frag) (G : Glo) (M : Cat) : (XK → Hp → VK → Prop) → Hp → VK → Prop := fun tl H Q => ∃ (act : Act) (S : Sto) (F : Hp) (α : List Addr), Wd K G S H F α ∧
  (∀ (E : XK) (Q' : VK), CPost K G H F α (act S) Q' E → tl E H Q') ∧ CPost K G H F α (M act S) Q (fun _ _ _ => False)
def lamE (M : Cat) (f : Ex) : Ex := fun ρ S => match M (fun S' => f ρ S') S with
  | .ok d S1 => .ok d S1
  | _ => .stuck
/-- the def that calls what it got -/
structure LcR (X : Cx) (G : Glo) (x : Str) (M : Cat) : Prop where
  ex : ∃ (a : Str) (g c P : Addr) (pg : Arguments) (bg : List Stmt) (sg : Scope) (dV kV doc pm cdv ct oc : Value) (an od : Option Addr) (osl : Array (Option Value)) (Ng : List Str),
    X.mg x = some (.ref g) ∧ PySem.W.keepIn X.K (.ref g) = true ∧ X.K.lookup g = some ⟨oc, od, .func (PySem.W.fnOf x x pg bg sg dV kV doc pm an cdv ct), osl⟩ ∧ PySem.W.codeIn X.K cdv x = true ∧
    L2.Binds X.K (PySem.W.fnOf x x pg bg sg dV kV doc pm an cdv ct) [a] [] ∧ FnScope Ng [a] sg ∧ Ng[0]? = some a ∧ Vis sg a ∧ (a == ("__debug__" : Str)) = false ∧ (a == ("__classdict__" : Str)) = false ∧
    LamX.TabB X.base X.mg c P ∧ X.env.code = .ref c ∧ (P, X.env.qual ++ "<lambda>") ∈ G.T ∧ (∀ p ∈ G.T, p.1 = P → p.2 = X.env.qual ++ "<lambda>") ∧
    ∀ (Y : Cx) (q : Str), Y.prog = X.prog → Y.w = X.w → Y.K = X.K → Y.mg = X.mg → Y.base = X.base → GivesToN Y Ng x sg g cdv bg a q (TTm X.K G M)
/-- a lambda without parameters -/
def noPar : Arguments → Bool
  | ⟨[], [], none, [], [], none, []⟩ => true
  | _ => false
section
variable {X : Cx} {G : Glo} {e : Ent} {W : WX} {x : Str} {M : Cat} {f1 : Ex} {L : Nat} {params : Arguments} {body : Expr} {scope : Scope} {p lpos pos : Pos}
theorem wd_ext {K : PySem.W.Frag} {S : Sto} {H H1 F : Hp} {α : List Addr} (w : Wd K G S H F α) (n : LamX.ExtN H H1) (t : LamX.Tabs G.T H1) : Wd K G S H1 F α := by
  refine ⟨fun a o h => n _ _ (w.sub _ _ h) (w.fnt _ _ h), w.nd, t, w.fnt, w.len, fun m o a e1 e2 => ?_, w.anf⟩
  cases w.sto m o a e1 e2 with
  | b q r => exact .b (n _ _ q r.nt) r
theorem stp_ext {H H1 F : Hp} {α : List Addr} (n : LamX.ExtN H H1) : Stp H F α H1 F α :=
  ⟨Same.refl F, fun a h => .inl h, ⟨[], (List.append_nil _).symm, fun _ h => by cases h⟩, fun a o h _ q => n _ _ h q, fun a ⟨o, h, q⟩ => ⟨o, n _ _ h q, q⟩⟩
theorem CPost.ep {K : PySem.W.Frag} {σ : L2.St} {H F : Hp} {α : List Addr} {r : ER} {Q : VK} {E : XK} (h : CPost K G H F α r Q E) : EPost K G (fun cls d _ H => E cls d H) (rP K G) σ H F α r Q := by
  cases r with
  | ok d S => exact h
  | exc x S => exact h
  | stuck => exact h
theorem noPar_eq {params : Arguments} (h : noPar params = true) : params = ⟨[], [], none, [], [], none, []⟩ := by
  unfold noPar at h
  split at h
  · rfl
  · cases h
theorem pe_lam (R : LcR X G x M) (hg : Gl X x) (hdb : (x == ("__debug__" : Str)) = false) (hr : Room (L + 2) X.A) (Ls : LamX.LamS X.env.scope scope) (hp : noPar params = true)
    (hbody : ∀ (A : Around) (outer : List Env) (s : Shared) (H : Hp) (E : XK) (f c' : Addr), Room L (A.deeper (LamX.lamEnv X scope s.heap.objs.size f c')) → PE (lamCxN X A outer s H E scope f c') body (tE X G e (fun cls d _ H => E cls d H) f1)) :
    PE X (.Call (.Name x p) [.Lambda params body scope lpos] [] pos) (tE X G e W (lamE M f1)) := by
  obtain ⟨a, g, c, P, pg, bg, sg, dV, kV, doc, pm, cdv, ct, oc, an, od, osl, Ng, h1, h2, h3, h4, h5, h6, h7, h8, h9, h10, h11, h12, h13, h14, h15⟩ := R.ex
  have hp' := noPar_eq hp
  subst hp'
  refine pe_imp (pe_lamcallN (T := G.T) (TT := TTm X.K G M) (t := fun E => tE X G e (fun cls d _ H => E cls d H) f1) hg h1 h2 h3 h4 h5 h6 h7 h8 (h15 X _ rfl rfl rfl rfl rfl) h11 h12 h13 h14 hr Ls rfl (fun _ _ _ _ _ => rfl) hbody hdb h9 h10) fun σ H Q ⟨ρ, S, F, α, k, q⟩ => ?_
  refine ⟨k.wd.tabs, fun H1 n t => ⟨fun S' => f1 ρ S', S, F, α, wd_ext k.wd n t, fun E Q' cp => ⟨ρ, S, F, α, k.step (wd_ext k.wd n t) (stp_ext n), cp.ep⟩, ?_⟩⟩
  unfold lamE at q
  revert q
  cases M (fun S' => f1 ρ S') S with
  | ok d S1 => exact fun q v H' F' α' w s r => q v H' F' α' w ((stp_ext n).trans s) r
  | exc x S1 => exact fun q => q.elim
  | stuck => exact fun q => q.elim
end
end TM

set_option Elab.async false
set_option linter.all false
set_option maxRecDepth 20000
set_option autoImplicit false
namespace TM
open PySem PySem.Spec PyProof.Rows L2

/-! ## the text read as a computation -/
inductive BK where
  | len | abs | int | str | tuple | list | bool | sum | all | any | max | min | isin | range | zip | enum
  deriving DecidableEq
def BK.nm : BK → Str
  | .len => "len"
  | .abs => "abs"
  | .int => "int"
  | .str => "str"
  | .tuple => "tuple"
  | .list => "list"
  | .bool => "bool"
  | .sum => "sum"
  | .all => "all"
  | .any => "any"
  | .max => "max"
  | .min => "min"
  | .isin => "isinstance"
  | .range => "range"
  | .zip => "zip"
  | .enum => "enumerate"
def orO (a b : List D → Option D) : List D → Option D := fun ds => (a ds).orElse fun _ => b ds
/-- those that are called with data: what they give -/
def BK.op : BK → Option (List D → Option D)
  | .len => some lenO
  | .abs => some absO
  | .int => some intO
  | .str => some strSO
  | .tuple => some tupO
  | .list => some (orO lstO lstSO)
  | .sum => some sumO
  | .all => some allO
  | .any => some anyO
  | .max => some (orO max2O maxO)
  | .min => some (orO min2O minO)
  | _ => none
def BK.ty : BK → Option Ty5
  | .int => some .int
  | .bool => some .bool
  | .str => some .str
  | .tuple => some .tup
  | .list => some .lst
  | _ => none
inductive GV where
  | fn (i : Nat) | lc (i : Nat) | cls (i : Nat) | cst (d : D) | bk (b : BK)
structure Ct where
  N : List Str
  sc : List (Str × NameKind)
  gl : List (Str × GV)
  Φ : Nat → Option (Nat × Fm)
  own : List Nat
  frz : Nat → List Nat
  fuel : Nat
  lam : Nat → Option Cat
  lok : Bool
inductive Rs where
  | slot (i : Nat) | glo (g : GV) | no
def Ct.rs (c : Ct) (x : Str) : Rs := match c.sc.lookup x with
  | some .local => (match c.N.idxOf? x with | some i => .slot i | none => .no)
  | some .cell => (match c.N.idxOf? x with | some i => .slot i | none => .no)
  | some .free => (match c.N.idxOf? x with | some i => .slot i | none => .no)
  | some .globalImplicit => (match c.gl.lookup x with | some g => .glo g | none => .no)
  | _ => .no
/-- a name that may be stored -/
def Ct.ls (c : Ct) (x : Str) : Option Nat := match c.sc.lookup x with
  | some .local => c.N.idxOf? x
  | some .cell => c.N.idxOf? x
  | _ => none
def GOk (X : Cx) (G : Glo) (c : Ct) (L : Nat) (x : Str) : GV → Prop
  | .fn i => (x == ("__debug__" : Str)) = false ∧ ∃ ad, X.mg x = some (.ref ad) ∧ G.fa i = some ad
  | .bk b => x = b.nm ∧ X.mg x = none
  | .cst d => (x == ("__debug__" : Str)) = false ∧ ∃ v u, X.mg x = some u ∧ RelV v u ∧ ∀ α F, Rp X.K G α F d v
  | .cls i => (x == ("__debug__" : Str)) = false ∧ XcF X G i x
  | .lc i => c.lok = true → (x == ("__debug__" : Str)) = false ∧ ∃ M, c.lam i = some M ∧ LcR X G x M
structure Stat (X : Cx) (G : Glo) (c : Ct) (W : WX) (L : Nat) : Prop where
  N : X.N = c.N
  nd : c.N.Nodup
  dbg : ∀ x ∈ c.N, (x == ("__debug__" : Str)) = false ∧ (x == ("__classdict__" : Str)) = false
  sc : ∀ x k, c.sc.lookup x = some k → ∃ k', X.env.scope.names.lookup x = some k' ∧ (k' = k ∨ (k = .free ∧ k' = .cell))
  fn : ∀ x, c.sc.lookup x = some .cell → X.fn x = true
  kd : X.env.scope.kind = .function
  calm : X.calm = true
  tk : L2N.Takes X W
  po : PassesOwn (model X.prog X.w) X.A X.env X.xe
  rm : Room L X.A
  lr : c.lok = true → Room (L + 2) X.A
  gl : ∀ x g, c.gl.lookup x = some g → GOk X G c L x g
  fv : ∀ j ad n m, G.fa j = some ad → c.Φ j = some (n, m) → FnI X.prog X.w X.K X.mg X.base G L ad n m
/-- what the frame's names are -/
structure St0 (X : Cx) (c : Ct) : Prop where
  N : X.N = c.N
  nd : c.N.Nodup
  dbg : ∀ x ∈ c.N, (x == ("__debug__" : Str)) = false ∧ (x == ("__classdict__" : Str)) = false
  sc : ∀ x k, c.sc.lookup x = some k → ∃ k', X.env.scope.names.lookup x = some k' ∧ (k' = k ∨ (k = .free ∧ k' = .cell))
  fn : ∀ x, c.sc.lookup x = some .cell → X.fn x = true
section
variable {X : Cx} {c : Ct} (st : St0 X c)
include st
theorem St0.rs_slot {x : Str} {i : Nat} (h : c.rs x = .slot i) : X.N[i]? = some x ∧ Vis X.env.scope x ∧ (x == ("__debug__" : Str)) = false ∧ (x == ("__classdict__" : Str)) = false := by
  have go : ∀ k, c.sc.lookup x = some k → (k = .local ∨ k = .cell ∨ k = .free) → c.N.idxOf? x = some i → X.N[i]? = some x ∧ Vis X.env.scope x ∧ (x == ("__debug__" : Str)) = false ∧ (x == ("__classdict__" : Str)) = false := by
    intro k hk hkk hi
    have hm : c.N[i]? = some x := by
      rw [List.idxOf?, List.findIdx?_eq_some_iff_getElem] at hi
      obtain ⟨h1, h2, _⟩ := hi
      rw [List.getElem?_eq_getElem h1, eq_of_beq h2]
    obtain ⟨d1, d2⟩ := st.dbg x (List.mem_of_getElem? hm)
    refine ⟨by rw [st.N]; exact hm, ?_, d1, d2⟩
    obtain ⟨k', hk', r⟩ := st.sc x k hk
    rcases r with rfl | ⟨rfl, rfl⟩
    · rcases hkk with rfl | rfl | rfl
      · exact .inl hk'
      · exact .inr (.inl hk')
      · exact .inr (.inr hk')
    · exact .inr (.inl hk')
  unfold Ct.rs at h
  split at h
  · rename_i hk
    split at h
    · rename_i j hj; cases h; exact go _ hk (.inl rfl) hj
    · cases h
  · rename_i hk
    split at h
    · rename_i j hj; cases h; exact go _ hk (.inr (.inl rfl)) hj
    · cases h
  · rename_i hk
    split at h
    · rename_i j hj; cases h; exact go _ hk (.inr (.inr rfl)) hj
    · cases h
  · split at h <;> cases h
  · cases h
theorem St0.rs_gl {x : Str} {g : GV} (h : c.rs x = .glo g) : Gl X x ∧ c.gl.lookup x = some g := by
  unfold Ct.rs at h
  split at h
  · split at h <;> cases h
  · split at h <;> cases h
  · split at h <;> cases h
  · rename_i hk
    split at h
    · rename_i g' hg
      cases h
      refine ⟨?_, hg⟩
      obtain ⟨k', hk', r⟩ := st.sc x _ hk
      rcases r with rfl | ⟨z, _⟩
      · exact hk'
      · cases z
    · cases h
  · cases h
theorem St0.ls_slot {x : Str} {i : Nat} (h : c.ls x = some i) : X.N[i]? = some x ∧ Loc X.env.scope x ∧ (X.fn x = true ∨ X.env.scope.names.lookup x = some .local) := by
  have go : c.N.idxOf? x = some i → X.N[i]? = some x := by
    intro hi
    rw [List.idxOf?, List.findIdx?_eq_some_iff_getElem] at hi
    obtain ⟨h1, h2, _⟩ := hi
    rw [st.N, List.getElem?_eq_getElem h1, eq_of_beq h2]
  unfold Ct.ls at h
  split at h
  · rename_i hk
    obtain ⟨k', hk', r⟩ := st.sc x _ hk
    rcases r with rfl | ⟨z, _⟩
    · exact ⟨go h, .inl hk', .inr hk'⟩
    · cases z
  · rename_i hk
    obtain ⟨k', hk', r⟩ := st.sc x _ hk
    rcases r with rfl | ⟨z, _⟩
    · exact ⟨go h, .inr hk', .inl (st.fn x hk)⟩
    · cases z
  · cases h
end
section
variable {X : Cx} {G : Glo} {e : Ent} {W : WX} {c : Ct} {L : Nat} (st : Stat X G c W L)
include st
theorem Stat.st0 : St0 X c := ⟨st.N, st.nd, st.dbg, st.sc, st.fn⟩
theorem Stat.hu : X.A.units + 64 < cLine := st.rm.units
theorem Stat.rs_slot {x : Str} {i : Nat} (h : c.rs x = .slot i) : X.N[i]? = some x ∧ Vis X.env.scope x ∧ (x == ("__debug__" : Str)) = false ∧ (x == ("__classdict__" : Str)) = false := st.st0.rs_slot h
theorem Stat.rs_glo {x : Str} {g : GV} (h : c.rs x = .glo g) : Gl X x ∧ GOk X G c L x g := ⟨(st.st0.rs_gl h).1, st.gl _ _ (st.st0.rs_gl h).2⟩
theorem Stat.ls_slot {x : Str} {i : Nat} (h : c.ls x = some i) : X.N[i]? = some x ∧ Loc X.env.scope x ∧ (X.fn x = true ∨ X.env.scope.names.lookup x = some .local) := st.st0.ls_slot h
end
def stuckE : Ex := fun _ _ => .stuck
def stuckEs : Exs := fun _ _ => .stuck
def stuckS : Sx := fun _ _ => .stuck
section
variable {X : Cx} {G : Glo} {e : Ent} {W : WX}
theorem pe_x {ex : Expr} : PE X ex (tE X G e W stuckE) := ⟨fun _ _ _ _ _ _ ⟨_, _, _, _, _, p⟩ => p.elim⟩
theorem pe_xN {ex : Expr} : PE X ex (tN X G e W stuckE) := ⟨fun _ _ _ _ _ _ ⟨_, _, _, _, _, p⟩ => p.elim⟩
theorem pe_xO {ex : Expr} : PE X ex (tO X G e W stuckE) := ⟨fun _ _ _ _ _ _ ⟨_, _, _, _, _, p⟩ => p.elim⟩
theorem pt_x {ex : Expr} : PT X ex (tT X G e W stuckE) := ⟨fun _ _ _ _ _ _ ⟨_, _, _, _, _, p⟩ => p.elim⟩
theorem pw_x {ex : Expr} : PW X ex (tT X G e W stuckE) := ⟨fun _ _ _ _ _ _ _ ⟨_, _, _, _, _, p⟩ => p.elim⟩
theorem pa_x {es : List Expr} : PA X es (tPs X G e W stuckEs) := ⟨fun _ _ _ _ _ _ _ ⟨_, _, _, _, _, p⟩ => p.elim⟩
theorem pa_xO {es : List Expr} : PA X es (tOs X G e W stuckEs) := ⟨fun _ _ _ _ _ _ _ ⟨_, _, _, _, _, p⟩ => p.elim⟩
theorem pi_x {tg ex : Expr} : PI X tg ex (tI X G e W stuckEs) := ⟨fun _ _ _ _ _ _ ⟨_, _, _, _, _, p⟩ => p.elim⟩
theorem ps_x {st : Stmt} : PS X st (tS X G e W stuckS) := ⟨fun _ _ _ _ _ _ ⟨_, _, _, _, _, p⟩ => p.elim⟩
theorem pss_x {st : List Stmt} : PSs X st (tS X G e W stuckS) := ⟨fun _ _ _ _ _ _ ⟨_, _, _, _, _, p⟩ => p.elim⟩
end

/-- the readers of parts -/
structure Evs where
  e : Ct → Expr → Ex
  t : Ct → Expr → Ex
  n : Ct → Expr → Ex
  i : Ct → Expr → Expr → Exs
structure Evs.Ok (r : Evs) : Prop where
  e : ∀ (X : Cx) (G : Glo) (en : Ent) (c : Ct) (W : WX) (L : Nat), Stat X G c W L → ∀ ex, PE X ex (tE X G en W (r.e c ex))
  t : ∀ (X : Cx) (G : Glo) (en : Ent) (c : Ct) (W : WX) (L : Nat), Stat X G c W L → ∀ ex, PT X ex (tT X G en W (r.t c ex))
  n : ∀ (X : Cx) (G : Glo) (en : Ent) (c : Ct) (W : WX) (L : Nat), Stat X G c W L → ∀ ex, PE X ex (tN X G en W (r.n c ex))
  i : ∀ (X : Cx) (G : Glo) (en : Ent) (c : Ct) (W : WX) (L : Nat), Stat X G c W L → ∀ tg ex, PI X tg ex (tI X G en W (r.i c tg ex))
/-- an operand: a slot's own thing too -/
def oE (c : Ct) (r : Expr → Ex) (ex : Expr) : Ex := match ex with
  | .Name x _ => (match c.rs x with
    | .slot i => ownE i
    | _ => r ex)
  | _ => r ex
def esE (r : Expr → Ex) : List Expr → Exs
  | [] => nilEs
  | a :: es => if nst a then consEs (r a) (esE r es) else stuckEs
def binK : Operator → Option (D → D → Option D)
  | .Add => some addO
  | .Sub => some subO
  | .Mult => some mul2O
  | .FloorDiv => some fdivO
  | .Mod => some modO
  | .Pow => some powO
  | _ => none
def ltK : CmpOp → Option (D → D → Option D)
  | .Eq => some eqO
  | .NotEq => some neO
  | .Lt => some ltO
  | .LtE => some leO
  | .Gt => some gtO
  | .GtE => some geO
  | .Is => some fun a b => (isNonO a b).orElse fun _ => isBO false a b
  | .IsNot => some fun a b => (notNonO a b).orElse fun _ => isBO true a b
  | .In => some (inO false)
  | .NotIn => some (inO true)
def cstK : Const → Ex
  | .none => cstE .non
  | .bool b => cstE (.bl b)
  | .int i => cstE (.int i)
  | .str s => if s.cps.size ≤ big ∧ s.cps.toList.all (fun c => decide (c < 1114112)) = true then cstE (.str s.cps.toList) else stuckE
  | _ => stuckE
def nameE (c : Ct) (x : Str) : Ex := match c.rs x with
  | .slot i => varE i
  | .glo (.fn i) => cstE (.fn i)
  | .glo (.cst d) => cstE d
  | _ => stuckE
section
variable {X : Cx} {G : Glo} {en : Ent} {W : WX} {c : Ct} {L : Nat} {r : Expr → Ex} {ex a b : Expr} {es : List Expr} {pos p : Pos}
theorem oE_ok (st : Stat X G c W L) (hr : ∀ ex, PE X ex (tE X G en W (r ex))) (ex : Expr) : PE X ex (tO X G en W (oE c r ex)) := by
  unfold oE
  split
  · split
    · rename_i i h
      obtain ⟨h1, h2, h3, h4⟩ := st.rs_slot h
      exact pe_ov h1 h2 h3 h4
    · exact pe_o (hr _)
  · exact pe_o (hr _)
theorem esE_ok (hr : ∀ ex, PE X ex (tE X G en W (r ex))) : ∀ es : List Expr, PA X es (tPs X G en W (esE r es))
  | [] => pa_n
  | a :: es => by
    unfold esE
    split
    · rename_i h
      exact pa_c (hr a) (esE_ok hr es) (star_nst h)
    · exact pa_x
theorem osE_ok (hr : ∀ ex, PE X ex (tO X G en W (r ex))) : ∀ es : List Expr, PA X es (tOs X G en W (esE r es))
  | [] => pa_nO
  | a :: es => by
    unfold esE
    split
    · rename_i h
      exact pa_cO (hr a) (osE_ok hr es) (star_nst h)
    · exact pa_xO
theorem binK_ok {op : Operator} {o : D → D → Option D} (h : binK op = some o) : OpR X (binaryOp op) (rD X G o) := by
  cases op <;> first | (cases h; done) | skip
  · cases h; exact op_addO
  · cases h; exact op_subO
  · cases h; exact op_mul2O
  · cases h; exact op_modO
  · cases h; exact op_powO
  · cases h; exact op_fdivO
theorem ltK_ok (hu : X.A.units + 64 < cLine) {op : CmpOp} {o : D → D → Option D} (h : ltK op = some o) : OpR X (compareOp op) (rD X G o) := by
  cases op <;> first | (cases h; done) | skip
  · cases h; exact op_eqO hu
  · cases h; exact op_neO hu
  · cases h; exact op_ltO hu
  · cases h; exact op_leO hu
  · cases h; exact op_gtO hu
  · cases h; exact op_geO hu
  · cases h; exact opCases op_isNonO op_isBO
  · cases h; exact opCases op_notNonO op_isnBO
  · cases h; exact op_inO hu
  · cases h; exact op_notInO hu
theorem cstK_ok {k : Const} {j : Nat} : PE X (.Constant k j pos) (tE X G en W (cstK k)) := by
  unfold cstK
  split
  · exact pe_c pe_non fun _ _ => .non
  · exact pe_c pe_bl fun _ _ => .bl _
  · exact pe_c pe_int fun _ _ => .int _
  · rename_i s
    split
    · rename_i h
      refine pe_c (v := .str s) pe_str fun α F => ?_
      have g : SGood s.cps.toList := ⟨by rw [Array.length_toList]; exact le_line h.1, fun c hc => by
        have := List.all_eq_true.mp h.2 c hc
        exact of_decide_eq_true this⟩
      have := Rp.str (K := X.K) (G := G) (α := α) (F := F) g
      rwa [Array.toArray_toList] at this
    · exact pe_x
  · exact pe_x
theorem nameE_ok (st : Stat X G c W L) {x : Str} : PE X (.Name x pos) (tE X G en W (nameE c x)) := by
  unfold nameE
  split
  · rename_i i h
    obtain ⟨h1, h2, h3, h4⟩ := st.rs_slot h
    exact pe_v h1 h2 h3 h4
  · rename_i i h
    obtain ⟨hg, hd, ad, hm, hf⟩ := st.rs_glo h
    exact pe_c (pe_glob (v := .ref ad) hg hm rfl hd) fun _ _ => .fn hf
  · rename_i d h
    obtain ⟨hg, hd, v, u, hm, hr, hq⟩ := st.rs_glo h
    exact pe_c (pe_glob (v := v) hg hm hr hd) hq
  · exact pe_x
end
/-! built-ins called with data -/
section
variable {X : Cx} {G : Glo} {en : Ent} {W : WX} {c : Ct} {L : Nat} {r : Expr → Ex} {ex a b : Expr} {es : List Expr} {pos p : Pos}
theorem bk_call (st : Stat X G c W L) {b : BK} {o : List D → Option D} (h : b.op = some o) (hm : X.mg b.nm = none) (hg : Gl X b.nm) {fs : Exs} (ha : PA X (a :: es) (tOs X G en W fs)) (hs : (a :: es).all nst = true) :
    PE X (.Call (.Name b.nm p) (a :: es) [] pos) (tE X G en W (callE o fs)) := by
  rw [List.all_cons, Bool.and_eq_true] at hs
  have he := star_nst (env := X.env) (es := es) hs.1
  have hp := hpl_of (pos := pos) (env := X.env) hs.2
  cases b <;> first | (cases h; done) | skip
  · cases h; exact pe_cB call_lenO hg hm PySem.boot_len ha (by decide) (by decide) he hp
  · cases h; exact pe_cB call_absO hg hm boot_abs ha (by decide) (by decide) he hp
  · cases h; exact pe_cTy call_intO hg hm boot_int ha (by decide) (by decide) he hp
  · cases h; exact pe_cTy call_strSO hg hm boot_str ha (by decide) (by decide) he hp
  · cases h; exact pe_cTy call_tupO hg hm boot_tuple ha (by decide) (by decide) he hp
  · cases h; exact pe_cTy (callCases call_lstO (call_lstSO st.calm)) hg hm boot_list ha (by decide) (by decide) he hp
  · cases h; exact pe_cB (call_sumO st.calm) hg hm (by decide +kernel) ha (by decide) (by decide) he hp
  · cases h; exact pe_cB (call_allO st.calm) hg hm (by decide +kernel) ha (by decide) (by decide) he hp
  · cases h; exact pe_cB (call_anyO st.calm) hg hm (by decide +kernel) ha (by decide) (by decide) he hp
  · cases h; exact pe_cB (callCases (call_max2O st.calm) (call_maxO st.calm st.hu)) hg hm boot_max ha (by decide) (by decide) he hp
  · cases h; exact pe_cB (callCases (call_min2O st.calm) (call_minO st.calm st.hu)) hg hm boot_min ha (by decide) (by decide) he hp
theorem bk_isa (st : Stat X G c W L) {bt : BK} {T : Ty5} (hT : bt.ty = some T) {f : Ex} (ha : PE X a (tO X G en W f)) (hn : nst a = true) (hg : Gl X BK.isin.nm) (hm : X.mg BK.isin.nm = none) (hg' : Gl X bt.nm) (hm' : X.mg bt.nm = none) {p2 : Pos} :
    PE X (.Call (.Name BK.isin.nm p) [a, .Name bt.nm p2] [] pos) (tE X G en W (unE (isaO T) f)) := by
  have tyv : PE X (.Name bt.nm p2) (tC (.ty T.nm)) := by
    cases bt <;> first | (cases hT; done) | skip
    · cases hT; exact pe_bltn (v := .ty "int") (u := .type "int") hg' hm' boot_int rfl
    · cases hT; exact pe_bltn (v := .ty "str") (u := .type "str") hg' hm' boot_str rfl
    · cases hT; exact pe_bltn (v := .ty "tuple") (u := .type "tuple") hg' hm' boot_tuple rfl
    · cases hT; exact pe_bltn (v := .ty "list") (u := .type "list") hg' hm' boot_list rfl
    · cases hT; exact pe_bltn (v := .ty "bool") (u := .type "bool") hg' hm' boot_bool rfl
  refine pe_imp (pe_callB (call_isaO (G := G) T) hg hm boot_isinstance (pa_cons ha (pa_cons tyv pa_nil rfl) (star_nst hn)) (by decide) (by decide) (star_nst hn) (hpl_of rfl)) fun σ H Q ⟨ρ, S, F, α, k, q⟩ => ?_
  refine ⟨ρ, S, F, α, k, EPost.of_bind q fun d S1 v H1 F1 α1 _ w1 s1 r1 q1 => ?_⟩
  obtain ⟨d3, e3, k3⟩ := lift_post q1
  exact ⟨v, rfl, F1, α1, S1, d, d3, w1, r1, e3, k3⟩
end
end TM

set_option Elab.async false
set_option linter.all false
set_option maxRecDepth 20000
set_option autoImplicit false
namespace TM
open PySem PySem.Spec PyProof.Rows L2

/-! ## list(range(..)), tuple(range(..)) -/
def rg1E (mk : List D → D) (f : Ex) : Ex := fun ρ S => (f ρ S).bind fun d S1 => match d with
  | .int n => if sm62 n && decide (n ≤ 16777216) then .ok (mk (rangeD 0 n.toNat)) S1 else .stuck
  | _ => .stuck
def rg2E (mk : List D → D) (f g : Ex) : Ex := fun ρ S => (f ρ S).bind fun a S1 => (g ρ S1).bind fun b S2 => match a, b with
  | .int m, .int n => if sm62 m && sm62 n && decide (n - m ≤ 16777216) then .ok (mk (rangeD m (n - m).toNat)) S2 else .stuck
  | _, _ => .stuck
section
variable {X : Cx} {G : Glo} {en : Ent} {W : WX} {c : Ct} {L : Nat} {r : Expr → Ex} {f g : Ex} {ex a b : Expr} {es : List Expr} {pos p p2 pos2 : Pos}
theorem rg_len (m n : Int) : (rgV m n).length = (n - m).toNat := rgV_length m n
theorem rg_rps {K : PySem.W.Frag} {α : List Addr} {F : Hp} (m : Int) (k : Nat) : Rps K G α F (rangeD m k) ((List.range k).map fun i => V.int (m + (i : Nat))) := by
  unfold rangeD
  generalize List.range k = l
  induction l with
  | nil => exact .nil
  | cons x xs ih => exact .cons (.int _) ih
theorem pe_lrg1 {b : BK} (hb : b = .list ∨ b = .tuple) (hc : X.calm = true) (hg : Gl X b.nm) (hm : X.mg b.nm = none) (hg2 : Gl X "range") (hm2 : X.mg "range" = none) (ha : PE X a (tO X G en W f)) (hn : nst a = true) :
    PE X (.Call (.Name b.nm p) [.Call (.Name "range" p2) [a] [] pos2] [] pos) (tE X G en W (rg1E (if b = .list then D.lst else D.tup) f)) := by
  rcases hb with rfl | rfl
  · refine pe_imp (pe_listRg hc hg hm (prg_1 hg2 hm2 ha (star_nst hn)) rfl) fun σ H Q ⟨ρ, S, F, α, k, q⟩ => ⟨ρ, S, F, α, k, EPost.of_bind q fun d S1 v H1 F1 α1 _ w1 s1 r1 q1 => ?_⟩
    cases d with
    | int n =>
      have q1 : EPost X.K G W (rP X.K G) σ H1 F1 α1 (if (sm62 n && decide (n ≤ 16777216)) = true then .ok (.lst (rangeD 0 n.toNat)) S1 else .stuck) Q := q1
      split at q1
      · rename_i h
        rw [Bool.and_eq_true, decide_eq_true_iff] at h
        obtain ⟨b1, b2⟩ := sm62_ok h.1
        have en : (n - 0).toNat = n.toNat := by rw [Int.sub_zero]
        refine ⟨n, r1.intH, ⟨by omega, by omega, b1, b2, by rw [en]; omega⟩, fun q hq => ?_⟩
        have rr := rg_rps (K := X.K) (G := G) (α := α1) (F := F1) 0 n.toNat
        have := Kon.lst (k := q1) w1 rr (by rw [List.length_map, List.length_range, big_eq]; show n.toNat ≤ 16777216; omega) hq
        unfold rgV
        rw [en]
        exact this
      · exact q1.elim
    | _ => exact q1.elim
  · refine pe_imp (pe_tupRg hc hg hm (prg_1 hg2 hm2 ha (star_nst hn)) rfl) fun σ H Q ⟨ρ, S, F, α, k, q⟩ => ⟨ρ, S, F, α, k, EPost.of_bind q fun d S1 v H1 F1 α1 _ w1 s1 r1 q1 => ?_⟩
    cases d with
    | int n =>
      have q1 : EPost X.K G W (rP X.K G) σ H1 F1 α1 (if (sm62 n && decide (n ≤ 16777216)) = true then .ok (.tup (rangeD 0 n.toNat)) S1 else .stuck) Q := q1
      split at q1
      · rename_i h
        rw [Bool.and_eq_true, decide_eq_true_iff] at h
        obtain ⟨b1, b2⟩ := sm62_ok h.1
        have en : (n - 0).toNat = n.toNat := by rw [Int.sub_zero]
        refine ⟨n, r1.intH, ⟨by omega, by omega, b1, b2, by rw [en]; omega⟩, fun q hq => ?_⟩
        have rr := rg_rps (K := X.K) (G := G) (α := α1) (F := F1) 0 n.toNat
        have := Kon.tup (k := q1) w1 rr (by rw [List.length_map, List.length_range, big_eq]; show n.toNat ≤ 16777216; omega) hq
        unfold rgV
        rw [en]
        exact this
      · exact q1.elim
    | _ => exact q1.elim
theorem pe_lrg2 {b : BK} {a2 : Expr} (hb : b = .list ∨ b = .tuple) (hc : X.calm = true) (hg : Gl X b.nm) (hm : X.mg b.nm = none) (hg2 : Gl X "range") (hm2 : X.mg "range" = none) (ha : PE X a (tO X G en W f)) (hn : nst a = true) (ha2 : PE X a2 (tO X G en W g)) (hn2 : nst a2 = true) :
    PE X (.Call (.Name b.nm p) [.Call (.Name "range" p2) [a, a2] [] pos2] [] pos) (tE X G en W (rg2E (if b = .list then D.lst else D.tup) f g)) := by
  have hpl : (backTo pos2 (starEach [a2] X.env)).any (·.1) = false := hpl_of (by rw [List.all_cons, hn2]; rfl)
  rcases hb with rfl | rfl
  · refine pe_imp (pe_listRg hc hg hm (prg_2 hg2 hm2 ha ha2 (star_nst hn) (star_nst hn2) hpl) rfl) fun σ H Q ⟨ρ, S, F, α, k, q⟩ => ⟨ρ, S, F, α, k, EPost.of_bind q fun d S1 v H1 F1 α1 _ w1 s1 r1 q1 => ?_⟩
    refine ⟨ρ, S1, F1, α1, k.step w1 s1, EPost.of_bind q1 fun d2 S2 v2 H2 F2 α2 _ w2 s2 r2 q2 => ?_⟩
    cases d with
    | int m =>
      cases d2 with
      | int n =>
        have q2 : EPost X.K G W (rP X.K G) σ H2 F2 α2 (if (sm62 m && sm62 n && decide (n - m ≤ 16777216)) = true then .ok (.lst (rangeD m (n - m).toNat)) S2 else .stuck) Q := q2
        split at q2
        · rename_i h
          rw [Bool.and_eq_true, Bool.and_eq_true, decide_eq_true_iff] at h
          obtain ⟨b1, b2⟩ := sm62_ok h.1.1
          obtain ⟨b3, b4⟩ := sm62_ok h.1.2
          refine ⟨m, n, r1.intH, r2.intH, ⟨b1, b2, b3, b4, by omega⟩, fun q hq => ?_⟩
          exact Kon.lst (k := q2) w2 (rg_rps m (n - m).toNat) (by rw [List.length_map, List.length_range, big_eq]; show (n - m).toNat ≤ 16777216; omega) hq
        · exact q2.elim
      | _ => exact q2.elim
    | _ => exact q2.elim
  · refine pe_imp (pe_tupRg hc hg hm (prg_2 hg2 hm2 ha ha2 (star_nst hn) (star_nst hn2) hpl) rfl) fun σ H Q ⟨ρ, S, F, α, k, q⟩ => ⟨ρ, S, F, α, k, EPost.of_bind q fun d S1 v H1 F1 α1 _ w1 s1 r1 q1 => ?_⟩
    refine ⟨ρ, S1, F1, α1, k.step w1 s1, EPost.of_bind q1 fun d2 S2 v2 H2 F2 α2 _ w2 s2 r2 q2 => ?_⟩
    cases d with
    | int m =>
      cases d2 with
      | int n =>
        have q2 : EPost X.K G W (rP X.K G) σ H2 F2 α2 (if (sm62 m && sm62 n && decide (n - m ≤ 16777216)) = true then .ok (.tup (rangeD m (n - m).toNat)) S2 else .stuck) Q := q2
        split at q2
        · rename_i h
          rw [Bool.and_eq_true, Bool.and_eq_true, decide_eq_true_iff] at h
          obtain ⟨b1, b2⟩ := sm62_ok h.1.1
          obtain ⟨b3, b4⟩ := sm62_ok h.1.2
          refine ⟨m, n, r1.intH, r2.intH, ⟨b1, b2, b3, b4, by omega⟩, fun q hq => ?_⟩
          exact Kon.tup (k := q2) w2 (rg_rps m (n - m).toNat) (by rw [List.length_map, List.length_range, big_eq]; show (n - m).toNat ≤ 16777216; omega) hq
        · exact q2.elim
      | _ => exact q2.elim
    | _ => exact q2.elim
/-! as own lists -/
theorem pe_lrg1N (hc : X.calm = true) (hg : Gl X "list") (hm : X.mg "list" = none) (hg2 : Gl X "range") (hm2 : X.mg "range" = none) (ha : PE X a (tO X G en W f)) (hn : nst a = true) :
    PE X (.Call (.Name "list" p) [.Call (.Name "range" p2) [a] [] pos2] [] pos) (tN X G en W (rg1E D.lst f)) := by
  refine pe_imp (pe_listRg hc hg hm (prg_1 hg2 hm2 ha (star_nst hn)) rfl) fun σ H Q ⟨ρ, S, F, α, k, q⟩ => ⟨ρ, S, F, α, k, EPost.of_bind q fun d S1 v H1 F1 α1 _ w1 s1 r1 q1 => ?_⟩
  cases d with
  | int n =>
    have q1 : EPost X.K G W (rN X.K G en H) σ H1 F1 α1 (if (sm62 n && decide (n ≤ 16777216)) = true then .ok (.lst (rangeD 0 n.toNat)) S1 else .stuck) Q := q1
    split at q1
    · rename_i h
      rw [Bool.and_eq_true, decide_eq_true_iff] at h
      obtain ⟨b1, b2⟩ := sm62_ok h.1
      have en : (n - 0).toNat = n.toNat := by rw [Int.sub_zero]
      refine ⟨n, r1.intH, ⟨by omega, by omega, b1, b2, by rw [en]; omega⟩, fun q hq => ?_⟩
      have rr := rg_rps (K := X.K) (G := G) (α := α1) (F := F1) 0 n.toNat
      obtain ⟨w2, s2, r2⟩ := rN_new (H0 := H) (k.step w1 s1) s1.dom rr (by rw [List.length_map, List.length_range, big_eq]; show n.toNat ≤ 16777216; omega) hq
      unfold rgV
      rw [en]
      exact q1 _ _ _ _ w2 s2 r2
    · exact q1.elim
  | _ => exact q1.elim
/-! ## targets -/
def tgE (c : Ct) : Nat → Expr → Option (Tg × List Nat)
  | 0, _ => none
  | n + 1, ex => match ex with
    | .Name x _ => (c.ls x).map fun i => (nameG i, [i])
    | .Tuple es _ _ => if es.all nst then (go c n es).map fun p => (tupG es.length p.1, p.2) else none
    | _ => none
where go (c : Ct) (n : Nat) : List Expr → Option (Tgs × List Nat)
  | [] => some (nilGs, [])
  | a :: es => (tgE c n a).bind fun p => (go c n es).map fun q => (consGs p.1 q.1, p.2 ++ q.2)
theorem tgE_ok (st : Stat X G c W L) (hc : X.calm = true) : ∀ (n : Nat) (ex : Expr) (g : Tg) (idx : List Nat), tgE c n ex = some (g, idx) → PG X ex (tG X G en g idx) := by
  intro n
  induction n with
  | zero =>
    intro ex g idx h
    unfold tgE at h
    cases h
  | succ n ih =>
    have go : ∀ (es : List Expr) (gs : Tgs) (idx : List Nat), es.all nst = true → tgE.go c n es = some (gs, idx) → PGs X es (tGs X G en gs idx) := by
      intro es
      induction es with
      | nil => exact fun gs idx _ h => by cases h; exact pgs_n
      | cons a es ihe =>
        intro gs idx hn h
        rw [List.all_cons, Bool.and_eq_true] at hn
        unfold tgE.go at h
        cases h1 : tgE c n a with
        | none => rw [h1] at h; cases h
        | some p1 =>
          rw [h1] at h
          cases h2 : tgE.go c n es with
          | none => rw [h2] at h; cases h
          | some q1 =>
            rw [h2] at h
            cases h
            exact pgs_c (ih a p1.1 p1.2 h1) (ihe q1.1 q1.2 hn.2 h2) (assign_nst hn.1)
    intro ex g idx h
    unfold tgE at h
    split at h
    · rename_i x p
      cases h1 : c.ls x with
      | none => rw [h1] at h; cases h
      | some i =>
        rw [h1] at h
        cases h
        obtain ⟨a1, a2, a3⟩ := st.ls_slot h1
        exact pg_n (by rw [st.N]; exact st.nd) a1 a2 a3
    · rename_i es k p
      split at h
      · rename_i hn
        cases h1 : tgE.go c n es with
        | none => rw [h1] at h; cases h
        | some q1 =>
          rw [h1] at h
          cases h
          exact pg_t hc (go es q1.1 q1.2 hn h1) assign_len (assign_idx hn)
      · cases h
    · cases h
/-! ## a comprehension's block -/
def Ct.sub (c : Ct) (scope : Scope) : Ct := { c with sc := scope.names }
def ownOf (c : Ct) (scope : Scope) : List (Str × Nat) := scope.names.filterMap fun y => match y.2 with
  | .local => (c.N.idxOf? y.1).map fun i => (y.1, i)
  | .cell => (c.N.idxOf? y.1).map fun i => (y.1, i)
  | _ => none
def blkB (c : Ct) (scope : Scope) : Bool :=
  (match scope.kind with | .function => true | _ => false) && scope.names.all fun y => decide (scope.names.lookup y.1 = some y.2) && (match y.2 with
    | .free => (match c.sc.lookup y.1 with | some .cell => true | some .free => true | _ => false)
    | _ => true)
theorem idx_get {N : List Str} {x : Str} {i : Nat} (h : N.idxOf? x = some i) : N[i]? = some x := by
  rw [List.idxOf?, List.findIdx?_eq_some_iff_getElem] at h
  obtain ⟨h1, h2, _⟩ := h
  rw [List.getElem?_eq_getElem h1, eq_of_beq h2]
theorem idx_none {N : List Str} {x : Str} (h : N.idxOf? x = none) : x ∉ N := by
  rw [List.idxOf?, List.findIdx?_eq_none_iff] at h
  intro hm
  have := h x hm
  rw [beq_self_eq_true] at this
  cases this
theorem own_in {c : Ct} {scope : Scope} {y : Str × NameKind} (hy : y ∈ scope.names) (h : y.2 = .local ∨ y.2 = .cell) : y.1 ∈ (ownOf c scope).map (·.1) ∨ y.1 ∉ c.N := by
  cases q : c.N.idxOf? y.1 with
  | none => exact .inr (idx_none q)
  | some i =>
    refine .inl (List.mem_map.mpr ⟨(y.1, i), List.mem_filterMap.mpr ⟨y, hy, ?_⟩, rfl⟩)
    rcases h with h | h <;> (rw [h]; show (c.N.idxOf? y.1).map _ = _; rw [q]; rfl)
theorem blk_ok0 (st : St0 X c) {scope : Scope} (h : blkB c scope = true) : BlkOk X.N X.env.scope scope (ownOf c scope) := by
  unfold blkB at h
  rw [Bool.and_eq_true] at h
  obtain ⟨hk, ha⟩ := h
  rw [List.all_eq_true] at ha
  refine ⟨?_, fun y hy => ?_, fun q hq => ?_, fun y hy e => ?_, fun y hy e => ?_⟩
  · split at hk
    · assumption
    · cases hk
  · have := ha y hy
    rw [Bool.and_eq_true, decide_eq_true_iff] at this
    exact this.1
  · obtain ⟨y, hy, hm⟩ := List.mem_filterMap.mp hq
    rw [st.N]
    split at hm
    · cases z : c.N.idxOf? y.1 with
      | none => rw [z] at hm; cases hm
      | some i => rw [z] at hm; cases hm; exact idx_get z
    · cases z : c.N.idxOf? y.1 with
      | none => rw [z] at hm; cases hm
      | some i => rw [z] at hm; cases hm; exact idx_get z
    · cases hm
  · have := ha y hy
    rw [Bool.and_eq_true, e] at this
    have h2 : (match c.sc.lookup y.1 with | some .cell => true | some .free => true | _ => false) = true := this.2
    cases hl : c.sc.lookup y.1 with
    | none => rw [hl] at h2; cases h2
    | some k0 =>
      rw [hl] at h2
      obtain ⟨k', hk', r⟩ := st.sc _ _ hl
      cases k0 <;> first | (cases h2; done) | skip
      · rcases r with rfl | ⟨z, _⟩
        · exact .inl hk'
        · cases z
      · rcases r with rfl | ⟨_, rfl⟩
        · exact .inr hk'
        · exact .inl hk'
  · rw [st.N]
    exact own_in hy e
theorem blk_ok (st : Stat X G c W L) {scope : Scope} (h : blkB c scope = true) : BlkOk X.N X.env.scope scope (ownOf c scope) := blk_ok0 st.st0 h
theorem lookup_rel {env : Env} {x : Str} {k : NameKind} : ∀ {names : List (Str × NameKind)}, names.lookup x = some k →
    ∃ k', (names.map fun (n, k) => if (k == NameKind.free && env.scope.kind == .function && env.kindOf n == some .cell) then (n, NameKind.cell) else (n, k)).lookup x = some k' ∧ (k' = k ∨ (k = .free ∧ k' = .cell))
  | [], h => by cases h
  | (n, k0) :: rest, h => by
    rw [List.map_cons]
    by_cases e : x = n
    · subst e
      rw [List.lookup_cons_self] at h
      cases h
      by_cases q : (k == NameKind.free && env.scope.kind == .function && env.kindOf x == some .cell) = true
      · simp only [q, if_true]
        rw [List.lookup_cons_self]
        refine ⟨_, rfl, .inr ⟨?_, rfl⟩⟩
        rw [Bool.and_eq_true, Bool.and_eq_true] at q
        exact eq_of_beq q.1.1
      · simp only [q, if_false]
        refine ⟨k, ?_, .inl rfl⟩
        have : (x == x) = true := beq_self_eq_true x
        show ((x, k) :: _).lookup x = some k
        rw [List.lookup_cons_self]
    · have hb : (x == n) = false := beq_eq_false_iff_ne.mpr e
      rw [List.lookup_cons, hb] at h
      obtain ⟨k', h1, h2⟩ := lookup_rel (env := env) (names := rest) h
      refine ⟨k', ?_, h2⟩
      by_cases q : (k0 == NameKind.free && env.scope.kind == .function && env.kindOf n == some .cell) = true
      · simp only [q, if_true]
        rw [List.lookup_cons, hb]
        exact h1
      · simp only [q, if_false]
        show ((n, k0) :: _).lookup x = some k'
        rw [List.lookup_cons, hb]
        exact h1
theorem sub_ok (st : Stat X G c W L) {scope : Scope} (h : blkB c scope = true) (s : Shared) (H : Hp) (C : Addr) (cl : List (Str × Addr)) (fp : List Addr) : Stat (X.blk s H scope (compEnvC scope cl C X.env) fp) G (c.sub scope) W0 L := by
  unfold blkB at h
  rw [Bool.and_eq_true] at h
  refine ⟨st.N, st.nd, st.dbg, fun x k hk => lookup_rel (env := X.env) hk, fun x hx => ?_, ?_, st.calm, takesN0, PassesOwn.never, st.rm, st.lr, fun x g hg => ?_, fun j ad n m h1 h2 => st.fv j ad n m h1 h2⟩
  · show (scope.names.lookup x == some .cell) = true
    have hx : scope.names.lookup x = some .cell := hx
    rw [hx]
    rfl
  · have := h.1
    split at this
    · rename_i hk; exact hk
    · cases this
  · have q := st.gl x g hg
    cases g with
    | fn i => exact q
    | lc i =>
      intro hl
      obtain ⟨q0, M, q1, ⟨q2⟩⟩ := q hl
      exact ⟨q0, M, q1, ⟨q2⟩⟩
    | cls i =>
      obtain ⟨q1, ⟨Cx, B, newId, initId, bmB, F, a1, a2, a3, a4, a5⟩⟩ := q
      exact ⟨q1, ⟨Cx, B, newId, initId, bmB, F, a1, a2, a3, a4, a5⟩⟩
    | cst d => exact q
    | bk b => exact q
def condE (c : Ct) (r : Ct → Expr → Ex) : List Expr → Ex
  | [] => cstE (.bl true)
  | [t] => r c t
  | _ => stuckE
theorem pts_x {es : List Expr} : PTs X es (tT X G en W stuckE) := ⟨fun _ _ _ _ _ _ ⟨_, _, _, _, _, p⟩ => p.elim⟩
theorem condE_ok {rt : Ct → Expr → Ex} (hr : ∀ ex, PT X ex (tT X G en W (rt c ex))) : ∀ es : List Expr, PTs X es (tT X G en W (condE c rt es))
  | [] => ⟨fun pins s σ H Q I ⟨ρ, S, F, α, k, q⟩ => by
    refine pts_nil.run pins s σ H Q I ?_
    obtain ⟨b, eb, qb⟩ := q (.bl true) H F α k.wd (.refl _ _ _) (.inl (.bl true))
    cases eb
    exact qb⟩
  | [t] => pts_one (hr t)
  | _ :: _ :: _ => pts_x
end
/-- what a comprehension computes -/
def compE (c : Ct) (r : Evs) (elt tg iter : Expr) (ifs : List Expr) (scope : Scope) : Option Ex := match tgE (c.sub scope) 4 tg with
  | some (g, idx) => if blkB c scope && idx.all (fun i => (ownOf c scope).any fun q => q.2 == i) && noset iter then
      some (lcE (r.i c tg iter) g (condE (c.sub scope) r.t ifs) (r.e (c.sub scope) elt) ((ownOf c scope).map (·.2))) else none
  | none => none
section
variable {X : Cx} {G : Glo} {en : Ent} {W : WX} {c : Ct} {L : Nat} {r : Evs} {elt tg iter : Expr} {ifs : List Expr} {scope : Scope} {f : Ex} {pos : Pos}
/-- its parts -/
theorem compE_inv (h : compE c r elt tg iter ifs scope = some f) : ∃ g idx, tgE (c.sub scope) 4 tg = some (g, idx) ∧ blkB c scope = true ∧ (∀ i ∈ idx, i ∈ (ownOf c scope).map (·.2)) ∧ noset iter = true ∧
    f = lcE (r.i c tg iter) g (condE (c.sub scope) r.t ifs) (r.e (c.sub scope) elt) ((ownOf c scope).map (·.2)) := by
  unfold compE at h
  split at h
  · rename_i g idx hg
    split at h
    · rename_i hb
      cases h
      rw [Bool.and_eq_true, Bool.and_eq_true] at hb
      refine ⟨g, idx, hg, hb.1.1, fun i hi => ?_, hb.2, rfl⟩
      obtain ⟨q, hq, e⟩ := List.any_eq_true.mp (List.all_eq_true.mp hb.1.2 i hi)
      exact List.mem_map.mpr ⟨q, hq, eq_of_beq e⟩
    · cases h
  · cases h
theorem compE_ok (st : Stat X G c W L) (hr : r.Ok) (h : compE c r elt tg iter ifs scope = some f) : PE X (.ListComp elt [⟨tg, iter, ifs, 0⟩] scope pos) (tE X G en W f) := by
  obtain ⟨g, idx, hg, hb, hw, hs, rfl⟩ := compE_inv h
  refine pe_lcE st.calm (by rw [st.N]; exact st.nd) (hr.i X G en c W L st tg iter) (blk_ok st hb) hw (fun s H C cl fp => ?_) (fun s H C cl fp => ?_) (fun s H C cl fp => ?_) (fold_of hs)
  · exact tgE_ok (sub_ok st hb s H C cl fp) st.calm 4 tg g idx hg
  · exact condE_ok (hr.t _ G en _ W0 L (sub_ok st hb s H C cl fp)) ifs
  · exact hr.e _ G en _ W0 L (sub_ok st hb s H C cl fp) elt
end
end TM

set_option Elab.async false
set_option linter.all false
set_option maxRecDepth 20000
set_option autoImplicit false
namespace TM
open PySem PySem.Spec PyProof.Rows L2

/-! ## xs + ys, xs * n as own lists; xs.index(n) -/
def catN (a b : D) : Option D := match a, b with
  | .lst xs, .lst ys => if xs.length + ys.length ≤ big then some (.lst (xs ++ ys)) else none
  | _, _ => none
def repNO (a b : D) : Option D := match a, b with
  | .lst xs, .int j => if decide (j ≤ 1000000) && decide (-1000000 ≤ j) && decide (xs.length * j.toNat ≤ big) then some (.lst (repN j.toNat xs)) else none
  | _, _ => none
def idxF (i : Int) : Nat → List Int → Option Nat
  | _, [] => none
  | n, x :: xs => if x = i then some n else idxF i (n + 1) xs
def idxO (a b : D) : Option D := match a, b with
  | .lst xs, .int i => (toInts xs).bind fun ns => (idxF i 0 ns).map fun n => .int (n : Nat)
  | _, _ => none
def mthL (o : D → D → Option D) (f g : Ex) : Ex := fun ρ S => (f ρ S).bind fun a S1 => match a with
  | .lst s => (g ρ S1).bind fun b S2 => lift (o (.lst s) b) S2
  | _ => .stuck
section
variable {X : Cx} {G : Glo} {e : Ent} {W : WX} {f g : Ex} {a b : Expr} {pos : Pos}
theorem pe_catN (ha : PE X a (tO X G e W f)) (hb : PE X b (tO X G e W g)) : PE X (.BinOp a .Add b pos) (tN X G e W (binE catN f g)) :=
  pe_imp (pe_op op_cat ha hb) fun σ H Q q => by
    obtain ⟨ρ, S, F, α, k, p⟩ := q
    refine ⟨ρ, S, F, α, k, EPost.of_bind p fun d1 S1 v H1 F1 α1 _ w1 s1 r1 p1 => ?_⟩
    refine ⟨ρ, S1, F1, α1, k.step w1 s1, EPost.of_bind p1 fun d2 S2 u H2 F2 α2 _ w2 s2 r2 p2 => ?_⟩
    generalize ed : catN d1 d2 = od at p2
    cases od with
    | none => exact p2.elim
    | some d3 =>
      unfold catN at ed
      split at ed
      · split at ed
        · rename_i hz
          cases ed
          obtain ⟨a1, vs, rfl, t1, z1, q1⟩ := (r1.step s2).lstH w2
          obtain ⟨a2, us, rfl, t2, z2, q2⟩ := r2.lstH w2
          have hl : vs.length + us.length ≤ sizeLine := by rw [← q1.length, ← q2.length]; exact le_line hz
          refine ⟨_, _, _, _, rfl, rfl, t1, t2, hl, fun l hl' => ?_⟩
          obtain ⟨w3, s3, r3⟩ := rN_new (H0 := H) ((k.step w1 s1).step w2 s2) (fun a t => s2.dom a (s1.dom a t)) (q1.append q2) (by rw [List.length_append]; exact hl) hl'
          exact p2 _ _ _ _ w3 s3 r3
        · cases ed
      · cases ed
theorem pe_repN (ha : PE X a (tO X G e W f)) (hb : PE X b (tO X G e W g)) : PE X (.BinOp a .Mult b pos) (tN X G e W (binE repNO f g)) :=
  pe_imp (pe_op op_rep ha hb) fun σ H Q q => by
    obtain ⟨ρ, S, F, α, k, p⟩ := q
    refine ⟨ρ, S, F, α, k, EPost.of_bind p fun d1 S1 v H1 F1 α1 _ w1 s1 r1 p1 => ?_⟩
    refine ⟨ρ, S1, F1, α1, k.step w1 s1, EPost.of_bind p1 fun d2 S2 u H2 F2 α2 _ w2 s2 r2 p2 => ?_⟩
    generalize ed : repNO d1 d2 = od at p2
    cases od with
    | none => exact p2.elim
    | some d3 =>
      unfold repNO at ed
      split at ed
      · rename_i xs j _ _
        split at ed
        · rename_i hz
          simp only [Bool.and_eq_true, decide_eq_true_eq] at hz
          obtain ⟨⟨h1, h2⟩, h3⟩ := hz
          cases ed
          obtain ⟨a1, vs, rfl, t1, z1, q1⟩ := (r1.step s2).lstH w2
          have ey := r2.intH
          subst ey
          have hz' : vs.length * j.toNat ≤ sizeLine := by rw [← q1.length]; exact le_line h3
          refine ⟨_, _, _, rfl, rfl, t1, by omega, by omega, hz', fun l hl' => ?_⟩
          obtain ⟨w3, s3, r3⟩ := rN_new (H0 := H) ((k.step w1 s1).step w2 s2) (fun a t => s2.dom a (s1.dom a t)) (rep_rps q1 _) (by rw [PyProof.Rows.lm_len_rep_flat, Nat.mul_comm]; exact hz') hl'
          exact p2 _ _ _ _ w3 s3 r3
        · cases ed
      · cases ed
theorem idxF_ok {i : Int} : ∀ {ns : List Int} {k n : Nat}, idxF i k ns = some n → ∃ j, n = k + j ∧ ns[j]? = some i ∧ ∀ m x, m < j → ns[m]? = some x → x ≠ i
  | [], _, _, h => by cases h
  | x :: xs, k, n, h => by
    unfold idxF at h
    split at h
    · rename_i hx
      cases h
      exact ⟨0, rfl, by rw [hx]; rfl, fun m y hm => absurd hm (Nat.not_lt_zero m)⟩
    · rename_i hx
      obtain ⟨j, e1, e2, e3⟩ := idxF_ok h
      refine ⟨j + 1, by omega, e2, fun m y hm hy => ?_⟩
      cases m with
      | zero => cases hy; exact hx
      | succ m => exact e3 m y (Nat.lt_of_succ_lt_succ hm) hy
theorem pe_idx {apos cpos : Pos} (ha : PE X a (tO X G e W f)) (hb : PE X b (tO X G e W g)) (hbase : attributeBase a "index" X.env (eval a X.env) = eval a X.env) (hline : (apos.endLine == cpos.line) = true) (hs : starEach [b] X.env = (false, eval b X.env) :: starEach [] X.env)
    (hfew : ((backTo cpos (starEach [b] X.env)).all (fun x => !x.1) && (backToKw cpos (keywordEach [] X.env)).all (fun x => x.1.isSome) && decide ([b].length + ([] : List Keyword).length + (if ([] : List Keyword).isEmpty then 0 else 1) < 30)) = true) :
    PE X (.Call (.Attribute a "index" apos) [b] [] cpos) (tE X G e W (mthL idxO f g)) :=
  pe_imp (pe_bm PySem.F.plainAttrs_list PySem.F.slot_list_index PySem.F.type_list_index mt_index ha (pa_cons hb pa_nil hs) hbase hfew hline hs rfl) fun σ H Q q => by
    obtain ⟨ρ, S, F, α, k, p⟩ := q
    refine ⟨ρ, S, F, α, k, EPost.of_bind p fun d1 S1 v H1 F1 α1 _ w1 s1 r1 p1 => ?_⟩
    cases d1 with
    | lst xs =>
      obtain ⟨a1, vs, rfl, t1, z1, q1⟩ := r1.lstH w1
      refine ⟨.inl ⟨rfl, vs, .of t1⟩, ρ, S1, F1, α1, k.step w1 s1, EPost.of_bind p1 fun d2 S2 u H2 F2 α2 _ w2 s2 r2 p2 => ?_⟩
      obtain ⟨d3, e3, k3⟩ := lift_post p2
      cases d2 with
      | int i =>
        have e3 : ((toInts xs).bind fun ns => (idxF i 0 ns).map fun n => D.int (n : Nat)) = some d3 := e3
        cases ht : toInts xs with
        | none => rw [ht] at e3; cases e3
        | some ns =>
          rw [ht] at e3
          have e3 : ((idxF i 0 ns).map fun n => D.int (n : Nat)) = some d3 := e3
          cases hi : idxF i 0 ns with
          | none => rw [hi] at e3; cases e3
          | some n =>
            rw [hi] at e3
            cases e3
            obtain ⟨j, rfl, e4, e5⟩ := idxF_ok hi
            obtain ⟨a2, us, eref, t2, z2, q2⟩ := (r1.step s2).lstH w2
            rw [toInts_eq ht] at q2
            have ev := q2.intsV
            subst ev
            cases eref
            have ey := r2.intH
            subst ey
            refine ⟨a1, _, _, j, .int i, rfl, rfl, .of t2, rfl, ?_, by rw [List.getElem?_map, e4]; rfl, by show (i == i) = true; exact beq_self_eq_true i, fun m z hm hz => ?_, ?_⟩
            · rw [List.all_eq_true]
              intro z hz
              obtain ⟨y, _, rfl⟩ := List.mem_map.mp hz
              rfl
            · rw [List.getElem?_map] at hz
              cases hx : ns[m]? with
              | none => rw [hx] at hz; cases hz
              | some y =>
                rw [hx] at hz
                cases hz
                exact beq_eq_false_iff_ne.mpr (e5 m y hm hx)
            · rw [Nat.zero_add] at k3
              exact k3.val w2 (.int _)
      | _ => cases e3
    | _ => exact p1.elim
end
end TM

set_option Elab.async false
set_option linter.all false
set_option maxRecDepth 20000
set_option autoImplicit false
namespace TM
open PySem PySem.Spec PyProof.Rows L2

/-! ## calls -/
def Ct.lsub (c : Ct) (scope : Scope) : Ct := { c with sc := scope.names, lok := false }
def lamB (c : Ct) (scope : Scope) : Bool :=
  decide (scope.kind = .function) && !scope.isCoroutine && !scope.isGenerator && scope.names.all fun y => (match y.2 with
    | .local => false
    | .cell => false
    | .free => (match c.sc.lookup y.1 with | some .cell => true | some .free => true | _ => false)
    | _ => true)
def rgArgs (c : Ct) : List Expr → Option (List Expr)
  | [.Call (.Name y _) as [] _] => (match c.rs y with
    | .glo (.bk .range) => some as
    | _ => none)
  | _ => none
def bkX (c : Ct) (r : Evs) (b : BK) (args : List Expr) : Ex := match b.op with
  | some o => if args.all nst && !args.isEmpty then callE o (esE (oE c (r.e c)) args) else stuckE
  | none => stuckE
def seqX (c : Ct) (r : Evs) (b : BK) (args : List Expr) : Ex := match rgArgs c args with
  | some [a] => if nst a then rg1E (if b = .list then D.lst else D.tup) (oE c (r.e c) a) else stuckE
  | some [a, a2] => if nst a && nst a2 then rg2E (if b = .list then D.lst else D.tup) (oE c (r.e c) a) (oE c (r.e c) a2) else stuckE
  | some _ => stuckE
  | none => bkX c r b args
def isaX (c : Ct) (r : Evs) (args : List Expr) : Ex := match args with
  | [a, .Name y _] => (match c.rs y with
    | .glo (.bk bt) => (match bt.ty with
      | some T => if nst a then unE (isaO T) (oE c (r.e c) a) else stuckE
      | none => stuckE)
    | _ => stuckE)
  | _ => stuckE
def lamX (c : Ct) (r : Evs) (i : Nat) (args : List Expr) : Ex := match args with
  | [.Lambda params body scope _] => if c.lok && noPar params && lamB c scope then (match c.lam i with
      | some M => lamE M (r.e (c.lsub scope) body)
      | none => stuckE) else stuckE
  | _ => stuckE
def nameX (c : Ct) (r : Evs) (x : Str) (args : List Expr) : Ex := match c.rs x with
  | .slot i => if args.all nst && !args.isEmpty then fvE i c.Φ (esE (r.e c) args) else stuckE
  | .glo (.fn j) => (match c.Φ j with
    | some (n, m) => if args.all nst && !args.isEmpty then fcE n m (esE (r.e c) args) else stuckE
    | none => stuckE)
  | .glo (.bk .isin) => isaX c r args
  | .glo (.bk .list) => seqX c r .list args
  | .glo (.bk .tuple) => seqX c r .tuple args
  | .glo (.bk b) => bkX c r b args
  | .glo (.lc i) => lamX c r i args
  | _ => stuckE
/-- o.name(args) -/
def methX (c : Ct) (r : Evs) (o : Expr) (name : Str) (ok : Bool) (args : List Expr) : Ex := match args with
  | [a] => if name = "join" then (if nocall o && ok && nst a then mthE joinO (oE c (r.e c) o) (oE c (r.e c) a) else stuckE) else
    if name = "index" then (if nocall o && ok && nst a then mthL idxO (oE c (r.e c) o) (oE c (r.e c) a) else stuckE) else stuckE
  | _ => stuckE
def callX (c : Ct) (r : Evs) (f : Expr) (args : List Expr) (cpos : Pos) : Ex := match f with
  | .Name x _ => nameX c r x args
  | .Attribute o name apos => methX c r o name (apos.endLine == cpos.line) args
  | _ => stuckE
section
variable {X : Cx} {G : Glo} {en : Ent} {W : WX} {c : Ct} {L : Nat} {r : Evs} {args : List Expr} {pos p : Pos}
theorem lam_stat (st : Stat X G c W L) {scope : Scope} (h : lamB c scope = true) : LamX.LamS X.env.scope scope := by
  unfold lamB at h
  simp only [Bool.and_eq_true, Bool.not_eq_true', decide_eq_true_eq, List.all_eq_true] at h
  obtain ⟨⟨⟨h1, h2⟩, h3⟩, h4⟩ := h
  refine ⟨h1, h2, h3, fun y hy => ?_, fun y hy e => ?_⟩
  · have := h4 y hy
    constructor
    · intro e; rw [e] at this; cases this
    · intro e; rw [e] at this; cases this
  · have := h4 y hy
    rw [e] at this
    have h2 : (match c.sc.lookup y.1 with | some .cell => true | some .free => true | _ => false) = true := this
    cases hl : c.sc.lookup y.1 with
    | none => rw [hl] at h2; cases h2
    | some k0 =>
      rw [hl] at h2
      obtain ⟨k', hk', r⟩ := st.sc _ _ hl
      cases k0 <;> first | (cases h2; done) | skip
      · rcases r with rfl | ⟨z, _⟩
        · exact .inl hk'
        · cases z
      · rcases r with rfl | ⟨_, rfl⟩
        · exact .inr hk'
        · exact .inl hk'
theorem lsub_ok (st : Stat X G c W L) {scope : Scope} (h : lamB c scope = true) {A : Around} {outer : List Env} {s : Shared} {H : Hp} {E : XK} {f c' : Addr} (hr : Room L (A.deeper (LamX.lamEnv X scope s.heap.objs.size f c'))) :
    Stat (lamCxN X A outer s H E scope f c') G (c.lsub scope) (fun cls d _ H => E cls d H) L := by
  have hs := lam_stat st h
  refine ⟨st.N, st.nd, st.dbg, fun x k hk => ⟨k, hk, .inl rfl⟩, fun x hx => ?_, hs.kind, rfl, L2N.takes_of rfl rfl rfl rfl, L2.passes_of rfl, hr, (fun z => by cases z), fun x g hg => ?_, fun j ad n m h1 h2 => st.fv j ad n m h1 h2⟩
  · exact absurd rfl (hs.own _ (PySem.mem_of_lookup hx)).2
  · have q := st.gl x g hg
    cases g with
    | fn i => exact q
    | lc i => exact fun z => by cases z
    | cls i =>
      obtain ⟨q1, ⟨C, B, newId, initId, bmB, F, a1, a2, a3, a4, a5⟩⟩ := q
      exact ⟨q1, ⟨C, B, newId, initId, bmB, F, a1, a2, a3, a4, a5⟩⟩
    | cst d => exact q
    | bk b => exact q
theorem bkX_ok (st : Stat X G c W L) (hr : r.Ok) {b : BK} (hm : X.mg b.nm = none) (hg : Gl X b.nm) : PE X (.Call (.Name b.nm p) args [] pos) (tE X G en W (bkX c r b args)) := by
  unfold bkX
  split
  · rename_i o ho
    split
    · rename_i h
      rw [Bool.and_eq_true] at h
      cases args with
      | nil => cases h.2
      | cons a es => exact bk_call st ho hm hg (osE_ok (oE_ok st (hr.e X G en c W L st)) (a :: es)) h.1
    · exact pe_x
  · exact pe_x
theorem seqX_ok (st : Stat X G c W L) (hr : r.Ok) {b : BK} (hb : b = .list ∨ b = .tuple) (hm : X.mg b.nm = none) (hg : Gl X b.nm) : PE X (.Call (.Name b.nm p) args [] pos) (tE X G en W (seqX c r b args)) := by
  have oo := oE_ok (en := en) st (hr.e X G en c W L st)
  have key : ∀ as, rgArgs c args = some as → ∃ p2 pos2, args = [.Call (.Name "range" p2) as [] pos2] ∧ Gl X "range" ∧ X.mg "range" = none := by
    intro as h
    unfold rgArgs at h
    split at h
    · split at h
      · rename_i hy
        cases h
        obtain ⟨g1, g2, g3⟩ := st.rs_glo hy
        subst g2
        exact ⟨_, _, rfl, g1, g3⟩
      · cases h
    · cases h
  unfold seqX
  split
  · rename_i a h
    obtain ⟨p2, pos2, rfl, h1, h2⟩ := key _ h
    split
    · rename_i hn
      exact pe_lrg1 hb st.calm hg hm h1 h2 (oo a) hn
    · exact pe_x
  · rename_i a a2 h
    obtain ⟨p2, pos2, rfl, h1, h2⟩ := key _ h
    split
    · rename_i hn
      rw [Bool.and_eq_true] at hn
      exact pe_lrg2 hb st.calm hg hm h1 h2 (oo a) hn.1 (oo a2) hn.2
    · exact pe_x
  · exact pe_x
  · exact bkX_ok st hr hm hg
theorem nameX_ok (st : Stat X G c W L) (hr : r.Ok) {x : Str} : PE X (.Call (.Name x p) args [] pos) (tE X G en W (nameX c r x args)) := by
  have ee := hr.e X G en c W L st
  have oo := oE_ok (en := en) st ee
  unfold nameX
  split
  · rename_i i h
    split
    · rename_i hn
      rw [Bool.and_eq_true] at hn
      cases args with
      | nil => cases hn.2
      | cons a es =>
        obtain ⟨h1, h2, h3, h4⟩ := st.rs_slot h
        have hn' := hn.1
        rw [List.all_cons, Bool.and_eq_true] at hn'
        exact pe_fv st.fv st.rm st.tk h1 h2 (esE_ok ee (a :: es)) h3 h4 (star_nst hn'.1) (hpl_of hn'.2)
    · exact pe_x
  · rename_i j h
    obtain ⟨hg, hd, ad, hm, hf⟩ := st.rs_glo h
    split
    · rename_i n m hj
      split
      · rename_i hn
        rw [Bool.and_eq_true] at hn
        cases args with
        | nil => cases hn.2
        | cons a es =>
          have hn' := hn.1
          rw [List.all_cons, Bool.and_eq_true] at hn'
          exact pe_fc (st.fv j ad n m hf hj) st.rm st.tk hg hm (esE_ok ee (a :: es)) hd (star_nst hn'.1) (hpl_of hn'.2)
      · exact pe_x
    · exact pe_x
  · rename_i h
    obtain ⟨hg, rfl, hm⟩ := st.rs_glo h
    unfold isaX
    split
    · rename_i a y p2
      split
      · rename_i bt hy
        split
        · rename_i T hT
          split
          · rename_i hn
            obtain ⟨hg', rfl, hm'⟩ := st.rs_glo hy
            exact bk_isa st hT (oo a) hn hg hm hg' hm'
          · exact pe_x
        · exact pe_x
      · exact pe_x
    · exact pe_x
  · rename_i h
    obtain ⟨hg, rfl, hm⟩ := st.rs_glo h
    exact seqX_ok st hr (.inl rfl) hm hg
  · rename_i h
    obtain ⟨hg, rfl, hm⟩ := st.rs_glo h
    exact seqX_ok st hr (.inr rfl) hm hg
  · rename_i b _ _ _ h
    obtain ⟨hg, rfl, hm⟩ := st.rs_glo h
    exact bkX_ok st hr hm hg
  · rename_i i h
    obtain ⟨hg, q⟩ := st.rs_glo h
    unfold lamX
    split
    · rename_i params body scope lpos
      split
      · rename_i hb
        rw [Bool.and_eq_true, Bool.and_eq_true] at hb
        obtain ⟨hd, M, hM, R⟩ := q hb.1.1
        split
        · rename_i M' hM'
          rw [hM] at hM'
          cases hM'
          exact pe_lam R hg hd (st.lr hb.1.1) (lam_stat st hb.2) hb.1.2 fun A outer s H E f c' hr' => hr.e _ G en _ _ L (lsub_ok st hb.2 hr') body
        · exact pe_x
      · exact pe_x
    · exact pe_x
  · exact pe_x
theorem callX_ok (st : Stat X G c W L) (hr : r.Ok) {f : Expr} : PE X (.Call f args [] pos) (tE X G en W (callX c r f args pos)) := by
  have oo := oE_ok (en := en) st (hr.e X G en c W L st)
  unfold callX
  split
  · exact nameX_ok st hr
  · rename_i o name apos
    unfold methX
    split
    · rename_i a
      split
      · rename_i hn
        subst hn
        split
        · rename_i hb
          rw [Bool.and_eq_true, Bool.and_eq_true] at hb
          exact pe_joinO (oo o) (oo a) (star_nst hb.2) (base_of hb.1.1) hb.1.2
        · exact pe_x
      · split
        · rename_i hn
          subst hn
          split
          · rename_i hb
            rw [Bool.and_eq_true, Bool.and_eq_true] at hb
            refine pe_idx (oo o) (oo a) (base_of hb.1.1) hb.1.2 (star_nst hb.2) ?_
            have := (star_all (es := [a]) (env := X.env) (by rw [List.all_cons, hb.2]; rfl)).2
            rw [back_all, this]
            rfl
          · exact pe_x
        · exact pe_x
    · exact pe_x
  · exact pe_x
end
end TM

set_option Elab.async false
set_option linter.all false
set_option maxRecDepth 20000
set_option autoImplicit false
namespace TM
open PySem PySem.Spec PyProof.Rows L2

/-! ## the readers, one step -/
def andTs (t : Expr → Ex) : List Expr → Ex
  | [] => stuckE
  | [a] => t a
  | a :: b :: r => andT (t a) (andTs t (b :: r))
def orTs (t : Expr → Ex) : List Expr → Ex
  | [] => stuckE
  | [a] => t a
  | a :: b :: r => orT (t a) (orTs t (b :: r))
def andVs (t : Expr → Ex) : List Expr → Ex
  | [] => stuckE
  | [a] => t a
  | a :: b :: r => andE (t a) (andVs t (b :: r))
def orVs (t : Expr → Ex) : List Expr → Ex
  | [] => stuckE
  | [a] => t a
  | a :: b :: r => orE (t a) (orVs t (b :: r))
def optX (o : Expr → Ex) : Option Expr → Option Ex
  | none => none
  | some a => some (o a)
def cmpX (c : Ct) (r : Evs) (a : Expr) (ops : List CmpOp) (bs : List Expr) : Ex := match ops, bs with
  | [op], [b] => (match ltK op with
    | some o => if noset b then binE o (oE c (r.e c) a) (oE c (r.e c) b) else stuckE
    | none => stuckE)
  | [op, op'], [b, d] => (match ltK op, ltK op' with
    | some o, some o' => if noset d then chE o o' (oE c (r.e c) a) (oE c (r.e c) b) (oE c (r.e c) d) else stuckE
    | _, _ => stuckE)
  | _, _ => stuckE
def subX (c : Ct) (r : Evs) (a b : Expr) : Ex := match b with
  | .Slice l u none _ => sliceE (oE c (r.e c) a) (optX (oE c (r.e c)) l) (optX (oE c (r.e c)) u)
  | b => if plainI b then binES ixS (oE c (r.e c) a) (oE c (r.e c) b) else stuckE
def lcX (c : Ct) (r : Evs) (elt : Expr) (gs : List Comprehension) (scope : Scope) : Ex := match gs with
  | [⟨tg, iter, ifs, 0⟩] => (match compE c r elt tg iter ifs scope with
    | some f => f
    | none => stuckE)
  | _ => stuckE
def stepE (r : Evs) (c : Ct) : Expr → Ex
  | .Constant k _ _ => cstK k
  | .Name x _ => nameE c x
  | .BinOp a op b _ => (match binK op with
    | some o => binE o (oE c (r.e c) a) (oE c (r.e c) b)
    | none => stuckE)
  | .UnaryOp op a _ => (match op with
    | .USub => unE negO (oE c (r.e c) a)
    | .Not => notE (oE c (r.e c) a)
    | _ => stuckE)
  | .Compare a ops bs _ => cmpX c r a ops bs
  | .BoolOp op vs _ => (match op with
    | .And => andVs (r.e c) vs
    | .Or => orVs (r.e c) vs)
  | .IfExp t a b _ => ifE (r.t c t) (r.e c a) (r.e c b)
  | .List es _ => dispE D.lst (esE (r.e c) es)
  | .Tuple es _ _ => dispE D.tup (esE (r.e c) es)
  | .Subscript a b _ => subX c r a b
  | .ListComp elt gs scope _ => lcX c r elt gs scope
  | .Call f args [] pos => callX c r f args pos
  | _ => stuckE
def stepT (r : Evs) (c : Ct) (ex : Expr) : Ex := match ex with
  | .UnaryOp .Not a _ => notT (r.t c a)
  | .BoolOp .And vs _ => andTs (r.t c) vs
  | .BoolOp .Or vs _ => orTs (r.t c) vs
  | .Compare a ops bs _ => cmpX c r a ops bs
  | ex => if plainT ex then truE (oE c (stepE r c) ex) else stuckE
/-- what makes an own thing -/
def stepN (r : Evs) (c : Ct) : Expr → Ex
  | .List es _ => dispE D.lst (esE (r.e c) es)
  | .ListComp elt gs scope _ => lcX c r elt gs scope
  | .BinOp a .Add b _ => binE catN (oE c (r.e c) a) (oE c (r.e c) b)
  | .BinOp a .Mult b _ => binE repNO (oE c (r.e c) a) (oE c (r.e c) b)
  | .Call (.Name x _) args [] _ => (match c.rs x with
    | .glo (.bk .list) => (match rgArgs c args with
      | some [a] => if nst a then rg1E D.lst (oE c (r.e c) a) else stuckE
      | _ => stuckE)
    | _ => stuckE)
  | _ => stuckE
def istup : Expr → Bool
  | .Tuple _ _ _ => true
  | _ => false
def zipArgs (c : Ct) : List Expr → Option (Expr × Expr)
  | [.Call (.Name y _) [a, b] [] _] => (match c.rs y with
    | .glo (.bk .zip) => some (a, b)
    | _ => none)
  | _ => none
/-- what is walked -/
def srcX (c : Ct) (r : Evs) (tg : Expr) (b : BK) (args : List Expr) : Option Exs := match b, args with
  | .range, [a] => if nst a then some (srcI range1O (esE (r.e c) [a])) else none
  | .range, [a, a2] => if nst a && nst a2 then some (srcI range2O (esE (r.e c) [a, a2])) else none
  | .range, [a, a2, a3] => if nst a && nst a2 && nst a3 then some (srcI range3O (esE (r.e c) [a, a2, a3])) else none
  | .zip, [a, a2] => if nst a && nst a2 && istup tg then some (srcI zipO (esE (r.e c) [a, a2])) else none
  | .enum, as => (match zipArgs c as with
    | some (a, b) => if nst a && nst b && istup tg then some (srcI ezO (esE (r.e c) [a, b])) else none
    | none => (match as with
      | [a] => if nst a && istup tg then some (srcI enumO (esE (r.e c) [a])) else none
      | _ => none))
  | _, _ => none
def stepI (r : Evs) (c : Ct) (tg ex : Expr) : Exs := match ex with
  | .Call (.Name x _) args [] _ => (match c.rs x with
    | .glo (.bk b) => (match srcX c r tg b args with
      | some f => f
      | none => seqI (r.e c ex))
    | _ => seqI (r.e c ex))
  | _ => seqI (r.e c ex)
def stepV (r : Evs) : Evs := ⟨stepE r, stepT r, stepN r, stepI r⟩
def ev : Nat → Evs
  | 0 => ⟨fun _ _ => stuckE, fun _ _ => stuckE, fun _ _ => stuckE, fun _ _ _ => stuckEs⟩
  | n + 1 => stepV (ev n)
section
variable {X : Cx} {G : Glo} {en : Ent} {W : WX} {c : Ct} {L : Nat} {r : Evs} {args : List Expr} {pos p : Pos}
theorem andTs_ok {t : Expr → Ex} (ht : ∀ ex, PT X ex (tT X G en W (t ex))) : ∀ vs : List Expr, PW X (.BoolOp .And vs pos) (tT X G en W (andTs t vs))
  | [] => pw_x
  | [a] => pw_and1' (ht a)
  | a :: b :: r => pw_and' (ht a) (andTs_ok ht (b :: r))
theorem orTs_ok {t : Expr → Ex} (ht : ∀ ex, PT X ex (tT X G en W (t ex))) : ∀ vs : List Expr, PW X (.BoolOp .Or vs pos) (tT X G en W (orTs t vs))
  | [] => pw_x
  | [a] => pw_or1' (ht a)
  | a :: b :: r => pw_or' (ht a) (orTs_ok ht (b :: r))
theorem andVs_ok {t : Expr → Ex} (ht : ∀ ex, PE X ex (tE X G en W (t ex))) : ∀ vs : List Expr, PE X (.BoolOp .And vs pos) (tE X G en W (andVs t vs))
  | [] => pe_x
  | [a] => pe_one (ht a)
  | a :: b :: r => pe_and' (ht a) (andVs_ok ht (b :: r))
theorem orVs_ok {t : Expr → Ex} (ht : ∀ ex, PE X ex (tE X G en W (t ex))) : ∀ vs : List Expr, PE X (.BoolOp .Or vs pos) (tE X G en W (orVs t vs))
  | [] => pe_x
  | [a] => pe_one (ht a)
  | a :: b :: r => pe_or' (ht a) (orVs_ok ht (b :: r))
theorem optX_ok {o : Expr → Ex} (ho : ∀ ex, PE X ex (tO X G en W (o ex))) : ∀ l : Option Expr, POk X G en W l (optX o l)
  | none => .none
  | some a => .some (ho a)
theorem cmpX_ok (st : Stat X G c W L) (hr : r.Ok) {a : Expr} {ops : List CmpOp} {bs : List Expr} : PE X (.Compare a ops bs pos) (tE X G en W (cmpX c r a ops bs)) ∧ PT X (.Compare a ops bs pos) (tT X G en W (cmpX c r a ops bs)) := by
  have oo := oE_ok (en := en) st (hr.e X G en c W L st)
  unfold cmpX
  split
  · split
    · rename_i o ho
      split
      · rename_i hs
        exact ⟨pe_cm (ltK_ok st.hu ho) (oo _) (oo _) (marks_of hs), pt_cm (ltK_ok st.hu ho) (oo _) (oo _) (marks_of hs)⟩
      · exact ⟨pe_x, pt_x⟩
    · exact ⟨pe_x, pt_x⟩
  · split
    · rename_i o o' ho ho'
      split
      · rename_i hs
        exact ⟨pe_ch (ltK_ok st.hu ho) (ltK_ok st.hu ho') (oo _) (oo _) (oo _) (lmarks_of hs), pt_ch (ltK_ok st.hu ho) (ltK_ok st.hu ho') (oo _) (oo _) (oo _) (lmarks_of hs)⟩
      · exact ⟨pe_x, pt_x⟩
    · exact ⟨pe_x, pt_x⟩
  · exact ⟨pe_x, pt_x⟩
theorem subX_ok (st : Stat X G c W L) (hr : r.Ok) {a b : Expr} : PE X (.Subscript a b pos) (tE X G en W (subX c r a b)) := by
  have oo := oE_ok (en := en) st (hr.e X G en c W L st)
  unfold subX
  split
  · exact pe_sl (oo a) (optX_ok oo _) (optX_ok oo _)
  · split
    · rename_i h
      exact pe_subS (oo a) (oo b) (plainIx_of h)
    · exact pe_x
theorem lcX_ok (st : Stat X G c W L) (hr : r.Ok) {elt : Expr} {gs : List Comprehension} {scope : Scope} : PE X (.ListComp elt gs scope pos) (tE X G en W (lcX c r elt gs scope)) := by
  unfold lcX
  split
  · split
    · rename_i f h
      exact compE_ok st hr h
    · exact pe_x
  · exact pe_x
theorem stepE_ok (st : Stat X G c W L) (hr : r.Ok) (ex : Expr) : PE X ex (tE X G en W (stepE r c ex)) := by
  have ee := hr.e X G en c W L st
  have tt := hr.t X G en c W L st
  have oo := oE_ok (en := en) st ee
  unfold stepE
  split
  · exact cstK_ok
  · exact nameE_ok st
  · split
    · rename_i o ho
      exact pe_bin (binK_ok ho) (oo _) (oo _)
    · exact pe_x
  · split
    · exact pe_neg (oo _)
    · exact pe_not' (oo _)
    · exact pe_x
  · exact (cmpX_ok st hr).1
  · split
    · exact andVs_ok ee _
    · exact orVs_ok ee _
  · exact pe_if (tt _) (ee _) (ee _)
  · exact pe_l (esE_ok ee _)
  · exact pe_t (esE_ok ee _)
  · exact subX_ok st hr
  · exact lcX_ok st hr
  · exact callX_ok st hr
  · exact pe_x
theorem stepT_ok (st : Stat X G c W L) (hr : r.Ok) (ex : Expr) : PT X ex (tT X G en W (stepT r c ex)) := by
  have tt := hr.t X G en c W L st
  unfold stepT
  split
  · exact pt_not' (tt _)
  · exact (andTs_ok tt _).pt
  · exact (orTs_ok tt _).pt
  · exact (cmpX_ok st hr).2
  · split
    · rename_i h
      exact pt_tr (oE_ok st (stepE_ok st hr) ex) (isTrue_of h)
    · exact pt_x
theorem stepN_ok (st : Stat X G c W L) (hr : r.Ok) (ex : Expr) : PE X ex (tN X G en W (stepN r c ex)) := by
  have ee := hr.e X G en c W L st
  have oo := oE_ok (en := en) st ee
  unfold stepN
  split
  · exact pe_lN (esE_ok ee _)
  · unfold lcX
    split
    · split
      · rename_i f h
        obtain ⟨g, idx, hg, hb, hw, hs, rfl⟩ := compE_inv h
        refine pe_imp (pe_lc st.calm (by rw [st.N]; exact st.nd) (hr.i X G en c W L st _ _) (blk_ok st hb) (fun s H C cl fp => ?_) (fun s H C cl fp => ?_) (fun s H C cl fp => ?_) (fold_of hs)) fun _ _ _ q => lc_postN hw q
        · exact tgE_ok (sub_ok st hb s H C cl fp) st.calm 4 _ g idx hg
        · exact condE_ok (hr.t _ G en _ W0 L (sub_ok st hb s H C cl fp)) _
        · exact hr.e _ G en _ W0 L (sub_ok st hb s H C cl fp) _
      · exact pe_xN
    · exact pe_xN
  · exact pe_catN (oo _) (oo _)
  · exact pe_repN (oo _) (oo _)
  · rename_i x _ args _
    split
    · rename_i hx
      split
      · rename_i a h
        split
        · rename_i hn
          unfold rgArgs at h
          split at h
          · split at h
            · rename_i hy
              cases h
              obtain ⟨g1, rfl, g3⟩ := st.rs_glo hy
              obtain ⟨k1, rfl, k3⟩ := st.rs_glo hx
              exact pe_lrg1N st.calm k1 k3 g1 g3 (oo a) hn
            · cases h
          · cases h
        · exact pe_xN
      · exact pe_xN
    · exact pe_xN
  · exact pe_xN
theorem stepI_ok (st : Stat X G c W L) (hr : r.Ok) (tg ex : Expr) : PI X tg ex (tI X G en W (stepI r c tg ex)) := by
  have ee := hr.e X G en c W L st
  have aa := esE_ok (r := r.e c) ee
  unfold stepI
  split
  · rename_i x px args pc
    split
    · rename_i b hx
      obtain ⟨hg, rfl, hm⟩ := st.rs_glo hx
      split
      · rename_i f h
        unfold srcX at h
        split at h
        · split at h
          · rename_i hn
            cases h
            exact pi_rg1 hg hm (aa _) (star_nst hn)
          · cases h
        · split at h
          · rename_i hn
            cases h
            rw [Bool.and_eq_true] at hn
            exact pi_rg2 hg hm (aa _) (by rw [star_nst hn.1, star_nst hn.2]; rfl) (star_nst hn.2)
          · cases h
        · split at h
          · rename_i hn
            cases h
            rw [Bool.and_eq_true, Bool.and_eq_true] at hn
            exact pi_rg3 hg hm (aa _) (star_nst hn.1.1) (hpl_of (by rw [List.all_cons, List.all_cons, hn.1.2, hn.2]; rfl))
          · cases h
        · split at h
          · rename_i hn
            cases h
            rw [Bool.and_eq_true, Bool.and_eq_true] at hn
            cases tg <;> first | (cases hn.2; done) | skip
            exact pi_zipN hg hm (aa _) (star_nst hn.1.1) (hpl_of (by rw [List.all_cons, hn.1.2]; rfl))
          · cases h
        · split at h
          · rename_i a b hz
            split at h
            · rename_i hn
              cases h
              rw [Bool.and_eq_true, Bool.and_eq_true] at hn
              cases tg <;> first | (cases hn.2; done) | skip
              unfold zipArgs at hz
              split at hz
              · split at hz
                · rename_i hy
                  cases hz
                  obtain ⟨g1, rfl, g3⟩ := st.rs_glo hy
                  exact pi_ezN g1 g3 hg hm (aa _) (star_nst hn.1.1) (hpl_of (by rw [List.all_cons, hn.1.2]; rfl))
                · cases hz
              · cases hz
            · cases h
          · split at h
            · split at h
              · rename_i hn
                cases h
                rw [Bool.and_eq_true] at hn
                cases tg <;> first | (cases hn.2; done) | skip
                exact pi_enumN hg hm (aa _) (star_nst hn.1)
              · cases h
            · cases h
        · cases h
      · exact pi_seq (ee _)
    · exact pi_seq (ee _)
  · exact pi_seq (ee _)
theorem ev_ok : ∀ n, (ev n).Ok
  | 0 => ⟨fun _ _ _ _ _ _ _ _ => pe_x, fun _ _ _ _ _ _ _ _ => pt_x, fun _ _ _ _ _ _ _ _ => pe_xN, fun _ _ _ _ _ _ _ _ _ => pi_x⟩
  | n + 1 => ⟨fun _ _ _ _ _ _ st => stepE_ok st (ev_ok n), fun _ _ _ _ _ _ st => stepT_ok st (ev_ok n), fun _ _ _ _ _ _ st => stepN_ok st (ev_ok n), fun _ _ _ _ _ _ st => stepI_ok st (ev_ok n)⟩
end
end TM

set_option Elab.async false
set_option linter.all false
set_option maxRecDepth 20000
set_option autoImplicit false
namespace TM
open PySem PySem.Spec PyProof.Rows L2

/-! ## several targets at once -/
def isNm (env : Env) (l : Nat) : Expr → Bool
  | .Name id pos => env.kindOf id == some .local && pos.line == l
  | _ => false
def nmOf : Expr → Str
  | .Name id _ => id
  | _ => ""
def nmF (env : Env) (l : Nat) : Expr → Option Str
  | .Name id pos => if env.kindOf id == some .local && pos.line == l then some id else none
  | _ => none
def isStar : Expr → Bool
  | .Starred .. => true
  | _ => false
def line0 (ts : List Expr) : Nat := (ts.head?.map (·.pos.line)).getD 0
theorem swap_eq {ts vs : List Expr} {k k' : Nat} {p p' : Pos} {env : Env} : swappedStores [.Tuple ts k p] (.Tuple vs k' p') env =
    (if (!(ts.length == 2 || ts.length == 3) || vs.length != ts.length || env.blockKind != .function) = true then pure none
     else if vs.any isStar = true then pure none
     else if ((ts.filterMap (nmF env (line0 ts))).length != ts.length || (ts.filterMap (nmF env (line0 ts))).eraseDups.length != (ts.filterMap (nmF env (line0 ts))).length) = true then pure none
     else if vs.all (foldedForSure 8) = true then pure none
     else if vs.all (constantsAlone 8) = true then (do unsupported "assign.tuple-of-constant-expressions:order-of-the-stores"; pure (some (ts.filterMap (nmF env (line0 ts))))) else pure (some (ts.filterMap (nmF env (line0 ts))))) := by rfl
theorem nms_eq {env : Env} {l : Nat} : ∀ {ts : List Expr}, ts.all (isNm env l) = true → ts.filterMap (nmF env l) = ts.map nmOf
  | [], _ => rfl
  | t :: ts, h => by
    rw [List.all_cons, Bool.and_eq_true] at h
    have ih := nms_eq h.2
    cases t <;> first | (cases h.1; done) | skip
    rename_i id pos
    have h1 : (env.kindOf id == some .local && pos.line == l) = true := h.1
    have h2 : nmF env l (.Name id pos) = some id := by show (if _ then _ else _) = _; rw [if_pos h1]
    rw [List.filterMap_cons, h2]
    exact congrArg (id :: ·) ih
theorem any_star {vs : List Expr} (h : vs.all nst = true) : vs.any isStar = false := by
  rw [List.any_eq_false]
  intro a ha
  have := List.all_eq_true.mp h a ha
  cases a <;> first | (cases this; done) | exact fun z => by cases z
theorem swap_all {ts vs : List Expr} {k k' : Nat} {p p' : Pos} {env : Env} (hk : env.scope.kind = .function) (h1 : (ts.length == 2 || ts.length == 3) = true) (h2 : vs.length = ts.length) (h3 : vs.all nst = true) (h4 : ts.all (isNm env (line0 ts)) = true) (h5 : (ts.map nmOf).eraseDups.length = ts.length)
    (h6 : vs.all (foldedForSure 8) = false) (h7 : vs.all (constantsAlone 8) = false) : swappedStores [.Tuple ts k p] (.Tuple vs k' p') env = pure (some (ts.map nmOf)) := by
  have hb : env.blockKind = .function := by unfold Env.blockKind; rw [hk]; rfl
  have e2 : (vs.length != ts.length) = false := by rw [h2]; exact bne_self_eq_false _
  have e5 : ((ts.map nmOf).eraseDups.length != (ts.map nmOf).length) = false := by rw [h5, List.length_map]; exact bne_self_eq_false _
  have e4 : ((ts.map nmOf).length != ts.length) = false := by rw [List.length_map]; exact bne_self_eq_false _
  rw [swap_eq, nms_eq h4, hb, any_star h3, h1, e2, e4, e5, h6, h7]
  rfl
theorem swap_folded {ts vs : List Expr} {k k' : Nat} {p p' : Pos} {env : Env} (h6 : vs.all (foldedForSure 8) = true) : swappedStores [.Tuple ts k p] (.Tuple vs k' p') env = pure none := by
  rw [swap_eq, h6]
  split
  · rfl
  · split
    · rfl
    · split <;> rfl
def notLoc (env : Env) : Expr → Bool
  | .Name id _ => !(env.kindOf id == some .local)
  | _ => true
theorem nms_short {env : Env} {l : Nat} : ∀ {ts : List Expr}, ts.any (notLoc env) = true → (ts.filterMap (nmF env l)).length < ts.length
  | [], h => by cases h
  | t :: ts, h => by
    have le := List.length_filterMap_le (nmF env l) ts
    rw [List.any_cons, Bool.or_eq_true] at h
    rw [List.filterMap_cons]
    rcases h with h | h
    · have h2 : nmF env l t = none := by
        cases t <;> first | rfl | skip
        rename_i id pos
        have h1 : (env.kindOf id == some .local) = false := by
          have h' : (!(env.kindOf id == some .local)) = true := h
          rwa [Bool.not_eq_true'] at h'
        show (if _ then _ else _) = none
        rw [h1, Bool.false_and]
        rfl
      rw [h2]
      exact Nat.lt_succ_of_le le
    · have := nms_short (l := l) h
      split
      · exact Nat.lt_succ_of_lt this
      · exact Nat.succ_lt_succ this
theorem swap_cell {ts vs : List Expr} {k k' : Nat} {p p' : Pos} {env : Env} (h : ts.any (notLoc env) = true) : swappedStores [.Tuple ts k p] (.Tuple vs k' p') env = pure none := by
  have q : ((ts.filterMap (nmF env (line0 ts))).length != ts.length) = true := bne_iff_ne.mpr (Nat.ne_of_lt (nms_short h))
  rw [swap_eq, q, Bool.true_or]
  split
  · rfl
  · split <;> rfl

/-! ### values of several expressions, some of them own things -/
inductive PVs (K : PySem.W.Frag) (G : Glo) (e : Ent) (H0 : Hp) (α : List Addr) (H F : Hp) : List (Bool × D) → List V → List Addr → Prop
  | nil : PVs K G e H0 α H F [] [] []
  | val {d : D} {v : V} {l : List (Bool × D)} {vs : List V} {as : List Addr} : Rp K G α F d v → PVs K G e H0 α H F l vs as → PVs K G e H0 α H F ((false, d) :: l) (v :: vs) as
  | own {o : OB} {a : Addr} {h : HO} {l : List (Bool × D)} {vs : List V} {as : List Addr} : H a = some h → F a = none → a ∉ α → ¬ Trk e.H a → ¬ Trk H0 a → ObOk K G α F o h → a ∉ as → PVs K G e H0 α H F l vs as → PVs K G e H0 α H F ((true, o.toD) :: l) (.ref a :: vs) (a :: as)
section
variable {K : PySem.W.Frag} {G : Glo} {e : Ent} {H0 H F H' F' : Hp} {α α' : List Addr} {l : List (Bool × D)} {vs : List V} {as : List Addr}
theorem PVs.fresh (p : PVs K G e H0 α H F l vs as) : ∀ a ∈ as, ¬ Trk H0 a := by
  induction p with
  | nil => exact fun a h => by cases h
  | val _ _ ih => exact ih
  | own _ _ _ _ q _ _ _ ih => exact fun a h => (List.mem_cons.mp h).elim (fun z => by rw [z]; exact q) (ih a)
theorem PVs.weak {H1 : Hp} (d : ∀ a, Trk H1 a → Trk H0 a) (p : PVs K G e H0 α H F l vs as) : PVs K G e H1 α H F l vs as := by
  induction p with
  | nil => exact .nil
  | val r _ ih => exact .val r ih
  | own a1 a2 a3 a4 a5 a6 a7 _ ih => exact .own a1 a2 a3 a4 (fun t => a5 (d _ t)) a6 a7 ih
theorem PVs.step (s : Stp H F α H' F' α') (p : PVs K G e H0 α H F l vs as) : PVs K G e H0 α' H' F' l vs as := by
  induction p with
  | nil => exact .nil
  | val r _ ih => exact .val (r.mono s.f s.pre) ih
  | own h1 h2 h3 h4 h5 h6 h7 _ ih =>
    have q : SlotOk K G e α H F (some (.own _)) (some (.ref _)) := .own h1 h2 h3 h4 h6
    cases q.step s with
    | own g1 g2 g3 g4 g6 => exact .own g1 g2 g3 g4 h5 g6 h7 ih
def setPV : Slots → List Nat → List (Bool × D) → Option Slots
  | ρ, [], [] => some ρ
  | ρ, i :: is, (b, d) :: l => (if b then (obOf d).map SV.own else some (SV.val d)).bind fun s => setPV (ρ.set i (some s)) is l
  | _, _, _ => none
def setV : L2.St → List Nat → List V → L2.St
  | σ, i :: is, v :: vs => setV (σ.set i (some v)) is vs
  | σ, _, _ => σ
theorem Ok.setNew' {ρ : Slots} {S : Sto} {σ : L2.St} {i : Nat} {o : OB} {h : HO} {a : Addr} (k : Ok K G e ρ S σ H F α) (h1 : H a = some h) (h2 : F a = none) (h3 : a ∉ α) (h4 : ¬ Trk e.H a) (h5 : ObOk K G α F o h)
    (fr : ∀ (j : Nat) (u : OB), ρ[j]? = some (some (.own u)) → σ[j]? ≠ some (some (.ref a))) : Ok K G e (ρ.set i (some (.own o))) S (σ.set i (some (.ref a))) H F α := by
  refine ⟨k.wd, k.st, by rw [List.length_set, List.length_set]; exact k.len, fun j s hj => ?_, fun j l o1 u b p1 p2 p3 p4 => ?_⟩
  · by_cases hi : i = j
    · subst hi
      by_cases hl : i < ρ.length
      · rw [List.getElem?_set_self hl] at hj
        cases hj
        exact ⟨_, List.getElem?_set_self (by rw [← k.len]; exact hl), .own h1 h2 h3 h4 h5⟩
      · rw [List.getElem?_eq_none (by rw [List.length_set]; omega)] at hj
        cases hj
    · rw [List.getElem?_set_ne hi] at hj
      obtain ⟨x, hx, q⟩ := k.sl j s hj
      exact ⟨x, by rw [List.getElem?_set_ne hi]; exact hx, q⟩
  · by_cases n1 : i = j
    · by_cases n2 : i = l
      · rw [← n1, ← n2]
      · subst n1
        have hl : i < σ.length := by
          have := (List.getElem?_eq_some_iff.mp p1).1
          rw [List.length_set, k.len] at this; exact this
        rw [List.getElem?_set_self hl] at p3
        cases p3
        rw [List.getElem?_set_ne n2] at p2 p4
        exact absurd p4 (fr l _ p2)
    · by_cases n2 : i = l
      · subst n2
        have hl : i < σ.length := by
          have := (List.getElem?_eq_some_iff.mp p2).1
          rw [List.length_set, k.len] at this; exact this
        rw [List.getElem?_set_self hl] at p4
        cases p4
        rw [List.getElem?_set_ne n1] at p1 p3
        exact absurd p3 (fr j _ p1)
      · rw [List.getElem?_set_ne n1] at p1 p3
        rw [List.getElem?_set_ne n2] at p2 p4
        exact k.inj j l o1 u b p1 p2 p3 p4
theorem own_fr {ρ : Slots} {S0 : Sto} {σ : L2.St} {F0 : Hp} {α0 : List Addr} {a : Addr} (k0 : Ok K G e ρ S0 σ H0 F0 α0) (h0 : ¬ Trk H0 a) : ∀ (j : Nat) (u : OB), ρ[j]? = some (some (.own u)) → σ[j]? ≠ some (some (.ref a)) := fun j u hj hs => by
  obtain ⟨x, hx, q⟩ := k0.sl j _ hj
  rw [hs] at hx
  cases hx
  cases q with
  | own q1 _ _ _ q5 => exact h0 ⟨_, q1, q5.nt⟩
theorem Ok.setPV {S : Sto} (p : PVs K G e H0 α H F l vs as) : ∀ {ρ ρ' : Slots} {σ : L2.St} {is : List Nat}, Ok K G e ρ S σ H F α → (∀ a ∈ as, ∀ (j : Nat) (u : OB), ρ[j]? = some (some (.own u)) → σ[j]? ≠ some (some (.ref a))) →
    TM.setPV ρ is l = some ρ' → Ok K G e ρ' S (setV σ is vs) H F α := by
  induction p with
  | nil =>
    intro ρ ρ' σ is k _ h
    cases is <;> cases h
    exact k
  | @val d v l vs as r _ ih =>
    intro ρ ρ' σ is k fr h
    cases is with
    | nil => cases h
    | cons i is =>
      refine ih (k.setVal i r) (fun a ha j u hj hs => ?_) h
      by_cases e : i = j
      · subst e
        by_cases hl : i < ρ.length
        · rw [List.getElem?_set_self hl] at hj; cases hj
        · rw [List.getElem?_eq_none (by rw [List.length_set]; omega)] at hj; cases hj
      · rw [List.getElem?_set_ne e] at hj hs
        exact fr a ha j u hj hs
  | @own o a hh l vs as h1 h2 h3 h4 h5 h6 h7 _ ih =>
    intro ρ ρ' σ is k fr h
    cases is with
    | nil => cases h
    | cons i is =>
      have h : ((obOf o.toD).map SV.own).bind (fun s => TM.setPV (ρ.set i (some s)) is l) = some ρ' := h
      have ho : obOf o.toD = some o := by cases o <;> rfl
      rw [ho] at h
      refine ih (k.setNew' (i := i) h1 h2 h3 h4 h6 (fr a List.mem_cons_self)) (fun b hb j u hj hs => ?_) h
      by_cases e : i = j
      · subst e
        have hl : i < σ.length := by
          have := (List.getElem?_eq_some_iff.mp hj).1
          rw [List.length_set, k.len] at this; exact this
        rw [List.getElem?_set_self hl] at hs
        cases hs
        exact h7 hb
      · rw [List.getElem?_set_ne e] at hj hs
        exact fr b (List.mem_cons_of_mem _ hb) j u hj hs
end
def tV (X : Cx) (G : Glo) (e : Ent) (W : WX) (b : Bool) (f : Ex) : TE := if b then tN X G e W f else tE X G e W f
def tVs (X : Cx) (G : Glo) (e : Ent) (W : WX) : List (Bool × Ex) → TA
  | [] => tNil
  | (b, f) :: r => tCons (tV X G e W b f) (tVs X G e W r)
def parEs : List (Bool × Ex) → Exs
  | [] => nilEs
  | (_, f) :: r => consEs f (parEs r)
/-- what is known of the values -/
def RV (K : PySem.W.Frag) (G : Glo) (e : Ent) (H0 : Hp) (bs : List Bool) : RelDs := fun α H F ds vs => ds.length = bs.length ∧ ∃ as, PVs K G e H0 α H F (bs.zip ds) vs as
section
variable {X : Cx} {G : Glo} {e : Ent} {W : WX}
theorem EPost.of_binds' {K : PySem.W.Frag} {W : WX} {σ : L2.St} {H F : Hp} {α : List Addr} {R1 : RelD} {R R' : RelDs} {r : ER} {Q Q1 : List V → Hp → Prop} {Q' : VK} {g : D → Sto → ERs} (p : AsPost K G W R σ H F α (r.binds g) Q)
    (k : ∀ d S1 v H1 F1 α1, r = .ok d S1 → Wd K G S1 H1 F1 α1 → Stp H F α H1 F1 α1 → R1 α1 H1 F1 d v → AsPost K G W R σ H1 F1 α1 (g d S1) Q → Q' v H1) : EPost K G W R1 σ H F α r Q' := EPost.of_binds p k
theorem vs_post : ∀ (fs : List (Bool × Ex)) {ρ : Slots} {S : Sto} {σ : L2.St} {H F : Hp} {α : List Addr} {Q : List V → Hp → Prop}, Ok X.K G e ρ S σ H F α → AsPost X.K G W (RV X.K G e H (fs.map (·.1))) σ H F α (parEs fs ρ S) Q → tVs X G e W fs σ H Q
  | [], ρ, S, σ, H, F, α, Q, k, p => p [] H F α k.wd (.refl _ _ _) ⟨rfl, [], .nil⟩
  | (b, f) :: fs, ρ, S, σ, H, F, α, Q, k, p => by
    have go : ∀ (R1 : RelD), (∀ {d v H1 F1 α1 S1}, Wd X.K G S1 H1 F1 α1 → Stp H F α H1 F1 α1 → R1 α1 H1 F1 d v → ∀ {H2 F2 α2 ds vs}, Stp H1 F1 α1 H2 F2 α2 → RV X.K G e H1 (fs.map (·.1)) α2 H2 F2 ds vs → RV X.K G e H ((b, f) :: fs |>.map (·.1)) α2 H2 F2 (d :: ds) (v :: vs)) →
        EPost X.K G W R1 σ H F α (f ρ S) fun x H1 => tVs X G e W fs σ H1 fun xs H2 => Q (x :: xs) H2 := by
      intro R1 hR
      refine EPost.of_binds p fun d S1 v H1 F1 α1 _ w1 s1 r1 p1 => vs_post fs (k.step w1 s1) ?_
      revert p1
      cases parEs fs ρ S1 with
      | ok ds S2 => exact fun p1 vs H2 F2 α2 w2 s2 r2 => p1 _ _ _ _ w2 s2 (hR w1 s1 r1 s2 r2)
      | exc x S2 => exact fun p1 => p1
      | stuck => exact fun p1 => p1
    cases b with
    | false =>
      refine ⟨ρ, S, F, α, k, go (rP X.K G) fun {d v H1 F1 α1 S1} w1 s1 r1 {H2 F2 α2 ds vs} s2 ⟨hl, as, pv⟩ => ⟨congrArg (· + 1) hl, as, .val (Rp.mono s2.f s2.pre r1) (pv.weak s1.dom)⟩⟩
    | true =>
      refine ⟨ρ, S, F, α, k, go (rN X.K G e H) fun {d v H1 F1 α1 S1} w1 s1 r1 {H2 F2 α2 ds vs} s2 ⟨hl, as, pv⟩ => ⟨congrArg (· + 1) hl, ?_⟩⟩
      obtain ⟨o, a, h, rfl, rfl, h1, h2, h3, h4, h0, h5⟩ := r1
      have q : SlotOk X.K G e α1 H1 F1 (some (.own o)) (some (.ref a)) := .own h1 h2 h3 h4 h5
      cases q.step s2 with
      | own g1 g2 g3 g4 g6 => exact ⟨a :: as, .own g1 g2 g3 g4 h0 g6 (fun z => pv.fresh a z ⟨h, h1, h5.nt⟩) (pv.weak s1.dom)⟩
end
end TM

set_option Elab.async false
set_option linter.all false
set_option maxRecDepth 20000
set_option autoImplicit false
namespace TM
open PySem PySem.Spec PyProof.Rows L2

/-! ## a, b, c = x, y, z -/
section
variable {X : Cx} {pos : Pos}
/-- three plain locals: stored from the right -/
theorem ps_par3 {i j l : Nat} {x y z : Str} {a b c : Expr} {ta : TA} {px py pz pt : Pos} {kt k2 pt2} (hc : X.calm = true) (hN : X.N.Nodup) (hi : X.N[i]? = some x) (hj : X.N[j]? = some y) (hl : X.N[l]? = some z) (hij : i ≠ j) (hil : i ≠ l) (hjl : j ≠ l)
    (hx : X.env.scope.names.lookup x = some .local) (hy : X.env.scope.names.lookup y = some .local) (hz : X.env.scope.names.lookup z = some .local) (ha : PA X [a, b, c] ta)
    (hw : swappedStores [.Tuple [.Name x px, .Name y py, .Name z pz] kt pt] (.Tuple [a, b, c] k2 pt2) X.env = pure (some [x, y, z])) :
    PS X (.Assign [.Tuple [.Name x px, .Name y py, .Name z pz] kt pt] (.Tuple [a, b, c] k2 pt2) pos) (fun D σ H => ta σ H fun vs H1 => ∃ v w u, vs = [v, w, u] ∧ D.nx (((σ.set i (some v)).set j (some w)).set l (some u)) H1) := by
  constructor
  intro pins s σ H D I h
  rw [exec_Assign_arm, swapsS_of (t := .Tuple [.Name x px, .Name y py, .Name z pz] kt pt) (e := .Tuple [a, b, c] k2 pt2) (l := pos.line) (env := X.env) rfl]
  refine wpAny_bind (wpAny_standAt (wpAny_bind (wpAny_pure ?_)))
  rw [if_neg Bool.false_ne_true]
  refine wpAny_bind (Tuple_ (thn (ha.run _ pins s σ H _ I h) fun us s1 ⟨vs, H1, I1, r1, v, w, u, ev, q1⟩ => ?_))
  subst ev
  obtain ⟨u1, u2, u3, rfl, rv, rw', ru⟩ : ∃ u1 u2 u3, us = [u1, u2, u3] ∧ RelV v u1 ∧ RelV w u2 ∧ RelV u u3 := by
    cases r1 with
    | cons q1 r1 =>
      cases r1 with
      | cons q2 r1 =>
        cases r1 with
        | cons q3 r1 =>
          cases r1
          exact ⟨_, _, _, rfl, q1, q2, q3⟩
  · refine wpAny_newObj_type ?_ (show 3 ≤ sizeLine by decide)
    have I2 : Inv X pins σ H1 { s1 with heap := s1.heap.push { cls := .type "tuple", data := .seq [u1, u2, u3].toArray } } := I1.kept (t' := s1.toks) fun _ _ q => Heap.get?_push_of_some _ q
    rw [hw]
    refine wpAny_bind (wpAny_pure ?_)
    show wpAny (model X.prog X.w) X.A (do rule "assign.swapped-stores"; let items ← unpackItems (.ref s1.heap.objs.size) 3 none; assignInOrder ([z, y, x].map fun n => bindName X.env n) items.reverse; pure Flow.next) _ _ _
    refine wpAny_bind (wpAny_rule (wpAny_bind (unpackItems_tuple (items := #[u1, u2, u3]) (I.ok.hd hc) (IsTup.new s1.heap _) fun h' hx' => ?_)))
    have I3 : Inv X pins σ H1 { s1 with heap := h' } := I2.kept (t' := s1.toks) fun b' o' q => hx' b' o' (Nat.ne_of_lt (Heap.lt_size q)) q
    refine wpAny_bind ?_
    show wpAny _ _ (assignInOrder [fun t => bindName X.env z t, fun t => bindName X.env y t, fun t => bindName X.env x t] [u3, u2, u1]) _ _ _
    refine assignInOrder_cons (wpAny_bindName (store_ok I3 hN hl (.inl hz) ru (fun s2 I4 => ?_) (.inr hz)))
    refine assignInOrder_cons (wpAny_bindName (store_ok I4 hN hj (.inl hy) rw' (fun s3 I5 => ?_) (.inr hy)))
    refine assignInOrder_cons (wpAny_bindName (store_ok I5 hN hi (.inl hx) rv (fun s4 I6 => assignInOrder_nil (wpAny_pure ?_)) (.inr hx)))
    rw [List.set_comm _ _ (Ne.symm hij), List.set_comm _ _ (Ne.symm hil), List.set_comm _ _ (Ne.symm hjl)] at I6
    exact ⟨_, H1, I6, q1⟩
/-- names as targets -/
def tNs (is : List Nat) : TGs := fun vs σ H Q => vs.length = is.length ∧ Q (setV σ is vs) H
end
def parS (is : List Nat) (fs : List (Bool × Ex)) : Sx := fun ρ S => match parEs fs ρ S with
  | .ok ds S1 => if ds.length = is.length ∧ ds.length ≤ big then (match setPV ρ is ((fs.map (·.1)).zip ds) with
    | some ρ' => .nx ρ' S1
    | none => .stuck) else .stuck
  | .exc x S1 => .exc x ρ S1
  | .stuck => .stuck
section
variable {X : Cx} {G : Glo} {e : Ent} {W : WX} {c : Ct} {L : Nat} {pos : Pos} {fs : List (Bool × Ex)} {is : List Nat}
theorem PVs.len {K : PySem.W.Frag} {H0 H F : Hp} {α : List Addr} {l : List (Bool × D)} {vs : List V} {as : List Addr} (p : PVs K G e H0 α H F l vs as) : l.length = vs.length := by
  induction p with
  | nil => rfl
  | val _ _ ih => exact congrArg (· + 1) ih
  | own _ _ _ _ _ _ _ _ ih => exact congrArg (· + 1) ih
/-- the values are there: the names hold them -/
theorem par_gen {D : Ends} {σ : L2.St} {H : Hp} (q : tS X G e W (parS is fs) D σ H) : tVs X G e W fs σ H fun vs H1 => vs.length = is.length ∧ vs.length ≤ sizeLine ∧ ∃ ρ S F α as ds ρ', Ok X.K G e ρ S σ H1 F α ∧ PVs X.K G e H α H1 F ((fs.map (·.1)).zip ds) vs as ∧
    (∀ a ∈ as, ∀ (j : Nat) (u : OB), ρ[j]? = some (some (.own u)) → σ[j]? ≠ some (some (.ref a))) ∧ setPV ρ is ((fs.map (·.1)).zip ds) = some ρ' ∧ ∀ σ' H2 F2 α2, Ok X.K G e ρ' S σ' H2 F2 α2 → Grw F α F2 α2 → D.nx σ' H2 := by
  obtain ⟨ρ, S, F, α, k, p⟩ := q
  refine vs_post fs k ?_
  unfold parS at p
  revert p
  cases parEs fs ρ S with
  | stuck => exact fun p => p
  | exc x S1 => exact fun p cl dd H1 F1 α1 w s r => p cl dd σ H1 F1 α1 (k.step w s) r
  | ok ds S1 =>
    intro p vs H1 F1 α1 w s ⟨hl, as, pv⟩
    have p : SPost X.K G e W F α (if ds.length = is.length ∧ ds.length ≤ big then (match setPV ρ is ((fs.map (·.1)).zip ds) with
      | some ρ' => .nx ρ' S1
      | none => .stuck) else .stuck) D := p
    split at p
    · rename_i hz
      have el : vs.length = ds.length := by
        rw [← pv.len, List.length_zip, hl, Nat.min_self]
      cases h : setPV ρ is ((fs.map (·.1)).zip ds) with
      | none => rw [h] at p; exact p.elim
      | some ρ' =>
        rw [h] at p
        exact ⟨by rw [el]; exact hz.1, by rw [el]; exact le_line hz.2, ρ, S1, F1, α1, as, ds, ρ', k.step w s, pv, fun a ha => own_fr k (pv.fresh a ha), h, fun σ' H2 F2 α2 k2 g2 => p σ' H2 F2 α2 k2 (s.grw.trans g2)⟩
    · exact p.elim
theorem par_fin {D : Ends} {σ : L2.St} {H0 H1 : Hp} {vs : List V} (q : ∃ ρ S F α as ds ρ', Ok X.K G e ρ S σ H1 F α ∧ PVs X.K G e H0 α H1 F ((fs.map (·.1)).zip ds) vs as ∧
    (∀ a ∈ as, ∀ (j : Nat) (u : OB), ρ[j]? = some (some (.own u)) → σ[j]? ≠ some (some (.ref a))) ∧ setPV ρ is ((fs.map (·.1)).zip ds) = some ρ' ∧ ∀ σ' H2 F2 α2, Ok X.K G e ρ' S σ' H2 F2 α2 → Grw F α F2 α2 → D.nx σ' H2) : D.nx (setV σ is vs) H1 := by
  obtain ⟨ρ, S, F, α, as, ds, ρ', k, pv, fr, h, fin⟩ := q
  exact fin _ _ _ _ (Ok.setPV pv k fr h) (.refl _ _)
/-- .. with a tuple made on the way -/
theorem par_tup {D : Ends} {σ : L2.St} {H0 H1 : Hp} {vs us : List V} {p : Addr} (hp : H1 p = none) (q : ∃ ρ S F α as ds ρ', Ok X.K G e ρ S σ H1 F α ∧ PVs X.K G e H0 α H1 F ((fs.map (·.1)).zip ds) vs as ∧
    (∀ a ∈ as, ∀ (j : Nat) (u : OB), ρ[j]? = some (some (.own u)) → σ[j]? ≠ some (some (.ref a))) ∧ setPV ρ is ((fs.map (·.1)).zip ds) = some ρ' ∧ ∀ σ' H2 F2 α2, Ok X.K G e ρ' S σ' H2 F2 α2 → Grw F α F2 α2 → D.nx σ' H2) : D.nx (setV σ is vs) (upd H1 p (.tup us)) := by
  obtain ⟨ρ, S, F, α, as, ds, ρ', k, pv, fr, h, fin⟩ := q
  have s := stp_raw (o := HO.tup us) k.wd hp
  exact fin _ _ _ _ (Ok.setPV (pv.step s) (k.step (k.wd.raw hp) s) fr h) (.refl _ _)
/-- the targets' slots -/
def nsX (c : Ct) : List Expr → Option (List Nat)
  | [] => some []
  | .Name x _ :: es => (c.ls x).bind fun i => (nsX c es).map (i :: ·)
  | _ => none
theorem pgs_ns (st : Stat X G c W L) : ∀ {ts : List Expr} {is : List Nat}, nsX c ts = some is → PGs X ts (tNs is)
  | [], is, h => by
    cases h
    exact pgs_imp pgs_nil fun vs σ H Q ⟨hl, q⟩ => by
      cases vs with
      | nil => exact ⟨rfl, q⟩
      | cons v vs => cases hl
  | t :: ts, is, h => by
    cases t <;> first | (cases h; done) | skip
    rename_i x p
    have h : ((c.ls x).bind fun i => (nsX c ts).map (i :: ·)) = some is := h
    cases h1 : c.ls x with
    | none => rw [h1] at h; cases h
    | some i =>
      rw [h1] at h
      have h : (nsX c ts).map (i :: ·) = some is := h
      cases h2 : nsX c ts with
      | none => rw [h2] at h; cases h
      | some js =>
        rw [h2] at h
        cases h
        obtain ⟨a1, a2, a3⟩ := st.ls_slot h1
        refine pgs_imp (pgs_cons (pg_name (i := i) (by rw [st.N]; exact st.nd) a1 a2 a3) (pgs_ns st h2) rfl) fun vs σ H Q ⟨hl, q⟩ => ?_
        cases vs with
        | nil => cases hl
        | cons v vs => exact ⟨v, vs, rfl, Nat.succ.inj hl, q⟩
theorem nsX_nst : ∀ {ts : List Expr} {is : List Nat}, nsX c ts = some is → ts.all nst = true ∧ is.length = ts.length
  | [], is, h => by cases h; exact ⟨rfl, rfl⟩
  | t :: ts, is, h => by
    cases t <;> first | (cases h; done) | skip
    rename_i x p
    have h : ((c.ls x).bind fun i => (nsX c ts).map (i :: ·)) = some is := h
    cases h1 : c.ls x with
    | none => rw [h1] at h; cases h
    | some i =>
      rw [h1] at h
      have h : (nsX c ts).map (i :: ·) = some is := h
      cases h2 : nsX c ts with
      | none => rw [h2] at h; cases h
      | some js =>
        rw [h2] at h
        cases h
        obtain ⟨b1, b2⟩ := nsX_nst h2
        exact ⟨by rw [List.all_cons, b1]; rfl, congrArg (· + 1) b2⟩
theorem tVs_mono : ∀ (fs : List (Bool × Ex)) {σ : L2.St} {H : Hp} {Q Q' : List V → Hp → Prop}, (∀ vs H1, Q vs H1 → Q' vs H1) → tVs X G e W fs σ H Q → tVs X G e W fs σ H Q' := by
  intro fs
  induction fs with
  | nil => exact fun hi q => hi _ _ q
  | cons f fs ih =>
    obtain ⟨b, f⟩ := f
    intro σ H Q Q' hi q
    have em : ∀ {R : RelD} {f : Ex} {ρ : Slots} {S : Sto} {F : Hp} {α : List Addr} {P P' : VK}, (∀ v H1, P v H1 → P' v H1) → EPost X.K G W R σ H F α (f ρ S) P → EPost X.K G W R σ H F α (f ρ S) P' := by
      intro R f ρ S F α P P' hp
      cases f ρ S with
      | ok d S1 => exact fun q v H1 F1 α1 w s r => hp _ _ (q v H1 F1 α1 w s r)
      | exc x S1 => exact fun q => q
      | stuck => exact fun q => q
    cases b with
    | false =>
      obtain ⟨ρ, S, F, α, k, q⟩ := q
      exact ⟨ρ, S, F, α, k, em (fun v H1 h => ih (fun vs H2 => hi (v :: vs) H2) h) q⟩
    | true =>
      obtain ⟨ρ, S, F, α, k, q⟩ := q
      exact ⟨ρ, S, F, α, k, em (fun v H1 h => ih (fun vs H2 => hi (v :: vs) H2) h) q⟩
/-- stored one after another from the left -/
theorem ps_parR {ts es : List Expr} {k k' : Nat} {p p' : Pos} (st : Stat X G c W L) (hts : nsX c ts = some is) (ha : PA X es (tVs X G e W fs)) (hw : swappedStores [.Tuple ts k p] (.Tuple es k' p') X.env = pure none) :
    PS X (.Assign [.Tuple ts k p] (.Tuple es k' p') pos) (tS X G e W (parS is fs)) := by
  obtain ⟨hn, hl⟩ := nsX_nst hts
  refine ps_imp (ps_asg (pe_tup ha) (pg_tup st.calm (pgs_ns st hts) (n := ts.length) assign_len (assign_idx hn)) (swapsS_of rfl) hw rfl) fun D σ H q => ?_
  have q := par_gen q
  refine tVs_mono fs (fun vs H1 h => ?_) q
  obtain ⟨h1, h2, h3⟩ := h
  exact ⟨h2, fun pp hp => ⟨pp, vs, rfl, .of upd_same, by rw [h1, hl], h1, par_tup hp h3⟩⟩
end
end TM

set_option Elab.async false
set_option linter.all false
set_option maxRecDepth 20000
set_option autoImplicit false
namespace TM
open PySem PySem.Spec PyProof.Rows L2

/-! ## statements read -/
def iaddO (a b : D) : Option D := match a, b with
  | .int i, .int j => some (.int (i + j))
  | .str s, .str t => if s.length + t.length ≤ big then some (.str (s ++ t)) else none
  | _, _ => none
def isubO (a b : D) : Option D := match a, b with
  | .int i, .int j => some (.int (i - j))
  | _, _ => none
def iopK : Operator → Option (D → D → Option D)
  | .Add => some iaddO
  | .Sub => some isubO
  | _ => none
def augS (i : Nat) (o : D → D → Option D) (f : Ex) : Sx := fun ρ S => match ρ[i]? with
  | some (some (.val d)) => (f ρ S).sbind ρ fun y S1 => match o d y with
    | some z => .nx (ρ.set i (some (.val z))) S1
    | none => .stuck
  | _ => .stuck
section
variable {X : Cx} {G : Glo} {e : Ent} {W : WX} {f g : Ex} {a b ex : Expr} {pos : Pos}
theorem iopK_ok {op : Operator} {o : D → D → Option D} (h : iopK op = some o) : PIp X op (rD X G o) := by
  cases op <;> first | (cases h; done) | skip
  · cases h
    intro pins s σ H x y v u Q I rx ry h
    obtain ⟨F, α, S, d1, d2, d3, w, r1, r2, e, k⟩ := h
    unfold iaddO at e
    split at e
    · cases e
      exact iop_add pins s σ H x y v u Q I rx ry ⟨_, _, r1.intH, r2.intH, k.val w (.int _)⟩
    · rename_i a b
      split at e
      · rename_i hz
        cases e
        obtain ⟨e1, g1⟩ := r1.strH
        obtain ⟨e2, g2⟩ := r2.strH
        refine iop_add_str pins s σ H x y v u Q I rx ry ⟨_, _, e1, e2, by simpa [Str.length] using le_line hz, ?_⟩
        have ea : (⟨a.toArray⟩ : Str) ++ ⟨b.toArray⟩ = ⟨(a ++ b).toArray⟩ := by
          show (⟨a.toArray ++ b.toArray⟩ : Str) = _
          simp
        rw [ea]
        exact k.val w (.str ⟨by rw [List.length_append]; exact le_line hz, fun c hc => (List.mem_append.mp hc).elim (g1.cod c) (g2.cod c)⟩)
      · cases e
    · cases e
  · cases h
    intro pins s σ H x y v u Q I rx ry h
    obtain ⟨F, α, S, d1, d2, d3, w, r1, r2, e, k⟩ := h
    unfold isubO at e
    split at e
    · cases e
      exact iop_sub pins s σ H x y v u Q I rx ry ⟨_, _, r1.intH, r2.intH, k.val w (.int _)⟩
    · cases e
theorem ps_augO {i : Nat} {x : Str} {op : Operator} {o : D → D → Option D} {pos' : Pos} (hN : X.N.Nodup) (hi : X.N[i]? = some x) (hx : Loc X.env.scope x) (he : PE X ex (tO X G e W f)) (ho : PIp X op (rD X G o)) (hf : X.fn x = true ∨ X.env.scope.names.lookup x = some .local) :
    PS X (.AugAssign (.Name x pos') op ex pos) (tS X G e W (augS i o f)) :=
  ps_imp (ps_aug hN hi hx he ho hf) fun D σ H ⟨ρ, S, F, α, k, p⟩ => by
    unfold augS at p
    split at p
    · rename_i d hd
      obtain ⟨y, hy, q⟩ := k.sl i _ hd
      cases q with
      | @val _ v r =>
        refine ⟨v, hy, ρ, S, F, α, k, SPost.of_sbind k p fun d2 S1 u H1 F1 α1 _ k1 s1 r1 p1 => ?_⟩
        cases ho' : o d d2 with
        | none => rw [ho'] at p1; exact p1.elim
        | some z =>
          rw [ho'] at p1
          exact ⟨F1, α1, S1, d, d2, z, k1.wd, .inl (r.mono s1.f s1.pre), r1, ho', fun v3 H3 F3 α3 w3 s3 r3 => p1 _ _ _ _ ((k1.step w3 s3).setVal i r3) s3.grw⟩
    · exact p.elim

end
/-! a block under work: statement by statement -/
abbrev Sv := Ct → Stmt → Sx
def blkX (s : Sv) (c : Ct) : List Stmt → Sx
  | [] => nopS
  | st :: r => fun ρ S => seqS (s c st) (blkX s c r) (frzS (c.frz st.pos.line) ρ) S
def asgLc (c : Ct) (r : Evs) (x : Str) (px : Pos) (i : Nat) (elt : Expr) (gs : List Comprehension) (scope : Scope) (pos : Pos) : Sx := match gs with
  | [⟨tg, iter, ifs, 0⟩] => (match compE c r elt tg iter ifs scope with
    | some f => (match c.sc.lookup x with
      | some .local => if px.line == pos.line && !(scope.names.any fun (n, k) => n == x && (k == .local || k == .cell)) then (if c.own.contains i then newS i f else setS i f) else stuckS
      | some .cell => if c.own.contains i then newS i f else setS i f
      | _ => stuckS)
    | none => stuckS)
  | _ => stuckS
def flagS (c : Ct) (r : Evs) : List Nat → List Expr → List (Bool × Ex)
  | i :: is, a :: es => (c.own.contains i, if c.own.contains i then r.n c a else r.e c a) :: flagS c r is es
  | _, _ => []
/-- every name of ts is a plain local, on one line, none twice -/
def locB (c : Ct) (l : Nat) : Expr → Bool
  | .Name id pos => (match c.sc.lookup id with | some .local => true | _ => false) && pos.line == l
  | _ => false
def celB (c : Ct) : Expr → Bool
  | .Name id _ => (match c.sc.lookup id with | some .cell => true | _ => false)
  | _ => true
def swB (c : Ct) (ts vs : List Expr) : Bool := (ts.length == 2 || ts.length == 3) && vs.length == ts.length && vs.all nst && ts.all (locB c (line0 ts)) && (ts.map nmOf).eraseDups.length == ts.length && !(vs.all (foldedForSure 8)) && !(vs.all (constantsAlone 8))
def plB (c : Ct) (ts vs : List Expr) : Bool := vs.all (foldedForSure 8) || ts.any (celB c) || !(ts.length == 2 || ts.length == 3)
def asgTup (c : Ct) (r : Evs) (ts vs : List Expr) : Sx := if vs.all nst && vs.length == ts.length then (match nsX c ts with
  | some is => if swB c ts vs || plB c ts vs then parS is (flagS c r is vs) else stuckS
  | none => if plB c ts vs then (match tgE c 4 (.Tuple ts 0 ⟨0, 0, 0, 0⟩) with
    | some (g, _) => asgS g (dispE D.tup (esE (r.e c) vs))
    | none => stuckS) else stuckS) else stuckS
def appX (c : Ct) (r : Evs) (ex : Expr) : Option Sx := match ex with
  | .Call (.Attribute (.Name x _) attr apos) [a] [] cpos => if attr = "append" then (match c.rs x with
    | .slot i => if apos.endLine == cpos.line && nst a then some (appS i (r.e c a)) else none
    | _ => none) else none
  | _ => none
def stepS (r : Evs) (b : Ct → List Stmt → Sx) (c : Ct) : Stmt → Sx
  | .Expr ex _ => (match appX c r ex with
    | some f => f
    | none => if nocomp ex then exprS (r.e c ex) else stuckS)
  | .Return (some ex) _ => if c.own.contains 1000 then retNS (r.n c ex) else retS (r.e c ex)
  | .Return none _ => retS (cstE .non)
  | .Continue _ => fun ρ S => .ct ρ S
  | .Break _ => fun ρ S => .bk ρ S
  | .Pass _ => nopS
  | .Assign [tg] ex pos => (match tg with
    | .Name x px => (match c.ls x with
      | some i => (match ex with
        | .ListComp elt gs scope lpos => asgLc c r x px i elt gs scope lpos
        | ex => if nocomp ex then (if c.own.contains i then newS i (r.n c ex) else setS i (r.e c ex)) else stuckS)
      | none => stuckS)
    | .Tuple ts _ _ => (match ex with
      | .Tuple vs _ _ => asgTup c r ts vs
      | ex => if nocomp ex then (match tgE c 4 (.Tuple ts 0 ⟨0, 0, 0, 0⟩) with
        | some (g, _) => asgS g (r.e c ex)
        | none => stuckS) else stuckS)
    | .Subscript (.Name x _) ix _ => (match c.rs x with
      | .slot i => if nocomp ex && plainI ix && notup ex then stiS i (r.e c ex) (r.e c ix) else stuckS
      | _ => stuckS)
    | _ => stuckS)
  | .AugAssign (.Name x _) op ex _ => (match c.ls x, iopK op with
    | some i, some o => augS i o (oE c (r.e c) ex)
    | _, _ => stuckS)
  | .If t p q _ => iffS (r.t c t) (b c p) (b c q)
  | .While t p [] _ => whileGo (r.t c t) (b c p) c.fuel
  | .For tg iter p [] _ => (match tgE c 4 tg with
    | some (g, _) => if noset iter then forS (r.i c tg iter) g (b c p) else stuckS
    | none => stuckS)
  | .Raise (some (.Call (.Name x _) [.Constant (.str _) _ _] [] _)) none _ => (match c.rs x with
    | .glo (.cls i) => raiS i
    | _ => stuckS)
  | _ => stuckS
def sv (r : Evs) : Nat → Sv
  | 0 => fun _ _ => stuckS
  | n + 1 => stepS r (fun c sts => blkX (sv r n) c sts)
end TM

set_option Elab.async false
set_option linter.all false
set_option maxRecDepth 20000
set_option autoImplicit false
namespace TM
open PySem PySem.Spec PyProof.Rows L2

/-! ## statements: the reading is right -/
section
variable {X : Cx} {G : Glo} {en : Ent} {W : WX} {c : Ct} {L : Nat} {r : Evs} {pos : Pos}
theorem loc_of (st : Stat X G c W L) {x : Str} (h : c.sc.lookup x = some .local) : X.env.scope.names.lookup x = some .local := by
  obtain ⟨k', hk', q⟩ := st.sc _ _ h
  rcases q with rfl | ⟨z, _⟩
  · exact hk'
  · cases z
theorem cel_of (st : Stat X G c W L) {x : Str} (h : c.sc.lookup x = some .cell) : X.env.scope.names.lookup x = some .cell := by
  obtain ⟨k', hk', q⟩ := st.sc _ _ h
  rcases q with rfl | ⟨z, _⟩
  · exact hk'
  · cases z
theorem sw_cell {elt : Expr} {gs : List Comprehension} {scope : Scope} {pos py : Pos} {y : Str} {l : Nat} {env : Env} (hy : env.scope.names.lookup y = some .cell) : swapsWith (.ListComp elt gs scope pos) (some (.Name y py)) l env = pure false := by
  have ky : env.kindOf y = some .cell := hy
  unfold swapsWith
  simp only [ky]
  have : (some NameKind.cell == some NameKind.local) = false := rfl
  simp only [this, Bool.and_false, Bool.false_and]
theorem compN_ok (st : Stat X G c W L) (hr : r.Ok) {elt tg iter : Expr} {ifs : List Expr} {scope : Scope} {f : Ex} (h : compE c r elt tg iter ifs scope = some f) : PE X (.ListComp elt [⟨tg, iter, ifs, 0⟩] scope pos) (tN X G en W f) := by
  obtain ⟨g, idx, hg, hb, hw, hs, rfl⟩ := compE_inv h
  refine pe_imp (pe_lc st.calm (by rw [st.N]; exact st.nd) (hr.i X G en c W L st _ _) (blk_ok st hb) (fun s H C cl fp => ?_) (fun s H C cl fp => ?_) (fun s H C cl fp => ?_) (fold_of hs)) fun _ _ _ q => lc_postN hw q
  · exact tgE_ok (sub_ok st hb s H C cl fp) st.calm 4 _ g idx hg
  · exact condE_ok (hr.t _ G en _ W0 L (sub_ok st hb s H C cl fp)) _
  · exact hr.e _ G en _ W0 L (sub_ok st hb s H C cl fp) _
theorem asgLc_ok (st : Stat X G c W L) (hr : r.Ok) {x : Str} {px : Pos} {i : Nat} {elt : Expr} {gs : List Comprehension} {scope : Scope} {lpos : Pos} (hi : c.ls x = some i) : PS X (.Assign [.Name x px] (.ListComp elt gs scope lpos) pos) (tS X G en W (asgLc c r x px i elt gs scope lpos)) := by
  obtain ⟨a1, a2, a3⟩ := st.ls_slot hi
  have nd : X.N.Nodup := by rw [st.N]; exact st.nd
  unfold asgLc
  split
  · rename_i tg iter ifs
    split
    · rename_i f hf
      split
      · rename_i hk
        split
        · rename_i hb
          rw [Bool.and_eq_true, Bool.not_eq_true'] at hb
          have hyl := loc_of st hk
          obtain ⟨g, idx, hg, hbk, hw, hs, rfl⟩ := compE_inv hf
          have sw := sw_true (elt := elt) (gs := [⟨tg, iter, ifs, 0⟩]) (scope := scope) (pos := lpos) (py := px) (y := x) (l := pos.line) (env := X.env) st.kd hyl hb.1 hb.2
          split
          · exact ps_lcN st.calm nd a1 hyl sw (hr.i X G en c W L st _ _) (blk_ok st hbk) hw (fun s H C cl fp => tgE_ok (sub_ok st hbk s H C cl fp) st.calm 4 _ g idx hg) (fun s H C cl fp => condE_ok (hr.t _ G en _ W0 L (sub_ok st hbk s H C cl fp)) _) (fun s H C cl fp => hr.e _ G en _ W0 L (sub_ok st hbk s H C cl fp) _) (fold_of hs)
          · exact ps_lcS st.calm nd a1 hyl sw (hr.i X G en c W L st _ _) (blk_ok st hbk) hw (fun s H C cl fp => tgE_ok (sub_ok st hbk s H C cl fp) st.calm 4 _ g idx hg) (fun s H C cl fp => condE_ok (hr.t _ G en _ W0 L (sub_ok st hbk s H C cl fp)) _) (fun s H C cl fp => hr.e _ G en _ W0 L (sub_ok st hbk s H C cl fp) _) (fold_of hs)
        · exact ps_x
      · rename_i hk
        split
        · exact ps_new nd a1 a2 (compN_ok st hr hf) (sw_cell (cel_of st hk)) a3
        · exact ps_s nd a1 a2 (compE_ok st hr hf) (sw_cell (cel_of st hk)) a3
      · exact ps_x
    · exact ps_x
  · exact ps_x
theorem flagS_ok (st : Stat X G c W L) (hr : r.Ok) : ∀ {is : List Nat} {es : List Expr}, is.length = es.length → es.all nst = true → PA X es (tVs X G en W (flagS c r is es))
  | [], [], _, _ => pa_nil
  | i :: is, a :: es, hl, hn => by
    rw [List.all_cons, Bool.and_eq_true] at hn
    refine pa_cons ?_ (flagS_ok st hr (Nat.succ.inj hl) hn.2) (star_nst hn.1)
    show PE X a (tV X G en W (c.own.contains i) (if c.own.contains i then r.n c a else r.e c a))
    cases c.own.contains i with
    | true => exact hr.n X G en c W L st a
    | false => exact hr.e X G en c W L st a
  | [], _ :: _, hl, _ => by cases hl
  | _ :: _, [], hl, _ => by cases hl
theorem pl_none (st : Stat X G c W L) {ts vs : List Expr} {k k' : Nat} {p p' : Pos} (h : plB c ts vs = true) : swappedStores [.Tuple ts k p] (.Tuple vs k' p') X.env = pure none := by
  unfold plB at h
  rw [Bool.or_eq_true, Bool.or_eq_true, Bool.not_eq_true'] at h
  rcases h with (h | h) | h
  · exact swap_folded h
  · refine swap_cell ?_
    obtain ⟨t, ht, q⟩ := List.any_eq_true.mp h
    refine List.any_eq_true.mpr ⟨t, ht, ?_⟩
    cases t <;> first | rfl | skip
    rename_i x p
    have q : (match c.sc.lookup x with | some .cell => true | _ => false) = true := q
    show (!(X.env.kindOf x == some .local)) = true
    cases hl : c.sc.lookup x with
    | none => rw [hl] at q; cases q
    | some k0 =>
      cases k0 <;> first | (rw [hl] at q; cases q; done) | skip
      have : X.env.kindOf x = some .cell := cel_of st hl
      rw [this]
      rfl
  · exact stores_many h
theorem sw_some (st : Stat X G c W L) {ts vs : List Expr} {k k' : Nat} {p p' : Pos} (h : swB c ts vs = true) : swappedStores [.Tuple ts k p] (.Tuple vs k' p') X.env = pure (some (ts.map nmOf)) ∧ (ts.length = 2 ∨ ts.length = 3) ∧ (∀ t ∈ ts, X.env.scope.names.lookup (nmOf t) = some .local) ∧ (ts.map nmOf).eraseDups.length = ts.length := by
  unfold swB at h
  simp only [Bool.and_eq_true, Bool.not_eq_true'] at h
  obtain ⟨⟨⟨⟨⟨⟨h1, h2⟩, h3⟩, h4⟩, h5⟩, h6⟩, h7⟩ := h
  have h5' := eq_of_beq h5
  refine ⟨swap_all st.kd h1 (eq_of_beq h2) h3 ?_ h5' h6 h7, ?_, fun t ht => ?_, h5'⟩
  · rw [List.all_eq_true] at h4 ⊢
    intro t ht
    have := h4 t ht
    cases t <;> first | (cases this; done) | skip
    rename_i x p
    have this : ((match c.sc.lookup x with | some .local => true | _ => false) && p.line == line0 ts) = true := this
    rw [Bool.and_eq_true] at this
    show (X.env.kindOf x == some .local && p.line == line0 ts) = true
    cases hl : c.sc.lookup x with
    | none => rw [hl] at this; cases this.1
    | some k0 =>
      cases k0 <;> first | (rw [hl] at this; cases this.1; done) | skip
      have e : X.env.kindOf x = some .local := loc_of st hl
      rw [e, this.2]
      rfl
  · rw [Bool.or_eq_true] at h1
    exact h1.imp eq_of_beq eq_of_beq
  · rw [List.all_eq_true] at h4
    have := h4 t ht
    cases t <;> first | (cases this; done) | skip
    rename_i x p
    have this : ((match c.sc.lookup x with | some .local => true | _ => false) && p.line == line0 ts) = true := this
    rw [Bool.and_eq_true] at this
    show X.env.scope.names.lookup x = some .local
    cases hl : c.sc.lookup x with
    | none => rw [hl] at this; cases this.1
    | some k0 =>
      cases k0 <;> first | (rw [hl] at this; cases this.1; done) | skip
      exact loc_of st hl
theorem nsX_cons {t : Expr} {ts : List Expr} {is : List Nat} (h : nsX c (t :: ts) = some is) : ∃ x p i js, t = .Name x p ∧ c.ls x = some i ∧ nsX c ts = some js ∧ is = i :: js := by
  cases t <;> first | (cases h; done) | skip
  rename_i x p
  have h : ((c.ls x).bind fun i => (nsX c ts).map (i :: ·)) = some is := h
  cases h1 : c.ls x with
  | none => rw [h1] at h; cases h
  | some i =>
    rw [h1] at h
    have h : (nsX c ts).map (i :: ·) = some is := h
    cases h2 : nsX c ts with
    | none => rw [h2] at h; cases h
    | some js =>
      rw [h2] at h
      cases h
      exact ⟨x, p, i, js, rfl, h1, rfl, rfl⟩
theorem er2 {x y : Str} (h : [x, y].eraseDups.length = 2) : x ≠ y := fun e => by
  subst e
  rw [List.eraseDups_cons] at h
  simp at h
theorem er3 {x y z : Str} (h : [x, y, z].eraseDups.length = 3) : x ≠ y ∧ x ≠ z ∧ y ≠ z := by
  rw [List.eraseDups_cons] at h
  refine ⟨fun e => ?_, fun e => ?_, fun e => ?_⟩
  · subst e
    by_cases q : z = x
    · subst q; simp at h
    · simp [List.eraseDups_cons, q] at h
  · subst e
    by_cases q : y = x
    · subst q; simp at h
    · simp [List.eraseDups_cons, q] at h
  · subst e
    by_cases q : y = x
    · subst q; simp at h
    · simp [List.eraseDups_cons, q] at h
end
end TM

set_option Elab.async false
set_option linter.all false
set_option maxRecDepth 20000
set_option autoImplicit false
namespace TM
open PySem PySem.Spec PyProof.Rows L2

section
variable {X : Cx} {G : Glo} {en : Ent} {W : WX} {c : Ct} {L : Nat} {r : Evs} {pos : Pos}
theorem swap_par (st : Stat X G c W L) {ts vs : List Expr} {is : List Nat} {fs : List (Bool × Ex)} {k k' : Nat} {p p' : Pos} (hts : nsX c ts = some is) (hv : vs.length = ts.length) (ha : PA X vs (tVs X G en W fs)) (h : swB c ts vs = true) :
    PS X (.Assign [.Tuple ts k p] (.Tuple vs k' p') pos) (tS X G en W (parS is fs)) := by
  obtain ⟨hw, hl, hn, he⟩ := sw_some (k := k) (k' := k') (p := p) (p' := p') st h
  have nd : X.N.Nodup := by rw [st.N]; exact st.nd
  have neq : ∀ {i j : Nat} {x y : Str}, X.N[i]? = some x → X.N[j]? = some y → x ≠ y → i ≠ j := fun {i j x y} h1 h2 h3 z => by
    subst z; rw [h1] at h2; exact h3 (Option.some.inj h2)
  rcases hl with hl | hl
  · match ts, vs, hl, hv with
    | [t1, t2], [v1, v2], _, _ =>
      obtain ⟨x, px, i, js, rfl, hi, hts1, rfl⟩ := nsX_cons hts
      obtain ⟨y, py, j, js', rfl, hj, hts2, rfl⟩ := nsX_cons hts1
      cases hts2
      have e : x ≠ y := er2 he
      obtain ⟨a1, _, _⟩ := st.ls_slot hi
      obtain ⟨b1, _, _⟩ := st.ls_slot hj
      refine ps_imp (ps_par st.calm nd a1 b1 (neq a1 b1 e) (hn _ List.mem_cons_self) (hn _ (List.mem_cons_of_mem _ List.mem_cons_self)) ha hw (swapsS_of rfl)) fun D σ H q => ?_
      refine tVs_mono fs (fun us H1 h => ?_) (par_gen q)
      obtain ⟨h1, h2, h3⟩ := h
      match us, h1 with
      | [u1, u2], _ => exact ⟨u1, u2, rfl, par_fin h3⟩
  · match ts, vs, hl, hv with
    | [t1, t2, t3], [v1, v2, v3], _, _ =>
      obtain ⟨x, px, i, js, rfl, hi, hts1, rfl⟩ := nsX_cons hts
      obtain ⟨y, py, j, js', rfl, hj, hts2, rfl⟩ := nsX_cons hts1
      obtain ⟨z, pz, l, js2, rfl, hll, hts3, rfl⟩ := nsX_cons hts2
      cases hts3
      obtain ⟨e1, e2, e3⟩ := er3 he
      obtain ⟨a1, _, _⟩ := st.ls_slot hi
      obtain ⟨b1, _, _⟩ := st.ls_slot hj
      obtain ⟨c1, _, _⟩ := st.ls_slot hll
      refine ps_imp (ps_par3 st.calm nd a1 b1 c1 (neq a1 b1 e1) (neq a1 c1 e2) (neq b1 c1 e3) (hn _ List.mem_cons_self) (hn _ (List.mem_cons_of_mem _ List.mem_cons_self)) (hn _ (List.mem_cons_of_mem _ (List.mem_cons_of_mem _ List.mem_cons_self))) ha hw) fun D σ H q => ?_
      refine tVs_mono fs (fun us H1 h => ?_) (par_gen q)
      obtain ⟨h1, h2, h3⟩ := h
      match us, h1 with
      | [u1, u2, u3], _ => exact ⟨u1, u2, u3, rfl, par_fin h3⟩
theorem asgTup_ok (st : Stat X G c W L) (hr : r.Ok) {ts vs : List Expr} {k k' : Nat} {p p' : Pos} : PS X (.Assign [.Tuple ts k p] (.Tuple vs k' p') pos) (tS X G en W (asgTup c r ts vs)) := by
  unfold asgTup
  split
  · rename_i h0
    rw [Bool.and_eq_true] at h0
    have hv := eq_of_beq h0.2
    split
    · rename_i is his
      obtain ⟨hn, hl⟩ := nsX_nst his
      have ha := flagS_ok (en := en) (W := W) st hr (is := is) (es := vs) (by rw [hl, hv]) h0.1
      split
      · rename_i hb
        rw [Bool.or_eq_true] at hb
        rcases hb with hb | hb
        · exact swap_par st his hv ha hb
        · exact ps_parR st his ha (pl_none st hb)
      · exact ps_x
    · split
      · rename_i hb
        split
        · rename_i g idx hg
          exact ps_g (pe_t (esE_ok (hr.e X G en c W L st) vs)) (tgE_ok st st.calm 4 (.Tuple ts k p) g idx hg) (swapsS_of rfl) (pl_none st hb) rfl
        · exact ps_x
      · exact ps_x
  · exact ps_x
theorem appX_ok (st : Stat X G c W L) (hr : r.Ok) {ex : Expr} {f : Sx} (h : appX c r ex = some f) : PS X (.Expr ex pos) (tS X G en W f) := by
  unfold appX at h
  split at h
  · split at h
    · rename_i ha
      subst ha
      split at h
      · rename_i i hx
        split at h
        · rename_i hb
          rw [Bool.and_eq_true] at hb
          cases h
          obtain ⟨h1, h2, h3, h4⟩ := st.rs_slot hx
          refine ps_app h1 h2 h3 h4 (hr.e X G en c W L st _) (base_of rfl) hb.1 (star_nst hb.2) (swaps_of rfl) ?_
          have := (star_all (es := [_]) (env := X.env) (by rw [List.all_cons, hb.2]; rfl)).2
          rw [back_all, this]
          rfl
        · cases h
      · cases h
    · cases h
  · cases h
theorem blkX_ok (st : Stat X G c W L) {s : Sv} (hs : ∀ stm, PS X stm (tS X G en W (s c stm))) : ∀ sts : List Stmt, PSs X sts (tS X G en W (blkX s c sts))
  | [] => pss_n
  | stm :: r => pss_z (c.frz stm.pos.line) (f := seqS (s c stm) (blkX s c r)) (pss_c (hs stm) (blkX_ok st hs r))
theorem notup_of {ex : Expr} (h : ∀ (vs : List Expr) (k : Nat) (pos : Pos), ex = Expr.Tuple vs k pos → False) : notup ex = true := by
  cases ex <;> first | rfl | exact (h _ _ _ rfl).elim
theorem stepS_ok (st : Stat X G c W L) (hr : r.Ok) {b : Ct → List Stmt → Sx} (hb : ∀ sts, PSs X sts (tS X G en W (b c sts))) (stm : Stmt) : PS X stm (tS X G en W (stepS r b c stm)) := by
  have ee := hr.e X G en c W L st
  have tt := hr.t X G en c W L st
  have nd : X.N.Nodup := by rw [st.N]; exact st.nd
  unfold stepS
  split
  · split
    · rename_i f h
      exact appX_ok st hr h
    · split
      · rename_i h
        exact ps_e (ee _) (swaps_of h)
      · exact ps_x
  · split
    · exact ps_rnew (hr.n X G en c W L st _)
    · exact ps_r (ee _)
  · exact ps_rn
  · exact ps_cont
  · exact ps_brk
  · exact ps_pss
  · split
    · rename_i x px
      split
      · rename_i i hi
        split
        · exact asgLc_ok st hr hi
        · split
          · rename_i hn
            obtain ⟨a1, a2, a3⟩ := st.ls_slot hi
            split
            · exact ps_new nd a1 a2 (hr.n X G en c W L st _) (swaps_of hn) a3
            · exact ps_s nd a1 a2 (ee _) (swaps_of hn) a3
          · exact ps_x
      · exact ps_x
    · rename_i ts k p
      split
      · exact asgTup_ok st hr
      · split
        · rename_i hn
          split
          · rename_i g idx hg
            refine ps_g (ee _) (tgE_ok st st.calm 4 (.Tuple ts k p) g idx hg) (swapsS_of hn) (stores_of (notup_of ‹_›)) rfl
          · exact ps_x
        · exact ps_x
    · split
      · rename_i i hx
        split
        · rename_i hb
          rw [Bool.and_eq_true, Bool.and_eq_true] at hb
          obtain ⟨h1, h2, h3, h4⟩ := st.rs_slot hx
          exact ps_sti h1 h2 h3 h4 (ee _) (ee _) hb.1.1 hb.1.2 hb.2
        · exact ps_x
      · exact ps_x
    · exact ps_x
  · split
    · rename_i i o hi ho
      obtain ⟨a1, a2, a3⟩ := st.ls_slot hi
      exact ps_augO nd a1 a2 (oE_ok st ee _) (iopK_ok ho) a3
    · exact ps_x
  · exact ps_i (tt _) (hb _) (hb _)
  · exact ps_w c.fuel st.po (tt _) (hb _)
  · split
    · rename_i g idx hg
      split
      · rename_i hs
        exact ps_f st.po st.calm (hr.i X G en c W L st _ _) (tgE_ok st st.calm 4 _ g idx hg) (hb _) (fold_of hs)
      · exact ps_x
    · exact ps_x
  · split
    · rename_i i hx
      obtain ⟨hg, hd, A⟩ := st.rs_glo hx
      exact ps_rai st.calm st.tk A hg hd
    · exact ps_x
  · exact ps_x
theorem sv_ok (hr : r.Ok) : ∀ (n : Nat) {X : Cx} {c : Ct} {W : WX} {L : Nat}, Stat X G c W L → ∀ stm, PS X stm (tS X G en W (sv r n c stm))
  | 0, _, _, _, _, _, _ => ps_x
  | n + 1, _, _, _, _, st, stm => stepS_ok st hr (fun sts => blkX_ok st (fun s => sv_ok hr n st s) sts) stm
end
/-- a def's body -/
def bodyX (n : Nat) (c : Ct) (sts : List Stmt) : Sx := blkX (sv (ev n) n) c sts
/-- what a def must look like -/
structure DefOk (c : Ct) (st : Stmt) (ps : List Str) : Prop where
  fs : FnScope c.N ps (defScope st)
  sc : c.sc = (defScope st).names
  nd : c.N.Nodup
  dbg : ∀ x ∈ c.N, (x == ("__debug__" : Str)) = false ∧ (x == ("__classdict__" : Str)) = false
  le : ps.length ≤ c.N.length
section
variable {P : Program} {w : World} {K : PySem.W.Frag} {mg : Str → Option Value} {base : Heap} {G : Glo}
/-- THE RULE: a def of the text computes what the text reads as. gl: what its global names are, in every frame of it -/
theorem def_okE {x qual : Str} {st : Stmt} {ad : Addr} {fd : FuncData} {ps : List Str} {c : Ct} {L : Nat} (n : Nat) (F : Fun K x qual st ad fd) (D : DefOk c st ps)
    (gl : ∀ (X : Cx), X.prog = P → X.w = w → X.K = K → X.mg = mg → X.base = base → X.env.code = fd.code → X.env.qual = qual ++ ".<locals>." → ∀ y g, c.gl.lookup y = some g → GOk X G c L y g)
    (fv : ∀ j ad n m, G.fa j = some ad → c.Φ j = some (n, m) → FnI P w K mg base G L ad n m) : FnOk P w K mg base (L2N.CX P w) (L + 3) ad fd ps (spF K G (runF c.N.length ps.length (bodyX n c (defBody st))) ps.length) := by
  refine fn_okE (k := L + 2) F D.fs D.le fun X e W h1 h2 h3 h4 h5 h6 h7 h8 h9 h10 h11 h12 h13 h14 => ?_
  have S : Stat X G c W L := ⟨h6, D.nd, D.dbg, fun y k hk => ⟨k, by rw [h7, ← D.sc]; exact hk, .inl rfl⟩, fun y _ => h8 y, by rw [h7]; exact D.fs.kind, h9, h11, h12, h10.mono (Nat.le_add_right L 2), fun _ => h10, gl X h1 h2 h3 h4 h5 h13 h14,
    fun j ad n m a b => by rw [h1, h2, h3, h4, h5]; exact fv j ad n m a b⟩
  exact blkX_ok S (fun stm => sv_ok (ev_ok n) n S stm) (defBody st)
theorem def_ok {x qual : Str} {st : Stmt} {ad : Addr} {fd : FuncData} {ps : List Str} {c : Ct} {L : Nat} (n : Nat) (F : Fun K x qual st ad fd) (D : DefOk c st ps) (hbind : Binds K fd ps [])
    (gl : ∀ (X : Cx), X.prog = P → X.w = w → X.K = K → X.mg = mg → X.base = base → X.env.code = fd.code → X.env.qual = qual ++ ".<locals>." → ∀ y g, c.gl.lookup y = some g → GOk X G c L y g)
    (fv : ∀ j ad n m, G.fa j = some ad → c.Φ j = some (n, m) → FnI P w K mg base G L ad n m) : FnI P w K mg base G (L + 3) ad ps.length (runF c.N.length ps.length (bodyX n c (defBody st))) := ⟨⟨fd, ps, def_okE n F D gl fv, hbind⟩, F.kp⟩
end
end TM

set_option Elab.async false
set_option linter.all false
set_option maxRecDepth 20000
set_option autoImplicit false
namespace TM
open PySem PySem.Spec PyProof.Rows L2

/-! ## a text's defs as data -/
structure DefX where
  nm : Str
  top : Nat
  N : List Str
  ps : List Str
  own : List Nat
  frz : List (Nat × List Nat)
  lam : Bool
instance : Inhabited DefX := ⟨⟨"", 0, [], [], [], [], false⟩⟩
def DefX.ct (gl : List (Str × GV)) (lam : Nat → Option Cat) (Φ : Nat → Option (Nat × Fm)) (D : DefX) (st : Stmt) : Ct :=
  { N := D.N, sc := (defScope st).names, gl := gl, Φ := Φ, own := D.own, frz := fun l => (D.frz.lookup l).getD [], fuel := 1000000, lam := lam, lok := D.lam }
/-- the defs, told to a depth of calls -/
def Φt (tp : Nat → Stmt) (ds : List DefX) (gl : List (Str × GV)) (lam : Nat → Option Cat) : Nat → Nat → Option (Nat × Fm)
  | 0, _ => none
  | n + 1, j => (ds[j]?).map fun D => (D.ps.length, runF D.N.length D.ps.length (bodyX 24 (D.ct gl lam (Φt tp ds gl lam n) (tp D.top)) (defBody (tp D.top))))
def callT (Φ : Nat → Option (Nat × Fm)) (j : Nat) (ds : List D) (S : Sto) : ER := match Φ j with
  | some (n, m) => if ds.length = n then m ds S else .stuck
  | none => .stuck
end TM

set_option Elab.async false
set_option linter.all false
set_option maxRecDepth 100000
set_option autoImplicit false
namespace TM
open PySem PySem.Spec PyProof.Rows L2 HotX L2H

/-! ## walks in an except suite: the end of an iterator there -/
section
variable {prog : Program} {w : World} {A : Around} {E : Value → Shared → Prop} {s : Shared}
theorem raise_stopH {α : Type} {x1 : Addr} {Q : α → Shared → Prop} (hot : HotAt A x1 s.heap)
    (hE : ∀ h' e, (∀ b o, s.heap.get? b = some o → h'.get? b = some o) → (∃ o, h'.get? e = some o ∧ o.cls = .type "StopIteration") → E (.ref e) { s with heap := h' }) :
    wpAny (model prog w) A (newExc (.type "StopIteration") [] >>= fun e => (raiseNew e : Sem α)) Q E s := by
  obtain ⟨hh, o1, vs1, h1, d1, c1⟩ := hot
  refine wpAny_bind ?_
  simp only [newExc, newTuple]
  refine wpAny_bind (wpAny_newObj_type ?_ (by size_fits))
  refine wpAny_bind (m := firstArgMember _ _) (wpAny_of_eq (a := Value.none) (by first | rfl | (simp only [firstArgMember]; rfl)) ?_)
  refine wpAny_newObj_type ?_ (by size_fits)
  refine raiseNew_hot ⟨hh, o1, vs1, Heap.get?_push_of_some _ (Heap.get?_push_of_some _ h1), d1, c1⟩ (Nat.ne_of_lt (Heap.lt_size (Heap.get?_push_of_some _ h1))) (Heap.get?_push_size _ rfl) rfl (by first | (simp; done) | (simp; omega) | (simp only [Array.size_append]; simp; omega)) ?_
  refine hE _ _ (fun b o e => ?_) ⟨_, Heap.get?_update_self _ (Heap.get?_push_size _ rfl) rfl, rfl⟩
  rw [Heap.get?_update_other _ _ (Nat.ne_of_gt (Heap.lt_size (Heap.get?_push_of_some _ e)))]
  exact Heap.get?_push_of_some _ (Heap.get?_push_of_some _ e)
theorem nextOf_list_endH {it l x1 : Addr} {i : Nat} {items : Array Value} {Q : Value → Shared → Prop} (hot : HotAt A x1 s.heap) (hxi : x1 ≠ it)
    (hit : s.heap.IsListIter it l i) (hl : s.heap.IsList l items) (hx : items[i]? = none)
    (hE : ∀ h' e, Heap.ExtBut it s.heap h' → (∃ o, h'.get? e = some o ∧ o.cls = .type "StopIteration") → E (.ref e) { s with heap := h' }) :
    wpAny (model prog w) A (Builtin.SmallTypes.nextOf (.ref it)) Q E s := by
  obtain ⟨o, ho, hc, hd⟩ := id hit
  obtain ⟨ol, hol, _, nl, hdl⟩ := hl
  obtain ⟨hh, o1, vs1, h1, d1, c1⟩ := hot
  unfold Builtin.SmallTypes.nextOf
  refine wpAny_bind (wpAny_callSpecial?_slot (name := Str.ofString "__next__") hit.typeIs slot_listiter_next
    (wpAny_call_entry slot_listiter_next hit.typeIs entry_listiter_next ?_ (args_listiter_next _)))
  show wpAny _ _ (field (.ref it) 0 >>= _) _ _ s
  refine wpAny_bind (wpAny_field ho hd (x := .ref l) rfl ?_)
  show wpAny _ _ (if (Value.ref l == Value.none) = true then _ else _) _ _ s
  rw [if_neg (show ¬ ((Value.ref l == Value.none) = true) from Bool.false_ne_true)]
  show wpAny _ _ (field (.ref it) 1 >>= _) _ _ s
  refine wpAny_bind (wpAny_field ho hd (x := .int i 0) rfl ?_)
  show wpAny _ _ (seqItems? (.ref l) >>= _) _ _ s
  refine wpAny_bind (wpAny_seqItems hol hdl ?_)
  simp only [Int.toNat_natCast, hx]
  refine wpAny_bind (wpAny_rule (wpAny_bind (wpAny_setField ho hd (by simp) ?_)))
  refine raise_stopH (x1 := x1) ⟨hh, o1, vs1, (Heap.SameBut.update ..).extBut _ _ hxi h1, d1, c1⟩ fun h' e kp st => ?_
  exact hE h' e (fun b o hb q => kp b o ((Heap.SameBut.update ..).extBut _ _ hb q)) st
theorem nextOf_tuple_endH {it l x1 : Addr} {i : Nat} {items : Array Value} {Q : Value → Shared → Prop} (hot : HotAt A x1 s.heap) (hxi : x1 ≠ it)
    (hit : s.heap.IsTupleIter it l i) (hl : s.heap.IsTuple l items) (hx : items[i]? = none)
    (hE : ∀ h' e, Heap.ExtBut it s.heap h' → (∃ o, h'.get? e = some o ∧ o.cls = .type "StopIteration") → E (.ref e) { s with heap := h' }) :
    wpAny (model prog w) A (Builtin.SmallTypes.nextOf (.ref it)) Q E s := by
  obtain ⟨o, ho, hc, hd⟩ := id hit
  obtain ⟨ol, hol, _, nl, hdl⟩ := hl
  obtain ⟨hh, o1, vs1, h1, d1, c1⟩ := hot
  unfold Builtin.SmallTypes.nextOf
  refine wpAny_bind (wpAny_callSpecial?_slot (name := Str.ofString "__next__") hit.typeIs F.slot_tuple_iterator_next
    (wpAny_call_entry F.slot_tuple_iterator_next hit.typeIs F.entry_tuple_iterator_next ?_ (F.args_tuple_iterator_next_1 _)))
  show wpAny _ _ (field (.ref it) 0 >>= _) _ _ s
  refine wpAny_bind (wpAny_field ho hd (x := .ref l) rfl ?_)
  show wpAny _ _ (if (Value.ref l == Value.none) = true then _ else _) _ _ s
  rw [if_neg (show ¬ ((Value.ref l == Value.none) = true) from Bool.false_ne_true)]
  show wpAny _ _ (field (.ref it) 1 >>= _) _ _ s
  refine wpAny_bind (wpAny_field ho hd (x := .int i 0) rfl ?_)
  show wpAny _ _ (seqItems? (.ref l) >>= _) _ _ s
  refine wpAny_bind (wpAny_seqItems hol hdl ?_)
  simp only [Int.toNat_natCast, hx]
  refine wpAny_bind (wpAny_rule (wpAny_bind (wpAny_setField ho hd (by simp) ?_)))
  refine raise_stopH (x1 := x1) ⟨hh, o1, vs1, (Heap.SameBut.update ..).extBut _ _ hxi h1, d1, c1⟩ fun h' e kp st => ?_
  exact hE h' e (fun b o hb q => kp b o ((Heap.SameBut.update ..).extBut _ _ hb q)) st
theorem drawsH_list {x1 it l : Addr} {o1 : Obj} {vs1 : Array Value} (hh : A.handled = some (.ref x1)) (d1 : o1.data = .fields vs1) (c1 : vs1[2]? = some .none) (hxi : x1 ≠ it) (hne : l ≠ it) (items : Array Value) :
    Draws prog w A it [it, l, x1] items.size (fun i v => items[i]? = some v) (fun i h => (h.IsListIter it l i ∧ h.IsList l items) ∧ h.get? x1 = some o1) where
  live := fun _ _ st => let ⟨o, ho, _⟩ := st.1.1; ⟨o, ho⟩
  frame := fun _ _ _ st hk => ⟨⟨st.1.1.at fun o e => hk it (by simp) o e, st.1.2.at fun o e => hk l (by simp) o e⟩, hk x1 (by simp) _ st.2⟩
  item := fun i s Q E hi st hQ => by
    refine wpAny_nextOf_list_item st.1.1 st.1.2 (x := items[i]) (by simp [hi]) fun h' hit' hs' => ?_
    exact hQ _ h' s.toks (by simp [hi]) ⟨⟨hit', st.1.2.extBut hs'.extBut hne⟩, hs'.extBut _ _ hxi st.2⟩ hs'
  done := fun s Q E st hE => nextOf_list_endH ⟨hh, o1, vs1, st.2, d1, c1⟩ hxi st.1.1 st.1.2 (by simp) hE
theorem drawsH_tuple {x1 it l : Addr} {o1 : Obj} {vs1 : Array Value} (hh : A.handled = some (.ref x1)) (d1 : o1.data = .fields vs1) (c1 : vs1[2]? = some .none) (hxi : x1 ≠ it) (hne : l ≠ it) (items : Array Value) :
    Draws prog w A it [it, l, x1] items.size (fun i v => items[i]? = some v) (fun i h => (h.IsTupleIter it l i ∧ h.IsTuple l items) ∧ h.get? x1 = some o1) where
  live := fun _ _ st => let ⟨o, ho, _⟩ := st.1.1; ⟨o, ho⟩
  frame := fun _ _ _ st hk => ⟨⟨st.1.1.at fun o e => hk it (by simp) o e, st.1.2.at fun o e => hk l (by simp) o e⟩, hk x1 (by simp) _ st.2⟩
  item := fun i s Q E hi st hQ => by
    refine wpAny_nextOf_tuple_item st.1.1 st.1.2 (x := items[i]) (by simp [hi]) fun h' hit' hs' => ?_
    exact hQ _ h' s.toks (by simp [hi]) ⟨⟨hit', st.1.2.extBut hs'.extBut hne⟩, hs'.extBut _ _ hxi st.2⟩ hs'
  done := fun s Q E st hE => nextOf_tuple_endH ⟨hh, o1, vs1, st.2, d1, c1⟩ hxi st.1.1 st.1.2 (by simp) hE
end
section
variable {X : Cx} {pins : List (Addr × Obj)} {σ : L2.St} {H : Hp} {s : Shared}
/-- no text -/
def Sk.seq : Sk → Bool
  | .s _ => false
  | _ => true
theorem Sk.drawsH {k : Sk} {A : Around} {it N x1 : Addr} {o1 : Obj} {vs1 : Array Value} {i : Nat} (hk : k.seq = true) (hh : A.handled = some (.ref x1)) (d1 : o1.data = .fields vs1) (c1 : vs1[2]? = some .none) (hxi : x1 ≠ it) (ho1 : s.heap.get? x1 = some o1)
    (I : Inv X pins σ H s) (fz : k.Fz X.K H) (hb : k.below N) (hN : N ≤ it) (st : k.itS it i s.heap) :
    ∃ (fp : List Addr) (P : Nat → Value → Prop) (St : Nat → Heap → Prop), Draws X.prog X.w A it (it :: fp) k.items.length P St ∧ (∀ b ∈ fp, b < N ∨ b = x1) ∧ St i s.heap ∧ (∀ i h, St i h → k.itS it i h) ∧ ∀ i v, P i v → ∃ x, k.items[i]? = some x ∧ RelV x v := by
  have two : ∀ {a : Addr}, a < N → ∀ b ∈ [a, x1], b < N ∨ b = x1 := fun {a} ha b hm => by
    rcases List.mem_cons.mp hm with e | e
    · rw [e]; exact .inl ha
    · exact .inr (List.mem_singleton.mp e)
  cases k with
  | l a vs =>
    obtain ⟨its, rv, p, _⟩ := I.list fz
    have hne : a ≠ it := Nat.ne_of_lt (Nat.lt_of_lt_of_le hb hN)
    have D := drawsH_list (prog := X.prog) (w := X.w) (A := A) hh d1 c1 hxi hne its.toArray
    rw [List.size_toArray, ← rv.length] at D
    refine ⟨[a, x1], _, _, D, two hb, ⟨⟨st, p.isList⟩, ho1⟩, fun i h q => q.1.1, fun j v q => ?_⟩
    have q : its.toArray[j]? = some v := q
    rw [List.getElem?_toArray] at q
    have hj : j < vs.length := by rw [rv.length]; exact (List.getElem?_eq_some_iff.mp q).1
    obtain ⟨u, hu, ru⟩ := rv.get (List.getElem?_eq_getElem hj)
    rw [hu] at q
    cases q
    exact ⟨_, List.getElem?_eq_getElem hj, ru⟩
  | t a vs =>
    obtain ⟨its, rv, p, _⟩ := I.tuple fz
    have hne : a ≠ it := Nat.ne_of_lt (Nat.lt_of_lt_of_le hb hN)
    have D := drawsH_tuple (prog := X.prog) (w := X.w) (A := A) hh d1 c1 hxi hne its.toArray
    rw [List.size_toArray, ← rv.length] at D
    refine ⟨[a, x1], _, _, D, two hb, ⟨⟨st, p⟩, ho1⟩, fun i h q => q.1.1, fun j v q => ?_⟩
    have q : its.toArray[j]? = some v := q
    rw [List.getElem?_toArray] at q
    have hj : j < vs.length := by rw [rv.length]; exact (List.getElem?_eq_some_iff.mp q).1
    obtain ⟨u, hu, ru⟩ := rv.get (List.getElem?_eq_getElem hj)
    rw [hu] at q
    cases q
    exact ⟨_, List.getElem?_eq_getElem hj, ru⟩
  | s z => cases hk
theorem zip_sepH {N x1 : Nat} {fp1 fp2 : List Nat} (h1 : ∀ b ∈ fp1, b < N ∨ b = x1) (h2 : ∀ b ∈ fp2, b < N ∨ b = x1) (hx : ∀ j : Nat, j ≤ 4 → x1 ≠ N + j) : ZipSep2 (N + 4) (N + 2) (N + 3) N (N + 1) (N :: fp1) ((N + 1) :: fp2) := by
  have nin : ∀ {fp : List Nat} (j i : Nat), (∀ b ∈ fp, b < N ∨ b = x1) → j ≤ 4 → j ≠ i → (N + j) ∉ (N + i) :: fp := fun {fp} j i h hj ne hm => by
    rcases List.mem_cons.mp hm with e | e
    · exact ne (Nat.add_left_cancel e)
    · rcases h _ e with z | z
      · omega
      · exact hx j hj z.symm
  have ne : ∀ (a b : Nat), a ≠ b → (N + a : Nat) ≠ N + b := fun a b h e => h (Nat.add_left_cancel e)
  exact ⟨ne 2 4 (by decide), ne 3 4 (by decide), ne 2 3 (by decide), ne 2 0 (by decide), List.mem_cons_self .., nin 4 0 h1 (by decide) (by decide), nin 3 0 h1 (by decide) (by decide),
    ne 2 1 (by decide), List.mem_cons_self .., nin 4 1 h2 (by decide) (by decide), nin 3 1 h2 (by decide) (by decide), nin 0 1 h2 (by decide) (by decide), nin 1 0 h1 (by decide) (by decide)⟩
/-- the handled exception's object is none of a zip's -/
theorem hot_apart {x1 N : Addr} {h : Heap} {k1 k2 : Sk} {i : Nat} {o1 : Obj} {vs1 : Array Value} (ho : h.get? x1 = some o1) (d1 : o1.data = .fields vs1) (c1 : vs1[2]? = some .none) (q1 : k1.seq = true) (q2 : k2.seq = true)
    (hz : IsZip h (N + 4) (N + 2) (N + 3) .none) (hTI : IsTupOf2 h (N + 2) (.ref N) (.ref (N + 1))) (hTO : ∃ a1 a2, IsTupOf2 h (N + 3) a1 a2) (s1 : k1.itS N i h) (s2 : k2.itS (N + 1) i h) : ∀ j : Nat, j ≤ 4 → x1 ≠ N + j := by
  have ni : ∀ {k : Sk} {it : Addr}, k.seq = true → k.itS it i h → x1 ≠ it := fun {k it} q st e => by
    subst e
    cases k with
    | l a vs =>
      obtain ⟨o, e, _, d⟩ := st
      rw [ho] at e; cases e
      rw [d1] at d; cases d; simp at c1
    | t a vs =>
      obtain ⟨o, e, _, d⟩ := st
      rw [ho] at e; cases e
      rw [d1] at d; cases d; simp at c1
    | s z => cases q
  intro j hj e
  obtain ⟨a1, a2, hTO⟩ := hTO
  have : j = 0 ∨ j = 1 ∨ j = 2 ∨ j = 3 ∨ j = 4 := by omega
  rcases this with rfl | rfl | rfl | rfl | rfl
  · exact ni q1 s1 e
  · exact ni q2 s2 e
  · subst e
    have hTI : h.get? (N + 2) = some _ := hTI
    rw [ho] at hTI; cases hTI; cases d1
  · subst e
    have hTO : h.get? (N + 3) = some _ := hTO
    rw [ho] at hTO; cases hTO; cases d1
  · subst e
    have hz : h.get? (N + 4) = some _ := hz
    rw [ho] at hz; cases hz; cases d1; simp at c1
theorem turn_zipKH {P : Program} {w : World} {K : PySem.W.Frag} {elts : List Expr} {kk : Nat} {tpos : Pos} {k1 k2 : Sk} {N : Nat} (q1 : k1.seq = true) (q2 : k2.seq = true) (h1 : k1.below N) (h2 : k2.below N) :
    TurnH P w K (.Tuple elts kk tpos) (ItP K k1 k2) [N + 4, N + 2, N + 3, N, N + 1] (N + 4)
      (fun i h => IsZip h (N + 4) (N + 2) (N + 3) .none ∧ IsTupOf2 h (N + 2) (.ref N) (.ref (N + 1)) ∧ (∃ a1 a2, IsTupOf2 h (N + 3) a1 a2) ∧ k1.itS N i h ∧ k2.itS (N + 1) i h) where
  mem := by simp
  obj := (turn_zipK (P := P) (w := w) (K := K) (elts := elts) (kk := kk) (tpos := tpos) h1 h2).obj
  keep := (turn_zipK (P := P) (w := w) (K := K) (elts := elts) (kk := kk) (tpos := tpos) h1 h2).keep
  item := by
    intro X hP hw hK hc i pins s σ H E I hf st hg
    subst hP hw hK
    obtain ⟨hz, hTI, hTO, s1, s2⟩ := st
    obtain ⟨hi, f1, f2⟩ := hg
    obtain ⟨⟨x1, o1⟩, ⟨hh, vs1, d1, c1⟩, hpn⟩ := hc
    have ho1 := (I.pin (x1, o1) (List.mem_append_left _ hpn)).1
    have ap := hot_apart ho1 d1 c1 q1 q2 hz hTI hTO s1 s2
    obtain ⟨fp1, P1, St1, D1, b1, t1, u1, v1⟩ := Sk.drawsH (A := X.A.in1) q1 hh d1 c1 (ap 0 (by decide)) ho1 I f1 h1 (Nat.le_refl N) s1
    obtain ⟨fp2, P2, St2, D2, b2, t2, u2, v2⟩ := Sk.drawsH (A := X.A.in1) q2 hh d1 c1 (ap 1 (by decide)) ho1 I f2 h2 (Nat.le_add_right N 1) s2
    have W := GoesN.zip2 (elts := elts) (x1 := kk) (pos := tpos) (zip_sepH b1 b2 ap) D1 D2
    refine W.goes i s _ _ hi ⟨hz, hTI, hTO, t1, t2⟩ fun v h' tk hY st' hk htk => ?_
    obtain ⟨T, x, y, rfl, hT, px, py, ht⟩ := hY
    obtain ⟨xv, ex, rx⟩ := v1 _ _ px
    obtain ⟨yv, ey, ry⟩ := v2 _ _ py
    obtain ⟨hz', hTI', hTO', t1', t2'⟩ := st'
    have new : ObjOk X.prog X.w (upd H T (.tup [xv, yv])) h' T (.tup [xv, yv]) := ⟨by show 2 ≤ sizeLine; decide, [x, y], .cons rx (.cons ry .nil), ht⟩
    have I1 : Inv X pins σ (upd H T (.tup [xv, yv])) { s with heap := h', toks := tk } :=
      I.turnedNew (ch := [N + 4, N + 2, N + 3, N, N + 1]) (fun c o hb q => hk c o (fun z => hb (by simp at z ⊢; rcases z with z | z | z | z <;> simp [z])) q) hf hT new
    refine ⟨.ref T, _, I1, rfl, ⟨T, xv, yv, rfl, I.hok.fresh hT, rfl, ex, ey⟩, ⟨hz', hTI', hTO', u1 _ _ t1', u2 _ _ t2'⟩, fun c hcm => ?_⟩
    have hlt : c < s.heap.objs.size := by
      obtain ⟨a1, a2, hTO⟩ := hTO
      rcases mem5 hcm with q | q | q | q | q
      · rw [q]; exact Heap.lt_size hz
      · rw [q]; exact Heap.lt_size hTI
      · rw [q]; exact Heap.lt_size hTO
      · rw [q]; obtain ⟨_, e, _⟩ := Sk.itS_obj (k := k1) s1; exact Heap.lt_size e
      · rw [q]; obtain ⟨_, e, _⟩ := Sk.itS_obj (k := k2) s2; exact Heap.lt_size e
    rw [upd_ne (Nat.ne_of_lt (Nat.lt_of_lt_of_le hlt hT))]
    exact (hf c hcm).1
  done := by
    intro X hP hw hK hc i pins s σ H E I hf st hg
    subst hP hw hK
    obtain ⟨hz, hTI, hTO, s1, s2⟩ := st
    obtain ⟨rfl, f1, f2⟩ := hg
    obtain ⟨⟨x1, o1⟩, ⟨hh, vs1, d1, c1⟩, hpn⟩ := hc
    have ho1 := (I.pin (x1, o1) (List.mem_append_left _ hpn)).1
    have ap := hot_apart ho1 d1 c1 q1 q2 hz hTI hTO s1 s2
    obtain ⟨fp1, P1, St1, D1, b1, t1, u1, v1⟩ := Sk.drawsH (A := X.A.in1) q1 hh d1 c1 (ap 0 (by decide)) ho1 I f1 h1 (Nat.le_refl N) s1
    obtain ⟨fp2, P2, St2, D2, b2, t2, u2, v2⟩ := Sk.drawsH (A := X.A.in1) q2 hh d1 c1 (ap 1 (by decide)) ho1 I f2 h2 (Nat.le_add_right N 1) s2
    have W := GoesN.zip2 (elts := elts) (x1 := kk) (pos := tpos) (zip_sepH b1 b2 ap) D1 D2
    refine W.stops s (fun s' => Inv X pins σ H s') E ⟨hz, hTI, hTO, t1, t2⟩ fun h' tk hk htk => ?_
    exact I.turnedL (ch := [N + 4, N + 2, N + 3, N, N + 1]) (fun c o hb q => hk c o (fun z => hb (by simp at z ⊢; rcases z with z | z | z | z <;> simp [z])) q) hf
  self := fun A i s Q E st h => wpAny_pyIter_zip st.1 h
end
/-! ### zip over lists and tuples, there -/
/-- a list or a tuple -/
def seqD : D → Bool
  | .lst _ => true
  | .tup _ => true
  | _ => false
def zipLO : List D → Option (List D)
  | [x, y] => if seqD x && seqD y then (itemsO x).bind fun xs => (itemsO y).bind fun ys => some (List.zipWith (fun u v => D.tup [u, v]) xs ys) else none
  | _ => none
theorem Rp.kindS {K : PySem.W.Frag} {G : Glo} {F : Hp} {α : List Addr} {d : D} {v : V} (r : Rp K G α F d v) {ds : List D} (h : itemsO d = some ds) (hq : seqD d = true) : ∃ k : Sk, k.seq = true ∧ v = k.val ∧ SkD K G F α k ds := by
  cases r with
  | tup t z q => cases h; exact ⟨.t _ _, rfl, rfl, fun F2 e H e' => same_tup e' (same_tup e t), q⟩
  | lst t z q => cases h; exact ⟨.l _ _, rfl, rfl, fun F2 e H e' => .of (e' _ _ (e _ _ t)), q⟩
  | _ => cases hq
section
variable {X : Cx} {G : Glo} {e : Ent} {W : WX} {fs : Exs} {a b : Expr} {p pos tpos : Pos} {elts : List Expr} {kk : Nat}
theorem pi_zipNH (hg : Gl X "zip") (hm : X.mg "zip" = none) (ha : PA X [a, b] (tPs X G e W fs)) (hs : starEach [a, b] X.env = (false, eval a X.env) :: starEach [b] X.env) (hpl : (backTo pos (starEach [b] X.env)).any (·.1) = false) :
    PIH X (.Tuple elts kk tpos) (.Call (.Name "zip" p) [a, b] [] pos) (tI X G e W (srcI zipLO fs)) := by
  refine ⟨fun pins s σ H R I h => ?_⟩
  refine Call_ (ld_blt I hg hm PyProof.Rows.boot_zip (PyProof.Rows.callWith_type1 (thn (ha.run pos pins s σ H _ I (src_post h)) fun us s1 ⟨vs, H1, I1, r1, q1⟩ => ?_) hs hpl))
  obtain ⟨ds, S1, F1, α1, zs, w1, rd, ez, kz⟩ := q1
  unfold zipLO at ez
  split at ez
  · rename_i x y
    have hb : (seqD x && seqD y) = true := by
      cases hb : (seqD x && seqD y) with
      | true => rfl
      | false => rw [hb] at ez; cases ez
    rw [if_pos hb] at ez
    rw [Bool.and_eq_true] at hb
    cases hx : itemsO x with
    | none => rw [hx] at ez; cases ez
    | some xs =>
      cases hy : itemsO y with
      | none => rw [hx, hy] at ez; cases ez
      | some ys =>
        rw [hx, hy] at ez
        cases ez
        cases rd with
        | cons ra rt =>
          cases rt with
          | cons rb rt =>
            cases rt
            obtain ⟨k1, qq1, rfl, d1⟩ := ra.kindS hx hb.1
            obtain ⟨k2, qq2, rfl, d2⟩ := rb.kindS hy hb.2
            cases r1 with
            | cons ru rr =>
              cases rr with
              | cons ru2 rr =>
                cases rr
                have f1 := d1.fz (Same.refl _) w1.sub
                have f2 := d2.fz (Same.refl _) w1.sub
                obtain ⟨b1, o1, h1, B1, hh1, it1⟩ := Sk.begins I1 f1 ru
                obtain ⟨b2, o2, h2, B2, hh2, it2⟩ := Sk.begins I1 f2 ru2
                refine zip_begins2 B1 B2 hh1 hh2 fun h' hz hTI hTO g1 g2 hsz hk => wpAny_pyIter_zip hz ?_
                have I2 : Inv X pins σ H1 { s1 with heap := h' } := I1.kept (t' := s1.toks) hk
                refine ⟨_, _, _, _, H1, rfl, I2, turn_zipKH (k1 := k1) (k2 := k2) qq1 qq2 b1 b2, ⟨hz, hTI, ⟨_, _, hTO⟩, it1 _ _ g1, it2 _ _ g2⟩, fun c hcm => ?_, kz _ _ _ _ w1 (.refl _ _ _) (wlk_zip d1 d2)⟩
                have hle : s1.heap.objs.size ≤ c := by
                  rcases mem5 hcm with z | z | z | z | z
                  · rw [z]; exact Nat.le_add_right _ _
                  · rw [z]; exact Nat.le_add_right _ _
                  · rw [z]; exact Nat.le_add_right _ _
                  · rw [z]; exact Nat.le_refl _
                  · rw [z]; exact Nat.le_add_right _ _
                exact I1.fpOk hle (I1.hok.fresh hle)
  · cases ez
end
section
variable {X : Cx}
/-- a block in an except suite: the handled exception stands fast there -/
abbrev blkP (X : Cx) (px : Addr × Obj) (s : Shared) (H : Hp) (scope : Scope) (cenv : Env) (fp : List Addr) : Cx := { X.blk s H scope cenv fp with pn := [px] }
theorem lc_hot {pins : List (Addr × Obj)} {s : Shared} {σ : L2.St} {H : Hp} {Q : VK} {elt tg iter : Expr} {ifs : List Expr} {scope : Scope} {own : List (Str × Nat)} {pos pos' : Pos} {wi : TI} {g : TG} {tt : TT} {te : TE} {use : Option (Value → Sem Unit)} {Qf : Value → Shared → Prop}
    {px : Addr × Obj} (hot : Hot1 X.A px) (hpx : px ∈ X.pn) (hN : X.N.Nodup) (I : Inv X pins σ H s) (hi : PIH X tg iter wi) (ok : BlkOk X.N X.env.scope scope own)
    (hg : ∀ (s : Shared) (H : Hp) (C : Addr) (cl : List (Str × Addr)) (fp : List Addr), PG (blkP X px s H scope (compEnvC scope cl C X.env) fp) tg g) (ht : ∀ (s : Shared) (H : Hp) (C : Addr) (cl : List (Str × Addr)) (fp : List Addr), PTs (blkP X px s H scope (compEnvC scope cl C X.env) fp) ifs tt)
    (he : ∀ (s : Shared) (H : Hp) (C : Addr) (cl : List (Str × Addr)) (fp : List Addr), PE (blkP X px s H scope (compEnvC scope cl C X.env) fp) elt te) (hs : ∀ x, foldedSetIterable iter X.env x = pure x)
    (h : tLc wi g tt te (own.map (·.2)) σ H Q)
    (hRR : ∀ D C s' m H', Inv X pins σ H' s' → Q (.ref D) H' → s'.heap.Ns C m → FpOk X pins H' C → compPost (model X.prog X.w) X.A X.xe use Qf (.ref D) C (.ok .next) s') :
    wpAny (model X.prog X.w) X.A (comprehension (.ListComp elt [⟨tg, iter, ifs, 0⟩] scope pos) scope X.env pos' (newList []) false (eval iter X.env) use) Qf X.xe s := by
  have hfree : ∀ y ∈ scope.names, y.2 = .free → ∃ c, X.env.cells.lookup y.1 = some c := fun y hy e => by
    rcases ok.free y hy e with k | k
    · exact I.ok.has _ (.inl k)
    · exact I.ok.has _ (.inr k)
  refine wpAny_comprehension_free (use := use) rfl hs (closure_ok hfree) ok.kind (fun y hy e => by rw [ok.uniq y hy, e])
    (thn (hi.run pins s σ H _ I h) fun xv s1 hx => thn hx fun itv s2 h2 => ?_)
  obtain ⟨it, fp, tn, J, H2, e, I2, T, st2, f2, q⟩ := h2
  subst e
  refine wpAny_newObj_type (newEnv_comp ?_) (by show 0 ≤ sizeLine; decide)
  generalize hD : s2.heap.objs.size = D
  have hDn : H2 D = none := I2.hok.fresh (Nat.le_of_eq hD)
  obtain ⟨W, ⟨m0, w0⟩, turn⟩ := q D hDn
  -- the new list
  generalize hs3 : ({ s2 with heap := s2.heap.push { cls := .type "list", data := .seq ([] : List Value).toArray } } : Shared) = s3
  have I3 : Inv X pins σ (upd H2 D (.lst [])) s3 := by
    rw [← hs3]
    refine I2.laid (t' := s2.toks) (fun b o e => Heap.get?_push_of_some _ e) (Nat.le_of_eq hD) ⟨Nat.zero_le _, [], 0, .nil, ?_⟩
    rw [← hD]
    exact Heap.get?_push_size _ rfl
  have h3 : s3.heap = s2.heap.push { cls := .type "list", data := .seq ([] : List Value).toArray } := by rw [← hs3]
  have sz : ∀ b ∈ fp, b < s2.heap.objs.size := fun b hb => by
    obtain ⟨o, e, _⟩ := T.obj _ _ st2 b hb
    exact Heap.lt_size e
  have f3 : ∀ b ∈ fp, FpOk X pins (upd H2 D (.lst [])) b ∧ b < s3.heap.objs.size := fun b hb => by
    have hlt := sz b hb
    refine ⟨⟨?_, (f2 b hb).2⟩, by rw [h3, Heap.size_push]; exact Nat.lt_succ_of_lt hlt⟩
    rw [upd_ne (by rw [← hD]; exact Nat.ne_of_lt hlt)]
    exact (f2 b hb).1
  have st3 : tn 0 s3.heap := T.keep _ _ _ st2 fun b _ o e => by rw [h3]; exact Heap.get?_push_of_some _ e
  have I4 := block_start I3 ok hN f3
  have pg := hg s3 (upd H2 D (.lst [])) s3.heap.objs.size (cellsFrom (s3.heap.objs.size + 1) scope.names (cloFrom X.env.cells scope.names [])) fp
  have pt := ht s3 (upd H2 D (.lst [])) s3.heap.objs.size (cellsFrom (s3.heap.objs.size + 1) scope.names (cloFrom X.env.cells scope.names [])) fp
  have pe := he s3 (upd H2 D (.lst [])) s3.heap.objs.size (cellsFrom (s3.heap.objs.size + 1) scope.names (cloFrom X.env.cells scope.names [])) fp
  show codeAny _ _ (.compStart (.ListComp elt [⟨tg, iter, ifs, 0⟩] scope pos) 0 (.ref it) (.ref D) (compEnvC scope (cellsFrom (s3.heap.objs.size + 1) scope.names (cloFrom X.env.cells scope.names [])) s3.heap.objs.size X.env)) (compPost (model X.prog X.w) X.A X.xe use Qf (.ref D) s3.heap.objs.size) { s3 with heap := pushCells (s3.heap.push { cls := .type "dict", data := .dict #[] }) scope.names }
  have nfp : ∀ b ∈ fp, (upd H2 D (.lst [])) b = none := fun b hb => (f3 b hb).1.1
  generalize hce : compEnvC scope (cellsFrom (s3.heap.objs.size + 1) scope.names (cloFrom X.env.cells scope.names [])) s3.heap.objs.size X.env = ce at I4 pg pt pe ⊢
  have cL : ce.locals = s3.heap.objs.size := by subst hce; rfl
  generalize hH3 : upd H2 D (.lst []) = H3 at I3 I4 pg pt pe w0 nfp f3
  generalize hs4 : ({ s3 with heap := pushCells (s3.heap.push { cls := .type "dict", data := .dict #[] }) scope.names } : Shared) = s4 at I4 ⊢
  have st4 : tn 0 s4.heap := T.keep _ _ _ st3 fun b _ o e => by rw [← hs4]; exact pushCells_keeps _ _ _ _ (Heap.get?_push_of_some _ e)
  -- the handled exception stands there too
  obtain ⟨px1, px2, px3, px4, px5⟩ := I3.pin px (List.mem_append_left _ hpx)
  have pxf : ∀ b ∈ fp, px.1 ≠ b := fun b hb => (f3 b hb).1.2.2.2.2.2 px (List.mem_append_left _ hpx)
  have pxs : px.1 ∉ frs X.stack := fun hm => by
    rcases List.mem_cons.mp (I3.stkSub _ hm) with e | e
    · exact px3 e
    · exact px4 e
  have pxl : px.1 ≠ ce.locals := by rw [cL]; exact Nat.ne_of_lt (Heap.lt_size px1)
  have toY : ∀ {pl : List (Addr × Obj)} {σ' : L2.St} {H' : Hp} {s' : Shared}, Inv (X.blk s3 H3 scope ce fp) pl σ' H' s' → Inv (blkP X px s3 H3 scope ce fp) pl σ' H' s' := fun {pl σ' H' s'} J =>
    ⟨⟨J.ok.mod, J.ok.kind, J.ok.glob, J.ok.blt, J.ok.above, J.ok.inj, J.ok.has, J.ok.cab, J.ok.hd, J.ok.frames, J.ok.stk, J.ok.exf, J.ok.bs, J.ok.bsz, J.ok.noex, J.ok.exfs, J.ok.funs, J.ok.frf⟩,
      J.os, J.bare, J.base, J.loc, J.cell, J.free, J.freeC, fun q hq => by
        rcases List.mem_append.mp hq with m | m
        · rw [List.mem_singleton.mp m]
          exact ⟨J.base.keep _ _ px1 px2 pxs fun hm => pxf _ hm rfl, J.base.free _ _ px1 px2 fun hm => pxf _ hm rfl, pxl, pxs, px5⟩
        · exact J.pin q (List.mem_append_right _ m), J.hok, J.len⟩
  have statY : ∀ {σ' : L2.St} {H' : Hp} {s' : Shared}, Inv (blkP X px s3 H3 scope ce fp) [] σ' H' s' → (∀ b ∈ fp, H' b = none) → ∀ b ∈ fp, FpOk (blkP X px s3 H3 scope ce fp) [] H' b := fun {σ' H' s'} J hn b hb =>
    ⟨hn b hb, (J.ok.exf b hb).1, J.ok.exfs b hb, .inl hb, fun x c e => (J.ok.exf b hb).2 x c e, fun p hp => by
      have hp' : p ∈ [px] := by simpa using hp
      rw [List.mem_singleton.mp hp']; exact pxf b hb⟩
  have hotY : HotC (blkP X px s3 H3 scope ce fp) := ⟨px, hot, List.mem_singleton_self _⟩
  have loop : codeAny (model X.prog X.w) X.A (.compLoop (.ListComp elt [⟨tg, iter, ifs, 0⟩] scope pos) 0 (.ref it) (.ref D) ce) (compPost (model X.prog X.w) X.A X.xe use Qf (.ref D) s3.heap.objs.size) s4 := by
    refine compLoop_any (fun n s' => ∃ i H', Inv (blkP X px s3 H3 scope ce fp) [] (wipe σ (own.map (·.2))) H' s' ∧ tn i s'.heap ∧ (∀ b ∈ fp, H' b = none) ∧ W i n H') ?_ m0 ⟨0, H3, toY I4, st4, nfp, w0⟩
    rintro n s5 ⟨i, H5, I5, st5, n5, w5⟩
    rcases turn i n H5 w5 with ⟨stop, qq⟩ | ⟨go, Nx, hNx, step⟩
    · have td := T.done (blkP X px s3 H3 scope ce fp) rfl rfl rfl hotY i [] s5 _ H5 (fun _ _ => False) I5 (statY I5 n5) st5 stop
      refine thnF td fun r s6 ⟨hr, I6⟩ => ?_
      subst hr
      -- back in the def's context
      have I7 : Inv X pins σ H5 s6 := I3.call' (ch := fp) I6.os I6.base I6.hok I6.bare fun b hb => ⟨(f3 b hb).1.2.2.2.1, (f3 b hb).1.2.1, (f3 b hb).1.2.2.2.2.1, (f3 b hb).1.2.2.2.2.2⟩
      have nC : H5 s3.heap.objs.size = none := by
        have z : H5 ce.locals = none := I6.free
        rw [cL] at z
        exact z
      obtain ⟨m, hn, _⟩ := I6.loc
      have hn : s6.heap.Ns ce.locals m := hn
      rw [cL] at hn
      exact hRR D s3.heap.objs.size s6 m H5 I7 qq hn (I3.fpOk (Nat.le_refl _) nC)
    · have ti := T.item (blkP X px s3 H3 scope ce fp) rfl rfl rfl hotY i [] s5 _ H5 (fun _ _ => False) I5 (statY I5 n5) st5 go
      refine thnF ti fun r s6 ⟨u, hr, h6⟩ => ?_
      subst hr
      refine thnF h6 fun _ s7 ⟨x, H7, I7, r7, y7, st7, n7⟩ => ?_
      have I7' := I7.pinned (statY I7 n7) (T.obj _ _ st7)
      refine thnF (pg.run _ s7 _ H7 x u _ I7' r7 (step x H7 y7)) fun _ s8 ⟨σ8, H8, I8, hw8, q8⟩ => ?_
      refine thnF (pt.run _ s8 σ8 H8 _ I8 q8) fun b s9 ⟨H9, I9, q9⟩ => ?_
      -- the turn's end
      have fin : ∀ {s' : Shared} {H' : Hp}, Inv (blkP X px s3 H3 scope ce fp) ([] ++ pinsAt fp s7.heap) σ8 H' s' → Nx H' → ∃ m, m < n ∧ ∃ i H', Inv (blkP X px s3 H3 scope ce fp) [] (wipe σ (own.map (·.2))) H' s' ∧ tn i s'.heap ∧ (∀ b ∈ fp, H' b = none) ∧ W i m H' := fun {s' H'} I' nx => by
        obtain ⟨m', hm, w'⟩ := hNx H' nx
        have pin' : ∀ b ∈ fp, ∀ o, s7.heap.get? b = some o → s'.heap.get? b = some o ∧ H' b = none := fun b hb o e =>
          let z := I'.pin (b, o) (List.mem_append_right _ (List.mem_append_right _ (mem_pinsAt hb e)))
          ⟨z.1, z.2.1⟩
        have hl : (wipe σ (own.map (·.2))).length = σ8.length := by rw [← hw8, wipe_length]
        refine ⟨m', hm, i + 1, H', (I'.unpinned (pins := [])).weak hl (fun j v e => ?_), T.keep _ _ _ st7 fun b hb o e => (pin' b hb o e).1, fun b hb => ?_, w'⟩
        · rw [← hw8] at e
          exact (wipe_some e).1
        · obtain ⟨o, e, _⟩ := T.obj _ _ st7 b hb
          exact (pin' b hb o e).2
      cases b with
      | false =>
        simp only [Bool.false_eq_true, if_false] at q9 ⊢
        exact fin I9 q9
      | true =>
        simp only [if_true] at q9 ⊢
        refine thnF (pe.run _ s9 σ8 H9 _ I9 q9) fun z s10 ⟨yv, H10, I10, r10, acc, hD10, hz10, nx⟩ => ?_
        exact app_ok (X := blkP X px s3 H3 scope ce fp) I10 hD10 hz10 r10 fun s11 I11 => fin I11 nx
  exact codeAny_compStart_list loop (T.self X.A 0 _ _ _ st4 loop)
/-- as a value -/
theorem ps_setLcH {i : Nat} {y : Str} {py : Pos} {elt tg iter : Expr} {ifs : List Expr} {scope : Scope} {own : List (Str × Nat)} {pos spos : Pos} {wi : TI} {g : TG} {tt : TT} {te : TE} {px : Addr × Obj} (hot : Hot1 X.A px) (hpx : px ∈ X.pn) (hN : X.N.Nodup) (hy : X.N[i]? = some y) (hyl : X.env.scope.names.lookup y = some .local)
    (hsw : swapsWith (.ListComp elt [⟨tg, iter, ifs, 0⟩] scope pos) (some (.Name y py)) spos.line X.env = pure true) (hi : PIH X tg iter wi) (ok : BlkOk X.N X.env.scope scope own)
    (hg : ∀ (s : Shared) (H : Hp) (C : Addr) (cl : List (Str × Addr)) (fp : List Addr), PG (blkP X px s H scope (compEnvC scope cl C X.env) fp) tg g) (ht : ∀ (s : Shared) (H : Hp) (C : Addr) (cl : List (Str × Addr)) (fp : List Addr), PTs (blkP X px s H scope (compEnvC scope cl C X.env) fp) ifs tt)
    (he : ∀ (s : Shared) (H : Hp) (C : Addr) (cl : List (Str × Addr)) (fp : List Addr), PE (blkP X px s H scope (compEnvC scope cl C X.env) fp) elt te) (hs : ∀ x, foldedSetIterable iter X.env x = pure x := by intro _; rfl) :
    PS X (.Assign [.Name y py] (.ListComp elt [⟨tg, iter, ifs, 0⟩] scope pos) spos) (tAsg (tLc wi g tt te (own.map (·.2))) (gName i)) := by
  refine ⟨fun pins s σ H D I h => ?_⟩
  rw [exec_Assign_Name_used _ _ _ _ hsw]
  refine wpAny_bind (wpAny_standAt (wpAny_bind ?_))
  show wpAny _ X.A (do let _ ← comprehension (.ListComp elt [⟨tg, iter, ifs, 0⟩] scope pos) scope X.env (firstIterPos [⟨tg, iter, ifs, 0⟩] pos) (newList []) false (eval iter X.env) (some (assign (.Name y py) X.env))) _ _ s
  have h : tLc wi g tt te (own.map (·.2)) σ H (fun x H1 => gName i x σ H1 D.nx) := h
  refine wpAny_bind (thn (lc_hot (Qf := fun _ s' => SP X pins D .next s') hot hpx hN I hi ok hg ht he hs h fun L C s' m H' I' q hn f => ?_) fun _ s' hq => wpAny_pure (wpAny_pure hq))
  show wpAny _ _ (assign (.Name y py) X.env (.ref L)) _ _ _
  refine wpAny_assign_Name (store_ok2 (v := V.ref L) I' hN hy (.inl hyl) rfl (fun s2 I2 ⟨a, sb, ha⟩ => ?_) (.inr hyl))
  obtain ⟨f0, f1, f2, f3, f4, f5⟩ := f
  have haC : C ≠ a := by
    rcases ha with z | z
    · rw [z]; exact f1
    · exact fun e => f4 y a z e.symm
  refine ⟨m, hn.sameBut sb haC, fun h3 sb3 => ?_⟩
  exact ⟨_, H', I2.turned (t' := s2.toks) (fun b o hb e => (sb3.2 b hb).trans e) f0 f1 f3 f4 f5, q⟩
end
/-! ### (a, b) = a tuple, there -/
section
variable {prog : Program} {w : World} {A : Around} {E : Value → Shared → Prop} {s : Shared}
theorem next_tuple_endH {it t x1 : Addr} {i : Nat} {items : Array Value} {Q : Option Value → Shared → Prop} (hot : HotAt A x1 s.heap) (hxi : x1 ≠ it)
    (hit : IsTupIter s.heap it t i) (ht : IsTup s.heap t items) (hx : items[i]? = none)
    (hQ : ∀ h', Heap.ExtBut it s.heap h' → Q none { s with heap := h' }) : wpAny (model prog w) A (pyNext (.ref it)) Q E s := by
  obtain ⟨o, ho, hc, hd⟩ := id hit
  obtain ⟨ol, hol, _, nl, hdl⟩ := ht
  obtain ⟨hh, o1, vs1, h1, d1, c1⟩ := hot
  unfold pyNext
  refine wpAny_bind (wpAny_attempt (wpAny_callSpecial?_slot (name := Str.ofString "__next__") hit.typeIs slot_tupleiter_next
    (wpAny_call_entry slot_tupleiter_next hit.typeIs entry_tupleiter_next ?_ (args_tupleiter_next _))))
  show wpAny _ _ (field (.ref it) 0 >>= _) _ _ s
  refine wpAny_bind (wpAny_field ho hd (x := .ref t) rfl ?_)
  show wpAny _ _ (if (Value.ref t == Value.none) = true then _ else _) _ _ s
  rw [if_neg (show ¬ ((Value.ref t == Value.none) = true) from Bool.false_ne_true)]
  show wpAny _ _ (field (.ref it) 1 >>= _) _ _ s
  refine wpAny_bind (wpAny_field ho hd (x := .int i 0) rfl ?_)
  show wpAny _ _ (seqItems? (.ref t) >>= _) _ _ s
  refine wpAny_bind (wpAny_seqItems hol hdl ?_)
  simp only [Int.toNat_natCast, hx]
  refine wpAny_bind (wpAny_rule (wpAny_bind (wpAny_setField ho hd (by simp) ?_)))
  refine raise_stopH (x1 := x1) ⟨hh, o1, vs1, (Heap.SameBut.update ..).extBut _ _ hxi h1, d1, c1⟩ fun h' e kp st => ?_
  obtain ⟨oe, hoe, hce⟩ := st
  refine wpAny_bind (wpAny_isInstance (T := "StopIteration") (b := true) ⟨oe, hoe, hce⟩ isSubtype_stop ?_)
  exact wpAny_pure (hQ _ fun b o hb q => kp b o ((Heap.SameBut.update ..).extBut _ _ hb q))
theorem unpack_tupleH {t x1 : Addr} {items : Array Value} {targets : List (Bool × (Value → Sem Unit))} {Q : Unit → Shared → Prop} (hot : HotAt A x1 s.heap) (ht : IsTup s.heap t items)
    (hn : targets.length = items.size) (hstar : targets.findIdx? (·.1) = none)
    (h : ∀ h', Heap.ExtBut s.heap.objs.size s.heap h' → wpAny (model prog w) A (assignInOrder (targets.map (·.2)) items.toList) Q E { s with heap := h' }) :
    wpAny (model prog w) A (unpack (.ref t) targets) Q E s := by
  unfold unpack
  rw [hn, hstar]
  refine wpAny_bind (wpAny_holding ?_)
  have hlt : t ≠ s.heap.objs.size := by obtain ⟨o, ho, _⟩ := ht; exact Nat.ne_of_lt (Heap.lt_size ho)
  obtain ⟨hh, o1, vs1, h1, d1, c1⟩ := hot
  have hx1 : x1 ≠ s.heap.objs.size := Nat.ne_of_lt (Heap.lt_size h1)
  unfold unpackItems
  refine wpAny_bind ?_
  unfold notIterableAtAll
  refine wpAny_bind (wpAny_specialOf ht.typeIs slot_tuple_iter.lookup ?_)
  refine wpAny_pure ?_
  simp only [Bool.false_eq_true, if_false]
  refine wpAny_bind (wpAny_holding (iter_tuple ht ?_))
  refine wpAny_bind (wpAny_holding (draw_tuple hlt items.size 0 _ _ ⟨_, Heap.get?_push_size _ rfl, rfl, rfl⟩ (ht.push _) (by omega) fun h₁ hit₁ hs₁ => ?_))
  have hall : List.take items.size (List.drop 0 items.toList) = items.toList := by
    rw [List.drop_zero]; exact List.take_of_length_le (by simp)
  rw [hall]
  rw [if_neg (by simp)]
  have ht₁ : IsTup h₁ t items := (ht.push _).extBut hs₁.extBut hlt
  have hx₁ : h₁.get? x1 = some o1 := hs₁.extBut _ _ hx1 (Heap.get?_push_of_some _ h1)
  refine wpAny_bind (wpAny_holding (next_tuple_endH ⟨hh, o1, vs1, hx₁, d1, c1⟩ hx1 hit₁ ht₁ (by simp) fun h₂ he₂ => ?_))
  simp only [Option.isSome_none, Bool.false_eq_true, if_false]
  exact wpAny_pure (h h₂ fun b o hb e => he₂ b o hb (hs₁.extBut b o hb (Heap.get?_push_of_some _ e)))
end
theorem pg_tupH {X : Cx} {es : List Expr} {k : Nat} {t : TGs} {n : Nat} {pos : Pos} (hot : HotC X) (h : PGs X es t)
    (hn : (assignEach es X.env).length = n) (hst : (assignEach es X.env).findIdx? (·.1) = none) : PG X (.Tuple es k pos) (gTup X.K n t) := by
  refine ⟨fun pins s σ H v u Q I r hw => ?_⟩
  obtain ⟨a, xs, e1, hq, hl, hw⟩ := hw
  subst e1
  cases r
  obtain ⟨its, rv, ht, hz⟩ := I.tuple hq
  obtain ⟨x1, hat⟩ := hot.at I
  rw [assign_Tuple]
  refine wpAny_bind (wpAny_standAt (unpack_tupleH hat ht (by simp [hn, ← hl, rv.length]) hst fun h' hx => ?_))
  have I1 : Inv X pins σ H { s with heap := h' } := I.kept (t' := s.toks) fun b o e => hx b o (Nat.ne_of_lt (Heap.lt_size e)) e
  exact h.run pins _ σ H xs _ Q I1 (by simpa using rv) hw
end TM

set_option Elab.async false
set_option linter.all false
set_option maxRecDepth 100000
set_option autoImplicit false
namespace TM
open PySem PySem.Spec PyProof.Rows L2 HotX L2H

/-! ## one more class -/
def Glo.put (G : Glo) (k : Nat) (u : Value) : Glo := { G with ca := fun j => if j = k then some u else G.ca j }
mutual
def nocD (k : Nat) : D → Bool
  | .cls c => c != k
  | .tup xs => nocDs k xs
  | .lst xs => nocDs k xs
  | _ => true
def nocDs (k : Nat) : List D → Bool
  | [] => true
  | d :: ds => nocD k d && nocDs k ds
end
section
variable {K : PySem.W.Frag} {G : Glo} {α : List Addr} {F H : Hp} {k : Nat} {u : Value} {S : Sto}
theorem put_ca {j : Nat} {c : Value} (hk : G.ca k = none) (h : G.ca j = some c) : (G.put k u).ca j = some c := by
  show (if j = k then some u else G.ca j) = some c
  rw [if_neg (fun e => by rw [e, hk] at h; cases h)]
  exact h
mutual
theorem Rp.put (hk : G.ca k = none) : ∀ {d : D} {v : V}, Rp K G α F d v → Rp K (G.put k u) α F d v
  | _, _, .non => .non
  | _, _, .bl b => .bl b
  | _, _, .int i => .int i
  | _, _, .str g => .str g
  | _, _, .tup h l r => .tup h l (Rps.put hk r)
  | _, _, .lst h l r => .lst h l (Rps.put hk r)
  | _, _, .fn h => .fn h
  | _, _, .cls h r => .cls (put_ca hk h) r
  | _, _, .ref h => .ref h
  | _, _, .scr h => .scr h
theorem Rps.put (hk : G.ca k = none) : ∀ {ds : List D} {vs : List V}, Rps K G α F ds vs → Rps K (G.put k u) α F ds vs
  | _, _, .nil => .nil
  | _, _, .cons h t => .cons (Rp.put hk h) (Rps.put hk t)
end
mutual
theorem Rp.noc (hk : G.ca k = none) : ∀ {d : D} {v : V}, Rp K G α F d v → nocD k d = true
  | _, _, .non => rfl
  | _, _, .bl b => rfl
  | _, _, .int i => rfl
  | _, _, .str g => rfl
  | _, _, .tup h l r => Rps.noc hk r
  | _, _, .lst h l r => Rps.noc hk r
  | _, _, .fn h => rfl
  | _, _, .cls h r => bne_iff_ne.mpr fun e => by rw [e, hk] at h; cases h
  | _, _, .ref h => rfl
  | _, _, .scr h => rfl
theorem Rps.noc (hk : G.ca k = none) : ∀ {ds : List D} {vs : List V}, Rps K G α F ds vs → nocDs k ds = true
  | _, _, .nil => rfl
  | _, _, .cons h t => by
    show (_ && _) = true
    rw [Rp.noc hk h, Rps.noc hk t]; rfl
end
mutual
theorem Rp.unput : ∀ {d : D} {v : V}, Rp K (G.put k u) α F d v → nocD k d = true → Rp K G α F d v
  | _, _, .non, _ => .non
  | _, _, .bl b, _ => .bl b
  | _, _, .int i, _ => .int i
  | _, _, .str g, _ => .str g
  | _, _, .tup h l r, n => .tup h l (Rps.unput r n)
  | _, _, .lst h l r, n => .lst h l (Rps.unput r n)
  | _, _, .fn h, _ => .fn h
  | _, _, @Rp.cls _ _ _ _ c v u' h r, n => .cls (by
      have ne : c ≠ k := bne_iff_ne.mp n
      have h : (if c = k then some u else G.ca c) = some u' := h
      rw [if_neg ne] at h
      exact h) r
  | _, _, .ref h, _ => .ref h
  | _, _, .scr h, _ => .scr h
theorem Rps.unput : ∀ {ds : List D} {vs : List V}, Rps K (G.put k u) α F ds vs → nocDs k ds = true → Rps K G α F ds vs
  | _, _, .nil, _ => .nil
  | _, _, .cons h t, n => by
    have n : (_ && _) = true := n
    rw [Bool.and_eq_true] at n
    exact .cons (Rp.unput h n.1) (Rps.unput t n.2)
end
theorem Wd.put (w : Wd K G S H F α) (hk : G.ca k = none) : Wd K (G.put k u) S H F α := ⟨w.sub, w.nd, w.tabs, w.fnt, w.len, fun n o a e1 e2 => by
  cases w.sto n o a e1 e2 with
  | b q r => cases r with
    | l z r => exact .b q (.l z (r.put hk)), w.anf⟩
/-- back again: what was in the store before bore no such class -/
theorem Wd.unput {H' F' : Hp} {α' : List Addr} (w : Wd K G S H F α) (hk : G.ca k = none) (w' : Wd K (G.put k u) S H' F' α') : Wd K G S H' F' α' := ⟨w'.sub, w'.nd, w'.tabs, w'.fnt, w'.len, fun n o a e1 e2 => by
  have hn : n < α.length := by rw [← w.len]; exact (List.getElem?_eq_some_iff.mp e1).1
  cases w'.sto n o a e1 e2 with
  | b q r => cases r with
    | @l xs vs z r =>
      refine .b q (.l z (r.unput ?_))
      cases w.sto n _ _ e1 (List.getElem?_eq_getElem hn) with
      | b q0 r0 => cases r0 with
        | l z0 r0 => exact r0.noc hk, w'.anf⟩
end
/-! ## a def that calls what it got and catches -/
/-- the code a catcher computes: fd behind a quiet call, md by the exception's class -/
def catE (o : Option D) (fs : List (Nat × D)) (S : Sto) : ER := match o, fs with
  | some d, [] => .ok d S
  | _, _ => .stuck
def catM (fd : D) (md : Nat → Option D) : Cat := fun act S => match act S with
  | .ok _ S1 => .ok fd S1
  | .exc x S1 => catE (md x.c) x.fs S1
  | .stuck => .stuck
/-- the frame of the suite: the exception's slot alone is known -/
def catR (n i : Nat) : Slots := (List.replicate n none).set i (some (.val (.cls 1000)))
theorem pss_ex {ι : Type} {X : Cx} {sts : List Stmt} {t : ι → TS} (h : ∀ i, PSs X sts (t i)) : PSs X sts (fun D σ H => ∃ i, t i D σ H) := ⟨fun pins s σ H D I ⟨i, q⟩ => (h i).run pins s σ H D I q⟩
theorem pss_pre {p : Prop} {X : Cx} {sts : List Stmt} {t : TS} (h : p → PSs X sts t) : PSs X sts (fun D σ H => p ∧ t D σ H) := ⟨fun pins s σ H D I ⟨i, q⟩ => (h i).run pins s σ H D I q⟩
theorem ok_none {K : PySem.W.Frag} {G : Glo} {S : Sto} {σ : L2.St} {H F : Hp} {α : List Addr} {n : Nat} (w : Wd K G S H F α) (hl : σ.length = n) : Ok K G ⟨H, F, α⟩ (List.replicate n none) S σ H F α := by
  refine ⟨w, .refl _ _ _, by rw [List.length_replicate, hl], fun i s h => ?_, fun i j o u a p1 _ _ _ => ?_⟩
  · have hi := (List.getElem?_eq_some_iff.mp h).1
    have hs : s = none := List.eq_of_mem_replicate (List.mem_of_getElem? h)
    subst hs
    rw [List.length_replicate] at hi
    exact ⟨_, List.getElem?_eq_getElem (by rw [hl]; exact hi), .none _⟩
  · have := List.eq_of_mem_replicate (List.mem_of_getElem? p1)
    cases this
theorem takes_len {X : Cx} {W : WX} {n : Nat} (tk : L2N.Takes X W) (hn : X.N.length = n) : L2N.Takes X (fun cls d σ H => σ.length = n → W cls d σ H) := fun u s' ⟨a, B, sI, pins, σ, H, cls, d, e, I, nb, up, sky, na, os, ag, w⟩ =>
  tk u s' ⟨a, B, sI, pins, σ, H, cls, d, e, I, nb, up, sky, na, os, ag, w (I.len.trans hn)⟩
theorem start_len {N : List Str} {vs : List V} (h : vs.length ≤ N.length) : (L2.start N vs).length = N.length := by
  unfold L2.start
  rw [List.length_append, List.length_map, List.length_replicate]
  omega
section
variable {X : Cx} {G : Glo} {Ng : List Str} {x a n ce q : Str} {sg : Scope} {g : Addr} {CE : Value} {cdg : Value} {i : Nat} {b₀ fin : Stmt} {suite : List Stmt} {p1 p2 p3 np pos' pos : Pos} {fd : D} {md : Nat → Option D} {ff : Sx} {fs : Nat → Sx}
/-- the context that the catcher's body runs in -/
abbrev catX (X : Cx) (Ng : List Str) (x : Str) (sg : Scope) (g : Addr) (cdg : Value) (s : Shared) (H : Hp) : Cx := (cxOf C8.CX0 X.prog X.w X.K X.mg X.base Ng x sg g cdg X.A X.stack s H C8.E0).nox
theorem catch_as (hne : 1 ≤ Ng.length) (hN : Ng.Nodup) (hi : Ng[i]? = some n) (hln : sg.names.lookup n = some .local) (hge : sg.names.lookup ce = some .globalImplicit) (hce : (ce == ("__debug__" : Str)) = false)
    (hme : X.mg ce = some CE ∨ (X.mg ce = none ∧ bootBuiltins ce = some CE ∧ ce ≠ "__name__")) (hk : G.ca 1000 = none)
    (hex : ∀ k d, md k = some d → ∃ c, G.ca k = some c ∧ PySem.W.exmOne X.K c CE = some true) (hcl : ∀ k d, md k = some d → nocD 1000 d = true)
    (hff : ∀ s H e, Room 1 (catX X Ng x sg g cdg s H).A → PSs (catX X Ng x sg g cdg s H) [fin] (tS (catX X Ng x sg g cdg s H) G e W0 ff)) (hfd : ∀ S, ff (List.replicate Ng.length none) S = .rt fd S)
    (hsu : ∀ s H e k c ad oe pn, Room 1 (catX X Ng x sg g cdg s H).A → (md k).isSome = true → G.ca k = some c → L2N.Zn c none oe → (∃ vs, oe.data = .fields vs) → PSs ((catX X Ng x sg g cdg s H).suite ad ((ad, oe) :: pn)) (b₀ :: suite) (tS (catX X Ng x sg g cdg s H) (G.put 1000 (.ref ad)) e W0 (fs k)))
    (hmd : ∀ k d S, md k = some d → fs k (catR Ng.length i) S = .rt d S) :
    GivesToN X Ng x sg g cdg [.Try [.Expr (.Call (.Name a p1) [] [] p2) p3] [.ExceptHandler (some (.Name ce np)) (some n) (b₀ :: suite) pos'] [] [] pos, fin] a q (TTm X.K G (catM fd md)) := by
  intro f c' s H Q tl hrm act hc h
  obtain ⟨ac, S, F, α, w, htl, hM⟩ := h
  have hgl : Gl (catX X Ng x sg g cdg s H) ce := hge
  have hfin : PSs (catX X Ng x sg g cdg s H) [fin] (fun D σ H1 => ∃ e, tS (catX X Ng x sg g cdg s H) G e W0 ff D σ H1) := pss_ex fun e => hff s H e hrm
  have hl0 : (L2.start Ng [V.ref f]).length = Ng.length := start_len hne
  refine ⟨_, pss_cons (L2N.ps_try_as (X := catX X Ng x sg g cdg s H) (c := CE) (i := i) (Wout := fun _ _ _ _ => False)
      (tb := fun W D σ H => ∃ Ech : XK, (∀ cls d σ' H', Ech cls d H' → σ'.length = Ng.length → W cls d σ' H') ∧ σ[0]? = some (some (.ref f)) ∧ H c' = some (LamX.CodeO c' q) ∧ tl Ech H fun _ H' => D.nx σ H')
      (ts := fun ad cls dd D σ H1 => ∃ k e, ((md k).isSome = true ∧ G.ca k = some cls ∧ dd = none) ∧ tS (catX X Ng x sg g cdg s H) (G.put 1000 (.ref ad)) e W0 (fs k) D σ H1)
      rfl rfl hN hi hln ⟨hgl, hce, hme⟩ takesN0 (fun W pn xe tk _ => ?_) (fun ad oe cls dd pn hz hf => ?_)) hfin, ?_⟩
  · refine ⟨fun pins s' σ H' D I h' => ?_⟩
    obtain ⟨Ech, hW, h1, h2, h3⟩ := h'
    have hp := act (fun cls d σ H => σ.length = Ng.length → W cls d σ H) pn xe Ech p1 p2 (takes_len tk rfl) hW
    exact (pss_one (ps_expr (pos := p3) hp (swaps_of rfl))).run pins s' σ H' D I ⟨h1, h2, h3⟩
  · refine pss_ex fun k => pss_ex fun e => pss_pre fun hp => ?_
    obtain ⟨e1, e2, e3⟩ := hp
    subst e3
    exact hsu s H e k cls ad oe pn hrm e1 e2 hz hf
  · refine ⟨fun cls d H' => ∀ σ', σ'.length = Ng.length → wAs X.K CE i _ (fun _ _ _ _ => False) _ cls d σ' H', fun cls d σ' H' hE hl => hE σ' hl, rfl, hc, htl _ _ ?_⟩
    unfold catM at hM
    cases hac : ac S with
    | stuck => rw [hac] at hM; exact hM.elim
    | ok d S1 =>
      rw [hac] at hM
      intro v H' F' α' w' s' r'
      refine ⟨⟨H', F', α'⟩, _, S1, F', α', ok_none w' hl0, ?_⟩
      rw [hfd]
      exact fun v2 H2 F2 α2 w2 s2 r2 => hM v2 H2 F2 α2 w2 (s'.trans s2) r2
    | exc xc S1 =>
      rw [hac] at hM
      obtain ⟨kc, xf⟩ := xc
      intro c dd H' F' α' w' s' xr σ' hl
      have hM : CPost X.K G H F α (catE (md kc) xf S1) Q (fun _ _ _ => False) := hM
      obtain ⟨hc2, hdd⟩ := xr
      have hc2 : G.ca kc = some c := hc2
      cases hd : md kc with
      | none => rw [hd] at hM; exact hM.elim
      | some d =>
        rw [hd] at hM
        cases xf with
        | cons y ys => exact hM.elim
        | nil =>
          have hM : CPost X.K G H F α (ER.ok d S1) Q (fun _ _ _ => False) := hM
          obtain ⟨c1, hc1, hx1⟩ := hex kc d hd
          have hdd : dd = none := by
            rcases hdd with z | ⟨z, _⟩
            · exact z.2
            · exact absurd rfl z
          have ec : c1 = c := Option.some.inj (hc1.symm.trans hc2)
          subst ec
          refine ⟨true, hx1, fun _ ad had => ⟨kc, ⟨H', F', α'⟩, ⟨by rw [hd]; rfl, hc1, hdd⟩, catR Ng.length i, S1, F', α', ?_, ?_⟩, fun z => by cases z⟩
          · have k0 := ok_none (w'.put (u := .ref ad) hk) hl
            have e1 : (G.put 1000 (.ref ad)).ca 1000 = some (.ref ad) := by
              show (if (1000 : Nat) = 1000 then some (Value.ref ad) else G.ca 1000) = _
              rw [if_pos rfl]
            exact k0.setVal i (d := .cls 1000) (v := .ref ad) (.cls e1 rfl)
          · rw [hmd kc d S1 hd]
            exact fun v2 H2 F2 α2 w2 s2 r2 => hM v2 H2 F2 α2 (w'.unput hk w2) (s'.trans s2) (r2.unput (hcl kc d hd))
end
end TM

set_option Elab.async false
set_option linter.all false
set_option maxRecDepth 100000
set_option autoImplicit false
namespace TM
open PySem PySem.Spec PyProof.Rows L2 HotX L2H

/-! ## an except suite, read -/
/-- what is asked of the held exception -/
structure SuC where
  err : Nat
  isi : Str → Option Bool
def SuC.no (u : SuC) : SuC := { u with isi := fun _ => none }
def isE (i : Nat) (b : Bool) : Ex := fun ρ S => match ρ[i]? with
  | some (some (.val (.cls 1000))) => .ok (.bl b) S
  | _ => .stuck
def sTx (c : Ct) (r : Expr → Ex) (t : Expr) : Ex := match t with
  | .Compare a [op] [b] _ => (match ltK op with
    | some o => if noset b then binE o (r a) (r b) else stuckE
    | none => stuckE)
  | t => if plainT t then truE (r t) else stuckE
def sCall (c : Ct) (u : SuC) (r : Expr → Ex) (f : Expr) (args : List Expr) (pos : Pos) : Ex := match f with
  | .Name x _ => (match c.rs x, args with
    | .glo (.bk .isin), [.Name e _, .Name cl _] => (match c.rs e, u.isi cl with
      | .slot i, some b => if i == u.err then isE i b else stuckE
      | _, _ => stuckE)
    | .glo (.bk .tuple), [a] => if nst a then callE tupO (esE r [a]) else stuckE
    | _, _ => stuckE)
  | .Attribute o name apos => (match args with
    | [a] => if name = "join" then (if nocall o && apos.endLine == pos.line && nst a then mthE joinO (r o) (r a) else stuckE) else stuckE
    | _ => stuckE)
  | _ => stuckE
def sEx (c : Ct) (u : SuC) : Nat → Expr → Ex
  | 0, _ => stuckE
  | n + 1, ex => match ex with
    | .Constant k _ _ => cstK k
    | .Name x _ => (match c.rs x with
      | .slot i => varE i
      | _ => stuckE)
    | .List es _ => dispE D.lst (esE (sEx c u n) es)
    | .Tuple es _ _ => dispE D.tup (esE (sEx c u n) es)
    | .IfExp t a b _ => ifE (sTx c (sEx c u n) t) (sEx c u n a) (sEx c u n b)
    | .BinOp a op b _ => (match binK op with
      | some o => binE o (sEx c u n a) (sEx c u n b)
      | none => stuckE)
    | .Call f args [] pos => sCall c u (sEx c u n) f args pos
    | _ => stuckE
/-- .. for a, b in zip(p, q) if t -/
def sComp (c : Ct) (u : SuC) (elt : Expr) (gs : List Comprehension) (scope : Scope) : Option Ex := match gs with
  | [⟨.Tuple ts _ _, .Call (.Name z _) [p, q] [] _, [t], 0⟩] => (match c.rs z, nsX (c.sub scope) ts with
    | .glo (.bk .zip), some [i, j] => if blkB c scope && [i, j].all (fun i => (ownOf c scope).any fun q => q.2 == i) && ts.all nst && nst p && nst q then
        some (lcE (srcI zipLO (esE (sEx c u 6) [p, q])) (tupG 2 (consGs (nameG i) (consGs (nameG j) nilGs))) (sTx (c.sub scope) (sEx (c.sub scope) u.no 6) t) (sEx (c.sub scope) u.no 6 elt) ((ownOf c scope).map (·.2))) else none
    | _, _ => none)
  | _ => none
def sSt (c : Ct) (u : SuC) : Stmt → Sx
  | .Assign [.Name x px] ex pos => (match c.ls x with
    | some i => (match ex with
      | .ListComp elt gs scope lpos => (match sComp c u elt gs scope, c.sc.lookup x with
        | some f, some .local => if px.line == lpos.line && !(scope.names.any fun (n, k) => n == x && (k == .local || k == .cell)) then setS i f else stuckS
        | _, _ => stuckS)
      | ex => if nocomp ex then setS i (sEx c u 6 ex) else stuckS)
    | none => stuckS)
  | .Return (some ex) _ => retS (sEx c u 6 ex)
  | _ => stuckS
def sSts (c : Ct) (u : SuC) : List Stmt → Sx
  | [] => nopS
  | st :: r => seqS (sSt c u st) (sSts c u r)
/-- the state's side of it -/
structure StH (Y : Cx) (c : Ct) : Prop where
  s0 : St0 Y c
  hu : Y.A.units + 64 < cLine
  bk : ∀ x b, c.gl.lookup x = some (.bk b) → x = b.nm ∧ Y.mg x = none
/-- isinstance(e, cl): e the held exception -/
structure IsF (Y : Cx) (D : Addr) (cl : Str) (b : Bool) : Prop where
  ex : ∃ (v : V) (cv : Value), RelV v cv ∧ (∀ u, RelV v u → u = cv) ∧ Gl Y cl ∧ (cl == ("__debug__" : Str)) = false ∧ (Y.mg cl = some cv ∨ (Y.mg cl = none ∧ bootBuiltins cl = some cv ∧ cl ≠ "__name__")) ∧ PySem.W.kitOne Y.K (.ref D) cv = some b
section
variable {Y : Cx} {G : Glo} {e : Ent} {c : Ct} {u : SuC} {ad : Addr} {oe : Obj} {pn : List (Addr × Obj)} {D : Addr} {pos p p1 p2 : Pos}
theorem pe_isE {i : Nat} {x cl : Str} {b : Bool} (C : ExcC Y.K D) (hz : L2N.Zn (.ref D) none oe) (hf : ∃ vs, oe.data = .fields vs) (hN : Y.N[i]? = some x) (hv : Vis Y.env.scope x) (hd : (x == ("__debug__" : Str)) = false) (hcd : (x == ("__classdict__" : Str)) = false)
    (hg : Gl Y "isinstance") (hm : Y.mg "isinstance" = none) (F : IsF Y D cl b) (hk : G.ca 1000 = some (.ref ad)) :
    PE (Y.suite ad ((ad, oe) :: pn)) (.Call (.Name "isinstance" p) [.Name x p1, .Name cl p2] [] pos) (tE Y G e W0 (isE i b)) := by
  obtain ⟨v, cv, r, ru, hgc, hdc, hmc, hkit⟩ := F.ex
  have hn : PE (Y.suite ad ((ad, oe) :: pn)) (.Name cl p2) (tC v) := by
    rcases hmc with h | ⟨h1, h2, h3⟩
    · exact pe_glob (X := Y.suite ad ((ad, oe) :: pn)) (v := v) hgc h r hdc
    · exact pe_bltn (X := Y.suite ad ((ad, oe) :: pn)) (v := v) hgc h1 h2 r h3 hdc
  have hvr : PE (Y.suite ad ((ad, oe) :: pn)) (.Name x p1) (tVar i) := pe_var (X := Y.suite ad ((ad, oe) :: pn)) (i := i) hN hv hd hcd
  refine pe_imp (pe_callB (X := Y.suite ad ((ad, oe) :: pn)) (call_isE (X := Y) (pn := pn) C hz.zc hf) hg hm boot_isinstance (pa_cons hvr (pa_cons hn pa_nil rfl) rfl) (by decide) (by decide) rfl rfl) fun σ H Q ⟨ρ, S, F, α, k, q⟩ => ?_
  unfold isE at q
  split at q
  · rename_i hi
    obtain ⟨y, hy, so⟩ := k.sl i _ hi
    cases so with
    | val rv =>
      cases rv with
      | cls h h' =>
        rw [hk] at h
        cases h
        rename_i v0
        have ev : v0 = .ref ad := by
          cases v0 <;> first | (cases h'; rfl) | (obtain ⟨t, z⟩ := h'; cases z) | cases h'
        subst ev
        refine ⟨_, hy, v, cv, b, rfl, ru, hkit, ?_⟩
        exact q _ _ _ _ k.wd (.refl _ _ _) (.bl b)
  · exact q.elim
end
/-- the suite's questions are answered -/
def IsiOk (Z : Cx) (G : Glo) (e : Ent) (c : Ct) (u : SuC) : Prop := ∀ (x cl : Str) (i : Nat) (b : Bool) (p p1 p2 pos : Pos), c.rs "isinstance" = .glo (.bk .isin) → c.rs x = .slot i → i = u.err → u.isi cl = some b →
  PE Z (.Call (.Name "isinstance" p) [.Name x p1, .Name cl p2] [] pos) (tE Z G e W0 (isE i b))
section
variable {Z : Cx} {G : Glo} {e : Ent} {c : Ct} {u : SuC} {pos p : Pos}
theorem sTx_ok (h : StH Z c) {r : Expr → Ex} (hr : ∀ ex, PE Z ex (tE Z G e W0 (r ex))) (t : Expr) : PT Z t (tT Z G e W0 (sTx c r t)) := by
  unfold sTx
  split
  · split
    · rename_i o ho
      split
      · rename_i hs
        exact pt_cm (ltK_ok h.hu ho) (pe_o (hr _)) (pe_o (hr _)) (marks_of hs)
      · exact pt_x
    · exact pt_x
  · split
    · rename_i hp
      exact pt_tr (pe_o (hr _)) (isTrue_of hp)
    · exact pt_x
theorem StH.bkn (h : StH Z c) {x : Str} {b : BK} (q : c.rs x = .glo (.bk b)) : Gl Z x ∧ x = b.nm ∧ Z.mg x = none := by
  obtain ⟨a1, a2⟩ := h.s0.rs_gl q
  obtain ⟨b1, b2⟩ := h.bk _ _ a2
  exact ⟨a1, b1, b2⟩
theorem sCall_ok (h : StH Z c) (hI : IsiOk Z G e c u) {r : Expr → Ex} (hr : ∀ ex, PE Z ex (tE Z G e W0 (r ex))) (f : Expr) (args : List Expr) : PE Z (.Call f args [] pos) (tE Z G e W0 (sCall c u r f args pos)) := by
  have ho : ∀ ex, PE Z ex (tO Z G e W0 (r ex)) := fun ex => pe_o (hr ex)
  unfold sCall
  split
  · split
    · rename_i x _ _ ev _ cl _ hx
      obtain ⟨hg, rfl, hm⟩ := h.bkn hx
      split
      · rename_i i b hi hb
        split
        · rename_i hu
          exact hI _ _ _ _ _ _ _ _ hx hi (eq_of_beq hu) hb
        · exact pe_x
      · exact pe_x
    · rename_i x _ _ a hx
      obtain ⟨hg, rfl, hm⟩ := h.bkn hx
      split
      · rename_i hn
        exact pe_cTy call_tupO hg hm boot_tuple (osE_ok ho [a]) (by decide) (by decide) (star_nst hn) rfl
      · exact pe_x
    · exact pe_x
  · split
    · split
      · rename_i hn
        subst hn
        split
        · rename_i hb
          rw [Bool.and_eq_true, Bool.and_eq_true] at hb
          exact pe_joinO (ho _) (ho _) (star_nst hb.2) (base_of hb.1.1) hb.1.2
        · exact pe_x
      · exact pe_x
    · exact pe_x
  · exact pe_x
theorem sEx_ok (h : StH Z c) (hI : IsiOk Z G e c u) : ∀ (n : Nat) (ex : Expr), PE Z ex (tE Z G e W0 (sEx c u n ex))
  | 0, _ => pe_x
  | n + 1, ex => by
    have hr := sEx_ok h hI n
    unfold sEx
    split
    · exact cstK_ok
    · split
      · rename_i i hi
        obtain ⟨h1, h2, h3, h4⟩ := h.s0.rs_slot hi
        exact pe_v h1 h2 h3 h4
      · exact pe_x
    · exact pe_l (esE_ok hr _)
    · exact pe_t (esE_ok hr _)
    · exact pe_if (sTx_ok h hr _) (hr _) (hr _)
    · split
      · rename_i o ho
        exact pe_bin (binK_ok ho) (pe_o (hr _)) (pe_o (hr _))
      · exact pe_x
    · exact sCall_ok h hI hr _ _
    · exact pe_x
theorem isi_no : IsiOk Z G e c u.no := fun _ _ _ _ _ _ _ _ _ _ _ hb => by cases hb
theorem pg_tH {es : List Expr} {gs : Tgs} {idx : List Nat} {n k : Nat} (hc : HotC Z) (h : PGs Z es (tGs Z G e gs idx)) (hn : (assignEach es Z.env).length = n) (hst : (assignEach es Z.env).findIdx? (·.1) = none) : PG Z (.Tuple es k pos) (tG Z G e (tupG n gs) idx) :=
  pg_imp (pg_tupH hc h hn hst) fun v σ H Q ⟨ρ, S, F, α, d, ρ', k, r, hg, q⟩ => by
    unfold tupG at hg
    split at hg
    · split at hg
      · rename_i hl
        cases r with
        | tup t z rr => exact ⟨_, _, rfl, same_tup k.wd.sub t, by rw [← rr.length]; exact hl, ρ, S, F, α, _, ρ', k, rr, hg, q⟩
      · cases hg
    · cases hg
theorem sub0_ok (h : StH Z c) {scope : Scope} (hb : blkB c scope = true) (px : Addr × Obj) (s : Shared) (H : Hp) (C : Addr) (cl : List (Str × Addr)) (fp : List Addr) : StH (blkP Z px s H scope (compEnvC scope cl C Z.env) fp) (c.sub scope) := by
  refine ⟨⟨h.s0.N, h.s0.nd, h.s0.dbg, fun x k hk => lookup_rel (env := Z.env) hk, fun x hx => ?_⟩, h.hu, h.bk⟩
  show (scope.names.lookup x == some .cell) = true
  have hx : scope.names.lookup x = some .cell := hx
  rw [hx]
  rfl
theorem loc0 (h : StH Z c) {x : Str} (hk : c.sc.lookup x = some .local) : Z.env.scope.names.lookup x = some .local := by
  obtain ⟨k', hk', q⟩ := h.s0.sc _ _ hk
  rcases q with rfl | ⟨z, _⟩
  · exact hk'
  · cases z
theorem sComp_ok (h : StH Z c) {px : Addr × Obj} (hot : Hot1 Z.A px) (hpx : px ∈ Z.pn) (hI : IsiOk Z G e c u) {elt : Expr} {gs : List Comprehension} {scope : Scope} {f : Ex} {x : Str} {i : Nat} {py spos : Pos} (hf : sComp c u elt gs scope = some f) (hi : c.ls x = some i)
    (hk : c.sc.lookup x = some .local) (kd : Z.env.scope.kind = .function) (hl : (py.line == pos.line) = true) (ha : (scope.names.any fun (n, k) => n == x && (k == .local || k == .cell)) = false) :
    PS Z (.Assign [.Name x py] (.ListComp elt gs scope pos) spos) (tS Z G e W0 (setS i f)) := by
  obtain ⟨a1, a2, a3⟩ := h.s0.ls_slot hi
  have hyl := loc0 h hk
  have nd : Z.N.Nodup := by rw [h.s0.N]; exact h.s0.nd
  unfold sComp at hf
  split at hf
  · rename_i ts k1 tp z zp a b cp t
    split at hf
    · rename_i i1 j1 hz hns
      obtain ⟨hzg, rfl, hzm⟩ := h.bkn hz
      split at hf
      · rename_i hb
        cases hf
        simp only [Bool.and_eq_true] at hb
        obtain ⟨⟨⟨⟨hb1, hb2⟩, hb3⟩, hb4⟩, hb5⟩ := hb
        have sw := sw_true (elt := elt) (gs := [⟨.Tuple ts k1 tp, .Call (.Name BK.zip.nm zp) [a, b] [] cp, [t], 0⟩]) (scope := scope) (pos := pos) (py := py) (y := x) (l := spos.line) (env := Z.env) kd hyl hl ha
        have hw : ∀ q ∈ [i1, j1], q ∈ (ownOf c scope).map (·.2) := fun q hq => by
          obtain ⟨q', hq', e'⟩ := List.any_eq_true.mp (List.all_eq_true.mp hb2 q hq)
          exact List.mem_map.mpr ⟨q', hq', eq_of_beq e'⟩
        have hz2 := pi_zipNH (X := Z) (G := G) (e := e) (W := W0) (elts := ts) (kk := k1) (tpos := tp) (p := zp) (pos := cp) hzg hzm (esE_ok (sEx_ok h hI 6) [a, b]) (star_nst hb4) (hpl_of (by rw [List.all_cons, hb5]; rfl))
        refine ps_imp (ps_setLcH hot hpx nd a1 hyl sw hz2 (blk_ok0 h.s0 hb1) (g := tG Z G e (tupG 2 (consGs (nameG i1) (consGs (nameG j1) nilGs))) [i1, j1]) (tt := tT Z G e W0 (sTx (c.sub scope) (sEx (c.sub scope) u.no 6) t)) (te := tE Z G e W0 (sEx (c.sub scope) u.no 6 elt)) (fun s H C cl fp => ?_) (fun s H C cl fp => ?_) (fun s H C cl fp => ?_) (fold_of rfl)) fun D σ H ⟨ρ, S, F, α, k, p⟩ => lc_post (X := Z) (G := G) (e := e) (W := W0) hw ⟨ρ, S, F, α, k, SPost.of_sbind k p fun d S1 v H1 F1 α1 _ k1 _ r1 p1 => p1 _ _ _ _ (k1.setVal i r1) (.refl _ _)⟩
        · have hs := sub0_ok h hb1 px s H C cl fp
          cases ts with
          | nil => cases hns
          | cons t1 ts =>
            obtain ⟨x1, px1, i1', js, rfl, hi1, hts1, he⟩ := nsX_cons hns
            cases he
            cases ts with
            | nil => cases hts1
            | cons t2 ts =>
              obtain ⟨x2, px2, i2', js', rfl, hi2, hts2, he⟩ := nsX_cons hts1
              cases he
              cases ts with
              | cons t3 ts =>
                obtain ⟨_, _, _, _, _, _, _, he⟩ := nsX_cons hts2
                cases he
              | nil =>
                obtain ⟨b1, b2, b3⟩ := hs.s0.ls_slot hi1
                obtain ⟨c1, c2, c3⟩ := hs.s0.ls_slot hi2
                have nd' : (blkP Z px s H scope (compEnvC scope cl C Z.env) fp).N.Nodup := nd
                have hh : HotC (blkP Z px s H scope (compEnvC scope cl C Z.env) fp) := ⟨px, hot, List.mem_singleton_self _⟩
                exact pg_tH (Z := blkP Z px s H scope (compEnvC scope cl C Z.env) fp) hh (pgs_c (pg_n nd' b1 b2 b3) (pgs_c (pg_n nd' c1 c2 c3) pgs_n rfl) rfl) rfl rfl
        · exact pts_one (sTx_ok (sub0_ok h hb1 px s H C cl fp) (sEx_ok (sub0_ok h hb1 px s H C cl fp) isi_no 6) t)
        · exact sEx_ok (sub0_ok h hb1 px s H C cl fp) isi_no 6 elt
      · cases hf
    · cases hf
  · cases hf
theorem sSt_ok (h : StH Z c) {px : Addr × Obj} (hot : Hot1 Z.A px) (hpx : px ∈ Z.pn) (hI : IsiOk Z G e c u) (kd : Z.env.scope.kind = .function) (stm : Stmt) : PS Z stm (tS Z G e W0 (sSt c u stm)) := by
  have nd : Z.N.Nodup := by rw [h.s0.N]; exact h.s0.nd
  unfold sSt
  split
  · split
    · rename_i i hi
      split
      · split
        · rename_i f hf hk
          split
          · rename_i hb
            rw [Bool.and_eq_true, Bool.not_eq_true'] at hb
            exact sComp_ok h hot hpx hI hf hi hk kd hb.1 hb.2
          · exact ps_x
        · exact ps_x
      · split
        · rename_i hn
          obtain ⟨a1, a2, a3⟩ := h.s0.ls_slot hi
          exact ps_s nd a1 a2 (sEx_ok h hI 6 _) (swaps_of hn) a3
        · exact ps_x
    · exact ps_x
  · exact ps_r (sEx_ok h hI 6 _)
  · exact ps_x
theorem sSts_ok (h : StH Z c) {px : Addr × Obj} (hot : Hot1 Z.A px) (hpx : px ∈ Z.pn) (hI : IsiOk Z G e c u) (kd : Z.env.scope.kind = .function) : ∀ sts : List Stmt, PSs Z sts (tS Z G e W0 (sSts c u sts))
  | [] => pss_n
  | st :: r => pss_c (sSt_ok h hot hpx hI kd st) (sSts_ok h hot hpx hI kd r)
end
/-- what a catching def must look like -/
structure CatD (c : Ct) (st : Stmt) (a n ce : Str) (i : Nat) (b₀ : Stmt) (suite : List Stmt) (fex : Expr) : Prop where
  def_ : DefOk c st [a]
  body : ∃ p1 p2 p3 np pos' pos p6, defBody st = [.Try [.Expr (.Call (.Name a p1) [] [] p2) p3] [.ExceptHandler (some (.Name ce np)) (some n) (b₀ :: suite) pos'] [] [] pos, .Return (some fex) p6]
  hi : c.N[i]? = some n
  hln : (defScope st).names.lookup n = some .local
  hge : (defScope st).names.lookup ce = some .globalImplicit
  hce : (ce == ("__debug__" : Str)) = false
/-- the class that a name holds -/
structure ClsF (mg : Str → Option Value) (cl : Str) (v : V) (cv : Value) : Prop where
  r : RelV v cv
  u : ∀ u, RelV v u → u = cv
  d : (cl == ("__debug__" : Str)) = false
  m : mg cl = some cv ∨ (mg cl = none ∧ bootBuiltins cl = some cv ∧ cl ≠ "__name__")
section
variable {X : Cx} {G : Glo} {c : Ct} {st : Stmt} {x a n ce q : Str} {i : Nat} {b₀ : Stmt} {suite : List Stmt} {fex : Expr} {g : Addr} {cdg CE : Value} {fd : D} {md : Nat → Option D} {isi : Nat → Str → Option Bool}
theorem catch_ok (T : CatD c st a n ce i b₀ suite fex) (hme : X.mg ce = some CE ∨ (X.mg ce = none ∧ bootBuiltins ce = some CE ∧ ce ≠ "__name__")) (hk : G.ca 1000 = none)
    (hbk : ∀ x b, c.gl.lookup x = some (.bk b) → x = b.nm ∧ X.mg x = none)
    (hex : ∀ k d, md k = some d → ∃ D, G.ca k = some (.ref D) ∧ PySem.W.exmOne X.K (.ref D) CE = some true ∧ ExcC X.K D ∧ ∀ cl b, isi k cl = some b → ∃ v cv, ClsF X.mg cl v cv ∧ (defScope st).names.lookup cl = some .globalImplicit ∧ PySem.W.kitOne X.K (.ref D) cv = some b)
    (hcl : ∀ k d, md k = some d → nocD 1000 d = true)
    (hfd : ∀ S, retS (sEx c ⟨i, fun _ => none⟩ 6 fex) (List.replicate c.N.length none) S = .rt fd S)
    (hmd : ∀ k d S, md k = some d → sSts c ⟨i, isi k⟩ (b₀ :: suite) (catR c.N.length i) S = .rt d S) :
    GivesToN X c.N x (defScope st) g cdg (defBody st) a q (TTm X.K G (catM fd md)) := by
  obtain ⟨p1, p2, p3, np, pos', pos, p6, hb⟩ := T.body
  rw [hb]
  have D := T.def_
  have s0 : ∀ s H, St0 (catX X c.N x (defScope st) g cdg s H) c := fun s H => ⟨rfl, D.nd, D.dbg, fun y k hk => ⟨k, by show (defScope st).names.lookup y = some k; rw [← D.sc]; exact hk, .inl rfl⟩, fun _ _ => rfl⟩
  have sh : ∀ s H, Room 1 (catX X c.N x (defScope st) g cdg s H).A → StH (catX X c.N x (defScope st) g cdg s H) c := fun s H hr => ⟨s0 s H, hr.units, hbk⟩
  refine catch_as (ff := retS (sEx c ⟨i, fun _ => none⟩ 6 fex)) (fs := fun k => sSts c ⟨i, isi k⟩ (b₀ :: suite)) (by have := D.le; exact this) D.nd T.hi T.hln T.hge T.hce hme hk (fun k d hd => ?_) hcl (fun s H e hr => ?_) hfd (fun s H e k cv ad oe pn hr h1 h2 hz hf => ?_) hmd
  · obtain ⟨D, e1, e2, _⟩ := hex k d hd
    exact ⟨_, e1, e2⟩
  · exact pss_one (ps_r (sEx_ok (sh s H hr) (u := ⟨i, fun _ => none⟩) (fun _ _ _ _ _ _ _ _ _ _ _ hb => by cases hb) 6 fex))
  · obtain ⟨d, hd⟩ := Option.isSome_iff_exists.mp h1
    obtain ⟨Dc, e1, e2, e3, e4⟩ := hex k d hd
    have ec : cv = .ref Dc := Option.some.inj (h2.symm.trans e1)
    subst ec
    have hot : Hot1 ((catX X c.N x (defScope st) g cdg s H).suite ad ((ad, oe) :: pn)).A (ad, oe) := by
      obtain ⟨vs, hv⟩ := hf
      exact ⟨rfl, vs, hv, hz.2.2 vs hv⟩
    have hp : (G.put 1000 (.ref ad)).ca 1000 = some (.ref ad) := by
      show (if (1000 : Nat) = 1000 then some (Value.ref ad) else G.ca 1000) = _
      rw [if_pos rfl]
    refine sSts_ok (Z := (catX X c.N x (defScope st) g cdg s H).suite ad ((ad, oe) :: pn)) (c := c) ⟨⟨rfl, (s0 s H).nd, (s0 s H).dbg, (s0 s H).sc, (s0 s H).fn⟩, (sh s H hr).hu, hbk⟩ hot List.mem_cons_self (fun y cl j b q1 q2 q3 q4 hi0 hx hj hcl' => ?_) D.fs.kind (b₀ :: suite)
    obtain ⟨v, cv, F, hgl, hkit⟩ := e4 cl b hcl'
    obtain ⟨g1, g2⟩ := (s0 s H).rs_gl hi0
    obtain ⟨h1', h2', h3', h4'⟩ := (s0 s H).rs_slot hx
    exact pe_isE (Y := catX X c.N x (defScope st) g cdg s H) e3 hz hf h1' h2' h3' h4' g1 (hbk _ _ g2).2 ⟨v, cv, F.r, F.u, hgl, F.d, F.m, hkit⟩ hp
end
end TM

set_option Elab.async false
set_option linter.all false
set_option maxRecDepth 100000
set_option autoImplicit false
namespace TM
open PySem PySem.Spec PyProof.Rows L2

/-! ## the head's facts, as data -/
def hdDef (tp : Nat → Stmt) (D : DefX) : He.DefD := ⟨(D.nm, none), D.nm, D.nm, defArgs (tp D.top), defBody (tp D.top), defScope (tp D.top), [], []⟩
def hdFa : Str × GV → List He.Fa
  | (x, .fn _) => [.glo x]
  | (x, .lc _) => [.glo x]
  | (x, .cls _) => [.glo x, .exc x]
  | (x, .cst (.int i)) => [.int x i]
  | (x, .cst (.str s)) => [.str x ⟨s.toArray⟩]
  | (x, .cst _) => []
  | (x, .bk _) => [.free x]
def hdFas (gl : List (Str × GV)) : List He.Fa := gl.flatMap hdFa
/-- what isinstance asks of an own exception class -/
def excB (K : PySem.W.Frag) (x : Str) : Bool :=
  He.eqO (PySem.W.findIn K (.ref (He.ga K x)) "__getattribute__") (some (some (.builtin "BaseException.__getattribute__"))) && (He.eqO (PySem.W.findIn K (.ref (He.ga K x)) "__getattr__") (some none) &&
  (decide (PySem.W.subIn K (.ref (He.ga K x)) (.type "BaseException") = some true) && (PySem.W.hasDictIn K (He.ga K x) &&
  (He.eqO (PySem.W.findIn K (.ref (He.ga K x)) "__class__") (some (some (.builtin "object.__class__"))) && (He.eqO (PySem.W.specialIn K (.builtin "object.__class__") "__get__") (some (some (.builtin "getset_descriptor.__get__"))) &&
  (decide (PySem.W.takesIn K (.builtin "object.__class__") = some true) && decide (PySem.W.mroIn K (He.ga K x) (.type "object") = some true)))))))
theorem excB_ok {K : PySem.W.Frag} {x : Str} (h : excB K x = true) : ExcC K (He.ga K x) := by
  obtain ⟨h1, h⟩ := He.ba h
  obtain ⟨h2, h⟩ := He.ba h
  obtain ⟨h3, h⟩ := He.ba h
  obtain ⟨h4, h⟩ := He.ba h
  obtain ⟨h5, h⟩ := He.ba h
  obtain ⟨h6, h⟩ := He.ba h
  obtain ⟨h7, h8⟩ := He.ba h
  exact ⟨He.eqO_ok h1, He.eqO_ok h2, of_decide_eq_true h3, h4, He.eqO_ok h5, He.eqO_ok h6, of_decide_eq_true h7, of_decide_eq_true h8⟩
/-- a class by its name: an own one, a built-in one -/
inductive ClN where
  | own (x : Str) | bi (x : Str) (n : String)
def ClN.nm : ClN → Str
  | .own x => x
  | .bi x _ => x
def ClN.val (K : PySem.W.Frag) : ClN → Value
  | .own x => .ref (He.ga K x)
  | .bi _ n => .type n
def ClN.v (K : PySem.W.Frag) : ClN → V
  | .own x => .ref (He.ga K x)
  | .bi _ n => .ty n
/-- isinstance's answers: an exception's class, a class, yes or no -/
def kitB (K : PySem.W.Frag) (q : Str × ClN × Bool) : Bool := decide (PySem.W.kitOne K (.ref (He.ga K q.1)) (q.2.1.val K) = some q.2.2)
def exmB (K : PySem.W.Frag) (q : Str × ClN) : Bool := decide (PySem.W.exmOne K (.ref (He.ga K q.1)) (q.2.val K) = some true)
/-- all that is asked of the own classes -/
def moreB0 (tf : List He.Defn) (K : PySem.W.Frag) : Bool := decide (tf.map fun p => (He.cT K p).2).Nodup
def moreB (es : List Str) (ks : List (Str × ClN × Bool)) (ms : List (Str × ClN)) (K : PySem.W.Frag) : Bool := es.all (excB K) && (ks.all (kitB K) && ms.all (exmB K))
end TM

set_option Elab.async false
set_option linter.all false
set_option maxRecDepth 100000
set_option autoImplicit false
namespace TM
open PySem PySem.Spec PyProof.Rows L2

/-! ## plain parameters -/
def argsB (a : Arguments) (ps : List Str) : Bool := match a with
  | ⟨[], as, none, [], [], none, []⟩ => decide (as.map (·.arg) = ps)
  | _ => false
theorem argsB_ok {a : Arguments} {ps : List Str} (h : argsB a ps = true) : ∃ as : List Arg, a = ⟨[], as, none, [], [], none, []⟩ ∧ as.map (·.arg) = ps := by
  unfold argsB at h
  split at h
  · exact ⟨_, rfl, of_decide_eq_true h⟩
  · cases h
theorem zip_lookup : ∀ {ps : List Str} {us : List Value} {n : Str}, us.length = ps.length → n ∈ ps → ((ps.zip us).lookup n).isNone = false
  | [], _, _, _, h => by cases h
  | p :: ps, [], _, hl, _ => by cases hl
  | p :: ps, u :: us, n, hl, h => by
    rw [List.zip_cons_cons, List.lookup_cons]
    by_cases e : n = p
    · subst e
      rw [beq_self_eq_true]
      rfl
    · rw [beq_eq_false_iff_ne.mpr e]
      rcases List.mem_cons.mp h with z | z
      · exact absurd z e
      · exact zip_lookup (Nat.succ.inj hl) z
theorem fmap_congr {α β : Type} {f g : α → Option β} : ∀ {l : List α}, (∀ x ∈ l, f x = g x) → l.filterMap f = l.filterMap g
  | [], _ => rfl
  | x :: xs, h => by
    rw [List.filterMap_cons, List.filterMap_cons, h x List.mem_cons_self, fmap_congr fun y hy => h y (List.mem_cons_of_mem _ hy)]
theorem zip_back : ∀ {ps : List Str} {us : List Value}, us.length = ps.length → ps.Nodup → (ps.filterMap fun n => ((ps.zip us).lookup n).map (n, ·)) = ps.zip us
  | [], [], _, _ => rfl
  | p :: ps, u :: us, hl, nd => by
    rw [List.nodup_cons] at nd
    rw [List.zip_cons_cons, List.filterMap_cons]
    have e : (((p, u) :: ps.zip us).lookup p).map (p, ·) = some (p, u) := by
      rw [List.lookup_cons, beq_self_eq_true]; rfl
    rw [e]
    refine congrArg ((p, u) :: ·) ?_
    refine Eq.trans (fmap_congr fun n hn => ?_) (zip_back (Nat.succ.inj hl) nd.2)
    rw [List.lookup_cons, beq_eq_false_iff_ne.mpr (fun e => nd.1 (by rw [← e]; exact hn))]
  | [], _ :: _, hl, _ => by cases hl
  | _ :: _, [], hl, _ => by cases hl
theorem bind_plain {x qual : Str} {a : Arguments} {body : List Stmt} {scope : Scope} {kV doc pm cdv ct : Value} {an : Option Addr} {ps : List Str} {us : List Value} (ha : argsB a ps = true) (nd : ps.Nodup) (hl : us.length = ps.length) :
    bindArgs (PySem.W.fnOf x qual a body scope .none kV doc pm an cdv ct) ⟨us, []⟩ = pure (ps.zip us) := by
  obtain ⟨as, rfl, hm⟩ := argsB_ok ha
  have hn : ¬ us.length > ps.length := by omega
  have hmiss : (ps.filter fun n => ((ps.zip us).lookup n).isNone) = [] := List.filter_eq_nil_iff.mpr fun n hn => by rw [zip_lookup hl hn]; decide
  unfold bindArgs
  simp only [PySem.W.fnOf, List.map_nil, List.nil_append, hm, List.append_nil]
  have hsq : seqItems? Value.none = pure none := rfl
  simp [hsq, hn, hmiss, zip_back hl nd]
end TM

set_option Elab.async false
set_option linter.all false
set_option maxRecDepth 100000
set_option autoImplicit false
namespace TM
open PySem PySem.Spec PyProof.Rows L2

/-! ## the text's defs over the head's facts -/
def clsName (gl : List (Str × GV)) (c : Nat) : Option Str := gl.findSome? fun q => match q.2 with
  | .cls j => if j = c then some q.1 else none
  | _ => none
def tfOf (ds : List DefX) : List He.Defn := (ds.filter (·.lam)).map fun D => (D.nm, none)
def gloK (ds : List DefX) (gl : List (Str × GV)) (K : PySem.W.Frag) : Glo where
  fa i := (ds[i]?).map fun D => He.ga K D.nm
  ca c := (clsName gl c).map fun x => .ref (He.ga K x)
  an _ := ""
  T := (tfOf ds).map fun p => ((He.cT K p).2, p.1 ++ ".<locals>." ++ "<lambda>")
def dbgB (x : Str) : Bool := !(x == ("__debug__" : Str)) && !(x == ("__classdict__" : Str))
/-- a def has the form that is read -/
def dokB (tp : Nat → Stmt) (D : DefX) : Bool :=
  (match (defScope (tp D.top)).kind with | .function => true | _ => false) && (!(defScope (tp D.top)).isCoroutine && (!(defScope (tp D.top)).isGenerator && (decide D.N.Nodup && (decide (D.N.take D.ps.length = D.ps) &&
  (D.ps.all (fun x => decide ((defScope (tp D.top)).names.lookup x = some .local) || decide ((defScope (tp D.top)).names.lookup x = some .cell)) && ((defScope (tp D.top)).names.all (fun y => !decide (y.2 = .free)) &&
  (D.N.all dbgB && (decide (D.ps.length ≤ D.N.length) && (argsB (defArgs (tp D.top)) D.ps && decide D.ps.Nodup)))))))))
/-- a global name has the form that is read -/
def gokB (ds : List DefX) (gl : List (Str × GV)) : Str × GV → Bool
  | (x, .fn i) => !(x == ("__debug__" : Str)) && decide ((ds[i]?).map (·.nm) = some x)
  | (x, .lc i) => !(x == ("__debug__" : Str)) && decide ((ds[i]?).map (·.nm) = some x)
  | (x, .cls c) => !(x == ("__debug__" : Str)) && decide (clsName gl c = some x)
  | (x, .cst (.int i)) => !(x == ("__debug__" : Str))
  | (x, .cst (.str s)) => !(x == ("__debug__" : Str)) && (decide (s.length ≤ big) && s.all fun c => decide (c < 1114112))
  | (x, .cst _) => false
  | (x, .bk b) => decide (x = b.nm)
theorem mem_lookup2 {α : Type} {x : Str} {g : α} : ∀ {l : List (Str × α)}, l.lookup x = some g → (x, g) ∈ l
  | [], h => by cases h
  | (y, u) :: r, h => by
    rw [List.lookup_cons] at h
    by_cases e : x = y
    · subst e
      rw [beq_self_eq_true] at h
      cases h
      exact List.mem_cons_self
    · rw [beq_eq_false_iff_ne.mpr e] at h
      exact List.mem_cons_of_mem _ (mem_lookup2 h)
theorem nott {b : Bool} (h : (!b) = true) : b = false := by cases b <;> first | rfl | cases h
/-- what the head tells, what the text's data satisfy -/
structure HdF (P : Program) (w : World) (K : PySem.W.Frag) (mg : Str → Option Value) (tp : Nat → Stmt) (ds : List DefX) (gl : List (Str × GV)) : Prop where
  fact : ∀ f ∈ hdFas gl, f.ok K = true
  defs : ∀ D ∈ ds, ∃ fd, Fun K D.nm D.nm (tp D.top) (He.ga K D.nm) fd
  dok : ∀ D ∈ ds, dokB tp D = true
  gok : ∀ q ∈ gl, gokB ds gl q = true
  tn : ((tfOf ds).map fun p => (He.cT K p).2).Nodup
  glo : ∀ x, (He.Fa.glo x).ok K = true → mg x = some (.ref (He.ga K x))
  free : ∀ x, (He.Fa.free x).ok K = true → mg x = none
  int : ∀ x i, (He.Fa.int x i).ok K = true → ∃ t, mg x = some (.int i t)
  str : ∀ x z, (He.Fa.str x z).ok K = true → ∃ t, mg x = some (.str z t)
section
variable {P : Program} {w : World} {K : PySem.W.Frag} {mg : Str → Option Value} {tp : Nat → Stmt} {ds : List DefX} {gl : List (Str × GV)} (h : HdF P w K mg tp ds gl)
include h
theorem HdF.fa {q : Str × GV} (hq : q ∈ gl) {f : He.Fa} (hf : f ∈ hdFa q) : f.ok K = true := h.fact f (List.mem_flatMap.mpr ⟨q, hq, hf⟩)
theorem HdF.defOk {D : DefX} (hD : D ∈ ds) {lam : Nat → Option Cat} {Φ : Nat → Option (Nat × Fm)} : DefOk (D.ct gl lam Φ (tp D.top)) (tp D.top) D.ps ∧ argsB (defArgs (tp D.top)) D.ps = true ∧ D.ps.Nodup := by
  have h0 := h.dok D hD
  obtain ⟨h1, h0⟩ := He.ba h0
  obtain ⟨h2, h0⟩ := He.ba h0
  obtain ⟨h3, h0⟩ := He.ba h0
  obtain ⟨h4, h0⟩ := He.ba h0
  obtain ⟨h5, h0⟩ := He.ba h0
  obtain ⟨h6, h0⟩ := He.ba h0
  obtain ⟨h7, h0⟩ := He.ba h0
  obtain ⟨h8, h0⟩ := He.ba h0
  obtain ⟨h9, h0⟩ := He.ba h0
  obtain ⟨h10, h11⟩ := He.ba h0
  have nd := of_decide_eq_true h4
  refine ⟨⟨⟨?_, nott h2, nott h3, nd, of_decide_eq_true h5, fun x hx => ?_, fun y hy e => ?_⟩, rfl, nd, fun x hx => ?_, of_decide_eq_true h9⟩, h10, of_decide_eq_true h11⟩
  · split at h1
    · assumption
    · cases h1
  · have := List.all_eq_true.mp h6 x hx
    rw [Bool.or_eq_true] at this
    exact this.imp of_decide_eq_true of_decide_eq_true
  · have := List.all_eq_true.mp h7 y hy
    rw [e] at this
    cases this
  · obtain ⟨a, b⟩ := He.ba (List.all_eq_true.mp h8 x hx)
    exact ⟨nott a, nott b⟩
theorem HdF.binds {D : DefX} (hD : D ∈ ds) {fd : FuncData} (F : Fun K D.nm D.nm (tp D.top) (He.ga K D.nm) fd) : Binds K fd D.ps [] ∧ ∀ (s : Shared) (us : List Value), us.length = D.ps.length → BindsTo s fd ⟨us, []⟩ (D.ps.zip us) := by
  obtain ⟨_, ha, nd⟩ := h.defOk hD (lam := fun _ => none) (Φ := fun _ => none)
  obtain ⟨oc, od, kV, doc, pm, an, cdv, ct, osl, rfl, lk, hcd⟩ := F.ex
  exact ⟨.all fun us hl => bind_plain ha nd hl, fun s us hl => .of_eq (bind_plain ha nd hl)⟩
end
/-- what is handed to the catchers -/
def CatsOk (P : Program) (w : World) (K : PySem.W.Frag) (mg : Str → Option Value) (G : Glo) (tp : Nat → Stmt) (ds : List DefX) (lam : Nat → Option Cat) : Prop :=
  ∀ (i : Nat) (M : Cat), lam i = some M → ∃ (D : DefX) (a : Str), ds[i]? = some D ∧ D.ps = [a] ∧
    ∀ (Y : Cx) (q : Str) (cdg : Value), Y.prog = P → Y.w = w → Y.K = K → Y.mg = mg → GivesToN Y D.N D.nm (defScope (tp D.top)) (He.ga K D.nm) cdg (defBody (tp D.top)) a q (TTm K G M)
section
variable {P : Program} {w : World} {K : PySem.W.Frag} {mg : Str → Option Value} {base : Heap} {tp : Nat → Stmt} {ds : List DefX} {gl : List (Str × GV)} {lam : Nat → Option Cat}
theorem gl_ok (h : HdF P w K mg tp ds gl) (hl : CatsOk P w K mg (gloK ds gl K) tp ds lam) (hlm : ∀ q ∈ gl, ∀ i, q.2 = .lc i → ∃ M, lam i = some M) (hT : ∀ p ∈ tfOf ds, LamX.TabB base mg (He.cT K p).1 (He.cT K p).2) {D : DefX} (hD : D ∈ ds) {fd : FuncData} (F : Fun K D.nm D.nm (tp D.top) (He.ga K D.nm) fd) {Φ : Nat → Option (Nat × Fm)} {L : Nat}
    (X : Cx) (h1 : X.prog = P) (h2 : X.w = w) (h3 : X.K = K) (h4 : X.mg = mg) (h5 : X.base = base) (h6 : X.env.code = fd.code) (h7 : X.env.qual = D.nm ++ ".<locals>.") (y : Str) (g : GV) (hy : (D.ct gl lam Φ (tp D.top)).gl.lookup y = some g) : GOk X (gloK ds gl K) (D.ct gl lam Φ (tp D.top)) L y g := by
  have hm : (y, g) ∈ gl := mem_lookup2 hy
  have hk := h.gok _ hm
  subst h1 h2 h3 h4 h5
  cases g with
  | fn i =>
    obtain ⟨k1, k2⟩ := He.ba hk
    have k2 : (ds[i]?).map (·.nm) = some y := of_decide_eq_true k2
    refine ⟨nott k1, He.ga X.K y, h.glo _ (h.fa hm (f := .glo y) List.mem_cons_self), ?_⟩
    show (ds[i]?).map (fun D => He.ga X.K D.nm) = some (He.ga X.K y)
    cases hd : ds[i]? with
    | none => rw [hd] at k2; cases k2
    | some D' => rw [hd] at k2; cases k2; rfl
  | lc i =>
    obtain ⟨k1, k2⟩ := He.ba hk
    have k2 : (ds[i]?).map (·.nm) = some y := of_decide_eq_true k2
    intro hlam
    have hlam : D.lam = true := hlam
    obtain ⟨M, hM⟩ := hlm _ hm i rfl
    obtain ⟨D', a, hd, hps, hg⟩ := hl i M hM
    rw [hd] at k2
    have k2 : D'.nm = y := Option.some.inj k2
    subst k2
    have hD' : D' ∈ ds := List.mem_of_getElem? hd
    obtain ⟨fd', F'⟩ := h.defs D' hD'
    obtain ⟨ok', _, _⟩ := h.defOk hD' (lam := lam) (Φ := Φ)
    have b' := (h.binds hD' F').1
    obtain ⟨oc, od, kV, doc, pm, an, cdv, ct, osl, rfl, lk, hcd⟩ := F'.ex
    refine ⟨nott k1, M, hM, ?_⟩
    have hp : (D.nm, none) ∈ tfOf ds := List.mem_map.mpr ⟨D, List.mem_filter.mpr ⟨hD, hlam⟩, rfl⟩
    obtain ⟨oc2, od2, kV2, doc2, pm2, an2, cdv2, ct2, osl2, rfl, lk2, hcd2⟩ := F.ex
    obtain ⟨cc, ecc⟩ := He.codeIn_ref hcd2
    have lk3 : X.K.lookup (He.fAd X.K (D.nm, none)) = some ⟨oc2, od2, .func (PySem.W.fnOf D.nm D.nm (defArgs (tp D.top)) (defBody (tp D.top)) (defScope (tp D.top)) .none kV2 doc2 pm2 an2 cdv2 ct2), osl2⟩ := lk2
    have ec : He.codeOf X.K (D.nm, none) = cc := He.codeOf_eq lk3 ecc
    have hN0 : D'.N[0]? = some a := by
      have := ok'.fs.pre
      rw [hps] at this
      have e : D'.N.take 1 = [a] := this
      cases hn : D'.N with
      | nil => rw [hn] at e; cases e
      | cons z zs => rw [hn] at e; cases e; rfl
    have hmem : a ∈ D'.N := List.mem_of_getElem? hN0
    obtain ⟨db1, db2⟩ := ok'.dbg a hmem
    have hpar := ok'.fs.par a (by rw [hps]; exact List.mem_cons_self)
    refine ⟨a, He.ga X.K D'.nm, (He.cT X.K (D.nm, none)).1, (He.cT X.K (D.nm, none)).2, defArgs (tp D'.top), defBody (tp D'.top), defScope (tp D'.top), .none, kV, doc, pm, cdv, ct, oc, an, od, osl, D'.N,
      h.glo _ (h.fa hm (f := .glo D'.nm) List.mem_cons_self), F'.kp, lk, hcd, by rw [hps] at b'; exact b', by rw [← hps]; exact ok'.fs, hN0, hpar.elim .inl (fun z => .inr (.inl z)), db1, db2, hT _ hp, ?_, ?_, fun p hp' e => ?_, fun Y q e1 e2 e3 e4 e5 => ?_⟩
    · rw [h6]
      show cdv2 = .ref (He.codeOf X.K (D.nm, none))
      rw [ec, ecc]
    · rw [h7]
      exact List.mem_map.mpr ⟨_, hp, rfl⟩
    · rw [h7]
      obtain ⟨p', hp2, rfl⟩ := List.mem_map.mp hp'
      have : p' = (D.nm, none) := by
        have nd := h.tn
        have e : (He.cT X.K p').2 = (He.cT X.K (D.nm, none)).2 := e
        obtain ⟨i1, hi1, q1⟩ := List.mem_iff_getElem.mp hp2
        obtain ⟨i2, hi2, q2⟩ := List.mem_iff_getElem.mp hp
        have : i1 = i2 := by
          refine (List.getElem_inj (h₀ := by rw [List.length_map]; exact hi1) (h₁ := by rw [List.length_map]; exact hi2) nd).mp ?_
          rw [List.getElem_map, List.getElem_map, q1, q2]
          exact e
        subst this
        rw [← q1, ← q2]
      rw [this]
    · have := hg Y q cdv e1 e2 e3 e4
      rw [← e3] at this ⊢
      exact this
  | cls c =>
    obtain ⟨k1, k2⟩ := He.ba hk
    have k2 := of_decide_eq_true k2
    have hg := h.glo _ (h.fa hm (f := .glo y) List.mem_cons_self)
    obtain ⟨e1, e2, e3, e4⟩ := He.exc_ok (h.fa hm (f := .exc y) (List.mem_cons_of_mem _ List.mem_cons_self))
    refine ⟨nott k1, ⟨He.ga X.K y, "ValueError", "ValueError.__new__", "ValueError.__init__", He.veBase, PySem.F.excBase_ValueError, e1, hg, e2, raises_own e3 e4, ?_⟩⟩
    show (clsName gl c).map (fun x => Value.ref (He.ga X.K x)) = _
    rw [k2]
    rfl
  | cst d =>
    cases d with
    | int i =>
      obtain ⟨t, ht⟩ := h.int y i (h.fa hm (f := .int y i) List.mem_cons_self)
      exact ⟨nott hk, .int i, _, ht, ⟨t, rfl⟩, fun _ _ => .int i⟩
    | str s =>
      obtain ⟨k1, k2⟩ := He.ba hk
      obtain ⟨k2, k3⟩ := He.ba k2
      obtain ⟨t, ht⟩ := h.str y _ (h.fa hm (f := .str y ⟨s.toArray⟩) List.mem_cons_self)
      exact ⟨nott k1, .str ⟨s.toArray⟩, _, ht, ⟨t, rfl⟩, fun _ _ => .str ⟨le_line (of_decide_eq_true k2), fun c hc => of_decide_eq_true (List.all_eq_true.mp k3 c hc)⟩⟩
    | _ => cases hk
  | bk b => exact ⟨of_decide_eq_true hk, h.free _ (h.fa hm (f := .free y) List.mem_cons_self)⟩
/-- all defs, by the depth of their calls -/
theorem defs_ok (h : HdF P w K mg tp ds gl) (hl : CatsOk P w K mg (gloK ds gl K) tp ds lam) (hlm : ∀ q ∈ gl, ∀ i, q.2 = .lc i → ∃ M, lam i = some M) (hT : ∀ p ∈ tfOf ds, LamX.TabB base mg (He.cT K p).1 (He.cT K p).2) : ∀ (n : Nat) (j : Nat) (ad : Addr) (nn : Nat) (m : Fm), (gloK ds gl K).fa j = some ad → Φt tp ds gl lam n j = some (nn, m) → FnI P w K mg base (gloK ds gl K) (3 * n) ad nn m
  | 0, _, _, _, _, _, hj => by cases hj
  | n + 1, j, ad, nn, m, ha, hj => by
    have hj : ((ds[j]?).map fun D => (D.ps.length, runF D.N.length D.ps.length (bodyX 24 (D.ct gl lam (Φt tp ds gl lam n) (tp D.top)) (defBody (tp D.top))))) = some (nn, m) := hj
    have ha : (ds[j]?).map (fun D => He.ga K D.nm) = some ad := ha
    cases hd : ds[j]? with
    | none => rw [hd] at hj; cases hj
    | some D =>
      rw [hd] at hj ha
      cases hj
      cases ha
      have hD : D ∈ ds := List.mem_of_getElem? hd
      obtain ⟨fd, F⟩ := h.defs D hD
      obtain ⟨ok, _, _⟩ := h.defOk hD (lam := lam) (Φ := Φt tp ds gl lam n)
      exact def_ok 24 F ok (h.binds hD F).1 (fun X h1 h2 h3 h4 h5 h6 h7 => gl_ok h hl hlm hT hD F X h1 h2 h3 h4 h5 h6 h7) (defs_ok h hl hlm hT n)
/-- a def, told with its object -/
theorem def_okX (h : HdF P w K mg tp ds gl) (hl : CatsOk P w K mg (gloK ds gl K) tp ds lam) (hlm : ∀ q ∈ gl, ∀ i, q.2 = .lc i → ∃ M, lam i = some M) (hT : ∀ p ∈ tfOf ds, LamX.TabB base mg (He.cT K p).1 (He.cT K p).2) (n : Nat) {D : DefX} (hD : D ∈ ds) {fd : FuncData} (F : Fun K D.nm D.nm (tp D.top) (He.ga K D.nm) fd) :
    FnOk P w K mg base (L2N.CX P w) (3 * n + 3) (He.ga K D.nm) fd D.ps (spF K (gloK ds gl K) (runF D.N.length D.ps.length (bodyX 24 (D.ct gl lam (Φt tp ds gl lam n) (tp D.top)) (defBody (tp D.top)))) D.ps.length) := by
  obtain ⟨ok, _, _⟩ := h.defOk hD (lam := lam) (Φ := Φt tp ds gl lam n)
  exact def_okE 24 F ok (fun X h1 h2 h3 h4 h5 h6 h7 => gl_ok h hl hlm hT hD F X h1 h2 h3 h4 h5 h6 h7) (defs_ok h hl hlm hT n)
end
end TM

set_option Elab.async false
set_option linter.all false
set_option maxRecDepth 100000
set_option autoImplicit false
namespace TM
open PySem PySem.Spec PyProof.Rows L2

/-! ## the law at the head's heap -/
/-- the tracked things, no table -/
def notbl (H : Hp) : Hp := fun b => match H b with
  | some (.tbl _) => none
  | o => o
theorem notbl_some {H : Hp} {b : Addr} {o : HO} (h : notbl H b = some o) : H b = some o ∧ nt o := by
  unfold notbl at h
  split at h
  · cases h
  · rename_i hn
    refine ⟨h, fun ps e => ?_⟩
    rw [e] at h
    exact hn _ h
theorem notbl_of {H : Hp} {b : Addr} {o : HO} (h : H b = some o) (n : nt o) : notbl H b = some o := by
  unfold notbl
  rw [h]
  cases o with
  | tbl ps => exact absurd rfl (n ps)
  | _ => rfl
theorem lawAt_of {l : PySem.W.OpenLaw} {w : World} {K : PySem.W.Frag} {mg : Str → Option Value} {tp : Nat → Stmt} {ds : List DefX} {gl : List (Str × GV)} {lam : Nat → Option Cat} {hp : Heap} {n : Nat} {D : DefX} {x : Str} {fa : Addr}
    (h : HdF l.prog w K mg tp ds gl) (hl : CatsOk l.prog w K mg (gloK ds gl K) tp ds lam) (hlm : ∀ q ∈ gl, ∀ i, q.2 = .lc i → ∃ M, lam i = some M) (KX : K.In hp)
    (hhd : ∀ p ∈ tfOf ds, PySem.W.codeHdIn K (He.cT K p).1 (He.cT K p).2 = true) (hout : ∀ p ∈ tfOf ds, K.lookup (He.cT K p).2 = none) (hem : ∀ p ∈ tfOf ds, hp.get? (He.cT K p).2 = some { cls := .none, data := .fields #[] })
    (hD : D ∈ ds) (hps : D.ps = [x]) (hfa : fa = He.ga K D.nm)
    (hlaw : ∀ ns : List Int, ns.length ≤ 63 → ∃ S, runF D.N.length 1 (bodyX 24 (D.ct gl lam (Φt tp ds gl lam n) (tp D.top)) (defBody (tp D.top))) [.scr ns] [] = .ok (.bl true) S) :
    LamX.LawAtS l w K (L2N.CX l.prog w) (3 * n + 3) 63 x mg fa hp := by
  obtain ⟨fd, F⟩ := h.defs D hD
  have hb := (h.binds hD F).2
  subst hfa
  refine ⟨fd, (tfOf ds).map (He.cT K), spF K (gloK ds gl K) (runF D.N.length D.ps.length (bodyX 24 (D.ct gl lam (Φt tp ds gl lam n) (tp D.top)) (defBody (tp D.top)))) D.ps.length, fun p hp' => ?_, fun p hp' => ?_, fun p hp' => ?_, fun s u => ?_, fun H a ns hl1 _ ht hs => ?_, fun base KB _ hT => ?_⟩
  · obtain ⟨q, hq, rfl⟩ := List.mem_map.mp hp'
    exact hem q hq
  · obtain ⟨q, hq, rfl⟩ := List.mem_map.mp hp'
    exact hout q hq
  · obtain ⟨q, hq, rfl⟩ := List.mem_map.mp hp'
    exact PySem.W.codeHd_of_K KX (hhd q hq)
  · have := hb s [u] (by rw [hps]; rfl)
    rw [hps] at this
    exact this
  · obtain ⟨S, e⟩ := hlaw ns hl1
    have sq : SqL K (notbl H) a (ns.map V.int) := by
      rcases hs with (z | ⟨o, z⟩) | z
      · exact .inl (.inl (notbl_of z (nt_lst _)))
      · exact .inl (.inr ⟨o, notbl_of z (fun ps q => by cases q)⟩)
      · exact .inr z
    refine ⟨[.scr ns], [], notbl H, [], ⟨fun b o q => (notbl_some q).1, List.nodup_nil, fun p hp' => ?_, fun b o q => (notbl_some q).2, rfl, fun n o a e1 e2 => (by cases e1), fun a ha => (by cases ha)⟩, .cons (.scr sq) .nil, by rw [hps]; rfl, ?_⟩
    · obtain ⟨q, hq, rfl⟩ := List.mem_map.mp hp'
      exact LamX.TabS.nil (ht _ (List.mem_map.mpr ⟨q, hq, rfl⟩))
    · rw [hps]
      show CPost _ _ _ _ _ (runF D.N.length 1 _ _ _) _ _
      rw [e]
      intro v H' F' α' _ _ r
      cases r
      rfl
  · have := def_okX (base := base) h hl hlm (fun p hp' => hT _ (List.mem_map.mpr ⟨p, hp', rfl⟩)) n hD F
    rw [hps] at this ⊢
    exact this
/-- nothing leaves it -/
theorem cx_never (P : Program) (w : World) (H : Hp) (s : Shared) (e : Value) (s' : Shared) (h : L2N.CX P w [] H s (fun _ _ _ => False) e s') : False := by
  obtain ⟨_, _, _, _, _, _, _, _, _, _, _, _, z⟩ := h
  exact z
/-- the head's words, as the text's defs want them -/
theorem hdF_of {P : Program} {w : World} {K : PySem.W.Frag} {mg : Str → Option Value} {tp : Nat → Stmt} {ds : List DefX} {gl : List (Str × GV)} {hp : Heap} (X : K.In hp) (G : hp.Ns mainGlobals mg) {fas : List He.Fa} (c : He.SaysD fas (ds.map (hdDef tp)) K) (hsub : ∀ f ∈ hdFas gl, f ∈ fas)
    (dok : ds.all (dokB tp) = true) (gok : gl.all (gokB ds gl) = true) (tn : decide ((tfOf ds).map fun p => (He.cT K p).2).Nodup = true) : HdF P w K mg tp ds gl where
  fact := fun f hf => c.facts (hsub f hf)
  defs := fun D hD => by
    obtain ⟨fd, F⟩ := c.defs (d := hdDef tp D) (List.mem_map.mpr ⟨D, hD, rfl⟩)
    refine ⟨fd, ?_, F.kp⟩
    obtain ⟨oc, od, dV, kV, doc, pm, an, cdv, ct, osl, e, lk, hcd, hd, hk⟩ := F.ex
    rcases hd with ⟨_, rfl⟩ | ⟨z, _⟩
    · exact ⟨oc, od, kV, doc, pm, an, cdv, ct, osl, e, lk, hcd⟩
    · exact absurd rfl z
  dok := fun D hD => List.all_eq_true.mp dok D hD
  gok := fun q hq => List.all_eq_true.mp gok q hq
  tn := of_decide_eq_true tn
  glo := fun x hx => He.glo_ok X G hx
  free := fun x hx => He.free_ok X G hx
  int := fun x i hx => He.int_ok X G hx
  str := fun x z hx => He.str_ok X G hx
end TM

set_option Elab.async false
set_option linter.all false
set_option maxRecDepth 100000
set_option autoImplicit false
namespace TM
open PySem PySem.Spec PyProof.Rows L2

/-! ## a catcher by its text -/
structure CatQ where
  a : Str
  n : Str
  ce : Str
  b0 : Stmt
  suite : List Stmt
  fex : Expr
instance : Inhabited CatQ := ⟨⟨"", "", "", .Pass ⟨0, 0, 0, 0⟩, [], default⟩⟩
def catP : List Stmt → Option CatQ
  | [.Try [.Expr (.Call (.Name a _) [] [] _) _] [.ExceptHandler (some (.Name ce _)) (some n) (b0 :: suite) _] [] [] _, .Return (some fex) _] => some ⟨a, n, ce, b0, suite, fex⟩
  | _ => none
theorem catP_ok {b : List Stmt} {q : CatQ} (h : catP b = some q) : ∃ p1 p2 p3 np pos' pos p6, b = [.Try [.Expr (.Call (.Name q.a p1) [] [] p2) p3] [.ExceptHandler (some (.Name q.ce np)) (some q.n) (q.b0 :: q.suite) pos'] [] [] pos, .Return (some q.fex) p6] := by
  unfold catP at h
  split at h
  · cases h
    exact ⟨_, _, _, _, _, _, _, rfl⟩
  · cases h
/-- the answers of isinstance -/
def isiOf (gl : List (Str × GV)) (ks : List (Str × ClN × Bool)) (k : Nat) (cl : Str) : Option Bool := match clsName gl k with
  | some x => (ks.find? fun q => decide (q.1 = x) && decide (q.2.1.nm = cl)).map (·.2.2)
  | none => none
/-- a class's name is told by the head -/
def clnB (gl : List (Str × GV)) (fr : List Str) : ClN → Bool
  | .own x => decide ((gl.lookup x).isSome) && (match gl.lookup x with | some (.cls _) => true | _ => false) && !(x == ("__debug__" : Str))
  | .bi x n => decide (x ∈ fr) && (decide (bootBuiltins x = some (.type n)) && (decide (x ≠ "__name__") && !(x == ("__debug__" : Str))))
section
variable {P : Program} {w : World} {K : PySem.W.Frag} {mg : Str → Option Value} {tp : Nat → Stmt} {ds : List DefX} {gl : List (Str × GV)}
theorem cln_ok (h : HdF P w K mg tp ds gl) {fr : List Str} (hfr : ∀ x ∈ fr, mg x = none) {cl : ClN} (hb : clnB gl fr cl = true) : ClsF mg cl.nm (cl.v K) (cl.val K) := by
  cases cl with
  | own x =>
    obtain ⟨h1, h2⟩ := He.ba hb
    obtain ⟨h1, h3⟩ := He.ba h1
    cases hx : gl.lookup x with
    | none => rw [hx] at h3; cases h3
    | some g =>
      rw [hx] at h3
      cases g <;> first | (cases h3; done) | skip
      rename_i c
      have hm := mem_lookup2 hx
      exact ⟨rfl, fun u r => r, nott h2, .inl (h.glo _ (h.fa hm (f := .glo x) List.mem_cons_self))⟩
  | bi x n =>
    obtain ⟨h1, h2⟩ := He.ba hb
    obtain ⟨h2, h3⟩ := He.ba h2
    obtain ⟨h3, h4⟩ := He.ba h3
    exact ⟨rfl, fun u r => r, nott h4, .inr ⟨hfr x (of_decide_eq_true h1), of_decide_eq_true h2, of_decide_eq_true h3⟩⟩
theorem mem_lookupN {α : Type} {k : Nat} {d : α} : ∀ {l : List (Nat × α)}, l.lookup k = some d → (k, d) ∈ l
  | [], h => by cases h
  | (y, u) :: r, h => by
    rw [List.lookup_cons] at h
    by_cases e : k = y
    · subst e
      rw [beq_self_eq_true] at h
      cases h
      exact List.mem_cons_self
    · rw [beq_eq_false_iff_ne.mpr e] at h
      exact List.mem_cons_of_mem _ (mem_lookupN h)
/-- one catcher -/
theorem cats_one (h : HdF P w K mg tp ds gl) {D : DefX} (hD : D ∈ ds) {q : CatQ} (hq : catP (defBody (tp D.top)) = some q) (hps : D.ps = [q.a]) {slot : Nat} (hsl : D.N[slot]? = some q.n) (hln : (defScope (tp D.top)).names.lookup q.n = some .local)
    (hge : (defScope (tp D.top)).names.lookup q.ce = some .globalImplicit) {fr es : List Str} (hfr : ∀ x ∈ fr, mg x = none) {ks : List (Str × ClN × Bool)} {ms : List (Str × ClN)} (hmo : moreB es ks ms K = true) {CE : ClN} (hce : CE.nm = q.ce) (hcb : clnB gl fr CE = true)
    (hkb : ks.all (fun q' => clnB gl fr q'.2.1 && decide ((defScope (tp D.top)).names.lookup q'.2.1.nm = some .globalImplicit)) = true) (hk : clsName gl 1000 = none) {fd : TM.D} {md : List (Nat × TM.D)}
    (hmd : md.all (fun p => nocD 1000 p.2 && (match clsName gl p.1 with | some x => decide (x ∈ es) && (ms.any fun z => decide (z.1 = x) && (match z.2, CE with | .own a, .own b => decide (a = b) | _, _ => false)) | none => false)) = true)
    (hfd : ∀ S, retS (sEx (D.ct gl (fun _ => none) (fun _ => none) (tp D.top)) ⟨slot, fun _ => none⟩ 6 q.fex) (List.replicate D.N.length none) S = .rt fd S)
    (hrun : ∀ p ∈ md, ∀ S, sSts (D.ct gl (fun _ => none) (fun _ => none) (tp D.top)) ⟨slot, isiOf gl ks p.1⟩ (q.b0 :: q.suite) (catR D.N.length slot) S = .rt p.2 S)
    (Y : Cx) (qq : Str) (cdg : Value) (h1 : Y.prog = P) (h2 : Y.w = w) (h3 : Y.K = K) (h4 : Y.mg = mg) : GivesToN Y D.N D.nm (defScope (tp D.top)) (He.ga K D.nm) cdg (defBody (tp D.top)) q.a qq (TTm K (gloK ds gl K) (catM fd fun k => md.lookup k)) := by
  subst h1 h2 h3 h4
  obtain ⟨m1, m2⟩ := He.ba hmo
  obtain ⟨m2, m3⟩ := He.ba m2
  obtain ⟨ok, _, _⟩ := h.defOk hD (lam := fun _ => none) (Φ := fun _ => none)
  have F := cln_ok h hfr hcb
  rw [hce] at F
  have look : ∀ {k d}, md.lookup k = some d → (k, d) ∈ md := fun {k d} e => mem_lookupN e
  refine catch_ok (c := D.ct gl (fun _ => none) (fun _ => none) (tp D.top)) (n := q.n) (ce := q.ce) (i := slot) (b₀ := q.b0) (suite := q.suite) (fex := q.fex) (CE := CE.val Y.K) (isi := isiOf gl ks)
    ⟨by rw [← hps]; exact ok, catP_ok hq, hsl, hln, hge, F.d⟩ F.m ?_ ?_ (fun k d hd => ?_) (fun k d hd => ?_) hfd (fun k d S hd => hrun _ (look hd) S)
  · show (clsName gl 1000).map _ = none
    rw [hk]; rfl
  · intro x b hx
    have hm := mem_lookup2 hx
    have e : x = b.nm := of_decide_eq_true (h.gok _ hm)
    exact ⟨e, h.free _ (h.fa hm (f := .free x) List.mem_cons_self)⟩
  · have hp := List.all_eq_true.mp hmd _ (look hd)
    obtain ⟨_, hp⟩ := He.ba hp
    cases hx : clsName gl k with
    | none => rw [hx] at hp; cases hp
    | some x =>
      rw [hx] at hp
      obtain ⟨p1, p2⟩ := He.ba hp
      obtain ⟨z, hz, p3⟩ := List.any_eq_true.mp p2
      obtain ⟨p3, p4⟩ := He.ba p3
      have ez : z.1 = x := of_decide_eq_true p3
      refine ⟨He.ga Y.K x, by show (clsName gl k).map _ = _; rw [hx]; rfl, ?_, excB_ok (List.all_eq_true.mp m1 _ (of_decide_eq_true p1)), fun cl b hcl => ?_⟩
      · have ex : PySem.W.exmOne Y.K (.ref (He.ga Y.K z.1)) (z.2.val Y.K) = some true := of_decide_eq_true (List.all_eq_true.mp m3 _ hz)
        rw [ez] at ex
        cases hz2 : z.2 with
        | own a =>
          cases CE with
          | own b' =>
            rw [hz2] at p4 ex
            have : a = b' := of_decide_eq_true p4
            subst this
            exact ex
          | bi _ _ => rw [hz2] at p4; cases p4
        | bi _ _ => rw [hz2] at p4; cases p4
      · unfold isiOf at hcl
        rw [hx] at hcl
        have hcl : (ks.find? fun q => decide (q.1 = x) && decide (q.2.1.nm = cl)).map (·.2.2) = some b := hcl
        cases hf : ks.find? fun q => decide (q.1 = x) && decide (q.2.1.nm = cl) with
        | none => rw [hf] at hcl; cases hcl
        | some z' =>
          rw [hf] at hcl
          cases hcl
          have hmem := List.mem_of_find?_eq_some hf
          have hpp := List.find?_some hf
          obtain ⟨f1, f2⟩ := He.ba hpp
          have f1 : z'.1 = x := of_decide_eq_true f1
          have f2 : z'.2.1.nm = cl := of_decide_eq_true f2
          obtain ⟨g1, g2⟩ := He.ba (List.all_eq_true.mp hkb _ hmem)
          have kk : PySem.W.kitOne Y.K (.ref (He.ga Y.K z'.1)) (z'.2.1.val Y.K) = some z'.2.2 := of_decide_eq_true (List.all_eq_true.mp m2 _ hmem)
          rw [f1] at kk
          have F' := cln_ok h hfr g1
          rw [f2] at F'
          exact ⟨_, _, F', by rw [← f2]; exact of_decide_eq_true g2, kk⟩
  · obtain ⟨hp, _⟩ := He.ba (List.all_eq_true.mp hmd _ (look hd))
    exact hp
end
end TM

set_option Elab.async false
set_option linter.all false
set_option maxRecDepth 20000
set_option autoImplicit false
namespace TM
open PySem PySem.Spec PyProof.Rows L2

/-! ## a text's defs as terms -/
abbrev Tb := Nat → Option (Nat × Fm)
abbrev Lm := Nat → Option Cat
/-- a call of the text's j-th def -/
def cE (Φ : Tb) (j : Nat) (fs : Exs) : Ex := match Φ j with
  | some (n, m) => fcE n m fs
  | none => stuckE
/-- a catcher called with a lambda -/
def lmE (lam : Lm) (i : Nat) (f : Ex) : Ex := match lam i with
  | some M => lamE M f
  | none => stuckE
def fzS (is : List Nat) (f : Sx) : Sx := fun ρ S => f (frzS is ρ) S
def ctS : Sx := fun ρ S => .ct ρ S
def bkS : Sx := fun ρ S => .bk ρ S
def isO : D → D → Option D := fun a b => (isNonO a b).orElse fun _ => isBO false a b
def isnO : D → D → Option D := fun a b => (notNonO a b).orElse fun _ => isBO true a b
abbrev Tab := List (Nat × Nat × (Tb → Lm → Sx))
def Φb (tab : Tab) (lam : Lm) : Nat → Tb
  | 0, _ => none
  | n + 1, j => (tab[j]?).map fun q => (q.2.1, runF q.1 q.2.1 (q.2.2 (Φb tab lam n) lam))
/-- what is to be shown of the tables -/
def TabOk (tp : Nat → Stmt) (ds : List DefX) (gl : List (Str × GV)) : List DefX → Tab → Prop
  | [], [] => True
  | D :: Ds, q :: qs => (D.N.length = q.1 ∧ D.ps.length = q.2.1 ∧ ∀ Φ lam, bodyX 24 (D.ct gl lam Φ (tp D.top)) (defBody (tp D.top)) = q.2.2 Φ lam) ∧ TabOk tp ds gl Ds qs
  | _, _ => False
theorem tabOk_get {tp : Nat → Stmt} {ds : List DefX} {gl : List (Str × GV)} : ∀ {Ds : List DefX} {qs : Tab}, TabOk tp ds gl Ds qs → ∀ (j : Nat) (lam : Lm) (Φ : Tb),
    (Ds[j]?).map (fun D => (D.ps.length, runF D.N.length D.ps.length (bodyX 24 (D.ct gl lam Φ (tp D.top)) (defBody (tp D.top))))) = (qs[j]?).map fun q => (q.2.1, runF q.1 q.2.1 (q.2.2 Φ lam))
  | [], [], _, _, _, _ => rfl
  | D :: Ds, q :: qs, h, 0, lam, Φ => by
    obtain ⟨⟨h1, h2, h3⟩, _⟩ := h
    simp only [List.getElem?_cons_zero, Option.map_some]
    rw [h3, h1, h2]
  | D :: Ds, q :: qs, h, j + 1, lam, Φ => by
    simp only [List.getElem?_cons_succ]
    exact tabOk_get h.2 j lam Φ
  | [], _ :: _, h, _, _, _ => h.elim
  | _ :: _, [], h, _, _, _ => h.elim
theorem Φt_eq {tp : Nat → Stmt} {ds : List DefX} {gl : List (Str × GV)} {tab : Tab} (h : TabOk tp ds gl ds tab) (lam : Lm) : ∀ n, Φt tp ds gl lam n = Φb tab lam n
  | 0 => rfl
  | n + 1 => by
    funext j
    show (ds[j]?).map _ = (tab[j]?).map _
    rw [Φt_eq h lam n]
    exact tabOk_get h j lam _
end TM

set_option Elab.async false
set_option linter.all false
set_option maxRecDepth 20000
set_option autoImplicit false
namespace TM
open PySem PySem.Spec PyProof.Rows L2

/-! ## the state of draws -/
structure CK where
  (c0 c1 c2 c3 c4 r0 r1 r2 r3 r4 r5 : Int)
def cupB (k : CK) : Sx := (seqS (setS 1 (callE absO (consEs (binES ixS (binE addO (callE (orO lstO lstSO) (consEs (ownE 0) nilEs)) (dispE D.lst (consEs (cstE (.int
    0)) nilEs))) (cstE (.int 0))) nilEs))) (seqS (retNS (dispE D.lst (consEs (ifE (binE geO (ownE 1) (binE powO (cstE (.int 10)) (cstE (.int 18)))) (binE fdivO (ownE 1) (cstE (.int
    k.c0))) (cstE (.int 0))) (consEs (binE addO (binE modO (callE intO (consEs (binE addO (binE mul2O (ownE 1) (cstE (.int k.c1))) (cstE (.int k.c2))) nilEs)) (cstE (.int k.c3)))
    (cstE (.int k.c4))) nilEs)))) nopS))
def rollB (k : CK) : Sx := (seqS (iffS (binE gtO (binES ixS (ownE 0) (cstE (.int 0))) (cstE (.int 0))) (seqS (setS 3 (binE modO (callE intO (consEs (binES ixS (ownE
    0) (cstE (.int 0))) nilEs)) (ownE 1))) (seqS (stiS 0 (binE fdivO (binES ixS (ownE 0) (cstE (.int 0))) (ownE 1)) (cstE (.int 0))) (seqS (retS (varE 3)) nopS))) nopS) (seqS (stiS
    0 (binE modO (callE intO (consEs (binE addO (binE mul2O (binES ixS (ownE 0) (cstE (.int 1))) (cstE (.int k.r0))) (cstE (.int k.r1))) nilEs)) (cstE (.int k.r2))) (cstE
    (.int 1))) (seqS (setS 2 (binE modO (callE intO (consEs (binE mul2O (binES ixS (ownE 0) (cstE (.int 1))) (binE addO (binES ixS (ownE 0) (cstE (.int 1))) (cstE (.int k.r3))))
    nilEs)) (cstE (.int k.r4)))) (seqS (retS (binE modO (callE intO (consEs (binE fdivO (ownE 2) (cstE (.int k.r5))) nilEs)) (ownE 1))) nopS))))
/-- the constants are within bounds -/
def CK.ok (k : CK) : Bool := decide (0 < k.c0 ∧ k.c0 < 1000) && decide (0 < k.c1 ∧ k.c1 < 100000) && decide (0 ≤ k.c2 ∧ k.c2 < 100000) && decide (0 < k.c3 ∧ k.c3 < 2147483648) && decide (0 ≤ k.c4 ∧ k.c4 < 100000) &&
  decide (0 < k.r0 ∧ k.r0 < 100000) && decide (0 ≤ k.r1 ∧ k.r1 < 100000) && decide (0 < k.r2 ∧ k.r2 < 2147483648) && decide (0 ≤ k.r3 ∧ k.r3 < 100000) && decide (0 < k.r4 ∧ k.r4 < 2147483648) && decide (0 < k.r5 ∧ k.r5 < 100000)
structure Cup where
  (a b : Int)
def Cup.so (c : Cup) : SO := .b (.l [.int c.a, .int c.b])
structure Cup.Ok (c : Cup) : Prop where
  a0 : 0 ≤ c.a
  b0 : 0 ≤ c.b
  b1 : c.b < 4294967296
def rollV (k : CK) (c : Cup) (m : Int) : Int := if 0 < c.a then c.a % m else
  ((((c.b * k.r0 + k.r1) % k.r2) * ((c.b * k.r0 + k.r1) % k.r2 + k.r3) % k.r4) / k.r5) % m
def rollC (k : CK) (c : Cup) (m : Int) : Cup := if 0 < c.a then ⟨c.a / m, c.b⟩ else ⟨c.a, (c.b * k.r0 + k.r1) % k.r2⟩
structure RollOk (k : CK) (c : Cup) (m : Int) : Prop where
  lo : 0 ≤ rollV k c m
  hi : rollV k c m < m
  ok : (rollC k c m).Ok
theorem roll_in {k : CK} (hk : k.ok = true) {c : Cup} (hc : c.Ok) {m : Int} (hm : 0 < m) : RollOk k c m := by
  simp only [CK.ok, Bool.and_eq_true, decide_eq_true_eq] at hk
  obtain ⟨⟨⟨⟨⟨⟨⟨⟨⟨⟨h0, h1⟩, h2⟩, h3⟩, h4⟩, h5⟩, h6⟩, h7⟩, h8⟩, h9⟩, h10⟩ := hk
  have hm' : m ≠ 0 := by omega
  refine ⟨?_, ?_, ?_⟩
  · unfold rollV; split <;> exact Int.emod_nonneg _ hm'
  · unfold rollV; split <;> exact Int.emod_lt_of_pos _ hm
  · unfold rollC
    split
    · rename_i h
      exact ⟨Int.ediv_nonneg hc.a0 (by omega), hc.b0, hc.b1⟩
    · have := Int.emod_nonneg (c.b * k.r0 + k.r1) (show k.r2 ≠ 0 by omega)
      have := Int.emod_lt_of_pos (c.b * k.r0 + k.r1) h7.1
      exact ⟨hc.a0, by assumption, by show _ % _ < _; omega⟩
theorem alk_int (i j : Int) : alk (.int i) (.int j) = true := rfl
theorem ltv_int (i j : Int) : ltv (.int i) (.int j) = decide (i < j) := rfl
theorem gtO_int (i j : Int) : gtO (.int i) (.int j) = some (.bl (decide (j < i))) := rfl
theorem ltO_int (i j : Int) : ltO (.int i) (.int j) = some (.bl (decide (i < j))) := rfl
theorem geO_int (i j : Int) : geO (.int i) (.int j) = some (.bl (!decide (i < j))) := rfl
theorem leO_int (i j : Int) : leO (.int i) (.int j) = some (.bl (!decide (j < i))) := rfl
theorem small64_of {i : Int} (h : -18446744073709551616 < i) (h2 : i < 18446744073709551616) : small64 i = true := by
  unfold small64; rw [decide_eq_true h, decide_eq_true h2]; rfl
theorem mul2O_int {i j : Int} (h : (small64 i || small64 j) = true) : mul2O (.int i) (.int j) = some (.int (i * j)) := by
  unfold mul2O mulO
  simp only [h, if_true]
  rfl
theorem fdivO_int {i j : Int} (h : 0 < j) (h2 : j < 1073741824) : fdivO (.int i) (.int j) = some (.int (i / j)) := by
  unfold fdivO; simp only [decide_eq_true h, decide_eq_true h2]; rfl
theorem modO_int {i j : Int} (h : 0 < j) : modO (.int i) (.int j) = some (.int (i % j)) := by
  unfold modO; simp only [h, if_true]
theorem ixS_ref {S : Sto} {n : Nat} {xs : List D} (h : S[n]? = some (.b (.l xs))) (b : D) : ixS S (.ref n) b = ixO (.lst xs) b := by
  unfold ixS; simp only [h]
theorem roll_ok {k : CK} (hk : k.ok = true) {c : Cup} (hc : c.Ok) {m : Int} (hm : 0 < m) (hm2 : m < 1073741824) {S : Sto} {n : Nat} (hS : S[n]? = some c.so) :
    runF 4 2 (rollB k) [.ref n, .int m] S = .ok (.int (rollV k c m)) (S.set n (rollC k c m).so) := by
  simp only [CK.ok, Bool.and_eq_true, decide_eq_true_eq] at hk
  obtain ⟨⟨⟨⟨⟨⟨⟨⟨⟨⟨h0, h1⟩, h2⟩, h3⟩, h4⟩, h5⟩, h6⟩, h7⟩, h8⟩, h9⟩, h10⟩ := hk
  have hn : n < S.length := (List.getElem?_eq_some_iff.mp hS).1
  have hS' : S[n]? = some (.b (.l [.int c.a, .int c.b])) := hS
  have i0 : ∀ x y : D, ixO (.lst [x, y]) (.int 0) = some x := fun _ _ => rfl
  have i1 : ∀ x y : D, ixO (.lst [x, y]) (.int 1) = some y := fun _ _ => rfl
  show runF 4 2 (seqS (iffS _ _ _) _) _ _ = _
  unfold runF
  simp only [List.map_cons, List.map_nil, List.cons_append, List.nil_append, List.replicate, seqS, iffS, binE, binES, ownE, varE, cstE, ER.bind, ER.sbind, List.getElem?_cons_zero, List.getElem?_cons_succ, ixS_ref hS', lift, i0, gtO_int]
  by_cases ha : 0 < c.a
  · simp only [ha, decide_true, setS, seqS, binE, binES, callE, consEs, nilEs, ownE, cstE, varE, ER.bind, ERs.bind, ER.binds, ERs.cons, ER.sbind, SR.bind, List.getElem?_cons_zero, List.getElem?_cons_succ, ixS_ref hS', lift, i0, intO, modO_int hm, List.set,
      stiS, fdivO_int hm hm2, hS', retS]
    have e : ixN [D.int c.a, D.int c.b].length 0 = some 0 := rfl
    simp only [e, SR.bind, ER.sbind, varE, List.getElem?_cons_zero, List.getElem?_cons_succ]
    congr 1
    · show D.int (c.a % m) = _
      unfold rollV; rw [if_pos ha]
    · unfold rollC; rw [if_pos ha]; rfl
  · have hsm : (small64 c.b || small64 k.r0) = true := by rw [small64_of (i := k.r0) (by omega) (by omega), Bool.or_true]
    have hb0 := Int.emod_nonneg (c.b * k.r0 + k.r1) (show k.r2 ≠ 0 by omega)
    have hb1 := Int.emod_lt_of_pos (c.b * k.r0 + k.r1) h7.1
    have hset : (S.set n (.b (.l [.int c.a, .int ((c.b * k.r0 + k.r1) % k.r2)])))[n]? = some (.b (.l [.int c.a, .int ((c.b * k.r0 + k.r1) % k.r2)])) := by
      rw [List.getElem?_set_self hn]
    have hsm2 : (small64 ((c.b * k.r0 + k.r1) % k.r2) || small64 ((c.b * k.r0 + k.r1) % k.r2 + k.r3)) = true := by
      rw [small64_of (i := (c.b * k.r0 + k.r1) % k.r2) (by omega) (by omega), Bool.true_or]
    have e : ixN [D.int c.a, D.int c.b].length 1 = some 1 := rfl
    have add : ∀ i j : Int, addO (.int i) (.int j) = some (.int (i + j)) := fun _ _ => rfl
    simp only [ha, decide_false, nopS, setS, seqS, binE, binES, callE, consEs, nilEs, ownE, cstE, varE, ER.bind, ERs.bind, ER.binds, ERs.cons, ER.sbind, SR.bind, List.getElem?_cons_zero, List.getElem?_cons_succ, ixS_ref hS', ixS_ref hset, lift, i1, intO, modO_int hm, List.set,
      stiS, fdivO_int hm hm2, hS', retS, mul2O_int hsm, add, modO_int h7.1, modO_int h9.1, fdivO_int h10.1 (show k.r5 < 1073741824 by omega), e, mul2O_int hsm2]
    congr 1
    · unfold rollV; rw [if_neg ha]
    · unfold rollC; rw [if_neg ha]; rfl
/-- the first state -/
def cup0 (k : CK) (ns : List Int) : Cup :=
  let cell := (ns ++ [0]).headD 0
  let cell := if cell < 0 then -cell else cell
  ⟨if 10 ^ 18 ≤ cell then cell / k.c0 else 0, (cell * k.c1 + k.c2) % k.c3 + k.c4⟩
theorem cup0_ok {k : CK} (hk : k.ok = true) (ns : List Int) : (cup0 k ns).Ok := by
  simp only [CK.ok, Bool.and_eq_true, decide_eq_true_eq] at hk
  obtain ⟨⟨⟨⟨⟨⟨⟨⟨⟨⟨h0, h1⟩, h2⟩, h3⟩, h4⟩, h5⟩, h6⟩, h7⟩, h8⟩, h9⟩, h10⟩ := hk
  unfold cup0
  generalize (ns ++ [0]).headD 0 = x
  refine ⟨?_, ?_, ?_⟩
  · have hx : 0 ≤ if x < 0 then -x else x := by split <;> omega
    show (0 : Int) ≤ (if (10 : Int) ^ 18 ≤ (if x < 0 then -x else x) then (if x < 0 then -x else x) / k.c0 else 0)
    generalize (if x < 0 then -x else x) = z at hx
    by_cases hz : (10 : Int) ^ 18 ≤ z
    · rw [if_pos hz]; exact Int.ediv_nonneg hx (by omega)
    · rw [if_neg hz]; exact Int.le_refl 0
  · have := Int.emod_nonneg ((if x < 0 then -x else x) * k.c1 + k.c2) (show k.c3 ≠ 0 by omega)
    show 0 ≤ _ % _ + _
    omega
  · have := Int.emod_lt_of_pos ((if x < 0 then -x else x) * k.c1 + k.c2) h3.1
    show _ % _ + _ < _
    omega
theorem cup_ok {k : CK} (hk : k.ok = true) {ns : List Int} (hn : ns.length ≤ 63) {S : Sto} :
    runF 2 1 (cupB k) [.scr ns] S = .ok (.ref S.length) (S ++ [(cup0 k ns).so]) := by
  simp only [CK.ok, Bool.and_eq_true, decide_eq_true_eq] at hk
  obtain ⟨⟨⟨⟨⟨⟨⟨⟨⟨⟨h0, h1⟩, h2⟩, h3⟩, h4⟩, h5⟩, h6⟩, h7⟩, h8⟩, h9⟩, h10⟩ := hk
  have l1 : orO lstO lstSO [.scr ns] = some (.lst (ns.map D.int)) := by
    show (lstO [.scr ns]).orElse _ = _
    unfold lstO
    simp only [hn, if_true]
    rfl
  have l2 : addO (.lst (ns.map D.int)) (.lst [.int 0]) = some (.lst ((ns ++ [0]).map D.int)) := by
    unfold addO
    simp only [List.length_map, List.length_cons, List.length_nil]
    rw [if_pos (by show ns.length + 1 ≤ 16777216; omega)]
    simp only [List.map_append, List.map_cons, List.map_nil]
  have l3 : ∃ x r, ns ++ [0] = x :: r := by
    cases ns with
    | nil => exact ⟨0, [], rfl⟩
    | cons a r => exact ⟨a, r ++ [0], rfl⟩
  obtain ⟨x, r, hx⟩ := l3
  have l4 : ∀ S, ixS S (.lst (D.int x :: r.map D.int)) (.int 0) = some (.int x) := fun S => by
    show ixO (.lst (D.int x :: r.map D.int)) (.int 0) = _
    exact atI_nat (j := 0) rfl
  have add : ∀ i j : Int, addO (.int i) (.int j) = some (.int (i + j)) := fun _ _ => rfl
  have hsm : ∀ z : Int, (small64 z || small64 k.c1) = true := fun z => by rw [small64_of (i := k.c1) (by omega) (by omega), Bool.or_true]
  have pw : powO (.int 10) (.int 18) = some (.int (10 ^ 18)) := rfl
  have ln : ∀ x y : D, [x, y].length ≤ big := fun _ _ => by show 2 ≤ 16777216; decide
  have ln1 : ∀ x : D, [x].length ≤ big := fun _ => by show 1 ≤ 16777216; decide
  unfold cup0 runF cupB
  simp only [List.map_cons, List.map_nil, List.cons_append, List.nil_append, List.replicate, seqS, setS, callE, consEs, nilEs, binE, binES, ownE, varE, cstE, dispE, ER.bind, ERs.bind, ER.binds, ERs.cons, ER.sbind, SR.bind, List.getElem?_cons_zero, List.getElem?_cons_succ, lift, l1, ln1, if_true, l2, hx, l4, absO, List.set,
    retNS, ifE, geO_int, pw]
  have hd : (x :: r).headD 0 = x := rfl
  rw [hd]
  generalize (if x < 0 then -x else x) = z
  by_cases hz : 10 ^ 18 ≤ z
  · have : decide (z < 10 ^ 18) = false := decide_eq_false (by omega)
    simp only [this, Bool.not_false, fdivO_int h0.1 (show k.c0 < 1073741824 by omega), mul2O_int (hsm z), add, modO_int h3.1, intO, ln, if_true, obOf, lift, ER.bind, ERs.bind, ER.binds, ERs.cons, ER.sbind, SR.bind, List.getElem?_cons_zero, List.getElem?_cons_succ, if_pos hz, Cup.so]
  · have : decide (z < 10 ^ 18) = true := decide_eq_true (by omega)
    simp only [this, Bool.not_true, fdivO_int h0.1 (show k.c0 < 1073741824 by omega), mul2O_int (hsm z), add, modO_int h3.1, intO, ln, if_true, obOf, lift, ER.bind, ERs.bind, ER.binds, ERs.cons, ER.sbind, SR.bind, List.getElem?_cons_zero, List.getElem?_cons_succ, if_neg hz, Cup.so]
end TM

set_option Elab.async false
set_option linter.all false
set_option maxRecDepth 20000
set_option autoImplicit false
namespace TM
open PySem PySem.Spec PyProof.Rows L2

/-! ## the words, applied: for simp only [] -/
section
variable {ρ : Slots} {S S1 : Sto} {f g h c : Ex} {fs gs : Exs} {d a b : D} {x : Xc} {o o' : D → D → Option D} {u : D → Option D} {l : List D → Option D} {os : Sto → D → D → Option D}
  {p q : Sx} {i j n : Nat} {t : Tg} {ds : List D} {Φ : Tb} {lam : Lm}
theorem bind_ok (k : D → Sto → ER) : (ER.ok d S).bind k = k d S := rfl
theorem bind_exc (k : D → Sto → ER) : (ER.exc x S).bind k = .exc x S := rfl
theorem bind_stuck (k : D → Sto → ER) : ER.stuck.bind k = .stuck := rfl
theorem bindss_ok (k : List D → Sto → ER) : (ERs.ok ds S).bind k = k ds S := rfl
theorem bindss_exc (k : List D → Sto → ER) : (ERs.exc x S).bind k = .exc x S := rfl
theorem bindss_stuck (k : List D → Sto → ER) : ERs.stuck.bind k = .stuck := rfl
theorem binds_ok (k : D → Sto → ERs) : (ER.ok d S).binds k = k d S := rfl
theorem binds_exc (k : D → Sto → ERs) : (ER.exc x S).binds k = .exc x S := rfl
theorem binds_stuck (k : D → Sto → ERs) : ER.stuck.binds k = .stuck := rfl
theorem bindl_ok (k : List D → Sto → ERs) : (ERs.ok ds S).bindl k = k ds S := rfl
theorem bindl_exc (k : List D → Sto → ERs) : (ERs.exc x S).bindl k = .exc x S := rfl
theorem cons_ok : (ERs.ok ds S).cons d = .ok (d :: ds) S := rfl
theorem cons_exc : (ERs.exc x S).cons d = .exc x S := rfl
theorem sbind_ok (k : D → Sto → SR) : (ER.ok d S).sbind ρ k = k d S := rfl
theorem sbind_exc (k : D → Sto → SR) : (ER.exc x S).sbind ρ k = .exc x ρ S := rfl
theorem srbind_nx (k : Slots → Sto → SR) : (SR.nx ρ S).bind k = k ρ S := rfl
theorem srbind_rt (k : Slots → Sto → SR) : (SR.rt d S).bind k = .rt d S := rfl
theorem srbind_ct (k : Slots → Sto → SR) : (SR.ct ρ S).bind k = .ct ρ S := rfl
theorem srbind_bk (k : Slots → Sto → SR) : (SR.bk ρ S).bind k = .bk ρ S := rfl
theorem srbind_exc (k : Slots → Sto → SR) : (SR.exc x ρ S).bind k = .exc x ρ S := rfl
theorem lift_some : lift (some d) S = .ok d S := rfl
theorem lifts_some : lifts (some ds) S = .ok ds S := rfl
theorem binE_ap : binE o f g ρ S = (f ρ S).bind fun a S1 => (g ρ S1).bind fun b S2 => lift (o a b) S2 := rfl
theorem binES_ap : binES os f g ρ S = (f ρ S).bind fun a S1 => (g ρ S1).bind fun b S2 => lift (os S2 a b) S2 := rfl
theorem unE_ap : unE u f ρ S = (f ρ S).bind fun a S1 => lift (u a) S1 := rfl
theorem cstE_ap : cstE d ρ S = .ok d S := rfl
theorem varE_ap0 : varE 0 (some (.val d) :: ρ) S = .ok d S := rfl
theorem varE_apS {s : Option SV} : varE (i + 1) (s :: ρ) S = varE i ρ S := rfl
theorem ownE_ap0 : ownE 0 (some (.val d) :: ρ) S = .ok d S := rfl
theorem ownE_ap0' {o : OB} : ownE 0 (some (.own o) :: ρ) S = .ok o.toD S := rfl
theorem ownE_apS {s : Option SV} : ownE (i + 1) (s :: ρ) S = ownE i ρ S := rfl
theorem toD_l {xs : List D} : (OB.l xs).toD = .lst xs := rfl
theorem nilEs_ap : nilEs ρ S = .ok [] S := rfl
theorem consEs_ap : consEs f fs ρ S = (f ρ S).binds fun a S1 => (fs ρ S1).cons a := rfl
theorem dispE_ap {mk : List D → D} : dispE mk fs ρ S = (fs ρ S).bind fun ds S1 => if ds.length ≤ big then .ok (mk ds) S1 else .stuck := rfl
theorem callE_ap : callE l fs ρ S = (fs ρ S).bind fun ds S1 => lift (l ds) S1 := rfl
theorem truE_ap : truE f ρ S = (f ρ S).bind fun d S1 => lift ((truD d).map D.bl) S1 := rfl
theorem ifE_ap : ifE c f g ρ S = (c ρ S).bind fun k S1 => match k with
    | .bl true => f ρ S1
    | .bl false => g ρ S1
    | _ => .stuck := rfl
theorem andE_ap : andE f g ρ S = (f ρ S).bind fun d S1 => match truD d with
  | some true => g ρ S1
  | some false => .ok d S1
  | none => .stuck := rfl
theorem orE_ap : orE f g ρ S = (f ρ S).bind fun d S1 => match truD d with
  | some true => .ok d S1
  | some false => g ρ S1
  | none => .stuck := rfl
theorem notE_ap : notE f ρ S = (f ρ S).bind fun d S1 => lift ((truD d).map fun b => D.bl (!b)) S1 := rfl
theorem chE_ap : chE o o' f g h ρ S = (f ρ S).bind fun a S1 => (g ρ S1).bind fun b S2 => match o a b with
  | some (.bl true) => (h ρ S2).bind fun c S3 => lift (o' b c) S3
  | some (.bl false) => .ok (.bl false) S2
  | _ => .stuck := rfl
theorem andT_ap : andT f g ρ S = ifE f g (cstE (.bl false)) ρ S := rfl
theorem orT_ap : orT f g ρ S = ifE f (cstE (.bl true)) g ρ S := rfl
theorem notT_ap : notT f ρ S = ifE f (cstE (.bl false)) (cstE (.bl true)) ρ S := rfl
theorem truD_bl (b : Bool) : truD (.bl b) = some b := rfl
theorem seqS_ap : seqS p q ρ S = (p ρ S).bind q := rfl
theorem nopS_ap : nopS ρ S = .nx ρ S := rfl
theorem exprS_ap : exprS f ρ S = (f ρ S).sbind ρ fun _ S1 => .nx ρ S1 := rfl
theorem retS_ap : retS f ρ S = (f ρ S).sbind ρ fun d S1 => .rt d S1 := rfl
theorem setS_ap : setS i f ρ S = (f ρ S).sbind ρ fun d S1 => .nx (ρ.set i (some (.val d))) S1 := rfl
theorem asgS_ap : asgS t f ρ S = (f ρ S).sbind ρ fun d S1 => match t d ρ with
  | some ρ' => .nx ρ' S1
  | none => .stuck := rfl
theorem iffS_ap : iffS c p q ρ S = (c ρ S).sbind ρ fun d S1 => match d with
  | .bl true => p ρ S1
  | .bl false => q ρ S1
  | _ => .stuck := rfl
theorem newS_ap : newS i f ρ S = (f ρ S).sbind ρ fun d S1 => match obOf d with
  | some o => .nx (ρ.set i (some (.own o))) S1
  | none => .stuck := rfl
theorem fzS_ap {is : List Nat} : fzS is p ρ S = p (frzS is ρ) S := rfl
theorem ctS_ap : ctS ρ S = .ct ρ S := rfl
theorem bkS_ap : bkS ρ S = .bk ρ S := rfl
theorem raiS_ap : raiS i ρ S = .exc ⟨i, []⟩ ρ S := rfl
theorem frzS_nil : frzS [] ρ = ρ := rfl
theorem frzS_cons {is : List Nat} : frzS (i :: is) ρ = frzS is (frz1 i ρ) := rfl
theorem forS_ap : forS fs t p ρ S = match fs ρ S with
  | .ok ds S1 => forGo t p ds ρ S1
  | .exc x S1 => .exc x ρ S1
  | .stuck => .stuck := rfl
theorem srcI_ap {r : List D → Option (List D)} : srcI r fs ρ S = (fs ρ S).bindl fun ds S1 => lifts (r ds) S1 := rfl
theorem seqI_ap : seqI f ρ S = (f ρ S).binds fun d S1 => lifts (itemsO d) S1 := rfl
theorem mthE_ap : mthE o f g ρ S = (f ρ S).bind fun a S1 => match a with
  | .str s => (g ρ S1).bind fun b S2 => lift (o (.str s) b) S2
  | _ => .stuck := rfl
theorem mthL_ap : mthL o f g ρ S = (f ρ S).bind fun a S1 => match a with
  | .lst s => (g ρ S1).bind fun b S2 => lift (o (.lst s) b) S2
  | _ => .stuck := rfl
theorem set_0 {s s' : Option SV} : List.set (s :: ρ) 0 s' = s' :: ρ := rfl
theorem set_S {s s' : Option SV} : List.set (s :: ρ) (i + 1) s' = s :: List.set ρ i s' := rfl
theorem nameG_ap : nameG i d ρ = some (ρ.set i (some (.val d))) := rfl
theorem nilGs_ap : nilGs [] ρ = some ρ := rfl
theorem consGs_ap {ts : Tgs} : consGs t ts (d :: ds) ρ = (t d ρ).bind fun ρ' => ts ds ρ' := rfl
theorem obind_some {A B : Type} (y : A) (k : A → Option B) : (some y).bind k = k y := rfl
theorem omap_some {A B : Type} (y : A) (k : A → B) : (some y).map k = some (k y) := rfl
theorem appS_ap0 {xs : List D} : appS 0 f (some (.own (.l xs)) :: ρ) S = (f (some (.own (.l xs)) :: ρ) S).sbind (some (.own (.l xs)) :: ρ) fun d S1 =>
    if xs.length < big then .nx (some (.own (.l (xs ++ [d]))) :: ρ) S1 else .stuck := rfl
end
/-- a def of the text, called -/
def call (Φ : Tb) (j : Nat) (ds : List D) (S : Sto) : ER := callT Φ j ds S
theorem cE_ap {tab : Tab} {lam : Lm} {n j : Nat} {fs : Exs} {ρ : Slots} {S : Sto} (h : (tab[j]?).isSome = true) : cE (Φb tab lam (n + 1)) j fs ρ S = (fs ρ S).bind fun ds S1 => call (Φb tab lam (n + 1)) j ds S1 := by
  obtain ⟨q, hq⟩ := Option.isSome_iff_exists.mp h
  have e : Φb tab lam (n + 1) j = some (q.2.1, runF q.1 q.2.1 (q.2.2 (Φb tab lam n) lam)) := by
    show (tab[j]?).map _ = _
    rw [hq]; rfl
  unfold cE call callT
  rw [e]
  rfl
theorem call_eq {tab : Tab} {lam : Lm} {n j : Nat} {ds : List D} {S : Sto} {q : Nat × Nat × (Tb → Lm → Sx)} (h : tab[j]? = some q) (hl : ds.length = q.2.1) :
    call (Φb tab lam (n + 1)) j ds S = runF q.1 q.2.1 (q.2.2 (Φb tab lam n) lam) ds S := by
  have e : Φb tab lam (n + 1) j = some (q.2.1, runF q.1 q.2.1 (q.2.2 (Φb tab lam n) lam)) := by
    show (tab[j]?).map _ = _
    rw [h]; rfl
  unfold call callT
  rw [e]
  simp only [hl, if_true]
end TM
namespace TM
open PySem PySem.Spec PyProof.Rows L2
/-- one of several things -/
def someB (J : Nat) (Φ : Tb) : Sx := (seqS (retS (binES ixS (ownE 1) (cE Φ J (consEs (varE 0) (consEs (callE lenO (consEs (ownE 1) nilEs)) nilEs))))) nopS)
/-- the place of a drawn thing -/
def pick (k : CK) (c : Cup) (n : Nat) : Nat := (rollV k c (n : Nat)).toNat
def pickC (k : CK) (c : Cup) (n : Nat) : Cup := rollC k c (n : Nat)
theorem pick_in {k : CK} (hk : k.ok = true) {c : Cup} (hc : c.Ok) {n : Nat} (hn : 0 < n) : pick k c n < n ∧ (pickC k c n).Ok ∧ rollV k c (n : Nat) = (pick k c n : Nat) := by
  obtain ⟨h1, h2, h3⟩ := roll_in hk hc (m := (n : Nat)) (by omega)
  exact ⟨by unfold pick; omega, h3, by unfold pick; omega⟩
theorem some_run {tab : Tab} {lam : Lm} {n J : Nat} {k : CK} (hk : k.ok = true) (hq : tab[J]? = some (4, 2, fun _ _ => rollB k)) {c : Cup} (hc : c.Ok) {xs : List D} (h0 : 0 < xs.length) (h1 : xs.length < 1073741824) {dx : D} (hd : dx = .lst xs ∨ dx = .tup xs) :
    runF 2 2 (someB J (Φb tab lam (n + 1))) [.ref 0, dx] [c.so] = .ok (xs.getD (pick k c xs.length) .non) [(pickC k c xs.length).so] := by
  have hr : call (Φb tab lam (n + 1)) J [.ref 0, .int (xs.length : Nat)] [c.so] = .ok (.int (rollV k c (xs.length : Nat))) [(rollC k c (xs.length : Nat)).so] := by
    rw [call_eq hq rfl]
    exact roll_ok (n := 0) hk hc (by omega) (by omega) rfl
  obtain ⟨p1, p2, p3⟩ := pick_in hk hc h0
  have hx : xs[pick k c xs.length]? = some (xs.getD (pick k c xs.length) .non) := by
    rw [List.getElem?_eq_getElem p1, List.getD_eq_getElem?_getD, List.getElem?_eq_getElem p1]; rfl
  have hix : ∀ S, ixS S dx (.int (rollV k c (xs.length : Nat))) = some (xs.getD (pick k c xs.length) .non) := fun S => by
    rw [p3]
    rcases hd with rfl | rfl
    · exact atI_nat hx
    · exact atI_nat hx
  have hlen : lenO [dx] = some (.int (xs.length : Nat)) := by rcases hd with rfl | rfl <;> rfl
  unfold runF someB
  simp only [TM.bind_ok, TM.bind_exc, TM.bind_stuck, TM.bindss_ok, TM.bindss_exc, TM.bindss_stuck, TM.binds_ok, TM.binds_exc, TM.binds_stuck, TM.bindl_ok, TM.bindl_exc, TM.cons_ok, TM.cons_exc, TM.sbind_ok, TM.sbind_exc, TM.srbind_nx, TM.srbind_rt, TM.srbind_ct, TM.srbind_bk, TM.srbind_exc, TM.lift_some, TM.lifts_some, TM.binE_ap, TM.binES_ap, TM.unE_ap, TM.cstE_ap, TM.varE_ap0, TM.varE_apS, TM.ownE_ap0, TM.ownE_ap0', TM.ownE_apS, TM.toD_l, TM.nilEs_ap, TM.consEs_ap, TM.dispE_ap, TM.callE_ap, TM.truE_ap, TM.ifE_ap, TM.andE_ap, TM.orE_ap, TM.notE_ap, TM.chE_ap, TM.andT_ap, TM.orT_ap, TM.notT_ap, TM.truD_bl, TM.seqS_ap, TM.nopS_ap, TM.exprS_ap, TM.retS_ap, TM.setS_ap, TM.asgS_ap, TM.iffS_ap, TM.newS_ap, TM.fzS_ap, TM.ctS_ap, TM.bkS_ap, TM.raiS_ap, TM.frzS_nil, TM.frzS_cons, TM.forS_ap, TM.srcI_ap, TM.seqI_ap, TM.mthE_ap, TM.mthL_ap, TM.set_0, TM.set_S, TM.nameG_ap, TM.nilGs_ap, TM.consGs_ap, TM.obind_some, TM.omap_some, TM.appS_ap0, List.map_cons, List.map_nil, List.cons_append, List.nil_append, List.replicate, cE_ap (n := n) (show (tab[J]?).isSome = true by rw [hq]; rfl), hlen, hr, hix]
  rfl
end TM

set_option Elab.async false
set_option linter.all false
set_option maxRecDepth 1000000
set_option maxHeartbeats 0
namespace K88
open PySem PySem.Spec PyProof.Rows L2 TM
abbrev top (i : Nat) : Stmt := PySem.Challenge.pw_tilemakers_k88_whole_errors_of_seams.main.body.getD i (.Pass ⟨0, 0, 0, 0⟩)
def defs : List DefX := ([
  ⟨"is_whole", 9, ["value"], ["value"], [], [], false⟩,
  ⟨"fits_whole", 10, ["value", "low", "high"], ["value", "low", "high"], [], [], false⟩,
  ⟨"is_tuple_of", 11, ["value", "least", "most"], ["value", "least", "most"], [], [], false⟩,
  ⟨"fits_row", 12, ["value", "sign"], ["value"], [], [], false⟩,
  ⟨"fits_tile", 13, ["value", "row"], ["value"], [], [], false⟩,
  ⟨"need_tile", 14, ["value"], ["value"], [], [], false⟩,
  ⟨"sign_in", 15, ["tile", "cell"], ["tile", "cell"], [], [], false⟩,
  ⟨"fits_piece", 18, ["value"], ["value"], [], [], false⟩,
  ⟨"need_pair", 19, ["one", "two", "size"], ["one", "two", "size"], [], [], false⟩,
  ⟨"fits_seam", 20, ["size", "value", "one"], ["size", "value"], [], [], false⟩,
  ⟨"need_seam", 21, ["size", "value"], ["size", "value"], [], [], false⟩,
  ⟨"beside", 22, ["one", "two", "row", "place"], ["one", "two", "row", "place"], [], [], false⟩,
  ⟨"above", 23, ["one", "two", "row", "place", "later", "cells", "x", "low", "high"], ["one", "two", "row", "place", "later"], [], [], false⟩,
  ⟨"cost_in", 24, ["one", "two", "seam", "is_closed", "found", "ends", "row", "place", "later"], ["one", "two", "seam", "is_closed"], [], [], false⟩,
  ⟨"steps_in", 25, ["one", "two", "size", "row", "places", "found", "place", "later"], ["one", "two", "size"], [5], [(62, [5])], false⟩,
  ⟨"costs_in", 26, ["one", "two", "size", "row", "place"], ["one", "two", "size"], [], [], false⟩,
  ⟨"forth", 27, ["costs", "steps", "found", "row", "line", "at", "cost", "some", "own", "step"], ["costs", "steps"], [2, 4], [(72, [4]), (73, [2])], false⟩,
  ⟨"held", 28, ["costs", "row", "at", "line", "own", "cost"], ["costs", "row", "at"], [], [], false⟩,
  ⟨"traced", 29, ["costs", "steps", "table", "last", "found", "row", "due", "ahead", "at", "own"], ["costs", "steps", "table", "last"], [], [], false⟩,
  ⟨"cheapest_in", 30, ["one", "two", "size", "table", "least", "costs", "steps"], ["one", "two", "size"], [], [], false⟩] : List DefX) ++ ([
  ⟨"closed_in", 31, ["one", "two", "size", "begin", "costs", "steps", "best", "own", "table", "ends", "at", "cost"], ["one", "two", "size"], [], [], false⟩,
  ⟨"ways_in", 32, ["one", "two", "size", "line", "row", "least", "costs", "steps", "later", "cost", "at", "some", "own", "step"], ["one", "two", "size"], [8], [(107, [8])], false⟩,
  ⟨"fits_bounds", 33, ["one", "two", "size", "value", "wide", "row", "costs", "steps", "at", "own", "most", "cost", "bound", "step"], ["one", "two", "size", "value"], [], [], false⟩,
  ⟨"is_seam", 34, ["size", "value"], ["size", "value"], [], [], false⟩,
  ⟨"joined_piece", 35, ["one", "two", "size", "seam", "rows", "y", "place", "x"], ["one", "two", "size", "seam"], [4], [], false⟩,
  ⟨"seam_cost", 36, ["one", "two", "size", "seam"], ["one", "two", "size", "seam"], [], [], false⟩,
  ⟨"closed_cost", 37, ["one", "two", "size", "seam"], ["one", "two", "size", "seam"], [], [], false⟩,
  ⟨"least_cost", 38, ["one", "two", "size"], ["one", "two", "size"], [], [], false⟩,
  ⟨"cheapest_seam", 39, ["one", "two", "size"], ["one", "two", "size"], [], [], false⟩,
  ⟨"cheapest_many", 40, ["one", "two", "size"], ["one", "two", "size"], [], [], false⟩,
  ⟨"least_closed", 41, ["one", "two", "size"], ["one", "two", "size"], [], [], false⟩,
  ⟨"cheapest_closed", 42, ["one", "two", "size"], ["one", "two", "size"], [], [], false⟩,
  ⟨"least_through", 43, ["one", "two", "size", "row", "place", "table", "own"], ["one", "two", "size", "row", "place"], [], [], false⟩,
  ⟨"seam_paper", 44, ["one", "two", "size", "row"], ["one", "two", "size"], [], [], false⟩,
  ⟨"is_seam_paper", 45, ["one", "two", "size", "value"], ["one", "two", "size", "value"], [], [], false⟩,
  ⟨"_law_cup", 47, ["script", "cell"], ["script"], [1000], [], false⟩,
  ⟨"_law_roll", 48, ["cup", "many", "deep", "found"], ["cup", "many"], [], [], false⟩,
  ⟨"_law_some", 49, ["cup", "things"], ["cup", "things"], [], [], false⟩,
  ⟨"_law_same", 50, ["told", "due", "at"], ["told", "due"], [], [], false⟩,
  ⟨"_law_word", 51, ["call", "error", "kinds", "words", "word", "good"], ["call"], [], [], false⟩] : List DefX) ++ ([
  ⟨"_law_asked", 52, ["one", "two", "size", "seam", "row", "place", "words", "call"], ["one", "two", "size", "seam", "row", "place"], [6], [], true⟩,
  ⟨"law", 53, ["script", "cup", "odds", "odd", "great", "tile", "told", "one", "two", "size", "seam"], ["script"], [], [], true⟩] : List DefX)
def gls : List (Str × GV) := ([("is_whole", GV.fn 0), ("fits_whole", GV.fn 1), ("is_tuple_of", GV.fn 2), ("fits_row", GV.fn 3), ("fits_tile", GV.fn 4), ("need_tile", GV.fn 5), ("sign_in", GV.fn 6), ("fits_piece", GV.fn 7), ("need_pair", GV.fn 8), ("fits_seam", GV.fn 9), ("need_seam", GV.fn 10), ("beside", GV.fn 11), ("above", GV.fn 12), ("cost_in", GV.fn 13), ("steps_in", GV.fn 14), ("costs_in", GV.fn 15), ("forth", GV.fn 16), ("held", GV.fn 17), ("traced", GV.fn 18), ("cheapest_in", GV.fn 19), ("closed_in", GV.fn 20), ("ways_in", GV.fn 21), ("fits_bounds", GV.fn 22), ("is_seam", GV.fn 23)] : List (Str × GV)) ++ ([("joined_piece", GV.fn 24), ("seam_cost", GV.fn 25), ("closed_cost", GV.fn 26), ("least_cost", GV.fn 27), ("cheapest_seam", GV.fn 28), ("cheapest_many", GV.fn 29), ("least_closed", GV.fn 30), ("cheapest_closed", GV.fn 31), ("least_through", GV.fn 32), ("seam_paper", GV.fn 33), ("is_seam_paper", GV.fn 34), ("_law_cup", GV.fn 35), ("_law_roll", GV.fn 36), ("_law_some", GV.fn 37), ("_law_same", GV.fn 38), ("_law_word", GV.lc 39), ("_law_asked", GV.fn 40), ("law", GV.fn 41), ("PrintError", GV.cls 0), ("InvalidTile", GV.cls 1), ("InvalidSize", GV.cls 2), ("InvalidNumber", GV.cls 3), ("InvalidPaper", GV.cls 4), ("SIGNS", GV.cst (.str [97, 98, 99, 100, 101, 102, 103, 104, 105, 106, 107, 108, 109, 110, 111, 112, 113, 114, 115, 116, 117, 118, 119, 120, 121, 122, 46]))] : List (Str × GV)) ++ ([("MOST", GV.cst (.int 12)), ("SIDE", GV.cst (.int 12)), ("abs", GV.bk .abs), ("all", GV.bk .all), ("any", GV.bk .any), ("bool", GV.bk .bool), ("enumerate", GV.bk .enum), ("int", GV.bk .int), ("isinstance", GV.bk .isin), ("len", GV.bk .len), ("list", GV.bk .list), ("min", GV.bk .min), ("range", GV.bk .range), ("str", GV.bk .str), ("sum", GV.bk .sum), ("tuple", GV.bk .tuple), ("zip", GV.bk .zip)] : List (Str × GV))
-- builtins not told:  ['ValueError', '__name__']
def loose : List Str := (["__name__", "PrintError", "InvalidTile", "InvalidSize", "InvalidNumber", "InvalidPaper", "SIGNS", "MOST", "is_whole", "fits_whole", "is_tuple_of", "fits_row", "fits_tile", "need_tile", "sign_in", "SIDE", "fits_piece", "need_pair", "fits_seam", "need_seam", "beside", "above", "cost_in", "steps_in"] : List Str) ++ (["costs_in", "forth", "held", "traced", "cheapest_in", "closed_in", "ways_in", "fits_bounds", "is_seam", "joined_piece", "seam_cost", "closed_cost", "least_cost", "cheapest_seam", "cheapest_many", "least_closed", "cheapest_closed", "least_through", "seam_paper", "is_seam_paper", "_law_cup", "_law_roll", "_law_some", "_law_same"] : List Str) ++ (["_law_word", "_law_asked"] : List Str)
def lawAt : Nat := 53

abbrev LAW : PySem.W.OpenLaw := PySem.Challenge.rw_tilemakers_k88_whole_errors_of_seams
abbrev R : PySem.W.OpenRow := PySem.W.OpenLaw.row LAW
def fnD : List He.DefD := defs.map (hdDef top)
def free : List Str := ["ValueError"]
def fas : List He.Fa := hdFas gls ++ free.map He.Fa.free
def excs : List Str := ["InvalidTile", "InvalidSize", "InvalidNumber", "InvalidPaper"]
def kits : List (Str × ClN × Bool) := excs.flatMap fun x => [(x, .own "InvalidTile", x == "InvalidTile"), (x, .own "InvalidSize", x == "InvalidSize"), (x, .own "InvalidPaper", x == "InvalidPaper"), (x, .own "InvalidNumber", x == "InvalidNumber"), (x, .bi "ValueError" "ValueError", true)]
def exms : List (Str × ClN) := excs.map fun x => (x, .own "PrintError")
def ex (K : PySem.W.Frag) : Bool := moreB excs kits exms K && moreB0 (tfOf defs) K
abbrev hk : PySem.W.Hook := He.hookX 4 fas fnD [] (tfOf defs) ex
def ob (s : PySem.W.SharedT) : He.AlX := He.obsX 4 fas fnD [] (tfOf defs) ex (HandSHeadRun.getT s)
theorem ob_eq (s : PySem.W.SharedT) : ob s = hk.obs s.abs := He.obsX_eq (HandSHeadRun.getT_eq s)
theorem run (w : World) : HandSHeadRun.RunEq R (PySem.W.view R.prog [lawAt]) hk ob 4000 loose w := by
  intro os
  kernel_rfl
/-! the catcher -/
def wDef : DefX := defs.getD 39 default
def wQ : CatQ := (catP (defBody (top wDef.top))).getD default
def wMd : List (Nat × D) := [(1, .str [116, 105, 108, 101]), (2, .str [115, 105, 122, 101]), (3, .str [110, 117, 109, 98, 101, 114]), (4, .str [112, 97, 112, 101, 114])]
def wCat : Cat := catM (.str []) fun k => wMd.lookup k
def lam (i : Nat) : Option Cat := if i = 39 then some wCat else none
def lDef : DefX := defs.getD 41 default
theorem dok : defs.all (dokB top) = true := by decide +kernel
theorem gok : gls.all (gokB defs gls) = true := by decide +kernel
theorem hlm : ∀ q ∈ gls, ∀ i, q.2 = .lc i → ∃ M, lam i = some M := by
  have : gls.all (fun q => match q.2 with | .lc i => decide (i = 39) | _ => true) = true := by decide +kernel
  intro q hq i hi
  have z := List.all_eq_true.mp this q hq
  rw [hi] at z
  exact ⟨wCat, if_pos (of_decide_eq_true z)⟩
section
variable {w : World} {K : PySem.W.Frag} {mg : Str → Option Value} {hp : Heap}
theorem cats (h : HdF LAW.prog w K mg top defs gls) (hfr : ∀ x ∈ free, mg x = none) (hmo : moreB excs kits exms K = true) : CatsOk LAW.prog w K mg (gloK defs gls K) top defs lam := by
  intro i M hM
  by_cases e : i = 39
  · subst e
    have hM : some wCat = some M := hM
    cases hM
    refine ⟨wDef, wQ.a, by rfl, by decide +kernel, fun Y q cdg h1 h2 h3 h4 => ?_⟩
    refine cats_one h (D := wDef) (List.mem_of_getElem? (i := 39) (by rfl)) (q := wQ) (by rfl) (by decide +kernel) (slot := 1) (by decide +kernel) (by decide +kernel) (by decide +kernel) (fr := free) hfr hmo (CE := .own "PrintError") (by decide +kernel) (by decide +kernel) (by decide +kernel) (by decide +kernel) (by decide +kernel) (fun S => by rfl) ?_ Y q cdg h1 h2 h3 h4
    intro p hp S
    have hp : p = (1, D.str [116, 105, 108, 101]) ∨ p = (2, D.str [115, 105, 122, 101]) ∨ p = (3, D.str [110, 117, 109, 98, 101, 114]) ∨ p = (4, D.str [112, 97, 112, 101, 114]) := by
      simpa [wMd] using hp
    rcases hp with rfl | rfl | rfl | rfl <;> kernel_rfl
  · have hM : (if i = 39 then some wCat else none) = some M := hM
    rw [if_neg e] at hM
    cases hM
end
end K88
open PySem PySem.W PySem.Calls PyProof.Rows
theorem k88_join (hlaw : ∀ ns : List Int, ns.length ≤ 63 → ∃ S, TM.runF K88.lDef.N.length 1 (TM.bodyX 24 (K88.lDef.ct K88.gls K88.lam (TM.Φt K88.top K88.defs K88.gls K88.lam 15) (K88.top K88.lDef.top)) (L2.defBody (K88.top K88.lDef.top))) [.scr ns] [] = .ok (.bl true) S) :
    PySem.Challenge.rw_tilemakers_k88_whole_errors_of_seams.Holds := by
  w_on; o_law
  refine HandSHeadRun.head_any (r := K88.R) (q := view K88.R.prog [K88.lawAt]) (H := K88.hk) (ob := K88.ob) (M := 4000) (loose := K88.loose) (d := HandSHeadRun.topDef K88.R.prog K88.lawAt) (kwd := []) K88.ob_eq
    (by kernel_rfl) (fun s => by kernel_rfl) K88.run (by kernel_rfl) (by kernel_rfl) (by kernel_rfl) (by rfl) (by first | assumption | decide +kernel) (by decide +kernel) ⟨rfl, rfl, rfl, rfl, rfl, by decide +kernel⟩ ?hw ?hc
  case hw => w_witness2
  case hc =>
    refine LamX.walk_ofTsE (l := K88.LAW) (n := 63) (k := 48) (x := "script") (CX := fun w => L2N.CX K88.LAW.prog w) rfl (by decide) (by kernel_rfl) ⟨rfl, by decide, by decide⟩ ?F (fun w H s e s' z => TM.cx_never _ w H s e s' z)
    intro w mg fa h Y G hmg0
    obtain ⟨K, KX, c⟩ := Y
    have hmg : mg ("law" : PySem.Str) = some (.ref fa) := by
      have e : (HandSHeadRun.topDef K88.R.prog K88.lawAt).name = ("law" : PySem.Str) := by kernel_rfl
      rw [← e]
      exact hmg0
    obtain ⟨m1, m2⟩ := He.ba c.more
    have hF := TM.hdF_of (P := K88.LAW.prog) (w := w) (tp := K88.top) (ds := K88.defs) (gl := K88.gls) KX G c.t.d (fun f hf => List.mem_append_left _ hf) K88.dok K88.gok m2
    have hfr : ∀ x ∈ K88.free, mg x = none := fun x hx => He.free_ok KX G (c.t.d.facts (f := .free x) (List.mem_append_right _ (List.mem_map.mpr ⟨x, hx, rfl⟩)))
    have hlD : K88.lDef ∈ K88.defs := List.mem_of_getElem? (i := 41) (by rfl)
    have efa : fa = He.ga K K88.lDef.nm := by
      have e := hmg.symm.trans (hF.glo ("law" : PySem.Str) (c.t.d.facts (f := .glo ("law" : PySem.Str)) (List.mem_append_left _ (List.mem_flatMap.mpr ⟨(("law" : PySem.Str), TM.GV.fn 41), TM.mem_lookup2 (by rfl), List.mem_cons_self⟩))))
      have e2 : K88.lDef.nm = ("law" : PySem.Str) := by decide +kernel
      rw [e2]
      exact Value.ref.inj (Option.some.inj e)
    exact ⟨K, KX, TM.lawAt_of (n := 15) (D := K88.lDef) hF (K88.cats hF hfr m1) K88.hlm KX c.hd c.out c.empty hlD (by decide +kernel) efa hlaw⟩

set_option Elab.async false
set_option linter.all false
set_option maxRecDepth 1000000
set_option maxHeartbeats 0
namespace K88
open PySem PySem.Spec PyProof.Rows L2 TM
def s_is_whole_0 (Φ : Tb) (lam : Lm) : Sx := (retS (andE (unE (isaO .int) (ownE 0)) (notE (unE (isaO .bool) (ownE 0)))))
def b_is_whole (Φ : Tb) (lam : Lm) : Sx := (seqS (s_is_whole_0 Φ lam) nopS)
def s_fits_whole_0 (Φ : Tb) (lam : Lm) : Sx := (retS (andE (cE Φ 0 (consEs (varE 0) nilEs)) (chE leO leO (ownE 1) (ownE 0) (ownE 2))))
def b_fits_whole (Φ : Tb) (lam : Lm) : Sx := (seqS (s_fits_whole_0 Φ lam) nopS)
def s_is_tuple_of_0 (Φ : Tb) (lam : Lm) : Sx := (retS (andE (unE (isaO .tup) (ownE 0)) (chE leO leO (ownE 1) (callE lenO (consEs (ownE 0) nilEs)) (ownE 2))))
def b_is_tuple_of (Φ : Tb) (lam : Lm) : Sx := (seqS (s_is_tuple_of_0 Φ lam) nopS)
def s_fits_row_0 (Φ : Tb) (lam : Lm) : Sx := (retS (andE (unE (isaO .str) (ownE 0)) (andE (chE leO leO (cstE (.int 1)) (callE lenO (consEs (ownE 0) nilEs)) (cstE (.int 12))) (callE
    allO (consEs (lcE (seqI (varE 0)) (nameG 1) (cstE (.bl true)) (binE (inO false) (ownE 1) (cstE (.str [97, 98, 99, 100, 101, 102, 103, 104, 105, 106, 107, 108, 109, 110, 111,
    112, 113, 114, 115, 116, 117, 118, 119, 120, 121, 122, 46]))) [1]) nilEs)))))
def b_fits_row (Φ : Tb) (lam : Lm) : Sx := (seqS (s_fits_row_0 Φ lam) nopS)
def s_fits_tile_0 (Φ : Tb) (lam : Lm) : Sx := (iffS (orT (notT (truE (cE Φ 2 (consEs (varE 0) (consEs (cstE (.int 1)) (consEs (cstE (.int 12)) nilEs)))))) (notT (truE (callE allO
    (consEs (lcE (seqI (varE 0)) (nameG 1) (cstE (.bl true)) (cE Φ 3 (consEs (varE 1) nilEs)) [1]) nilEs))))) (seqS (retS (cstE (.bl false))) nopS) nopS)
def s_fits_tile_1 (Φ : Tb) (lam : Lm) : Sx := (retS (callE allO (consEs (lcE (seqI (varE 0)) (nameG 1) (cstE (.bl true)) (binE eqO (callE lenO (consEs (ownE 1) nilEs)) (callE lenO
    (consEs (binES ixS (ownE 0) (cstE (.int 0))) nilEs))) [1]) nilEs)))
def b_fits_tile (Φ : Tb) (lam : Lm) : Sx := (seqS (s_fits_tile_0 Φ lam) (seqS (s_fits_tile_1 Φ lam) nopS))
def s_need_tile_0 (Φ : Tb) (lam : Lm) : Sx := (iffS (notT (truE (cE Φ 4 (consEs (varE 0) nilEs)))) (seqS (raiS 1) nopS) nopS)
def b_need_tile (Φ : Tb) (lam : Lm) : Sx := (seqS (s_need_tile_0 Φ lam) nopS)
def s_sign_in_0 (Φ : Tb) (lam : Lm) : Sx := (retS (binES ixS (binES ixS (ownE 0) (binE modO (binES ixS (ownE 1) (cstE (.int 1))) (callE lenO (consEs (ownE 0) nilEs)))) (binE modO
    (binES ixS (ownE 1) (cstE (.int 0))) (callE lenO (consEs (binES ixS (ownE 0) (cstE (.int 0))) nilEs)))))
def b_sign_in (Φ : Tb) (lam : Lm) : Sx := (seqS (s_sign_in_0 Φ lam) nopS)
def s_fits_piece_0 (Φ : Tb) (lam : Lm) : Sx := (retS (andE (cE Φ 2 (consEs (varE 0) (consEs (cstE (.int 2)) (consEs (cstE (.int 2)) nilEs)))) (andE (cE Φ 1 (consEs (binES ixS (ownE
    0) (cstE (.int 0))) (consEs (cstE (.int 2)) (consEs (cstE (.int 12)) nilEs)))) (cE Φ 1 (consEs (binES ixS (ownE 0) (cstE (.int 1))) (consEs (cstE (.int 1)) (consEs (cstE (.int
    12)) nilEs)))))))
def b_fits_piece (Φ : Tb) (lam : Lm) : Sx := (seqS (s_fits_piece_0 Φ lam) nopS)
def s_need_pair_0 (Φ : Tb) (lam : Lm) : Sx := (exprS (cE Φ 5 (consEs (varE 0) nilEs)))
def s_need_pair_1 (Φ : Tb) (lam : Lm) : Sx := (exprS (cE Φ 5 (consEs (varE 1) nilEs)))
def s_need_pair_2 (Φ : Tb) (lam : Lm) : Sx := (iffS (notT (truE (cE Φ 7 (consEs (varE 2) nilEs)))) (seqS (raiS 2) nopS) nopS)
def b_need_pair (Φ : Tb) (lam : Lm) : Sx := (seqS (s_need_pair_0 Φ lam) (seqS (s_need_pair_1 Φ lam) (seqS (s_need_pair_2 Φ lam) nopS)))
def s_fits_seam_0 (Φ : Tb) (lam : Lm) : Sx := (retS (andE (cE Φ 2 (consEs (varE 1) (consEs (binES ixS (ownE 0) (cstE (.int 1))) (consEs (binES ixS (ownE 0) (cstE (.int 1)))
    nilEs)))) (callE allO (consEs (lcE (seqI (varE 1)) (nameG 2) (cstE (.bl true)) (cE Φ 1 (consEs (varE 2) (consEs (cstE (.int 1)) (consEs (binE subO (binES ixS (ownE 0) (cstE
    (.int 0))) (cstE (.int 1))) nilEs)))) [2]) nilEs))))
def b_fits_seam (Φ : Tb) (lam : Lm) : Sx := (seqS (s_fits_seam_0 Φ lam) nopS)
def s_need_seam_0 (Φ : Tb) (lam : Lm) : Sx := (iffS (notT (truE (cE Φ 9 (consEs (varE 0) (consEs (varE 1) nilEs))))) (seqS (raiS 4) nopS) nopS)
def b_need_seam (Φ : Tb) (lam : Lm) : Sx := (seqS (s_need_seam_0 Φ lam) nopS)
def s_beside_0 (Φ : Tb) (lam : Lm) : Sx := (retS (ifE (binE neO (cE Φ 6 (consEs (varE 0) (consEs (dispE D.tup (consEs (binE subO (ownE 3) (cstE (.int 1))) (consEs (varE 2) nilEs)))
    nilEs))) (cE Φ 6 (consEs (varE 1) (consEs (dispE D.tup (consEs (varE 3) (consEs (varE 2) nilEs))) nilEs)))) (cstE (.int 1)) (cstE (.int 0))))
def b_beside (Φ : Tb) (lam : Lm) : Sx := (seqS (s_beside_0 Φ lam) nopS)
def s_above_0 (Φ : Tb) (lam : Lm) : Sx := (iffS (binE leO (ownE 3) (ownE 4)) (seqS (setS 5 (lcE (srcI range2O (consEs (varE 3) (consEs (varE 4) nilEs))) (nameG 6) (cstE (.bl true))
    (dispE D.tup (consEs (varE 6) (consEs (varE 1) (consEs (varE 0) nilEs)))) [6])) nopS) (seqS (setS 5 (lcE (srcI range2O (consEs (varE 4) (consEs (varE 3) nilEs))) (nameG 6) (cstE
    (.bl true)) (dispE D.tup (consEs (varE 6) (consEs (varE 0) (consEs (varE 1) nilEs)))) [6])) nopS))
def s_above_1 (Φ : Tb) (lam : Lm) : Sx := (retS (callE lenO (consEs (lcE (seqI (varE 5)) (tupG 3 (consGs (nameG 6) (consGs (nameG 7) (consGs (nameG 8) nilGs)))) (binE neO (cE Φ 6
    (consEs (varE 7) (consEs (dispE D.tup (consEs (varE 6) (consEs (varE 2) nilEs))) nilEs))) (cE Φ 6 (consEs (varE 8) (consEs (dispE D.tup (consEs (varE 6) (consEs (binE addO (ownE
    2) (cstE (.int 1))) nilEs))) nilEs)))) (cstE (.int 1)) [6, 7, 8]) nilEs)))
def b_above (Φ : Tb) (lam : Lm) : Sx := (seqS (s_above_0 Φ lam) (seqS (s_above_1 Φ lam) nopS))
def s_cost_in_0 (Φ : Tb) (lam : Lm) : Sx := (setS 4 (callE sumO (consEs (lcE (srcI enumO (consEs (varE 2) nilEs)) (tupG 2 (consGs (nameG 6) (consGs (nameG 7) nilGs))) (cstE (.bl
    true)) (cE Φ 11 (consEs (varE 0) (consEs (varE 1) (consEs (varE 6) (consEs (varE 7) nilEs))))) [6, 7]) nilEs)))
def s_cost_in_1 (Φ : Tb) (lam : Lm) : Sx := (setS 5 (binE addO (callE (orO lstO lstSO) (consEs (sliceE (ownE 2) (some (cstE (.int 1))) none) nilEs)) (ifE (truE (ownE 3)) (dispE
    D.lst (consEs (binES ixS (ownE 2) (cstE (.int 0))) nilEs)) (dispE D.lst nilEs))))
def s_cost_in_2 (Φ : Tb) (lam : Lm) : Sx := (retS (binE addO (ownE 4) (callE sumO (consEs (lcE (srcI ezO (consEs (varE 2) (consEs (varE 5) nilEs))) (tupG 2 (consGs (nameG 6) (consGs
    (tupG 2 (consGs (nameG 7) (consGs (nameG 8) nilGs))) nilGs))) (cstE (.bl true)) (cE Φ 12 (consEs (varE 0) (consEs (varE 1) (consEs (varE 6) (consEs (varE 7) (consEs (varE 8)
    nilEs)))))) [6, 7, 8]) nilEs))))
def b_cost_in (Φ : Tb) (lam : Lm) : Sx := (seqS (s_cost_in_0 Φ lam) (seqS (s_cost_in_1 Φ lam) (seqS (s_cost_in_2 Φ lam) nopS)))
def s_steps_in_0 (Φ : Tb) (lam : Lm) : Sx := (parS [4, 5] [(false, (rg2E D.lst (cstE (.int 1)) (binES ixS (ownE 2) (cstE (.int 0))))), (true, (dispE D.lst nilEs))])
def s_steps_in_1_0 (Φ : Tb) (lam : Lm) : Sx := (appS 5 (lcE (seqI (varE 4)) (nameG 6) (cstE (.bl true)) (lcE (seqI (varE 4)) (nameG 7) (cstE (.bl true)) (cE Φ 12 (consEs (varE 0)
    (consEs (varE 1) (consEs (varE 3) (consEs (varE 6) (consEs (varE 7) nilEs)))))) [7]) [6]))
def s_steps_in_1b (Φ : Tb) (lam : Lm) : Sx := (seqS (s_steps_in_1_0 Φ lam) nopS)
def s_steps_in_1 (Φ : Tb) (lam : Lm) : Sx := (forS (srcI range1O (consEs (binES ixS (ownE 2) (cstE (.int 1))) nilEs)) (nameG 3) (s_steps_in_1b Φ lam))
def s_steps_in_2 (Φ : Tb) (lam : Lm) : Sx := (retS (varE 5))
def b_steps_in (Φ : Tb) (lam : Lm) : Sx := (seqS (s_steps_in_0 Φ lam) (seqS (s_steps_in_1 Φ lam) (fzS [5] (seqS (s_steps_in_2 Φ lam) nopS))))
def s_costs_in_0 (Φ : Tb) (lam : Lm) : Sx := (retS (lcE (srcI range1O (consEs (binES ixS (ownE 2) (cstE (.int 1))) nilEs)) (nameG 3) (cstE (.bl true)) (lcE (srcI range2O (consEs
    (cstE (.int 1)) (consEs (binES ixS (ownE 2) (cstE (.int 0))) nilEs))) (nameG 4) (cstE (.bl true)) (cE Φ 11 (consEs (varE 0) (consEs (varE 1) (consEs (varE 3) (consEs (varE 4)
    nilEs))))) [4]) [3]))
def b_costs_in (Φ : Tb) (lam : Lm) : Sx := (seqS (s_costs_in_0 Φ lam) nopS)
def s_forth_0 (Φ : Tb) (lam : Lm) : Sx := (newS 2 (dispE D.lst (consEs (binES ixS (ownE 0) (cstE (.int 0))) nilEs)))
def s_forth_1_0 (Φ : Tb) (lam : Lm) : Sx := (newS 4 (dispE D.lst nilEs))
def s_forth_1_1_0 (Φ : Tb) (lam : Lm) : Sx := (setS 7 (lcE (srcI zipO (consEs (binES ixS (ownE 2) (unE negO (cstE (.int 1)))) (consEs (binES ixS (ownE 1) (binE subO (ownE 3) (cstE
    (.int 1)))) nilEs))) (tupG 2 (consGs (nameG 8) (consGs (nameG 9) nilGs))) (binE isnO (ownE 8) (cstE .non)) (binE addO (ownE 8) (binES ixS (ownE 9) (ownE 5))) [8, 9]))
def s_forth_1_1_1 (Φ : Tb) (lam : Lm) : Sx := (appS 4 (ifE (binE isnO (ownE 6) (cstE .non)) (binE addO (callE (orO min2O minO) (consEs (ownE 7) nilEs)) (ownE 6)) (cstE .non)))
def s_forth_1_1b (Φ : Tb) (lam : Lm) : Sx := (seqS (s_forth_1_1_0 Φ lam) (seqS (s_forth_1_1_1 Φ lam) nopS))
def s_forth_1_1 (Φ : Tb) (lam : Lm) : Sx := (forS (srcI enumO (consEs (binES ixS (ownE 0) (ownE 3)) nilEs)) (tupG 2 (consGs (nameG 5) (consGs (nameG 6) nilGs))) (s_forth_1_1b Φ
    lam))
def s_forth_1_2 (Φ : Tb) (lam : Lm) : Sx := (appS 2 (varE 4))
def s_forth_1b (Φ : Tb) (lam : Lm) : Sx := (seqS (s_forth_1_0 Φ lam) (seqS (s_forth_1_1 Φ lam) (fzS [4] (seqS (s_forth_1_2 Φ lam) nopS))))
def s_forth_1 (Φ : Tb) (lam : Lm) : Sx := (forS (srcI range2O (consEs (cstE (.int 1)) (consEs (callE lenO (consEs (ownE 0) nilEs)) nilEs))) (nameG 3) (s_forth_1b Φ lam))
def s_forth_2 (Φ : Tb) (lam : Lm) : Sx := (retS (varE 2))
def b_forth (Φ : Tb) (lam : Lm) : Sx := (seqS (s_forth_0 Φ lam) (seqS (s_forth_1 Φ lam) (fzS [2] (seqS (s_forth_2 Φ lam) nopS))))
def s_held_0 (Φ : Tb) (lam : Lm) : Sx := (setS 3 (lcE (srcI enumO (consEs (binES ixS (ownE 0) (ownE 1)) nilEs)) (tupG 2 (consGs (nameG 4) (consGs (nameG 5) nilGs))) (cstE (.bl
    true)) (ifE (binE eqO (ownE 4) (ownE 2)) (varE 5) (cstE .non)) [4, 5]))
def s_held_1 (Φ : Tb) (lam : Lm) : Sx := (retS (binE addO (binE addO (sliceE (ownE 0) none (some (ownE 1))) (dispE D.lst (consEs (varE 3) nilEs))) (sliceE (ownE 0) (some (binE addO
    (ownE 1) (cstE (.int 1)))) none)))
def b_held (Φ : Tb) (lam : Lm) : Sx := (seqS (s_held_0 Φ lam) (seqS (s_held_1 Φ lam) nopS))
def s_traced_0 (Φ : Tb) (lam : Lm) : Sx := (setS 4 (dispE D.lst (consEs (varE 3) nilEs)))
def s_traced_1_0 (Φ : Tb) (lam : Lm) : Sx := (setS 6 (binE subO (binES ixS (binES ixS (ownE 2) (ownE 5)) (binES ixS (ownE 4) (cstE (.int 0)))) (binES ixS (binES ixS (ownE 0) (ownE
    5)) (binES ixS (ownE 4) (cstE (.int 0))))))
def s_traced_1_1 (Φ : Tb) (lam : Lm) : Sx := (setS 7 (lcE (srcI enumO (consEs (binES ixS (ownE 2) (binE subO (ownE 5) (cstE (.int 1)))) nilEs)) (tupG 2 (consGs (nameG 8) (consGs
    (nameG 9) nilGs))) (binE isnO (ownE 9) (cstE .non)) (varE 8) [8, 9]))
def s_traced_1_2 (Φ : Tb) (lam : Lm) : Sx := (setS 4 (binE addO (dispE D.lst (consEs (binES ixS (lcE (seqI (varE 7)) (nameG 8) (binE eqO (binE addO (binES ixS (binES ixS (ownE 2)
    (binE subO (ownE 5) (cstE (.int 1)))) (ownE 8)) (binES ixS (binES ixS (binES ixS (ownE 1) (binE subO (ownE 5) (cstE (.int 1)))) (ownE 8)) (binES ixS (ownE 4) (cstE (.int 0)))))
    (ownE 6)) (varE 8) [8]) (cstE (.int 0))) nilEs)) (ownE 4)))
def s_traced_1b (Φ : Tb) (lam : Lm) : Sx := (seqS (s_traced_1_0 Φ lam) (seqS (s_traced_1_1 Φ lam) (seqS (s_traced_1_2 Φ lam) nopS)))
def s_traced_1 (Φ : Tb) (lam : Lm) : Sx := (forS (srcI range3O (consEs (binE subO (callE lenO (consEs (ownE 0) nilEs)) (cstE (.int 1))) (consEs (cstE (.int 0)) (consEs (unE negO
    (cstE (.int 1))) nilEs)))) (nameG 5) (s_traced_1b Φ lam))
def s_traced_2 (Φ : Tb) (lam : Lm) : Sx := (retS (callE tupO (consEs (lcE (seqI (varE 4)) (nameG 8) (cstE (.bl true)) (binE addO (ownE 8) (cstE (.int 1))) [8]) nilEs)))
def b_traced (Φ : Tb) (lam : Lm) : Sx := (seqS (s_traced_0 Φ lam) (seqS (s_traced_1 Φ lam) (seqS (s_traced_2 Φ lam) nopS)))
def s_cheapest_in_0 (Φ : Tb) (lam : Lm) : Sx := (parS [5, 6] [(false, (cE Φ 15 (consEs (varE 0) (consEs (varE 1) (consEs (varE 2) nilEs))))), (false, (cE Φ 14 (consEs (varE 0)
    (consEs (varE 1) (consEs (varE 2) nilEs)))))])
def s_cheapest_in_1 (Φ : Tb) (lam : Lm) : Sx := (setS 3 (cE Φ 16 (consEs (varE 5) (consEs (varE 6) nilEs))))
def s_cheapest_in_2 (Φ : Tb) (lam : Lm) : Sx := (setS 4 (callE (orO min2O minO) (consEs (binES ixS (ownE 3) (unE negO (cstE (.int 1)))) nilEs)))
def s_cheapest_in_3 (Φ : Tb) (lam : Lm) : Sx := (retS (dispE D.tup (consEs (varE 4) (consEs (cE Φ 18 (consEs (varE 5) (consEs (varE 6) (consEs (varE 3) (consEs (mthL idxO (binES ixS
    (ownE 3) (unE negO (cstE (.int 1)))) (ownE 4)) nilEs))))) nilEs))))
def b_cheapest_in (Φ : Tb) (lam : Lm) : Sx := (seqS (s_cheapest_in_0 Φ lam) (seqS (s_cheapest_in_1 Φ lam) (seqS (s_cheapest_in_2 Φ lam) (seqS (s_cheapest_in_3 Φ lam) nopS))))
def s_closed_in_0 (Φ : Tb) (lam : Lm) : Sx := (parS [4, 5, 6] [(false, (cE Φ 15 (consEs (varE 0) (consEs (varE 1) (consEs (varE 2) nilEs))))), (false, (cE Φ 14 (consEs (varE 0)
    (consEs (varE 1) (consEs (varE 2) nilEs))))), (false, (cstE .non))])
def s_closed_in_1_0 (Φ : Tb) (lam : Lm) : Sx := (setS 7 (cE Φ 17 (consEs (varE 4) (consEs (cstE (.int 0)) (consEs (varE 3) nilEs)))))
def s_closed_in_1_1 (Φ : Tb) (lam : Lm) : Sx := (setS 8 (cE Φ 16 (consEs (varE 7) (consEs (varE 5) nilEs))))
def s_closed_in_1_2 (Φ : Tb) (lam : Lm) : Sx := (setS 9 (lcE (srcI enumO (consEs (binES ixS (ownE 8) (unE negO (cstE (.int 1)))) nilEs)) (tupG 2 (consGs (nameG 10) (consGs (nameG
    11) nilGs))) (binE isnO (ownE 11) (cstE .non)) (dispE D.tup (consEs (binE addO (ownE 11) (binES ixS (binES ixS (binES ixS (ownE 5) (unE negO (cstE (.int 1)))) (ownE 10)) (ownE
    3))) (consEs (varE 10) nilEs))) [10, 11]))
def s_closed_in_1_3 (Φ : Tb) (lam : Lm) : Sx := (iffS (orT (binE isO (ownE 6) (cstE .non)) (binE ltO (binES ixS (callE (orO min2O minO) (consEs (ownE 9) nilEs)) (cstE (.int 0)))
    (binES ixS (ownE 6) (cstE (.int 0))))) (seqS (setS 6 (dispE D.tup (consEs (binES ixS (callE (orO min2O minO) (consEs (ownE 9) nilEs)) (cstE (.int 0))) (consEs (cE Φ 18 (consEs
    (varE 7) (consEs (varE 5) (consEs (varE 8) (consEs (binES ixS (callE (orO min2O minO) (consEs (ownE 9) nilEs)) (cstE (.int 1))) nilEs))))) nilEs)))) nopS) nopS)
def s_closed_in_1b (Φ : Tb) (lam : Lm) : Sx := (seqS (s_closed_in_1_0 Φ lam) (seqS (s_closed_in_1_1 Φ lam) (seqS (s_closed_in_1_2 Φ lam) (seqS (s_closed_in_1_3 Φ lam) nopS))))
def s_closed_in_1 (Φ : Tb) (lam : Lm) : Sx := (forS (srcI range1O (consEs (binE subO (binES ixS (ownE 2) (cstE (.int 0))) (cstE (.int 1))) nilEs)) (nameG 3) (s_closed_in_1b Φ lam))
def s_closed_in_2 (Φ : Tb) (lam : Lm) : Sx := (retS (varE 6))
def b_closed_in (Φ : Tb) (lam : Lm) : Sx := (seqS (s_closed_in_0 Φ lam) (seqS (s_closed_in_1 Φ lam) (seqS (s_closed_in_2 Φ lam) nopS)))
def s_ways_in_0 (Φ : Tb) (lam : Lm) : Sx := (parS [6, 7] [(false, (cE Φ 15 (consEs (varE 0) (consEs (varE 1) (consEs (varE 2) nilEs))))), (false, (cE Φ 14 (consEs (varE 0) (consEs
    (varE 1) (consEs (varE 2) nilEs)))))])
def s_ways_in_1 (Φ : Tb) (lam : Lm) : Sx := (setS 3 (lcE (seqI (binES ixS (ownE 6) (cstE (.int 0)))) (nameG 9) (cstE (.bl true)) (dispE D.tup (consEs (varE 9) (consEs (cstE (.int
    1)) nilEs))) [9]))
def s_ways_in_2_0 (Φ : Tb) (lam : Lm) : Sx := (newS 8 (dispE D.lst nilEs))
def s_ways_in_2_1_0 (Φ : Tb) (lam : Lm) : Sx := (setS 11 (lcE (srcI zipO (consEs (varE 3) (consEs (binES ixS (ownE 7) (binE subO (ownE 4) (cstE (.int 1)))) nilEs))) (tupG 2 (consGs
    (nameG 12) (consGs (nameG 13) nilGs))) (cstE (.bl true)) (dispE D.tup (consEs (binE addO (binES ixS (ownE 12) (cstE (.int 0))) (binES ixS (ownE 13) (ownE 10))) (consEs (binES
    ixS (ownE 12) (cstE (.int 1))) nilEs))) [12, 13]))
def s_ways_in_2_1_1 (Φ : Tb) (lam : Lm) : Sx := (setS 5 (callE (orO min2O minO) (consEs (lcE (seqI (varE 11)) (nameG 12) (cstE (.bl true)) (binES ixS (ownE 12) (cstE (.int 0)))
    [12]) nilEs)))
def s_ways_in_2_1_2 (Φ : Tb) (lam : Lm) : Sx := (appS 8 (dispE D.tup (consEs (binE addO (ownE 5) (ownE 9)) (consEs (callE sumO (consEs (lcE (seqI (varE 11)) (nameG 12) (binE eqO
    (binES ixS (ownE 12) (cstE (.int 0))) (ownE 5)) (binES ixS (ownE 12) (cstE (.int 1))) [12]) nilEs)) nilEs))))
def s_ways_in_2_1b (Φ : Tb) (lam : Lm) : Sx := (seqS (s_ways_in_2_1_0 Φ lam) (seqS (s_ways_in_2_1_1 Φ lam) (seqS (s_ways_in_2_1_2 Φ lam) nopS)))
def s_ways_in_2_1 (Φ : Tb) (lam : Lm) : Sx := (forS (srcI enumO (consEs (binES ixS (ownE 6) (ownE 4)) nilEs)) (tupG 2 (consGs (nameG 10) (consGs (nameG 9) nilGs))) (s_ways_in_2_1b Φ
    lam))
def s_ways_in_2_2 (Φ : Tb) (lam : Lm) : Sx := (setS 3 (varE 8))
def s_ways_in_2b (Φ : Tb) (lam : Lm) : Sx := (seqS (s_ways_in_2_0 Φ lam) (seqS (s_ways_in_2_1 Φ lam) (fzS [8] (seqS (s_ways_in_2_2 Φ lam) nopS))))
def s_ways_in_2 (Φ : Tb) (lam : Lm) : Sx := (forS (srcI range2O (consEs (cstE (.int 1)) (consEs (binES ixS (ownE 2) (cstE (.int 1))) nilEs))) (nameG 4) (s_ways_in_2b Φ lam))
def s_ways_in_3 (Φ : Tb) (lam : Lm) : Sx := (setS 5 (callE (orO min2O minO) (consEs (lcE (seqI (varE 3)) (nameG 12) (cstE (.bl true)) (binES ixS (ownE 12) (cstE (.int 0))) [12])
    nilEs)))
def s_ways_in_4 (Φ : Tb) (lam : Lm) : Sx := (retS (callE sumO (consEs (lcE (seqI (varE 3)) (nameG 12) (binE eqO (binES ixS (ownE 12) (cstE (.int 0))) (ownE 5)) (binES ixS (ownE 12)
    (cstE (.int 1))) [12]) nilEs)))
def b_ways_in (Φ : Tb) (lam : Lm) : Sx := (seqS (s_ways_in_0 Φ lam) (seqS (s_ways_in_1 Φ lam) (seqS (s_ways_in_2 Φ lam) (seqS (s_ways_in_3 Φ lam) (seqS (s_ways_in_4 Φ lam) nopS)))))
def s_fits_bounds_0 (Φ : Tb) (lam : Lm) : Sx := (setS 4 (binE subO (binES ixS (ownE 2) (cstE (.int 0))) (cstE (.int 1))))
def s_fits_bounds_1 (Φ : Tb) (lam : Lm) : Sx := (iffS (orT (notT (truE (cE Φ 2 (consEs (varE 3) (consEs (binES ixS (ownE 2) (cstE (.int 1))) (consEs (binES ixS (ownE 2) (cstE (.int
    1))) nilEs)))))) (notT (truE (callE allO (consEs (lcE (seqI (varE 3)) (nameG 5) (cstE (.bl true)) (cE Φ 2 (consEs (varE 5) (consEs (varE 4) (consEs (varE 4) nilEs)))) [5])
    nilEs))))) (seqS (retS (cstE (.bl false))) nopS) nopS)
def s_fits_bounds_2 (Φ : Tb) (lam : Lm) : Sx := (iffS (notT (truE (callE allO (consEs (lcE (seqI (varE 3)) (nameG 5) (cstE (.bl true)) (callE allO (consEs (lcE (seqI (varE 5))
    (nameG 9) (cstE (.bl true)) (cE Φ 0 (consEs (varE 9) nilEs)) [9]) nilEs)) [5]) nilEs)))) (seqS (retS (cstE (.bl false))) nopS) nopS)
def s_fits_bounds_3 (Φ : Tb) (lam : Lm) : Sx := (parS [6, 7] [(false, (cE Φ 15 (consEs (varE 0) (consEs (varE 1) (consEs (varE 2) nilEs))))), (false, (cE Φ 14 (consEs (varE 0)
    (consEs (varE 1) (consEs (varE 2) nilEs)))))])
def s_fits_bounds_4 (Φ : Tb) (lam : Lm) : Sx := (iffS (truE (callE anyO (consEs (lcE (srcI zipO (consEs (binES ixS (ownE 3) (cstE (.int 0))) (consEs (binES ixS (ownE 6) (cstE (.int
    0))) nilEs))) (tupG 2 (consGs (nameG 9) (consGs (nameG 11) nilGs))) (cstE (.bl true)) (binE gtO (ownE 9) (ownE 11)) [9, 11]) nilEs))) (seqS (retS (cstE (.bl false))) nopS) nopS)
def s_fits_bounds_5_0_0 (Φ : Tb) (lam : Lm) : Sx := (setS 10 (callE (orO min2O minO) (consEs (lcE (srcI zipO (consEs (binES ixS (ownE 3) (binE subO (ownE 5) (cstE (.int 1))))
    (consEs (binES ixS (ownE 7) (binE subO (ownE 5) (cstE (.int 1)))) nilEs))) (tupG 2 (consGs (nameG 12) (consGs (nameG 13) nilGs))) (cstE (.bl true)) (binE addO (ownE 12) (binES
    ixS (ownE 13) (ownE 8))) [12, 13]) nilEs)))
def s_fits_bounds_5_0_1 (Φ : Tb) (lam : Lm) : Sx := (iffS (binE gtO (ownE 9) (binE addO (ownE 10) (binES ixS (binES ixS (ownE 6) (ownE 5)) (ownE 8)))) (seqS (retS (cstE (.bl
    false))) nopS) nopS)
def s_fits_bounds_5_0b (Φ : Tb) (lam : Lm) : Sx := (seqS (s_fits_bounds_5_0_0 Φ lam) (seqS (s_fits_bounds_5_0_1 Φ lam) nopS))
def s_fits_bounds_5_0 (Φ : Tb) (lam : Lm) : Sx := (forS (srcI enumO (consEs (binES ixS (ownE 3) (ownE 5)) nilEs)) (tupG 2 (consGs (nameG 8) (consGs (nameG 9) nilGs)))
    (s_fits_bounds_5_0b Φ lam))
def s_fits_bounds_5b (Φ : Tb) (lam : Lm) : Sx := (seqS (s_fits_bounds_5_0 Φ lam) nopS)
def s_fits_bounds_5 (Φ : Tb) (lam : Lm) : Sx := (forS (srcI range2O (consEs (cstE (.int 1)) (consEs (binES ixS (ownE 2) (cstE (.int 1))) nilEs))) (nameG 5) (s_fits_bounds_5b Φ lam))
def s_fits_bounds_6 (Φ : Tb) (lam : Lm) : Sx := (retS (cstE (.bl true)))
def b_fits_bounds (Φ : Tb) (lam : Lm) : Sx := (seqS (s_fits_bounds_0 Φ lam) (seqS (s_fits_bounds_1 Φ lam) (seqS (s_fits_bounds_2 Φ lam) (seqS (s_fits_bounds_3 Φ lam) (seqS
    (s_fits_bounds_4 Φ lam) (seqS (s_fits_bounds_5 Φ lam) (seqS (s_fits_bounds_6 Φ lam) nopS)))))))
def s_is_seam_0 (Φ : Tb) (lam : Lm) : Sx := (iffS (notT (truE (cE Φ 7 (consEs (varE 0) nilEs)))) (seqS (raiS 2) nopS) nopS)
def s_is_seam_1 (Φ : Tb) (lam : Lm) : Sx := (retS (cE Φ 9 (consEs (varE 0) (consEs (varE 1) nilEs))))
def b_is_seam (Φ : Tb) (lam : Lm) : Sx := (seqS (s_is_seam_0 Φ lam) (seqS (s_is_seam_1 Φ lam) nopS))
def s_joined_piece_0 (Φ : Tb) (lam : Lm) : Sx := (exprS (cE Φ 8 (consEs (varE 0) (consEs (varE 1) (consEs (varE 2) nilEs)))))
def s_joined_piece_1 (Φ : Tb) (lam : Lm) : Sx := (exprS (cE Φ 10 (consEs (varE 2) (consEs (varE 3) nilEs))))
def s_joined_piece_2 (Φ : Tb) (lam : Lm) : Sx := (newS 4 (dispE D.lst nilEs))
def s_joined_piece_3_0 (Φ : Tb) (lam : Lm) : Sx := (appS 4 (mthE joinO (cstE (.str [])) (lcE (srcI range1O (consEs (binES ixS (ownE 2) (cstE (.int 0))) nilEs)) (nameG 7) (cstE (.bl
    true)) (cE Φ 6 (consEs (ifE (binE ltO (ownE 7) (ownE 6)) (varE 0) (varE 1)) (consEs (dispE D.tup (consEs (varE 7) (consEs (varE 5) nilEs))) nilEs))) [7])))
def s_joined_piece_3b (Φ : Tb) (lam : Lm) : Sx := (seqS (s_joined_piece_3_0 Φ lam) nopS)
def s_joined_piece_3 (Φ : Tb) (lam : Lm) : Sx := (forS (srcI enumO (consEs (varE 3) nilEs)) (tupG 2 (consGs (nameG 5) (consGs (nameG 6) nilGs))) (s_joined_piece_3b Φ lam))
def s_joined_piece_4 (Φ : Tb) (lam : Lm) : Sx := (retS (callE tupO (consEs (ownE 4) nilEs)))
def b_joined_piece (Φ : Tb) (lam : Lm) : Sx := (seqS (s_joined_piece_0 Φ lam) (seqS (s_joined_piece_1 Φ lam) (seqS (s_joined_piece_2 Φ lam) (seqS (s_joined_piece_3 Φ lam) (seqS
    (s_joined_piece_4 Φ lam) nopS)))))
def s_seam_cost_0 (Φ : Tb) (lam : Lm) : Sx := (exprS (cE Φ 8 (consEs (varE 0) (consEs (varE 1) (consEs (varE 2) nilEs)))))
def s_seam_cost_1 (Φ : Tb) (lam : Lm) : Sx := (exprS (cE Φ 10 (consEs (varE 2) (consEs (varE 3) nilEs))))
def s_seam_cost_2 (Φ : Tb) (lam : Lm) : Sx := (retS (cE Φ 13 (consEs (varE 0) (consEs (varE 1) (consEs (varE 3) (consEs (cstE (.bl false)) nilEs))))))
def b_seam_cost (Φ : Tb) (lam : Lm) : Sx := (seqS (s_seam_cost_0 Φ lam) (seqS (s_seam_cost_1 Φ lam) (seqS (s_seam_cost_2 Φ lam) nopS)))
def s_closed_cost_0 (Φ : Tb) (lam : Lm) : Sx := (exprS (cE Φ 8 (consEs (varE 0) (consEs (varE 1) (consEs (varE 2) nilEs)))))
def s_closed_cost_1 (Φ : Tb) (lam : Lm) : Sx := (exprS (cE Φ 10 (consEs (varE 2) (consEs (varE 3) nilEs))))
def s_closed_cost_2 (Φ : Tb) (lam : Lm) : Sx := (retS (cE Φ 13 (consEs (varE 0) (consEs (varE 1) (consEs (varE 3) (consEs (cstE (.bl true)) nilEs))))))
def b_closed_cost (Φ : Tb) (lam : Lm) : Sx := (seqS (s_closed_cost_0 Φ lam) (seqS (s_closed_cost_1 Φ lam) (seqS (s_closed_cost_2 Φ lam) nopS)))
def s_least_cost_0 (Φ : Tb) (lam : Lm) : Sx := (exprS (cE Φ 8 (consEs (varE 0) (consEs (varE 1) (consEs (varE 2) nilEs)))))
def s_least_cost_1 (Φ : Tb) (lam : Lm) : Sx := (retS (binES ixS (cE Φ 19 (consEs (varE 0) (consEs (varE 1) (consEs (varE 2) nilEs)))) (cstE (.int 0))))
def b_least_cost (Φ : Tb) (lam : Lm) : Sx := (seqS (s_least_cost_0 Φ lam) (seqS (s_least_cost_1 Φ lam) nopS))
def s_cheapest_seam_0 (Φ : Tb) (lam : Lm) : Sx := (exprS (cE Φ 8 (consEs (varE 0) (consEs (varE 1) (consEs (varE 2) nilEs)))))
def s_cheapest_seam_1 (Φ : Tb) (lam : Lm) : Sx := (retS (binES ixS (cE Φ 19 (consEs (varE 0) (consEs (varE 1) (consEs (varE 2) nilEs)))) (cstE (.int 1))))
def b_cheapest_seam (Φ : Tb) (lam : Lm) : Sx := (seqS (s_cheapest_seam_0 Φ lam) (seqS (s_cheapest_seam_1 Φ lam) nopS))
def s_cheapest_many_0 (Φ : Tb) (lam : Lm) : Sx := (exprS (cE Φ 8 (consEs (varE 0) (consEs (varE 1) (consEs (varE 2) nilEs)))))
def s_cheapest_many_1 (Φ : Tb) (lam : Lm) : Sx := (retS (cE Φ 21 (consEs (varE 0) (consEs (varE 1) (consEs (varE 2) nilEs)))))
def b_cheapest_many (Φ : Tb) (lam : Lm) : Sx := (seqS (s_cheapest_many_0 Φ lam) (seqS (s_cheapest_many_1 Φ lam) nopS))
def s_least_closed_0 (Φ : Tb) (lam : Lm) : Sx := (exprS (cE Φ 8 (consEs (varE 0) (consEs (varE 1) (consEs (varE 2) nilEs)))))
def s_least_closed_1 (Φ : Tb) (lam : Lm) : Sx := (retS (binES ixS (cE Φ 20 (consEs (varE 0) (consEs (varE 1) (consEs (varE 2) nilEs)))) (cstE (.int 0))))
def b_least_closed (Φ : Tb) (lam : Lm) : Sx := (seqS (s_least_closed_0 Φ lam) (seqS (s_least_closed_1 Φ lam) nopS))
def s_cheapest_closed_0 (Φ : Tb) (lam : Lm) : Sx := (exprS (cE Φ 8 (consEs (varE 0) (consEs (varE 1) (consEs (varE 2) nilEs)))))
def s_cheapest_closed_1 (Φ : Tb) (lam : Lm) : Sx := (retS (binES ixS (cE Φ 20 (consEs (varE 0) (consEs (varE 1) (consEs (varE 2) nilEs)))) (cstE (.int 1))))
def b_cheapest_closed (Φ : Tb) (lam : Lm) : Sx := (seqS (s_cheapest_closed_0 Φ lam) (seqS (s_cheapest_closed_1 Φ lam) nopS))
def s_least_through_0 (Φ : Tb) (lam : Lm) : Sx := (exprS (cE Φ 8 (consEs (varE 0) (consEs (varE 1) (consEs (varE 2) nilEs)))))
def s_least_through_1 (Φ : Tb) (lam : Lm) : Sx := (iffS (orT (notT (truE (cE Φ 1 (consEs (varE 3) (consEs (cstE (.int 0)) (consEs (binE subO (binES ixS (ownE 2) (cstE (.int 1)))
    (cstE (.int 1))) nilEs)))))) (notT (truE (cE Φ 1 (consEs (varE 4) (consEs (cstE (.int 1)) (consEs (binE subO (binES ixS (ownE 2) (cstE (.int 0))) (cstE (.int 1))) nilEs)))))))
    (seqS (raiS 3) nopS) nopS)
def s_least_through_2 (Φ : Tb) (lam : Lm) : Sx := (setS 5 (cE Φ 16 (consEs (cE Φ 17 (consEs (cE Φ 15 (consEs (varE 0) (consEs (varE 1) (consEs (varE 2) nilEs)))) (consEs (varE 3)
    (consEs (binE subO (ownE 4) (cstE (.int 1))) nilEs)))) (consEs (cE Φ 14 (consEs (varE 0) (consEs (varE 1) (consEs (varE 2) nilEs)))) nilEs))))
def s_least_through_3 (Φ : Tb) (lam : Lm) : Sx := (retS (callE (orO min2O minO) (consEs (lcE (seqI (binES ixS (ownE 5) (unE negO (cstE (.int 1))))) (nameG 6) (binE isnO (ownE 6)
    (cstE .non)) (varE 6) [6]) nilEs)))
def b_least_through (Φ : Tb) (lam : Lm) : Sx := (seqS (s_least_through_0 Φ lam) (seqS (s_least_through_1 Φ lam) (seqS (s_least_through_2 Φ lam) (seqS (s_least_through_3 Φ lam)
    nopS))))
def s_seam_paper_0 (Φ : Tb) (lam : Lm) : Sx := (exprS (cE Φ 8 (consEs (varE 0) (consEs (varE 1) (consEs (varE 2) nilEs)))))
def s_seam_paper_1 (Φ : Tb) (lam : Lm) : Sx := (retS (callE tupO (consEs (lcE (seqI (cE Φ 16 (consEs (cE Φ 15 (consEs (varE 0) (consEs (varE 1) (consEs (varE 2) nilEs)))) (consEs
    (cE Φ 14 (consEs (varE 0) (consEs (varE 1) (consEs (varE 2) nilEs)))) nilEs)))) (nameG 3) (cstE (.bl true)) (callE tupO (consEs (ownE 3) nilEs)) [3]) nilEs)))
def b_seam_paper (Φ : Tb) (lam : Lm) : Sx := (seqS (s_seam_paper_0 Φ lam) (seqS (s_seam_paper_1 Φ lam) nopS))
def s_is_seam_paper_0 (Φ : Tb) (lam : Lm) : Sx := (exprS (cE Φ 8 (consEs (varE 0) (consEs (varE 1) (consEs (varE 2) nilEs)))))
def s_is_seam_paper_1 (Φ : Tb) (lam : Lm) : Sx := (retS (andE (cE Φ 22 (consEs (varE 0) (consEs (varE 1) (consEs (varE 2) (consEs (varE 3) nilEs))))) (binE eqO (callE (orO min2O
    minO) (consEs (binES ixS (ownE 3) (unE negO (cstE (.int 1)))) nilEs)) (binES ixS (cE Φ 19 (consEs (varE 0) (consEs (varE 1) (consEs (varE 2) nilEs)))) (cstE (.int 0))))))
def b_is_seam_paper (Φ : Tb) (lam : Lm) : Sx := (seqS (s_is_seam_paper_0 Φ lam) (seqS (s_is_seam_paper_1 Φ lam) nopS))
def s__law_cup_0 (Φ : Tb) (lam : Lm) : Sx := (setS 1 (callE absO (consEs (binES ixS (binE addO (callE (orO lstO lstSO) (consEs (ownE 0) nilEs)) (dispE D.lst (consEs (cstE (.int 0))
    nilEs))) (cstE (.int 0))) nilEs)))
def s__law_cup_1 (Φ : Tb) (lam : Lm) : Sx := (retNS (dispE D.lst (consEs (ifE (binE geO (ownE 1) (binE powO (cstE (.int 10)) (cstE (.int 18)))) (binE fdivO (ownE 1) (cstE (.int
    73))) (cstE (.int 0))) (consEs (binE addO (binE modO (callE intO (consEs (binE addO (binE mul2O (ownE 1) (cstE (.int 311))) (cstE (.int 4111))) nilEs)) (cstE (.int 2077503161)))
    (cstE (.int 223))) nilEs))))
def b__law_cup (Φ : Tb) (lam : Lm) : Sx := (seqS (s__law_cup_0 Φ lam) (seqS (s__law_cup_1 Φ lam) nopS))
def s__law_roll_0 (Φ : Tb) (lam : Lm) : Sx := (iffS (binE gtO (binES ixS (ownE 0) (cstE (.int 0))) (cstE (.int 0))) (seqS (setS 3 (binE modO (callE intO (consEs (binES ixS (ownE 0)
    (cstE (.int 0))) nilEs)) (ownE 1))) (seqS (stiS 0 (binE fdivO (binES ixS (ownE 0) (cstE (.int 0))) (ownE 1)) (cstE (.int 0))) (seqS (retS (varE 3)) nopS))) nopS)
def s__law_roll_1 (Φ : Tb) (lam : Lm) : Sx := (stiS 0 (binE modO (callE intO (consEs (binE addO (binE mul2O (binES ixS (ownE 0) (cstE (.int 1))) (cstE (.int 30941))) (cstE (.int
    7949))) nilEs)) (cstE (.int 2147482921))) (cstE (.int 1)))
def s__law_roll_2 (Φ : Tb) (lam : Lm) : Sx := (setS 2 (binE modO (callE intO (consEs (binE mul2O (binES ixS (ownE 0) (cstE (.int 1))) (binE addO (binES ixS (ownE 0) (cstE (.int 1)))
    (cstE (.int 241)))) nilEs)) (cstE (.int 2147482877))))
def s__law_roll_3 (Φ : Tb) (lam : Lm) : Sx := (retS (binE modO (callE intO (consEs (binE fdivO (ownE 2) (cstE (.int 821))) nilEs)) (ownE 1)))
def b__law_roll (Φ : Tb) (lam : Lm) : Sx := (seqS (s__law_roll_0 Φ lam) (seqS (s__law_roll_1 Φ lam) (seqS (s__law_roll_2 Φ lam) (seqS (s__law_roll_3 Φ lam) nopS))))
def s__law_some_0 (Φ : Tb) (lam : Lm) : Sx := (retS (binES ixS (ownE 1) (cE Φ 36 (consEs (varE 0) (consEs (callE lenO (consEs (ownE 1) nilEs)) nilEs)))))
def b__law_some (Φ : Tb) (lam : Lm) : Sx := (seqS (s__law_some_0 Φ lam) nopS)
def s__law_same_0 (Φ : Tb) (lam : Lm) : Sx := (iffS (truE (unE (isaO .tup) (ownE 1))) (seqS (iffS (orT (notT (truE (unE (isaO .tup) (ownE 0)))) (binE neO (callE lenO (consEs (ownE
    0) nilEs)) (callE lenO (consEs (ownE 1) nilEs)))) (seqS (retS (cstE (.bl false))) nopS) nopS) (seqS (retS (callE allO (consEs (lcE (srcI range1O (consEs (callE lenO (consEs
    (ownE 1) nilEs)) nilEs)) (nameG 2) (cstE (.bl true)) (cE Φ 38 (consEs (binES ixS (ownE 0) (ownE 2)) (consEs (binES ixS (ownE 1) (ownE 2)) nilEs))) [2]) nilEs))) nopS)) nopS)
def s__law_same_1 (Φ : Tb) (lam : Lm) : Sx := (iffS (binE isO (ownE 1) (cstE .non)) (seqS (retS (binE isO (ownE 0) (cstE .non))) nopS) nopS)
def s__law_same_2 (Φ : Tb) (lam : Lm) : Sx := (iffS (truE (unE (isaO .bool) (ownE 1))) (seqS (retS (ifE (truE (ownE 1)) (binE isO (ownE 0) (cstE (.bl true))) (binE isO (ownE 0)
    (cstE (.bl false))))) nopS) nopS)
def s__law_same_3 (Φ : Tb) (lam : Lm) : Sx := (iffS (truE (unE (isaO .int) (ownE 1))) (seqS (retS (andE (unE (isaO .int) (ownE 0)) (andE (notE (unE (isaO .bool) (ownE 0))) (binE eqO
    (callE intO (consEs (ownE 0) nilEs)) (ownE 1))))) nopS) nopS)
def s__law_same_4 (Φ : Tb) (lam : Lm) : Sx := (retS (andE (unE (isaO .str) (ownE 0)) (binE eqO (callE strSO (consEs (ownE 0) nilEs)) (ownE 1))))
def b__law_same (Φ : Tb) (lam : Lm) : Sx := (seqS (s__law_same_0 Φ lam) (seqS (s__law_same_1 Φ lam) (seqS (s__law_same_2 Φ lam) (seqS (s__law_same_3 Φ lam) (seqS (s__law_same_4 Φ
    lam) nopS)))))
def s__law_word_0 (Φ : Tb) (lam : Lm) : Sx := stuckS
def s__law_word_1 (Φ : Tb) (lam : Lm) : Sx := (retS (cstE (.str [])))
def b__law_word (Φ : Tb) (lam : Lm) : Sx := (seqS (s__law_word_0 Φ lam) (seqS (s__law_word_1 Φ lam) nopS))
def s__law_asked_0 (Φ : Tb) (lam : Lm) : Sx := (newS 6 (lcE (seqI (dispE D.tup (consEs (cstE (.fn 27)) (consEs (cstE (.fn 28)) (consEs (cstE (.fn 29)) (consEs (cstE (.fn 30))
    (consEs (cstE (.fn 31)) nilEs))))))) (nameG 7) (cstE (.bl true)) (lmE lam 39 (fvE 7 Φ (consEs (varE 0) (consEs (varE 1) (consEs (varE 2) nilEs))))) [7]))
def s__law_asked_1 (Φ : Tb) (lam : Lm) : Sx := (appS 6 (lmE lam 39 (cE Φ 33 (consEs (varE 0) (consEs (varE 1) (consEs (varE 2) nilEs))))))
def s__law_asked_2 (Φ : Tb) (lam : Lm) : Sx := (appS 6 (lmE lam 39 (cE Φ 34 (consEs (varE 0) (consEs (varE 1) (consEs (varE 2) (consEs (cstE .non) nilEs)))))))
def s__law_asked_3 (Φ : Tb) (lam : Lm) : Sx := (newS 6 (binE catN (ownE 6) (lcE (seqI (dispE D.tup (consEs (cstE (.fn 24)) (consEs (cstE (.fn 25)) (consEs (cstE (.fn 26)) nilEs)))))
    (nameG 7) (cstE (.bl true)) (lmE lam 39 (fvE 7 Φ (consEs (varE 0) (consEs (varE 1) (consEs (varE 2) (consEs (varE 3) nilEs)))))) [7])))
def s__law_asked_4 (Φ : Tb) (lam : Lm) : Sx := (retS (binE addO (ownE 6) (dispE D.lst (consEs (lmE lam 39 (cE Φ 32 (consEs (varE 0) (consEs (varE 1) (consEs (varE 2) (consEs (varE
    4) (consEs (varE 5) nilEs))))))) nilEs))))
def b__law_asked (Φ : Tb) (lam : Lm) : Sx := (seqS (s__law_asked_0 Φ lam) (seqS (s__law_asked_1 Φ lam) (seqS (s__law_asked_2 Φ lam) (seqS (s__law_asked_3 Φ lam) (seqS
    (s__law_asked_4 Φ lam) nopS)))))
def s_law_0 (Φ : Tb) (lam : Lm) : Sx := (setS 1 (cE Φ 35 (consEs (varE 0) nilEs)))
def s_law_1 (Φ : Tb) (lam : Lm) : Sx := (parS [7, 8, 9, 10] [(false, (dispE D.tup (consEs (cstE (.str [97, 98])) (consEs (cstE (.str [98, 46])) nilEs)))), (false, (dispE D.tup
    (consEs (cstE (.str [122])) nilEs))), (false, (dispE D.tup (consEs (cstE (.int 3)) (consEs (cstE (.int 2)) nilEs)))), (false, (dispE D.tup (consEs (cstE (.int 1)) (consEs (cstE
    (.int 2)) nilEs))))])
def s_law_2 (Φ : Tb) (lam : Lm) : Sx := (iffS (orT (binE neO (cE Φ 40 (consEs (varE 7) (consEs (varE 8) (consEs (varE 9) (consEs (varE 10) (consEs (cstE (.int 1)) (consEs (cstE
    (.int 2)) nilEs))))))) (binE mul2O (dispE D.lst (consEs (cstE (.str [])) nilEs)) (cstE (.int 11)))) (binE neO (cE Φ 40 (consEs (varE 8) (consEs (varE 7) (consEs (dispE D.tup
    (consEs (cstE (.int 2)) (consEs (cstE (.int 1)) nilEs))) (consEs (dispE D.tup (consEs (cstE (.int 1)) nilEs)) (consEs (cstE (.int 0)) (consEs (cstE (.int 1)) nilEs))))))) (binE
    mul2O (dispE D.lst (consEs (cstE (.str [])) nilEs)) (cstE (.int 11))))) (seqS (retS (cstE (.bl false))) nopS) nopS)
def s_law_3 (Φ : Tb) (lam : Lm) : Sx := (setS 2 (dispE D.lst (consEs (cstE .non) (consEs (dispE D.tup nilEs) (consEs (dispE D.lst (consEs (cstE (.str [97, 98])) nilEs)) (consEs
    (dispE D.tup (consEs (cstE (.str [97, 98])) (consEs (cstE (.str [97])) nilEs))) (consEs (dispE D.tup (consEs (cstE (.str [])) nilEs)) (consEs (dispE D.tup (consEs (cstE (.str
    [65])) nilEs)) (consEs (dispE D.tup (consEs (cstE (.str [97, 32, 98])) nilEs)) (consEs (cstE (.str [97, 98])) (consEs (dispE D.tup (consEs (cstE (.int 5)) nilEs)) (consEs (dispE
    D.tup (consEs (cstE .non) nilEs)) (consEs (dispE D.tup (consEs (binE mul2O (cstE (.str [97])) (cstE (.int 13))) nilEs)) (consEs (binE mul2O (dispE D.tup (consEs (cstE (.str
    [97])) nilEs)) (cstE (.int 13))) (consEs (dispE D.tup (consEs (cstE (.str [97, 49])) nilEs)) (consEs (dispE D.tup (consEs (dispE D.tup (consEs (cstE (.str [97])) nilEs)) nilEs))
    nilEs))))))))))))))))
def s_law_4_0 (Φ : Tb) (lam : Lm) : Sx := (iffS (orT (binE neO (cE Φ 40 (consEs (varE 3) (consEs (cstE .non) (consEs (cstE .non) (consEs (cstE .non) (consEs (cstE .non) (consEs
    (cstE .non) nilEs))))))) (binE mul2O (dispE D.lst (consEs (cstE (.str [116, 105, 108, 101])) nilEs)) (cstE (.int 11)))) (binE neO (cE Φ 40 (consEs (varE 7) (consEs (varE 3)
    (consEs (cstE .non) (consEs (cstE .non) (consEs (cstE .non) (consEs (cstE .non) nilEs))))))) (binE mul2O (dispE D.lst (consEs (cstE (.str [116, 105, 108, 101])) nilEs)) (cstE
    (.int 11))))) (seqS (retS (cstE (.bl false))) nopS) nopS)
def s_law_4b (Φ : Tb) (lam : Lm) : Sx := (seqS (s_law_4_0 Φ lam) nopS)
def s_law_4 (Φ : Tb) (lam : Lm) : Sx := (forS (seqI (varE 2)) (nameG 3) (s_law_4b Φ lam))
def s_law_5_0 (Φ : Tb) (lam : Lm) : Sx := (iffS (orT (binE neO (cE Φ 40 (consEs (varE 7) (consEs (varE 8) (consEs (varE 3) (consEs (cstE .non) (consEs (cstE .non) (consEs (cstE
    .non) nilEs))))))) (binE mul2O (dispE D.lst (consEs (cstE (.str [115, 105, 122, 101])) nilEs)) (cstE (.int 11)))) (binE neO (lmE lam 39 (cE Φ 23 (consEs (varE 3) (consEs (cstE
    .non) nilEs)))) (cstE (.str [115, 105, 122, 101])))) (seqS (retS (cstE (.bl false))) nopS) nopS)
def s_law_5b (Φ : Tb) (lam : Lm) : Sx := (seqS (s_law_5_0 Φ lam) nopS)
def s_law_5 (Φ : Tb) (lam : Lm) : Sx := (forS (seqI (dispE D.tup (consEs (cstE .non) (consEs (dispE D.tup nilEs) (consEs (dispE D.tup (consEs (cstE (.int 3)) nilEs)) (consEs (dispE
    D.tup (consEs (cstE (.int 3)) (consEs (cstE (.int 2)) (consEs (cstE (.int 1)) nilEs)))) (consEs (dispE D.lst (consEs (cstE (.int 3)) (consEs (cstE (.int 2)) nilEs))) (consEs
    (dispE D.tup (consEs (cstE (.int 1)) (consEs (cstE (.int 2)) nilEs))) (consEs (dispE D.tup (consEs (cstE (.int 13)) (consEs (cstE (.int 2)) nilEs))) (consEs (dispE D.tup (consEs
    (cstE (.int 3)) (consEs (cstE (.int 0)) nilEs))) (consEs (dispE D.tup (consEs (cstE (.int 3)) (consEs (cstE (.int 13)) nilEs))) (consEs (dispE D.tup (consEs (cstE (.bl true))
    (consEs (cstE (.int 2)) nilEs))) (consEs (dispE D.tup (consEs (cstE (.int 3)) (consEs (cstE (.bl true)) nilEs))) (consEs (dispE D.tup (consEs (cstE (.int 3)) (consEs (cstE .non)
    nilEs))) (consEs (cstE (.str [51, 50])) (consEs (cstE (.int 3)) (consEs (dispE D.tup (consEs (cstE (.str [51])) (consEs (cstE (.int 2)) nilEs))) nilEs))))))))))))))))) (nameG 3)
    (s_law_5b Φ lam))
def s_law_6_0 (Φ : Tb) (lam : Lm) : Sx := (iffS (orT (binE neO (cE Φ 40 (consEs (varE 7) (consEs (varE 8) (consEs (varE 9) (consEs (varE 3) (consEs (cstE (.int 0)) (consEs (cstE
    (.int 1)) nilEs))))))) (binE addO (binE addO (binE mul2O (dispE D.lst (consEs (cstE (.str [])) nilEs)) (cstE (.int 7))) (binE mul2O (dispE D.lst (consEs (cstE (.str [112, 97,
    112, 101, 114])) nilEs)) (cstE (.int 3)))) (dispE D.lst (consEs (cstE (.str [])) nilEs)))) (binE isnO (cE Φ 23 (consEs (varE 9) (consEs (varE 3) nilEs))) (cstE (.bl false))))
    (seqS (retS (cstE (.bl false))) nopS) nopS)
def s_law_6_1 (Φ : Tb) (lam : Lm) : Sx := (iffS (binE isnO (cE Φ 34 (consEs (varE 7) (consEs (varE 8) (consEs (varE 9) (consEs (varE 3) nilEs))))) (cstE (.bl false))) (seqS (retS
    (cstE (.bl false))) nopS) nopS)
def s_law_6b (Φ : Tb) (lam : Lm) : Sx := (seqS (s_law_6_0 Φ lam) (seqS (s_law_6_1 Φ lam) nopS))
def s_law_6 (Φ : Tb) (lam : Lm) : Sx := (forS (seqI (dispE D.tup (consEs (cstE .non) (consEs (dispE D.tup nilEs) (consEs (dispE D.tup (consEs (cstE (.int 1)) nilEs)) (consEs (dispE
    D.tup (consEs (cstE (.int 1)) (consEs (cstE (.int 2)) (consEs (cstE (.int 1)) nilEs)))) (consEs (dispE D.lst (consEs (cstE (.int 1)) (consEs (cstE (.int 2)) nilEs))) (consEs
    (dispE D.tup (consEs (cstE (.int 0)) (consEs (cstE (.int 1)) nilEs))) (consEs (dispE D.tup (consEs (cstE (.int 1)) (consEs (cstE (.int 3)) nilEs))) (consEs (dispE D.tup (consEs
    (cstE (.int 1)) (consEs (cstE (.bl true)) nilEs))) (consEs (dispE D.tup (consEs (cstE (.int 1)) (consEs (cstE .non) nilEs))) (consEs (cstE (.str [49, 50])) (consEs (cstE (.int
    5)) (consEs (dispE D.tup (consEs (cstE (.int 1)) (consEs (dispE D.tup (consEs (cstE (.int 1)) nilEs)) nilEs))) nilEs)))))))))))))) (nameG 3) (s_law_6b Φ lam))
def s_law_7_0 (Φ : Tb) (lam : Lm) : Sx := (iffS (binE neO (cE Φ 40 (consEs (varE 7) (consEs (varE 8) (consEs (varE 9) (consEs (varE 10) (consEs (varE 3) (consEs (cstE (.int 1))
    nilEs))))))) (binE addO (binE mul2O (dispE D.lst (consEs (cstE (.str [])) nilEs)) (cstE (.int 10))) (dispE D.lst (consEs (cstE (.str [110, 117, 109, 98, 101, 114])) nilEs))))
    (seqS (retS (cstE (.bl false))) nopS) nopS)
def s_law_7b (Φ : Tb) (lam : Lm) : Sx := (seqS (s_law_7_0 Φ lam) nopS)
def s_law_7 (Φ : Tb) (lam : Lm) : Sx := (forS (seqI (dispE D.tup (consEs (cstE .non) (consEs (unE negO (cstE (.int 1))) (consEs (cstE (.int 2)) (consEs (cstE (.bl true)) (consEs
    (cstE (.str [49])) (consEs (dispE D.tup (consEs (cstE (.int 1)) nilEs)) nilEs)))))))) (nameG 3) (s_law_7b Φ lam))
def s_law_8_0 (Φ : Tb) (lam : Lm) : Sx := (iffS (binE neO (cE Φ 40 (consEs (varE 7) (consEs (varE 8) (consEs (varE 9) (consEs (varE 10) (consEs (cE Φ 37 (consEs (varE 1) (consEs
    (dispE D.lst (consEs (cstE (.int 0)) (consEs (cstE (.int 1)) nilEs))) nilEs))) (consEs (varE 3) nilEs))))))) (binE addO (binE mul2O (dispE D.lst (consEs (cstE (.str [])) nilEs))
    (cstE (.int 10))) (dispE D.lst (consEs (cstE (.str [110, 117, 109, 98, 101, 114])) nilEs)))) (seqS (retS (cstE (.bl false))) nopS) nopS)
def s_law_8b (Φ : Tb) (lam : Lm) : Sx := (seqS (s_law_8_0 Φ lam) nopS)
def s_law_8 (Φ : Tb) (lam : Lm) : Sx := (forS (seqI (dispE D.tup (consEs (cstE .non) (consEs (cstE (.int 0)) (consEs (unE negO (cstE (.int 1))) (consEs (cstE (.int 3)) (consEs (cstE
    (.bl true)) (consEs (cstE (.str [49])) (consEs (dispE D.tup (consEs (cstE (.int 1)) nilEs)) nilEs))))))))) (nameG 3) (s_law_8b Φ lam))
def s_law_9 (Φ : Tb) (lam : Lm) : Sx := (setS 4 (dispE D.tup (consEs (cstE (.int 12)) (consEs (cstE (.int 12)) nilEs))))
def s_law_10 (Φ : Tb) (lam : Lm) : Sx := (setS 5 (binE mul2O (dispE D.tup (consEs (binE mul2O (cstE (.str [97, 98])) (cstE (.int 6))) (consEs (binE mul2O (cstE (.str [98, 97]))
    (cstE (.int 6))) nilEs))) (cstE (.int 6))))
def s_law_11 (Φ : Tb) (lam : Lm) : Sx := (setS 6 (dispE D.tup (consEs (cE Φ 25 (consEs (varE 5) (consEs (dispE D.tup (consEs (cstE (.str [97])) nilEs)) (consEs (varE 4) (consEs
    (binE mul2O (dispE D.tup (consEs (cstE (.int 6)) nilEs)) (cstE (.int 12))) nilEs))))) (consEs (cE Φ 26 (consEs (varE 5) (consEs (varE 5) (consEs (varE 4) (consEs (binE mul2O
    (dispE D.tup (consEs (cstE (.int 1)) nilEs)) (cstE (.int 12))) nilEs))))) nilEs))))
def s_law_12 (Φ : Tb) (lam : Lm) : Sx := (retS (andE (cE Φ 38 (consEs (varE 6) (consEs (dispE D.tup (consEs (cstE (.int 6)) (consEs (cstE (.int 12)) nilEs))) nilEs))) (binE eqO (lmE
    lam 39 (cE Φ 24 (consEs (varE 5) (consEs (varE 5) (consEs (varE 4) (consEs (binE mul2O (dispE D.tup (consEs (cstE (.int 11)) nilEs)) (cstE (.int 12))) nilEs)))))) (cstE (.str
    [])))))
def b_law (Φ : Tb) (lam : Lm) : Sx := (seqS (s_law_0 Φ lam) (seqS (s_law_1 Φ lam) (seqS (s_law_2 Φ lam) (seqS (s_law_3 Φ lam) (seqS (s_law_4 Φ lam) (seqS (s_law_5 Φ lam) (seqS
    (s_law_6 Φ lam) (seqS (s_law_7 Φ lam) (seqS (s_law_8 Φ lam) (seqS (s_law_9 Φ lam) (seqS (s_law_10 Φ lam) (seqS (s_law_11 Φ lam) (seqS (s_law_12 Φ lam) nopS)))))))))))))
def tab : List (Nat × Nat × (Tb → Lm → Sx)) := ([(1, 1, b_is_whole), (3, 3, b_fits_whole), (3, 3, b_is_tuple_of), (2, 1, b_fits_row), (2, 1, b_fits_tile), (1, 1, b_need_tile), (2, 2, b_sign_in), (1, 1, b_fits_piece), (3, 3, b_need_pair), (3, 2, b_fits_seam), (2, 2, b_need_seam), (4, 4, b_beside), (9, 5, b_above), (9, 4, b_cost_in), (8, 3, b_steps_in), (5, 3, b_costs_in), (10, 2, b_forth), (6, 3, b_held), (10, 4, b_traced), (7, 3, b_cheapest_in), (12, 3, b_closed_in), (14, 3, b_ways_in), (14, 4, b_fits_bounds), (2, 2, b_is_seam)] : List (Nat × Nat × (Tb → Lm → Sx))) ++ ([(8, 4, b_joined_piece), (4, 4, b_seam_cost), (4, 4, b_closed_cost), (3, 3, b_least_cost), (3, 3, b_cheapest_seam), (3, 3, b_cheapest_many), (3, 3, b_least_closed), (3, 3, b_cheapest_closed), (7, 5, b_least_through), (4, 3, b_seam_paper), (4, 4, b_is_seam_paper), (2, 1, b__law_cup), (4, 2, b__law_roll), (2, 2, b__law_some), (3, 2, b__law_same), (6, 1, b__law_word), (8, 6, b__law_asked), (11, 1, b_law)] : List (Nat × Nat × (Tb → Lm → Sx)))
theorem e_is_whole (Φ : Tb) (lam : Lm) : bodyX 24 ((defs.getD 0 default).ct gls lam Φ (top 9)) (defBody (top 9)) = b_is_whole Φ lam := by kernel_rfl
theorem e_fits_whole (Φ : Tb) (lam : Lm) : bodyX 24 ((defs.getD 1 default).ct gls lam Φ (top 10)) (defBody (top 10)) = b_fits_whole Φ lam := by kernel_rfl
theorem e_is_tuple_of (Φ : Tb) (lam : Lm) : bodyX 24 ((defs.getD 2 default).ct gls lam Φ (top 11)) (defBody (top 11)) = b_is_tuple_of Φ lam := by kernel_rfl
theorem e_fits_row (Φ : Tb) (lam : Lm) : bodyX 24 ((defs.getD 3 default).ct gls lam Φ (top 12)) (defBody (top 12)) = b_fits_row Φ lam := by kernel_rfl
theorem e_fits_tile (Φ : Tb) (lam : Lm) : bodyX 24 ((defs.getD 4 default).ct gls lam Φ (top 13)) (defBody (top 13)) = b_fits_tile Φ lam := by kernel_rfl
theorem e_need_tile (Φ : Tb) (lam : Lm) : bodyX 24 ((defs.getD 5 default).ct gls lam Φ (top 14)) (defBody (top 14)) = b_need_tile Φ lam := by kernel_rfl
theorem e_sign_in (Φ : Tb) (lam : Lm) : bodyX 24 ((defs.getD 6 default).ct gls lam Φ (top 15)) (defBody (top 15)) = b_sign_in Φ lam := by kernel_rfl
theorem e_fits_piece (Φ : Tb) (lam : Lm) : bodyX 24 ((defs.getD 7 default).ct gls lam Φ (top 18)) (defBody (top 18)) = b_fits_piece Φ lam := by kernel_rfl
theorem e_need_pair (Φ : Tb) (lam : Lm) : bodyX 24 ((defs.getD 8 default).ct gls lam Φ (top 19)) (defBody (top 19)) = b_need_pair Φ lam := by kernel_rfl
theorem e_fits_seam (Φ : Tb) (lam : Lm) : bodyX 24 ((defs.getD 9 default).ct gls lam Φ (top 20)) (defBody (top 20)) = b_fits_seam Φ lam := by kernel_rfl
theorem e_need_seam (Φ : Tb) (lam : Lm) : bodyX 24 ((defs.getD 10 default).ct gls lam Φ (top 21)) (defBody (top 21)) = b_need_seam Φ lam := by kernel_rfl
theorem e_beside (Φ : Tb) (lam : Lm) : bodyX 24 ((defs.getD 11 default).ct gls lam Φ (top 22)) (defBody (top 22)) = b_beside Φ lam := by kernel_rfl
theorem e_above (Φ : Tb) (lam : Lm) : bodyX 24 ((defs.getD 12 default).ct gls lam Φ (top 23)) (defBody (top 23)) = b_above Φ lam := by kernel_rfl
theorem e_cost_in (Φ : Tb) (lam : Lm) : bodyX 24 ((defs.getD 13 default).ct gls lam Φ (top 24)) (defBody (top 24)) = b_cost_in Φ lam := by kernel_rfl
theorem e_steps_in (Φ : Tb) (lam : Lm) : bodyX 24 ((defs.getD 14 default).ct gls lam Φ (top 25)) (defBody (top 25)) = b_steps_in Φ lam := by kernel_rfl
theorem e_costs_in (Φ : Tb) (lam : Lm) : bodyX 24 ((defs.getD 15 default).ct gls lam Φ (top 26)) (defBody (top 26)) = b_costs_in Φ lam := by kernel_rfl
theorem e_forth (Φ : Tb) (lam : Lm) : bodyX 24 ((defs.getD 16 default).ct gls lam Φ (top 27)) (defBody (top 27)) = b_forth Φ lam := by kernel_rfl
theorem e_held (Φ : Tb) (lam : Lm) : bodyX 24 ((defs.getD 17 default).ct gls lam Φ (top 28)) (defBody (top 28)) = b_held Φ lam := by kernel_rfl
theorem e_traced (Φ : Tb) (lam : Lm) : bodyX 24 ((defs.getD 18 default).ct gls lam Φ (top 29)) (defBody (top 29)) = b_traced Φ lam := by kernel_rfl
theorem e_cheapest_in (Φ : Tb) (lam : Lm) : bodyX 24 ((defs.getD 19 default).ct gls lam Φ (top 30)) (defBody (top 30)) = b_cheapest_in Φ lam := by kernel_rfl
theorem e_closed_in (Φ : Tb) (lam : Lm) : bodyX 24 ((defs.getD 20 default).ct gls lam Φ (top 31)) (defBody (top 31)) = b_closed_in Φ lam := by kernel_rfl
theorem e_ways_in (Φ : Tb) (lam : Lm) : bodyX 24 ((defs.getD 21 default).ct gls lam Φ (top 32)) (defBody (top 32)) = b_ways_in Φ lam := by kernel_rfl
theorem e_fits_bounds (Φ : Tb) (lam : Lm) : bodyX 24 ((defs.getD 22 default).ct gls lam Φ (top 33)) (defBody (top 33)) = b_fits_bounds Φ lam := by kernel_rfl
theorem e_is_seam (Φ : Tb) (lam : Lm) : bodyX 24 ((defs.getD 23 default).ct gls lam Φ (top 34)) (defBody (top 34)) = b_is_seam Φ lam := by kernel_rfl
theorem e_joined_piece (Φ : Tb) (lam : Lm) : bodyX 24 ((defs.getD 24 default).ct gls lam Φ (top 35)) (defBody (top 35)) = b_joined_piece Φ lam := by kernel_rfl
theorem e_seam_cost (Φ : Tb) (lam : Lm) : bodyX 24 ((defs.getD 25 default).ct gls lam Φ (top 36)) (defBody (top 36)) = b_seam_cost Φ lam := by kernel_rfl
theorem e_closed_cost (Φ : Tb) (lam : Lm) : bodyX 24 ((defs.getD 26 default).ct gls lam Φ (top 37)) (defBody (top 37)) = b_closed_cost Φ lam := by kernel_rfl
theorem e_least_cost (Φ : Tb) (lam : Lm) : bodyX 24 ((defs.getD 27 default).ct gls lam Φ (top 38)) (defBody (top 38)) = b_least_cost Φ lam := by kernel_rfl
theorem e_cheapest_seam (Φ : Tb) (lam : Lm) : bodyX 24 ((defs.getD 28 default).ct gls lam Φ (top 39)) (defBody (top 39)) = b_cheapest_seam Φ lam := by kernel_rfl
theorem e_cheapest_many (Φ : Tb) (lam : Lm) : bodyX 24 ((defs.getD 29 default).ct gls lam Φ (top 40)) (defBody (top 40)) = b_cheapest_many Φ lam := by kernel_rfl
theorem e_least_closed (Φ : Tb) (lam : Lm) : bodyX 24 ((defs.getD 30 default).ct gls lam Φ (top 41)) (defBody (top 41)) = b_least_closed Φ lam := by kernel_rfl
theorem e_cheapest_closed (Φ : Tb) (lam : Lm) : bodyX 24 ((defs.getD 31 default).ct gls lam Φ (top 42)) (defBody (top 42)) = b_cheapest_closed Φ lam := by kernel_rfl
theorem e_least_through (Φ : Tb) (lam : Lm) : bodyX 24 ((defs.getD 32 default).ct gls lam Φ (top 43)) (defBody (top 43)) = b_least_through Φ lam := by kernel_rfl
theorem e_seam_paper (Φ : Tb) (lam : Lm) : bodyX 24 ((defs.getD 33 default).ct gls lam Φ (top 44)) (defBody (top 44)) = b_seam_paper Φ lam := by kernel_rfl
theorem e_is_seam_paper (Φ : Tb) (lam : Lm) : bodyX 24 ((defs.getD 34 default).ct gls lam Φ (top 45)) (defBody (top 45)) = b_is_seam_paper Φ lam := by kernel_rfl
theorem e__law_cup (Φ : Tb) (lam : Lm) : bodyX 24 ((defs.getD 35 default).ct gls lam Φ (top 47)) (defBody (top 47)) = b__law_cup Φ lam := by kernel_rfl
theorem e__law_roll (Φ : Tb) (lam : Lm) : bodyX 24 ((defs.getD 36 default).ct gls lam Φ (top 48)) (defBody (top 48)) = b__law_roll Φ lam := by kernel_rfl
theorem e__law_some (Φ : Tb) (lam : Lm) : bodyX 24 ((defs.getD 37 default).ct gls lam Φ (top 49)) (defBody (top 49)) = b__law_some Φ lam := by kernel_rfl
theorem e__law_same (Φ : Tb) (lam : Lm) : bodyX 24 ((defs.getD 38 default).ct gls lam Φ (top 50)) (defBody (top 50)) = b__law_same Φ lam := by kernel_rfl
theorem e__law_word (Φ : Tb) (lam : Lm) : bodyX 24 ((defs.getD 39 default).ct gls lam Φ (top 51)) (defBody (top 51)) = b__law_word Φ lam := by kernel_rfl
theorem e__law_asked (Φ : Tb) (lam : Lm) : bodyX 24 ((defs.getD 40 default).ct gls lam Φ (top 52)) (defBody (top 52)) = b__law_asked Φ lam := by kernel_rfl
theorem e_law (Φ : Tb) (lam : Lm) : bodyX 24 ((defs.getD 41 default).ct gls lam Φ (top 53)) (defBody (top 53)) = b_law Φ lam := by kernel_rfl
theorem tok : TabOk top defs gls defs tab :=
  ⟨⟨by rfl, by rfl, e_is_whole⟩,
  ⟨⟨by rfl, by rfl, e_fits_whole⟩,
  ⟨⟨by rfl, by rfl, e_is_tuple_of⟩,
  ⟨⟨by rfl, by rfl, e_fits_row⟩,
  ⟨⟨by rfl, by rfl, e_fits_tile⟩,
  ⟨⟨by rfl, by rfl, e_need_tile⟩,
  ⟨⟨by rfl, by rfl, e_sign_in⟩,
  ⟨⟨by rfl, by rfl, e_fits_piece⟩,
  ⟨⟨by rfl, by rfl, e_need_pair⟩,
  ⟨⟨by rfl, by rfl, e_fits_seam⟩,
  ⟨⟨by rfl, by rfl, e_need_seam⟩,
  ⟨⟨by rfl, by rfl, e_beside⟩,
  ⟨⟨by rfl, by rfl, e_above⟩,
  ⟨⟨by rfl, by rfl, e_cost_in⟩,
  ⟨⟨by rfl, by rfl, e_steps_in⟩,
  ⟨⟨by rfl, by rfl, e_costs_in⟩,
  ⟨⟨by rfl, by rfl, e_forth⟩,
  ⟨⟨by rfl, by rfl, e_held⟩,
  ⟨⟨by rfl, by rfl, e_traced⟩,
  ⟨⟨by rfl, by rfl, e_cheapest_in⟩,
  ⟨⟨by rfl, by rfl, e_closed_in⟩,
  ⟨⟨by rfl, by rfl, e_ways_in⟩,
  ⟨⟨by rfl, by rfl, e_fits_bounds⟩,
  ⟨⟨by rfl, by rfl, e_is_seam⟩,
  ⟨⟨by rfl, by rfl, e_joined_piece⟩,
  ⟨⟨by rfl, by rfl, e_seam_cost⟩,
  ⟨⟨by rfl, by rfl, e_closed_cost⟩,
  ⟨⟨by rfl, by rfl, e_least_cost⟩,
  ⟨⟨by rfl, by rfl, e_cheapest_seam⟩,
  ⟨⟨by rfl, by rfl, e_cheapest_many⟩,
  ⟨⟨by rfl, by rfl, e_least_closed⟩,
  ⟨⟨by rfl, by rfl, e_cheapest_closed⟩,
  ⟨⟨by rfl, by rfl, e_least_through⟩,
  ⟨⟨by rfl, by rfl, e_seam_paper⟩,
  ⟨⟨by rfl, by rfl, e_is_seam_paper⟩,
  ⟨⟨by rfl, by rfl, e__law_cup⟩,
  ⟨⟨by rfl, by rfl, e__law_roll⟩,
  ⟨⟨by rfl, by rfl, e__law_some⟩,
  ⟨⟨by rfl, by rfl, e__law_same⟩,
  ⟨⟨by rfl, by rfl, e__law_word⟩,
  ⟨⟨by rfl, by rfl, e__law_asked⟩,
  ⟨⟨by rfl, by rfl, e_law⟩,
  trivial⟩⟩⟩⟩⟩⟩⟩⟩⟩⟩⟩⟩⟩⟩⟩⟩⟩⟩⟩⟩⟩⟩⟩⟩⟩⟩⟩⟩⟩⟩⟩⟩⟩⟩⟩⟩⟩⟩⟩⟩⟩⟩
section
variable {n : Nat} {fs : Exs} {ρ : Slots} {S : Sto} {lam : Lm}
theorem c_is_whole : cE (Φb tab lam (n + 1)) 0 fs ρ S = (fs ρ S).bind fun ds S1 => call (Φb tab lam (n + 1)) 0 ds S1 := cE_ap rfl
theorem u_is_whole {a0 : D} : call (Φb tab lam (n + 1)) 0 [a0] S = runF 1 1 (b_is_whole (Φb tab lam n) lam) [a0] S := call_eq (q := (1, 1, b_is_whole)) rfl rfl
theorem c_fits_whole : cE (Φb tab lam (n + 1)) 1 fs ρ S = (fs ρ S).bind fun ds S1 => call (Φb tab lam (n + 1)) 1 ds S1 := cE_ap rfl
theorem u_fits_whole {a0 a1 a2 : D} : call (Φb tab lam (n + 1)) 1 [a0, a1, a2] S = runF 3 3 (b_fits_whole (Φb tab lam n) lam) [a0, a1, a2] S := call_eq (q := (3, 3, b_fits_whole)) rfl rfl
theorem c_is_tuple_of : cE (Φb tab lam (n + 1)) 2 fs ρ S = (fs ρ S).bind fun ds S1 => call (Φb tab lam (n + 1)) 2 ds S1 := cE_ap rfl
theorem u_is_tuple_of {a0 a1 a2 : D} : call (Φb tab lam (n + 1)) 2 [a0, a1, a2] S = runF 3 3 (b_is_tuple_of (Φb tab lam n) lam) [a0, a1, a2] S := call_eq (q := (3, 3, b_is_tuple_of)) rfl rfl
theorem c_fits_row : cE (Φb tab lam (n + 1)) 3 fs ρ S = (fs ρ S).bind fun ds S1 => call (Φb tab lam (n + 1)) 3 ds S1 := cE_ap rfl
theorem u_fits_row {a0 : D} : call (Φb tab lam (n + 1)) 3 [a0] S = runF 2 1 (b_fits_row (Φb tab lam n) lam) [a0] S := call_eq (q := (2, 1, b_fits_row)) rfl rfl
theorem c_fits_tile : cE (Φb tab lam (n + 1)) 4 fs ρ S = (fs ρ S).bind fun ds S1 => call (Φb tab lam (n + 1)) 4 ds S1 := cE_ap rfl
theorem u_fits_tile {a0 : D} : call (Φb tab lam (n + 1)) 4 [a0] S = runF 2 1 (b_fits_tile (Φb tab lam n) lam) [a0] S := call_eq (q := (2, 1, b_fits_tile)) rfl rfl
theorem c_need_tile : cE (Φb tab lam (n + 1)) 5 fs ρ S = (fs ρ S).bind fun ds S1 => call (Φb tab lam (n + 1)) 5 ds S1 := cE_ap rfl
theorem u_need_tile {a0 : D} : call (Φb tab lam (n + 1)) 5 [a0] S = runF 1 1 (b_need_tile (Φb tab lam n) lam) [a0] S := call_eq (q := (1, 1, b_need_tile)) rfl rfl
theorem c_sign_in : cE (Φb tab lam (n + 1)) 6 fs ρ S = (fs ρ S).bind fun ds S1 => call (Φb tab lam (n + 1)) 6 ds S1 := cE_ap rfl
theorem u_sign_in {a0 a1 : D} : call (Φb tab lam (n + 1)) 6 [a0, a1] S = runF 2 2 (b_sign_in (Φb tab lam n) lam) [a0, a1] S := call_eq (q := (2, 2, b_sign_in)) rfl rfl
theorem c_fits_piece : cE (Φb tab lam (n + 1)) 7 fs ρ S = (fs ρ S).bind fun ds S1 => call (Φb tab lam (n + 1)) 7 ds S1 := cE_ap rfl
theorem u_fits_piece {a0 : D} : call (Φb tab lam (n + 1)) 7 [a0] S = runF 1 1 (b_fits_piece (Φb tab lam n) lam) [a0] S := call_eq (q := (1, 1, b_fits_piece)) rfl rfl
theorem c_need_pair : cE (Φb tab lam (n + 1)) 8 fs ρ S = (fs ρ S).bind fun ds S1 => call (Φb tab lam (n + 1)) 8 ds S1 := cE_ap rfl
theorem u_need_pair {a0 a1 a2 : D} : call (Φb tab lam (n + 1)) 8 [a0, a1, a2] S = runF 3 3 (b_need_pair (Φb tab lam n) lam) [a0, a1, a2] S := call_eq (q := (3, 3, b_need_pair)) rfl rfl
theorem c_fits_seam : cE (Φb tab lam (n + 1)) 9 fs ρ S = (fs ρ S).bind fun ds S1 => call (Φb tab lam (n + 1)) 9 ds S1 := cE_ap rfl
theorem u_fits_seam {a0 a1 : D} : call (Φb tab lam (n + 1)) 9 [a0, a1] S = runF 3 2 (b_fits_seam (Φb tab lam n) lam) [a0, a1] S := call_eq (q := (3, 2, b_fits_seam)) rfl rfl
theorem c_need_seam : cE (Φb tab lam (n + 1)) 10 fs ρ S = (fs ρ S).bind fun ds S1 => call (Φb tab lam (n + 1)) 10 ds S1 := cE_ap rfl
theorem u_need_seam {a0 a1 : D} : call (Φb tab lam (n + 1)) 10 [a0, a1] S = runF 2 2 (b_need_seam (Φb tab lam n) lam) [a0, a1] S := call_eq (q := (2, 2, b_need_seam)) rfl rfl
theorem c_beside : cE (Φb tab lam (n + 1)) 11 fs ρ S = (fs ρ S).bind fun ds S1 => call (Φb tab lam (n + 1)) 11 ds S1 := cE_ap rfl
theorem u_beside {a0 a1 a2 a3 : D} : call (Φb tab lam (n + 1)) 11 [a0, a1, a2, a3] S = runF 4 4 (b_beside (Φb tab lam n) lam) [a0, a1, a2, a3] S := call_eq (q := (4, 4, b_beside)) rfl rfl
theorem c_above : cE (Φb tab lam (n + 1)) 12 fs ρ S = (fs ρ S).bind fun ds S1 => call (Φb tab lam (n + 1)) 12 ds S1 := cE_ap rfl
theorem u_above {a0 a1 a2 a3 a4 : D} : call (Φb tab lam (n + 1)) 12 [a0, a1, a2, a3, a4] S = runF 9 5 (b_above (Φb tab lam n) lam) [a0, a1, a2, a3, a4] S := call_eq (q := (9, 5, b_above)) rfl rfl
theorem c_cost_in : cE (Φb tab lam (n + 1)) 13 fs ρ S = (fs ρ S).bind fun ds S1 => call (Φb tab lam (n + 1)) 13 ds S1 := cE_ap rfl
theorem u_cost_in {a0 a1 a2 a3 : D} : call (Φb tab lam (n + 1)) 13 [a0, a1, a2, a3] S = runF 9 4 (b_cost_in (Φb tab lam n) lam) [a0, a1, a2, a3] S := call_eq (q := (9, 4, b_cost_in)) rfl rfl
theorem c_steps_in : cE (Φb tab lam (n + 1)) 14 fs ρ S = (fs ρ S).bind fun ds S1 => call (Φb tab lam (n + 1)) 14 ds S1 := cE_ap rfl
theorem u_steps_in {a0 a1 a2 : D} : call (Φb tab lam (n + 1)) 14 [a0, a1, a2] S = runF 8 3 (b_steps_in (Φb tab lam n) lam) [a0, a1, a2] S := call_eq (q := (8, 3, b_steps_in)) rfl rfl
theorem c_costs_in : cE (Φb tab lam (n + 1)) 15 fs ρ S = (fs ρ S).bind fun ds S1 => call (Φb tab lam (n + 1)) 15 ds S1 := cE_ap rfl
theorem u_costs_in {a0 a1 a2 : D} : call (Φb tab lam (n + 1)) 15 [a0, a1, a2] S = runF 5 3 (b_costs_in (Φb tab lam n) lam) [a0, a1, a2] S := call_eq (q := (5, 3, b_costs_in)) rfl rfl
theorem c_forth : cE (Φb tab lam (n + 1)) 16 fs ρ S = (fs ρ S).bind fun ds S1 => call (Φb tab lam (n + 1)) 16 ds S1 := cE_ap rfl
theorem u_forth {a0 a1 : D} : call (Φb tab lam (n + 1)) 16 [a0, a1] S = runF 10 2 (b_forth (Φb tab lam n) lam) [a0, a1] S := call_eq (q := (10, 2, b_forth)) rfl rfl
theorem c_held : cE (Φb tab lam (n + 1)) 17 fs ρ S = (fs ρ S).bind fun ds S1 => call (Φb tab lam (n + 1)) 17 ds S1 := cE_ap rfl
theorem u_held {a0 a1 a2 : D} : call (Φb tab lam (n + 1)) 17 [a0, a1, a2] S = runF 6 3 (b_held (Φb tab lam n) lam) [a0, a1, a2] S := call_eq (q := (6, 3, b_held)) rfl rfl
theorem c_traced : cE (Φb tab lam (n + 1)) 18 fs ρ S = (fs ρ S).bind fun ds S1 => call (Φb tab lam (n + 1)) 18 ds S1 := cE_ap rfl
theorem u_traced {a0 a1 a2 a3 : D} : call (Φb tab lam (n + 1)) 18 [a0, a1, a2, a3] S = runF 10 4 (b_traced (Φb tab lam n) lam) [a0, a1, a2, a3] S := call_eq (q := (10, 4, b_traced)) rfl rfl
theorem c_cheapest_in : cE (Φb tab lam (n + 1)) 19 fs ρ S = (fs ρ S).bind fun ds S1 => call (Φb tab lam (n + 1)) 19 ds S1 := cE_ap rfl
theorem u_cheapest_in {a0 a1 a2 : D} : call (Φb tab lam (n + 1)) 19 [a0, a1, a2] S = runF 7 3 (b_cheapest_in (Φb tab lam n) lam) [a0, a1, a2] S := call_eq (q := (7, 3, b_cheapest_in)) rfl rfl
theorem c_closed_in : cE (Φb tab lam (n + 1)) 20 fs ρ S = (fs ρ S).bind fun ds S1 => call (Φb tab lam (n + 1)) 20 ds S1 := cE_ap rfl
theorem u_closed_in {a0 a1 a2 : D} : call (Φb tab lam (n + 1)) 20 [a0, a1, a2] S = runF 12 3 (b_closed_in (Φb tab lam n) lam) [a0, a1, a2] S := call_eq (q := (12, 3, b_closed_in)) rfl rfl
theorem c_ways_in : cE (Φb tab lam (n + 1)) 21 fs ρ S = (fs ρ S).bind fun ds S1 => call (Φb tab lam (n + 1)) 21 ds S1 := cE_ap rfl
theorem u_ways_in {a0 a1 a2 : D} : call (Φb tab lam (n + 1)) 21 [a0, a1, a2] S = runF 14 3 (b_ways_in (Φb tab lam n) lam) [a0, a1, a2] S := call_eq (q := (14, 3, b_ways_in)) rfl rfl
theorem c_fits_bounds : cE (Φb tab lam (n + 1)) 22 fs ρ S = (fs ρ S).bind fun ds S1 => call (Φb tab lam (n + 1)) 22 ds S1 := cE_ap rfl
theorem u_fits_bounds {a0 a1 a2 a3 : D} : call (Φb tab lam (n + 1)) 22 [a0, a1, a2, a3] S = runF 14 4 (b_fits_bounds (Φb tab lam n) lam) [a0, a1, a2, a3] S := call_eq (q := (14, 4, b_fits_bounds)) rfl rfl
theorem c_is_seam : cE (Φb tab lam (n + 1)) 23 fs ρ S = (fs ρ S).bind fun ds S1 => call (Φb tab lam (n + 1)) 23 ds S1 := cE_ap rfl
theorem u_is_seam {a0 a1 : D} : call (Φb tab lam (n + 1)) 23 [a0, a1] S = runF 2 2 (b_is_seam (Φb tab lam n) lam) [a0, a1] S := call_eq (q := (2, 2, b_is_seam)) rfl rfl
theorem c_joined_piece : cE (Φb tab lam (n + 1)) 24 fs ρ S = (fs ρ S).bind fun ds S1 => call (Φb tab lam (n + 1)) 24 ds S1 := cE_ap rfl
theorem u_joined_piece {a0 a1 a2 a3 : D} : call (Φb tab lam (n + 1)) 24 [a0, a1, a2, a3] S = runF 8 4 (b_joined_piece (Φb tab lam n) lam) [a0, a1, a2, a3] S := call_eq (q := (8, 4, b_joined_piece)) rfl rfl
theorem c_seam_cost : cE (Φb tab lam (n + 1)) 25 fs ρ S = (fs ρ S).bind fun ds S1 => call (Φb tab lam (n + 1)) 25 ds S1 := cE_ap rfl
theorem u_seam_cost {a0 a1 a2 a3 : D} : call (Φb tab lam (n + 1)) 25 [a0, a1, a2, a3] S = runF 4 4 (b_seam_cost (Φb tab lam n) lam) [a0, a1, a2, a3] S := call_eq (q := (4, 4, b_seam_cost)) rfl rfl
theorem c_closed_cost : cE (Φb tab lam (n + 1)) 26 fs ρ S = (fs ρ S).bind fun ds S1 => call (Φb tab lam (n + 1)) 26 ds S1 := cE_ap rfl
theorem u_closed_cost {a0 a1 a2 a3 : D} : call (Φb tab lam (n + 1)) 26 [a0, a1, a2, a3] S = runF 4 4 (b_closed_cost (Φb tab lam n) lam) [a0, a1, a2, a3] S := call_eq (q := (4, 4, b_closed_cost)) rfl rfl
theorem c_least_cost : cE (Φb tab lam (n + 1)) 27 fs ρ S = (fs ρ S).bind fun ds S1 => call (Φb tab lam (n + 1)) 27 ds S1 := cE_ap rfl
theorem u_least_cost {a0 a1 a2 : D} : call (Φb tab lam (n + 1)) 27 [a0, a1, a2] S = runF 3 3 (b_least_cost (Φb tab lam n) lam) [a0, a1, a2] S := call_eq (q := (3, 3, b_least_cost)) rfl rfl
theorem c_cheapest_seam : cE (Φb tab lam (n + 1)) 28 fs ρ S = (fs ρ S).bind fun ds S1 => call (Φb tab lam (n + 1)) 28 ds S1 := cE_ap rfl
theorem u_cheapest_seam {a0 a1 a2 : D} : call (Φb tab lam (n + 1)) 28 [a0, a1, a2] S = runF 3 3 (b_cheapest_seam (Φb tab lam n) lam) [a0, a1, a2] S := call_eq (q := (3, 3, b_cheapest_seam)) rfl rfl
theorem c_cheapest_many : cE (Φb tab lam (n + 1)) 29 fs ρ S = (fs ρ S).bind fun ds S1 => call (Φb tab lam (n + 1)) 29 ds S1 := cE_ap rfl
theorem u_cheapest_many {a0 a1 a2 : D} : call (Φb tab lam (n + 1)) 29 [a0, a1, a2] S = runF 3 3 (b_cheapest_many (Φb tab lam n) lam) [a0, a1, a2] S := call_eq (q := (3, 3, b_cheapest_many)) rfl rfl
theorem c_least_closed : cE (Φb tab lam (n + 1)) 30 fs ρ S = (fs ρ S).bind fun ds S1 => call (Φb tab lam (n + 1)) 30 ds S1 := cE_ap rfl
theorem u_least_closed {a0 a1 a2 : D} : call (Φb tab lam (n + 1)) 30 [a0, a1, a2] S = runF 3 3 (b_least_closed (Φb tab lam n) lam) [a0, a1, a2] S := call_eq (q := (3, 3, b_least_closed)) rfl rfl
theorem c_cheapest_closed : cE (Φb tab lam (n + 1)) 31 fs ρ S = (fs ρ S).bind fun ds S1 => call (Φb tab lam (n + 1)) 31 ds S1 := cE_ap rfl
theorem u_cheapest_closed {a0 a1 a2 : D} : call (Φb tab lam (n + 1)) 31 [a0, a1, a2] S = runF 3 3 (b_cheapest_closed (Φb tab lam n) lam) [a0, a1, a2] S := call_eq (q := (3, 3, b_cheapest_closed)) rfl rfl
theorem c_least_through : cE (Φb tab lam (n + 1)) 32 fs ρ S = (fs ρ S).bind fun ds S1 => call (Φb tab lam (n + 1)) 32 ds S1 := cE_ap rfl
theorem u_least_through {a0 a1 a2 a3 a4 : D} : call (Φb tab lam (n + 1)) 32 [a0, a1, a2, a3, a4] S = runF 7 5 (b_least_through (Φb tab lam n) lam) [a0, a1, a2, a3, a4] S := call_eq (q := (7, 5, b_least_through)) rfl rfl
theorem c_seam_paper : cE (Φb tab lam (n + 1)) 33 fs ρ S = (fs ρ S).bind fun ds S1 => call (Φb tab lam (n + 1)) 33 ds S1 := cE_ap rfl
theorem u_seam_paper {a0 a1 a2 : D} : call (Φb tab lam (n + 1)) 33 [a0, a1, a2] S = runF 4 3 (b_seam_paper (Φb tab lam n) lam) [a0, a1, a2] S := call_eq (q := (4, 3, b_seam_paper)) rfl rfl
theorem c_is_seam_paper : cE (Φb tab lam (n + 1)) 34 fs ρ S = (fs ρ S).bind fun ds S1 => call (Φb tab lam (n + 1)) 34 ds S1 := cE_ap rfl
theorem u_is_seam_paper {a0 a1 a2 a3 : D} : call (Φb tab lam (n + 1)) 34 [a0, a1, a2, a3] S = runF 4 4 (b_is_seam_paper (Φb tab lam n) lam) [a0, a1, a2, a3] S := call_eq (q := (4, 4, b_is_seam_paper)) rfl rfl
theorem c__law_cup : cE (Φb tab lam (n + 1)) 35 fs ρ S = (fs ρ S).bind fun ds S1 => call (Φb tab lam (n + 1)) 35 ds S1 := cE_ap rfl
theorem u__law_cup {a0 : D} : call (Φb tab lam (n + 1)) 35 [a0] S = runF 2 1 (b__law_cup (Φb tab lam n) lam) [a0] S := call_eq (q := (2, 1, b__law_cup)) rfl rfl
theorem c__law_roll : cE (Φb tab lam (n + 1)) 36 fs ρ S = (fs ρ S).bind fun ds S1 => call (Φb tab lam (n + 1)) 36 ds S1 := cE_ap rfl
theorem u__law_roll {a0 a1 : D} : call (Φb tab lam (n + 1)) 36 [a0, a1] S = runF 4 2 (b__law_roll (Φb tab lam n) lam) [a0, a1] S := call_eq (q := (4, 2, b__law_roll)) rfl rfl
theorem c__law_some : cE (Φb tab lam (n + 1)) 37 fs ρ S = (fs ρ S).bind fun ds S1 => call (Φb tab lam (n + 1)) 37 ds S1 := cE_ap rfl
theorem u__law_some {a0 a1 : D} : call (Φb tab lam (n + 1)) 37 [a0, a1] S = runF 2 2 (b__law_some (Φb tab lam n) lam) [a0, a1] S := call_eq (q := (2, 2, b__law_some)) rfl rfl
theorem c__law_same : cE (Φb tab lam (n + 1)) 38 fs ρ S = (fs ρ S).bind fun ds S1 => call (Φb tab lam (n + 1)) 38 ds S1 := cE_ap rfl
theorem u__law_same {a0 a1 : D} : call (Φb tab lam (n + 1)) 38 [a0, a1] S = runF 3 2 (b__law_same (Φb tab lam n) lam) [a0, a1] S := call_eq (q := (3, 2, b__law_same)) rfl rfl
theorem c__law_word : cE (Φb tab lam (n + 1)) 39 fs ρ S = (fs ρ S).bind fun ds S1 => call (Φb tab lam (n + 1)) 39 ds S1 := cE_ap rfl
theorem u__law_word {a0 : D} : call (Φb tab lam (n + 1)) 39 [a0] S = runF 6 1 (b__law_word (Φb tab lam n) lam) [a0] S := call_eq (q := (6, 1, b__law_word)) rfl rfl
theorem c__law_asked : cE (Φb tab lam (n + 1)) 40 fs ρ S = (fs ρ S).bind fun ds S1 => call (Φb tab lam (n + 1)) 40 ds S1 := cE_ap rfl
theorem u__law_asked {a0 a1 a2 a3 a4 a5 : D} : call (Φb tab lam (n + 1)) 40 [a0, a1, a2, a3, a4, a5] S = runF 8 6 (b__law_asked (Φb tab lam n) lam) [a0, a1, a2, a3, a4, a5] S := call_eq (q := (8, 6, b__law_asked)) rfl rfl
theorem c_law : cE (Φb tab lam (n + 1)) 41 fs ρ S = (fs ρ S).bind fun ds S1 => call (Φb tab lam (n + 1)) 41 ds S1 := cE_ap rfl
theorem u_law {a0 : D} : call (Φb tab lam (n + 1)) 41 [a0] S = runF 11 1 (b_law (Φb tab lam n) lam) [a0] S := call_eq (q := (11, 1, b_law)) rfl rfl
end
end K88

set_option Elab.async false
set_option linter.all false
set_option maxRecDepth 1000000
set_option maxHeartbeats 0
namespace K88
open PySem PySem.Spec PyProof.Rows L2 TM
def ck : CK := ⟨73, 311, 4111, 2077503161, 223, 30941, 7949, 2147482921, 241, 2147482877, 821⟩
theorem ck_ok : ck.ok = true := by decide +kernel
theorem bcup (Φ : Tb) (lam : Lm) : b__law_cup Φ lam = cupB ck := rfl
theorem broll (Φ : Tb) (lam : Lm) : b__law_roll Φ lam = rollB ck := rfl
theorem cup_s {n : Nat} {ns : List Int} (h : ns.length ≤ 63) : call (Φb tab lam (n + 1)) 35 [.scr ns] [] = .ok (.ref 0) [(cup0 ck ns).so] := by
  rw [u__law_cup, bcup]; exact cup_ok ck_ok h
theorem roll_s {n : Nat} {c : Cup} (hc : c.Ok) {m : Int} (hm : 0 < m) (hm2 : m < 1073741824) : call (Φb tab lam (n + 1)) 36 [.ref 0, .int m] [c.so] = .ok (.int (rollV ck c m)) [(rollC ck c m).so] := by
  rw [u__law_roll, broll]; exact roll_ok (n := 0) ck_ok hc hm hm2 rfl
/-- the slots when the seams are drawn -/
def r0 (ns : List Int) : Slots := [some (.val (.scr ns)), some (.val (.ref 0)), none, none, none, none, none, none, none, none, none]
def odds : D := .lst [.non, .tup [], .lst [.str [97, 98]], .tup [.str [97, 98], .str [97]], .tup [.str []], .tup [.str [65]], .tup [.str [97, 32, 98]], .str [97, 98], .tup [.int 5], .tup [.non], .tup [.str (List.replicate 13 97)], .tup (List.replicate 13 (.str [97])), .tup [.str [97, 49]], .tup [.tup [.str [97]]]]
def r1 (ns : List Int) (od : D) : Slots := [some (.val (.scr ns)), some (.val (.ref 0)), some (.val odds), some (.val od), none, none, none, some (.val (.tup [.str [97, 98], .str [98, 46]])), some (.val (.tup [.str [122]])), some (.val (.tup [.int 3, .int 2])), some (.val (.tup [.int 1, .int 2]))]
abbrev P15 : Tb := Φb tab lam 15
theorem segA (ns : List Int) (S : Sto) (k : Slots → Sto → SR) : (seqS (s_law_1 P15 lam) (seqS (s_law_2 P15 lam) (seqS (s_law_3 P15 lam) (seqS (s_law_4 P15 lam) (seqS (s_law_5 P15 lam) (seqS (s_law_6 P15 lam) (seqS (s_law_7 P15 lam) k)))))) ) (r0 ns) S = k (r1 ns (.tup [.int 1])) S := by kernel_rfl
end K88
namespace K88
open PySem PySem.Spec PyProof.Rows L2 TM
theorem some_s {n : Nat} {c : Cup} (hc : c.Ok) {xs : List D} (h0 : 0 < xs.length) (h1 : xs.length < 1073741824) {dx : D} (hd : dx = .lst xs ∨ dx = .tup xs) :
    call (Φb tab lam (n + 2)) 37 [.ref 0, dx] [c.so] = .ok (xs.getD (pick ck c xs.length) .non) [(pickC ck c xs.length).so] := by
  rw [u__law_some]
  exact some_run ck_ok rfl hc h0 h1 hd
theorem it8 (ns : List Int) (oe od : D) (c : Cup) (hc : c.Ok) (ho : od ∈ [D.non, .int 0, .int (-1), .int 3, .bl true, .str [49], .tup [.int 1]]) :
    ∃ c' : Cup, c'.Ok ∧ s_law_8b P15 lam (r1 ns od) [c.so] = .nx (r1 ns od) [c'.so] := by
  obtain ⟨p1, p2, _⟩ := pick_in ck_ok hc (n := 2) (by decide)
  refine ⟨_, p2, ?_⟩
  have hs : call P15 37 [.ref 0, .lst [.int 0, .int 1]] [c.so] = .ok ([D.int 0, D.int 1].getD (pick ck c 2) .non) [(pickC ck c 2).so] := some_s (n := 13) hc (xs := [.int 0, .int 1]) (by decide) (by decide) (.inl rfl)
  have hp : [D.int 0, D.int 1].getD (pick ck c 2) .non = .int 0 ∨ [D.int 0, D.int 1].getD (pick ck c 2) .non = .int 1 := by
    have : pick ck c 2 = 0 ∨ pick ck c 2 = 1 := by omega
    rcases this with h | h <;> rw [h]
    · exact .inl rfl
    · exact .inr rfl
  have hb : [D.int 0, D.int 1].length ≤ big := by show 2 ≤ 16777216; decide
  show (seqS (s_law_8_0 P15 lam) nopS) _ _ = _
  simp only [s_law_8_0, r1, TM.bind_ok, TM.bind_exc, TM.bind_stuck, TM.bindss_ok, TM.bindss_exc, TM.bindss_stuck, TM.binds_ok, TM.binds_exc, TM.binds_stuck, TM.bindl_ok, TM.bindl_exc, TM.cons_ok, TM.cons_exc, TM.sbind_ok, TM.sbind_exc, TM.srbind_nx, TM.srbind_rt, TM.srbind_ct, TM.srbind_bk, TM.srbind_exc, TM.lift_some, TM.lifts_some, TM.binE_ap, TM.binES_ap, TM.unE_ap, TM.cstE_ap, TM.varE_ap0, TM.varE_apS, TM.ownE_ap0, TM.ownE_ap0', TM.ownE_apS, TM.toD_l, TM.nilEs_ap, TM.consEs_ap, TM.dispE_ap, TM.callE_ap, TM.truE_ap, TM.ifE_ap, TM.andE_ap, TM.orE_ap, TM.notE_ap, TM.chE_ap, TM.andT_ap, TM.orT_ap, TM.notT_ap, TM.truD_bl, TM.seqS_ap, TM.nopS_ap, TM.exprS_ap, TM.retS_ap, TM.setS_ap, TM.asgS_ap, TM.iffS_ap, TM.newS_ap, TM.fzS_ap, TM.ctS_ap, TM.bkS_ap, TM.raiS_ap, TM.frzS_nil, TM.frzS_cons, TM.forS_ap, TM.srcI_ap, TM.seqI_ap, TM.mthE_ap, TM.mthL_ap, TM.set_0, TM.set_S, TM.nameG_ap, TM.nilGs_ap, TM.consGs_ap, TM.obind_some, TM.omap_some, TM.appS_ap0, K88.c_is_whole, K88.c_fits_whole, K88.c_is_tuple_of, K88.c_fits_row, K88.c_fits_tile, K88.c_need_tile, K88.c_sign_in, K88.c_fits_piece, K88.c_need_pair, K88.c_fits_seam, K88.c_need_seam, K88.c_beside, K88.c_above, K88.c_cost_in, K88.c_steps_in, K88.c_costs_in, K88.c_forth, K88.c_held, K88.c_traced, K88.c_cheapest_in, K88.c_closed_in, K88.c_ways_in, K88.c_fits_bounds, K88.c_is_seam, K88.c_joined_piece, K88.c_seam_cost, K88.c_closed_cost, K88.c_least_cost, K88.c_cheapest_seam, K88.c_cheapest_many, K88.c_least_closed, K88.c_cheapest_closed, K88.c_least_through, K88.c_seam_paper, K88.c_is_seam_paper, K88.c__law_cup, K88.c__law_roll, K88.c__law_some, K88.c__law_same, K88.c__law_word, K88.c__law_asked, K88.c_law, hb, if_true]
  rw [hs]
  generalize pickC ck c 2 = c'
  simp only [List.mem_cons, List.not_mem_nil, or_false] at ho
  rcases hp with hp | hp <;> rw [hp] <;> rcases ho with rfl | rfl | rfl | rfl | rfl | rfl | rfl <;> kernel_rfl
theorem loop8 (ns : List Int) : ∀ (ods : List D) (oe : D) (c : Cup), c.Ok → (∀ od ∈ ods, od ∈ [D.non, .int 0, .int (-1), .int 3, .bl true, .str [49], .tup [.int 1]]) →
    ∃ c' : Cup, c'.Ok ∧ forGo (nameG 3) (s_law_8b P15 lam) ods (r1 ns oe) [c.so] = .nx (r1 ns (ods.getLastD oe)) [c'.so]
  | [], oe, c, hc, _ => ⟨c, hc, rfl⟩
  | od :: ods, oe, c, hc, h => by
    obtain ⟨c1, h1, e1⟩ := it8 ns oe od c hc (h od List.mem_cons_self)
    obtain ⟨c2, h2, e2⟩ := loop8 ns ods od c1 h1 fun x hx => h x (List.mem_cons_of_mem _ hx)
    refine ⟨c2, h2, ?_⟩
    have e0 : nameG 3 od (r1 ns oe) = some (r1 ns od) := rfl
    unfold forGo
    simp only [e0, e1]
    rw [e2, List.getLastD_cons]
theorem segB (ns : List Int) (S : Sto) (oe : D) : (seqS (s_law_9 P15 lam) (seqS (s_law_10 P15 lam) (seqS (s_law_11 P15 lam) (seqS (s_law_12 P15 lam) nopS)))) (r1 ns oe) S = .rt (.bl true) S := by kernel_rfl
theorem seg8 (ns : List Int) (S : Sto) (oe : D) : s_law_8 P15 lam (r1 ns oe) S = forGo (nameG 3) (s_law_8b P15 lam) [D.non, .int 0, .int (-1), .int 3, .bl true, .str [49], .tup [.int 1]] (r1 ns oe) S := by
  have hb : [D.non, .int 0, .int (-1), .int 3, .bl true, .str [49], .tup [.int 1]].length ≤ big := by show 7 ≤ 16777216; decide
  have hb1 : [D.int 1].length ≤ big := by show 1 ≤ 16777216; decide
  have hn : negO (.int 1) = some (.int (-1)) := rfl
  unfold s_law_8
  simp only [TM.bind_ok, TM.bind_exc, TM.bind_stuck, TM.bindss_ok, TM.bindss_exc, TM.bindss_stuck, TM.binds_ok, TM.binds_exc, TM.binds_stuck, TM.bindl_ok, TM.bindl_exc, TM.cons_ok, TM.cons_exc, TM.sbind_ok, TM.sbind_exc, TM.srbind_nx, TM.srbind_rt, TM.srbind_ct, TM.srbind_bk, TM.srbind_exc, TM.lift_some, TM.lifts_some, TM.binE_ap, TM.binES_ap, TM.unE_ap, TM.cstE_ap, TM.varE_ap0, TM.varE_apS, TM.ownE_ap0, TM.ownE_ap0', TM.ownE_apS, TM.toD_l, TM.nilEs_ap, TM.consEs_ap, TM.dispE_ap, TM.callE_ap, TM.truE_ap, TM.ifE_ap, TM.andE_ap, TM.orE_ap, TM.notE_ap, TM.chE_ap, TM.andT_ap, TM.orT_ap, TM.notT_ap, TM.truD_bl, TM.seqS_ap, TM.nopS_ap, TM.exprS_ap, TM.retS_ap, TM.setS_ap, TM.asgS_ap, TM.iffS_ap, TM.newS_ap, TM.fzS_ap, TM.ctS_ap, TM.bkS_ap, TM.raiS_ap, TM.frzS_nil, TM.frzS_cons, TM.forS_ap, TM.srcI_ap, TM.seqI_ap, TM.mthE_ap, TM.mthL_ap, TM.set_0, TM.set_S, TM.nameG_ap, TM.nilGs_ap, TM.consGs_ap, TM.obind_some, TM.omap_some, TM.appS_ap0, K88.c_is_whole, K88.c_fits_whole, K88.c_is_tuple_of, K88.c_fits_row, K88.c_fits_tile, K88.c_need_tile, K88.c_sign_in, K88.c_fits_piece, K88.c_need_pair, K88.c_fits_seam, K88.c_need_seam, K88.c_beside, K88.c_above, K88.c_cost_in, K88.c_steps_in, K88.c_costs_in, K88.c_forth, K88.c_held, K88.c_traced, K88.c_cheapest_in, K88.c_closed_in, K88.c_ways_in, K88.c_fits_bounds, K88.c_is_seam, K88.c_joined_piece, K88.c_seam_cost, K88.c_closed_cost, K88.c_least_cost, K88.c_cheapest_seam, K88.c_cheapest_many, K88.c_least_closed, K88.c_cheapest_closed, K88.c_least_through, K88.c_seam_paper, K88.c_is_seam_paper, K88.c__law_cup, K88.c__law_roll, K88.c__law_some, K88.c__law_same, K88.c__law_word, K88.c__law_asked, K88.c_law, hb, hb1, if_true, hn, itemsO]
theorem seg0 (ns : List Int) (h : ns.length ≤ 63) : s_law_0 P15 lam ([some (.val (.scr ns)), none, none, none, none, none, none, none, none, none, none]) [] = .nx (r0 ns) [(cup0 ck ns).so] := by
  have := cup_s (n := 14) h
  unfold s_law_0
  simp only [TM.bind_ok, TM.bind_exc, TM.bind_stuck, TM.bindss_ok, TM.bindss_exc, TM.bindss_stuck, TM.binds_ok, TM.binds_exc, TM.binds_stuck, TM.bindl_ok, TM.bindl_exc, TM.cons_ok, TM.cons_exc, TM.sbind_ok, TM.sbind_exc, TM.srbind_nx, TM.srbind_rt, TM.srbind_ct, TM.srbind_bk, TM.srbind_exc, TM.lift_some, TM.lifts_some, TM.binE_ap, TM.binES_ap, TM.unE_ap, TM.cstE_ap, TM.varE_ap0, TM.varE_apS, TM.ownE_ap0, TM.ownE_ap0', TM.ownE_apS, TM.toD_l, TM.nilEs_ap, TM.consEs_ap, TM.dispE_ap, TM.callE_ap, TM.truE_ap, TM.ifE_ap, TM.andE_ap, TM.orE_ap, TM.notE_ap, TM.chE_ap, TM.andT_ap, TM.orT_ap, TM.notT_ap, TM.truD_bl, TM.seqS_ap, TM.nopS_ap, TM.exprS_ap, TM.retS_ap, TM.setS_ap, TM.asgS_ap, TM.iffS_ap, TM.newS_ap, TM.fzS_ap, TM.ctS_ap, TM.bkS_ap, TM.raiS_ap, TM.frzS_nil, TM.frzS_cons, TM.forS_ap, TM.srcI_ap, TM.seqI_ap, TM.mthE_ap, TM.mthL_ap, TM.set_0, TM.set_S, TM.nameG_ap, TM.nilGs_ap, TM.consGs_ap, TM.obind_some, TM.omap_some, TM.appS_ap0, K88.c_is_whole, K88.c_fits_whole, K88.c_is_tuple_of, K88.c_fits_row, K88.c_fits_tile, K88.c_need_tile, K88.c_sign_in, K88.c_fits_piece, K88.c_need_pair, K88.c_fits_seam, K88.c_need_seam, K88.c_beside, K88.c_above, K88.c_cost_in, K88.c_steps_in, K88.c_costs_in, K88.c_forth, K88.c_held, K88.c_traced, K88.c_cheapest_in, K88.c_closed_in, K88.c_ways_in, K88.c_fits_bounds, K88.c_is_seam, K88.c_joined_piece, K88.c_seam_cost, K88.c_closed_cost, K88.c_least_cost, K88.c_cheapest_seam, K88.c_cheapest_many, K88.c_least_closed, K88.c_cheapest_closed, K88.c_least_through, K88.c_seam_paper, K88.c_is_seam_paper, K88.c__law_cup, K88.c__law_roll, K88.c__law_some, K88.c__law_same, K88.c__law_word, K88.c__law_asked, K88.c_law]
  rw [this]
  simp only [TM.bind_ok, TM.bind_exc, TM.bind_stuck, TM.bindss_ok, TM.bindss_exc, TM.bindss_stuck, TM.binds_ok, TM.binds_exc, TM.binds_stuck, TM.bindl_ok, TM.bindl_exc, TM.cons_ok, TM.cons_exc, TM.sbind_ok, TM.sbind_exc, TM.srbind_nx, TM.srbind_rt, TM.srbind_ct, TM.srbind_bk, TM.srbind_exc, TM.lift_some, TM.lifts_some, TM.binE_ap, TM.binES_ap, TM.unE_ap, TM.cstE_ap, TM.varE_ap0, TM.varE_apS, TM.ownE_ap0, TM.ownE_ap0', TM.ownE_apS, TM.toD_l, TM.nilEs_ap, TM.consEs_ap, TM.dispE_ap, TM.callE_ap, TM.truE_ap, TM.ifE_ap, TM.andE_ap, TM.orE_ap, TM.notE_ap, TM.chE_ap, TM.andT_ap, TM.orT_ap, TM.notT_ap, TM.truD_bl, TM.seqS_ap, TM.nopS_ap, TM.exprS_ap, TM.retS_ap, TM.setS_ap, TM.asgS_ap, TM.iffS_ap, TM.newS_ap, TM.fzS_ap, TM.ctS_ap, TM.bkS_ap, TM.raiS_ap, TM.frzS_nil, TM.frzS_cons, TM.forS_ap, TM.srcI_ap, TM.seqI_ap, TM.mthE_ap, TM.mthL_ap, TM.set_0, TM.set_S, TM.nameG_ap, TM.nilGs_ap, TM.consGs_ap, TM.obind_some, TM.omap_some, TM.appS_ap0, K88.c_is_whole, K88.c_fits_whole, K88.c_is_tuple_of, K88.c_fits_row, K88.c_fits_tile, K88.c_need_tile, K88.c_sign_in, K88.c_fits_piece, K88.c_need_pair, K88.c_fits_seam, K88.c_need_seam, K88.c_beside, K88.c_above, K88.c_cost_in, K88.c_steps_in, K88.c_costs_in, K88.c_forth, K88.c_held, K88.c_traced, K88.c_cheapest_in, K88.c_closed_in, K88.c_ways_in, K88.c_fits_bounds, K88.c_is_seam, K88.c_joined_piece, K88.c_seam_cost, K88.c_closed_cost, K88.c_least_cost, K88.c_cheapest_seam, K88.c_cheapest_many, K88.c_least_closed, K88.c_cheapest_closed, K88.c_least_through, K88.c_seam_paper, K88.c_is_seam_paper, K88.c__law_cup, K88.c__law_roll, K88.c__law_some, K88.c__law_same, K88.c__law_word, K88.c__law_asked, K88.c_law, r0]
theorem value {ns : List Int} (h : ns.length ≤ 63) : ∃ S, runF 11 1 (b_law P15 lam) [.scr ns] [] = .ok (.bl true) S := by
  have hc := cup0_ok ck_ok ns
  obtain ⟨c', h', e⟩ := loop8 ns [D.non, .int 0, .int (-1), .int 3, .bl true, .str [49], .tup [.int 1]] (.tup [.int 1]) (cup0 ck ns) hc (fun _ h => h)
  refine ⟨[c'.so], ?_⟩
  have hb : b_law P15 lam [some (.val (.scr ns)), none, none, none, none, none, none, none, none, none, none] [] = .rt (.bl true) [c'.so] := by
    unfold b_law
    rw [seqS_ap, seg0 ns h, srbind_nx, segA, seqS_ap, seg8, e, srbind_nx]
    exact segB ns _ _
  unfold runF
  have e2 : [D.scr ns].map (fun d => some (SV.val d)) ++ List.replicate (11 - 1) none = [some (SV.val (.scr ns)), none, none, none, none, none, none, none, none, none, none] := rfl
  rw [e2, hb]
theorem law_run {ns : List Int} (h : ns.length ≤ 63) : ∃ S, TM.runF lDef.N.length 1 (TM.bodyX 24 (lDef.ct gls lam (TM.Φt top defs gls lam 15) (top lDef.top)) (L2.defBody (top lDef.top))) [.scr ns] [] = .ok (.bl true) S := by
  have h1 : lDef.N.length = 11 := by kernel_rfl
  have h2 : lDef.top = 53 := by kernel_rfl
  rw [TM.Φt_eq tok, h1, h2]
  obtain ⟨S, e⟩ := value h
  refine ⟨S, ?_⟩
  have e2 := e_law P15 lam
  rw [← e2] at e
  exact e
end K88
theorem k88_holds : PySem.Challenge.rw_tilemakers_k88_whole_errors_of_seams.Holds := k88_join fun _ h => K88.law_run h

theorem PySem.Challenge.cw_tilemakers_k88_whole_errors_of_seams_holds : PySem.Challenge.rw_tilemakers_k88_whole_errors_of_seams.Holds := by
  exact k88_holds
