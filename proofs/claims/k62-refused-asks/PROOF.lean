import PyProof.Rows.All
import Wide.All
import OpenK.AllK
import Wide.FinOn
import KE.KStateDown
import Lean
import HandS.Base
import HandS.Call
import HandS.Ends
import HandS.More
import HandS.Words
import HandS.WordsExc
import HandS.Defaults
import HandS.Head0
import HandS.Head1
import HandS.Head2
import HandS.HeadEnd
import HandS.HeadHook1
import HandS.HeadHook2
import HandS.HeadHook3
import HandS.HeadHook4
import PySem.Challenge.RW_dashlines_k62_refused_asks
import HandS.ForMost
import HandS.ForExc
import HandS.IsInst
import HandS.ExcIs
import HandS.ExcValue
import HandS.TupAny
import HandS.TupMul
import HandS.Style
import KE.KEqNest
import PyProof.StrOps2
import HandS.Deep
import HandS.ListItems
import HandS.Text
import KE.KDictZip
import KE.KItemsList
import HandS.GenList
set_option Elab.async false
set_option linter.all false
set_option maxRecDepth 100000
set_option maxHeartbeats 0
section S_La
set_option maxHeartbeats 0
/-! # L3: what a def computes, as a function of data. The heap's frozen part F holds data; what a def owns is its slots' own; the rest stands. -/
namespace L3
open PySem PySem.Spec PyProof.Rows L2

/-! ### data -/
/-- the kinds of refusals -/
inductive Ex where
  | worth | text | path | choice | many | deeds | name | ask
  deriving DecidableEq
inductive D where
  | non | bl (b : Bool) | int (i : Int) | str (s : Str)
  | lst (ds : List D) | tup (ds : List D)
  | dic (ks : List (Key × D)) | dit (ks : List (List Key × D))
  | scr (ns : List Int) | ty (n : String)
  | exn (c : Ex) | cl (c : Ex) | ptr (a : Addr)
  deriving Inhabited
abbrev Fg := PySem.W.Frag
def exNm : Ex → Str
  | .worth => "BadWorth" | .text => "BadText" | .path => "BadPath" | .choice => "BadChoice" | .many => "TooMany" | .deeds => "BadDeeds" | .name => "NoName" | .ask => "BadAsk"
/-- where the classes of refusals stand -/
def clsU (K : Fg) (c : Ex) : Addr := He.ga K (exNm c)
/-- an exception object of the class cls at a -/
def ExV (cls : Value) (a : Addr) : HO := .ext fun h => ∃ (oe : Obj) (vs : Array Value), h.get? a = some oe ∧ Zc cls none oe ∧ oe.data = .fields vs
mutual
/-- the value v stands for the datum, its objects in F -/
def Rep (K : Fg) (F : Hp) : D → V → Prop
  | .non, v => v = .non
  | .bl b, v => v = .bl b
  | .int i, v => v = .int i
  | .str s, v => v = .str s
  | .lst ds, v => ∃ p vs, v = .ref p ∧ F p = some (.lst vs) ∧ Reps K F ds vs
  | .tup ds, v => ∃ p vs, v = .ref p ∧ F p = some (.tup vs) ∧ Reps K F ds vs
  | .dic ks, v => ∃ p kvs, v = .ref p ∧ F p = some (.dK kvs) ∧ RepK K F ks kvs
  | .dit ks, v => ∃ p kvs, v = .ref p ∧ F p = some (.dT kvs) ∧ RepT K F ks kvs
  | .scr ns, v => ∃ p, v = .ref p ∧ SqL K F p (ns.map V.int)
  | .ty n, v => v = .ty n
  | .exn c, v => ∃ p, v = .ref p ∧ F p = some (ExV (.ref (clsU K c)) p)
  | .cl c, v => v = .ref (clsU K c)
  | .ptr a, v => v = .ref a
def Reps (K : Fg) (F : Hp) : List D → List V → Prop
  | [], vs => vs = []
  | d :: ds, vs => ∃ v r, vs = v :: r ∧ Rep K F d v ∧ Reps K F ds r
def RepK (K : Fg) (F : Hp) : List (Key × D) → List (Key × V) → Prop
  | [], vs => vs = []
  | (k, d) :: ds, vs => ∃ v r, vs = (k, v) :: r ∧ Rep K F d v ∧ RepK K F ds r
def RepT (K : Fg) (F : Hp) : List (List Key × D) → List (List Key × V) → Prop
  | [], vs => vs = []
  | (k, d) :: ds, vs => ∃ v r, vs = (k, v) :: r ∧ Rep K F d v ∧ RepT K F ds r
end
/-- more is frozen -/
def Gr (F F' : Hp) : Prop := ∀ a u, F a = some u → F' a = some u
theorem Gr.refl (F : Hp) : Gr F F := fun _ _ h => h
theorem Gr.trans {F F1 F2 : Hp} (a : Gr F F1) (b : Gr F1 F2) : Gr F F2 := fun x u h => b x u (a x u h)
theorem Gr.upd {F : Hp} {p : Addr} {o : HO} (h : F p = none) : Gr F (upd F p o) := fun a u e => by
  rw [upd_ne (ne_of_none e h)]
  exact e
theorem Gr.rd {F F' : Hp} (g : Gr F F') {a : Addr} {u : HO} (h : Rd F a u) : Rd F' a u := by
  rcases h with h | ⟨o, h⟩
  · exact .inl (g _ _ h)
  · exact .inr ⟨o, g _ _ h⟩
theorem Gr.seq {K : Fg} {F F' : Hp} (g : Gr F F') {a : Addr} {xs : List V} (h : SqL K F a xs) : SqL K F' a xs := by
  rcases h with h | h
  · exact .inl (g.rd h)
  · exact .inr h
mutual
theorem Rep.mono {K : Fg} {F F' : Hp} (g : Gr F F') : ∀ (d : D) {v : V}, Rep K F d v → Rep K F' d v
  | .non, _, h => h
  | .bl _, _, h => h
  | .int _, _, h => h
  | .str _, _, h => h
  | .lst ds, _, h => by obtain ⟨p, vs, e, h1, h2⟩ := h; exact ⟨p, vs, e, g _ _ h1, Reps.mono g ds h2⟩
  | .tup ds, _, h => by obtain ⟨p, vs, e, h1, h2⟩ := h; exact ⟨p, vs, e, g _ _ h1, Reps.mono g ds h2⟩
  | .dic ds, _, h => by obtain ⟨p, vs, e, h1, h2⟩ := h; exact ⟨p, vs, e, g _ _ h1, RepK.mono g ds h2⟩
  | .dit ds, _, h => by obtain ⟨p, vs, e, h1, h2⟩ := h; exact ⟨p, vs, e, g _ _ h1, RepT.mono g ds h2⟩
  | .scr ns, _, h => by obtain ⟨p, e, h1⟩ := h; exact ⟨p, e, g.seq h1⟩
  | .ty _, _, h => h
  | .exn _, _, h => by obtain ⟨p, e, h1⟩ := h; exact ⟨p, e, g _ _ h1⟩
  | .cl _, _, h => h
  | .ptr _, _, h => h
theorem Reps.mono {K : Fg} {F F' : Hp} (g : Gr F F') : ∀ (ds : List D) {vs : List V}, Reps K F ds vs → Reps K F' ds vs
  | [], _, h => h
  | d :: ds, _, h => by obtain ⟨v, r, e, h1, h2⟩ := h; exact ⟨v, r, e, Rep.mono g d h1, Reps.mono g ds h2⟩
theorem RepK.mono {K : Fg} {F F' : Hp} (g : Gr F F') : ∀ (ds : List (Key × D)) {vs : List (Key × V)}, RepK K F ds vs → RepK K F' ds vs
  | [], _, h => h
  | (k, d) :: ds, _, h => by obtain ⟨v, r, e, h1, h2⟩ := h; exact ⟨v, r, e, Rep.mono g d h1, RepK.mono g ds h2⟩
theorem RepT.mono {K : Fg} {F F' : Hp} (g : Gr F F') : ∀ (ds : List (List Key × D)) {vs : List (List Key × V)}, RepT K F ds vs → RepT K F' ds vs
  | [], _, h => h
  | (k, d) :: ds, _, h => by obtain ⟨v, r, e, h1, h2⟩ := h; exact ⟨v, r, e, Rep.mono g d h1, RepT.mono g ds h2⟩
end
/-! ### worlds -/
/-- the frozen part stands in the heap; a dict may be locked -/
def Sub (F H : Hp) : Prop := ∀ a u, F a = some u → H a = some u ∨ (((∃ k, u = .dK k) ∨ ∃ k, u = .dT k) ∧ ∃ o, H a = some (.frz o u))
theorem Sub.ex {F H : Hp} (s : Sub F H) {a : Addr} {u : HO} (h : F a = some u) : ∃ u', H a = some u' := by
  rcases s a u h with h | ⟨_, o, h⟩ <;> exact ⟨_, h⟩
theorem Sub.lst {F H : Hp} (s : Sub F H) {a : Addr} {vs : List V} (h : F a = some (.lst vs)) : H a = some (.lst vs) := by
  rcases s a _ h with h | ⟨⟨_, h⟩ | ⟨_, h⟩, _⟩
  · exact h
  · cases h
  · cases h
theorem Sub.tup {F H : Hp} (s : Sub F H) {a : Addr} {vs : List V} (h : F a = some (.tup vs)) : H a = some (.tup vs) := by
  rcases s a _ h with h | ⟨⟨_, h⟩ | ⟨_, h⟩, _⟩
  · exact h
  · cases h
  · cases h
theorem Sub.frz {F H : Hp} (s : Sub F H) {a : Addr} {o : Obj} {u : HO} (h : F a = some (.frz o u)) : H a = some (.frz o u) := by
  rcases s a _ h with h | ⟨⟨_, h⟩ | ⟨_, h⟩, _⟩
  · exact h
  · cases h
  · cases h
theorem Sub.exn {F H : Hp} (s : Sub F H) {a : Addr} {c : Value} (h : F a = some (ExV c a)) : H a = some (ExV c a) := by
  rcases s a _ h with h | ⟨⟨_, h⟩ | ⟨_, h⟩, _⟩
  · exact h
  · cases h
  · cases h
theorem Sub.dK {F H : Hp} (s : Sub F H) {a : Addr} {vs} (h : F a = some (.dK vs)) : Rd H a (.dK vs) := by
  rcases s a _ h with h | ⟨_, o, h⟩
  · exact .inl h
  · exact .inr ⟨o, h⟩
theorem Sub.dT {F H : Hp} (s : Sub F H) {a : Addr} {vs} (h : F a = some (.dT vs)) : Rd H a (.dT vs) := by
  rcases s a _ h with h | ⟨_, o, h⟩
  · exact .inl h
  · exact .inr ⟨o, h⟩
theorem Sub.seq {K : Fg} {F H : Hp} (s : Sub F H) {a : Addr} {xs : List V} (h : SqL K F a xs) : SqL K H a xs := by
  rcases h with (h | ⟨o, h⟩) | h
  · exact .inl (.inl (s.lst h))
  · exact .inl (.inr ⟨o, s.frz h⟩)
  · exact .inr h
/-- from one world to another: what is frozen stays, what is not owned (O) stays -/
structure Stp (O : List Addr) (F H F' H' : Hp) : Prop where
  gr : Gr F F'
  sub : Sub F' H'
  kp : ∀ a u, H a = some u → a ∉ O → H' a = some u
  al : ∀ a u, H a = some u → ∃ u', H' a = some u'
  nw : ∀ a u, F' a = some u → (∃ u, F a = some u) ∨ H a = none ∨ a ∈ O
theorem Stp.refl {O : List Addr} {F H : Hp} (s : Sub F H) : Stp O F H F H := ⟨Gr.refl F, s, fun _ _ h _ => h, fun _ _ h => ⟨_, h⟩, fun _ _ h => .inl ⟨_, h⟩⟩
theorem Stp.back {O : List Addr} {F H F' H' : Hp} (s : Stp O F H F' H') {a : Addr} (h : H' a = none) : H a = none := by
  cases e : H a with
  | none => rfl
  | some u =>
    obtain ⟨u', q⟩ := s.al a u e
    rw [h] at q; cases q
theorem Stp.trans {O O1 : List Addr} {F H F1 H1 F2 H2 : Hp} (s : Stp O F H F1 H1) (t : Stp O1 F1 H1 F2 H2) (h : ∀ a ∈ O1, a ∈ O ∨ H a = none) : Stp O F H F2 H2 where
  gr := s.gr.trans t.gr
  sub := t.sub
  kp := fun a u e n => t.kp a u (s.kp a u e n) fun z => by
    rcases h a z with q | q
    · exact n q
    · rw [e] at q; cases q
  al := fun a u e => by obtain ⟨u', q⟩ := s.al a u e; exact t.al a u' q
  nw := fun a u e => by
    rcases t.nw a u e with ⟨u', q⟩ | q | q
    · exact s.nw a u' q
    · exact .inr (.inl (s.back q))
    · rcases h a q with q | q
      · exact .inr (.inr q)
      · exact .inr (.inl q)
theorem Stp.weak {O O1 : List Addr} {F H F' H' : Hp} (s : Stp O F H F' H') (h : ∀ a ∈ O, a ∈ O1 ∨ H a = none) : Stp O1 F H F' H' where
  gr := s.gr
  sub := s.sub
  kp := fun a u e n => s.kp a u e fun z => by
    rcases h a z with q | q
    · exact n q
    · rw [e] at q; cases q
  al := s.al
  nw := fun a u e => by
    rcases s.nw a u e with q | q | q
    · exact .inl q
    · exact .inr (.inl q)
    · rcases h a q with q | q
      · exact .inr (.inr q)
      · exact .inr (.inl q)
/-- a new object is laid, frozen at once -/
theorem Stp.lay {O : List Addr} {F H : Hp} (s : Sub F H) {p : Addr} {o : HO} (h : H p = none) : Stp O F H (upd F p o) (upd H p o) := by
  have hF : F p = none := by
    cases e : F p with
    | none => rfl
    | some u => obtain ⟨u', q⟩ := s.ex e; rw [h] at q; cases q
  refine ⟨Gr.upd hF, fun a u e => ?_, fun a u e _ => by rw [upd_ne (ne_of_none e h)]; exact e, fun a u e => ⟨u, by rw [upd_ne (ne_of_none e h)]; exact e⟩, fun a u e => ?_⟩
  · by_cases ha : a = p
    · subst ha; rw [upd_same] at e; cases e; exact .inl upd_same
    · rw [upd_ne ha] at e
      rw [upd_ne ha]
      exact s a u e
  · by_cases ha : a = p
    · subst ha; exact .inr (.inl h)
    · rw [upd_ne ha] at e; exact .inl ⟨u, e⟩
/-- a new object is laid, not frozen -/
theorem Stp.new {O : List Addr} {F H : Hp} (s : Sub F H) {p : Addr} {o : HO} (h : H p = none) : Stp O F H F (upd H p o) := by
  refine ⟨Gr.refl F, fun a u e => ?_, fun a u e _ => by rw [upd_ne (ne_of_none e h)]; exact e, fun a u e => ⟨u, by rw [upd_ne (ne_of_none e h)]; exact e⟩, fun a u e => .inl ⟨u, e⟩⟩
  have ha : a ≠ p := by
    intro z; subst z
    obtain ⟨u', q⟩ := s.ex e
    rw [h] at q; cases q
  rw [upd_ne ha]
  exact s a u e
/-- an owned object is frozen -/
theorem Stp.frz {O : List Addr} {F H : Hp} (s : Sub F H) {p : Addr} {o : HO} (h : H p = some o) (hF : F p = none) (hO : p ∈ O) : Stp O F H (upd F p o) H := by
  refine ⟨Gr.upd hF, fun a u e => ?_, fun _ _ e _ => e, fun a u e => ⟨u, e⟩, fun a u e => ?_⟩
  · by_cases ha : a = p
    · subst ha; rw [upd_same] at e; cases e; exact .inl h
    · rw [upd_ne ha] at e; exact s a u e
  · by_cases ha : a = p
    · subst ha; exact .inr (.inr hO)
    · rw [upd_ne ha] at e; exact .inl ⟨u, e⟩
/-- an owned object is changed -/
theorem Stp.mut {O : List Addr} {F H : Hp} (s : Sub F H) {p : Addr} {o : HO} (hF : F p = none) (hO : p ∈ O) : Stp O F H F (upd H p o) := by
  refine ⟨Gr.refl F, fun a u e => ?_, fun a u e n => ?_, fun a u e => ?_, fun a u e => .inl ⟨u, e⟩⟩
  · rw [upd_ne (ne_of_none e hF)]; exact s a u e
  · have ha : a ≠ p := fun z => n (z ▸ hO)
    rw [upd_ne ha]; exact e
  · by_cases ha : a = p
    · subst ha; exact ⟨o, upd_same⟩
    · exact ⟨u, by rw [upd_ne ha]; exact e⟩
theorem Sub.none {F H : Hp} (s : Sub F H) {p : Addr} (h : H p = none) : F p = Option.none := by
  cases e : F p with
  | none => rfl
  | some u => obtain ⟨u', q⟩ := s.ex e; rw [h] at q; cases q
/-! ### what a slot holds -/
inductive Ent where
  | no | fz (d : D) | ow (d : D)
  deriving Inhabited
inductive Vl where
  | fz (d : D) | ow (d : D) | pl (i : Nat)
  deriving Inhabited
abbrev En := List Ent
/-- an object of one's own at a -/
def OwnAt (K : Fg) (F H : Hp) (a : Addr) : D → Prop
  | .lst ds => ∃ vs, H a = some (.lst vs) ∧ Reps K F ds vs
  | .dic ks => ∃ kvs, H a = some (.dK kvs) ∧ RepK K F ks kvs
  | .dit ks => ∃ kvs, H a = some (.dT kvs) ∧ RepT K F ks kvs
  | _ => False
def SlotR (K : Fg) (F H : Hp) : Option V → Ent → Prop
  | _, .no => True
  | o, .fz d => ∃ v, o = some v ∧ Rep K F d v
  | o, .ow d => ∃ a, o = some (.ref a) ∧ F a = none ∧ OwnAt K F H a d
def EnvR (K : Fg) (F H : Hp) : List (Option V) → En → Prop
  | [], [] => True
  | o :: σ, e :: env => SlotR K F H o e ∧ EnvR K F H σ env
  | _, _ => False
def slotA : Option V → Ent → List Addr
  | some (.ref a), .ow _ => [a]
  | _, _ => []
def ownA : List (Option V) → En → List Addr
  | o :: σ, e :: env => slotA o e ++ ownA σ env
  | _, _ => []
def EntLe : Ent → Ent → Prop
  | .ow _, .ow _ => True
  | .ow _, .fz _ => True
  | a, b => a = b
theorem EntLe.refl (e : Ent) : EntLe e e := by cases e <;> first | trivial | rfl
theorem EntLe.trans {a b c : Ent} (h : EntLe a b) (k : EntLe b c) : EntLe a c := by
  cases a with
  | no => cases h; exact k
  | fz d => cases h; exact k
  | ow d =>
    cases b with
    | no => cases h
    | fz d' => cases k; trivial
    | ow d' => cases c <;> first | trivial | cases k
def EnvLe : En → En → Prop
  | [], [] => True
  | a :: x, b :: y => EntLe a b ∧ EnvLe x y
  | _, _ => False
theorem EnvLe.refl : ∀ e : En, EnvLe e e
  | [] => trivial
  | a :: x => ⟨EntLe.refl a, EnvLe.refl x⟩
theorem EnvLe.trans : ∀ {a b c : En}, EnvLe a b → EnvLe b c → EnvLe a c
  | [], [], [], _, _ => trivial
  | _ :: _, _ :: _, _ :: _, h, k => ⟨h.1.trans k.1, EnvLe.trans h.2 k.2⟩
  | [], [], _ :: _, _, k => k.elim
  | [], _ :: _, _, h, _ => h.elim
  | _ :: _, [], _, h, _ => h.elim
  | _ :: _, _ :: _, [], _, k => k.elim
theorem EnvLe.len : ∀ {a b : En}, EnvLe a b → b.length = a.length
  | [], [], _ => rfl
  | _ :: _, _ :: _, h => by simp [EnvLe.len h.2]
  | [], _ :: _, h => h.elim
  | _ :: _, [], h => h.elim
theorem EnvLe.sub : ∀ {σ : List (Option V)} {a b : En}, EnvLe a b → List.Sublist (ownA σ b) (ownA σ a)
  | [], _, _, _ => by simp [ownA]
  | o :: σ, [], [], _ => by simp [ownA]
  | o :: σ, a :: x, b :: y, h => by
    refine List.Sublist.append ?_ (EnvLe.sub h.2)
    have h1 := h.1
    cases a with
    | no => cases h1; exact List.Sublist.refl _
    | fz d => cases h1; exact List.Sublist.refl _
    | ow d =>
      cases b with
      | no => cases h1
      | fz d' => cases o with
        | none => simp [slotA]
        | some v => cases v <;> simp [slotA]
      | ow d' => cases o with
        | none => simp [slotA]
        | some v => cases v <;> simp [slotA]
  | o :: σ, [], _ :: _, h => h.elim
  | o :: σ, _ :: _, [], h => h.elim
theorem EnvLe.mem {σ : List (Option V)} {a b : En} (h : EnvLe a b) {p : Addr} (hp : p ∈ ownA σ b) : p ∈ ownA σ a := (EnvLe.sub h).subset hp
section
variable {K : Fg} {F H F' H' : Hp} {O : List Addr}
theorem OwnAt.ex {a : Addr} : ∀ {d : D}, OwnAt K F H a d → ∃ o, H a = some o
  | .lst _, ⟨_, h, _⟩ => ⟨_, h⟩
  | .dic _, ⟨_, h, _⟩ => ⟨_, h⟩
  | .dit _, ⟨_, h, _⟩ => ⟨_, h⟩
theorem OwnAt.mono (g : Gr F F') {a : Addr} (hk : ∀ u, H a = some u → H' a = some u) : ∀ {d : D}, OwnAt K F H a d → OwnAt K F' H' a d
  | .lst _, ⟨_, h, r⟩ => ⟨_, hk _ h, Reps.mono g _ r⟩
  | .dic _, ⟨_, h, r⟩ => ⟨_, hk _ h, RepK.mono g _ r⟩
  | .dit _, ⟨_, h, r⟩ => ⟨_, hk _ h, RepT.mono g _ r⟩
theorem Stp.ownAt (s : Stp O F H F' H') {a : Addr} {d : D} (n : a ∉ O) (hF : F a = none) (h : OwnAt K F H a d) : F' a = none ∧ OwnAt K F' H' a d := by
  refine ⟨?_, h.mono s.gr fun u e => s.kp a u e n⟩
  cases e : F' a with
  | none => rfl
  | some u =>
    obtain ⟨o, ho⟩ := h.ex
    rcases s.nw a u e with ⟨_, q⟩ | q | q
    · rw [hF] at q; cases q
    · rw [ho] at q; cases q
    · exact (n q).elim
theorem SlotR.keep (s : Stp O F H F' H') {o : Option V} : ∀ {e : Ent}, SlotR K F H o e → (∀ a ∈ slotA o e, a ∉ O) → SlotR K F' H' o e
  | .no, _, _ => trivial
  | .fz d, ⟨v, e, r⟩, _ => ⟨v, e, Rep.mono s.gr d r⟩
  | .ow d, ⟨a, e, hF, r⟩, n => by
    subst e
    obtain ⟨h1, h2⟩ := s.ownAt (n a (by simp [slotA])) hF r
    exact ⟨a, rfl, h1, h2⟩
theorem EnvR.keep (s : Stp O F H F' H') : ∀ {σ : List (Option V)} {env : En}, EnvR K F H σ env → (∀ a ∈ ownA σ env, a ∉ O) → EnvR K F' H' σ env
  | [], [], _, _ => trivial
  | o :: σ, e :: env, h, n => ⟨h.1.keep s fun a ha => n a (List.mem_append_left _ ha), EnvR.keep s h.2 fun a ha => n a (List.mem_append_right _ ha)⟩
  | [], _ :: _, h, _ => h.elim
  | _ :: _, [], h, _ => h.elim
theorem EnvR.len : ∀ {σ : List (Option V)} {env : En}, EnvR K F H σ env → σ.length = env.length
  | [], [], _ => rfl
  | o :: σ, e :: env, h => by simp [EnvR.len h.2]
  | [], _ :: _, h => h.elim
  | _ :: _, [], h => h.elim
theorem EnvR.get : ∀ {σ : List (Option V)} {env : En} {i : Nat} {e : Ent}, EnvR K F H σ env → env[i]? = some e → ∃ o, σ[i]? = some o ∧ SlotR K F H o e ∧ ∀ a ∈ slotA o e, a ∈ ownA σ env
  | [], [], _, _, _, q => by simp at q
  | o :: σ, e :: env, 0, e', h, q => by
    have q' : e = e' := by simpa using q
    subst q'
    exact ⟨o, rfl, h.1, fun a ha => List.mem_append_left _ ha⟩
  | o :: σ, e :: env, i + 1, e', h, q => by
    obtain ⟨o', h1, h2, h3⟩ := EnvR.get (i := i) (e := e') h.2 (by simpa using q)
    exact ⟨o', by simpa using h1, h2, fun a ha => List.mem_append_right _ (h3 a ha)⟩
  | [], _ :: _, _, _, h, _ => h.elim
  | _ :: _, [], _, _, h, _ => h.elim
theorem EnvR.owned : ∀ {σ : List (Option V)} {env : En} {a : Addr}, EnvR K F H σ env → a ∈ ownA σ env → F a = none ∧ ∃ o, H a = some o
  | [], [], _, _, h => by simp [ownA] at h
  | o :: σ, e :: env, a, h, ha => by
    rcases List.mem_append.mp ha with ha | ha
    · cases e with
      | no => cases o with
        | none => simp [slotA] at ha
        | some v => cases v <;> simp [slotA] at ha
      | fz d => cases o with
        | none => simp [slotA] at ha
        | some v => cases v <;> simp [slotA] at ha
      | ow d =>
        obtain ⟨b, e, hF, r⟩ := h.1
        subst e
        have : a = b := by simpa [slotA] using ha
        subst this
        exact ⟨hF, r.ex⟩
    · exact EnvR.owned h.2 ha
  | [], _ :: _, _, h, _ => h.elim
  | _ :: _, [], _, h, _ => h.elim
end
end L3
end S_La
section S_Lb
set_option maxHeartbeats 0
namespace L3
open PySem PySem.Spec PyProof.Rows L2
/-! ### slots changed -/
section
variable {K : Fg} {F H F' H' : Hp} {O : List Addr}
theorem slotA_one (o : Option V) (e : Ent) : slotA o e = [] ∨ ∃ a d, slotA o e = [a] ∧ o = some (.ref a) ∧ e = .ow d := by
  cases e with
  | no => cases o with
    | none => exact .inl rfl
    | some v => cases v <;> exact .inl rfl
  | fz d => cases o with
    | none => exact .inl rfl
    | some v => cases v <;> exact .inl rfl
  | ow d => cases o with
    | none => exact .inl rfl
    | some v => cases v <;> first | exact .inl rfl | exact .inr ⟨_, _, rfl, rfl, rfl⟩
theorem EnvR.set (s : Stp O F H F' H') : ∀ {σ : List (Option V)} {env : En} {i : Nat} {o o' : Option V} {e e' : Ent}, EnvR K F H σ env → (ownA σ env).Nodup → σ[i]? = some o → env[i]? = some e → (∀ p ∈ O, p ∈ slotA o e ∨ p ∉ ownA σ env) → SlotR K F' H' o' e' →
    EnvR K F' H' (σ.set i o') (env.set i e')
  | [], [], _, _, _, _, _, _, _, q, _, _, _ => by simp at q
  | o :: σ, e :: env, 0, o0, o', e0, e', h, nd, q1, q2, hO, new => by
    have q1' : o = o0 := by simpa using q1
    have q2' : e = e0 := by simpa using q2
    subst q1' q2'
    obtain ⟨_, _, dj⟩ := List.nodup_append.mp nd
    refine ⟨new, h.2.keep s fun a ha hO' => ?_⟩
    rcases hO a hO' with z | z
    · exact dj a z a ha rfl
    · exact z (List.mem_append_right _ ha)
  | o :: σ, e :: env, i + 1, o0, o', e0, e', h, nd, q1, q2, hO, new => by
    obtain ⟨_, n2, dj⟩ := List.nodup_append.mp nd
    have q1' : σ[i]? = some o0 := by simpa using q1
    have q2' : env[i]? = some e0 := by simpa using q2
    obtain ⟨o1, g1, _, g3⟩ := EnvR.get h.2 q2'
    rw [q1'] at g1; cases g1
    refine ⟨h.1.keep s fun a ha hO' => ?_, EnvR.set s h.2 n2 q1' q2' (fun p hp => ?_) new⟩
    · rcases hO a hO' with z | z
      · exact dj a ha a (g3 a z) rfl
      · exact z (List.mem_append_left _ ha)
    · rcases hO p hp with z | z
      · exact .inl z
      · exact .inr fun y => z (List.mem_append_right _ y)
  | [], _ :: _, _, _, _, _, _, h, _, _, _, _, _ => h.elim
  | _ :: _, [], _, _, _, _, _, h, _, _, _, _, _ => h.elim
theorem ownA_set_sub : ∀ {σ : List (Option V)} {env : En} {i : Nat} {o' : Option V} {e' : Ent} {p : Addr}, p ∈ ownA (σ.set i o') (env.set i e') → p ∈ ownA σ env ∨ p ∈ slotA o' e'
  | [], _, _, _, _, _, h => by simp [ownA] at h
  | o :: σ, [], _, _, _, _, h => by simp [ownA] at h
  | o :: σ, e :: env, 0, o', e', p, h => by
    have h' : p ∈ slotA o' e' ++ ownA σ env := h
    rcases List.mem_append.mp h' with h | h
    · exact .inr h
    · exact .inl (List.mem_append_right _ h)
  | o :: σ, e :: env, i + 1, o', e', p, h => by
    have h' : p ∈ slotA o e ++ ownA (σ.set i o') (env.set i e') := h
    rcases List.mem_append.mp h' with h | h
    · exact .inl (List.mem_append_left _ h)
    · rcases ownA_set_sub h with q | q
      · exact .inl (List.mem_append_right _ q)
      · exact .inr q
theorem slotA_nodup (o : Option V) (e : Ent) : (slotA o e).Nodup := by
  rcases slotA_one o e with h | ⟨a, d, h, _⟩ <;> rw [h] <;> simp
theorem slotA_mem_own : ∀ {σ : List (Option V)} {env : En} {i : Nat} {o : Option V} {e : Ent} {p : Addr}, σ[i]? = some o → env[i]? = some e → p ∈ slotA o e → p ∈ ownA σ env
  | [], _, _, _, _, _, h, _, _ => by simp at h
  | o :: σ, [], _, _, _, _, _, h, _ => by simp at h
  | o :: σ, e :: env, 0, o', e', p, h1, h2, h => by
    have h1' : o = o' := by simpa using h1
    have h2' : e = e' := by simpa using h2
    subst h1' h2'
    exact List.mem_append_left _ h
  | o :: σ, e :: env, i + 1, o', e', p, h1, h2, h => List.mem_append_right _ (slotA_mem_own (i := i) (by simpa using h1) (by simpa using h2) h)
theorem ownA_set_nodup : ∀ {σ : List (Option V)} {env : En} {i : Nat} {o o' : Option V} {e e' : Ent}, (ownA σ env).Nodup → σ[i]? = some o → env[i]? = some e → (∀ p ∈ slotA o' e', p ∈ slotA o e ∨ p ∉ ownA σ env) → (ownA (σ.set i o') (env.set i e')).Nodup
  | [], _, _, _, _, _, _, _, h, _, _ => by simp at h
  | o :: σ, [], _, _, _, _, _, _, _, h, _ => by simp at h
  | o :: σ, e :: env, 0, o0, o', e0, e', nd, q1, q2, h => by
    have q1' : o = o0 := by simpa using q1
    have q2' : e = e0 := by simpa using q2
    subst q1' q2'
    obtain ⟨n1, n2, dj⟩ := List.nodup_append.mp nd
    show (slotA o' e' ++ ownA σ env).Nodup
    refine List.nodup_append.mpr ⟨slotA_nodup _ _, n2, fun a ha b hb z => ?_⟩
    subst z
    rcases h a ha with q | q
    · exact dj a q a hb rfl
    · exact q (List.mem_append_right _ hb)
  | o :: σ, e :: env, i + 1, o0, o', e0, e', nd, q1, q2, h => by
    obtain ⟨n1, n2, dj⟩ := List.nodup_append.mp nd
    have q1' : σ[i]? = some o0 := by simpa using q1
    have q2' : env[i]? = some e0 := by simpa using q2
    show (slotA o e ++ ownA (σ.set i o') (env.set i e')).Nodup
    refine List.nodup_append.mpr ⟨n1, ownA_set_nodup n2 q1' q2' fun p hp => ?_, fun a ha b hb z => ?_⟩
    · rcases h p hp with q | q
      · exact .inl q
      · exact .inr fun y => q (List.mem_append_right _ y)
    · subst z
      rcases ownA_set_sub hb with q | q
      · exact dj a ha a q rfl
      · rcases h a q with y | y
        · exact dj a ha a (slotA_mem_own q1' q2' y) rfl
        · exact y (List.mem_append_left _ ha)
end
/-! ### a world -/
structure Wd (K : Fg) (σ : L2.St) (env : En) (F H : Hp) : Prop where
  er : EnvR K F H σ env
  nd : (ownA σ env).Nodup
  sb : Sub F H
structure To (K : Fg) (σ : L2.St) (env : En) (F H : Hp) (env' : En) (F' H' : Hp) : Prop where
  st : Stp (ownA σ env) F H F' H'
  er : EnvR K F' H' σ env'
  le : EnvLe env env'
section
variable {K : Fg} {σ : L2.St} {env env' env2 : En} {F H F' H' F2 H2 : Hp}
theorem Wd.to (w : Wd K σ env F H) (t : To K σ env F H env' F' H') : Wd K σ env' F' H' := ⟨t.er, w.nd.sublist t.le.sub, t.st.sub⟩
theorem To.refl (w : Wd K σ env F H) : To K σ env F H env F H := ⟨Stp.refl w.sb, w.er, EnvLe.refl _⟩
theorem To.trans (a : To K σ env F H env' F' H') (b : To K σ env' F' H' env2 F2 H2) : To K σ env F H env2 F2 H2 :=
  ⟨a.st.trans b.st fun p hp => .inl (a.le.mem hp), b.er, a.le.trans b.le⟩
theorem Wd.own (w : Wd K σ env F H) {a : Addr} (h : a ∈ ownA σ env) : F a = none ∧ ∃ o, H a = some o := w.er.owned h
/-- a step that owns nothing of ours -/
theorem Wd.step {O : List Addr} (w : Wd K σ env F H) (s : Stp O F H F' H') (n : ∀ a ∈ O, H a = none) : To K σ env F H env F' H' := by
  refine ⟨s.weak fun a ha => .inr (n a ha), w.er.keep s fun a ha hO => ?_, EnvLe.refl _⟩
  obtain ⟨_, o, e⟩ := w.own ha
  rw [n a hO] at e; cases e
end
/-! ### values -/
def VR (K : Fg) (σ : L2.St) (env : En) (F H H0 : Hp) (v : V) : Vl → Prop
  | .fz d => Rep K F d v
  | .ow d => ∃ a, v = .ref a ∧ F a = none ∧ OwnAt K F H a d ∧ H0 a = none
  | .pl i => σ[i]? = some (some v) ∧ ∃ e, env[i]? = some e ∧ e ≠ .no
theorem EnvLe.get : ∀ {a b : En} {i : Nat} {e : Ent}, EnvLe a b → a[i]? = some e → ∃ e', b[i]? = some e' ∧ EntLe e e'
  | [], [], _, _, _, q => by simp at q
  | a :: x, b :: y, 0, e, h, q => by
    have q' : a = e := by simpa using q
    subst q'
    exact ⟨b, rfl, h.1⟩
  | a :: x, b :: y, i + 1, e, h, q => by
    obtain ⟨e', h1, h2⟩ := EnvLe.get (i := i) (e := e) h.2 (by simpa using q)
    exact ⟨e', by simpa using h1, h2⟩
  | [], _ :: _, _, _, h, _ => h.elim
  | _ :: _, [], _, _, h, _ => h.elim
section
variable {K : Fg} {σ : L2.St} {env env' env2 : En} {F H F' H' F2 H2 H0 H1 : Hp} {v : V}
/-- a value stays through what comes behind it -/
theorem VR.keep (t : To K σ env F H env' F' H') (hO : ∀ p ∈ ownA σ env, ∃ o, H0 p = some o) : ∀ {x : Vl}, VR K σ env F H H0 v x → VR K σ env' F' H' H0 v x
  | .fz d, h => Rep.mono t.st.gr d h
  | .ow d, ⟨a, e, hF, r, hn⟩ => by
    obtain ⟨h1, h2⟩ := t.st.ownAt (fun z => by obtain ⟨o, q⟩ := hO a z; rw [hn] at q; cases q) hF r
    exact ⟨a, e, h1, h2, hn⟩
  | .pl i, ⟨e, en, h1, h2⟩ => by
    obtain ⟨e', h3, h4⟩ := t.le.get h1
    refine ⟨e, e', h3, fun z => ?_⟩
    subst z
    cases en <;> first | exact h2 rfl | cases h4
theorem VR.earlier (h : ∀ a, H1 a = none → H0 a = none) : ∀ {x : Vl}, VR K σ env F H H1 v x → VR K σ env F H H0 v x
  | .fz d, q => q
  | .ow d, ⟨a, e, hF, r, hn⟩ => ⟨a, e, hF, r, h a hn⟩
  | .pl i, q => q
end
/-! ### outcomes -/
inductive Out (α : Type) where
  | ok (a : α) (e : En) | exc (x : Ex) (e : En) | stk
abbrev M (α : Type) := En → Out α
def ret {α : Type} (a : α) : M α := fun e => .ok a e
def mB {α β : Type} (m : M α) (f : α → M β) : M β := fun e => match m e with
  | .ok a e' => f a e'
  | .exc x e' => .exc x e'
  | .stk => .stk
def OutQ {α : Type} (o : Out α) (P : α → En → Prop) (Z : Ex → En → Prop) : Prop := match o with
  | .ok a e => P a e
  | .exc x e => Z x e
  | .stk => False
theorem OutQ.imp {α : Type} {o : Out α} {P P' : α → En → Prop} {Z Z' : Ex → En → Prop} (h : OutQ o P Z) (f : ∀ a e, P a e → P' a e) (g : ∀ x e, Z x e → Z' x e) : OutQ o P' Z' := by
  cases o with
  | ok a e => exact f a e h
  | exc x e => exact g x e h
  | stk => exact h
theorem OutQ.bind {α β : Type} {m : M α} {f : α → M β} {e : En} {P : β → En → Prop} {Z : Ex → En → Prop} (h : OutQ (mB m f e) P Z) : OutQ (m e) (fun a e' => OutQ (f a e') P Z) Z := by
  unfold mB at h
  cases q : m e with
  | ok a e' => rw [q] at h; exact h
  | exc x e' => rw [q] at h; exact h
  | stk => rw [q] at h; exact h
def peek (e : En) : Vl → Option D
  | .fz d => some d
  | .ow d => some d
  | .pl i => match e[i]? with
    | some (.fz d) => some d
    | some (.ow d) => some d
    | _ => none
def pk (x : Vl) : M D := fun e => match peek e x with
  | some d => .ok d e
  | none => .stk
/-- the datum as it may be stored: what is one's own is frozen -/
def frz (x : Vl) : M D := fun e => match x with
  | .fz d => .ok d e
  | .ow d => .ok d e
  | .pl i => match e[i]? with
    | some (.fz d) => .ok d e
    | some (.ow d) => .ok d (e.set i (.fz d))
    | _ => .stk
def lft {α : Type} (o : Option α) : M α := fun e => match o with
  | some a => .ok a e
  | none => .stk
theorem OutQ.pk {x : Vl} {e : En} {P : D → En → Prop} {Z : Ex → En → Prop} (h : OutQ (pk x e) P Z) : ∃ d, peek e x = some d ∧ P d e := by
  unfold L3.pk at h
  cases q : peek e x with
  | none => rw [q] at h; exact h.elim
  | some d => rw [q] at h; exact ⟨d, rfl, h⟩
theorem OutQ.lft {α : Type} {o : Option α} {e : En} {P : α → En → Prop} {Z : Ex → En → Prop} (h : OutQ (lft o e) P Z) : ∃ d, o = some d ∧ P d e := by
  unfold L3.lft at h
  cases o with
  | none => exact h.elim
  | some d => exact ⟨d, rfl, h⟩
/-- what may be read of a value as the heap stands: its own object in H, what is in it in F -/
def RB (K : Fg) (F H : Hp) : D → V → Prop
  | .lst ds, v => ∃ p vs, v = .ref p ∧ H p = some (.lst vs) ∧ Reps K F ds vs
  | .tup ds, v => ∃ p vs, v = .ref p ∧ H p = some (.tup vs) ∧ F p = some (.tup vs) ∧ Reps K F ds vs
  | .dic ks, v => ∃ p kvs, v = .ref p ∧ Rd H p (.dK kvs) ∧ RepK K F ks kvs
  | .dit ks, v => ∃ p kvs, v = .ref p ∧ Rd H p (.dT kvs) ∧ RepT K F ks kvs
  | .scr ns, v => ∃ p, v = .ref p ∧ SqL K H p (ns.map V.int)
  | .ty n, v => v = .ty n
  | .exn c, v => ∃ p, v = .ref p ∧ H p = some (ExV (.ref (clsU K c)) p)
  | .cl c, v => v = .ref (clsU K c)
  | .ptr a, v => v = .ref a
  | .non, v => v = .non
  | .bl b, v => v = .bl b
  | .int i, v => v = .int i
  | .str s, v => v = .str s
theorem Rep.rb {K : Fg} {F H : Hp} (s : Sub F H) : ∀ {d : D} {v : V}, Rep K F d v → RB K F H d v
  | .lst _, _, ⟨p, vs, e, h1, h2⟩ => ⟨p, vs, e, s.lst h1, h2⟩
  | .tup _, _, ⟨p, vs, e, h1, h2⟩ => ⟨p, vs, e, s.tup h1, h1, h2⟩
  | .dic _, _, ⟨p, vs, e, h1, h2⟩ => ⟨p, vs, e, s.dK h1, h2⟩
  | .dit _, _, ⟨p, vs, e, h1, h2⟩ => ⟨p, vs, e, s.dT h1, h2⟩
  | .scr _, _, ⟨p, e, h1⟩ => ⟨p, e, s.seq h1⟩
  | .ty _, _, h => h
  | .exn _, _, ⟨p, e, h1⟩ => ⟨p, e, s.exn h1⟩
  | .cl _, _, h => h
  | .ptr _, _, h => h
  | .non, _, h => h
  | .bl _, _, h => h
  | .int _, _, h => h
  | .str _, _, h => h
theorem OwnAt.rb {K : Fg} {F H : Hp} {a : Addr} : ∀ {d : D}, OwnAt K F H a d → RB K F H d (.ref a)
  | .lst _, ⟨vs, h1, h2⟩ => ⟨a, vs, rfl, h1, h2⟩
  | .dic _, ⟨vs, h1, h2⟩ => ⟨a, vs, rfl, .inl h1, h2⟩
  | .dit _, ⟨vs, h1, h2⟩ => ⟨a, vs, rfl, .inl h1, h2⟩
theorem VR.rb {K : Fg} {σ : L2.St} {env : En} {F H H0 : Hp} {v : V} (w : Wd K σ env F H) : ∀ {x : Vl} {d : D}, VR K σ env F H H0 v x → peek env x = some d → RB K F H d v
  | .fz d, d', h, q => by
    have q' : d = d' := by simpa [peek] using q
    subst q'
    exact Rep.rb w.sb h
  | .ow d, d', ⟨a, e, hF, r, hn⟩, q => by
    have q' : d = d' := by simpa [peek] using q
    subst q'
    subst e
    exact r.rb
  | .pl i, d', ⟨e, _⟩, q => by
    unfold peek at q
    cases z : env[i]? with
    | none => simp [z] at q
    | some en =>
      obtain ⟨o, h1, h2, _⟩ := w.er.get z
      rw [e] at h1; cases h1
      cases en with
      | no => simp [z] at q
      | fz d =>
        have q' : d = d' := by simpa [z] using q
        subst q'
        obtain ⟨v', e', r⟩ := h2
        cases e'
        exact Rep.rb w.sb r
      | ow d =>
        have q' : d = d' := by simpa [z] using q
        subst q'
        obtain ⟨a, e', hF, r⟩ := h2
        cases e'
        exact r.rb
theorem OwnAt.frz {K : Fg} {F H : Hp} {a : Addr} (hF : F a = none) : ∀ {d : D}, OwnAt K F H a d → ∃ o, H a = some o ∧ Rep K (upd F a o) d (.ref a)
  | .lst _, ⟨vs, h1, h2⟩ => ⟨_, h1, a, vs, rfl, upd_same, Reps.mono (Gr.upd hF) _ h2⟩
  | .dic _, ⟨vs, h1, h2⟩ => ⟨_, h1, a, vs, rfl, upd_same, RepK.mono (Gr.upd hF) _ h2⟩
  | .dit _, ⟨vs, h1, h2⟩ => ⟨_, h1, a, vs, rfl, upd_same, RepT.mono (Gr.upd hF) _ h2⟩
theorem EnvLe.set : ∀ {env : En} {i : Nat} {e e' : Ent}, env[i]? = some e → EntLe e e' → EnvLe env (env.set i e')
  | [], _, _, _, h, _ => by simp at h
  | a :: x, 0, e, e', h, l => by
    have h' : a = e := by simpa using h
    subst h'
    exact ⟨l, EnvLe.refl _⟩
  | a :: x, i + 1, e, e', h, l => ⟨EntLe.refl _, EnvLe.set (i := i) (by simpa using h) l⟩
theorem set_get {α : Type} : ∀ {l : List α} {i : Nat} {a : α}, l[i]? = some a → l.set i a = l
  | [], _, _, h => by simp at h
  | b :: r, 0, a, h => by
    have h' : b = a := by simpa using h
    subst h'; rfl
  | b :: r, i + 1, a, h => by
    show b :: r.set i a = b :: r
    rw [set_get (by simpa using h)]
/-- a value is frozen -/
theorem frz_ok {K : Fg} {σ : L2.St} {env : En} {F H H0 : Hp} {v : V} (w : Wd K σ env F H) {x : Vl} {P : D → En → Prop} {Z : Ex → En → Prop} (r : VR K σ env F H H0 v x) (h : OutQ (frz x env) P Z) (hO : ∀ a, H0 a = none → a ∉ ownA σ env) :
    ∃ d env' F', P d env' ∧ Rep K F' d v ∧ EnvR K F' H σ env' ∧ EnvLe env env' ∧ Gr F F' ∧ Sub F' H ∧ ∀ a u, F' a = some u → (∃ u, F a = some u) ∨ H0 a = none ∨ a ∈ ownA σ env := by
  cases x with
  | fz d => exact ⟨d, env, F, h, r, w.er, EnvLe.refl _, Gr.refl _, w.sb, fun a u e => .inl ⟨u, e⟩⟩
  | ow d =>
    obtain ⟨a, e, hF, r, hn⟩ := r
    subst e
    obtain ⟨o, ho, rp⟩ := r.frz hF
    have st : Stp [a] F H (upd F a o) H := Stp.frz w.sb ho hF (by simp)
    refine ⟨d, env, upd F a o, h, rp, w.er.keep st fun b hb hO' => ?_, EnvLe.refl _, st.gr, st.sub, fun b u e => ?_⟩
    · have : b = a := by simpa using hO'
      subst this
      exact hO b hn hb
    · by_cases hb : b = a
      · subst hb; exact .inr (.inl hn)
      · rw [upd_ne hb] at e; exact .inl ⟨u, e⟩
  | pl i =>
    obtain ⟨e, en, h1, h2⟩ := r
    simp only [frz, h1] at h
    obtain ⟨o, g1, g2, g3⟩ := w.er.get h1
    rw [e] at g1; cases g1
    cases en with
    | no => exact (h2 rfl).elim
    | fz d =>
      obtain ⟨v', e', r⟩ := g2
      cases e'
      exact ⟨d, env, F, h, r, w.er, EnvLe.refl _, Gr.refl _, w.sb, fun a u e => .inl ⟨u, e⟩⟩
    | ow d =>
      obtain ⟨a, e', hF, r⟩ := g2
      cases e'
      obtain ⟨ob, ho, rp⟩ := r.frz hF
      have st : Stp [a] F H (upd F a ob) H := Stp.frz w.sb ho hF (by simp)
      refine ⟨d, env.set i (.fz d), upd F a ob, h, rp, ?_, EnvLe.set h1 trivial, st.gr, st.sub, fun b u e => ?_⟩
      · have q := w.er.set (o' := some (.ref a)) (e' := .fz d) st w.nd e h1 (fun p hp => .inl (by simpa [slotA] using hp)) ⟨_, rfl, rp⟩
        rw [set_get e] at q
        exact q
      · by_cases hb : b = a
        · subst hb; exact .inr (.inr (g3 _ (by simp [slotA])))
        · rw [upd_ne hb] at e; exact .inl ⟨u, e⟩
/-! ### what a reading comes to -/
section
variable (K : Fg) (cls : Ex → Addr) (W : WX)
def Snd (te : TE) (m : M Vl) : Prop := ∀ (σ : L2.St) (env : En) (F H : Hp) (Q : VK), Wd K σ env F H →
  OutQ (m env) (fun x env' => ∀ F' H' v, To K σ env F H env' F' H' → VR K σ env' F' H' H v x → Q v H') (fun c env' => ∀ F' H', To K σ env F H env' F' H' → W (.ref (cls c)) none σ H') → te σ H Q
def SndT (tt : TT) (m : M Bool) : Prop := ∀ (σ : L2.St) (env : En) (F H : Hp) (Q : Bool → Hp → Prop), Wd K σ env F H →
  OutQ (m env) (fun x env' => ∀ F' H', To K σ env F H env' F' H' → Q x H') (fun c env' => ∀ F' H', To K σ env F H env' F' H' → W (.ref (cls c)) none σ H') → tt σ H Q
def vlE : Vl → Ent
  | .ow d => .ow d
  | _ => .no
/-- the own objects of a row of values -/
def tmpA : List V → List Vl → List Addr
  | v :: vs, x :: xs => slotA (some v) (vlE x) ++ tmpA vs xs
  | _, _ => []
def VRs (σ : L2.St) (env : En) (F H H0 : Hp) : List V → List Vl → Prop
  | [], [] => True
  | v :: vs, x :: xs => VR K σ env F H H0 v x ∧ VRs σ env F H H0 vs xs
  | _, _ => False
def SndA (ta : TA) (m : M (List Vl)) : Prop := ∀ (σ : L2.St) (env : En) (F H : Hp) (Q : List V → Hp → Prop), Wd K σ env F H →
  OutQ (m env) (fun xs env' => ∀ F' H' vs, To K σ env F H env' F' H' → VRs K σ env' F' H' H vs xs → (tmpA vs xs).Nodup → Q vs H') (fun c env' => ∀ F' H', To K σ env F H env' F' H' → W (.ref (cls c)) none σ H') → ta σ H Q
end
structure XE (X : Cx) (cls : Ex → Addr) (W : WX) (e : Expr) (te : TE) (m : M Vl) : Prop where
  pe : PE X e te
  snd : Snd X.K cls W te m
structure XT (X : Cx) (cls : Ex → Addr) (W : WX) (e : Expr) (tt : TT) (m : M Bool) : Prop where
  pt : PT X e tt
  snd : SndT X.K cls W tt m
structure XA (X : Cx) (cls : Ex → Addr) (W : WX) (es : List Expr) (ta : TA) (m : M (List Vl)) : Prop where
  pa : PA X es ta
  snd : SndA X.K cls W ta m
end L3
end S_Lb
section S_Lc
set_option maxHeartbeats 0
namespace L3
open PySem PySem.Spec PyProof.Rows L2
section
variable {K : Fg} {σ : L2.St} {env env' env2 : En} {F H F' H' F2 H2 H0 H1 : Hp} {v : V} {cls : Ex → Addr} {W : WX}
/-- a value is frozen, seen from where one began -/
theorem To.frz {e0 : En} {F0 : Hp} (w0 : Wd K σ e0 F0 H0) (t : To K σ e0 F0 H0 env F H) {x : Vl} {P : D → En → Prop} {Z : Ex → En → Prop} (r : VR K σ env F H H0 v x) (h : OutQ (frz x env) P Z) :
    ∃ d env' F', P d env' ∧ Rep K F' d v ∧ To K σ e0 F0 H0 env' F' H ∧ Gr F F' := by
  have hO : ∀ a, H0 a = none → a ∉ ownA σ env := fun a ha hm => by
    obtain ⟨_, o, q⟩ := w0.own (t.le.mem hm)
    rw [ha] at q; cases q
  obtain ⟨d, env', F', p, rp, er, le, gr, sub, nw⟩ := frz_ok (w0.to t) r h hO
  refine ⟨d, env', F', p, rp, ⟨⟨t.st.gr.trans gr, sub, t.st.kp, t.st.al, fun a u e => ?_⟩, er, t.le.trans le⟩, gr⟩
  rcases nw a u e with ⟨u', q⟩ | q | q
  · exact t.st.nw a u' q
  · exact .inr (.inl q)
  · exact .inr (.inr (t.le.mem q))
theorem Wd.ownNone (w : Wd K σ env F H) {a : Addr} (h : H a = none) : a ∉ ownA σ env := fun z => by
  obtain ⟨_, o, q⟩ := w.own z
  rw [h] at q; cases q
theorem Wd.ownEx (w : Wd K σ env F H) : ∀ p ∈ ownA σ env, ∃ o, H p = some o := fun p hp => (w.own hp).2
/-- a value stays behind another evaluation -/
theorem VR.on {e0 : En} {F0 : Hp} (w0 : Wd K σ e0 F0 H0) (t : To K σ e0 F0 H0 env F H) (t2 : To K σ env F H env' F' H') {x : Vl} (r : VR K σ env F H H0 v x) : VR K σ env' F' H' H0 v x :=
  r.keep t2 fun p hp => w0.ownEx p (t.le.mem hp)
theorem VR.since {e0 : En} {F0 : Hp} (t : To K σ e0 F0 H0 env F H) {x : Vl} (r : VR K σ env' F' H' H v x) : VR K σ env' F' H' H0 v x := r.earlier fun a ha => t.st.back ha

/-! ### names, constants -/
def dVar (i : Nat) : M Vl := fun e => match e[i]? with
  | some (.fz _) => .ok (.pl i) e
  | some (.ow _) => .ok (.pl i) e
  | _ => .stk
theorem snd_var (i : Nat) : Snd K cls W (tVar i) (dVar i) := by
  intro σ env F H Q w h
  unfold dVar at h
  cases q : env[i]? with
  | none => simp [q, OutQ] at h
  | some en =>
    obtain ⟨o, h1, h2, _⟩ := w.er.get q
    cases en with
    | no => simp [q, OutQ] at h
    | fz d =>
      simp only [q, OutQ] at h
      obtain ⟨v, e, r⟩ := h2
      subst e
      exact ⟨v, h1, h F H v (To.refl w) ⟨h1, _, q, by simp⟩⟩
    | ow d =>
      simp only [q, OutQ] at h
      obtain ⟨a, e, r⟩ := h2
      subst e
      exact ⟨_, h1, h F H _ (To.refl w) ⟨h1, _, q, by simp⟩⟩
def dC (d : D) : M Vl := ret (.fz d)
theorem snd_c {d : D} {x : V} (r : ∀ F, Rep K F d x) : Snd K cls W (tC x) (dC d) := by
  intro σ env F H Q w h
  exact h F H x (To.refl w) (r F)

/-! ### operators -/
/-- an operator on values does what f says of the data -/
def VR0 (K : Fg) (F H H0 : Hp) (v : V) : Vl → Prop
  | .fz d => Rep K F d v
  | .ow d => ∃ a, v = .ref a ∧ F a = none ∧ OwnAt K F H a d ∧ H0 a = none
  | .pl _ => False
theorem VR0.vr : ∀ {x : Vl}, VR0 K F H H0 v x → VR K σ env F H H0 v x
  | .fz _, h => h
  | .ow _, h => h
  | .pl _, h => h.elim
def OpD (K : Fg) (r : R2) (f : D → D → Option Vl) : Prop := ∀ (F H : Hp) (v w : V) (d e : D) (x : Vl), Sub F H → RB K F H d v → RB K F H e w → f d e = some x → ∀ Q : VK, (∀ F' H' u, Stp [] F H F' H' → VR0 K F' H' H u x → Q u H') → r v w H Q
def dOp (f : D → D → Option Vl) (m n : M Vl) : M Vl := mB m fun x => mB n fun y => mB (pk x) fun a => mB (pk y) fun b => lft (f a b)
theorem snd_op {r : R2} {f : D → D → Option Vl} {ta tb : TE} {m n : M Vl} (o : OpD K r f) (ha : Snd K cls W ta m) (hb : Snd K cls W tb n) : Snd K cls W (tOp r ta tb) (dOp f m n) := by
  intro σ env F H Q w h
  refine ha σ env F H _ w (h.bind.imp (fun x env1 h1 F1 H1 v t1 r1 => ?_) fun c env1 h1 => h1)
  refine hb σ env1 F1 H1 _ (w.to t1) (h1.bind.imp (fun y env2 h2 F2 H2 u t2 r2 => ?_) fun c env2 h2 F' H' t2 => h2 F' H' (t1.trans t2))
  obtain ⟨a, ea, h3⟩ := h2.bind.pk
  obtain ⟨b, eb, h4⟩ := h3.bind.pk
  obtain ⟨z, ez, h5⟩ := h4.lft
  have w2 := w.to (t1.trans t2)
  refine o F2 H2 v u a b z w2.sb ((r1.on w t1 t2).rb w2 ea) (r2.rb w2 eb) ez Q fun F3 H3 uu s3 r3 => ?_
  have t3 := w2.step s3 fun _ z => nomatch z
  exact h5 F3 H3 uu ((t1.trans t2).trans t3) (VR.since (t1.trans t2) r3.vr)
def UnD (K : Fg) (r : V → Hp → VK → Prop) (f : D → Option Vl) : Prop := ∀ (F H : Hp) (v : V) (d : D) (x : Vl), Sub F H → RB K F H d v → f d = some x → ∀ Q : VK, (∀ F' H' u, Stp [] F H F' H' → VR0 K F' H' H u x → Q u H') → r v H Q
def dUn (f : D → Option Vl) (m : M Vl) : M Vl := mB m fun x => mB (pk x) fun a => lft (f a)
theorem snd_un {r : V → Hp → VK → Prop} {f : D → Option Vl} {ta : TE} {m : M Vl} (o : UnD K r f) (ha : Snd K cls W ta m) : Snd K cls W (tUn r ta) (dUn f m) := by
  intro σ env F H Q w h
  refine ha σ env F H _ w (h.bind.imp (fun x env1 h1 F1 H1 v t1 r1 => ?_) fun c env1 h1 => h1)
  obtain ⟨a, ea, h4⟩ := h1.bind.pk
  obtain ⟨z, ez, h5⟩ := h4.lft
  have w2 := w.to t1
  refine o F1 H1 v a z w2.sb (r1.rb w2 ea) ez Q fun F3 H3 uu s3 r3 => ?_
  have t3 := w2.step s3 fun _ z => nomatch z
  exact h5 F3 H3 uu (t1.trans t3) (VR.since t1 r3.vr)
/-! ### tests -/
def dBool (m : M Vl) : M Bool := mB m fun x => mB (pk x) fun d => match d with
  | .bl b => ret b
  | _ => fun _ => .stk
theorem snd_test {te : TE} {m : M Vl} (h : Snd K cls W te m) : SndT K cls W (tTest te) (dBool m) := by
  intro σ env F H Q w q
  refine h σ env F H _ w (q.bind.imp (fun x env1 h1 F1 H1 v t1 r1 => ?_) fun c env1 h1 => h1)
  obtain ⟨a, ea, h4⟩ := h1.bind.pk
  cases a with
  | bl b =>
    have e : v = .bl b := r1.rb (w.to t1) ea
    exact ⟨b, e, h4 F1 H1 t1⟩
  | _ => exact h4.elim
theorem snd_tB {te : TE} {m : M Vl} (h : Snd K cls W te m) : SndT K cls W (tB te) (dBool m) := snd_test h
def dAnd (m n : M Bool) : M Bool := mB m fun b => if b = true then n else ret false
def dOr (m n : M Bool) : M Bool := mB m fun b => if b = true then ret true else n
def dNot (m : M Bool) : M Bool := mB m fun b => ret (!b)
theorem snd_and {t u : TT} {m n : M Bool} (h1 : SndT K cls W t m) (h2 : SndT K cls W u n) : SndT K cls W (tAnd t u) (dAnd m n) := by
  intro σ env F H Q w q
  refine h1 σ env F H _ w (q.bind.imp (fun b env1 h F1 H1 t1 => ?_) fun c env1 h1 => h1)
  cases b with
  | true => exact h2 σ env1 F1 H1 _ (w.to t1) (OutQ.imp (o := n env1) h (fun b env2 h F2 H2 t2 => h F2 H2 (t1.trans t2)) fun c env2 h F2 H2 t2 => h F2 H2 (t1.trans t2))
  | false => exact h F1 H1 t1
theorem snd_or {t u : TT} {m n : M Bool} (h1 : SndT K cls W t m) (h2 : SndT K cls W u n) : SndT K cls W (tOr t u) (dOr m n) := by
  intro σ env F H Q w q
  refine h1 σ env F H _ w (q.bind.imp (fun b env1 h F1 H1 t1 => ?_) fun c env1 h1 => h1)
  cases b with
  | false => exact h2 σ env1 F1 H1 _ (w.to t1) (OutQ.imp (o := n env1) h (fun b env2 h F2 H2 t2 => h F2 H2 (t1.trans t2)) fun c env2 h F2 H2 t2 => h F2 H2 (t1.trans t2))
  | true => exact h F1 H1 t1
theorem snd_not {t : TT} {m : M Bool} (h1 : SndT K cls W t m) : SndT K cls W (tNot t) (dNot m) := by
  intro σ env F H Q w q
  exact h1 σ env F H _ w (q.bind.imp (fun b env1 h F1 H1 t1 => h F1 H1 t1) fun c env1 h1 => h1)
/-- as values -/
def dAndV (m n : M Vl) : M Vl := mB (dBool m) fun b => if b = true then n else dC (.bl false)
def dOrV (m n : M Vl) : M Vl := mB (dBool m) fun b => if b = true then dC (.bl true) else n
def dNotV (m : M Vl) : M Vl := mB (dBool m) fun b => dC (.bl (!b))
theorem snd_bool {te : TE} {m : M Vl} (h : Snd K cls W te m) {σ : L2.St} {env : En} {F H : Hp} {Q : V → Hp → Prop} (w : Wd K σ env F H)
    (q : OutQ (dBool m env) (fun b env' => ∀ F' H', To K σ env F H env' F' H' → Q (.bl b) H') (fun c env' => ∀ F' H', To K σ env F H env' F' H' → W (.ref (cls c)) none σ H')) : te σ H Q := by
  refine h σ env F H _ w (q.bind.imp (fun x env1 h1 F1 H1 v t1 r1 => ?_) fun c env1 h1 => h1)
  obtain ⟨a, ea, h4⟩ := h1.bind.pk
  cases a with
  | bl b =>
    have e : v = .bl b := r1.rb (w.to t1) ea
    subst e
    exact h4 F1 H1 t1
  | _ => exact h4.elim
theorem snd_andV {ta tb : TE} {m n : M Vl} (h1 : Snd K cls W ta m) (h2 : Snd K cls W tb n) : Snd K cls W (tAndV ta tb) (dAndV m n) := by
  intro σ env F H Q w q
  refine snd_bool h1 w (q.bind.imp (fun b env1 h F1 H1 t1 => ⟨b, rfl, ?_⟩) fun c env1 h1 => h1)
  cases b with
  | true => exact h2 σ env1 F1 H1 _ (w.to t1) (OutQ.imp (o := n env1) h (fun b env2 h F2 H2 v t2 r2 => h F2 H2 v (t1.trans t2) (VR.since t1 r2)) fun c env2 h F2 H2 t2 => h F2 H2 (t1.trans t2))
  | false => exact h F1 H1 _ t1 rfl
theorem snd_orV {ta tb : TE} {m n : M Vl} (h1 : Snd K cls W ta m) (h2 : Snd K cls W tb n) : Snd K cls W (tOrV ta tb) (dOrV m n) := by
  intro σ env F H Q w q
  refine snd_bool h1 w (q.bind.imp (fun b env1 h F1 H1 t1 => ⟨b, rfl, ?_⟩) fun c env1 h1 => h1)
  cases b with
  | false => exact h2 σ env1 F1 H1 _ (w.to t1) (OutQ.imp (o := n env1) h (fun b env2 h F2 H2 v t2 r2 => h F2 H2 v (t1.trans t2) (VR.since t1 r2)) fun c env2 h F2 H2 t2 => h F2 H2 (t1.trans t2))
  | true => exact h F1 H1 _ t1 rfl
theorem snd_notV {ta : TE} {m : M Vl} (h1 : Snd K cls W ta m) : Snd K cls W (tNotV ta) (dNotV m) := by
  intro σ env F H Q w q
  exact snd_bool h1 w (q.bind.imp (fun b env1 h F1 H1 t1 => ⟨b, rfl, h F1 H1 _ t1 rfl⟩) fun c env1 h1 => h1)
def dIf (c : M Bool) (m n : M Vl) : M Vl := mB c fun b => if b = true then m else n
theorem snd_if {t : TT} {ta tb : TE} {c : M Bool} {m n : M Vl} (h0 : SndT K cls W t c) (h1 : Snd K cls W ta m) (h2 : Snd K cls W tb n) : Snd K cls W (tIf t ta tb) (dIf c m n) := by
  intro σ env F H Q w q
  refine h0 σ env F H _ w (q.bind.imp (fun b env1 h F1 H1 t1 => ?_) fun c env1 h1 => h1)
  cases b with
  | true => exact h1 σ env1 F1 H1 _ (w.to t1) (OutQ.imp (o := m env1) h (fun b env2 h F2 H2 v t2 r2 => h F2 H2 v (t1.trans t2) (VR.since t1 r2)) fun c env2 h F2 H2 t2 => h F2 H2 (t1.trans t2))
  | false => exact h2 σ env1 F1 H1 _ (w.to t1) (OutQ.imp (o := n env1) h (fun b env2 h F2 H2 v t2 r2 => h F2 H2 v (t1.trans t2) (VR.since t1 r2)) fun c env2 h F2 H2 t2 => h F2 H2 (t1.trans t2))
/-! ### rows of arguments -/
def dNil : M (List Vl) := ret []
def dCons (m : M Vl) (n : M (List Vl)) : M (List Vl) := mB m fun x => mB n fun xs => ret (x :: xs)
theorem sndA_nil : SndA K cls W tNil dNil := by
  intro σ env F H Q w h
  exact h F H [] (To.refl w) trivial List.nodup_nil
theorem tmpA_new : ∀ {vs : List V} {xs : List Vl} {p : Addr}, VRs K σ env F H H0 vs xs → p ∈ tmpA vs xs → H0 p = none
  | [], _, _, _, h => by simp [tmpA] at h
  | _ :: _, [], _, _, h => by simp [tmpA] at h
  | v :: vs, x :: xs, p, r, h => by
    have h' : p ∈ slotA (some v) (vlE x) ++ tmpA vs xs := h
    rcases List.mem_append.mp h' with h | h
    · cases x with
      | fz d => cases v <;> simp [slotA, vlE] at h
      | pl i => cases v <;> simp [slotA, vlE] at h
      | ow d =>
        obtain ⟨a, e, _, _, hn⟩ := r.1
        subst e
        have : p = a := by simpa [slotA, vlE] using h
        rw [this]; exact hn
    · exact tmpA_new r.2 h
theorem VRs.earlier (h : ∀ a, H1 a = none → H0 a = none) : ∀ {vs : List V} {xs : List Vl}, VRs K σ env F H H1 vs xs → VRs K σ env F H H0 vs xs
  | [], [], q => q
  | v :: vs, x :: xs, q => ⟨q.1.earlier h, VRs.earlier h q.2⟩
  | [], _ :: _, q => q.elim
  | _ :: _, [], q => q.elim
theorem sndA_cons {te : TE} {ta : TA} {m : M Vl} {n : M (List Vl)} (h1 : Snd K cls W te m) (h2 : SndA K cls W ta n) : SndA K cls W (tCons te ta) (dCons m n) := by
  intro σ env F H Q w h
  refine h1 σ env F H _ w (h.bind.imp (fun x env1 h1 F1 H1 v t1 r1 => ?_) fun c env1 h1 => h1)
  refine h2 σ env1 F1 H1 _ (w.to t1) (h1.bind.imp (fun xs env2 h2 F2 H2 vs t2 r2 nd => ?_) fun c env2 h2 F' H' t2 => h2 F' H' (t1.trans t2))
  have r1' := r1.on w t1 t2
  refine h2 F2 H2 (v :: vs) (t1.trans t2) ⟨r1', r2.earlier fun a ha => t1.st.back ha⟩ ?_
  show (slotA (some v) (vlE x) ++ tmpA vs xs).Nodup
  refine List.nodup_append.mpr ⟨slotA_nodup _ _, nd, fun a ha b hb z => ?_⟩
  subst z
  have hb' := tmpA_new r2 hb
  cases x with
  | fz d => cases v <;> simp [slotA, vlE] at ha
  | pl i => cases v <;> simp [slotA, vlE] at ha
  | ow d =>
    obtain ⟨p, e, _, r, hn⟩ := r1
    subst e
    have : a = p := by simpa [slotA, vlE] using ha
    subst this
    obtain ⟨o, ho⟩ := r.ex
    rw [ho] at hb'; cases hb'
def peeks (e : En) : List Vl → Option (List D)
  | [] => some []
  | x :: xs => match peek e x with
    | some d => match peeks e xs with
      | some ds => some (d :: ds)
      | none => none
    | none => none
def pks (xs : List Vl) : M (List D) := fun e => match peeks e xs with
  | some ds => .ok ds e
  | none => .stk
theorem OutQ.pks {xs : List Vl} {e : En} {P : List D → En → Prop} {Z : Ex → En → Prop} (h : OutQ (pks xs e) P Z) : ∃ ds, peeks e xs = some ds ∧ P ds e := by
  unfold L3.pks at h
  cases q : peeks e xs with
  | none => rw [q] at h; exact h.elim
  | some d => rw [q] at h; exact ⟨d, rfl, h⟩
def RBs (K : Fg) (F H : Hp) : List D → List V → Prop
  | [], [] => True
  | d :: ds, v :: vs => RB K F H d v ∧ RBs K F H ds vs
  | _, _ => False
theorem VRs.rbs (w : Wd K σ env F H) : ∀ {vs : List V} {xs : List Vl} {ds : List D}, VRs K σ env F H H0 vs xs → peeks env xs = some ds → RBs K F H ds vs
  | [], [], ds, _, q => by
    have q' : [] = ds := by simpa [peeks] using q
    subst q'; trivial
  | v :: vs, x :: xs, ds, r, q => by
    unfold peeks at q
    cases e1 : peek env x with
    | none => simp [e1] at q
    | some d =>
      cases e2 : peeks env xs with
      | none => simp [e1, e2] at q
      | some r' =>
        have q' : d :: r' = ds := by simpa [e1, e2] using q
        subst q'
        exact ⟨r.1.rb w e1, VRs.rbs w r.2 e2⟩
  | [], _ :: _, _, r, _ => r.elim
  | _ :: _, [], _, r, _ => r.elim
/-- a built-in does what f says of the data -/
def CallD (K : Fg) (r : List V → Hp → VK → Prop) (f : List D → Option Vl) : Prop := ∀ (F H : Hp) (vs : List V) (ds : List D) (x : Vl), Sub F H → RBs K F H ds vs → f ds = some x → ∀ Q : VK, (∀ F' H' u, Stp [] F H F' H' → VR0 K F' H' H u x → Q u H') → r vs H Q
def dCB (f : List D → Option Vl) (n : M (List Vl)) : M Vl := mB n fun xs => mB (pks xs) fun ds => lft (f ds)
theorem snd_cb {r : List V → Hp → VK → Prop} {f : List D → Option Vl} {ta : TA} {n : M (List Vl)} (o : CallD K r f) (ha : SndA K cls W ta n) : Snd K cls W (tCB r ta) (dCB f n) := by
  intro σ env F H Q w h
  refine ha σ env F H _ w (h.bind.imp (fun xs env1 h1 F1 H1 vs t1 r1 nd => ?_) fun c env1 h1 => h1)
  obtain ⟨ds, ea, h4⟩ := h1.bind.pks
  obtain ⟨z, ez, h5⟩ := h4.lft
  have w2 := w.to t1
  refine o F1 H1 vs ds z w2.sb (r1.rbs w2 ea) ez Q fun F3 H3 uu s3 r3 => ?_
  have t3 := w2.step s3 fun _ z => nomatch z
  exact h5 F3 H3 uu (t1.trans t3) (VR.since t1 r3.vr)
end
end L3
end S_Lc
section S_Ld
set_option maxHeartbeats 0
namespace L3
open PySem PySem.Spec PyProof.Rows L2
section
variable {K : Fg} {σ : L2.St} {env env' env2 : En} {F H F' H' F2 H2 H0 H1 : Hp} {v : V} {cls : Ex → Addr} {W : WX}
/-! ### freezing a row -/
theorem frz_new {e0 : En} {F0 : Hp} (w0 : Wd K σ e0 F0 H0) (t : To K σ e0 F0 H0 env F H) {x : Vl} {P : D → En → Prop} {Z : Ex → En → Prop} (r : VR K σ env F H H0 v x) (h : OutQ (frz x env) P Z) :
    ∃ d env' F', P d env' ∧ Rep K F' d v ∧ To K σ e0 F0 H0 env' F' H ∧ Gr F F' ∧ EnvLe env env' ∧ ∀ a, F a = none → a ∉ ownA σ env → a ∉ slotA (some v) (vlE x) → F' a = none := by
  have w := w0.to t
  cases x with
  | fz d => exact ⟨d, env, F, h, r, t, Gr.refl _, EnvLe.refl _, fun a h _ _ => h⟩
  | ow d =>
    obtain ⟨a, e, hF, r, hn⟩ := r
    subst e
    obtain ⟨o, ho, rp⟩ := r.frz hF
    have hO : a ∉ ownA σ env := fun hm => by
      obtain ⟨_, o, q⟩ := w0.own (t.le.mem hm)
      rw [hn] at q; cases q
    have st : Stp [a] F H (upd F a o) H := Stp.frz w.sb ho hF (by simp)
    refine ⟨d, env, upd F a o, h, rp, ⟨t.st.trans st fun b hb => ?_, w.er.keep st fun b hb hO' => ?_, t.le⟩, st.gr, EnvLe.refl _, fun b hb _ h2 => ?_⟩
    · have : b = a := by simpa using hb
      subst this
      exact .inr hn
    · have : b = a := by simpa using hO'
      subst this
      exact hO hb
    · have : b ≠ a := fun z => h2 (by simp [slotA, vlE, z])
      rw [upd_ne this]; exact hb
  | pl i =>
    obtain ⟨e, en, h1, h2⟩ := r
    simp only [frz, h1] at h
    obtain ⟨o, g1, g2, g3⟩ := w.er.get h1
    rw [e] at g1; cases g1
    cases en with
    | no => exact (h2 rfl).elim
    | fz d =>
      obtain ⟨v', e', r⟩ := g2
      cases e'
      exact ⟨d, env, F, h, r, t, Gr.refl _, EnvLe.refl _, fun a h _ _ => h⟩
    | ow d =>
      obtain ⟨a, e', hF, r⟩ := g2
      cases e'
      obtain ⟨ob, ho, rp⟩ := r.frz hF
      have st : Stp [a] F H (upd F a ob) H := Stp.frz w.sb ho hF (by simp)
      have ha : a ∈ ownA σ env := g3 _ (by simp [slotA])
      refine ⟨d, env.set i (.fz d), upd F a ob, h, rp, ⟨t.st.trans st fun b hb => ?_, ?_, t.le.trans (EnvLe.set h1 trivial)⟩, st.gr, EnvLe.set h1 trivial, fun b hb h3 _ => ?_⟩
      · have : b = a := by simpa using hb
        subst this
        exact .inl (t.le.mem ha)
      · have q := w.er.set (o' := some (.ref a)) (e' := .fz d) st w.nd e h1 (fun p hp => .inl (by simpa [slotA] using hp)) ⟨_, rfl, rp⟩
        rw [set_get e] at q
        exact q
      · have : b ≠ a := fun z => h3 (z ▸ ha)
        rw [upd_ne this]; exact hb
def frzs : List Vl → M (List D)
  | [] => ret []
  | x :: xs => mB (frz x) fun d => mB (frzs xs) fun ds => ret (d :: ds)
theorem VR.frzd (g : Gr F F') (l : EnvLe env env') : ∀ {x : Vl}, VR K σ env F H H0 v x → (∀ a ∈ slotA (some v) (vlE x), F' a = none) → VR K σ env' F' H H0 v x
  | .fz d, h, _ => Rep.mono g d h
  | .ow d, ⟨a, e, hF, r, hn⟩, n => by
    subst e
    exact ⟨a, rfl, n a (by simp [slotA, vlE]), r.mono g fun _ q => q, hn⟩
  | .pl i, ⟨e, en, h1, h2⟩, _ => by
    obtain ⟨e', h3, h4⟩ := l.get h1
    refine ⟨e, e', h3, fun z => ?_⟩
    subst z
    cases en <;> first | exact h2 rfl | cases h4
theorem VRs.frzd (g : Gr F F') (l : EnvLe env env') : ∀ {vs : List V} {xs : List Vl}, VRs K σ env F H H0 vs xs → (∀ a ∈ tmpA vs xs, F' a = none) → VRs K σ env' F' H H0 vs xs
  | [], [], q, _ => q
  | v :: vs, x :: xs, q, n => ⟨q.1.frzd g l fun a ha => n a (List.mem_append_left _ ha), VRs.frzd g l q.2 fun a ha => n a (List.mem_append_right _ ha)⟩
  | [], _ :: _, q, _ => q.elim
  | _ :: _, [], q, _ => q.elim
theorem VRs.tmpF : ∀ {vs : List V} {xs : List Vl} {p : Addr}, VRs K σ env F H H0 vs xs → p ∈ tmpA vs xs → F p = none ∧ H0 p = none
  | [], _, _, _, h => by simp [tmpA] at h
  | _ :: _, [], _, _, h => by simp [tmpA] at h
  | v :: vs, x :: xs, p, r, h => by
    have h' : p ∈ slotA (some v) (vlE x) ++ tmpA vs xs := h
    rcases List.mem_append.mp h' with h | h
    · cases x with
      | fz d => cases v <;> simp [slotA, vlE] at h
      | pl i => cases v <;> simp [slotA, vlE] at h
      | ow d =>
        obtain ⟨a, e, hF, _, hn⟩ := r.1
        subst e
        have : p = a := by simpa [slotA, vlE] using h
        rw [this]; exact ⟨hF, hn⟩
    · exact VRs.tmpF r.2 h
theorem To.frzs {e0 : En} {F0 : Hp} (w0 : Wd K σ e0 F0 H0) : ∀ {xs : List Vl} {vs : List V} {env : En} {F : Hp} {P : List D → En → Prop} {Z : Ex → En → Prop}, To K σ e0 F0 H0 env F H → VRs K σ env F H H0 vs xs → (tmpA vs xs).Nodup → OutQ (frzs xs env) P Z →
    ∃ ds env' F', P ds env' ∧ Reps K F' ds vs ∧ To K σ e0 F0 H0 env' F' H ∧ Gr F F'
  | [], [], env, F, P, Z, t, r, nd, h => ⟨[], env, F, h, rfl, t, Gr.refl _⟩
  | x :: xs, v :: vs, env, F, P, Z, t, r, nd, h => by
    obtain ⟨_, nd2, dj⟩ := List.nodup_append.mp (show (slotA (some v) (vlE x) ++ tmpA vs xs).Nodup from nd)
    obtain ⟨d, env1, F1, h1, rp, t1, g1, l1, n1⟩ := frz_new w0 t r.1 (OutQ.bind h)
    have tn : ∀ a ∈ tmpA vs xs, F1 a = none := fun a ha => by
      obtain ⟨q1, q2⟩ := VRs.tmpF r.2 ha
      refine n1 a q1 (fun z => ?_) fun z => dj a z a ha rfl
      obtain ⟨_, o, q⟩ := w0.own (t.le.mem z)
      rw [q2] at q; cases q
    obtain ⟨ds, env2, F2, h2, rs, t2, g2⟩ := To.frzs w0 t1 (VRs.frzd g1 l1 r.2 tn) nd2 (OutQ.bind h1)
    exact ⟨d :: ds, env2, F2, h2, ⟨v, vs, rfl, Rep.mono g2 d rp, rs⟩, t2, g1.trans g2⟩
  | [], _ :: _, _, _, _, _, _, r, _, _ => r.elim
  | _ :: _, [], _, _, _, _, _, r, _, _ => r.elim
theorem Reps.len : ∀ {ds : List D} {vs : List V}, Reps K F ds vs → vs.length = ds.length
  | [], _, h => by rw [show _ = [] from h]; rfl
  | d :: ds, _, ⟨v, r, e, _, h⟩ => by subst e; simp [Reps.len h]
/-- a list, a tuple written -/
def dLst (n : M (List Vl)) : M Vl := mB n fun xs => mB (frzs xs) fun ds => if ds.length ≤ 16777216 then ret (.ow (.lst ds)) else fun _ => .stk
def dTup (n : M (List Vl)) : M Vl := mB n fun xs => mB (frzs xs) fun ds => if ds.length ≤ 16777216 then ret (.fz (.tup ds)) else fun _ => .stk
theorem szOk {n : Nat} (h : n ≤ 16777216) : n ≤ sizeLine := by rw [sizeLine_eq]; exact h
theorem szLt {n : Nat} (h : n < 16777216) : n < sizeLine := by rw [sizeLine_eq]; exact h
theorem To.new (t : To K σ env F H env' F' H') (w : Wd K σ env F H) {p : Addr} {o : HO} (h : H' p = none) : To K σ env F H env' F' (upd H' p o) := by
  have w' := w.to t
  have s : Stp ([] : List Addr) F' H' F' (upd H' p o) := Stp.new w'.sb h
  exact t.trans (w'.step s fun _ z => nomatch z)
theorem To.lay (t : To K σ env F H env' F' H') (w : Wd K σ env F H) {p : Addr} {o : HO} (h : H' p = none) : To K σ env F H env' (upd F' p o) (upd H' p o) := by
  have w' := w.to t
  have s : Stp ([] : List Addr) F' H' (upd F' p o) (upd H' p o) := Stp.lay w'.sb h
  exact t.trans (w'.step s fun _ z => nomatch z)
theorem snd_lst {ta : TA} {n : M (List Vl)} (ha : SndA K cls W ta n) : Snd K cls W (tLst ta) (dLst n) := by
  intro σ env F H Q w h
  refine ha σ env F H _ w (h.bind.imp (fun xs env1 h1 F1 H1 vs t1 r1 nd => ?_) fun c env1 h1 => h1)
  obtain ⟨ds, env2, F2, h2, rs, t2, _⟩ := To.frzs w t1 r1 nd h1.bind
  by_cases hz : ds.length ≤ 16777216
  · rw [if_pos hz] at h2
    refine ⟨szOk (by rw [rs.len]; exact hz), fun p hp => ?_⟩
    refine h2 F2 _ (.ref p) (t2.new w hp) ⟨p, rfl, (w.to t2).sb.none hp, ⟨vs, upd_same, rs⟩, t2.st.back hp⟩
  · rw [if_neg hz] at h2
    exact h2.elim
theorem snd_tup {ta : TA} {n : M (List Vl)} (ha : SndA K cls W ta n) : Snd K cls W (tTup ta) (dTup n) := by
  intro σ env F H Q w h
  refine ha σ env F H _ w (h.bind.imp (fun xs env1 h1 F1 H1 vs t1 r1 nd => ?_) fun c env1 h1 => h1)
  obtain ⟨ds, env2, F2, h2, rs, t2, _⟩ := To.frzs w t1 r1 nd h1.bind
  by_cases hz : ds.length ≤ 16777216
  · rw [if_pos hz] at h2
    refine ⟨szOk (by rw [rs.len]; exact hz), fun p hp => ?_⟩
    have hF := (w.to t2).sb.none hp
    exact h2 _ _ (.ref p) (t2.lay w hp) ⟨p, vs, rfl, upd_same, Reps.mono (Gr.upd hF) _ rs⟩
  · rw [if_neg hz] at h2
    exact h2.elim
def dNewK : M Vl := ret (.ow (.dic []))
def dNewT : M Vl := ret (.ow (.dit []))
theorem snd_newK : Snd K cls W tDNewK dNewK := by
  intro σ env F H Q w h p hp
  exact h F _ (.ref p) ((To.refl w).new w hp) ⟨p, rfl, w.sb.none hp, ⟨[], upd_same, rfl⟩, hp⟩
theorem snd_newT : Snd K cls W tDNewT dNewT := by
  intro σ env F H Q w h p hp
  exact h F _ (.ref p) ((To.refl w).new w hp) ⟨p, rfl, w.sb.none hp, ⟨[], upd_same, rfl⟩, hp⟩
end
/-! ### subscripts -/
section
variable {X : Cx}
def rIxD : R2 := fun x y H Q => ∃ a v, x = .ref a ∧ DGet H a y (some v) ∧ Q v H
theorem ix_dict (hu : X.A.units + 1 < cLine) : IxR X rIxD := by
  intro value slice pins s σ H x y v u Q I rx ry h hs
  obtain ⟨a, w, rfl, g, q⟩ := h
  obtain rfl : v = Value.ref a := rx
  have hT := dict_typeIs I g
  unfold subscriptTail
  refine wpAny_bind ?_
  rw [getitemInPython_of_ne hT.not_modules]
  refine wpAny_bind (wpAny_specialOf hT PySem.F.slot_dict_getitem.lookup ?_)
  have fin : wpAny (model X.prog X.w) X.A (subscripted slice false (.ref a) u) (fun r s₃ => wpAny (model X.prog X.w) X.A (letTemporaryGo value (.ref a) r >>= fun _ => pure r) (EP X pins σ Q) X.xe s₃) X.xe s := by
    rw [hs]
    exact wpAny_operating (wpAny_mono (d_getItem (Q := EP X pins σ Q) hu I g ry fun w' s3 I3 rw' => ⟨w, H, I3, rw', q⟩) (fun r s₃ h₃ => wpAny_bind (wpAny_letTemporaryGo (wpAny_pure h₃))) fun _ _ x => x)
  first
    | exact wpAny_pure (wpAny_bind fin)
    | exact wpAny_bind (wpAny_pure (wpAny_bind fin))
    | exact wpAny_bind fin
theorem ix_or {r r' : R2} (h : IxR X r) (h' : IxR X r') : IxR X (fun x y H Q => r x y H Q ∨ r' x y H Q) := by
  intro value slice pins s σ H x y v u Q I rx ry q hs
  rcases q with q | q
  · exact h value slice pins s σ H x y v u Q I rx ry q hs
  · exact h' value slice pins s σ H x y v u Q I rx ry q hs
theorem op_or {f : Value → Value → Sem Value} {r r' : R2} (h : OpR X f r) (h' : OpR X f r') : OpR X f (fun x y H Q => r x y H Q ∨ r' x y H Q) := by
  intro pins s σ H x y v u Q I rx ry q
  rcases q with q | q
  · exact h pins s σ H x y v u Q I rx ry q
  · exact h' pins s σ H x y v u Q I rx ry q
end
end L3
end S_Ld
section S_Le
set_option maxHeartbeats 0
namespace L3
open PySem PySem.Spec PyProof.Rows L2
/-! ### statements -/
inductive Fl where
  | nx | bk | ct | rt (x : Vl)
/-- how a def's run began (e0, σ0, H0), and a world of it behind which all is counted (O1, F1, H1) -/
structure Cn where
  op : List Nat
  e0 : En
  σ0 : L2.St
  H0 : Hp
  O1 : List Addr
  F1 : Hp
  H1 : Hp
  le : ∀ a, H1 a = none → H0 a = none
structure WdS (K : Fg) (C : Cn) (σ : L2.St) (env : En) (F H : Hp) : Prop where
  w : Wd K σ env F H
  st : Stp C.O1 C.F1 C.H1 F H
  new : ∀ a ∈ ownA σ env, a ∈ C.O1 ∨ C.H1 a = none
  loc : ∀ i d a, i ∉ C.op → env[i]? = some (.ow d) → σ[i]? = some (some (.ref a)) → C.H0 a = none
  fix : ∀ i ∈ C.op, σ[i]? = C.σ0[i]? ∧ ∀ e, C.e0[i]? = some e → ∃ e', env[i]? = some e' ∧ EntLe e e'
theorem EnvLe.own : ∀ {a b : En} {i : Nat} {d : D}, EnvLe a b → b[i]? = some (.ow d) → ∃ d', a[i]? = some (.ow d')
  | [], [], _, _, _, q => by simp at q
  | x :: a, y :: b, 0, d, h, q => by
    have q' : y = .ow d := by simpa using q
    subst q'
    cases x with
    | no => cases h.1
    | fz _ => cases h.1
    | ow d' => exact ⟨d', rfl⟩
  | x :: a, y :: b, i + 1, d, h, q => by
    obtain ⟨d', e⟩ := EnvLe.own (i := i) (d := d) h.2 (by simpa using q)
    exact ⟨d', by simpa using e⟩
  | [], _ :: _, _, _, h, _ => h.elim
  | _ :: _, [], _, _, h, _ => h.elim
section
variable {K : Fg} {C : Cn} {σ σ' : L2.St} {env env' env2 : En} {F H F' H' F2 H2 : Hp} {cls : Ex → Addr} {W : WX}
theorem WdS.to (w : WdS K C σ env F H) (t : To K σ env F H env' F' H') : WdS K C σ env' F' H' where
  w := w.w.to t
  st := w.st.trans t.st w.new
  new := fun a ha => w.new a (t.le.mem ha)
  loc := fun i d a hi he hs => by
    obtain ⟨d', e⟩ := t.le.own he
    exact w.loc i d' a hi e hs
  fix := fun i hi => ⟨(w.fix i hi).1, fun e he => by
    obtain ⟨e1, h1, l1⟩ := (w.fix i hi).2 e he
    obtain ⟨e2, h2, l2⟩ := t.le.get h1
    exact ⟨e2, h2, l1.trans l2⟩⟩
theorem WdS.h0 (w : WdS K C σ env F H) {a : Addr} (h : H a = none) : C.H0 a = none := C.le a (w.st.back h)
def FlQ (K : Fg) (C : Cn) (D : Ends) (σ : L2.St) (F H : Hp) : Fl → Prop
  | .nx => D.nx σ H
  | .bk => D.bk σ H
  | .ct => D.ct σ H
  | .rt x => ∀ v, VR0 K F H C.H0 v x → D.rt v H
def SndS (K : Fg) (cls : Ex → Addr) (op : List Nat) (W : WX) (ts : TS) (ms : M Fl) : Prop := ∀ (C : Cn) (σ : L2.St) (env : En) (F H : Hp) (D : Ends), C.op = op → WdS K C σ env F H →
  OutQ (ms env) (fun f env' => ∀ σ' F' H', WdS K C σ' env' F' H' → FlQ K C D σ' F' H' f) (fun c env' => ∀ σ' F' H', WdS K C σ' env' F' H' → W (.ref (cls c)) none σ' H') → ts D σ H
def dNext : M Fl := ret .nx
def dSeq (m n : M Fl) : M Fl := mB m fun f => match f with
  | .nx => n
  | f => ret f
theorem snds_next {op : List Nat} : SndS K cls op W tNext dNext := fun C σ env F H D ho w h => h σ F H w
theorem snds_break {op : List Nat} : SndS K cls op W tBreak (ret .bk) := fun C σ env F H D ho w h => h σ F H w
theorem snds_cont {op : List Nat} : SndS K cls op W tCont (ret .ct) := fun C σ env F H D ho w h => h σ F H w
theorem snds_seq {op : List Nat} {t u : TS} {m n : M Fl} (h1 : SndS K cls op W t m) (h2 : SndS K cls op W u n) : SndS K cls op W (tSeq t u) (dSeq m n) := by
  intro C σ env F H D ho w h
  refine h1 C σ env F H _ ho w (h.bind.imp (fun f env1 h1 σ1 F1 H1 w1 => ?_) fun c env1 h1 => h1)
  cases f with
  | nx => exact h2 C σ1 env1 F1 H1 D ho w1 h1
  | bk => exact h1 σ1 F1 H1 w1
  | ct => exact h1 σ1 F1 H1 w1
  | rt x => exact h1 σ1 F1 H1 w1
def dIfS (c : M Bool) (m n : M Fl) : M Fl := mB c fun b => if b = true then m else n
theorem snds_if {op : List Nat} {tc : TT} {t u : TS} {c : M Bool} {m n : M Fl} (h0 : SndT K cls W tc c) (h1 : SndS K cls op W t m) (h2 : SndS K cls op W u n) : SndS K cls op W (tIfS tc t u) (dIfS c m n) := by
  intro C σ env F H D ho w h
  refine h0 σ env F H _ w.w (h.bind.imp (fun b env1 hb F1 H1 t1 => ?_) fun c env1 h1 F1 H1 t1 => h1 σ F1 H1 (w.to t1))
  cases b with
  | true => exact h1 C σ env1 F1 H1 D ho (w.to t1) hb
  | false => exact h2 C σ env1 F1 H1 D ho (w.to t1) hb
/-- return -/
def retv (op : List Nat) (x : Vl) : M Fl := fun e => match x with
  | .fz d => .ok (.rt (.fz d)) e
  | .ow d => .ok (.rt (.ow d)) e
  | .pl i => match e[i]? with
    | some (.fz d) => .ok (.rt (.fz d)) e
    | some (.ow d) => if i ∈ op then .ok (.rt (.fz d)) (e.set i (.fz d)) else .ok (.rt (.ow d)) (e.set i .no)
    | _ => .stk
def dRet (op : List Nat) (m : M Vl) : M Fl := mB m (retv op)
theorem WdS.drop (w : WdS K C σ env F H) {i : Nat} (hi : i ∉ C.op) {o : Option V} : WdS K C (σ.set i o) (env.set i .no) F H := by
  cases q : env[i]? with
  | none =>
    have h1 : env.length ≤ i := by simpa using q
    have h2 : σ.length ≤ i := by rw [w.w.er.len]; exact h1
    rw [List.set_eq_of_length_le h1, List.set_eq_of_length_le h2]
    exact w
  | some e =>
    obtain ⟨o1, g1, _, _⟩ := w.w.er.get q
    have sub : ∀ a, a ∈ ownA (σ.set i o) (env.set i .no) → a ∈ ownA σ env := fun a ha => by
      rcases ownA_set_sub ha with z | z
      · exact z
      · cases o with
        | none => simp [slotA] at z
        | some v => cases v <;> simp [slotA] at z
    have st : Stp ([] : List Addr) F H F H := Stp.refl w.w.sb
    refine ⟨⟨w.w.er.set (o' := o) (e' := .no) st w.w.nd g1 q (fun p hp => nomatch hp) trivial, ownA_set_nodup w.w.nd g1 q fun p hp => ?_, w.w.sb⟩, w.st, fun a ha => w.new a (sub a ha), fun j d a hj he hs => ?_, fun j hj => ?_⟩
    · cases o with
      | none => simp [slotA] at hp
      | some v => cases v <;> simp [slotA] at hp
    · by_cases hji : i = j
      · subst hji
        rw [List.getElem?_set_self (by rw [List.getElem?_eq_some_iff] at q; exact q.1)] at he
        cases he
      · rw [List.getElem?_set_ne hji] at he hs
        exact w.loc j d a hj he hs
    · have hji : i ≠ j := fun z => hi (z ▸ hj)
      rw [List.getElem?_set_ne hji, List.getElem?_set_ne hji]
      exact w.fix j hj
theorem snds_retv {op : List Nat} {x : Vl} {v : V} (ho : C.op = op) {σ0 : L2.St} {env0 : En} {F0 Hs : Hp} (w0 : WdS K C σ env0 F0 Hs) (t : To K σ env0 F0 Hs env F H) (r : VR K σ env F H Hs v x) {D : Ends}
    (h : OutQ (retv op x env) (fun f env' => ∀ σ' F' H', WdS K C σ' env' F' H' → FlQ K C D σ' F' H' f) (fun c env' => ∀ σ' F' H', WdS K C σ' env' F' H' → W (.ref (cls c)) none σ' H')) : D.rt v H := by
  have w := w0.to t
  cases x with
  | fz d => exact h σ F H w v r
  | ow d =>
    obtain ⟨a, e, hF, q, hn⟩ := r
    exact h σ F H w v ⟨a, e, hF, q, w0.h0 hn⟩
  | pl i =>
    obtain ⟨e, en, h1, h2⟩ := r
    obtain ⟨o, g1, g2, g3⟩ := w.w.er.get h1
    rw [e] at g1; cases g1
    simp only [retv, h1] at h
    cases en with
    | no => exact (h2 rfl).elim
    | fz d =>
      obtain ⟨v', e', r⟩ := g2
      cases e'
      exact h σ F H w v r
    | ow d =>
      by_cases hi : i ∈ op
      · simp only [if_pos hi] at h
        obtain ⟨a, e', hF, r⟩ := g2
        cases e'
        obtain ⟨ob, hob, rp⟩ := r.frz hF
        have st : Stp [a] F H (upd F a ob) H := Stp.frz w.w.sb hob hF (by simp)
        have ha : a ∈ ownA σ env := g3 _ (by simp [slotA])
        have er := w.w.er.set (o' := some (.ref a)) (e' := .fz d) st w.w.nd e h1 (fun p hp => .inl (by simpa [slotA] using hp)) ⟨_, rfl, rp⟩
        rw [set_get e] at er
        have t2 : To K σ env F H (env.set i (.fz d)) (upd F a ob) H := ⟨st.weak fun b hb => .inl (by
          have : b = a := by simpa using hb
          subst this; exact ha), er, EnvLe.set h1 trivial⟩
        exact h σ _ H (w.to t2) _ rp
      · simp only [if_neg hi] at h
        obtain ⟨a, e', hF, r⟩ := g2
        cases e'
        have w2 := w.drop (i := i) (o := some (.ref a)) (by rw [ho]; exact hi)
        exact h (σ.set i (some (.ref a))) F H w2 _ ⟨a, rfl, hF, r, w.loc i d a (by rw [ho]; exact hi) h1 e⟩
theorem snds_ret {op : List Nat} {te : TE} {m : M Vl} (h1 : Snd K cls W te m) : SndS K cls op W (tRet te) (dRet op m) := by
  intro C σ env F H D ho w h
  exact h1 σ env F H _ w.w (h.bind.imp (fun x env1 hx F1 H1 v t1 r1 => snds_retv (σ0 := σ) ho w t1 r1 hx) fun c env1 h1 F1 H1 t1 => h1 σ F1 H1 (w.to t1))
theorem snds_retN {op : List Nat} : SndS K cls op W tRetN (ret (.rt (.fz .non))) := fun C σ env F H D ho w h => h σ F H w .non rfl
/-- x = e -/
def stv (i : Nat) (x : Vl) : M Unit := fun e => match x with
  | .fz d => .ok () (e.set i (.fz d))
  | .ow d => .ok () (e.set i (.ow d))
  | .pl j => match e[j]? with
    | some (.fz d) => .ok () (e.set i (.fz d))
    | some (.ow d) => .ok () ((e.set j (.fz d)).set i (.fz d))
    | _ => .stk
def dAsg (i : Nat) (m : M Vl) : M Fl := mB m fun x => mB (stv i x) fun _ => ret .nx
theorem WdS.put (w : WdS K C σ env F H) {i : Nat} (hi : i ∉ C.op) {v : V} : ∀ {e : Ent}, SlotR K F H (some v) e → (∀ a ∈ slotA (some v) e, a ∉ ownA σ env ∧ C.H0 a = none ∧ C.H1 a = none) → WdS K C (σ.set i (some v)) (env.set i e) F H := by
  intro e r n
  cases q : env[i]? with
  | none =>
    have h1 : env.length ≤ i := by simpa using q
    have h2 : σ.length ≤ i := by rw [w.w.er.len]; exact h1
    rw [List.set_eq_of_length_le h1, List.set_eq_of_length_le h2]
    exact w
  | some e1 =>
    obtain ⟨o1, g1, _, _⟩ := w.w.er.get q
    have st : Stp ([] : List Addr) F H F H := Stp.refl w.w.sb
    refine ⟨⟨w.w.er.set (o' := some v) (e' := e) st w.w.nd g1 q (fun p hp => nomatch hp) r, ownA_set_nodup w.w.nd g1 q fun p hp => .inr (n p hp).1, w.w.sb⟩, w.st, fun a ha => ?_, fun j d a hj he hs => ?_, fun j hj => ?_⟩
    · rcases ownA_set_sub ha with z | z
      · exact w.new a z
      · exact .inr (n a z).2.2
    · have hlt : i < env.length := by rw [List.getElem?_eq_some_iff] at q; exact q.1
      have hlt2 : i < σ.length := by rw [w.w.er.len]; exact hlt
      by_cases hji : i = j
      · subst hji
        rw [List.getElem?_set_self hlt] at he
        rw [List.getElem?_set_self hlt2] at hs
        cases he; cases hs
        exact (n a (by simp [slotA])).2.1
      · rw [List.getElem?_set_ne hji] at he hs
        exact w.loc j d a hj he hs
    · have hji : i ≠ j := fun z => hi (z ▸ hj)
      rw [List.getElem?_set_ne hji, List.getElem?_set_ne hji]
      exact w.fix j hj
theorem put_fz {d : D} {v : V} {P : Addr → Prop} : ∀ a ∈ slotA (some v) (.fz d), P a := fun a h => by cases v <;> simp [slotA] at h
theorem snds_stv {op : List Nat} {i : Nat} (hi : i ∉ op) {x : Vl} {v : V} (ho : C.op = op) {env0 : En} {F0 Hs : Hp} (w0 : WdS K C σ env0 F0 Hs) (t : To K σ env0 F0 Hs env F H) (r : VR K σ env F H Hs v x) {P : Unit → En → Prop} {Z : Ex → En → Prop}
    (h : OutQ (stv i x env) P Z) : ∃ env' F', P () env' ∧ WdS K C (σ.set i (some v)) env' F' H := by
  have w := w0.to t
  subst ho
  cases x with
  | fz d => exact ⟨_, F, h, w.put hi (e := .fz d) ⟨v, rfl, r⟩ put_fz⟩
  | ow d =>
    obtain ⟨a, e, hF, q, hn⟩ := r
    subst e
    refine ⟨_, F, h, w.put hi (e := .ow d) ⟨a, rfl, hF, q⟩ fun b hb => ?_⟩
    have : b = a := by simpa [slotA] using hb
    subst this
    have nz : b ∉ ownA σ env := fun z => by
      obtain ⟨_, o, q⟩ := w0.w.own (t.le.mem z)
      rw [hn] at q; cases q
    exact ⟨nz, w0.h0 hn, w0.st.back hn⟩
  | pl j =>
    obtain ⟨e, en, h1, h2⟩ := r
    obtain ⟨o, g1, g2, g3⟩ := w.w.er.get h1
    rw [e] at g1; cases g1
    simp only [stv, h1] at h
    cases en with
    | no => exact (h2 rfl).elim
    | fz d =>
      obtain ⟨v', e', r⟩ := g2
      cases e'
      exact ⟨_, F, h, w.put hi (e := .fz d) ⟨v, rfl, r⟩ put_fz⟩
    | ow d =>
      obtain ⟨a, e', hF, r⟩ := g2
      cases e'
      obtain ⟨ob, hob, rp⟩ := r.frz hF
      have st : Stp [a] F H (upd F a ob) H := Stp.frz w.w.sb hob hF (by simp)
      have ha : a ∈ ownA σ env := g3 _ (by simp [slotA])
      have er := w.w.er.set (o' := some (.ref a)) (e' := .fz d) st w.w.nd e h1 (fun p hp => .inl (by simpa [slotA] using hp)) ⟨_, rfl, rp⟩
      rw [set_get e] at er
      have t2 : To K σ env F H (env.set j (.fz d)) (upd F a ob) H := ⟨st.weak fun b hb => .inl (by
        have : b = a := by simpa using hb
        subst this; exact ha), er, EnvLe.set h1 trivial⟩
      exact ⟨_, _, h, (w.to t2).put hi (e := .fz d) ⟨_, rfl, rp⟩ put_fz⟩
theorem snds_asg {op : List Nat} {te : TE} {m : M Vl} {i : Nat} (hi : i ∉ op) (h1 : Snd K cls W te m) : SndS K cls op W (tAsg te (gName i)) (dAsg i m) := by
  intro C σ env F H D ho w h
  refine h1 σ env F H _ w.w (h.bind.imp (fun x env1 hx F1 H1 v t1 r1 => ?_) fun c env1 h1 F1 H1 t1 => h1 σ F1 H1 (w.to t1))
  obtain ⟨env', F', p, w'⟩ := snds_stv hi ho w t1 r1 hx.bind
  exact p _ F' H1 w'
def dDrop (m : M Vl) : M Fl := mB m fun _ => ret .nx
theorem snds_drop {op : List Nat} {te : TE} {m : M Vl} (h1 : Snd K cls W te m) : SndS K cls op W (tDrop te) (dDrop m) := by
  intro C σ env F H D ho w h
  exact h1 σ env F H _ w.w (h.bind.imp (fun x env1 hx F1 H1 v t1 r1 => hx σ F1 H1 (w.to t1)) fun c env1 h1 F1 H1 t1 => h1 σ F1 H1 (w.to t1))
def dRaise (c : Ex) : M Fl := fun e => .exc c e
theorem snds_raise {op : List Nat} {c : Ex} {C0 : Addr} (hc : cls c = C0) : SndS K cls op W (fun _ σ H => W (.ref C0) none σ H) (dRaise c) := by
  intro C σ env F H D ho w h
  subst hc
  exact h σ F H w
end
end L3
end S_Le
section S_Lf
set_option maxHeartbeats 0
namespace L3
open PySem PySem.Spec PyProof.Rows L2
/-! ### what is walked -/
/-- what is frozen stands in the heap as it stood (locked or not) -/
def Kp (F H H' : Hp) : Prop := ∀ a u w, F a = some w → H a = some u → H' a = some u
theorem Kp.refl (F H : Hp) : Kp F H H := fun _ _ _ _ h => h
theorem Kp.step {F H F1 H1 F2 H2 : Hp} {O : List Addr} (k : Kp F H H1) (g : Gr F F1) (s : Stp O F1 H1 F2 H2) (n : ∀ a ∈ O, F1 a = none) : Kp F H H2 := fun a u w e h => s.kp a u (k a u w e h) fun z => by
  have := g a w e
  rw [n a z] at this; cases this
/-- the iterator J gives the data ds, whatever grows meanwhile -/
def ItOk (K : Fg) (F1 H1 : Hp) (J : It) (ds : List D) : Prop := ∀ (F2 H2 : Hp) (i : Nat), Gr F1 F2 → Sub F2 H2 → Kp F1 H1 H2 →
  (∀ d, ds[i]? = some d → J.go i H2 ∧ ∀ x H', J.yld i H2 x H' → ∃ F', Stp [] F2 H2 F' H' ∧ Rep K F' d x) ∧ (i = ds.length → J.stop i H2)
def SndI (K : Fg) (cls : Ex → Addr) (W : WX) (wi : TI) (mi : M (List D)) : Prop := ∀ (σ : L2.St) (env : En) (F H : Hp) (R : It → Hp → Prop), Wd K σ env F H →
  OutQ (mi env) (fun ds env' => ∀ J F' H', To K σ env F H env' F' H' → ItOk K F' H' J ds → R J H') (fun c env' => ∀ F' H', To K σ env F H env' F' H' → W (.ref (cls c)) none σ H') → wi σ H R
/-- a target takes a datum -/
def SndG (K : Fg) (g : TG) (tgt : D → En → Option En) (vs : List Nat) : Prop := ∀ (σ : L2.St) (env env' : En) (F H : Hp) (d : D) (v : V) (Q : L2.St → Hp → Prop), EnvR K F H σ env → Sub F H → Rep K F d v → tgt d env = some env' →
  (∀ σ', EnvR K F H σ' env' → (∀ i, i ∉ vs → σ'[i]? = σ[i]? ∧ env'[i]? = env[i]?) → (∀ i ∈ vs, ∀ d', env'[i]? ≠ some (.ow d')) → σ'.length = σ.length → Q σ' H) → g v σ H Q
def gtN (i : Nat) (d : D) (e : En) : Option En := if i < e.length then some (e.set i (.fz d)) else none
theorem EnvR.of : ∀ {K : Fg} {F H : Hp} {σ : List (Option V)} {env : En}, σ.length = env.length → (∀ (i : Nat) (e : Ent), env[i]? = some e → ∃ o : Option V, σ[i]? = some o ∧ SlotR K F H o e) → EnvR K F H σ env
  | K, F, H, [], [], _, _ => trivial
  | K, F, H, o :: σ, e :: env, h, q => by
    obtain ⟨o', h1, h2⟩ := q 0 e rfl
    have h1' : o = o' := by simpa using h1
    subst h1'
    exact ⟨h2, EnvR.of (by simpa using h) fun i e' h' => by
      obtain ⟨o'', h3, h4⟩ := q (i + 1) e' (by simpa using h')
      exact ⟨o'', by simpa using h3, h4⟩⟩
  | K, F, H, [], _ :: _, h, _ => by simp at h
  | K, F, H, _ :: _, [], h, _ => by simp at h
theorem sndG_name {K : Fg} {i : Nat} : SndG K (gName i) (gtN i) [i] := by
  intro σ env env' F H d v Q er sb r h k
  unfold gtN at h
  by_cases hi : i < env.length
  · rw [if_pos hi] at h
    cases h
    refine k _ (EnvR.of (by simp [er.len]) fun j e he => ?_) (fun j hj => ?_) (fun j hj d' he => ?_) (by simp)
    · by_cases hji : i = j
      · subst hji
        rw [List.getElem?_set_self hi] at he
        cases he
        exact ⟨some v, by rw [List.getElem?_set_self (by rw [er.len]; exact hi)], v, rfl, r⟩
      · rw [List.getElem?_set_ne hji] at he
        obtain ⟨o, g1, g2, _⟩ := er.get he
        exact ⟨o, by rw [List.getElem?_set_ne hji]; exact g1, g2⟩
    · have hji : i ≠ j := fun z => hj (by simp [z])
      rw [List.getElem?_set_ne hji, List.getElem?_set_ne hji]
      exact ⟨rfl, rfl⟩
    · have : j = i := by simpa using hj
      subst this
      rw [List.getElem?_set_self hi] at he
      cases he
  · rw [if_neg hi] at h; cases h
/-- the names a, b, .. of a tuple -/
def gtL : List Nat → List D → En → Option En
  | [], [], e => some e
  | i :: is, d :: ds, e => match gtN i d e with
    | some e' => gtL is ds e'
    | none => none
  | _, _, _ => none
def gtT (is : List Nat) (d : D) (e : En) : Option En := match d with
  | .tup ds => gtL is ds e
  | .lst ds => gtL is ds e
  | _ => none
def gNames : List Nat → TGs
  | [] => gNil
  | i :: is => gCons (gName i) (gNames is)
theorem gtN_len {i : Nat} {d : D} {e e' : En} (h : gtN i d e = some e') : e'.length = e.length := by
  unfold gtN at h
  split at h
  · cases h; simp
  · cases h
theorem names_ok {K : Fg} {F H : Hp} : ∀ (is : List Nat) (ds : List D) (vs : List V) (σ : L2.St) (env env' : En) (Q : L2.St → Hp → Prop), EnvR K F H σ env → Sub F H → Reps K F ds vs → gtL is ds env = some env' →
    (∀ σ', EnvR K F H σ' env' → (∀ i, i ∉ is → σ'[i]? = σ[i]? ∧ env'[i]? = env[i]?) → (∀ i ∈ is, ∀ d', env'[i]? ≠ some (.ow d')) → σ'.length = σ.length → Q σ' H) → gNames is vs σ H Q
  | [], [], vs, σ, env, env', Q, er, sb, r, h, k => by
    have e : vs = [] := r
    subst e
    have h' : env = env' := by simpa [gtL] using h
    subst h'
    exact ⟨rfl, k σ er (fun i _ => ⟨rfl, rfl⟩) (fun i hi => nomatch hi) rfl⟩
  | i :: is, d :: ds, vs, σ, env, env', Q, er, sb, r, h, k => by
    obtain ⟨v, r', e, r1, r2⟩ := r
    subst e
    unfold gtL at h
    cases q : gtN i d env with
    | none => rw [q] at h; cases h
    | some e1 =>
      rw [q] at h
      refine ⟨v, r', rfl, sndG_name σ env e1 F H d v _ er sb r1 q fun σ1 er1 same1 no1 len1 => ?_⟩
      refine names_ok is ds r' σ1 e1 env' Q er1 sb r2 h fun σ2 er2 same2 no2 len2 => ?_
      refine k σ2 er2 (fun j hj => ?_) (fun j hj d' he => ?_) (len2.trans len1)
      · have hj1 : j ∉ is := fun z => hj (List.mem_cons_of_mem _ z)
        have hj2 : j ∉ [i] := fun z => hj (by simp at z; simp [z])
        exact ⟨(same2 j hj1).1.trans (same1 j hj2).1, (same2 j hj1).2.trans (same1 j hj2).2⟩
      · by_cases hm : j ∈ is
        · exact no2 j hm d' he
        · have hji : j = i := by
            rcases List.mem_cons.mp hj with z | z
            · exact z
            · exact (hm z).elim
          subst hji
          rw [(same2 j hm).2] at he
          exact no1 j (by simp) d' he
  | [], _ :: _, _, _, _, _, _, _, _, _, h, _ => by cases h
  | _ :: _, [], _, _, _, _, _, _, _, _, h, _ => by cases h
theorem gtL_len : ∀ {is : List Nat} {ds : List D} {e e' : En}, gtL is ds e = some e' → ds.length = is.length
  | [], [], _, _, _ => rfl
  | i :: is, d :: ds, e, e', h => by
    unfold gtL at h
    cases q : gtN i d e with
    | none => rw [q] at h; cases h
    | some e1 =>
      rw [q] at h
      simp [gtL_len h]
  | [], _ :: _, _, _, h => by cases h
  | _ :: _, [], _, _, h => by cases h
theorem sndG_tup {K : Fg} {is : List Nat} {n : Nat} (hn : is.length = n) : SndG K (gTup K n (gNames is)) (fun d e => match d with | .tup ds => gtL is ds e | _ => none) is := by
  intro σ env env' F H d v Q er sb r h k
  cases d with
  | tup ds =>
    obtain ⟨p, vs, e, hp, rs⟩ := r
    exact ⟨p, vs, e, .inl (.inl (sb.tup hp)), by rw [rs.len, gtL_len h, hn], names_ok is ds vs σ env env' Q er sb rs h k⟩
  | _ => cases h
/-! ### loops -/
def forget : List Nat → En → En
  | [], e => e
  | i :: is, e => forget is (e.set i .no)
theorem WdS.forget {K : Fg} {C : Cn} {F H : Hp} : ∀ {is : List Nat} {σ : L2.St} {env : En}, (∀ i ∈ is, i ∉ C.op) → WdS K C σ env F H → WdS K C σ (forget is env) F H
  | [], σ, env, _, w => w
  | i :: is, σ, env, h, w => by
    have w1 : WdS K C σ (env.set i .no) F H := by
      cases q : σ[i]? with
      | none =>
        have := w.drop (i := i) (o := none) (h i List.mem_cons_self)
        rwa [List.set_eq_of_length_le (by simpa using q)] at this
      | some o =>
        have := w.drop (i := i) (o := o) (h i List.mem_cons_self)
        rwa [set_get q] at this
    exact WdS.forget (is := is) (fun j hj => h j (List.mem_cons_of_mem _ hj)) w1
def forL (fg : List Nat) (tgt : D → En → Option En) (mb : M Fl) : List D → M Fl
  | [] => fun e => .ok .nx (forget fg e)
  | d :: ds => fun e => match tgt d (forget fg e) with
    | none => .stk
    | some e1 => mB mb (fun f => match f with
      | .nx => forL fg tgt mb ds
      | .ct => forL fg tgt mb ds
      | .bk => fun e => .ok .nx (forget fg e)
      | .rt x => ret (.rt x)) e1
def dFor (fg : List Nat) (mi : M (List D)) (tgt : D → En → Option En) (mb : M Fl) : M Fl := mB mi fun ds => forL fg tgt mb ds
theorem WdS.target {K : Fg} {C : Cn} {σ σ' : L2.St} {env env' : En} {F H F' H' : Hp} {vs : List Nat} (w : WdS K C σ env F H) (t : To K σ env F H env F' H') (hv : ∀ i ∈ vs, i ∉ C.op) (er : EnvR K F' H' σ' env') (same : ∀ i, i ∉ vs → σ'[i]? = σ[i]? ∧ env'[i]? = env[i]?)
    (no : ∀ i ∈ vs, ∀ d', env'[i]? ≠ some (.ow d')) (hl : σ'.length = σ.length) (hsub : List.Sublist (ownA σ' env') (ownA σ env)) : WdS K C σ' env' F' H' := by
  have w1 := w.to t
  refine ⟨⟨er, w1.w.nd.sublist hsub, t.st.sub⟩, w1.st, fun a ha => w1.new a (hsub.subset ha), fun i d a hi he hs => ?_, fun i hi => ?_⟩
  · by_cases hm : i ∈ vs
    · exact (no i hm d he).elim
    · rw [(same i hm).2] at he
      rw [(same i hm).1] at hs
      exact w1.loc i d a hi he hs
  · have hm : i ∉ vs := fun z => hv i z hi
    rw [(same i hm).2, (same i hm).1]
    exact w1.fix i hi
theorem ownA_sub_of : ∀ {σ σ' : List (Option V)} {env env' : En}, σ'.length = σ.length → σ'.length = env'.length → σ.length = env.length → (∀ (i : Nat) (d : D), env'[i]? = some (Ent.ow d) → σ'[i]? = σ[i]? ∧ env'[i]? = env[i]?) → List.Sublist (ownA σ' env') (ownA σ env)
  | [], [], _, _, _, _, _, _ => by simp [ownA]
  | o :: σ, o' :: σ', [], _, _, _, h, _ => by simp at h
  | o :: σ, o' :: σ', e :: env, [], _, h, _, _ => by simp at h
  | o :: σ, o' :: σ', e :: env, e' :: env', h1, h2, h3, q => by
    show List.Sublist (slotA o' e' ++ ownA σ' env') (slotA o e ++ ownA σ env)
    refine List.Sublist.append ?_ (ownA_sub_of (by simpa using h1) (by simpa using h2) (by simpa using h3) fun i d he => by simpa using q (i + 1) d (by simpa using he))
    rcases slotA_one o' e' with z | ⟨a, d, z, z1, z2⟩
    · rw [z]; exact List.nil_sublist _
    · subst z2
      obtain ⟨q1, q2⟩ := q 0 d rfl
      have q1' : o' = o := by simpa using q1
      have q2' : Ent.ow d = e := by simpa using q2
      subst q1' q2'
      exact List.Sublist.refl _
  | [], _ :: _, _, _, h, _, _, _ => by simp at h
  | _ :: _, [], _, _, h, _, _, _ => by simp at h
section
variable {K : Fg} {cls : Ex → Addr} {W : WX}
theorem for_at {op fg vs : List Nat} {wi : TI} {g : TG} {tb : TS} {mi : M (List D)} {tgt : D → En → Option En} {mb : M Fl} (hf : ∀ i ∈ fg, i ∉ op) (hv : ∀ i ∈ vs, i ∉ op) (hvf : ∀ i ∈ vs, i ∈ fg) {C : Cn} {σ : L2.St} {env : En} {F H : Hp} {D : Ends} (ho : C.op = op) (w : WdS K C σ env F H)
    (hi : ∀ R : It → Hp → Prop, OutQ (mi env) (fun ds env' => ∀ J F' H', To K σ env F H env' F' H' → ItOk K F' H' J ds → R J H') (fun c env' => ∀ F' H', To K σ env F H env' F' H' → W (.ref (cls c)) none σ H') → wi σ H R) (hg : SndG K g tgt vs) (hb : SndS K cls op W tb mb)
    (h : OutQ (dFor fg mi tgt mb env) (fun f env' => ∀ σ' F' H', WdS K C σ' env' F' H' → FlQ K C D σ' F' H' f) (fun c env' => ∀ σ' F' H', WdS K C σ' env' F' H' → W (.ref (cls c)) none σ' H')) : tFor wi g tb D σ H := by
  refine hi _ (h.bind.imp (fun ds env1 h1 J F1 H1 t1 it => ?_) fun c env1 h1 F1 H1 t1 => h1 σ F1 H1 (w.to t1))
  subst ho
  refine ⟨fun i m σ' H' => m = ds.length - i ∧ i ≤ ds.length ∧ ∃ env' F', WdS K C σ' env' F' H' ∧ (Gr F1 F' ∧ Kp F1 H1 H') ∧ OutQ (forL fg tgt mb (ds.drop i) env') (fun f env' => ∀ σ' F' H', WdS K C σ' env' F' H' → FlQ K C D σ' F' H' f) (fun c env' => ∀ σ' F' H', WdS K C σ' env' F' H' → W (.ref (cls c)) none σ' H'),
    ⟨ds.length, by simp, Nat.zero_le _, env1, F1, w.to t1, ⟨Gr.refl _, Kp.refl _ _⟩, h1⟩, ?_⟩
  rintro i m σ2 H2 ⟨rfl, hile, env2, F2, w2, ⟨gr2, kp2⟩, h2⟩
  obtain ⟨ok1, ok2⟩ := it F2 H2 i gr2 w2.w.sb kp2
  cases q : ds[i]? with
  | none =>
    have hl : ds.length ≤ i := by simpa using q
    rw [List.drop_eq_nil_of_le hl] at h2
    exact .inl ⟨ok2 (by omega), h2 σ2 F2 H2 (w2.forget hf)⟩
  | some d =>
    have hlt : i < ds.length := (List.getElem?_eq_some_iff.mp q).1
    have hd : ds.drop i = d :: ds.drop (i + 1) := by
      rw [List.drop_eq_getElem_cons hlt]
      rw [(List.getElem?_eq_some_iff.mp q).2]
    rw [hd] at h2
    obtain ⟨go, yld⟩ := ok1 d q
    refine .inr ⟨go, fun σ' H' => ∃ env' F', WdS K C σ' env' F' H' ∧ (Gr F1 F' ∧ Kp F1 H1 H') ∧ OutQ (forL fg tgt mb (ds.drop (i + 1)) env') (fun f env' => ∀ σ' F' H', WdS K C σ' env' F' H' → FlQ K C D σ' F' H' f) (fun c env' => ∀ σ' F' H', WdS K C σ' env' F' H' → W (.ref (cls c)) none σ' H'),
      fun σ' H' z => ⟨ds.length - (i + 1), by omega, rfl, hlt, z⟩, fun x H3 y => ?_⟩
    obtain ⟨F3, st3, rx⟩ := yld x H3 y
    have w2' := w2.forget hf
    have t3 := w2'.w.step st3 fun _ z => nomatch z
    have w3 := w2'.to t3
    show g x σ2 H3 _
    have h2' : OutQ (match tgt d (forget fg env2) with
      | none => (.stk : Out Fl)
      | some e1 => mB mb (fun f => match f with
        | .nx => forL fg tgt mb (ds.drop (i + 1))
        | .ct => forL fg tgt mb (ds.drop (i + 1))
        | .bk => fun e => .ok .nx (forget fg e)
        | .rt x => ret (.rt x)) e1) (fun f env' => ∀ σ' F' H', WdS K C σ' env' F' H' → FlQ K C D σ' F' H' f) (fun c env' => ∀ σ' F' H', WdS K C σ' env' F' H' → W (.ref (cls c)) none σ' H') := h2
    cases qt : tgt d (forget fg env2) with
    | none => rw [qt] at h2'; exact h2'.elim
    | some e1 =>
      rw [qt] at h2'
      refine hg σ2 (forget fg env2) e1 F3 H3 d x _ w3.w.er w3.w.sb rx qt fun σ4 er4 same4 no4 len4 => ?_
      have w4 : WdS K C σ4 e1 F3 H3 := by
        refine w3.target (To.refl w3.w) hv er4 same4 no4 len4 (ownA_sub_of len4 er4.len w3.w.er.len fun j d' hj => ?_)
        by_cases hm : j ∈ vs
        · exact (no4 j hm d' hj).elim
        · exact same4 j hm
      have gr3 : Gr F1 F3 := gr2.trans st3.gr
      have kp3 : Kp F1 H1 H3 := kp2.step gr2 st3 fun _ z => nomatch z
      refine hb { C with O1 := ownA σ4 e1, F1 := F3, H1 := H3, le := fun a ha => w4.h0 ha } σ4 e1 F3 H3 _ rfl ⟨w4.w, Stp.refl w4.w.sb, fun a ha => .inl ha, w4.loc, w4.fix⟩ (OutQ.imp (OutQ.bind h2') (fun f env5 h5 σ5 F5 H5 w5 => ?_) fun c env5 h5 σ5 F5 H5 w5 => h5 σ5 F5 H5 ?_)
      · have w5' : WdS K C σ5 env5 F5 H5 := ⟨w5.w, w4.st.trans w5.st w4.new, fun a ha => by
          rcases w5.new a ha with z | z
          · exact w4.new a z
          · exact .inr (w4.st.back z), w5.loc, w5.fix⟩
        have gr5 : Gr F1 F5 ∧ Kp F1 H1 H5 := ⟨gr3.trans w5.st.gr, kp3.step gr3 w5.st fun a ha => (w4.w.own ha).1⟩
        cases f with
        | nx => exact ⟨env5, F5, w5', gr5, h5⟩
        | ct => exact ⟨env5, F5, w5', gr5, h5⟩
        | bk => exact h5 σ5 F5 H5 (w5'.forget hf)
        | rt x => exact h5 σ5 F5 H5 w5'
      · exact ⟨w5.w, w4.st.trans w5.st w4.new, fun a ha => by
          rcases w5.new a ha with z | z
          · exact w4.new a z
          · exact .inr (w4.st.back z), w5.loc, w5.fix⟩
theorem snds_for {op fg vs : List Nat} {wi : TI} {g : TG} {tb : TS} {mi : M (List D)} {tgt : D → En → Option En} {mb : M Fl} (hf : ∀ i ∈ fg, i ∉ op) (hv : ∀ i ∈ vs, i ∉ op) (hvf : ∀ i ∈ vs, i ∈ fg) (hi : SndI K cls W wi mi) (hg : SndG K g tgt vs) (hb : SndS K cls op W tb mb) :
    SndS K cls op W (tFor wi g tb) (dFor fg mi tgt mb) := fun C σ env F H D ho w h => for_at hf hv hvf ho w (fun R q => hi σ env F H R w.w q) hg hb h
end
end L3
end S_Lf
section S_Lg
set_option maxHeartbeats 0
namespace L3
open PySem PySem.Spec PyProof.Rows L2
section
variable {K : Fg} {σ : L2.St} {env env' env2 : En} {F H F' H' F2 H2 H0 H1 : Hp} {v : V} {cls : Ex → Addr} {W : WX}
/-! ### lists, tuples, ranges walked -/
def lstOf : D → M (List D)
  | .lst ds => ret ds
  | _ => fun _ => .stk
def tupOf : D → M (List D)
  | .tup ds => ret ds
  | _ => fun _ => .stk
def dIL (m : M Vl) : M (List D) := mB m fun x => mB (frz x) lstOf
def dIT (m : M Vl) : M (List D) := mB m fun x => mB (frz x) tupOf
theorem Reps.get : ∀ {ds : List D} {vs : List V} {i : Nat} {d : D}, Reps K F ds vs → ds[i]? = some d → ∃ v, vs[i]? = some v ∧ Rep K F d v
  | [], _, _, _, _, q => by simp at q
  | d :: ds, _, 0, d', ⟨v, r, e, h, _⟩, q => by
    have q' : d = d' := by simpa using q
    subst q' e
    exact ⟨v, rfl, h⟩
  | d :: ds, _, i + 1, d', ⟨v, r, e, _, h⟩, q => by
    subst e
    obtain ⟨v', h1, h2⟩ := Reps.get (i := i) h (by simpa using q)
    exact ⟨v', by simpa using h1, h2⟩
theorem itOk_list {p : Addr} {vs : List V} {ds : List D} (hp : F p = some (.lst vs)) (rs : Reps K F ds vs) : ItOk K F H (Itl K p) ds := by
  intro F2 H2 i g sb _
  have hq : SqL K H2 p vs := .inl (.inl (sb.lst (g _ _ hp)))
  refine ⟨fun d hd => ?_, fun hi => ⟨vs, hq, by rw [rs.len]; omega⟩⟩
  obtain ⟨v, hv, rv⟩ := rs.get hd
  refine ⟨⟨vs, v, hq, hv⟩, fun x H' y => ?_⟩
  obtain ⟨e, y⟩ := y
  subst e
  have := y vs hq
  rw [hv] at this; cases this
  exact ⟨F2, Stp.refl sb, Rep.mono g d rv⟩
theorem itOk_tup {p : Addr} {vs : List V} {ds : List D} (hp : F p = some (.tup vs)) (rs : Reps K F ds vs) : ItOk K F H (Itt K p) ds := by
  intro F2 H2 i g sb _
  have hq : SqT K H2 p vs := .inl (.inl (sb.tup (g _ _ hp)))
  refine ⟨fun d hd => ?_, fun hi => ⟨vs, hq, by rw [rs.len]; omega⟩⟩
  obtain ⟨v, hv, rv⟩ := rs.get hd
  refine ⟨⟨vs, v, hq, hv⟩, fun x H' y => ?_⟩
  obtain ⟨e, y⟩ := y
  subst e
  have := y vs hq
  rw [hv] at this; cases this
  exact ⟨F2, Stp.refl sb, Rep.mono g d rv⟩
theorem sndI_list {tl : TE} {m : M Vl} (h1 : Snd K cls W tl m) : SndI K cls W (iList K tl) (dIL m) := by
  intro σ env F H R w h
  refine h1 σ env F H _ w (h.bind.imp (fun x env1 h1 F1 H1 v t1 r1 => ?_) fun c env1 h1 => h1)
  obtain ⟨d, env2, F2, h2, rp, t2, g2⟩ := To.frz w t1 r1 h1.bind
  cases d with
  | lst ds =>
    obtain ⟨p, vs, e, hp, rs⟩ := rp
    exact ⟨p, e, ⟨vs, .inl (.inl ((w.to t2).sb.lst hp))⟩, h2 _ F2 H1 t2 (itOk_list hp rs)⟩
  | _ => exact h2.elim
theorem sndI_tup {tl : TE} {m : M Vl} (h1 : Snd K cls W tl m) : SndI K cls W (iTup K tl) (dIT m) := by
  intro σ env F H R w h
  refine h1 σ env F H _ w (h.bind.imp (fun x env1 h1 F1 H1 v t1 r1 => ?_) fun c env1 h1 => h1)
  obtain ⟨d, env2, F2, h2, rp, t2, g2⟩ := To.frz w t1 r1 h1.bind
  cases d with
  | tup ds =>
    obtain ⟨p, vs, e, hp, rs⟩ := rp
    exact ⟨p, e, ⟨vs, .inl (.inl ((w.to t2).sb.tup hp))⟩, h2 _ F2 H1 t2 (itOk_tup hp rs)⟩
  | _ => exact h2.elim
/-- the ints lo, lo + 1, .. -/
def rgD (lo : Int) (n : Nat) : List D := (List.range n).map fun (i : Nat) => D.int (lo + i)
def rgOf : List D → M (List D)
  | [.int j] => if -(2 ^ 62) ≤ j ∧ j < 2 ^ 62 then ret (rgD 0 j.toNat) else fun _ => .stk
  | [.int i, .int j] => if -(2 ^ 62) ≤ i ∧ i < 2 ^ 62 ∧ -(2 ^ 62) ≤ j ∧ j < 2 ^ 62 then ret (rgD i (j - i).toNat) else fun _ => .stk
  | _ => fun _ => .stk
def dIR (n : M (List Vl)) : M (List D) := mB n fun xs => mB (pks xs) rgOf
theorem itOk_range {lo : Int} {n : Nat} : ItOk K F H (Itr lo n) (rgD lo n) := by
  intro F2 H2 i g sb _
  refine ⟨fun d hd => ?_, fun hi => by show n ≤ i; simp [rgD] at hi; omega⟩
  have hlt : i < n := by
    have := (List.getElem?_eq_some_iff.mp hd).1
    simpa [rgD] using this
  have e : d = .int (lo + i) := by
    unfold rgD at hd
    rw [List.getElem?_map, List.getElem?_range hlt] at hd
    simpa using hd.symm
  subst e
  refine ⟨hlt, fun x H' y => ?_⟩
  obtain ⟨e1, e2⟩ := y
  subst e1 e2
  exact ⟨F2, Stp.refl sb, rfl⟩
theorem RBs.one {d : D} {vs : List V} (h : RBs K F H [d] vs) : ∃ v, vs = [v] ∧ RB K F H d v := by
  match vs, h with
  | [v], h => exact ⟨v, rfl, h.1⟩
theorem RBs.two {d e : D} {vs : List V} (h : RBs K F H [d, e] vs) : ∃ v u, vs = [v, u] ∧ RB K F H d v ∧ RB K F H e u := by
  match vs, h with
  | [v, u], h => exact ⟨v, u, rfl, h.1, h.2.1⟩
theorem sndI_range1 {ta : TA} {n : M (List Vl)} (h1 : SndA K cls W ta n) : SndI K cls W (iRng1 ta) (mB n fun xs => mB (pks xs) fun ds => match ds with
    | [.int j] => if -(2 ^ 62) ≤ j ∧ j < 2 ^ 62 then ret (rgD 0 j.toNat) else fun _ => .stk
    | _ => fun _ => .stk) := by
  intro σ env F H R w h
  refine h1 σ env F H _ w (h.bind.imp (fun xs env1 h1 F1 H1 vs t1 r1 nd => ?_) fun c env1 h1 => h1)
  obtain ⟨ds, ea, h2⟩ := h1.bind.pks
  have rb := r1.rbs (w.to t1) ea
  split at h2
  · obtain ⟨v, e, hv⟩ := rb.one
    subst e
    split at h2
    · rename_i hj
      exact ⟨_, by rw [show v = _ from hv], hj.1, hj.2, h2 _ F1 H1 t1 itOk_range⟩
    · exact h2.elim
  · exact h2.elim
theorem sndI_range2 {ta : TA} {n : M (List Vl)} (h1 : SndA K cls W ta n) : SndI K cls W (iRng2 ta) (mB n fun xs => mB (pks xs) fun ds => match ds with
    | [.int i, .int j] => if -(2 ^ 62) ≤ i ∧ i < 2 ^ 62 ∧ -(2 ^ 62) ≤ j ∧ j < 2 ^ 62 then ret (rgD i (j - i).toNat) else fun _ => .stk
    | _ => fun _ => .stk) := by
  intro σ env F H R w h
  refine h1 σ env F H _ w (h.bind.imp (fun xs env1 h1 F1 H1 vs t1 r1 nd => ?_) fun c env1 h1 => h1)
  obtain ⟨ds, ea, h2⟩ := h1.bind.pks
  have rb := r1.rbs (w.to t1) ea
  split at h2
  · obtain ⟨v, u, e, hv, hu⟩ := rb.two
    subst e
    split at h2
    · rename_i hj
      exact ⟨_, _, by rw [show v = _ from hv, show u = _ from hu], hj, h2 _ F1 H1 t1 itOk_range⟩
    · exact h2.elim
  · exact h2.elim
end
/-! ### list comprehensions -/
def wipeE : List Nat → En → En
  | [], e => e
  | v :: vs, e => (wipeE vs e).set v .no
/-- the comprehension's own names as they were -/
def unwipe : List Nat → En → En → En
  | [], _, e => e
  | v :: vs, e0, e => (unwipe vs e0 e).set v (e0.getD v .no)
def noX {α : Type} (m : M α) : M α := fun e => match m e with
  | .exc _ _ => .stk
  | o => o
theorem noX_ok {α : Type} {m : M α} {e : En} {P : α → En → Prop} {Z : Ex → En → Prop} (h : OutQ (noX m e) P Z) : OutQ (m e) P fun _ _ => False := by
  unfold noX at h
  cases q : m e with
  | ok a e' => rw [q] at h; exact h
  | exc c e' => rw [q] at h; exact h.elim
  | stk => rw [q] at h; exact h.elim
def lcL (vs : List Nat) (tgt : D → En → Option En) (mt : M Bool) (me : M Vl) : List D → List D → M (List D)
  | [], acc => fun e => .ok acc (wipeE vs e)
  | d :: ds, acc => fun e => match tgt d (wipeE vs e) with
    | none => .stk
    | some e1 => mB (noX mt) (fun b => if b = true then mB (noX me) fun x => mB (frz x) fun y => if acc.length < 16777216 then lcL vs tgt mt me ds (acc ++ [y]) else fun _ => .stk else lcL vs tgt mt me ds acc) e1
def dLc (vs : List Nat) (mi : M (List D)) (tgt : D → En → Option En) (mt : M Bool) (me : M Vl) : M Vl := mB mi fun ds => fun e => match lcL vs tgt mt me ds [] e with
  | .ok acc e' => .ok (.ow (.lst acc)) (unwipe vs e e')
  | .exc c e' => .exc c e'
  | .stk => .stk
theorem wipeE_len (e : En) : ∀ vs : List Nat, (wipeE vs e).length = e.length
  | [] => rfl
  | v :: vs => by unfold wipeE; rw [List.length_set, wipeE_len e vs]
theorem unwipe_len (e0 e : En) : ∀ vs : List Nat, (unwipe vs e0 e).length = e.length
  | [] => rfl
  | v :: vs => by unfold unwipe; rw [List.length_set, unwipe_len e0 e vs]
theorem wipeE_get {e : En} {i : Nat} {x : Ent} : ∀ {vs : List Nat}, (wipeE vs e)[i]? = some x → (i ∈ vs ∧ x = .no) ∨ (i ∉ vs ∧ e[i]? = some x)
  | [], h => .inr ⟨by simp, h⟩
  | v :: vs, h => by
    unfold wipeE at h
    by_cases hi : v = i
    · subst hi
      by_cases hv : v < (wipeE vs e).length
      · rw [List.getElem?_set_self hv] at h; cases h; exact .inl ⟨by simp, rfl⟩
      · rw [List.getElem?_eq_none (by simpa using hv)] at h; cases h
    · rw [List.getElem?_set_ne hi] at h
      rcases wipeE_get h with ⟨h1, h2⟩ | ⟨h1, h2⟩
      · exact .inl ⟨by simp [h1], h2⟩
      · exact .inr ⟨by simp only [List.mem_cons, not_or]; exact ⟨fun e => hi e.symm, h1⟩, h2⟩
theorem wipe_off {σ : L2.St} {i : Nat} : ∀ {vs : List Nat}, i ∉ vs → (wipe σ vs)[i]? = σ[i]?
  | [], _ => rfl
  | v :: vs, h => by
    unfold wipe
    rw [List.getElem?_set_ne (fun e => h (by simp [e])), wipe_off (fun z => h (List.mem_cons_of_mem _ z))]
theorem wipe_on {σ : L2.St} {i : Nat} (hl : i < σ.length) : ∀ {vs : List Nat}, i ∈ vs → (wipe σ vs)[i]? = some none
  | v :: vs, h => by
    unfold wipe
    by_cases hv : v = i
    · subst hv; rw [List.getElem?_set_self (by rw [wipe_length]; exact hl)]
    · rw [List.getElem?_set_ne hv]
      exact wipe_on hl (by rcases List.mem_cons.mp h with z | z; exact (hv z.symm).elim; exact z)
theorem unwipe_get {e0 e : En} {i : Nat} {x : Ent} (hl : e.length = e0.length) : ∀ {vs : List Nat}, (unwipe vs e0 e)[i]? = some x → (i ∈ vs ∧ e0[i]? = some x) ∨ (i ∉ vs ∧ e[i]? = some x)
  | [], h => .inr ⟨by simp, h⟩
  | v :: vs, h => by
    unfold unwipe at h
    by_cases hi : v = i
    · subst hi
      by_cases hv : v < (unwipe vs e0 e).length
      · rw [List.getElem?_set_self hv] at h
        rw [unwipe_len, hl] at hv
        refine .inl ⟨by simp, ?_⟩
        rw [List.getD_eq_getElem?_getD, List.getElem?_eq_getElem hv] at h
        rw [List.getElem?_eq_getElem hv]
        simpa using h
      · rw [List.getElem?_eq_none (by simpa using hv)] at h; cases h
    · rw [List.getElem?_set_ne hi] at h
      rcases unwipe_get hl h with ⟨h1, h2⟩ | ⟨h1, h2⟩
      · exact .inl ⟨by simp [h1], h2⟩
      · exact .inr ⟨by simp only [List.mem_cons, not_or]; exact ⟨fun e => hi e.symm, h1⟩, h2⟩
theorem EnvLe.of : ∀ {a b : En}, b.length = a.length → (∀ (i : Nat) (x y : Ent), a[i]? = some x → b[i]? = some y → EntLe x y) → EnvLe a b
  | [], [], _, _ => trivial
  | x :: a, y :: b, h, q => ⟨q 0 x y rfl rfl, EnvLe.of (by simpa using h) fun i x' y' h1 h2 => q (i + 1) x' y' (by simpa using h1) (by simpa using h2)⟩
  | [], _ :: _, h, _ => by simp at h
  | _ :: _, [], h, _ => by simp at h
section
variable {K : Fg} {cls : Ex → Addr} {W : WX}
abbrev W0 : WX := fun _ _ _ _ => False
theorem Wd.wiped {σ : L2.St} {env : En} {F H : Hp} (w : Wd K σ env F H) (vs : List Nat) : Wd K (wipe σ vs) (wipeE vs env) F H := by
  have hl : (wipe σ vs).length = (wipeE vs env).length := by rw [wipe_length, wipeE_len, w.er.len]
  refine ⟨EnvR.of hl fun i e he => ?_, w.nd.sublist (ownA_sub_of (by rw [wipe_length]) hl w.er.len fun i d hd => ?_), w.sb⟩
  · rcases wipeE_get he with ⟨h1, h2⟩ | ⟨h1, h2⟩
    · subst h2
      have hi : i < σ.length := by
        have := (List.getElem?_eq_some_iff.mp he).1
        rw [wipeE_len] at this
        rw [w.er.len]; exact this
      exact ⟨none, wipe_on hi h1, trivial⟩
    · obtain ⟨o, g1, g2, _⟩ := w.er.get h2
      exact ⟨o, by rw [wipe_off h1]; exact g1, g2⟩
  · rcases wipeE_get hd with ⟨h1, h2⟩ | ⟨h1, h2⟩
    · cases h2
    · exact ⟨wipe_off h1, by rw [h2]; exact hd⟩
theorem own_apart {σ : L2.St} {e0 : En} {F0 H0 : Hp} {i : Nat} {a : Addr} {d : D} (w0 : Wd K σ e0 F0 H0) (vs : List Nat) (h1 : i ∈ vs) (g1 : σ[i]? = some (some (.ref a))) (h2 : e0[i]? = some (.ow d)) (hO : a ∈ ownA (wipe σ vs) (wipeE vs e0)) : False := by
  have key : ∀ (σ σ' : L2.St) (e e' : En) (i : Nat), (ownA σ e).Nodup → σ'.length = σ.length → σ'.length = e'.length → σ.length = e.length → (∀ (j : Nat) (d : D), e'[j]? = some (Ent.ow d) → σ'[j]? = σ[j]? ∧ e'[j]? = e[j]?) → (∀ d, e'[i]? ≠ some (Ent.ow d)) → σ[i]? = some (some (.ref a)) → e[i]? = some (.ow d) → a ∈ ownA σ' e' → False := by
    intro σ
    induction σ with
    | nil => intro σ' e e' i _ _ _ _ _ _ h; simp at h
    | cons o σ ih =>
      intro σ' e e' i nd hl1 hl2 hl3 hs hn hg he ha
      match σ', e, e', hl1, hl2, hl3 with
      | o' :: σ', x :: e, y :: e', hl1, hl2, hl3 =>
        obtain ⟨n1, n2, dj⟩ := List.nodup_append.mp (show (slotA o x ++ ownA σ e).Nodup from nd)
        have sub := ownA_sub_of (σ := σ) (σ' := σ') (env := e) (env' := e') (by simpa using hl1) (by simpa using hl2) (by simpa using hl3) fun j d hj => by simpa using hs (j + 1) d (by simpa using hj)
        rcases List.mem_append.mp (show a ∈ slotA o' y ++ ownA σ' e' from ha) with z | z
        · cases i with
          | zero =>
            rcases slotA_one o' y with q | ⟨b, d', q, q1, q2⟩
            · rw [q] at z; cases z
            · subst q2; exact hn d' rfl
          | succ i =>
            rcases slotA_one o' y with q | ⟨b, d', q, q1, q2⟩
            · rw [q] at z; cases z
            · subst q2
              obtain ⟨s1, s2⟩ := hs 0 d' rfl
              have s1' : o' = o := by simpa using s1
              have s2' : Ent.ow d' = x := by simpa using s2
              subst s1' s2'
              exact dj a z a (slotA_mem_own (i := i) (by simpa using hg) (by simpa using he) (by simp [slotA])) rfl
        · cases i with
          | zero =>
            have hg' : o = some (.ref a) := by simpa using hg
            have he' : x = .ow d := by simpa using he
            subst hg' he'
            exact dj a (by simp [slotA]) a (sub.subset z) rfl
          | succ i => exact ih σ' e e' i n2 (by simpa using hl1) (by simpa using hl2) (by simpa using hl3) (fun j d hj => by simpa using hs (j + 1) d (by simpa using hj)) (fun d hd => hn d (by simpa using hd)) (by simpa using hg) (by simpa using he) z
      | [], _, _, hl1, _, _ => simp at hl1
      | _ :: _, [], _, _, _, hl3 => simp at hl3
      | _ :: _, _ :: _, [], _, hl2, _ => simp at hl2
  refine key σ (wipe σ vs) e0 (wipeE vs e0) i w0.nd (by rw [wipe_length]) (by rw [wipe_length, wipeE_len, w0.er.len]) w0.er.len (fun j d hj => ?_) (fun d hd => ?_) g1 h2 hO
  · rcases wipeE_get hj with ⟨h1, h2⟩ | ⟨h1, h2⟩
    · cases h2
    · exact ⟨wipe_off h1, by rw [h2]; exact hj⟩
  · rcases wipeE_get hd with ⟨h1, h2⟩ | ⟨z1, z2⟩
    · cases h2
    · exact z1 h1
/-- behind a comprehension its own names are as they were -/
theorem To.unwiped {σ : L2.St} {e0 e' : En} {F0 H0 F' H' : Hp} {vs : List Nat} (w0 : Wd K σ e0 F0 H0) (st : Stp (ownA (wipe σ vs) (wipeE vs e0)) F0 H0 F' H') (er : EnvR K F' H' (wipe σ vs) (wipeE vs e')) (le : EnvLe (wipeE vs e0) (wipeE vs e')) : To K σ e0 F0 H0 (unwipe vs e0 (wipeE vs e')) F' H' := by
  have hl : (wipeE vs e').length = e0.length := by rw [le.len, wipeE_len]
  have wv := w0.wiped vs
  have osub : ∀ a ∈ ownA (wipe σ vs) (wipeE vs e0), a ∈ ownA σ e0 := fun a ha => (ownA_sub_of (by rw [wipe_length]) (by rw [wipe_length, wipeE_len, w0.er.len]) w0.er.len (fun i d hd => by
    rcases wipeE_get hd with ⟨h1, h2⟩ | ⟨h1, h2⟩
    · cases h2
    · exact ⟨wipe_off h1, by rw [h2]; exact hd⟩)).subset ha
  refine ⟨st.weak fun a ha => .inl (osub a ha), EnvR.of (by rw [unwipe_len, hl, w0.er.len]) fun i e he => ?_, EnvLe.of (by rw [unwipe_len, hl]) fun i x y hx hy => ?_⟩
  · rcases unwipe_get hl he with ⟨h1, h2⟩ | ⟨h1, h2⟩
    · obtain ⟨o, g1, g2, g3⟩ := w0.er.get h2
      refine ⟨o, g1, g2.keep st fun a ha hO => ?_⟩
      -- the slot's own object is none of the block's
      rcases slotA_one o e with z | ⟨b, d, z, z1, z2⟩
      · rw [z] at ha; cases ha
      · subst z1 z2
        have : a = b := by simpa [slotA] using ha
        subst this
        exact own_apart w0 vs h1 g1 h2 hO
    · obtain ⟨o, g1, g2, _⟩ := er.get h2
      rw [wipe_off h1] at g1
      exact ⟨o, g1, g2⟩
  · rcases unwipe_get hl hy with ⟨h1, h2⟩ | ⟨h1, h2⟩
    · rw [hx] at h2; cases h2
      exact EntLe.refl _
    · have hx' : (wipeE vs e0)[i]? = some x := by
        have hi : i < (wipeE vs e0).length := by rw [wipeE_len]; exact (List.getElem?_eq_some_iff.mp hx).1
        have q := List.getElem?_eq_getElem hi
        rcases wipeE_get q with ⟨z1, z2⟩ | ⟨z1, z2⟩
        · exact (h1 z1).elim
        · rw [hx] at z2; cases z2; exact q
      obtain ⟨y', q1, q2⟩ := le.get hx'
      rw [h2] at q1; cases q1
      exact q2
theorem Reps.snoc {F : Hp} : ∀ {ds : List D} {vs : List V} {d : D} {v : V}, Reps K F ds vs → Rep K F d v → Reps K F (ds ++ [d]) (vs ++ [v])
  | [], _, d, v, h, r => by rw [show _ = [] from h]; exact ⟨v, [], rfl, r, rfl⟩
  | a :: ds, _, d, v, ⟨u, t, e, h1, h2⟩, r => by subst e; exact ⟨u, t ++ [v], rfl, h1, Reps.snoc h2 r⟩
theorem wipe_eq {σ σ' : L2.St} {vs : List Nat} (hl : σ'.length = σ.length) (h : ∀ i, i ∉ vs → σ'[i]? = σ[i]?) : wipe σ' vs = wipe σ vs := by
  refine List.ext_getElem? fun i => ?_
  by_cases hi : i ∈ vs
  · by_cases hlt : i < σ.length
    · rw [wipe_on hlt hi, wipe_on (by rw [hl]; exact hlt) hi]
    · rw [List.getElem?_eq_none (by rw [wipe_length]; omega), List.getElem?_eq_none (by rw [wipe_length]; omega)]
  · rw [wipe_off hi, wipe_off hi, h i hi]
theorem wipe_wipe {σ : L2.St} {vs : List Nat} : wipe (wipe σ vs) vs = wipe σ vs := wipe_eq (wipe_length σ vs) fun i hi => wipe_off hi
theorem lc_at {vs : List Nat} {wi : TI} {g : TG} {tt : TT} {te : TE} {mi : M (List D)} {tgt : D → En → Option En} {mt : M Bool} {me : M Vl} {vt : List Nat} (hv : ∀ i ∈ vt, i ∈ vs) {σ : L2.St} {env : En} {F H : Hp} {Q : VK} (w : Wd K σ env F H)
    (hi : ∀ R : It → Hp → Prop, OutQ (mi env) (fun ds env' => ∀ J F' H', To K σ env F H env' F' H' → ItOk K F' H' J ds → R J H') (fun c env' => ∀ F' H', To K σ env F H env' F' H' → W (.ref (cls c)) none σ H') → wi σ H R) (hg : SndG K g tgt vt) (ht : SndT K cls W0 tt mt) (he : Snd K cls W0 te me)
    (h : OutQ (dLc vs mi tgt mt me env) (fun x env' => ∀ F' H' v, To K σ env F H env' F' H' → VR K σ env' F' H' H v x → Q v H') (fun c env' => ∀ F' H', To K σ env F H env' F' H' → W (.ref (cls c)) none σ H')) : tLc wi g tt te vs σ H Q := by
  refine hi _ (h.bind.imp (fun ds env1 h1 J F1 H1 t1 it => ?_) fun c env1 h1 => h1)
  intro D0 hD
  have w1 := w.to t1
  have wv := w1.wiped vs
  have h1' : OutQ (lcL vs tgt mt me ds [] env1) (fun acc e' => ∀ F' H' v, To K σ env F H (unwipe vs env1 e') F' H' → VR K σ (unwipe vs env1 e') F' H' H v (.ow (.lst acc)) → Q v H') (fun _ _ => True) := by
    cases q : lcL vs tgt mt me ds [] env1 with
    | ok acc e' => simp only [q] at h1; exact h1
    | exc c e' => trivial
    | stk => simp only [q] at h1; exact h1
  clear h1
  have hDo : D0 ∉ ownA (wipe σ vs) (wipeE vs env1) := wv.ownNone hD
  -- behind i turns
  refine ⟨fun i m H' => m = ds.length - i ∧ i ≤ ds.length ∧ ∃ e' F' acc, EnvR K F' H' (wipe σ vs) (wipeE vs e') ∧ EnvLe (wipeE vs env1) (wipeE vs e') ∧ Stp (ownA (wipe σ vs) (wipeE vs env1)) F1 H1 F' H' ∧ F' D0 = none ∧ OwnAt K F' H' D0 (.lst acc) ∧
      OutQ (lcL vs tgt mt me (ds.drop i) acc e') (fun acc e' => ∀ F' H' v, To K σ env F H (unwipe vs env1 e') F' H' → VR K σ (unwipe vs env1 e') F' H' H v (.ow (.lst acc)) → Q v H') (fun _ _ => True), ⟨ds.length, by simp, Nat.zero_le _, env1, F1, [], ?_, EnvLe.refl _, Stp.new w1.sb hD, w1.sb.none hD, ⟨[], upd_same, rfl⟩, h1'⟩, ?_⟩
  · exact wv.er.keep (Stp.new (O := []) w1.sb hD) fun _ _ z => nomatch z
  · rintro i m H2 ⟨rfl, hile, e2, F2, acc, er2, le2, st2, fD2, oD2, h2⟩
    have gr2 : Gr F1 F2 := st2.gr
    obtain ⟨ok1, ok2⟩ := it F2 H2 i gr2 st2.sub ((Kp.refl F1 H1).step (Gr.refl _) st2 fun a ha => (wv.own ha).1)
    cases q : ds[i]? with
    | none =>
      have hl : ds.length ≤ i := by simpa using q
      rw [List.drop_eq_nil_of_le hl] at h2
      refine .inl ⟨ok2 (by omega), ?_⟩
      have tu := To.unwiped w1 st2 er2 le2
      exact h2 F2 H2 (.ref D0) (t1.trans tu) ⟨D0, rfl, fD2, oD2, t1.st.back hD⟩
    | some d =>
      have hlt : i < ds.length := (List.getElem?_eq_some_iff.mp q).1
      have hd : ds.drop i = d :: ds.drop (i + 1) := by
        rw [List.drop_eq_getElem_cons hlt]
        rw [(List.getElem?_eq_some_iff.mp q).2]
      rw [hd] at h2
      obtain ⟨go, yld⟩ := ok1 d q
      refine .inr ⟨go, fun H' => i + 1 ≤ ds.length ∧ ∃ e' F' acc, EnvR K F' H' (wipe σ vs) (wipeE vs e') ∧ EnvLe (wipeE vs env1) (wipeE vs e') ∧ Stp (ownA (wipe σ vs) (wipeE vs env1)) F1 H1 F' H' ∧ F' D0 = none ∧ OwnAt K F' H' D0 (.lst acc) ∧
        OutQ (lcL vs tgt mt me (ds.drop (i + 1)) acc e') (fun acc e' => ∀ F' H' v, To K σ env F H (unwipe vs env1 e') F' H' → VR K σ (unwipe vs env1 e') F' H' H v (.ow (.lst acc)) → Q v H') (fun _ _ => True),
        fun H' z => ⟨ds.length - (i + 1), by omega, rfl, z⟩, fun x H3 y => ?_⟩
      obtain ⟨F3, st3, rx⟩ := yld x H3 y
      have nd2 : (ownA (wipe σ vs) (wipeE vs e2)).Nodup := wv.nd.sublist le2.sub
      have wd2 : Wd K (wipe σ vs) (wipeE vs e2) F2 H2 := ⟨er2, nd2, st2.sub⟩
      have t3 := wd2.step st3 fun _ z => nomatch z
      have wd3 := wd2.to t3
      obtain ⟨fD3, oD3⟩ := st3.ownAt (a := D0) (by simp) fD2 oD2
      show g x (wipe σ vs) H3 _
      have h2' : OutQ (match tgt d (wipeE vs e2) with
        | none => (.stk : Out (List D))
        | some e1 => mB (noX mt) (fun b => if b = true then mB (noX me) fun x => mB (frz x) fun y => if acc.length < 16777216 then lcL vs tgt mt me (ds.drop (i + 1)) (acc ++ [y]) else fun _ => .stk else lcL vs tgt mt me (ds.drop (i + 1)) acc) e1) (fun acc e' => ∀ F' H' v, To K σ env F H (unwipe vs env1 e') F' H' → VR K σ (unwipe vs env1 e') F' H' H v (.ow (.lst acc)) → Q v H') (fun _ _ => True) := h2
      cases qt : tgt d (wipeE vs e2) with
      | none => rw [qt] at h2'; exact h2'.elim
      | some e4 =>
        rw [qt] at h2'
        refine hg (wipe σ vs) (wipeE vs e2) e4 F3 H3 d x _ wd3.er wd3.sb rx qt fun σ4 er4 same4 no4 len4 => ?_
        have sub4 : List.Sublist (ownA σ4 e4) (ownA (wipe σ vs) (wipeE vs e2)) := ownA_sub_of len4 er4.len wd3.er.len fun j d' hj => by
          by_cases hm : j ∈ vt
          · exact (no4 j hm d' hj).elim
          · exact same4 j hm
        have wd4 : Wd K σ4 e4 F3 H3 := ⟨er4, nd2.sublist sub4, wd3.sb⟩
        have eqw : wipe σ4 vs = wipe σ vs := by
          have := wipe_eq (vs := vs) len4 fun j hj => (same4 j fun z => hj (hv j z)).1
          rw [this, wipe_wipe]
        refine ⟨eqw, ht σ4 e4 F3 H3 _ wd4 (OutQ.imp (noX_ok (OutQ.bind h2')) (fun b e5 h5 F5 H5 t5 => ?_) fun _ _ z => z.elim)⟩
        have hD4 : D0 ∉ ownA σ4 e4 := fun z => hDo (le2.sub.subset (sub4.subset z))
        obtain ⟨fD5, oD5⟩ := t5.st.ownAt hD4 fD3 oD3
        -- how the invariant comes again
        have again : ∀ (e7 : En) (F7 H7 H8 : Hp) (acc' : List D), To K σ4 e4 F3 H3 e7 F7 H7 → F7 D0 = none → Stp [D0] F7 H7 F7 H8 → OwnAt K F7 H8 D0 (.lst acc') →
            OutQ (lcL vs tgt mt me (ds.drop (i + 1)) acc' e7) (fun acc e' => ∀ F' H' v, To K σ env F H (unwipe vs env1 e') F' H' → VR K σ (unwipe vs env1 e') F' H' H v (.ow (.lst acc)) → Q v H') (fun _ _ => True) →
            i + 1 ≤ ds.length ∧ ∃ e' F' acc, EnvR K F' H8 (wipe σ vs) (wipeE vs e') ∧ EnvLe (wipeE vs env1) (wipeE vs e') ∧ Stp (ownA (wipe σ vs) (wipeE vs env1)) F1 H1 F' H8 ∧ F' D0 = none ∧ OwnAt K F' H8 D0 (.lst acc) ∧
              OutQ (lcL vs tgt mt me (ds.drop (i + 1)) acc e') (fun acc e' => ∀ F' H' v, To K σ env F H (unwipe vs env1 e') F' H' → VR K σ (unwipe vs env1 e') F' H' H v (.ow (.lst acc)) → Q v H') (fun _ _ => True) := fun e7 F7 H7 H8 acc' t7 fD7 st8 oD8 h8 => by
          have wd7 := wd4.to t7
          have wd7v := wd7.wiped vs
          rw [eqw] at wd7v
          have lenv : (wipeE vs e7).length = (wipeE vs env1).length := by rw [wipeE_len, t7.le.len, ← er4.len, len4, wipe_length, wipeE_len, w1.er.len]
          have le7 : EnvLe (wipeE vs env1) (wipeE vs e7) := EnvLe.of lenv fun j a b ha hb => by
            rcases wipeE_get ha with ⟨z1, z2⟩ | ⟨z1, z2⟩
            · rcases wipeE_get hb with ⟨y1, y2⟩ | ⟨y1, y2⟩
              · subst z2 y2; exact EntLe.refl _
              · exact (y1 z1).elim
            · rcases wipeE_get hb with ⟨y1, y2⟩ | ⟨y1, y2⟩
              · exact (z1 y1).elim
              · obtain ⟨a2, q1, q2⟩ := le2.get ha
                have q3 : e4[j]? = some a2 := by rw [(same4 j fun z => z1 (hv j z)).2]; exact q1
                obtain ⟨a3, q4, q5⟩ := t7.le.get q3
                rw [y2] at q4; cases q4
                exact q2.trans q5
          have hDv : ∀ a ∈ ownA (wipe σ vs) (wipeE vs e7), a ∉ [D0] := fun a ha z => by
            have : a = D0 := by simpa using z
            subst this
            exact hDo (le7.sub.subset ha)
          refine ⟨hlt, e7, F7, acc', wd7v.er.keep st8 hDv, le7, ?_, fD7, oD8, h8⟩
          refine ((st2.trans st3 fun _ z => nomatch z).trans t7.st fun a ha => ?_).trans st8 fun a ha => ?_
          · exact .inl (le2.sub.subset (sub4.subset ha))
          · have : a = D0 := by simpa using ha
            subst this
            exact .inr hD
        cases b with
        | false => exact again e5 F5 H5 H5 acc t5 fD5 (Stp.refl (wd4.to t5).sb) oD5 h5
        | true =>
          refine he σ4 e5 F5 H5 _ (wd4.to t5) (OutQ.imp (noX_ok (OutQ.bind h5)) (fun x e6 h6 F6 H6 v6 t6 r6 => ?_) fun _ _ z => z.elim)
          have t46 := t5.trans t6
          obtain ⟨d7, e7, F7, h7, rp7, t7, g7⟩ := To.frz (wd4.to t5) t6 r6 (OutQ.bind h6)
          have t47 := t5.trans t7
          obtain ⟨fD7, oD7⟩ := t47.st.ownAt hD4 fD3 oD3
          obtain ⟨accv, hacc, racc⟩ := oD7
          split at h7
          · rename_i hz
            refine ⟨accv, hacc, szLt (by rw [racc.len]; exact hz), again e7 F7 H6 _ (acc ++ [d7]) t47 fD7 (Stp.mut (wd4.to t47).sb fD7 (by simp)) ⟨accv ++ [v6], upd_same, ?_⟩ h7⟩
            exact Reps.snoc racc rp7
          · exact h7.elim
theorem snd_lc {vs : List Nat} {wi : TI} {g : TG} {tt : TT} {te : TE} {mi : M (List D)} {tgt : D → En → Option En} {mt : M Bool} {me : M Vl} {vt : List Nat} (hv : ∀ i ∈ vt, i ∈ vs) (hi : SndI K cls W wi mi) (hg : SndG K g tgt vt) (ht : SndT K cls W0 tt mt) (he : Snd K cls W0 te me) :
    Snd K cls W (tLc wi g tt te vs) (dLc vs mi tgt mt me) := fun σ env F H Q w h => lc_at hv w (fun R q => hi σ env F H R w q) hg ht he h
end
end L3
end S_Lg
section S_Lh
set_option maxHeartbeats 0
namespace L3
open PySem PySem.Spec PyProof.Rows L2
/-! ### what a def promises -/
abbrev FnD := En → Out Vl
def spD (K : Fg) (cls : Ex → Addr) (op : List Nat) (n : Nat) (f : FnD) : Sp := fun vs H Q E => ∃ F ents, ents.length = n ∧ Wd K (vs.map some) ents F H ∧ (∀ (i : Nat) (d : D), ents[i]? = some (Ent.ow d) → i ∈ op) ∧
  OutQ (f ents) (fun x ents' => ∀ F' H' v, To K (vs.map some) ents F H ents' F' H' → VR0 K F' H' H v x → Q v H') (fun c ents' => ∀ F' H', To K (vs.map some) ents F H ents' F' H' → E (.ref (cls c)) none H')
/-- the parameters behind a run: those that are one's own as they are then, the others as they were -/
def backE (op : List Nat) : Nat → En → En → En
  | _, [], _ => []
  | i, e :: es, x :: xs => (if i ∈ op then x else e) :: backE op (i + 1) es xs
  | _, e :: es, [] => e :: es
def runD (op : List Nat) (n N : Nat) (ms : M Fl) : FnD := fun ents => match ms (ents ++ List.replicate (N - n) .no) with
  | .ok f env' => match f with
    | .rt x => .ok x (backE op 0 ents env')
    | .nx => .ok (.fz .non) (backE op 0 ents env')
    | _ => .stk
  | .exc c env' => .exc c (backE op 0 ents env')
  | .stk => .stk
theorem backE_len (op : List Nat) : ∀ (i : Nat) (es xs : En), (backE op i es xs).length = es.length
  | _, [], _ => rfl
  | i, e :: es, x :: xs => by simp [backE, backE_len op (i + 1) es xs]
  | _, e :: es, [] => rfl
theorem backE_get (op : List Nat) : ∀ (i j : Nat) (es xs : En) (e : Ent), (backE op i es xs)[j]? = some e → (i + j ∈ op ∧ xs[j]? = some e) ∨ (es[j]? = some e ∧ (i + j ∉ op ∨ xs[j]? = none))
  | _, _, [], _, _, h => by simp [backE] at h
  | i, 0, e :: es, x :: xs, e', h => by
    have h' : (if i ∈ op then x else e) = e' := by simpa [backE] using h
    by_cases hi : i ∈ op
    · rw [if_pos hi] at h'; subst h'; exact .inl ⟨hi, rfl⟩
    · rw [if_neg hi] at h'; subst h'; exact .inr ⟨rfl, .inl hi⟩
  | i, j + 1, e :: es, x :: xs, e', h => by
    have h' : (backE op (i + 1) es xs)[j]? = some e' := by simpa [backE] using h
    rcases backE_get op (i + 1) j es xs e' h' with ⟨h1, h2⟩ | ⟨h1, h2⟩
    · exact .inl ⟨by rw [show i + (j + 1) = i + 1 + j by omega]; exact h1, by simpa using h2⟩
    · exact .inr ⟨by simpa using h1, by rw [show i + (j + 1) = i + 1 + j by omega]; simpa using h2⟩
  | i, j, e :: es, [], e', h => .inr ⟨h, .inr (by simp)⟩
section
variable {K : Fg} {cls : Ex → Addr}
theorem ownA_append_no : ∀ {σ : List (Option V)} {env : En} (m : Nat) (r : List (Option V)), σ.length = env.length → ownA (σ ++ r) (env ++ List.replicate m .no) = ownA σ env
  | [], [], m, r, _ => by
    have key : ∀ (m : Nat) (r : List (Option V)), ownA r (List.replicate m .no) = [] := by
      intro m
      induction m with
      | zero => intro r; cases r <;> rfl
      | succ m ih =>
        intro r
        cases r with
        | nil => rfl
        | cons o r =>
          show slotA o .no ++ ownA r (List.replicate m .no) = []
          rw [ih r]
          cases o with
          | none => rfl
          | some v => cases v <;> rfl
    simpa [ownA] using key m r
  | o :: σ, e :: env, m, r, h => by
    show slotA o e ++ ownA (σ ++ r) (env ++ List.replicate m .no) = slotA o e ++ ownA σ env
    rw [ownA_append_no m r (by simpa using h)]
  | [], _ :: _, _, _, h => by simp at h
  | _ :: _, [], _, _, h => by simp at h
theorem Wd.start {vs : List V} {ents : En} {F H : Hp} {N : List Str} {n : Nat} (w : Wd K (vs.map some) ents F H) (hn : ents.length = n) : Wd K (L2.start N vs) (ents ++ List.replicate (N.length - n) .no) F H := by
  have hl : vs.length = n := by have := w.er.len; simpa [hn] using this
  unfold L2.start
  rw [hl]
  refine ⟨EnvR.of (by simp [hl, hn]) fun i e he => ?_, ?_, w.sb⟩
  · by_cases hi : i < ents.length
    · rw [List.getElem?_append_left hi] at he
      obtain ⟨o, g1, g2, _⟩ := w.er.get he
      refine ⟨o, ?_, g2⟩
      rw [List.getElem?_append_left (by simp [hl]; omega)]
      exact g1
    · rw [List.getElem?_append_right (by omega), List.getElem?_replicate] at he
      split at he
      · cases he
        refine ⟨none, ?_, trivial⟩
        rw [List.getElem?_append_right (by simp [hl]; omega), List.getElem?_replicate]
        rw [if_pos (by simp [hl]; omega)]
      · cases he
  · rw [ownA_append_no _ _ w.er.len]
    exact w.nd
/-- A DEF keeps its promise, by its body -/
theorem fn_ok {P : Program} {w : World} {mg : Str → Option Value} {base : Heap} {x qual : Str} {st : Stmt} {f : Addr} {fd : FuncData} {N ps : List Str} {k n : Nat} {op : List Nat} {ms : M Fl} {g : FnD} (F : Fun K x qual st f fd) (S : FnScope N ps (defScope st)) (hn : ps.length = n)
    (hbody : ∀ (cdv : Value) (A : Around) (outer : List Env) (s : Shared) (H : Hp) (E : XK), Room k (A.deeper (envOfC qual (defScope st) s.heap.objs.size f cdv)) →
      ∃ t, PSs (cxOf (L2.CX P w) P w K mg base N qual (defScope st) f cdv A outer s H E) (defBody st) t ∧ SndS K cls op (fun c d _ H => E c d H) t ms)
    (hg : ∀ ents, ents.length = n → (∀ (i : Nat) (d : D), ents[i]? = some (Ent.ow d) → i ∈ op) → g ents ≠ .stk → runD op n N.length ms ents = g ents) : FnOk P w K mg base (L2.CX P w) (k + 1) f fd ps (spD K cls op n g) := by
  refine F.okX S (fun vs H Q E h => ?_) (fun cdv A outer s H vs Q E hr h => ?_)
  · obtain ⟨F0, ents, hl, w, _⟩ := h
    have := w.er.len
    rw [hn]
    simpa [hl] using this
  · obtain ⟨F0, ents, hl, w, ho, q⟩ := h
    obtain ⟨t, ht, hs⟩ := hbody cdv A outer s H E hr
    refine ⟨t, ht, ?_⟩
    have q1 : g ents ≠ .stk := fun z => by rw [z] at q; exact q
    rw [← hg ents hl ho q1] at q
    have w0 := w.start (N := N) hl
    have hvl : vs.length = n := by have := w.er.len; simpa [hl] using this
    have hsel : ownA (L2.start N vs) (ents ++ List.replicate (N.length - n) .no) = ownA (vs.map some) ents := by
      unfold L2.start
      exact ownA_append_no _ _ w.er.len
    have lowE : ∀ (i : Nat) (e : Ent), ents[i]? = some e → (ents ++ List.replicate (N.length - n) Ent.no)[i]? = some e := fun i e he => by
      rw [List.getElem?_append_left (List.getElem?_eq_some_iff.mp he).1]; exact he
    have lowV : ∀ (i : Nat) (o : Option V), (vs.map some)[i]? = some o → (L2.start N vs)[i]? = some o := fun i o he => by
      unfold L2.start
      rw [List.getElem?_append_left (List.getElem?_eq_some_iff.mp he).1]; exact he
    -- the end of a run
    have back : ∀ (σ' : L2.St) (env' : En) (F' H' : Hp), WdS K ⟨op, ents ++ List.replicate (N.length - n) .no, L2.start N vs, H, ownA (vs.map some) ents, F0, H, fun _ z => z⟩ σ' env' F' H' → To K (vs.map some) ents F0 H (backE op 0 ents env') F' H' := fun σ' env' F' H' w' => by
      have frm : ∀ (i : Nat) (e e' : Ent), ents[i]? = some e → (backE op 0 ents env')[i]? = some e' → EntLe e e' ∧ ∃ o, (vs.map some)[i]? = some o ∧ SlotR K F' H' o e' := fun i e e' he he' => by
        obtain ⟨o, g1, g2, g3⟩ := w.er.get he
        rcases backE_get op 0 i ents env' e' he' with ⟨h1, h2⟩ | ⟨h1, h2⟩
        · rw [Nat.zero_add] at h1
          obtain ⟨f1, f2⟩ := w'.fix i h1
          obtain ⟨e2, f3, f4⟩ := f2 e (lowE i e he)
          rw [h2] at f3; cases f3
          obtain ⟨o', q1, q2, _⟩ := w'.w.er.get h2
          rw [f1, lowV i o g1] at q1; cases q1
          exact ⟨f4, o, g1, q2⟩
        · rw [he] at h1; cases h1
          refine ⟨EntLe.refl _, o, g1, ?_⟩
          cases e with
          | no => trivial
          | fz d => obtain ⟨v, e1, r⟩ := g2; exact ⟨v, e1, Rep.mono w'.st.gr d r⟩
          | ow d =>
            have hi := ho i d he
            rcases h2 with z | z
            · exact (z (by rw [Nat.zero_add]; exact hi)).elim
            · obtain ⟨_, f2⟩ := w'.fix i hi
              obtain ⟨e2, f3, f4⟩ := f2 _ (lowE i _ he)
              rw [z] at f3; cases f3
      refine ⟨w'.st, EnvR.of (by rw [backE_len]; exact w.er.len) fun i e' he' => ?_, EnvLe.of (backE_len ..) fun i a b ha hb => (frm i a b ha hb).1⟩
      have hi : i < ents.length := by
        have := (List.getElem?_eq_some_iff.mp he').1
        rwa [backE_len] at this
      exact (frm i _ e' (List.getElem?_eq_getElem hi) he').2
    refine hs ⟨op, ents ++ List.replicate (N.length - n) .no, L2.start N vs, H, ownA (vs.map some) ents, F0, H, fun _ z => z⟩ (L2.start N vs) _ F0 H _ rfl ⟨w0, Stp.refl w.sb, fun a ha => .inl (by rw [← hsel]; exact ha), fun i d a hi he hs => ?_, fun i hi => ⟨rfl, fun e he => ⟨e, he, EntLe.refl _⟩⟩⟩ ?_
    · -- at the start only parameters are one's own
      by_cases hl2 : i < ents.length
      · rw [List.getElem?_append_left hl2] at he
        exact (hi (ho i d he)).elim
      · rw [List.getElem?_append_right (by omega), List.getElem?_replicate] at he
        split at he <;> cases he
    · have q' : OutQ (runD op n N.length ms ents) (fun x ents' => ∀ F' H' v, To K (vs.map some) ents F0 H ents' F' H' → VR0 K F' H' H v x → Q v H') (fun c ents' => ∀ F' H', To K (vs.map some) ents F0 H ents' F' H' → E (.ref (cls c)) none H') := q
      unfold runD at q'
      cases e : ms (ents ++ List.replicate (N.length - n) .no) with
      | stk => rw [e] at q'; exact q'
      | exc c env' =>
        rw [e] at q'
        exact fun σ' F' H' w' => q' F' H' (back σ' env' F' H' w')
      | ok f env' =>
        rw [e] at q'
        cases f with
        | nx => exact fun σ' F' H' w' => q' F' H' .non (back σ' env' F' H' w') rfl
        | bk => exact q'.elim
        | ct => exact q'.elim
        | rt x => exact fun σ' F' H' w' v r => q' F' H' v (back σ' env' F' H' w') r
/-! ### a call -/
/-- the arguments that the callee may not change are frozen -/
def frzN (op : List Nat) : Nat → List Vl → M (List Vl)
  | _, [] => ret []
  | i, x :: xs => if i ∈ op then mB (frzN op (i + 1) xs) fun ys => ret (x :: ys) else mB (frz x) fun d => mB (frzN op (i + 1) xs) fun ys => ret (.fz d :: ys)
def entOf (e : En) : Vl → Ent
  | .fz d => .fz d
  | .ow d => .ow d
  | .pl i => e.getD i .no
def plIx : List Vl → List Nat
  | [] => []
  | .pl i :: xs => i :: plIx xs
  | _ :: xs => plIx xs
def putE : List Vl → En → En → En
  | .pl i :: xs, e :: es, env => putE xs es (env.set i e)
  | _ :: xs, _ :: es, env => putE xs es env
  | _, _, env => env
def callE (op : List Nat) (n : Nat) (g : FnD) (xs : List Vl) : M Vl := mB (frzN op 0 xs) fun ys => fun e => if (plIx ys).Nodup ∧ ys.length = n then (match g (ys.map (entOf e)) with
  | .ok x es => .ok x (putE ys es e)
  | .exc c es => .exc c (putE ys es e)
  | .stk => .stk) else .stk
def dCall (op : List Nat) (n : Nat) (g : FnD) (m : M (List Vl)) : M Vl := mB m (callE op n g)
variable {σ : L2.St} {env env' env2 : En} {F H F' H' F2 H2 H0 H1 : Hp} {v : V} {W : WX}
theorem frzN_ok {op : List Nat} {e0 : En} {F0 : Hp} (w0 : Wd K σ e0 F0 H0) : ∀ {xs : List Vl} {vs : List V} {i : Nat} {env : En} {F : Hp} {P : List Vl → En → Prop} {Z : Ex → En → Prop}, To K σ e0 F0 H0 env F H → VRs K σ env F H H0 vs xs → (tmpA vs xs).Nodup → OutQ (frzN op i xs env) P Z →
    ∃ ys env' F', P ys env' ∧ VRs K σ env' F' H H0 vs ys ∧ List.Sublist (tmpA vs ys) (tmpA vs xs) ∧ To K σ e0 F0 H0 env' F' H ∧ Gr F F' ∧ EnvLe env env' ∧ (∀ a, F a = none → a ∉ ownA σ env → a ∉ tmpA vs xs → F' a = none) ∧ (∀ (j : Nat) (y : Vl), ys[j]? = some y → i + j ∉ op → ∃ d, y = .fz d) ∧ (∀ a ∈ tmpA vs ys, F' a = none)
  | [], [], i, env, F, P, Z, t, r, nd, h => ⟨[], env, F, h, trivial, List.Sublist.refl _, t, Gr.refl _, EnvLe.refl _, fun a h _ _ => h, fun j y hj => by simp at hj, fun a ha => by simp [tmpA] at ha⟩
  | x :: xs, v :: vs, i, env, F, P, Z, t, r, nd, h => by
    obtain ⟨_, nd2, dj⟩ := List.nodup_append.mp (show (slotA (some v) (vlE x) ++ tmpA vs xs).Nodup from nd)
    have notOwn : ∀ a, H0 a = none → a ∉ ownA σ env := fun a ha z => by
      obtain ⟨_, o, q⟩ := w0.own (t.le.mem z)
      rw [ha] at q; cases q
    unfold frzN at h
    by_cases hi : i ∈ op
    · rw [if_pos hi] at h
      obtain ⟨ys, env1, F1, h1, r1, sub1, t1, g1, l1, n1, f1, fn1⟩ := frzN_ok w0 t r.2 nd2 h.bind
      have tn : ∀ a ∈ slotA (some v) (vlE x), F1 a = none := fun a ha => by
        have hx := VRs.tmpF (vs := v :: vs) (xs := x :: xs) r (List.mem_append_left _ ha)
        exact n1 a hx.1 (notOwn a hx.2) fun z => dj a ha a z rfl
      refine ⟨x :: ys, env1, F1, h1, ⟨r.1.frzd g1 l1 tn, r1⟩, List.Sublist.append (List.Sublist.refl _) sub1, t1, g1, l1, fun a h2 h3 h4 => n1 a h2 h3 fun z => h4 (List.mem_append_right _ z), fun j y hj hn => ?_, fun a ha => ?_⟩
      · cases j with
        | zero => exact (hn (by simpa using hi)).elim
        | succ j => exact f1 j y (by simpa using hj) (by rw [show i + 1 + j = i + (j + 1) by omega]; exact hn)
      · rcases List.mem_append.mp (show a ∈ slotA (some v) (vlE x) ++ tmpA vs ys from ha) with z | z
        · exact tn a z
        · exact fn1 a z
    · rw [if_neg hi] at h
      obtain ⟨d, env1, F1, h1, rp, t1, g1, l1, n1⟩ := frz_new w0 t r.1 (OutQ.bind h)
      have tn : ∀ a ∈ tmpA vs xs, F1 a = none := fun a ha => by
        obtain ⟨q1, q2⟩ := VRs.tmpF r.2 ha
        exact n1 a q1 (notOwn a q2) fun z => dj a z a ha rfl
      obtain ⟨ys, env2, F2, h2, r2, sub2, t2, g2, l2, n2, f2, fn2⟩ := frzN_ok w0 t1 (VRs.frzd g1 l1 r.2 tn) nd2 (OutQ.bind h1)
      have e1 : tmpA (v :: vs) (.fz d :: ys) = tmpA vs ys := by
        show slotA (some v) (vlE (.fz d)) ++ tmpA vs ys = tmpA vs ys
        cases v <;> rfl
      refine ⟨.fz d :: ys, env2, F2, h2, ⟨Rep.mono g2 d rp, r2⟩, by rw [e1]; exact sub2.trans (List.sublist_append_right _ _), t2, g1.trans g2, l1.trans l2, fun a h3 h4 h5 => ?_, fun j y hj hn => ?_, by rw [e1]; exact fn2⟩
      · refine n2 a (n1 a h3 h4 fun z => h5 (List.mem_append_left _ z)) (fun z => h4 (l1.mem z)) fun z => h5 (List.mem_append_right _ z)
      · cases j with
        | zero => exact ⟨d, by simpa using hj.symm⟩
        | succ j => exact f2 j y (by simpa using hj) (by rw [show i + 1 + j = i + (j + 1) by omega]; exact hn)
  | [], _ :: _, _, _, _, _, _, _, r, _, _ => r.elim
  | _ :: _, [], _, _, _, _, _, _, r, _, _ => r.elim
theorem VRs.len : ∀ {vs : List V} {xs : List Vl}, VRs K σ env F H H0 vs xs → vs.length = xs.length
  | [], [], _ => rfl
  | _ :: _, _ :: _, h => by simp [VRs.len h.2]
  | [], _ :: _, h => h.elim
  | _ :: _, [], h => h.elim
theorem VRs.get : ∀ {vs : List V} {xs : List Vl} {j : Nat} {x : Vl}, VRs K σ env F H H0 vs xs → xs[j]? = some x → ∃ v, vs[j]? = some v ∧ VR K σ env F H H0 v x
  | [], [], _, _, _, h => by simp at h
  | v :: vs, x :: xs, 0, x', r, h => by
    have h' : x = x' := by simpa using h
    subst h'
    exact ⟨v, rfl, r.1⟩
  | v :: vs, x :: xs, j + 1, x', r, h => by
    obtain ⟨v', h1, h2⟩ := VRs.get (j := j) r.2 (by simpa using h)
    exact ⟨v', by simpa using h1, h2⟩
  | [], _ :: _, _, _, r, _ => r.elim
  | _ :: _, [], _, _, r, _ => r.elim
theorem getD_of {e : En} {i : Nat} {x : Ent} (h : e[i]? = some x) : e.getD i .no = x := by
  rw [List.getD_eq_getElem?_getD, h]; rfl
theorem entOf_pl {e : En} {i : Nat} {x : Ent} (h : e[i]? = some x) : entOf e (.pl i) = x := getD_of h
/-- the own objects that a callee is handed: temps, and slots' -/
theorem argA {a : Addr} (w : Wd K σ env F H) : ∀ {vs : List V} {ys : List Vl}, VRs K σ env F H H0 vs ys → a ∈ ownA (vs.map some) (ys.map (entOf env)) → a ∈ tmpA vs ys ∨ ∃ i ∈ plIx ys, ∃ d, env[i]? = some (.ow d) ∧ σ[i]? = some (some (.ref a))
  | [], [], _, h => by simp [ownA] at h
  | v :: vs, y :: ys, r, h => by
    rcases List.mem_append.mp (show a ∈ slotA (some v) (entOf env y) ++ ownA (vs.map some) (ys.map (entOf env)) from h) with z | z
    · cases y with
      | fz d => cases v <;> simp [slotA, entOf] at z
      | ow d =>
        refine .inl (List.mem_append_left _ ?_)
        exact z
      | pl i =>
        obtain ⟨g1, e, g2, g3⟩ := r.1
        have z' : a ∈ slotA (some v) e := by rw [entOf_pl g2] at z; exact z
        rcases slotA_one (some v) e with q | ⟨b, d, q, q1, q2⟩
        · rw [q] at z'; cases z'
        · rw [q] at z'
          have : a = b := by simpa using z'
          subst this q2
          exact .inr ⟨i, by simp [plIx], d, g2, by rw [g1, q1]⟩
    · rcases argA w r.2 z with q | ⟨i, q1, q2⟩
      · exact .inl (List.mem_append_right _ q)
      · refine .inr ⟨i, ?_, q2⟩
        cases y <;> simp [plIx, q1]
  | [], _ :: _, r, _ => r.elim
  | _ :: _, [], r, _ => r.elim
theorem own_inj {a : Addr} : ∀ {σ : List (Option V)} {env : En} {i j : Nat} {d d' : D}, (ownA σ env).Nodup → env[i]? = some (.ow d) → σ[i]? = some (some (.ref a)) → env[j]? = some (.ow d') → σ[j]? = some (some (.ref a)) → i = j
  | [], _, _, _, _, _, _, _, h, _, _ => by simp at h
  | o :: σ, [], _, _, _, _, _, h, _, _, _ => by simp at h
  | o :: σ, e :: env, 0, 0, _, _, _, _, _, _, _ => rfl
  | o :: σ, e :: env, 0, j + 1, d, d', nd, h1, h2, h3, h4 => by
    obtain ⟨_, _, dj⟩ := List.nodup_append.mp (show (slotA o e ++ ownA σ env).Nodup from nd)
    have h1' : e = .ow d := by simpa using h1
    have h2' : o = some (.ref a) := by simpa using h2
    subst h1' h2'
    exact (dj a (by simp [slotA]) a (slotA_mem_own (i := j) (by simpa using h4) (by simpa using h3) (by simp [slotA])) rfl).elim
  | o :: σ, e :: env, i + 1, 0, d, d', nd, h1, h2, h3, h4 => by
    obtain ⟨_, _, dj⟩ := List.nodup_append.mp (show (slotA o e ++ ownA σ env).Nodup from nd)
    have h1' : e = .ow d' := by simpa using h3
    have h2' : o = some (.ref a) := by simpa using h4
    subst h1' h2'
    exact (dj a (by simp [slotA]) a (slotA_mem_own (i := i) (by simpa using h2) (by simpa using h1) (by simp [slotA])) rfl).elim
  | o :: σ, e :: env, i + 1, j + 1, d, d', nd, h1, h2, h3, h4 => by
    obtain ⟨_, nd2, _⟩ := List.nodup_append.mp (show (slotA o e ++ ownA σ env).Nodup from nd)
    rw [own_inj (i := i) (j := j) (a := a) nd2 (by simpa using h1) (by simpa using h2) (by simpa using h3) (by simpa using h4)]
theorem Wd.args (w : Wd K σ env F H) (hn : ∀ a, H0 a = none → a ∉ ownA σ env) : ∀ {vs : List V} {ys : List Vl}, VRs K σ env F H H0 vs ys → (tmpA vs ys).Nodup → (plIx ys).Nodup → Wd K (vs.map some) (ys.map (entOf env)) F H
  | [], [], _, _, _ => ⟨trivial, List.nodup_nil, w.sb⟩
  | v :: vs, y :: ys, r, nd, np => by
    obtain ⟨nd1, nd2, dj⟩ := List.nodup_append.mp (show (slotA (some v) (vlE y) ++ tmpA vs ys).Nodup from nd)
    have np2 : (plIx ys).Nodup := by cases y <;> simp [plIx] at np <;> first | exact np | exact np.2
    have ih := Wd.args w hn r.2 nd2 np2
    have hd : SlotR K F H (some v) (entOf env y) := by
      cases y with
      | fz d => exact ⟨v, rfl, r.1⟩
      | ow d => obtain ⟨a, e, hF, q, _⟩ := r.1; subst e; exact ⟨a, rfl, hF, q⟩
      | pl i =>
        obtain ⟨g1, e, g2, g3⟩ := r.1
        obtain ⟨o, q1, q2, _⟩ := w.er.get g2
        rw [g1] at q1; cases q1
        rw [entOf_pl g2]; exact q2
    refine ⟨⟨hd, ih.er⟩, List.nodup_append.mpr ⟨slotA_nodup _ _, ih.nd, fun a ha b hb z => ?_⟩, w.sb⟩
    subst z
    rcases argA w r.2 hb with q | ⟨j, q1, d', q2, q3⟩
    · cases y with
      | fz d => cases v <;> simp [slotA, entOf] at ha
      | ow d => exact dj a ha a q rfl
      | pl i =>
        obtain ⟨g1, e, g2, g3⟩ := r.1
        have ha' : a ∈ slotA (some v) e := by rw [entOf_pl g2] at ha; exact ha
        exact hn a (VRs.tmpF r.2 q).2 (slotA_mem_own g1 g2 ha')
    · cases y with
      | fz d => cases v <;> simp [slotA, entOf] at ha
      | ow d =>
        have := VRs.tmpF (vs := v :: vs) (xs := .ow d :: ys) r (List.mem_append_left _ ha)
        exact hn a this.2 (slotA_mem_own q3 q2 (by simp [slotA]))
      | pl i =>
        obtain ⟨g1, e, g2, g3⟩ := r.1
        have ha' : a ∈ slotA (some v) e := by rw [entOf_pl g2] at ha; exact ha
        rcases slotA_one (some v) e with q | ⟨b, d, q, z1, z2⟩
        · rw [q] at ha'; cases ha'
        · rw [q] at ha'
          have : a = b := by simpa using ha'
          subst this z2
          rw [z1] at g1
          have := own_inj w.nd g2 g1 q2 q3
          subst this
          simp [plIx] at np
          exact np.1 q1
  | [], _ :: _, r, _, _ => r.elim
  | _ :: _, [], r, _, _ => r.elim
theorem putE_len : ∀ (ys : List Vl) (es env : En), (putE ys es env).length = env.length
  | [], _, _ => by cases ‹En› <;> rfl
  | .pl i :: ys, e :: es, env => by show (putE ys es (env.set i e)).length = _; rw [putE_len ys es _, List.length_set]
  | .fz d :: ys, e :: es, env => putE_len ys es env
  | .ow d :: ys, e :: es, env => putE_len ys es env
  | .pl i :: ys, [], env => rfl
  | .fz d :: ys, [], env => rfl
  | .ow d :: ys, [], env => rfl
theorem putE_get : ∀ (ys : List Vl) (es env : En) (k : Nat) (x : Ent), (plIx ys).Nodup → (putE ys es env)[k]? = some x → (∃ j : Nat, ys[j]? = some (Vl.pl k) ∧ es[j]? = some x) ∨ (env[k]? = some x ∧ (k ∉ plIx ys ∨ es.length < ys.length))
  | [], es, env, k, x, _, h => .inr ⟨by cases es <;> exact h, .inl (by simp [plIx])⟩
  | .fz d :: ys, e :: es, env, k, x, np, h => by
    rcases putE_get ys es env k x (by simpa [plIx] using np) h with ⟨j, h1, h2⟩ | ⟨h1, h2⟩
    · exact .inl ⟨j + 1, by simpa using h1, by simpa using h2⟩
    · exact .inr ⟨h1, by simpa [plIx] using h2⟩
  | .ow d :: ys, e :: es, env, k, x, np, h => by
    rcases putE_get ys es env k x (by simpa [plIx] using np) h with ⟨j, h1, h2⟩ | ⟨h1, h2⟩
    · exact .inl ⟨j + 1, by simpa using h1, by simpa using h2⟩
    · exact .inr ⟨h1, by simpa [plIx] using h2⟩
  | .pl i :: ys, e :: es, env, k, x, np, h => by
    have np' : i ∉ plIx ys ∧ (plIx ys).Nodup := by simpa [plIx] using np
    rcases putE_get ys es (env.set i e) k x np'.2 h with ⟨j, h1, h2⟩ | ⟨h1, h2⟩
    · exact .inl ⟨j + 1, by simpa using h1, by simpa using h2⟩
    · by_cases hik : i = k
      · subst hik
        by_cases hlt : i < env.length
        · rw [List.getElem?_set_self hlt] at h1
          exact .inl ⟨0, rfl, by simpa using h1⟩
        · rw [List.getElem?_eq_none (by simpa using hlt)] at h1; cases h1
      · rw [List.getElem?_set_ne hik] at h1
        refine .inr ⟨h1, ?_⟩
        rcases h2 with h2 | h2
        · exact .inl (by simp [plIx]; exact ⟨fun z => hik z.symm, h2⟩)
        · exact .inr (by simpa using h2)
  | .fz d :: ys, [], env, k, x, np, h => .inr ⟨h, .inr (by simp)⟩
  | .ow d :: ys, [], env, k, x, np, h => .inr ⟨h, .inr (by simp)⟩
  | .pl i :: ys, [], env, k, x, np, h => .inr ⟨h, .inr (by simp)⟩
/-- behind the call -/
theorem To.called (w : Wd K σ env F H) (hn : ∀ a, H0 a = none → a ∉ ownA σ env) {e0 : En} {F0 : Hp} (t0 : To K σ e0 F0 H0 env F H) {vs : List V} {ys : List Vl} (r : VRs K σ env F H H0 vs ys) (np : (plIx ys).Nodup) {es : En} (t : To K (vs.map some) (ys.map (entOf env)) F H es F' H') :
    To K σ e0 F0 H0 (putE ys es env) F' H' := by
  have hlen : es.length = ys.length := by rw [t.le.len, List.length_map]
  -- what the callee may change
  have hO : ∀ a ∈ ownA (vs.map some) (ys.map (entOf env)), a ∈ ownA σ e0 ∨ H0 a = none := fun a ha => by
    rcases argA w r ha with z | ⟨i, _, d, z2, z3⟩
    · exact .inr (VRs.tmpF r z).2
    · exact .inl (t0.le.mem (slotA_mem_own z3 z2 (by simp [slotA])))
  have frm : ∀ (k : Nat) (x : Ent), (putE ys es env)[k]? = some x → ∃ e, env[k]? = some e ∧ EntLe e x ∧ ∃ o, σ[k]? = some o ∧ SlotR K F' H' o x := fun k x hx => by
    rcases putE_get ys es env k x np hx with ⟨j, h1, h2⟩ | ⟨h1, h2⟩
    · obtain ⟨v, g1, g2, e, g3, g4⟩ := r.get h1
      have q1 : (ys.map (entOf env))[j]? = some e := by rw [List.getElem?_map, h1]; exact congrArg some (entOf_pl g3)
      obtain ⟨e', q2, q3⟩ := t.le.get q1
      rw [h2] at q2; cases q2
      obtain ⟨o, q4, q5, _⟩ := t.er.get h2
      rw [List.getElem?_map, g1] at q4
      have : some v = o := by simpa using q4
      subst this
      exact ⟨e, g3, q3, _, g2, q5⟩
    · obtain ⟨o, g1, g2, g3⟩ := w.er.get h1
      refine ⟨x, h1, EntLe.refl _, o, g1, g2.keep t.st fun a ha hA => ?_⟩
      rcases h2 with h2 | h2
      · rcases argA w r hA with z | ⟨i, z1, d, z2, z3⟩
        · exact hn a (VRs.tmpF r z).2 (g3 a ha)
        · rcases slotA_one o x with q | ⟨b, d', q, q1, q2⟩
          · rw [q] at ha; cases ha
          · rw [q] at ha
            have : a = b := by simpa using ha
            subst this q1 q2
            have := own_inj w.nd z2 z3 h1 g1
            subst this
            exact h2 z1
      · omega
  refine ⟨t0.st.trans t.st hO, EnvR.of (by rw [putE_len]; exact w.er.len) fun k x hx => ?_, t0.le.trans (EnvLe.of (putE_len ..) fun k a b ha hb => ?_)⟩
  · obtain ⟨e, _, _, z⟩ := frm k x hx
    exact z
  · obtain ⟨e, h1, h2, _⟩ := frm k b hb
    rw [ha] at h1; cases h1
    exact h2
theorem call_at {op : List Nat} {n : Nat} {g : FnD} {ta : TA} {m : M (List Vl)} {E : XK} {Q : VK} (hE : ∀ c H, W (.ref (cls c)) none σ H → E (.ref (cls c)) none H) (ha : SndA K cls W ta m) (w : Wd K σ env F H)
    (h : OutQ (dCall op n g m env) (fun x env' => ∀ F' H' v, To K σ env F H env' F' H' → VR K σ env' F' H' H v x → Q v H') (fun c env' => ∀ F' H', To K σ env F H env' F' H' → W (.ref (cls c)) none σ H')) : ta σ H fun vs H1 => spD K cls op n g vs H1 Q E := by
  refine ha σ env F H _ w (h.bind.imp (fun xs env1 h1 F1 H1 vs t1 r1 nd => ?_) fun c env1 h1 => h1)
  obtain ⟨ys, env2, F2, h2, r2, sub2, t2, g2, l2, n2, f2, fn2⟩ := frzN_ok w t1 r1 nd h1.bind
  have w2 := w.to t2
  have hn : ∀ a, H a = none → a ∉ ownA σ env2 := fun a ha z => by
    obtain ⟨_, o, q⟩ := w.own (t2.le.mem z)
    rw [ha] at q; cases q
  by_cases hc : (plIx ys).Nodup ∧ ys.length = n
  · rw [if_pos hc] at h2
    refine ⟨F2, ys.map (entOf env2), by rw [List.length_map]; exact hc.2, w2.args hn r2 (nd.sublist sub2) hc.1, fun i d hi => ?_, ?_⟩
    · rw [List.getElem?_map] at hi
      cases q : ys[i]? with
      | none => rw [q] at hi; cases hi
      | some y =>
        by_cases ho : i ∈ op
        · exact ho
        · obtain ⟨d', e⟩ := f2 i y q (by rw [Nat.zero_add]; exact ho)
          subst e
          rw [q] at hi
          cases hi
    · cases q : g (ys.map (entOf env2)) with
      | stk => rw [q] at h2; exact h2
      | exc c es =>
        rw [q] at h2
        exact fun F' H' t => hE c H' (h2 F' H' (To.called w2 hn t2 r2 hc.1 t))
      | ok x es =>
        rw [q] at h2
        exact fun F' H' v t r => h2 F' H' v (To.called w2 hn t2 r2 hc.1 t) (VR.since t2 r.vr)
  · rw [if_neg hc] at h2
    exact h2.elim
theorem snd_call {op : List Nat} {n : Nat} {g : FnD} {ta : TA} {m : M (List Vl)} {E : XK} (hE : ∀ c σ H, W (.ref (cls c)) none σ H → E (.ref (cls c)) none H) (ha : SndA K cls W ta m) : Snd K cls W (tCall (spD K cls op n g) [] E ta) (dCall op n g m) := by
  intro σ env F H Q w h
  have k := call_at (E := E) (Q := Q) (fun c H => hE c σ H) ha w h
  have e : (fun vs H1 => spD K cls op n g (vs ++ []) H1 Q E) = fun vs H1 => spD K cls op n g vs H1 Q E := by
    funext vs H1
    rw [List.append_nil]
  show ta σ H fun vs H1 => spD K cls op n g (vs ++ []) H1 Q E
  rw [e]
  exact k
theorem snd_callS {op : List Nat} {n : Nat} {g : FnD} {ta : TA} {m : M (List Vl)} (ha : SndA K cls W ta m) : Snd K cls W (tCallS (spD K cls op n g) (WE W) ta) (dCall op n g m) := by
  intro σ env F H Q w h
  exact call_at (E := fun c d H => W c d σ H) (Q := Q) (fun _ _ h => h) ha w h
end
end L3
end S_Lh
section S_Lq
set_option maxHeartbeats 0
namespace L3
open PySem PySem.Spec PyProof.Rows L2
/-! ### equality of data -/
def gV {κ α : Type} [DecidableEq κ] (ks : List (κ × α)) (k : κ) : Option α := match ks with
  | [] => none
  | (q, a) :: r => if q = k then some a else gV r k
mutual
def eqO : D → D → Option Bool
  | .non, .non => some true
  | .bl a, .bl b => some (a == b)
  | .int i, .int j => some (i == j)
  | .str x, .str y => some (x == y)
  | .bl a, .int j => some ((if a then 1 else 0) == j)
  | .int i, .bl b => some (i == (if b then 1 else 0))
  | .lst xs, .lst ys => if xs.length = ys.length then eqOs xs ys else some false
  | .tup xs, .tup ys => match eqOs xs ys with
    | some b => some (b && xs.length == ys.length)
    | none => none
  | .dic a, .dic b => match eqOk a b with
    | some c => some (a.length == b.length && c)
    | none => none
  | .non, .bl _ => some false
  | .non, .int _ => some false
  | .non, .str _ => some false
  | .non, .lst _ => some false
  | .non, .tup _ => some false
  | .bl _, .non => some false
  | .bl _, .str _ => some false
  | .bl _, .lst _ => some false
  | .bl _, .tup _ => some false
  | .int _, .non => some false
  | .int _, .str _ => some false
  | .int _, .lst _ => some false
  | .int _, .tup _ => some false
  | .str _, .non => some false
  | .str _, .bl _ => some false
  | .str _, .int _ => some false
  | .str _, .lst _ => some false
  | .str _, .tup _ => some false
  | .lst _, .non => some false
  | .lst _, .bl _ => some false
  | .lst _, .int _ => some false
  | .lst _, .str _ => some false
  | .lst _, .tup _ => some false
  | .tup _, .non => some false
  | .tup _, .bl _ => some false
  | .tup _, .int _ => some false
  | .tup _, .str _ => some false
  | .tup _, .lst _ => some false
  | _, _ => none
def eqOs : List D → List D → Option Bool
  | [], _ => some true
  | _ :: _, [] => some true
  | x :: xs, y :: ys => match eqO x y, eqOs xs ys with
    | some a, some b => some (a && b)
    | _, _ => none
def eqOk : List (Key × D) → List (Key × D) → Option Bool
  | [], _ => some true
  | (k, x) :: r, ls => match gV ls k with
    | none => match eqOk r ls with
      | some _ => some false
      | none => none
    | some y => match eqO x y, eqOk r ls with
      | some a, some b => some (a && b)
      | _, _ => none
end
def depLe : Nat → D → Bool
  | n + 1, .lst ds => ds.all (depLe n)
  | n + 1, .tup ds => ds.all (depLe n)
  | n + 1, .dic ks => ks.all fun p => depLe n p.2
  | 0, .lst _ => false
  | 0, .tup _ => false
  | 0, .dic _ => false
  | _, _ => true
def eAt (xs ys : List D) (j : Nat) : Bool := match xs[j]?, ys[j]? with
  | some x, some y => (eqO x y).getD false
  | _, _ => false
theorem range_all (f : Nat → Bool) (n : Nat) : (List.range (n + 1)).all f = (f 0 && (List.range n).all fun j => f (j + 1)) := by
  rw [List.range_succ_eq_map, List.all_cons, List.all_map]
  rfl
theorem eqOs_all : ∀ (xs ys : List D) (b : Bool), eqOs xs ys = some b → (∀ (j : Nat) (x y : D), xs[j]? = some x → ys[j]? = some y → ∃ c, eqO x y = some c) ∧ (List.range (min xs.length ys.length)).all (eAt xs ys) = b
  | [], ys, b, h => by
    have h' : true = b := by simpa [eqOs] using h
    subst h'
    exact ⟨fun j x y q => by simp at q, by simp⟩
  | x :: xs, [], b, h => by
    have h' : true = b := by simpa [eqOs] using h
    subst h'
    exact ⟨fun j x y _ q => by simp at q, by simp⟩
  | x :: xs, y :: ys, b, h => by
    unfold eqOs at h
    cases e1 : eqO x y with
    | none => simp [e1] at h
    | some a =>
      cases e2 : eqOs xs ys with
      | none => simp [e1, e2] at h
      | some c =>
        have h' : (a && c) = b := by simpa [e1, e2] using h
        obtain ⟨k1, k2⟩ := eqOs_all xs ys c e2
        refine ⟨fun j x' y' q1 q2 => ?_, ?_⟩
        · cases j with
          | zero =>
            have q1' : x = x' := by simpa using q1
            have q2' : y = y' := by simpa using q2
            subst q1' q2'
            exact ⟨a, e1⟩
          | succ j => exact k1 j x' y' (by simpa using q1) (by simpa using q2)
        · have hm : min (x :: xs).length (y :: ys).length = min xs.length ys.length + 1 := by simp only [List.length_cons]; omega
          rw [hm, range_all, ← h', ← k2]
          have z : eAt (x :: xs) (y :: ys) 0 = a := by simp [eAt, e1]
          rw [z]
          rfl
theorem gV_some {κ α : Type} [DecidableEq κ] : ∀ {ks : List (κ × α)} {k : κ} {a : α}, gV ks k = some a → (k, a) ∈ ks
  | [], k, a, h => by cases h
  | (q, b) :: r, k, a, h => by
    unfold gV at h
    by_cases e : q = k
    · rw [if_pos e] at h; cases h; subst e; exact List.mem_cons_self
    · rw [if_neg e] at h; exact List.mem_cons_of_mem _ (gV_some h)
theorem gV_of {κ α : Type} [DecidableEq κ] : ∀ {ks : List (κ × α)} {k : κ} {a : α}, (ks.map (·.1)).Nodup → (k, a) ∈ ks → gV ks k = some a
  | (q, b) :: r, k, a, nd, h => by
    have nd' := List.nodup_cons.mp (show (q :: r.map (·.1)).Nodup from nd)
    unfold gV
    rcases List.mem_cons.mp h with e | h
    · cases e; rw [if_pos rfl]
    · have : q ≠ k := fun z => nd'.1 (by subst z; exact List.mem_map_of_mem (f := (·.1)) h)
      rw [if_neg this]
      exact gV_of nd'.2 h
/-- e at a key -/
def kAt (a b : List (Key × D)) (k : Key) : Bool := match gV a k, gV b k with
  | some x, some y => (eqO x y).getD false
  | _, _ => false
theorem eqOk_all (a b : List (Key × D)) (nd : (a.map (·.1)).Nodup) : ∀ (r : List (Key × D)) (c : Bool), (∀ p ∈ r, p ∈ a) → eqOk r b = some c → (∀ p ∈ r, ∀ y, gV b p.1 = some y → ∃ c, eqO p.2 y = some c) ∧ (r.all fun p => (gV b p.1).isSome && kAt a b p.1) = c
  | [], c, _, h => by
    have h' : true = c := by simpa [eqOk] using h
    subst h'
    exact ⟨fun p hp => by simp at hp, rfl⟩
  | (k, x) :: r, c, hs, h => by
    have hs' : ∀ p ∈ r, p ∈ a := fun p hp => hs p (List.mem_cons_of_mem _ hp)
    have hk : gV a k = some x := gV_of nd (hs _ List.mem_cons_self)
    unfold eqOk at h
    cases e0 : gV b k with
    | none =>
      cases e2 : eqOk r b with
      | none => simp [e0, e2] at h
      | some c' =>
        have h' : false = c := by simpa [e0, e2] using h
        obtain ⟨k1, k2⟩ := eqOk_all a b nd r c' hs' e2
        refine ⟨fun p hp y q => ?_, by rw [List.all_cons, ← h']; simp [e0]⟩
        rcases List.mem_cons.mp hp with z | z
        · subst z; rw [e0] at q; cases q
        · exact k1 p z y q
    | some y0 =>
      cases e1 : eqO x y0 with
      | none => simp [e0, e1] at h
      | some c1 =>
        cases e2 : eqOk r b with
        | none => simp [e0, e1, e2] at h
        | some c' =>
          have h' : (c1 && c') = c := by simpa [e0, e1, e2] using h
          obtain ⟨k1, k2⟩ := eqOk_all a b nd r c' hs' e2
          refine ⟨fun p hp y q => ?_, ?_⟩
          · rcases List.mem_cons.mp hp with z | z
            · subst z; rw [e0] at q; cases q; exact ⟨c1, e1⟩
            · exact k1 p z y q
          · rw [List.all_cons, k2, ← h']
            simp [e0, kAt, hk, e1]
section
variable {K : Fg} {F H : Hp}
theorem RepK.keys : ∀ {ks : List (Key × D)} {kvs : List (Key × V)}, RepK K F ks kvs → kvs.map (·.1) = ks.map (·.1)
  | [], _, h => by rw [show _ = [] from h]; rfl
  | (k, d) :: ds, _, ⟨v, r, e, _, h⟩ => by subst e; simp [RepK.keys h]
theorem RepK.val : ∀ {ks : List (Key × D)} {kvs : List (Key × V)} (k : Key), RepK K F ks kvs → (match gV ks k with | some d => ∃ v, valV kvs k = some v ∧ Rep K F d v | none => valV kvs k = none)
  | [], _, k, h => by rw [show _ = [] from h]; rfl
  | (q, d) :: ds, _, k, ⟨v, r, e, hd, h⟩ => by
    subst e
    by_cases z : q = k
    · have e1 : gV ((q, d) :: ds) k = some d := by unfold gV; rw [if_pos z]
      rw [e1]
      exact ⟨v, valV_pos z, hd⟩
    · have e1 : gV ((q, d) :: ds) k = gV ds k := by conv => lhs; unfold gV; rw [if_neg z]
      rw [e1, valV_neg z]
      exact RepK.val k h
theorem RepK.mem : ∀ {ks : List (Key × D)} {kvs : List (Key × V)} {k : Key} {v : V}, RepK K F ks kvs → (k, v) ∈ kvs → ∃ d, (k, d) ∈ ks ∧ Rep K F d v
  | [], _, k, v, h, q => by rw [show _ = [] from h] at q; cases q
  | (k', d) :: ds, _, k, v, ⟨v', r, e, hd, h⟩, q => by
    subst e
    rcases List.mem_cons.mp q with z | z
    · cases z; exact ⟨d, List.mem_cons_self, hd⟩
    · obtain ⟨d', h1, h2⟩ := RepK.mem h z
      exact ⟨d', List.mem_cons_of_mem _ h1, h2⟩
theorem RepK.len : ∀ {ks : List (Key × D)} {kvs : List (Key × V)}, RepK K F ks kvs → kvs.length = ks.length
  | [], _, h => by rw [show _ = [] from h]; rfl
  | (k, d) :: ds, _, ⟨v, r, e, _, h⟩ => by subst e; simp [RepK.len h]
theorem KV.mem' : ∀ {kvs : List (Key × V)} {vs : List (Key × Value)} {k : Key} {u : Value}, KV kvs vs → (k, u) ∈ vs → ∃ v, (k, v) ∈ kvs ∧ RelV v u := by
  intro kvs vs k u r
  unfold KV at r
  induction r with
  | nil => intro h; cases h
  | @cons p q ps qs h t ih =>
    intro hm
    rcases List.mem_cons.mp hm with e | hm
    · subst e
      exact ⟨p.2, by rw [show (k, p.2) = p by rw [show k = p.1 from h.1.symm]]; exact List.mem_cons_self, h.2⟩
    · obtain ⟨v, h1, h2⟩ := ih hm
      exact ⟨v, List.mem_cons_of_mem _ h1, h2⟩
end
section
variable {X : Cx} {pins : List (Addr × Obj)} {σ : L2.St} {F H : Hp} {s : Shared}
abbrev Eqt (X : Cx) (s : Shared) := PySem.W.EqTree X.prog X.w s
/-- two lists of values, item by item -/
def Itm (X : Cx) (s : Shared) (n : Nat) (vs us : List V) (e : Nat → Bool) : Prop := ∀ (j : Nat) (x y : V) (v u : Value), vs[j]? = some x → us[j]? = some y → RelV x v → RelV y u → Eqt X s n v u (e j)
theorem isList_of {a : Addr} {its : Array Value} (h : PlainL s.heap a its) : s.heap.IsList a its := by
  obtain ⟨o, n, h1, h2, _, h3⟩ := h
  exact ⟨o, h1, h2, n, h3⟩
theorem itm_at {n : Nat} {vs us : List V} {ws zs : List Value} {e : Nat → Bool} (h : Itm X s n vs us e) (r1 : Vals vs ws) (r2 : Vals us zs) : ∀ j (h1 : j < ws.toArray.size) (h2 : j < zs.toArray.size), Eqt X s n ws.toArray[j] zs.toArray[j] (e j) := fun j h1 h2 => by
  have l1 : j < vs.length := by rw [r1.length]; simpa using h1
  have l2 : j < us.length := by rw [r2.length]; simpa using h2
  obtain ⟨w, e1, q1⟩ := r1.get (List.getElem?_eq_getElem l1)
  obtain ⟨z, e2, q2⟩ := r2.get (List.getElem?_eq_getElem l2)
  have h1' : j < ws.length := by simpa using h1
  have h2' : j < zs.length := by simpa using h2
  rw [List.getElem?_eq_getElem h1'] at e1
  rw [List.getElem?_eq_getElem h2'] at e2
  have := h j _ _ w z (List.getElem?_eq_getElem l1) (List.getElem?_eq_getElem l2) q1 q2
  simpa [← Option.some.inj e1, ← Option.some.inj e2] using this
/-- how dicts are told -/
theorem dict_at (I : Inv X pins σ H s) {a : Addr} {kvs : List (Key × V)} (h : Rd H a (.dK kvs)) : (a == sysModules) = false ∧ ∃ vs, KV kvs vs ∧ s.heap.DictOf (mixKind X.prog X.w) a vs := by
  obtain ⟨z, hd, vs, rel, dd⟩ := dk_rd I.hok h
  exact ⟨hd, vs, rel, dd⟩
theorem dictOf_nd {a : Addr} {vs : List (Key × Value)} (h : s.heap.DictOf (mixKind X.prog X.w) a vs) : (vs.map (·.1)).Nodup := by
  obtain ⟨o, es, ep, _, _, _, _, _, nd⟩ := h
  exact nd
theorem KV.keys' {kvs : List (Key × V)} {vs : List (Key × Value)} (r : KV kvs vs) : vs.map (·.1) = kvs.map (·.1) := by
  unfold KV at r
  induction r with
  | nil => rfl
  | @cons p q ps qs h t ih => simp [ih, h.1]
/-- a thing and itself -/
theorem eqO_same (I : Inv X pins σ H s) (sb : Sub F H) : ∀ (n : Nat) (d e : D) (x : V) (b : Bool), depLe n d = true → Rep X.K F d x → Rep X.K F e x → eqO d e = some b → b = true
  | n, .non, e, x, b, _, h1, h2, h => by
    cases e <;> simp [eqO] at h <;> first | exact h | (simp only [Rep] at h1 h2; subst h1; simp at h2)
  | n, .bl c, e, x, b, _, h1, h2, h => by
    have h1' : x = .bl c := h1
    subst h1'
    cases e with
    | bl c' => have h2' : V.bl c = .bl c' := h2; cases h2'; simpa [eqO] using h.symm
    | int j => have h2' : V.bl c = .int j := h2; cases h2'
    | non => have h2' : V.bl c = .non := h2; cases h2'
    | str j => have h2' : V.bl c = .str j := h2; cases h2'
    | lst j => obtain ⟨p, vs, e, _⟩ := h2; cases e
    | tup j => obtain ⟨p, vs, e, _⟩ := h2; cases e
    | dic j => cases h
    | dit j => cases h
    | scr j => cases h
    | ty j => cases h
    | exn j => cases h
    | cl j => cases h
    | ptr j => cases h
  | n, .int c, e, x, b, _, h1, h2, h => by
    have h1' : x = .int c := h1
    subst h1'
    cases e with
    | int c' => have h2' : V.int c = .int c' := h2; cases h2'; simpa [eqO] using h.symm
    | bl j => have h2' : V.int c = .bl j := h2; cases h2'
    | non => have h2' : V.int c = .non := h2; cases h2'
    | str j => have h2' : V.int c = .str j := h2; cases h2'
    | lst j => obtain ⟨p, vs, e, _⟩ := h2; cases e
    | tup j => obtain ⟨p, vs, e, _⟩ := h2; cases e
    | dic j => cases h
    | dit j => cases h
    | scr j => cases h
    | ty j => cases h
    | exn j => cases h
    | cl j => cases h
    | ptr j => cases h
  | n, .str c, e, x, b, _, h1, h2, h => by
    have h1' : x = .str c := h1
    subst h1'
    cases e with
    | str c' => have h2' : V.str c = .str c' := h2; cases h2'; simpa [eqO] using h.symm
    | bl j => have h2' : V.str c = .bl j := h2; cases h2'
    | non => have h2' : V.str c = .non := h2; cases h2'
    | int j => have h2' : V.str c = .int j := h2; cases h2'
    | lst j => obtain ⟨p, vs, e, _⟩ := h2; cases e
    | tup j => obtain ⟨p, vs, e, _⟩ := h2; cases e
    | dic j => cases h
    | dit j => cases h
    | scr j => cases h
    | ty j => cases h
    | exn j => cases h
    | cl j => cases h
    | ptr j => cases h
  | 0, .lst ds, _, _, _, hd, _, _, _ => by cases hd
  | 0, .tup ds, _, _, _, hd, _, _, _ => by cases hd
  | 0, .dic ds, _, _, _, hd, _, _, _ => by cases hd
  | n, .dit ds, _, _, _, _, _, _, h => by cases h
  | n, .scr ds, _, _, _, _, _, _, h => by cases h
  | n, .ty ds, _, _, _, _, _, _, h => by cases h
  | n, .exn ds, _, _, _, _, _, _, h => by cases h
  | n, .cl ds, _, _, _, _, _, _, h => by cases h
  | n, .ptr ds, _, _, _, _, _, _, h => by cases h
  | n + 1, .lst xs, e, x, b, hd, h1, h2, h => by
    obtain ⟨p, vs, e1, hp, rs⟩ := h1
    subst e1
    cases e with
    | lst ys =>
      obtain ⟨p', us, e2, hp', rs'⟩ := h2
      cases e2
      rw [hp] at hp'; cases hp'
      have hl : xs.length = ys.length := by rw [← rs.len, ← rs'.len]
      rw [eqO, if_pos hl] at h
      obtain ⟨k1, k2⟩ := eqOs_all xs ys b h
      rw [← k2, List.all_eq_true]
      intro j hj
      have hj' : j < xs.length := by have := List.mem_range.mp hj; omega
      have q1 := List.getElem?_eq_getElem hj'
      have q2 := List.getElem?_eq_getElem (show j < ys.length by omega)
      obtain ⟨c, hc⟩ := k1 j _ _ q1 q2
      obtain ⟨v, w1, w2⟩ := rs.get q1
      obtain ⟨v', w3, w4⟩ := rs'.get q2
      rw [w1] at w3; cases w3
      have hd' : depLe n xs[j] = true := List.all_eq_true.mp hd _ (List.getElem_mem hj')
      have := eqO_same I sb n _ _ v c hd' w2 w4 hc
      simp [eAt, q1, q2, hc, this]
    | tup ys => obtain ⟨p', us, e2, hp', _⟩ := h2; cases e2; rw [hp] at hp'; cases hp'
    | non => have h2' : V.ref p = .non := h2; cases h2'
    | bl j => have h2' : V.ref p = .bl j := h2; cases h2'
    | int j => have h2' : V.ref p = .int j := h2; cases h2'
    | str j => have h2' : V.ref p = .str j := h2; cases h2'
    | dic j => cases h
    | dit j => cases h
    | scr j => cases h
    | ty j => cases h
    | exn j => cases h
    | cl j => cases h
    | ptr j => cases h
  | n + 1, .tup xs, e, x, b, hd, h1, h2, h => by
    obtain ⟨p, vs, e1, hp, rs⟩ := h1
    subst e1
    cases e with
    | tup ys =>
      obtain ⟨p', us, e2, hp', rs'⟩ := h2
      cases e2
      rw [hp] at hp'; cases hp'
      have hl : xs.length = ys.length := by rw [← rs.len, ← rs'.len]
      rw [eqO] at h
      cases q : eqOs xs ys with
      | none => simp [q] at h
      | some c0 =>
        have h' : (c0 && xs.length == ys.length) = b := by simpa [q] using h
        obtain ⟨k1, k2⟩ := eqOs_all xs ys c0 q
        have : c0 = true := by
          rw [← k2, List.all_eq_true]
          intro j hj
          have hj' : j < xs.length := by have := List.mem_range.mp hj; omega
          have q1 := List.getElem?_eq_getElem hj'
          have q2 := List.getElem?_eq_getElem (show j < ys.length by omega)
          obtain ⟨c, hc⟩ := k1 j _ _ q1 q2
          obtain ⟨v, w1, w2⟩ := rs.get q1
          obtain ⟨v', w3, w4⟩ := rs'.get q2
          rw [w1] at w3; cases w3
          have hd' : depLe n xs[j] = true := List.all_eq_true.mp hd _ (List.getElem_mem hj')
          have := eqO_same I sb n _ _ v c hd' w2 w4 hc
          simp [eAt, q1, q2, hc, this]
        rw [← h', this, hl]; simp
    | lst ys => obtain ⟨p', us, e2, hp', _⟩ := h2; cases e2; rw [hp] at hp'; cases hp'
    | non => have h2' : V.ref p = .non := h2; cases h2'
    | bl j => have h2' : V.ref p = .bl j := h2; cases h2'
    | int j => have h2' : V.ref p = .int j := h2; cases h2'
    | str j => have h2' : V.ref p = .str j := h2; cases h2'
    | dic j => cases h
    | dit j => cases h
    | scr j => cases h
    | ty j => cases h
    | exn j => cases h
    | cl j => cases h
    | ptr j => cases h
  | n + 1, .dic xs, e, x, b, hd, h1, h2, h => by
    obtain ⟨p, kvs, e1, hp, rs⟩ := h1
    subst e1
    cases e with
    | dic ys =>
      obtain ⟨p', us, e2, hp', rs'⟩ := h2
      cases e2
      rw [hp] at hp'; cases hp'
      obtain ⟨_, ws, rw1, dd⟩ := dict_at I (sb.dK hp)
      have nd : (xs.map (·.1)).Nodup := by rw [← rs.keys, ← KV.keys' rw1]; exact dictOf_nd dd
      have hl : xs.length = ys.length := by rw [← rs.len, ← rs'.len]
      rw [eqO] at h
      cases q : eqOk xs ys with
      | none => simp [q] at h
      | some c0 =>
        have h' : (xs.length == ys.length && c0) = b := by simpa [q] using h
        obtain ⟨k1, k2⟩ := eqOk_all xs ys nd xs c0 (fun _ h => h) q
        have : c0 = true := by
          rw [← k2, List.all_eq_true]
          rintro ⟨k, d⟩ hm
          have v1 := rs.val k
          have g1 : gV xs k = some d := gV_of nd hm
          rw [g1] at v1
          obtain ⟨v, w1, w2⟩ := v1
          have v2 := rs'.val k
          cases g2 : gV ys k with
          | none => rw [g2] at v2; rw [w1] at v2; cases v2
          | some y =>
            rw [g2] at v2
            obtain ⟨v', w3, w4⟩ := v2
            rw [w1] at w3; cases w3
            obtain ⟨c, hc⟩ := k1 _ hm y g2
            have hd' : depLe n d = true := List.all_eq_true.mp hd _ hm
            have := eqO_same I sb n _ _ v c hd' w2 w4 hc
            simp [kAt, g1, g2, hc, this]
        rw [← h', this, hl]; simp
    | _ => cases h
theorem val_non {x : V} {v : Value} (h : x = .non) (r : RelV x v) : v = .none := by subst h; exact r
theorem val_bl {x : V} {v : Value} {b : Bool} (h : x = .bl b) (r : RelV x v) : v = .bool b := by subst h; exact r
theorem val_int {x : V} {v : Value} {b : Int} (h : x = .int b) (r : RelV x v) : ∃ t, v = .int b t := by subst h; exact r
theorem val_str {x : V} {v : Value} {b : Str} (h : x = .str b) (r : RelV x v) : ∃ t, v = .str b t := by subst h; exact r
/-- a list, a tuple by value -/
theorem val_lst (I : Inv X pins σ H s) (sb : Sub F H) {ds : List D} {x : V} {v : Value} (h : Rep X.K F (.lst ds) x) (r : RelV x v) : ∃ p vs ws, x = .ref p ∧ v = .ref p ∧ F p = some (.lst vs) ∧ Reps X.K F ds vs ∧ Vals vs ws ∧ s.heap.IsList p ws.toArray := by
  obtain ⟨p, vs, e, hp, rs⟩ := h
  subst e
  obtain ⟨its, r1, pl, _⟩ := I.list (.inl (.inl (sb.lst hp)))
  exact ⟨p, vs, its, rfl, r, hp, rs, r1, isList_of pl⟩
theorem val_tup (I : Inv X pins σ H s) (sb : Sub F H) {ds : List D} {x : V} {v : Value} (h : Rep X.K F (.tup ds) x) (r : RelV x v) : ∃ p vs ws, x = .ref p ∧ v = .ref p ∧ F p = some (.tup vs) ∧ Reps X.K F ds vs ∧ Vals vs ws ∧ s.heap.IsTuple p ws.toArray := by
  obtain ⟨p, vs, e, hp, rs⟩ := h
  subst e
  obtain ⟨its, r1, pl, _⟩ := I.tuple (.inl (.inl (sb.tup hp)))
  exact ⟨p, vs, its, rfl, r, hp, rs, r1, pl⟩
theorem itm_of {n : Nat} {xs ys : List D} {vs us : List V} (ih : ∀ (d e : D) (x y : V) (v u : Value) (b : Bool), depLe n d = true → Rep X.K F d x → Rep X.K F e y → RelV x v → RelV y u → eqO d e = some b → Eqt X s n v u b) (hd : xs.all (depLe n) = true) (rs : Reps X.K F xs vs) (rs' : Reps X.K F ys us)
    (k1 : ∀ (j : Nat) (x y : D), xs[j]? = some x → ys[j]? = some y → ∃ c, eqO x y = some c) : Itm X s n vs us (eAt xs ys) := by
  intro j x y v u h1 h2 r1 r2
  have l1 : j < xs.length := by rw [← rs.len]; exact (List.getElem?_eq_some_iff.mp h1).1
  have l2 : j < ys.length := by rw [← rs'.len]; exact (List.getElem?_eq_some_iff.mp h2).1
  have q1 := List.getElem?_eq_getElem l1
  have q2 := List.getElem?_eq_getElem l2
  obtain ⟨c, hc⟩ := k1 j _ _ q1 q2
  obtain ⟨x', w1, w2⟩ := rs.get q1
  obtain ⟨y', w3, w4⟩ := rs'.get q2
  rw [h1] at w1; cases w1
  rw [h2] at w3; cases w3
  have := ih _ _ x y v u c (List.all_eq_true.mp hd _ (List.getElem_mem l1)) w2 w4 r1 r2 hc
  simpa [eAt, q1, q2, hc] using this
theorem eqO_leaf (I : Inv X pins σ H s) (sb : Sub F H) {n : Nat} {d e : D} {x y : V} {v u : Value} {b : Bool} (h1 : Rep X.K F d x) (h2 : Rep X.K F e y) (r1 : RelV x v) (r2 : RelV y u) (h : eqO d e = some b) (n1 : ∀ a c, d = .lst a → e ≠ .lst c) (n2 : ∀ a c, d = .tup a → e ≠ .tup c) (n3 : ∀ a c, d = .dic a → e ≠ .dic c) : Eqt X s n v u b := by
  cases d with
  | non =>
    cases e with
    | non =>
      have e1 := val_non h1 r1
      subst e1
      have e2 := val_non h2 r2
      subst e2
      cases h
      exact .leaf fun A hu => SeqAt.EqAt.same _
    | bl c2 =>
      have e1 := val_non h1 r1
      subst e1
      have e2 := val_bl h2 r2
      subst e2
      cases h
      exact .leaf fun A hu => SeqAt.EqAt.none_bool _
    | int c2 =>
      have e1 := val_non h1 r1
      subst e1
      obtain ⟨t2, e2⟩ := val_int h2 r2
      subst e2
      cases h
      exact .leaf fun A hu => SeqAt.EqAt.none_int _ _
    | str c2 =>
      have e1 := val_non h1 r1
      subst e1
      obtain ⟨t2, e2⟩ := val_str h2 r2
      subst e2
      cases h
      exact .leaf fun A hu => SeqAt.EqAt.none_str _ _
    | lst c2 =>
      have e1 := val_non h1 r1
      subst e1
      obtain ⟨p2, vs2, ws2, _, e2, _, _, _, L2⟩ := val_lst I sb h2 r2
      subst e2
      cases h
      exact .leaf fun A hu => SeqAt.EqAt.none_list L2 (by omega)
    | tup c2 =>
      have e1 := val_non h1 r1
      subst e1
      obtain ⟨p2, vs2, ws2, _, e2, _, _, _, L2⟩ := val_tup I sb h2 r2
      subst e2
      cases h
      exact .leaf fun A hu => SeqAt.EqAt.none_tuple L2 (by omega)
    | dic c2 => cases h
    | dit c2 => cases h
    | scr c2 => cases h
    | ty c2 => cases h
    | exn c2 => cases h
    | cl c2 => cases h
    | ptr c2 => cases h
  | bl c =>
    cases e with
    | non =>
      have e1 := val_bl h1 r1
      subst e1
      have e2 := val_non h2 r2
      subst e2
      cases h
      exact .leaf fun A hu => SeqAt.EqAt.bool_none _
    | bl c2 =>
      have e1 := val_bl h1 r1
      subst e1
      have e2 := val_bl h2 r2
      subst e2
      cases h
      exact .leaf fun A hu => SeqAt.EqAt.bool_bool _ _
    | int c2 =>
      have e1 := val_bl h1 r1
      subst e1
      obtain ⟨t2, e2⟩ := val_int h2 r2
      subst e2
      cases h
      exact .leaf fun A hu => SeqAt.EqAt.bool_int _ _ _
    | str c2 =>
      have e1 := val_bl h1 r1
      subst e1
      obtain ⟨t2, e2⟩ := val_str h2 r2
      subst e2
      cases h
      exact .leaf fun A hu => SeqAt.EqAt.bool_str _ _ _
    | lst c2 =>
      have e1 := val_bl h1 r1
      subst e1
      obtain ⟨p2, vs2, ws2, _, e2, _, _, _, L2⟩ := val_lst I sb h2 r2
      subst e2
      cases h
      exact .leaf fun A hu => SeqAt.EqAt.bool_list _ L2 (by omega)
    | tup c2 =>
      have e1 := val_bl h1 r1
      subst e1
      obtain ⟨p2, vs2, ws2, _, e2, _, _, _, L2⟩ := val_tup I sb h2 r2
      subst e2
      cases h
      exact .leaf fun A hu => SeqAt.EqAt.bool_tuple _ L2 (by omega)
    | dic c2 => cases h
    | dit c2 => cases h
    | scr c2 => cases h
    | ty c2 => cases h
    | exn c2 => cases h
    | cl c2 => cases h
    | ptr c2 => cases h
  | int c =>
    cases e with
    | non =>
      obtain ⟨t1, e1⟩ := val_int h1 r1
      subst e1
      have e2 := val_non h2 r2
      subst e2
      cases h
      exact .leaf fun A hu => SeqAt.EqAt.int_none _ _
    | bl c2 =>
      obtain ⟨t1, e1⟩ := val_int h1 r1
      subst e1
      have e2 := val_bl h2 r2
      subst e2
      cases h
      exact .leaf fun A hu => SeqAt.EqAt.int_bool _ _ _
    | int c2 =>
      obtain ⟨t1, e1⟩ := val_int h1 r1
      subst e1
      obtain ⟨t2, e2⟩ := val_int h2 r2
      subst e2
      cases h
      exact .leaf fun A hu => SeqAt.EqAt.int_int _ _ _ _
    | str c2 =>
      obtain ⟨t1, e1⟩ := val_int h1 r1
      subst e1
      obtain ⟨t2, e2⟩ := val_str h2 r2
      subst e2
      cases h
      exact .leaf fun A hu => SeqAt.EqAt.int_str _ _ _ _
    | lst c2 =>
      obtain ⟨t1, e1⟩ := val_int h1 r1
      subst e1
      obtain ⟨p2, vs2, ws2, _, e2, _, _, _, L2⟩ := val_lst I sb h2 r2
      subst e2
      cases h
      exact .leaf fun A hu => SeqAt.EqAt.int_list _ _ L2 (by omega)
    | tup c2 =>
      obtain ⟨t1, e1⟩ := val_int h1 r1
      subst e1
      obtain ⟨p2, vs2, ws2, _, e2, _, _, _, L2⟩ := val_tup I sb h2 r2
      subst e2
      cases h
      exact .leaf fun A hu => SeqAt.EqAt.int_tuple _ _ L2 (by omega)
    | dic c2 => cases h
    | dit c2 => cases h
    | scr c2 => cases h
    | ty c2 => cases h
    | exn c2 => cases h
    | cl c2 => cases h
    | ptr c2 => cases h
  | str c =>
    cases e with
    | non =>
      obtain ⟨t1, e1⟩ := val_str h1 r1
      subst e1
      have e2 := val_non h2 r2
      subst e2
      cases h
      exact .leaf fun A hu => SeqAt.EqAt.str_none _ _
    | bl c2 =>
      obtain ⟨t1, e1⟩ := val_str h1 r1
      subst e1
      have e2 := val_bl h2 r2
      subst e2
      cases h
      exact .leaf fun A hu => SeqAt.EqAt.str_bool _ _ _
    | int c2 =>
      obtain ⟨t1, e1⟩ := val_str h1 r1
      subst e1
      obtain ⟨t2, e2⟩ := val_int h2 r2
      subst e2
      cases h
      exact .leaf fun A hu => SeqAt.EqAt.str_int _ _ _ _
    | str c2 =>
      obtain ⟨t1, e1⟩ := val_str h1 r1
      subst e1
      obtain ⟨t2, e2⟩ := val_str h2 r2
      subst e2
      cases h
      exact .leaf fun A hu => SeqAt.EqAt.str_str _ _ _ _
    | lst c2 =>
      obtain ⟨t1, e1⟩ := val_str h1 r1
      subst e1
      obtain ⟨p2, vs2, ws2, _, e2, _, _, _, L2⟩ := val_lst I sb h2 r2
      subst e2
      cases h
      exact .leaf fun A hu => SeqAt.EqAt.str_list _ _ L2 (by omega)
    | tup c2 =>
      obtain ⟨t1, e1⟩ := val_str h1 r1
      subst e1
      obtain ⟨p2, vs2, ws2, _, e2, _, _, _, L2⟩ := val_tup I sb h2 r2
      subst e2
      cases h
      exact .leaf fun A hu => SeqAt.EqAt.str_tuple _ _ L2 (by omega)
    | dic c2 => cases h
    | dit c2 => cases h
    | scr c2 => cases h
    | ty c2 => cases h
    | exn c2 => cases h
    | cl c2 => cases h
    | ptr c2 => cases h
  | lst c =>
    cases e with
    | non =>
      obtain ⟨p1, vs1, ws1, _, e1, _, _, _, L1⟩ := val_lst I sb h1 r1
      subst e1
      have e2 := val_non h2 r2
      subst e2
      cases h
      exact .leaf fun A hu => SeqAt.EqAt.list_none L1 (by omega)
    | bl c2 =>
      obtain ⟨p1, vs1, ws1, _, e1, _, _, _, L1⟩ := val_lst I sb h1 r1
      subst e1
      have e2 := val_bl h2 r2
      subst e2
      cases h
      exact .leaf fun A hu => SeqAt.EqAt.list_bool _ L1 (by omega)
    | int c2 =>
      obtain ⟨p1, vs1, ws1, _, e1, _, _, _, L1⟩ := val_lst I sb h1 r1
      subst e1
      obtain ⟨t2, e2⟩ := val_int h2 r2
      subst e2
      cases h
      exact .leaf fun A hu => SeqAt.EqAt.list_int _ _ L1 (by omega)
    | str c2 =>
      obtain ⟨p1, vs1, ws1, _, e1, _, _, _, L1⟩ := val_lst I sb h1 r1
      subst e1
      obtain ⟨t2, e2⟩ := val_str h2 r2
      subst e2
      cases h
      exact .leaf fun A hu => SeqAt.EqAt.list_str _ _ L1 (by omega)
    | lst c2 =>
      exact (n1 _ _ rfl rfl).elim
    | tup c2 =>
      obtain ⟨p1, vs1, ws1, _, e1, _, _, _, L1⟩ := val_lst I sb h1 r1
      subst e1
      obtain ⟨p2, vs2, ws2, _, e2, _, _, _, L2⟩ := val_tup I sb h2 r2
      subst e2
      cases h
      exact .leaf fun A hu => SeqAt.EqAt.list_tuple L1 L2 (by omega)
    | dic c2 => cases h
    | dit c2 => cases h
    | scr c2 => cases h
    | ty c2 => cases h
    | exn c2 => cases h
    | cl c2 => cases h
    | ptr c2 => cases h
  | tup c =>
    cases e with
    | non =>
      obtain ⟨p1, vs1, ws1, _, e1, _, _, _, L1⟩ := val_tup I sb h1 r1
      subst e1
      have e2 := val_non h2 r2
      subst e2
      cases h
      exact .leaf fun A hu => SeqAt.EqAt.tuple_none L1 (by omega)
    | bl c2 =>
      obtain ⟨p1, vs1, ws1, _, e1, _, _, _, L1⟩ := val_tup I sb h1 r1
      subst e1
      have e2 := val_bl h2 r2
      subst e2
      cases h
      exact .leaf fun A hu => SeqAt.EqAt.tuple_bool _ L1 (by omega)
    | int c2 =>
      obtain ⟨p1, vs1, ws1, _, e1, _, _, _, L1⟩ := val_tup I sb h1 r1
      subst e1
      obtain ⟨t2, e2⟩ := val_int h2 r2
      subst e2
      cases h
      exact .leaf fun A hu => SeqAt.EqAt.tuple_int _ _ L1 (by omega)
    | str c2 =>
      obtain ⟨p1, vs1, ws1, _, e1, _, _, _, L1⟩ := val_tup I sb h1 r1
      subst e1
      obtain ⟨t2, e2⟩ := val_str h2 r2
      subst e2
      cases h
      exact .leaf fun A hu => SeqAt.EqAt.tuple_str _ _ L1 (by omega)
    | lst c2 =>
      obtain ⟨p1, vs1, ws1, _, e1, _, _, _, L1⟩ := val_tup I sb h1 r1
      subst e1
      obtain ⟨p2, vs2, ws2, _, e2, _, _, _, L2⟩ := val_lst I sb h2 r2
      subst e2
      cases h
      exact .leaf fun A hu => SeqAt.EqAt.tuple_list L1 L2 (by omega)
    | tup c2 =>
      exact (n2 _ _ rfl rfl).elim
    | dic c2 => cases h
    | dit c2 => cases h
    | scr c2 => cases h
    | ty c2 => cases h
    | exn c2 => cases h
    | cl c2 => cases h
    | ptr c2 => cases h
  | dic c =>
    cases e with
    | dic c2 => exact (n3 _ _ rfl rfl).elim
    | _ => cases h
  | dit c => cases e <;> cases h
  | scr c => cases e <;> cases h
  | ty c => cases e <;> cases h
  | exn c => cases e <;> cases h
  | cl c => cases e <;> cases h
  | ptr c => cases e <;> cases h
theorem eqO_tree (I : Inv X pins σ H s) (sb : Sub F H) (n : Nat) : ∀ (d e : D) (x y : V) (v u : Value) (b : Bool), depLe n d = true → Rep X.K F d x → Rep X.K F e y → RelV x v → RelV y u → eqO d e = some b → Eqt X s n v u b := by
  induction n with
  | zero =>
    intro d e x y v u b hd h1 h2 r1 r2 h
    refine eqO_leaf I sb h1 h2 r1 r2 h (fun a c z => ?_) (fun a c z => ?_) (fun a c z => ?_) <;> (subst z; cases hd)
  | succ n ih =>
    intro d e x y v u b hd h1 h2 r1 r2 h
    by_cases c1 : ∃ a c, d = .lst a ∧ e = .lst c
    · obtain ⟨xs, ys, rfl, rfl⟩ := c1
      have same := fun z : x = y => eqO_same I sb (n + 1) (.lst xs) (.lst ys) x b hd h1 (z ▸ h2) h
      obtain ⟨p1, vs1, ws1, x1, e1, _, rs1, z1, L1⟩ := val_lst I sb h1 r1
      obtain ⟨p2, vs2, ws2, x2, e2, _, rs2, z2, L2⟩ := val_lst I sb h2 r2
      subst e1 e2
      by_cases hp : p1 = p2
      · subst hp
        rw [same (x1.trans x2.symm)]
        exact .same
      · have l1 : ws1.toArray.size = xs.length := by rw [List.size_toArray, ← z1.length, rs1.len]
        have l2 : ws2.toArray.size = ys.length := by rw [List.size_toArray, ← z2.length, rs2.len]
        by_cases hl : xs.length = ys.length
        · rw [eqO, if_pos hl] at h
          obtain ⟨k1, k2⟩ := eqOs_all xs ys b h
          have im := itm_of (n := n) ih hd rs1 rs2 k1
          have := PySem.W.EqTree.lists hp L1 L2 (by rw [l1, l2, hl]) (itm_at im z1 z2)
          rw [l1] at this
          rw [hl, Nat.min_self] at k2
          rw [hl, k2] at this
          exact this
        · rw [eqO, if_neg hl] at h
          cases h
          exact PySem.W.EqTree.listsLen hp L1 L2 (by rw [l1, l2]; simpa using hl)
    by_cases c2 : ∃ a c, d = .tup a ∧ e = .tup c
    · obtain ⟨xs, ys, rfl, rfl⟩ := c2
      have same := fun z : x = y => eqO_same I sb (n + 1) (.tup xs) (.tup ys) x b hd h1 (z ▸ h2) h
      obtain ⟨p1, vs1, ws1, x1, e1, _, rs1, z1, L1⟩ := val_tup I sb h1 r1
      obtain ⟨p2, vs2, ws2, x2, e2, _, rs2, z2, L2⟩ := val_tup I sb h2 r2
      subst e1 e2
      by_cases hp : p1 = p2
      · subst hp
        rw [same (x1.trans x2.symm)]
        exact .same
      · have l1 : ws1.toArray.size = xs.length := by rw [List.size_toArray, ← z1.length, rs1.len]
        have l2 : ws2.toArray.size = ys.length := by rw [List.size_toArray, ← z2.length, rs2.len]
        rw [eqO] at h
        cases q : eqOs xs ys with
        | none => simp [q] at h
        | some c0 =>
          have h' : (c0 && xs.length == ys.length) = b := by simpa [q] using h
          obtain ⟨k1, k2⟩ := eqOs_all xs ys c0 q
          have im := itm_of (n := n) ih hd rs1 rs2 k1
          have := PySem.W.EqTree.tuples hp L1 L2 (itm_at im z1 z2)
          rw [l1, l2, k2, h'] at this
          exact this
    by_cases c3 : ∃ a c, d = .dic a ∧ e = .dic c
    · obtain ⟨xs, ys, rfl, rfl⟩ := c3
      have same := fun z : x = y => eqO_same I sb (n + 1) (.dic xs) (.dic ys) x b hd h1 (z ▸ h2) h
      obtain ⟨p1, kv1, x1, hp1, rs1⟩ := h1
      obtain ⟨p2, kv2, x2, hp2, rs2⟩ := h2
      have e1 : v = .ref p1 := by rw [x1] at r1; exact r1
      have e2 : u = .ref p2 := by rw [x2] at r2; exact r2
      subst e1 e2
      by_cases hp : p1 = p2
      · subst hp
        rw [same (x1.trans x2.symm)]
        exact .same
      · obtain ⟨m1, ws1, z1, d1⟩ := dict_at I (sb.dK hp1)
        obtain ⟨m2, ws2, z2, d2⟩ := dict_at I (sb.dK hp2)
        have nd : (xs.map (·.1)).Nodup := by rw [← rs1.keys, ← KV.keys' z1]; exact dictOf_nd d1
        rw [eqO] at h
        cases q : eqOk xs ys with
        | none => simp [q] at h
        | some c0 =>
          have h' : (xs.length == ys.length && c0) = b := by simpa [q] using h
          obtain ⟨k1, k2⟩ := eqOk_all xs ys nd xs c0 (fun _ h => h) q
          have im : ∀ (k : Key) (v y : Value), (k, v) ∈ ws1 → valueAt ws2 k = some y → Eqt X s n v y (kAt xs ys k) := fun k v y hm hv => by
            obtain ⟨v1, a1, a2⟩ := KV.mem' z1 hm
            obtain ⟨d, b1, b2⟩ := RepK.mem rs1 a1
            have g1 : gV xs k = some d := gV_of nd b1
            have rv := z2.val k
            rw [hv] at rv
            have v2 := rs2.val k
            cases g2 : gV ys k with
            | none => rw [g2] at v2; rw [v2] at rv; exact rv.elim
            | some d2 =>
              rw [g2] at v2
              obtain ⟨y1, c1, c2⟩ := v2
              rw [c1] at rv
              obtain ⟨c, hc⟩ := k1 _ b1 d2 g2
              have hd' : depLe n d = true := List.all_eq_true.mp hd _ b1
              have := ih d d2 v1 y1 v y c hd' b2 c2 a2 rv hc
              simpa [kAt, g1, g2, hc] using this
          have := PySem.W.EqTree.dicts (knd := mixKind X.prog X.w) hp m1 m2 d1 d2 im
          have l1 : ws1.length = xs.length := by rw [← Paired.length z1, rs1.len]
          have l2 : ws2.length = ys.length := by rw [← Paired.length z2, rs2.len]
          have e3 : (ws1.all fun p => (valueAt ws2 p.1).isSome && kAt xs ys p.1) = c0 := by
            rw [← k2]
            have f1 : ∀ (l1 : List (Key × Value)) (l2 : List (Key × D)), l1.map (·.1) = l2.map (·.1) → (l1.all fun p => (valueAt ws2 p.1).isSome && kAt xs ys p.1) = (l2.all fun p => (gV ys p.1).isSome && kAt xs ys p.1) := by
              intro l1
              induction l1 with
              | nil => intro l2 h; cases l2 with
                | nil => rfl
                | cons => cases h
              | cons a l1 ih =>
                intro l2 h
                cases l2 with
                | nil => cases h
                | cons b l2 =>
                  have h1 : a.1 = b.1 := (List.cons.inj h).1
                  rw [List.all_cons, List.all_cons, ih l2 (List.cons.inj h).2, h1]
                  have : (valueAt ws2 b.1).isSome = (gV ys b.1).isSome := by
                    have rv := (z2.val b.1).isSome_eq
                    have v2 := rs2.val b.1
                    cases g2 : gV ys b.1 with
                    | none => rw [g2] at v2; rw [v2] at rv; exact rv.symm
                    | some d2 => rw [g2] at v2; obtain ⟨y1, c1, _⟩ := v2; rw [c1] at rv; exact rv.symm
                  rw [this]
            exact f1 _ _ (by rw [KV.keys' z1, rs1.keys])
          rw [l1, l2, e3, h'] at this
          exact this
    exact eqO_leaf I sb h1 h2 r1 r2 h (fun a c z w => c1 ⟨a, c, z, w⟩) (fun a c z w => c2 ⟨a, c, z, w⟩) (fun a c z w => c3 ⟨a, c, z, w⟩)
end
end L3
end S_Lq
section S_Lr
set_option maxHeartbeats 0
namespace L3
open PySem PySem.SeqAt PySem.SeqRoads2 PySem.MeetsSeq PySem.MeetsSeq2 PySem.MeetsSeq3
open AutoSeq1 (wpAny_loadPart')
section
variable {P : Program} {w : World}
abbrev LstO (a : Addr) (its : Array Value) (n : Nat) (dd : Option Addr) (sl : Array (Option Value)) (h : Heap) : Prop := h.get? a = some { cls := .type "list", dict := dd, data := .seq its n, slots := sl }
abbrev TupO (a : Addr) (its : Array Value) (n : Nat) (dd : Option Addr) (sl : Array (Option Value)) (h : Heap) : Prop := h.get? a = some { cls := .type "tuple", dict := dd, data := .seq its n, slots := sl }
/-- != of two lists of one length, turn by turn -/
theorem ne_loop (l b : Addr) (xs ys : Array Value) (n n2 : Nat) (dd dd2 : Option Addr) (sl sl2 : Array (Option Value)) (hz : xs.size = ys.size) (e : Nat → Bool) : ∀ (k i : Nat), xs.size - i = k →
    MeetsIn P w (Builtin.«list.__eq__.loop» ⟨[.ref l, .ref b, rawInt i, rawInt 3], []⟩) (fun A R s => LstO l xs n dd sl s.heap ∧ LstO b ys n2 dd2 sl2 s.heap ∧ (∀ j (h1 : j < xs.size) (h2 : j < ys.size), EqIn P w A.in1 s xs[j] ys[j] (e j)) ∧
      R (.ok (.ret (.bool (!((List.range xs.size).drop i).all e)))) s)
  | 0, i, hk, A, R, s, h => by
    obtain ⟨hp, g, d, tk, os⟩ := s; obtain ⟨h1, h2, he, hr⟩ := h
    wp_walk using wpAny_loadPart' h1, wpAny_loadPart' h2
    have z1 : xs[((i : Nat) : Int).toNat]? = none := by simp; omega
    have z2 : ys[((i : Nat) : Int).toNat]? = none := by simp; omega
    have z3 : (List.range xs.size).drop i = [] := by simp; omega
    rw [z3] at hr
    rw [z1, z2]
    wp_walk using wpAny_loadPart' h1, wpAny_loadPart' h2
    show R (.ok (.ret (.bool (xs.size != ys.size)))) _
    rw [hz]; simpa using hr
  | k + 1, i, hk, A, R, s, h => by
    obtain ⟨hp, g, d, tk, os⟩ := s; obtain ⟨h1, h2, he, hr⟩ := h
    wp_walk using wpAny_loadPart' h1, wpAny_loadPart' h2
    have l1 : i < xs.size := by omega
    have l2 : i < ys.size := by omega
    have z1 : xs[((i : Nat) : Int).toNat]? = some xs[i] := by simp [l1]
    have z2 : ys[((i : Nat) : Int).toNat]? = some ys[i] := by simp [l2]
    have z3 : (List.range xs.size).drop i = i :: (List.range xs.size).drop (i + 1) := by simp [List.drop_eq_getElem_cons, l1]
    have z4 : ((i : Int) + 1) = ((i + 1 : Nat) : Int) := by push_cast; rfl
    rw [z3, List.all_cons] at hr
    rw [z1, z2]
    refine wpAny_bind (he i l1 l2 _ _ ?_)
    cases q : e i with
    | true =>
      rw [q] at hr; wp_walk; rw [z4]
      exact ⟨plainId_quiet plain_eq_loop _, codeAny_builtin entry_eq_loop (by
        rw [Around.under_plainId plain_eq_loop _]; exact ne_loop l b xs ys n n2 dd dd2 sl sl2 hz e k (i + 1) (by omega) A R _ ⟨h1, h2, he, by simpa using hr⟩)⟩
    | false =>
      rw [q] at hr; wp_walk using wpAny_loadPart' h1, wpAny_loadPart' h2
      rw [z1, z2]; wp_walk; simpa using hr
theorem ne_lists (l b : Addr) (xs ys : Array Value) (n n2 : Nat) (dd dd2 : Option Addr) (sl sl2 : Array (Option Value)) (hz : xs.size = ys.size) (e : Nat → Bool) :
    MeetsIn P w (Builtin.«list.__ne__» ⟨[.ref l, .ref b], []⟩) (fun A R s => LstO l xs n dd sl s.heap ∧ LstO b ys n2 dd2 sl2 s.heap ∧ (∀ j (h1 : j < xs.size) (h2 : j < ys.size), EqIn P w A.in1 s xs[j] ys[j] (e j)) ∧
      R (.ok (.ret (.bool (!(List.range xs.size).all e)))) s) := by
  intro A R s h
  obtain ⟨hp, g, d, tk, os⟩ := s; obtain ⟨h1, h2, he, hr⟩ := h
  have f3 := AutoSeq1.sub_list_list
  have f4 : ¬ (xs.size != ys.size) = true := by simp [hz]
  wp_walk using wpAny_loadPart' h1, wpAny_loadPart' h2
  exact ⟨plainId_quiet plain_eq_loop _, codeAny_builtin entry_eq_loop (by
    rw [Around.under_plainId plain_eq_loop _]; exact ne_loop l b xs ys n n2 dd dd2 sl sl2 hz e _ 0 rfl A R _ ⟨h1, h2, he, by simpa using hr⟩)⟩
theorem ne_tuples (l b : Addr) (xs ys : Array Value) (n n2 : Nat) (dd dd2 : Option Addr) (sl sl2 : Array (Option Value)) (e : Nat → Bool) :
    MeetsIn P w (Builtin.«tuple.__ne__» ⟨[.ref l, .ref b], []⟩) (fun A R s => TupO l xs n dd sl s.heap ∧ TupO b ys n2 dd2 sl2 s.heap ∧ (∀ j (h1 : j < xs.size) (h2 : j < ys.size), EqIn P w A.in1 s xs[j] ys[j] (e j)) ∧
      R (.ok (.ret (.bool (!((List.range (min xs.size ys.size)).all e && xs.size == ys.size))))) s) :=
  .of_wp fun A R s h => by
    obtain ⟨hp, g, d, tk, os⟩ := s; obtain ⟨h1, h2, he, hr⟩ := h
    have f2 := AutoSeq1.sub_tuple_tuple
    have hZ : (xs.toList.zip ys.toList).length = min xs.size ys.size := by simp
    wp_walk using wpAny_loadPart' h1, wpAny_loadPart' h2, wpAny_forIn_list _ (fun rest b s' => b.1 = none ∧ s' = ⟨hp, g, d, tk, os⟩ ∧ ∃ i, rest = (xs.toList.zip ys.toList).drop i ∧ R (.ok (.ret (.bool (!(((List.range (min xs.size ys.size)).drop i).all e && xs.size == ys.size))))) ⟨hp, g, d, tk, os⟩) _
    case turn =>
      rintro ⟨y, x⟩ rest b s' ⟨hb', rfl, i, hz, hR⟩
      have q1 : i < (xs.toList.zip ys.toList).length := by
        by_cases z : i < (xs.toList.zip ys.toList).length
        · exact z
        · rw [List.drop_of_length_le (by omega)] at hz; cases hz
      have q2 : i < xs.size := by omega
      have q3 : i < ys.size := by omega
      rw [List.drop_eq_getElem_cons q1] at hz
      injection hz with e1 e2
      have y1 : y = xs[i] := by have := congrArg Prod.fst e1; simpa using this
      have x1 : x = ys[i] := by have := congrArg Prod.snd e1; simpa using this
      subst y1 x1
      have z3 : (List.range (min xs.size ys.size)).drop i = i :: (List.range (min xs.size ys.size)).drop (i + 1) := by simp [List.drop_eq_getElem_cons, show i < min xs.size ys.size by omega]
      rw [z3, List.all_cons] at hR
      refine wpAny_bind (he i q2 q3 _ _ ?_)
      cases hy : e i with
      | true => rw [hy] at hR; wp_walk; exact ⟨rfl, rfl, i + 1, e2, by simpa using hR⟩
      | false => rw [hy] at hR; wp_walk; exact ⟨_, rfl, by simpa using hR⟩
    case fin =>
      rintro ⟨b1, b2⟩ s' ⟨hb', rfl, i, hz, hR⟩
      simp only at hb'
      subst hb'
      have ge : min xs.size ys.size ≤ i := by
        by_cases z : i < (xs.toList.zip ys.toList).length
        · rw [List.drop_eq_getElem_cons z] at hz; cases hz
        · omega
      rw [List.drop_of_length_le (by simpa using ge)] at hR
      wp_walk
      exact ⟨_, rfl, by simpa [Builtin.Tuple.tupleCompareSizes, bne] using hR⟩
    case h => exact ⟨rfl, rfl, 0, rfl, by simpa using hr⟩
theorem rcNe_lists {A : Around} {s : Shared} {E : Value → Shared → Prop} {l b : Addr} {xs ys : Array Value} {e : Nat → Bool} {Q : Value → Shared → Prop} (hl : s.heap.IsList l xs) (hb : s.heap.IsList b ys) (hz : xs.size = ys.size) (hu : A.units < cLine)
    (he : ∀ j (h1 : j < xs.size) (h2 : j < ys.size), EqIn P w A.in1 s xs[j] ys[j] (e j)) (h : Q (.bool (!(List.range xs.size).all e)) s) : wpAny (model P w) A (richCompare .NotEq (.ref l) (.ref b)) Q E s := by
  obtain ⟨⟨c1, dd, data, sl⟩, ho, hc, n, hd⟩ := id hl
  obtain ⟨⟨c2, dd2, data2, sl2⟩, ho2, hc2, n2, hd2⟩ := id hb
  simp only at hc hd hc2 hd2
  subst hc hd hc2 hd2
  exact wpAny_richCompare_same_room (T := "list") (op := .NotEq) ⟨_, ho, rfl⟩ ⟨_, ho2, rfl⟩ F.slot_list_ne (call_meetsIn F.slot_list_ne ⟨_, ho, rfl⟩ F.entry_list_ne (F.args_list_ne_2 _ _) (ne_lists l b xs ys n n2 dd dd2 sl sl2 hz e)
    ⟨ho, ho2, he, show Value.bool (!(List.range xs.size).all e) ≠ Value.notImplemented ∧ Q (.bool (!(List.range xs.size).all e)) s from ⟨(fun x => nomatch x), h⟩⟩) hu
theorem rcNe_tuples {A : Around} {s : Shared} {E : Value → Shared → Prop} {l b : Addr} {xs ys : Array Value} {e : Nat → Bool} {Q : Value → Shared → Prop} (hl : s.heap.IsTuple l xs) (hb : s.heap.IsTuple b ys) (hu : A.units < cLine)
    (he : ∀ j (h1 : j < xs.size) (h2 : j < ys.size), EqIn P w A.in1 s xs[j] ys[j] (e j)) (h : Q (.bool (!((List.range (min xs.size ys.size)).all e && xs.size == ys.size))) s) : wpAny (model P w) A (richCompare .NotEq (.ref l) (.ref b)) Q E s := by
  obtain ⟨⟨c1, dd, data, sl⟩, ho, hc, n, hd⟩ := id hl
  obtain ⟨⟨c2, dd2, data2, sl2⟩, ho2, hc2, n2, hd2⟩ := id hb
  simp only at hc hd hc2 hd2
  subst hc hd hc2 hd2
  exact wpAny_richCompare_same_room (T := "tuple") (op := .NotEq) ⟨_, ho, rfl⟩ ⟨_, ho2, rfl⟩ F.slot_tuple_ne (call_meetsIn F.slot_tuple_ne ⟨_, ho, rfl⟩ F.entry_tuple_ne (F.args_tuple_ne_2 _ _) (ne_tuples l b xs ys n n2 dd dd2 sl sl2 e)
    ⟨ho, ho2, he, show Value.bool (!((List.range (min xs.size ys.size)).all e && xs.size == ys.size)) ≠ Value.notImplemented ∧ Q (.bool (!((List.range (min xs.size ys.size)).all e && xs.size == ys.size))) s from ⟨(fun x => nomatch x), h⟩⟩) hu
end
end L3
end S_Lr
section S_Ls
set_option maxHeartbeats 0
namespace L3
open PySem PySem.Spec PyProof.Rows L2
section
variable {X : Cx} {pins : List (Addr × Obj)} {σ : L2.St} {F H : Hp} {s : Shared}
theorem rb_lst (I : Inv X pins σ H s) {ds : List D} {x : V} {v : Value} (h : RB X.K F H (.lst ds) x) (r : RelV x v) : ∃ p vs ws, x = .ref p ∧ v = .ref p ∧ H p = some (.lst vs) ∧ Reps X.K F ds vs ∧ Vals vs ws ∧ s.heap.IsList p ws.toArray := by
  obtain ⟨p, vs, e, hp, rs⟩ := h
  subst e
  obtain ⟨its, r1, pl, _⟩ := I.list (.inl (.inl hp))
  exact ⟨p, vs, its, rfl, r, hp, rs, r1, isList_of pl⟩
theorem rb_tup (I : Inv X pins σ H s) {ds : List D} {x : V} {v : Value} (h : RB X.K F H (.tup ds) x) (r : RelV x v) : ∃ p vs ws, x = .ref p ∧ v = .ref p ∧ H p = some (.tup vs) ∧ Reps X.K F ds vs ∧ Vals vs ws ∧ s.heap.IsTuple p ws.toArray := by
  obtain ⟨p, vs, e, hp, _, rs⟩ := h
  subst e
  obtain ⟨its, r1, pl, _⟩ := I.tuple (.inl (.inl hp))
  exact ⟨p, vs, its, rfl, r, hp, rs, r1, pl⟩
theorem eq_leaf (I : Inv X pins σ H s) (hu : X.A.units + 64 < cLine) {d e : D} {x y : V} {v u : Value} {b : Bool} (h1 : RB X.K F H d x) (h2 : RB X.K F H e y) (r1 : RelV x v) (r2 : RelV y u) (h : eqO d e = some b) (n1 : ∀ a c, d = .lst a → e ≠ .lst c) (n2 : ∀ a c, d = .tup a → e ≠ .tup c) (n3 : ∀ a c, d = .dic a → e ≠ .dic c) {E Q : Value → Shared → Prop} (q : Q (.bool b) s) : wpAny (model X.prog X.w) X.A (compareOp .Eq v u) Q E s := by
  cases d with
  | non =>
    cases e with
    | non =>
      have e1 := val_non h1 r1
      subst e1
      have e2 := val_non h2 r2
      subst e2
      cases h
      exact PySem.EqNone.eq_none_none q
    | bl c2 =>
      have e1 := val_non h1 r1
      subst e1
      have e2 := val_bl h2 r2
      subst e2
      cases h
      exact (SeqAt.RcAt.none_bool _ : SeqAt.RcAt _ s _ _ _) X.prog X.w E Q q
    | int c2 =>
      have e1 := val_non h1 r1
      subst e1
      obtain ⟨t2, e2⟩ := val_int h2 r2
      subst e2
      cases h
      exact (SeqAt.RcAt.none_int _ _ : SeqAt.RcAt _ s _ _ _) X.prog X.w E Q q
    | str c2 =>
      have e1 := val_non h1 r1
      subst e1
      obtain ⟨t2, e2⟩ := val_str h2 r2
      subst e2
      cases h
      exact (SeqAt.RcAt.none_str _ _ : SeqAt.RcAt _ s _ _ _) X.prog X.w E Q q
    | lst c2 =>
      have e1 := val_non h1 r1
      subst e1
      obtain ⟨p2, vs2, ws2, _, e2, _, _, _, L2⟩ := rb_lst I h2 r2
      subst e2
      cases h
      exact (SeqAt.RcAt.none_list L2 (by omega) : SeqAt.RcAt _ s _ _ _) X.prog X.w E Q q
    | tup c2 =>
      have e1 := val_non h1 r1
      subst e1
      obtain ⟨p2, vs2, ws2, _, e2, _, _, _, L2⟩ := rb_tup I h2 r2
      subst e2
      cases h
      exact (SeqAt.RcAt.none_tuple L2 (by omega) : SeqAt.RcAt _ s _ _ _) X.prog X.w E Q q
    | dic c2 => cases h
    | dit c2 => cases h
    | scr c2 => cases h
    | ty c2 => cases h
    | exn c2 => cases h
    | cl c2 => cases h
    | ptr c2 => cases h
  | bl c =>
    cases e with
    | non =>
      have e1 := val_bl h1 r1
      subst e1
      have e2 := val_non h2 r2
      subst e2
      cases h
      exact (SeqAt.RcAt.bool_none _ : SeqAt.RcAt _ s _ _ _) X.prog X.w E Q q
    | bl c2 =>
      have e1 := val_bl h1 r1
      subst e1
      have e2 := val_bl h2 r2
      subst e2
      cases h
      exact (SeqAt.RcAt.bool_bool _ _ : SeqAt.RcAt _ s _ _ _) X.prog X.w E Q q
    | int c2 =>
      have e1 := val_bl h1 r1
      subst e1
      obtain ⟨t2, e2⟩ := val_int h2 r2
      subst e2
      cases h
      exact (SeqAt.RcAt.bool_int _ _ _ : SeqAt.RcAt _ s _ _ _) X.prog X.w E Q q
    | str c2 =>
      have e1 := val_bl h1 r1
      subst e1
      obtain ⟨t2, e2⟩ := val_str h2 r2
      subst e2
      cases h
      exact (SeqAt.RcAt.bool_str _ _ _ : SeqAt.RcAt _ s _ _ _) X.prog X.w E Q q
    | lst c2 =>
      have e1 := val_bl h1 r1
      subst e1
      obtain ⟨p2, vs2, ws2, _, e2, _, _, _, L2⟩ := rb_lst I h2 r2
      subst e2
      cases h
      exact (SeqAt.RcAt.bool_list _ L2 (by omega) : SeqAt.RcAt _ s _ _ _) X.prog X.w E Q q
    | tup c2 =>
      have e1 := val_bl h1 r1
      subst e1
      obtain ⟨p2, vs2, ws2, _, e2, _, _, _, L2⟩ := rb_tup I h2 r2
      subst e2
      cases h
      exact (SeqAt.RcAt.bool_tuple _ L2 (by omega) : SeqAt.RcAt _ s _ _ _) X.prog X.w E Q q
    | dic c2 => cases h
    | dit c2 => cases h
    | scr c2 => cases h
    | ty c2 => cases h
    | exn c2 => cases h
    | cl c2 => cases h
    | ptr c2 => cases h
  | int c =>
    cases e with
    | non =>
      obtain ⟨t1, e1⟩ := val_int h1 r1
      subst e1
      have e2 := val_non h2 r2
      subst e2
      cases h
      exact (SeqAt.RcAt.int_none _ _ : SeqAt.RcAt _ s _ _ _) X.prog X.w E Q q
    | bl c2 =>
      obtain ⟨t1, e1⟩ := val_int h1 r1
      subst e1
      have e2 := val_bl h2 r2
      subst e2
      cases h
      exact (SeqAt.RcAt.int_bool _ _ _ : SeqAt.RcAt _ s _ _ _) X.prog X.w E Q q
    | int c2 =>
      obtain ⟨t1, e1⟩ := val_int h1 r1
      subst e1
      obtain ⟨t2, e2⟩ := val_int h2 r2
      subst e2
      cases h
      exact (SeqAt.RcAt.int_int _ _ _ _ : SeqAt.RcAt _ s _ _ _) X.prog X.w E Q q
    | str c2 =>
      obtain ⟨t1, e1⟩ := val_int h1 r1
      subst e1
      obtain ⟨t2, e2⟩ := val_str h2 r2
      subst e2
      cases h
      exact (SeqAt.RcAt.int_str _ _ _ _ : SeqAt.RcAt _ s _ _ _) X.prog X.w E Q q
    | lst c2 =>
      obtain ⟨t1, e1⟩ := val_int h1 r1
      subst e1
      obtain ⟨p2, vs2, ws2, _, e2, _, _, _, L2⟩ := rb_lst I h2 r2
      subst e2
      cases h
      exact (SeqAt.RcAt.int_list _ _ L2 (by omega) : SeqAt.RcAt _ s _ _ _) X.prog X.w E Q q
    | tup c2 =>
      obtain ⟨t1, e1⟩ := val_int h1 r1
      subst e1
      obtain ⟨p2, vs2, ws2, _, e2, _, _, _, L2⟩ := rb_tup I h2 r2
      subst e2
      cases h
      exact (SeqAt.RcAt.int_tuple _ _ L2 (by omega) : SeqAt.RcAt _ s _ _ _) X.prog X.w E Q q
    | dic c2 => cases h
    | dit c2 => cases h
    | scr c2 => cases h
    | ty c2 => cases h
    | exn c2 => cases h
    | cl c2 => cases h
    | ptr c2 => cases h
  | str c =>
    cases e with
    | non =>
      obtain ⟨t1, e1⟩ := val_str h1 r1
      subst e1
      have e2 := val_non h2 r2
      subst e2
      cases h
      exact (SeqAt.RcAt.str_none _ _ : SeqAt.RcAt _ s _ _ _) X.prog X.w E Q q
    | bl c2 =>
      obtain ⟨t1, e1⟩ := val_str h1 r1
      subst e1
      have e2 := val_bl h2 r2
      subst e2
      cases h
      exact (SeqAt.RcAt.str_bool _ _ _ : SeqAt.RcAt _ s _ _ _) X.prog X.w E Q q
    | int c2 =>
      obtain ⟨t1, e1⟩ := val_str h1 r1
      subst e1
      obtain ⟨t2, e2⟩ := val_int h2 r2
      subst e2
      cases h
      exact (SeqAt.RcAt.str_int _ _ _ _ : SeqAt.RcAt _ s _ _ _) X.prog X.w E Q q
    | str c2 =>
      obtain ⟨t1, e1⟩ := val_str h1 r1
      subst e1
      obtain ⟨t2, e2⟩ := val_str h2 r2
      subst e2
      cases h
      exact (SeqAt.RcAt.str_str _ _ _ _ : SeqAt.RcAt _ s _ _ _) X.prog X.w E Q q
    | lst c2 =>
      obtain ⟨t1, e1⟩ := val_str h1 r1
      subst e1
      obtain ⟨p2, vs2, ws2, _, e2, _, _, _, L2⟩ := rb_lst I h2 r2
      subst e2
      cases h
      exact (SeqAt.RcAt.str_list _ _ L2 (by omega) : SeqAt.RcAt _ s _ _ _) X.prog X.w E Q q
    | tup c2 =>
      obtain ⟨t1, e1⟩ := val_str h1 r1
      subst e1
      obtain ⟨p2, vs2, ws2, _, e2, _, _, _, L2⟩ := rb_tup I h2 r2
      subst e2
      cases h
      exact (SeqAt.RcAt.str_tuple _ _ L2 (by omega) : SeqAt.RcAt _ s _ _ _) X.prog X.w E Q q
    | dic c2 => cases h
    | dit c2 => cases h
    | scr c2 => cases h
    | ty c2 => cases h
    | exn c2 => cases h
    | cl c2 => cases h
    | ptr c2 => cases h
  | lst c =>
    cases e with
    | non =>
      obtain ⟨p1, vs1, ws1, _, e1, _, _, _, L1⟩ := rb_lst I h1 r1
      subst e1
      have e2 := val_non h2 r2
      subst e2
      cases h
      exact (SeqAt.RcAt.list_none L1 (by omega) : SeqAt.RcAt _ s _ _ _) X.prog X.w E Q q
    | bl c2 =>
      obtain ⟨p1, vs1, ws1, _, e1, _, _, _, L1⟩ := rb_lst I h1 r1
      subst e1
      have e2 := val_bl h2 r2
      subst e2
      cases h
      exact (SeqAt.RcAt.list_bool _ L1 (by omega) : SeqAt.RcAt _ s _ _ _) X.prog X.w E Q q
    | int c2 =>
      obtain ⟨p1, vs1, ws1, _, e1, _, _, _, L1⟩ := rb_lst I h1 r1
      subst e1
      obtain ⟨t2, e2⟩ := val_int h2 r2
      subst e2
      cases h
      exact (SeqAt.RcAt.list_int _ _ L1 (by omega) : SeqAt.RcAt _ s _ _ _) X.prog X.w E Q q
    | str c2 =>
      obtain ⟨p1, vs1, ws1, _, e1, _, _, _, L1⟩ := rb_lst I h1 r1
      subst e1
      obtain ⟨t2, e2⟩ := val_str h2 r2
      subst e2
      cases h
      exact (SeqAt.RcAt.list_str _ _ L1 (by omega) : SeqAt.RcAt _ s _ _ _) X.prog X.w E Q q
    | lst c2 =>
      exact (n1 _ _ rfl rfl).elim
    | tup c2 =>
      obtain ⟨p1, vs1, ws1, _, e1, _, _, _, L1⟩ := rb_lst I h1 r1
      subst e1
      obtain ⟨p2, vs2, ws2, _, e2, _, _, _, L2⟩ := rb_tup I h2 r2
      subst e2
      cases h
      exact (SeqAt.RcAt.list_tuple L1 L2 (by omega) : SeqAt.RcAt _ s _ _ _) X.prog X.w E Q q
    | dic c2 => cases h
    | dit c2 => cases h
    | scr c2 => cases h
    | ty c2 => cases h
    | exn c2 => cases h
    | cl c2 => cases h
    | ptr c2 => cases h
  | tup c =>
    cases e with
    | non =>
      obtain ⟨p1, vs1, ws1, _, e1, _, _, _, L1⟩ := rb_tup I h1 r1
      subst e1
      have e2 := val_non h2 r2
      subst e2
      cases h
      exact (SeqAt.RcAt.tuple_none L1 (by omega) : SeqAt.RcAt _ s _ _ _) X.prog X.w E Q q
    | bl c2 =>
      obtain ⟨p1, vs1, ws1, _, e1, _, _, _, L1⟩ := rb_tup I h1 r1
      subst e1
      have e2 := val_bl h2 r2
      subst e2
      cases h
      exact (SeqAt.RcAt.tuple_bool _ L1 (by omega) : SeqAt.RcAt _ s _ _ _) X.prog X.w E Q q
    | int c2 =>
      obtain ⟨p1, vs1, ws1, _, e1, _, _, _, L1⟩ := rb_tup I h1 r1
      subst e1
      obtain ⟨t2, e2⟩ := val_int h2 r2
      subst e2
      cases h
      exact (SeqAt.RcAt.tuple_int _ _ L1 (by omega) : SeqAt.RcAt _ s _ _ _) X.prog X.w E Q q
    | str c2 =>
      obtain ⟨p1, vs1, ws1, _, e1, _, _, _, L1⟩ := rb_tup I h1 r1
      subst e1
      obtain ⟨t2, e2⟩ := val_str h2 r2
      subst e2
      cases h
      exact (SeqAt.RcAt.tuple_str _ _ L1 (by omega) : SeqAt.RcAt _ s _ _ _) X.prog X.w E Q q
    | lst c2 =>
      obtain ⟨p1, vs1, ws1, _, e1, _, _, _, L1⟩ := rb_tup I h1 r1
      subst e1
      obtain ⟨p2, vs2, ws2, _, e2, _, _, _, L2⟩ := rb_lst I h2 r2
      subst e2
      cases h
      exact (SeqAt.RcAt.tuple_list L1 L2 (by omega) : SeqAt.RcAt _ s _ _ _) X.prog X.w E Q q
    | tup c2 =>
      exact (n2 _ _ rfl rfl).elim
    | dic c2 => cases h
    | dit c2 => cases h
    | scr c2 => cases h
    | ty c2 => cases h
    | exn c2 => cases h
    | cl c2 => cases h
    | ptr c2 => cases h
  | dic c =>
    cases e with
    | dic c2 => exact (n3 _ _ rfl rfl).elim
    | _ => cases h
  | dit c => cases e <;> cases h
  | scr c => cases e <;> cases h
  | ty c => cases e <;> cases h
  | exn c => cases e <;> cases h
  | cl c => cases e <;> cases h
  | ptr c => cases e <;> cases h
theorem ne_leaf (I : Inv X pins σ H s) (hu : X.A.units + 64 < cLine) {d e : D} {x y : V} {v u : Value} {b : Bool} (h1 : RB X.K F H d x) (h2 : RB X.K F H e y) (r1 : RelV x v) (r2 : RelV y u) (h : eqO d e = some b) (n1 : ∀ a c, d = .lst a → e ≠ .lst c) (n2 : ∀ a c, d = .tup a → e ≠ .tup c) (n3 : ∀ a c, d = .dic a → e ≠ .dic c) {E Q : Value → Shared → Prop} (q : Q (.bool (!b)) s) : wpAny (model X.prog X.w) X.A (compareOp .NotEq v u) Q E s := by
  cases d with
  | non =>
    cases e with
    | non =>
      have e1 := val_non h1 r1
      subst e1
      have e2 := val_non h2 r2
      subst e2
      cases h
      exact PySem.EqNone.ne_none_none q
    | bl c2 =>
      have e1 := val_non h1 r1
      subst e1
      have e2 := val_bl h2 r2
      subst e2
      cases h
      exact (SeqAt.RcNeAt.none_bool _ : SeqAt.RcNeAt _ s _ _ _) X.prog X.w E Q q
    | int c2 =>
      have e1 := val_non h1 r1
      subst e1
      obtain ⟨t2, e2⟩ := val_int h2 r2
      subst e2
      cases h
      exact (SeqAt.RcNeAt.none_int _ _ : SeqAt.RcNeAt _ s _ _ _) X.prog X.w E Q q
    | str c2 =>
      have e1 := val_non h1 r1
      subst e1
      obtain ⟨t2, e2⟩ := val_str h2 r2
      subst e2
      cases h
      exact (SeqAt.RcNeAt.none_str _ _ : SeqAt.RcNeAt _ s _ _ _) X.prog X.w E Q q
    | lst c2 =>
      have e1 := val_non h1 r1
      subst e1
      obtain ⟨p2, vs2, ws2, _, e2, _, _, _, L2⟩ := rb_lst I h2 r2
      subst e2
      cases h
      exact (SeqAt.RcNeAt.none_list L2 (by omega) : SeqAt.RcNeAt _ s _ _ _) X.prog X.w E Q q
    | tup c2 =>
      have e1 := val_non h1 r1
      subst e1
      obtain ⟨p2, vs2, ws2, _, e2, _, _, _, L2⟩ := rb_tup I h2 r2
      subst e2
      cases h
      exact (SeqAt.RcNeAt.none_tuple L2 (by omega) : SeqAt.RcNeAt _ s _ _ _) X.prog X.w E Q q
    | dic c2 => cases h
    | dit c2 => cases h
    | scr c2 => cases h
    | ty c2 => cases h
    | exn c2 => cases h
    | cl c2 => cases h
    | ptr c2 => cases h
  | bl c =>
    cases e with
    | non =>
      have e1 := val_bl h1 r1
      subst e1
      have e2 := val_non h2 r2
      subst e2
      cases h
      exact (SeqAt.RcNeAt.bool_none _ : SeqAt.RcNeAt _ s _ _ _) X.prog X.w E Q q
    | bl c2 =>
      have e1 := val_bl h1 r1
      subst e1
      have e2 := val_bl h2 r2
      subst e2
      cases h
      exact (SeqAt.RcNeAt.bool_bool _ _ : SeqAt.RcNeAt _ s _ _ _) X.prog X.w E Q q
    | int c2 =>
      have e1 := val_bl h1 r1
      subst e1
      obtain ⟨t2, e2⟩ := val_int h2 r2
      subst e2
      cases h
      exact (SeqAt.RcNeAt.bool_int _ _ _ : SeqAt.RcNeAt _ s _ _ _) X.prog X.w E Q q
    | str c2 =>
      have e1 := val_bl h1 r1
      subst e1
      obtain ⟨t2, e2⟩ := val_str h2 r2
      subst e2
      cases h
      exact (SeqAt.RcNeAt.bool_str _ _ _ : SeqAt.RcNeAt _ s _ _ _) X.prog X.w E Q q
    | lst c2 =>
      have e1 := val_bl h1 r1
      subst e1
      obtain ⟨p2, vs2, ws2, _, e2, _, _, _, L2⟩ := rb_lst I h2 r2
      subst e2
      cases h
      exact (SeqAt.RcNeAt.bool_list _ L2 (by omega) : SeqAt.RcNeAt _ s _ _ _) X.prog X.w E Q q
    | tup c2 =>
      have e1 := val_bl h1 r1
      subst e1
      obtain ⟨p2, vs2, ws2, _, e2, _, _, _, L2⟩ := rb_tup I h2 r2
      subst e2
      cases h
      exact (SeqAt.RcNeAt.bool_tuple _ L2 (by omega) : SeqAt.RcNeAt _ s _ _ _) X.prog X.w E Q q
    | dic c2 => cases h
    | dit c2 => cases h
    | scr c2 => cases h
    | ty c2 => cases h
    | exn c2 => cases h
    | cl c2 => cases h
    | ptr c2 => cases h
  | int c =>
    cases e with
    | non =>
      obtain ⟨t1, e1⟩ := val_int h1 r1
      subst e1
      have e2 := val_non h2 r2
      subst e2
      cases h
      exact (SeqAt.RcNeAt.int_none _ _ : SeqAt.RcNeAt _ s _ _ _) X.prog X.w E Q q
    | bl c2 =>
      obtain ⟨t1, e1⟩ := val_int h1 r1
      subst e1
      have e2 := val_bl h2 r2
      subst e2
      cases h
      exact (SeqAt.RcNeAt.int_bool _ _ _ : SeqAt.RcNeAt _ s _ _ _) X.prog X.w E Q q
    | int c2 =>
      obtain ⟨t1, e1⟩ := val_int h1 r1
      subst e1
      obtain ⟨t2, e2⟩ := val_int h2 r2
      subst e2
      cases h
      exact (SeqAt.RcNeAt.int_int _ _ _ _ : SeqAt.RcNeAt _ s _ _ _) X.prog X.w E Q q
    | str c2 =>
      obtain ⟨t1, e1⟩ := val_int h1 r1
      subst e1
      obtain ⟨t2, e2⟩ := val_str h2 r2
      subst e2
      cases h
      exact (SeqAt.RcNeAt.int_str _ _ _ _ : SeqAt.RcNeAt _ s _ _ _) X.prog X.w E Q q
    | lst c2 =>
      obtain ⟨t1, e1⟩ := val_int h1 r1
      subst e1
      obtain ⟨p2, vs2, ws2, _, e2, _, _, _, L2⟩ := rb_lst I h2 r2
      subst e2
      cases h
      exact (SeqAt.RcNeAt.int_list _ _ L2 (by omega) : SeqAt.RcNeAt _ s _ _ _) X.prog X.w E Q q
    | tup c2 =>
      obtain ⟨t1, e1⟩ := val_int h1 r1
      subst e1
      obtain ⟨p2, vs2, ws2, _, e2, _, _, _, L2⟩ := rb_tup I h2 r2
      subst e2
      cases h
      exact (SeqAt.RcNeAt.int_tuple _ _ L2 (by omega) : SeqAt.RcNeAt _ s _ _ _) X.prog X.w E Q q
    | dic c2 => cases h
    | dit c2 => cases h
    | scr c2 => cases h
    | ty c2 => cases h
    | exn c2 => cases h
    | cl c2 => cases h
    | ptr c2 => cases h
  | str c =>
    cases e with
    | non =>
      obtain ⟨t1, e1⟩ := val_str h1 r1
      subst e1
      have e2 := val_non h2 r2
      subst e2
      cases h
      exact (SeqAt.RcNeAt.str_none _ _ : SeqAt.RcNeAt _ s _ _ _) X.prog X.w E Q q
    | bl c2 =>
      obtain ⟨t1, e1⟩ := val_str h1 r1
      subst e1
      have e2 := val_bl h2 r2
      subst e2
      cases h
      exact (SeqAt.RcNeAt.str_bool _ _ _ : SeqAt.RcNeAt _ s _ _ _) X.prog X.w E Q q
    | int c2 =>
      obtain ⟨t1, e1⟩ := val_str h1 r1
      subst e1
      obtain ⟨t2, e2⟩ := val_int h2 r2
      subst e2
      cases h
      exact (SeqAt.RcNeAt.str_int _ _ _ _ : SeqAt.RcNeAt _ s _ _ _) X.prog X.w E Q q
    | str c2 =>
      obtain ⟨t1, e1⟩ := val_str h1 r1
      subst e1
      obtain ⟨t2, e2⟩ := val_str h2 r2
      subst e2
      cases h
      exact (SeqAt.RcNeAt.str_str _ _ _ _ : SeqAt.RcNeAt _ s _ _ _) X.prog X.w E Q q
    | lst c2 =>
      obtain ⟨t1, e1⟩ := val_str h1 r1
      subst e1
      obtain ⟨p2, vs2, ws2, _, e2, _, _, _, L2⟩ := rb_lst I h2 r2
      subst e2
      cases h
      exact (SeqAt.RcNeAt.str_list _ _ L2 (by omega) : SeqAt.RcNeAt _ s _ _ _) X.prog X.w E Q q
    | tup c2 =>
      obtain ⟨t1, e1⟩ := val_str h1 r1
      subst e1
      obtain ⟨p2, vs2, ws2, _, e2, _, _, _, L2⟩ := rb_tup I h2 r2
      subst e2
      cases h
      exact (SeqAt.RcNeAt.str_tuple _ _ L2 (by omega) : SeqAt.RcNeAt _ s _ _ _) X.prog X.w E Q q
    | dic c2 => cases h
    | dit c2 => cases h
    | scr c2 => cases h
    | ty c2 => cases h
    | exn c2 => cases h
    | cl c2 => cases h
    | ptr c2 => cases h
  | lst c =>
    cases e with
    | non =>
      obtain ⟨p1, vs1, ws1, _, e1, _, _, _, L1⟩ := rb_lst I h1 r1
      subst e1
      have e2 := val_non h2 r2
      subst e2
      cases h
      exact (SeqAt.RcNeAt.list_none L1 (by omega) : SeqAt.RcNeAt _ s _ _ _) X.prog X.w E Q q
    | bl c2 =>
      obtain ⟨p1, vs1, ws1, _, e1, _, _, _, L1⟩ := rb_lst I h1 r1
      subst e1
      have e2 := val_bl h2 r2
      subst e2
      cases h
      exact (SeqAt.RcNeAt.list_bool _ L1 (by omega) : SeqAt.RcNeAt _ s _ _ _) X.prog X.w E Q q
    | int c2 =>
      obtain ⟨p1, vs1, ws1, _, e1, _, _, _, L1⟩ := rb_lst I h1 r1
      subst e1
      obtain ⟨t2, e2⟩ := val_int h2 r2
      subst e2
      cases h
      exact (SeqAt.RcNeAt.list_int _ _ L1 (by omega) : SeqAt.RcNeAt _ s _ _ _) X.prog X.w E Q q
    | str c2 =>
      obtain ⟨p1, vs1, ws1, _, e1, _, _, _, L1⟩ := rb_lst I h1 r1
      subst e1
      obtain ⟨t2, e2⟩ := val_str h2 r2
      subst e2
      cases h
      exact (SeqAt.RcNeAt.list_str _ _ L1 (by omega) : SeqAt.RcNeAt _ s _ _ _) X.prog X.w E Q q
    | lst c2 =>
      exact (n1 _ _ rfl rfl).elim
    | tup c2 =>
      obtain ⟨p1, vs1, ws1, _, e1, _, _, _, L1⟩ := rb_lst I h1 r1
      subst e1
      obtain ⟨p2, vs2, ws2, _, e2, _, _, _, L2⟩ := rb_tup I h2 r2
      subst e2
      cases h
      exact (SeqAt.RcNeAt.list_tuple L1 L2 (by omega) : SeqAt.RcNeAt _ s _ _ _) X.prog X.w E Q q
    | dic c2 => cases h
    | dit c2 => cases h
    | scr c2 => cases h
    | ty c2 => cases h
    | exn c2 => cases h
    | cl c2 => cases h
    | ptr c2 => cases h
  | tup c =>
    cases e with
    | non =>
      obtain ⟨p1, vs1, ws1, _, e1, _, _, _, L1⟩ := rb_tup I h1 r1
      subst e1
      have e2 := val_non h2 r2
      subst e2
      cases h
      exact (SeqAt.RcNeAt.tuple_none L1 (by omega) : SeqAt.RcNeAt _ s _ _ _) X.prog X.w E Q q
    | bl c2 =>
      obtain ⟨p1, vs1, ws1, _, e1, _, _, _, L1⟩ := rb_tup I h1 r1
      subst e1
      have e2 := val_bl h2 r2
      subst e2
      cases h
      exact (SeqAt.RcNeAt.tuple_bool _ L1 (by omega) : SeqAt.RcNeAt _ s _ _ _) X.prog X.w E Q q
    | int c2 =>
      obtain ⟨p1, vs1, ws1, _, e1, _, _, _, L1⟩ := rb_tup I h1 r1
      subst e1
      obtain ⟨t2, e2⟩ := val_int h2 r2
      subst e2
      cases h
      exact (SeqAt.RcNeAt.tuple_int _ _ L1 (by omega) : SeqAt.RcNeAt _ s _ _ _) X.prog X.w E Q q
    | str c2 =>
      obtain ⟨p1, vs1, ws1, _, e1, _, _, _, L1⟩ := rb_tup I h1 r1
      subst e1
      obtain ⟨t2, e2⟩ := val_str h2 r2
      subst e2
      cases h
      exact (SeqAt.RcNeAt.tuple_str _ _ L1 (by omega) : SeqAt.RcNeAt _ s _ _ _) X.prog X.w E Q q
    | lst c2 =>
      obtain ⟨p1, vs1, ws1, _, e1, _, _, _, L1⟩ := rb_tup I h1 r1
      subst e1
      obtain ⟨p2, vs2, ws2, _, e2, _, _, _, L2⟩ := rb_lst I h2 r2
      subst e2
      cases h
      exact (SeqAt.RcNeAt.tuple_list L1 L2 (by omega) : SeqAt.RcNeAt _ s _ _ _) X.prog X.w E Q q
    | tup c2 =>
      exact (n2 _ _ rfl rfl).elim
    | dic c2 => cases h
    | dit c2 => cases h
    | scr c2 => cases h
    | ty c2 => cases h
    | exn c2 => cases h
    | cl c2 => cases h
    | ptr c2 => cases h
  | dic c =>
    cases e with
    | dic c2 => exact (n3 _ _ rfl rfl).elim
    | _ => cases h
  | dit c => cases e <;> cases h
  | scr c => cases e <;> cases h
  | ty c => cases e <;> cases h
  | exn c => cases e <;> cases h
  | cl c => cases e <;> cases h
  | ptr c => cases e <;> cases h
/-- what the items of two rows come to, one below -/
theorem items_at (I : Inv X pins σ H s) (sb : Sub F H) {n : Nat} (hu : X.A.units + 1 + n < cLine) {xs ys : List D} {vs us : List V} {ws zs : List Value} {b : Bool} (hd : xs.all (depLe n) = true) (rs : Reps X.K F xs vs) (rs' : Reps X.K F ys us) (z1 : Vals vs ws) (z2 : Vals us zs) (q : eqOs xs ys = some b) :
    (∀ j (h1 : j < ws.toArray.size) (h2 : j < zs.toArray.size), SeqAt.EqIn X.prog X.w X.A.in1 s ws.toArray[j] zs.toArray[j] (eAt xs ys j)) ∧ (List.range (min xs.length ys.length)).all (eAt xs ys) = b := by
  obtain ⟨k1, k2⟩ := eqOs_all xs ys b q
  refine ⟨fun j h1 h2 => ?_, k2⟩
  exact (itm_at (itm_of (n := n) (eqO_tree I sb n) hd rs rs' k1) z1 z2 j h1 h2).at X.A.in1 (by show X.A.units + 1 + n < cLine; omega)
theorem dicts_at (I : Inv X pins σ H s) (sb : Sub F H) {n : Nat} (hu : X.A.units + 1 + n < cLine) {xs ys : List (Key × D)} {p1 p2 : Addr} {kv1 kv2 : List (Key × V)} {c : Bool} (hd : (xs.all fun p => depLe n p.2) = true) (hp1 : Rd H p1 (.dK kv1)) (hp2 : Rd H p2 (.dK kv2)) (rs1 : RepK X.K F xs kv1) (rs2 : RepK X.K F ys kv2) (q : eqOk xs ys = some c) :
    ∃ ws1 ws2, (p1 == sysModules) = false ∧ (p2 == sysModules) = false ∧ s.heap.DictOf (mixKind X.prog X.w) p1 ws1 ∧ s.heap.DictOf (mixKind X.prog X.w) p2 ws2 ∧ PySem.W.KeqHitsIn X.prog X.w X.A.in1 s ws2 ws1 c ∧ ws1.length = xs.length ∧ ws2.length = ys.length := by
  obtain ⟨m1, ws1, z1, d1⟩ := dict_at I hp1
  obtain ⟨m2, ws2, z2, d2⟩ := dict_at I hp2
  have nd : (xs.map (·.1)).Nodup := by rw [← rs1.keys, ← KV.keys' z1]; exact dictOf_nd d1
  obtain ⟨k1, k2⟩ := eqOk_all xs ys nd xs c (fun _ h => h) q
  have im : ∀ (k : Key) (v y : Value), (k, v) ∈ ws1 → valueAt ws2 k = some y → SeqAt.EqIn X.prog X.w X.A.in1 s v y (kAt xs ys k) := fun k v y hm hv => by
    obtain ⟨v1, a1, a2⟩ := KV.mem' z1 hm
    obtain ⟨d, b1, b2⟩ := RepK.mem rs1 a1
    have g1 : gV xs k = some d := gV_of nd b1
    have rv := z2.val k
    rw [hv] at rv
    have v2 := rs2.val k
    cases g2 : gV ys k with
    | none => rw [g2] at v2; rw [v2] at rv; exact rv.elim
    | some d2 =>
      rw [g2] at v2
      obtain ⟨y1, c1, c2⟩ := v2
      rw [c1] at rv
      obtain ⟨c', hc⟩ := k1 _ b1 d2 g2
      have hd' : depLe n d = true := List.all_eq_true.mp hd _ b1
      have t := (eqO_tree I sb n d d2 v1 y1 v y c' hd' b2 c2 a2 rv hc).at X.A.in1 (by show X.A.units + 1 + n < cLine; omega)
      simpa [kAt, g1, g2, hc] using t
  refine ⟨ws1, ws2, m1, m2, d1, d2, ?_, by rw [← Paired.length z1, rs1.len], by rw [← Paired.length z2, rs2.len]⟩
  have hits := PySem.W.KeqHitsIn.of (e := kAt xs ys) ws1 im
  have f1 : ∀ (l1 : List (Key × Value)) (l2 : List (Key × D)), l1.map (·.1) = l2.map (·.1) → (l1.all fun p => (valueAt ws2 p.1).isSome && kAt xs ys p.1) = (l2.all fun p => (gV ys p.1).isSome && kAt xs ys p.1) := by
    intro l1
    induction l1 with
    | nil => intro l2 h; cases l2 with
      | nil => rfl
      | cons => cases h
    | cons a l1 ih =>
      intro l2 h
      cases l2 with
      | nil => cases h
      | cons b l2 =>
        have h1 : a.1 = b.1 := (List.cons.inj h).1
        rw [List.all_cons, List.all_cons, ih l2 (List.cons.inj h).2, h1]
        have : (valueAt ws2 b.1).isSome = (gV ys b.1).isSome := by
          have rv := (z2.val b.1).isSome_eq
          have v2 := rs2.val b.1
          cases g2 : gV ys b.1 with
          | none => rw [g2] at v2; rw [v2] at rv; exact rv.symm
          | some d2 => rw [g2] at v2; obtain ⟨y1, c1, _⟩ := v2; rw [c1] at rv; exact rv.symm
        rw [this]
  rw [f1 ws1 xs (by rw [KV.keys' z1, rs1.keys]), k2] at hits
  exact hits
end
/-- == of data -/
def rEqG (K : Fg) : R2 := fun x y H Q => ∃ F d e b, Sub F H ∧ RB K F H d x ∧ RB K F H e y ∧ eqO d e = some b ∧ depLe 60 d = true ∧ Q (.bl b) H
def neO (d e : D) : Option Bool := match d, e with
  | .dic a, .dic b => if a.length = b.length then (if a.length = 0 then some false else none) else some true
  | d, e => match eqO d e with
    | some b => some (!b)
    | none => none
def rNeG (K : Fg) : R2 := fun x y H Q => ∃ F d e b, Sub F H ∧ RB K F H d x ∧ RB K F H e y ∧ neO d e = some b ∧ depLe 60 d = true ∧ Q (.bl b) H
section
variable {X : Cx}
theorem op_eqG (hu : X.A.units + 64 < cLine) : OpR X (compareOp .Eq) (rEqG X.K) := by
  intro pins s σ H x y v u Q I r1 r2 hh
  obtain ⟨F, d, e, b, sb, h1, h2, h, hd, q⟩ := hh
  have fin : EP X pins σ Q (.bool b) s := ⟨.bl b, H, I, rfl, q⟩
  by_cases c1 : ∃ a c, d = .lst a ∧ e = .lst c
  · obtain ⟨xs, ys, rfl, rfl⟩ := c1
    obtain ⟨p1, vs1, ws1, _, e1, _, rs1, z1, L1⟩ := rb_lst I h1 r1
    obtain ⟨p2, vs2, ws2, _, e2, _, rs2, z2, L2⟩ := rb_lst I h2 r2
    subst e1 e2
    have l1 : ws1.toArray.size = xs.length := by rw [List.size_toArray, ← z1.length, rs1.len]
    have l2 : ws2.toArray.size = ys.length := by rw [List.size_toArray, ← z2.length, rs2.len]
    by_cases hl : xs.length = ys.length
    · rw [eqO, if_pos hl] at h
      obtain ⟨k1, k2⟩ := items_at I sb (n := 59) (by omega) hd rs1 rs2 z1 z2 h
      refine SeqAt.rcIn_lists L1 L2 (by rw [l1, l2, hl]) (by omega) k1 ?_
      rw [hl, Nat.min_self] at k2
      rw [l1, hl, k2]
      exact fin
    · rw [eqO, if_neg hl] at h
      cases h
      exact SeqAt.RcAt.lists_lengths L1 L2 (by rw [l1, l2]; simpa using hl) (by omega) X.prog X.w _ _ fin
  by_cases c2 : ∃ a c, d = .tup a ∧ e = .tup c
  · obtain ⟨xs, ys, rfl, rfl⟩ := c2
    obtain ⟨p1, vs1, ws1, _, e1, _, rs1, z1, L1⟩ := rb_tup I h1 r1
    obtain ⟨p2, vs2, ws2, _, e2, _, rs2, z2, L2⟩ := rb_tup I h2 r2
    subst e1 e2
    have l1 : ws1.toArray.size = xs.length := by rw [List.size_toArray, ← z1.length, rs1.len]
    have l2 : ws2.toArray.size = ys.length := by rw [List.size_toArray, ← z2.length, rs2.len]
    rw [eqO] at h
    cases qq : eqOs xs ys with
    | none => simp [qq] at h
    | some c0 =>
      have h' : (c0 && xs.length == ys.length) = b := by simpa [qq] using h
      obtain ⟨k1, k2⟩ := items_at I sb (n := 59) (by omega) hd rs1 rs2 z1 z2 qq
      refine SeqAt.rcIn_tuples L1 L2 (by omega) k1 ?_
      rw [l1, l2, k2, h']
      exact fin
  by_cases c3 : ∃ a c, d = .dic a ∧ e = .dic c
  · obtain ⟨xs, ys, rfl, rfl⟩ := c3
    obtain ⟨p1, kv1, x1, hp1, rs1⟩ := h1
    obtain ⟨p2, kv2, x2, hp2, rs2⟩ := h2
    have e1 : v = .ref p1 := by rw [x1] at r1; exact r1
    have e2 : u = .ref p2 := by rw [x2] at r2; exact r2
    subst e1 e2
    rw [eqO] at h
    cases qq : eqOk xs ys with
    | none => simp [qq] at h
    | some c0 =>
      have h' : (xs.length == ys.length && c0) = b := by simpa [qq] using h
      obtain ⟨ws1, ws2, m1, m2, d1, d2, hits, l1, l2⟩ := dicts_at I sb (n := 59) (by omega) hd hp1 hp2 rs1 rs2 qq
      refine PySem.W.keq_eqIn m1 m2 d1 d2 (by omega) (fun _ => hits) ?_
      rw [l1, l2, h']
      exact fin
  exact eq_leaf I hu h1 h2 r1 r2 h (fun a c z w => c1 ⟨a, c, z, w⟩) (fun a c z w => c2 ⟨a, c, z, w⟩) (fun a c z w => c3 ⟨a, c, z, w⟩) fin
theorem neO_of {d e : D} {b : Bool} (h : neO d e = some b) (n3 : ¬ ∃ a c, d = .dic a ∧ e = .dic c) : ∃ c, eqO d e = some c ∧ b = !c := by
  have key : neO d e = (match eqO d e with | some b => some (!b) | none => none) := by
    unfold neO
    split
    · rename_i a c
      exact (n3 ⟨_, _, rfl, rfl⟩).elim
    · rfl
  rw [key] at h
  cases q : eqO d e with
  | none => rw [q] at h; cases h
  | some c => rw [q] at h; exact ⟨c, rfl, (Option.some.inj h).symm⟩
theorem op_neG (hu : X.A.units + 64 < cLine) : OpR X (compareOp .NotEq) (rNeG X.K) := by
  intro pins s σ H x y v u Q I r1 r2 hh
  obtain ⟨F, d, e, b, sb, h1, h2, hn, hd, q⟩ := hh
  have fin : EP X pins σ Q (.bool b) s := ⟨.bl b, H, I, rfl, q⟩
  by_cases c3 : ∃ a c, d = .dic a ∧ e = .dic c
  · obtain ⟨xs, ys, rfl, rfl⟩ := c3
    obtain ⟨p1, kv1, x1, hp1, rs1⟩ := h1
    obtain ⟨p2, kv2, x2, hp2, rs2⟩ := h2
    have e1 : v = .ref p1 := by rw [x1] at r1; exact r1
    have e2 : u = .ref p2 := by rw [x2] at r2; exact r2
    subst e1 e2
    obtain ⟨m1, ws1, z1, d1⟩ := dict_at I hp1
    obtain ⟨m2, ws2, z2, d2⟩ := dict_at I hp2
    have l1 : ws1.length = xs.length := by rw [← Paired.length z1, rs1.len]
    have l2 : ws2.length = ys.length := by rw [← Paired.length z2, rs2.len]
    simp only [neO] at hn
    by_cases hl : xs.length = ys.length
    · rw [if_pos hl] at hn
      by_cases h0 : xs.length = 0
      · rw [if_pos h0] at hn
        cases hn
        have w0 : ws1 = [] := List.length_eq_zero_iff.mp (by omega)
        subst w0
        refine PySem.W.keq_ne (r := true) m1 m2 d1 d2 (by omega) (fun _ => .nil) ?_
        rw [l2, ← hl, h0]
        exact fin
      · rw [if_neg h0] at hn; cases hn
    · rw [if_neg hl] at hn
      cases hn
      refine PySem.W.keq_ne (r := false) m1 m2 d1 d2 (by omega) (fun z => (hl (by omega)).elim) ?_
      rw [Bool.and_false]
      exact fin
  obtain ⟨c, h, hb⟩ := neO_of hn c3
  subst hb
  by_cases c1 : ∃ a c, d = .lst a ∧ e = .lst c
  · obtain ⟨xs, ys, rfl, rfl⟩ := c1
    obtain ⟨p1, vs1, ws1, _, e1, _, rs1, z1, L1⟩ := rb_lst I h1 r1
    obtain ⟨p2, vs2, ws2, _, e2, _, rs2, z2, L2⟩ := rb_lst I h2 r2
    subst e1 e2
    have l1 : ws1.toArray.size = xs.length := by rw [List.size_toArray, ← z1.length, rs1.len]
    have l2 : ws2.toArray.size = ys.length := by rw [List.size_toArray, ← z2.length, rs2.len]
    by_cases hl : xs.length = ys.length
    · rw [eqO, if_pos hl] at h
      obtain ⟨k1, k2⟩ := items_at I sb (n := 59) (by omega) hd rs1 rs2 z1 z2 h
      refine rcNe_lists L1 L2 (by rw [l1, l2, hl]) (by omega) k1 ?_
      rw [hl, Nat.min_self] at k2
      rw [l1, hl, k2]
      exact fin
    · rw [eqO, if_neg hl] at h
      cases h
      exact SeqAt.RcNeAt.lists_lengths L1 L2 (by rw [l1, l2]; simpa using hl) (by omega) X.prog X.w _ _ fin
  by_cases c2 : ∃ a c, d = .tup a ∧ e = .tup c
  · obtain ⟨xs, ys, rfl, rfl⟩ := c2
    obtain ⟨p1, vs1, ws1, _, e1, _, rs1, z1, L1⟩ := rb_tup I h1 r1
    obtain ⟨p2, vs2, ws2, _, e2, _, rs2, z2, L2⟩ := rb_tup I h2 r2
    subst e1 e2
    have l1 : ws1.toArray.size = xs.length := by rw [List.size_toArray, ← z1.length, rs1.len]
    have l2 : ws2.toArray.size = ys.length := by rw [List.size_toArray, ← z2.length, rs2.len]
    rw [eqO] at h
    cases qq : eqOs xs ys with
    | none => simp [qq] at h
    | some c0 =>
      have h' : (c0 && xs.length == ys.length) = c := by simpa [qq] using h
      obtain ⟨k1, k2⟩ := items_at I sb (n := 59) (by omega) hd rs1 rs2 z1 z2 qq
      refine rcNe_tuples L1 L2 (by omega) k1 ?_
      rw [l1, l2, k2, h']
      exact fin
  exact ne_leaf I hu h1 h2 r1 r2 h (fun a c z w => c1 ⟨a, c, z, w⟩) (fun a c z w => c2 ⟨a, c, z, w⟩) (fun a c z w => c3 ⟨a, c, z, w⟩) fin
end
end L3
end S_Ls
section S_Lm
set_option maxHeartbeats 0
/-! # tuple * int, text * int -/
namespace L3
open PySem PySem.Spec PyProof.Rows L2
theorem tuple_mul_same (l : Addr) (items : Array Value) (n : Nat) (dd : Option Addr) (sl : Array (Option Value)) (x : Int) (u : Tok) (c0 : (decide (x < -(2 ^ 63)) || decide (x ≥ 2 ^ 63)) = false) (c1 : (items.isEmpty || x == 1) = true) :
    Meets (Builtin.«tuple.__mul__» ⟨[.ref l, .int x u], []⟩) (fun _ R s => s.heap.get? l = some { cls := .type "tuple", dict := dd, data := .seq items n, slots := sl } ∧ R (.ok (.ret (Value.ref l))) s) :=
  .of_wp fun prog w A R s h => by
    obtain ⟨hp, g, d, tk, os⟩ := s
    obtain ⟨hl, h⟩ := h
    have f1 := AutoSeq1.idx_int
    wp_walk using wpAny_loadPart' hl
    repeat (first
      | (refine wpAny_ite_false (decide_eq_false (by rw [c0]; exact Bool.false_ne_true)) ?_; wp_walk using wpAny_loadPart' hl)
      | (refine wpAny_ite_true (decide_eq_true c1) ?_; wp_walk using wpAny_loadPart' hl))
    exact ⟨_, rfl, h⟩
theorem tuple_mul_zero (l : Addr) (items : Array Value) (n : Nat) (dd : Option Addr) (sl : Array (Option Value)) (x : Int) (u : Tok) (c0 : (decide (x < -(2 ^ 63)) || decide (x ≥ 2 ^ 63)) = false) (c1 : (items.isEmpty || x == 1) = false) (c2 : (decide (x ≤ 0) || items.isEmpty) = true) :
    Meets (Builtin.«tuple.__mul__» ⟨[.ref l, .int x u], []⟩) (fun _ R s => s.heap.get? l = some { cls := .type "tuple", dict := dd, data := .seq items n, slots := sl } ∧
      R (.ok (.ret (Value.ref s.heap.objs.size))) { s with heap := s.heap.push { cls := Value.type "tuple", data := Data.seq #[] }, toks := s.toks }) :=
  .of_wp fun prog w A R s h => by
    obtain ⟨hp, g, d, tk, os⟩ := s
    obtain ⟨hl, h⟩ := h
    have f1 := AutoSeq1.idx_int
    wp_walk using wpAny_loadPart' hl
    repeat (first
      | (refine wpAny_ite_false (decide_eq_false (by rw [c0]; exact Bool.false_ne_true)) ?_; wp_walk using wpAny_loadPart' hl)
      | (refine wpAny_ite_false (decide_eq_false (by rw [c1]; exact Bool.false_ne_true)) ?_; wp_walk using wpAny_loadPart' hl)
      | (refine wpAny_ite_true (decide_eq_true c2) ?_; wp_walk using wpAny_loadPart' hl))
    exact ⟨_, rfl, h⟩
def rRepT0 (K : PySem.W.Frag) : R2 := fun x y H Q => ∃ l k xs, x = .ref l ∧ y = .int k ∧ SqT K H l xs ∧ 0 ≤ k ∧ k ≤ 1000 ∧ xs.length ≤ 1000 ∧ ((xs = [] ∨ k = 1) → Q (.ref l) H) ∧ (xs ≠ [] → k ≠ 1 → ∀ p, H p = none → Q (.ref p) (upd H p (.tup (List.replicate k.toNat xs).flatten)))
theorem op_repT0 {X : Cx} : OpR X (binaryOp .Mult) (rRepT0 X.K) := by
  intro pins s σ H x y v u Q I rx ry h
  obtain ⟨l, k, xs, hx, hy, hT, h1, h2, hz, q1, q2⟩ := id h
  by_cases hb : xs ≠ [] ∧ 2 ≤ k
  · exact op_repT pins s σ H x y v u Q I rx ry ⟨l, k, xs, hx, hy, hT, hb.1, hb.2, h2, hz, q2 hb.1 (by omega)⟩
  subst hx hy
  cases rx
  obtain ⟨t, rfl⟩ := ry
  obtain ⟨its, r, ⟨⟨cls, dd, data, sl⟩, ho, hc, n, hd⟩, hs⟩ := I.tuple hT
  simp only at hc hd
  subst hc hd
  have hle : its.length = xs.length := r.length.symm
  have c0 : (decide (k < -(2 ^ 63)) || decide (k ≥ 2 ^ 63)) = false := by
    rw [decide_eq_false (by omega), decide_eq_false (by omega)] <;> rfl
  by_cases hsame : xs = [] ∨ k = 1
  · have c1 : (its.toArray.isEmpty || k == 1) = true := by
      rcases hsame with e | e
      · have : its = [] := List.eq_nil_of_length_eq_zero (by rw [hle, e]; rfl)
        rw [this]; rfl
      · rw [e]; simp
    exact wpAny_binaryOp_repeat_ref (T := "tuple") (U := "int") (by decide) ⟨_, ho, rfl⟩ (fun s' => typeIs_int s' k t) noFill_tuple_mul F.fills_int_mul F.slot_int_rmul repeat_tuple F.slot_int_index.lookup
      (call_meets F.slot_int_rmul (typeIs_int s k t) F.entry_int_rmul (F.args_int_rmul_2 _ _) (int_rmul_tuple k t l its.toArray n dd sl)
        ⟨ho, rfl, ⟨_, ho, rfl⟩, call_meets F.slot_tuple_mul ⟨_, ho, rfl⟩ F.entry_tuple_mul (F.args_tuple_mul_2 _ _) (tuple_mul_same l its.toArray n dd sl k t c0 c1) ⟨ho, .ref l, H, I, rfl, q1 hsame⟩⟩)
  · have hne : xs ≠ [] := fun e => hsame (.inl e)
    have hk : k = 0 := by
      have : ¬ 2 ≤ k := fun z => hb ⟨hne, z⟩
      have : k ≠ 1 := fun z => hsame (.inr z)
      omega
    subst hk
    have hn : its ≠ [] := fun e => hne (by
      rw [e] at hle
      exact List.eq_nil_of_length_eq_zero hle.symm)
    have hi : its.toArray.isEmpty = false := by
      cases its with
      | nil => exact absurd rfl hn
      | cons a b => rfl
    have c1 : (its.toArray.isEmpty || (0 : Int) == 1) = false := by rw [hi]; rfl
    have c2 : (decide ((0 : Int) ≤ 0) || its.toArray.isEmpty) = true := rfl
    refine wpAny_binaryOp_repeat_ref (T := "tuple") (U := "int") (by decide) ⟨_, ho, rfl⟩ (fun s' => typeIs_int s' 0 t) noFill_tuple_mul F.fills_int_mul F.slot_int_rmul repeat_tuple F.slot_int_index.lookup
      (call_meets F.slot_int_rmul (typeIs_int s 0 t) F.entry_int_rmul (F.args_int_rmul_2 _ _) (int_rmul_tuple 0 t l its.toArray n dd sl)
        ⟨ho, rfl, ⟨_, ho, rfl⟩, call_meets F.slot_tuple_mul ⟨_, ho, rfl⟩ F.entry_tuple_mul (F.args_tuple_mul_2 _ _) (tuple_mul_zero l its.toArray n dd sl 0 t c0 c1 c2) ⟨ho, ?_⟩⟩)
    refine ⟨.ref s.heap.objs.size, _, I.laid (t' := s.toks) (o := .tup []) (fun b ob q => Heap.get?_push_of_some _ q) (Nat.le_refl _) ?_, rfl, q2 hne (by decide) _ (I.hok.fresh (Nat.le_refl _))⟩
    exact ⟨Nat.zero_le _, [], .nil, IsTup.new _ _⟩
/-- text * int -/
def repS (z : Str) (k : Nat) : Str := ⟨(List.replicate k z.cps.toList).flatten.toArray⟩
def rRepS : R2 := fun x y H Q => ∃ z k, x = .str z ∧ y = .int k ∧ 0 ≤ k ∧ k ≤ 1000 ∧ z.length ≤ 1000 ∧ Q (.str (repS z k.toNat)) H
theorem rep_arr (a : Array Nat) : ∀ m : Nat, (List.replicate m a).foldl (· ++ ·) #[] = (List.replicate m a.toList).flatten.toArray := fun m => by
  have key : ∀ (m : Nat) (b : Array Nat), (List.replicate m a).foldl (· ++ ·) b = b ++ (List.replicate m a.toList).flatten.toArray := by
    intro m
    induction m with
    | zero => intro b; simp
    | succ m ih =>
      intro b
      rw [List.replicate_succ, List.foldl_cons, ih, List.replicate_succ, List.flatten_cons, Array.append_assoc]
      congr 1
      apply Array.ext'
      simp
  rw [key m #[]]; simp
theorem op_repS {X : Cx} : OpR X (binaryOp .Mult) rRepS := by
  intro pins s σ H x y v u Q I rx ry h
  obtain ⟨z, k, rfl, rfl, h1, h2, hz, q⟩ := h
  obtain ⟨t, rfl⟩ := rx
  obtain ⟨t2, rfl⟩ := ry
  have hm : z.length * k.toNat ≤ 1000 * 1000 := Nat.mul_le_mul hz (by omega)
  refine P.mul_str (by rw [decide_eq_false (by omega), decide_eq_false (by omega)] <;> rfl) (fun h3 _ => ?_) (fun _ _ => ?_) ?_
  · have a1 : (1000 : Int) ≤ (2 ^ 63 - 1) / k := by
      rw [Int.le_ediv_iff_mul_le (by omega)]
      omega
    omega
  · unfold Builtin.Str.tooLong
    rw [sizeLine_eq]
    simp; omega
  · by_cases hk : k < 1
    · rw [if_pos hk]
      have : k = 0 := by omega
      subst this
      exact ⟨by decide, .str (repS z 0), H, I.tok _, ⟨_, rfl⟩, q⟩
    · rw [if_neg hk]
      by_cases hs : (k == 1 || z.length == 0) = true
      · rw [if_pos hs]
        have e : repS z k.toNat = z := by
          rcases Bool.or_eq_true_iff.mp hs with e | e
          · have : k = 1 := by simpa using e
            subst this
            obtain ⟨c⟩ := z
            simp [repS]
          · have e' : z.length = 0 := by simpa using e
            obtain ⟨⟨l⟩⟩ := z
            have : l = [] := List.eq_nil_of_length_eq_zero e'
            subst this
            simp [repS]
        rw [e] at q
        exact ⟨.str z, H, I, ⟨_, rfl⟩, q⟩
      · rw [if_neg hs, rep_arr]
        refine ⟨?_, .str (repS z k.toNat), H, I.tok _, ⟨_, rfl⟩, q⟩
        have e : ({ cps := (List.replicate k.toNat z.cps.toList).flatten.toArray } : Str).length = k.toNat * z.length := by
          show ((List.replicate k.toNat z.cps.toList).flatten.toArray).size = _
          rw [List.size_toArray, PyProof.Rows.lm_len_rep_flat]; rfl
        rw [e, sizeLine_eq, Nat.mul_comm]; omega
end L3
end S_Lm
section S_Lt
set_option maxHeartbeats 0
namespace L3
open PySem PySem.Spec PyProof.Rows L2
section
variable {K : Fg} {F H : Hp}
/-! ### what is new -/
theorem own_new (sb : Sub F H) {p : Addr} {d : D} {o : HO} (h : H p = none) (r : OwnAt K F (upd H p o) p d) : VR0 K F (upd H p o) H (.ref p) (.ow d) := ⟨p, rfl, sb.none h, r, h⟩
theorem Reps.app : ∀ {ds es : List D} {vs us : List V}, Reps K F ds vs → Reps K F es us → Reps K F (ds ++ es) (vs ++ us)
  | [], es, _, us, h, k => by rw [show _ = [] from h]; exact k
  | d :: ds, es, _, us, ⟨v, r, e, h1, h2⟩, k => by subst e; exact ⟨v, r ++ us, rfl, h1, Reps.app h2 k⟩
theorem Reps.nil_iff {ds : List D} {vs : List V} (r : Reps K F ds vs) : vs = [] ↔ ds = [] := by
  cases ds with
  | nil => simp [show vs = [] from r]
  | cons d ds => obtain ⟨v, t, e, _⟩ := r; subst e; simp
/-! ### + - * // % ** -/
def addD : D → D → Option Vl
  | .int i, .int j => some (.fz (.int (i + j)))
  | .str a, .str b => if a.length + b.length ≤ 16777216 then some (.fz (.str (a ++ b))) else none
  | .lst a, .lst b => if a.length + b.length ≤ 16777216 then some (.ow (.lst (a ++ b))) else none
  | .tup a, .tup b => if a.length + b.length ≤ 16777216 then some (.fz (.tup (a ++ b))) else none
  | _, _ => none
def rAddS : R2 := fun x y H Q => ∃ i j, x = .str i ∧ y = .str j ∧ i.length + j.length ≤ sizeLine ∧ Q (.str (i ++ j)) H
def rAddG (K : Fg) : R2 := fun x y H Q => (rI0 (fun i j => .int (i + j)) x y H Q ∨ rAddS x y H Q) ∨ (rCat x y H Q ∨ rCatA K x y H Q)
theorem xo_add {X : Cx} : OpR X (binaryOp .Add) (rAddG X.K) := op_or (op_or op_add op_add_str) (op_or op_cat op_catA)
theorem od_add : OpD K (rAddG K) addD := by
  intro F H v w d e x sb h1 h2 h Q q
  unfold addD at h
  split at h
  · cases h
    exact .inl (.inl ⟨_, _, h1, h2, q F H _ (Stp.refl sb) rfl⟩)
  · split at h
    · rename_i hz; cases h
      exact .inl (.inr ⟨_, _, h1, h2, szOk hz, q F H _ (Stp.refl sb) rfl⟩)
    · cases h
  · split at h
    · rename_i hz; cases h
      obtain ⟨p, vs, e1, hp, rs⟩ := h1
      obtain ⟨p2, vs2, e2, hp2, rs2⟩ := h2
      exact .inr (.inl ⟨p, p2, vs, vs2, e1, e2, hp, hp2, szOk (by rw [rs.len, rs2.len]; exact hz), fun r hr => q F _ _ (Stp.new sb hr) (own_new sb hr ⟨_, upd_same, rs.app rs2⟩)⟩)
    · cases h
  · split at h
    · rename_i a b hz; cases h
      obtain ⟨p, vs, e1, hp, fp, rs⟩ := h1
      obtain ⟨p2, vs2, e2, hp2, fp2, rs2⟩ := h2
      refine .inr (.inr ⟨p, p2, vs, vs2, e1, e2, .inl (.inl hp), .inl (.inl hp2), szOk (by rw [rs.len, rs2.len]; exact hz), fun z => ?_, fun z1 z2 => ?_, fun z1 z2 r hr => ?_⟩)
      · have : a = [] := rs.nil_iff.mp z
        subst this
        exact q F H _ (Stp.refl sb) ⟨p2, vs2, rfl, fp2, rs2⟩
      · have : b = [] := rs2.nil_iff.mp z2
        subst this
        rw [List.append_nil] at q
        exact q F H _ (Stp.refl sb) ⟨p, vs, rfl, fp, rs⟩
      · have hF := sb.none hr
        exact q _ _ _ (Stp.lay sb hr) ⟨r, _, rfl, upd_same, Reps.mono (Gr.upd hF) _ (rs.app rs2)⟩
    · cases h
  · cases h
def subD : D → D → Option Vl
  | .int i, .int j => some (.fz (.int (i - j)))
  | _, _ => none
theorem od_sub : OpD K (rI0 fun i j => .int (i - j)) subD := by
  intro F H v w d e x sb h1 h2 h Q q
  unfold subD at h
  split at h
  · cases h; exact ⟨_, _, h1, h2, q F H _ (Stp.refl sb) rfl⟩
  · cases h
def modD : D → D → Option Vl
  | .int i, .int j => if 0 < j then some (.fz (.int (i % j))) else none
  | _, _ => none
theorem od_mod : OpD K (rI (fun _ j => 0 < j) fun i j => .int (i % j)) modD := by
  intro F H v w d e x sb h1 h2 h Q q
  unfold modD at h
  split at h
  · split at h
    · rename_i hj; cases h; exact ⟨_, _, h1, h2, hj, q F H _ (Stp.refl sb) rfl⟩
    · cases h
  · cases h
def fdivD : D → D → Option Vl
  | .int i, .int j => if 0 < j ∧ j < 1073741824 then some (.fz (.int (i / j))) else none
  | _, _ => none
theorem od_fdiv : OpD K (rI CDiv fun i j => .int (i / j)) fdivD := by
  intro F H v w d e x sb h1 h2 h Q q
  unfold fdivD at h
  split at h
  · split at h
    · rename_i hj; cases h; exact ⟨_, _, h1, h2, hj, q F H _ (Stp.refl sb) rfl⟩
    · cases h
  · cases h
def powD : D → D → Option Vl
  | .int i, .int j => if 0 ≤ j ∧ j ≤ 1000000 ∧ i.natAbs < 2 ^ 64 then some (.fz (.int (i ^ j.toNat))) else none
  | _, _ => none
theorem od_pow : OpD K (rI CPow fun i j => .int (i ^ j.toNat)) powD := by
  intro F H v w d e x sb h1 h2 h Q q
  unfold powD at h
  split at h
  · split at h
    · rename_i hj; cases h; exact ⟨_, _, h1, h2, hj, q F H _ (Stp.refl sb) rfl⟩
    · cases h
  · cases h
/-- int * int (one below 2 ^ 64), list * int, tuple * int, text * int -/
def mulD : D → D → Option Vl
  | .int i, .int j => if (-(2 ^ 64) < i ∧ i < 2 ^ 64) ∨ (-(2 ^ 64) < j ∧ j < 2 ^ 64) then some (.fz (.int (i * j))) else none
  | .lst a, .int k => if -(2 ^ 63) ≤ k ∧ k < 2 ^ 63 ∧ a.length * k.toNat ≤ 16777216 then some (.ow (.lst (List.replicate k.toNat a).flatten)) else none
  | .tup a, .int k => if 0 ≤ k ∧ k ≤ 1000 ∧ a.length ≤ 1000 then some (.fz (.tup (List.replicate k.toNat a).flatten)) else none
  | .str z, .int k => if 0 ≤ k ∧ k ≤ 1000 ∧ z.length ≤ 1000 then some (.fz (.str (repS z k.toNat))) else none
  | _, _ => none
def rMulG (K : Fg) : R2 := fun x y H Q => (rI CMul (fun i j => .int (i * j)) x y H Q ∨ rRep x y H Q) ∨ (rRepT0 K x y H Q ∨ rRepS x y H Q)
theorem xo_mul {X : Cx} : OpR X (binaryOp .Mult) (rMulG X.K) := op_or (op_or op_mul op_rep) (op_or op_repT0 op_repS)
theorem Reps.rep {ds : List D} {vs : List V} (r : Reps K F ds vs) : ∀ n : Nat, Reps K F (List.replicate n ds).flatten (List.replicate n vs).flatten
  | 0 => rfl
  | n + 1 => by
    rw [List.replicate_succ, List.replicate_succ, List.flatten_cons, List.flatten_cons]
    exact r.app (Reps.rep r n)
theorem rep_nil {α : Type} (n : Nat) : (List.replicate n ([] : List α)).flatten = [] := by
  induction n with
  | zero => rfl
  | succ n ih => rw [List.replicate_succ, List.flatten_cons, ih]; rfl
theorem od_mul : OpD K (rMulG K) mulD := by
  intro F H v w d e x sb h1 h2 h Q q
  unfold mulD at h
  split at h
  · split at h
    · rename_i hj; cases h; exact .inl (.inl ⟨_, _, h1, h2, hj, q F H _ (Stp.refl sb) rfl⟩)
    · cases h
  · split at h
    · rename_i hj; cases h
      obtain ⟨p, vs, e1, hp, rs⟩ := h1
      exact .inl (.inr ⟨p, _, vs, e1, h2, hp, hj.1, hj.2.1, szOk (by rw [rs.len]; exact hj.2.2), fun r hr => q F _ _ (Stp.new sb hr) (own_new sb hr ⟨_, upd_same, rs.rep _⟩)⟩)
    · cases h
  · split at h
    · rename_i a k hj; cases h
      obtain ⟨p, vs, e1, hp, fp, rs⟩ := h1
      refine .inr (.inl ⟨p, k, vs, e1, h2, .inl (.inl hp), hj.1, hj.2.1, by rw [rs.len]; exact hj.2.2, fun z => ?_, fun z1 z2 r hr => ?_⟩)
      · rcases z with z | z
        · have ha : a = [] := rs.nil_iff.mp z
          rw [ha, rep_nil] at q
          exact q F H _ (Stp.refl sb) ⟨p, vs, e1 ▸ rfl, fp, by rw [ha] at rs; exact rs⟩
        · rw [z] at q
          have e1' : (List.replicate (1 : Int).toNat a).flatten = a := by simp
          rw [e1'] at q
          exact q F H _ (Stp.refl sb) ⟨p, vs, rfl, fp, rs⟩
      · have hF := sb.none hr
        exact q _ _ _ (Stp.lay sb hr) ⟨r, _, rfl, upd_same, Reps.mono (Gr.upd hF) _ (rs.rep _)⟩
    · cases h
  · split at h
    · rename_i z k hj; cases h
      exact .inr (.inr ⟨z, k, h1, h2, hj.1, hj.2.1, hj.2.2, q F H _ (Stp.refl sb) rfl⟩)
    · cases h
  · cases h
/-! ### comparisons -/
def cmpD (p : Int → Int → Bool) : D → D → Option Vl
  | .int i, .int j => some (.fz (.bl (p i j)))
  | _, _ => none
theorem od_cmp {p : Int → Int → Bool} : OpD K (rI0 fun i j => .bl (p i j)) (cmpD p) := by
  intro F H v w d e x sb h1 h2 h Q q
  unfold cmpD at h
  split at h
  · cases h; exact ⟨_, _, h1, h2, q F H _ (Stp.refl sb) rfl⟩
  · cases h
def eqD (d e : D) : Option Vl := if depLe 60 d then (match eqO d e with
  | some b => some (.fz (.bl b))
  | none => none) else none
def neD (d e : D) : Option Vl := if depLe 60 d then (match neO d e with
  | some b => some (.fz (.bl b))
  | none => none) else none
theorem od_eq : OpD K (rEqG K) eqD := by
  intro F H v w d e x sb h1 h2 h Q q
  unfold eqD at h
  split at h
  · rename_i hd
    cases z : eqO d e with
    | none => simp [z] at h
    | some b =>
      have h' : Vl.fz (.bl b) = x := by simpa [z] using h
      subst h'
      exact ⟨F, d, e, b, sb, h1, h2, z, hd, q F H _ (Stp.refl sb) rfl⟩
  · cases h
theorem od_ne : OpD K (rNeG K) neD := by
  intro F H v w d e x sb h1 h2 h Q q
  unfold neD at h
  split at h
  · rename_i hd
    cases z : neO d e with
    | none => simp [z] at h
    | some b =>
      have h' : Vl.fz (.bl b) = x := by simpa [z] using h
      subst h'
      exact ⟨F, d, e, b, sb, h1, h2, z, hd, q F H _ (Stp.refl sb) rfl⟩
  · cases h
def isNonD : D → Bool
  | .non => true
  | _ => false
/-- is None, is not None (the right one written) -/
def isND (neg : Bool) : D → D → Option Vl
  | d, .non => some (.fz (.bl (neg != isNonD d)))
  | _, _ => none
theorem rb_non {d : D} {v : V} (h : RB K F H d v) : decide (v = .non) = isNonD d := by
  cases d with
  | non => rw [show v = .non from h]; rfl
  | bl b => rw [show v = .bl b from h]; rfl
  | int b => rw [show v = .int b from h]; rfl
  | str b => rw [show v = .str b from h]; rfl
  | lst b => obtain ⟨p, _, e, _⟩ := h; rw [e]; rfl
  | tup b => obtain ⟨p, _, e, _⟩ := h; rw [e]; rfl
  | dic b => obtain ⟨p, _, e, _⟩ := h; rw [e]; rfl
  | dit b => obtain ⟨p, _, e, _⟩ := h; rw [e]; rfl
  | scr b => obtain ⟨p, e, _⟩ := h; rw [e]; rfl
  | ty b => rw [show v = .ty b from h]; rfl
  | exn b => obtain ⟨p, e, _⟩ := h; rw [e]; rfl
  | cl b => rw [show v = .ref (clsU K b) from h]; rfl
  | ptr b => rw [show v = .ref b from h]; rfl
theorem od_isN : OpD K (fun x y H Q => y = .non ∧ Q (.bl (decide (x = .non))) H) (isND false) := by
  intro F H v w d e x sb h1 h2 h Q q
  unfold isND at h
  split at h
  · cases h
    refine ⟨h2, ?_⟩
    rw [rb_non h1]
    refine q F H _ (Stp.refl sb) ?_
    show _ = _
    simp
  · cases h
theorem od_notN : OpD K (fun x y H Q => y = .non ∧ Q (.bl (!decide (x = .non))) H) (isND true) := by
  intro F H v w d e x sb h1 h2 h Q q
  unfold isND at h
  split at h
  · cases h
    refine ⟨h2, ?_⟩
    rw [rb_non h1]
    refine q F H _ (Stp.refl sb) ?_
    show _ = _
    simp
  · cases h
theorem RepK.isSome {ks : List (Key × D)} {kvs : List (Key × V)} {k : Key} (r : RepK K F ks kvs) : (valV kvs k).isSome = (gV ks k).isSome := by
  have h := r.val k
  cases q : gV ks k with
  | none => rw [q] at h; rw [h]; rfl
  | some d => rw [q] at h; obtain ⟨v, e, _⟩ := h; rw [e]; rfl
/-! ### in -/
theorem sign_of {c : Str} (h : c.cps.size = 1) : c = ⟨#[c.cps[0]!]⟩ := by
  obtain ⟨⟨l⟩⟩ := c
  match l, h with
  | [a], _ => rfl
def flatD : D → Bool
  | .non => true
  | .bl _ => true
  | .int _ => true
  | .str _ => true
  | _ => false
/-- x in a list or tuple of flat things, a dict, a text -/
def inD (neg : Bool) : D → D → Option Vl
  | .str c, .str z => if c.cps.size = 1 then some (.fz (.bl (neg != decide (c.cps[0]! ∈ z.cps.toList)))) else none
  | d, .lst ds => if flatD d && ds.all flatD then some (.fz (.bl (neg != ds.any fun y => eqO y d == some true))) else none
  | d, .tup ds => if flatD d && ds.all flatD then some (.fz (.bl (neg != ds.any fun y => eqO y d == some true))) else none
  | .int i, .dic ks => some (.fz (.bl (neg != (gV ks (Sum.inl i)).isSome)))
  | .str x, .dic ks => some (.fz (.bl (neg != (gV ks (Sum.inr x)).isSome)))
  | _, _ => none
def rInDt (neg : Bool) : R2 := fun x y H Q => ∃ a o, y = .ref a ∧ DGet H a x o ∧ Q (.bl (neg != o.isSome)) H
def rInS (neg : Bool) : R2 := fun x y H Q => ∃ (c : Nat) (z : Str), x = .str ⟨#[c]⟩ ∧ y = .str z ∧ Q (.bl (neg != decide (c ∈ z.cps.toList))) H
def rInF (K : Fg) (neg : Bool) : R2 := fun x y H Q => ∃ p xs, y = .ref p ∧ (SqL K H p xs ∨ SqT K H p xs) ∧ flatV x = true ∧ xs.all flatV = true ∧ Q (.bl (neg != inV x xs)) H
def rInG (K : Fg) (neg : Bool) : R2 := fun x y H Q => (rInS neg x y H Q ∨ rInF K neg x y H Q) ∨ rInDt neg x y H Q
theorem xo_in {X : Cx} (hu : X.A.units + 1 < cLine) : OpR X (compareOp .In) (rInG X.K false) := by
  refine op_or (op_or ?_ ?_) ?_
  · intro pins s σ H x y v u Q I rx ry h
    obtain ⟨c, z, e1, e2, q⟩ := h
    exact op_in_sign pins s σ H x y v u Q I rx ry ⟨c, z, e1, e2, by simpa using q⟩
  · intro pins s σ H x y v u Q I rx ry h
    obtain ⟨p, xs, e, hq, h1, h2, q⟩ := h
    exact op_in_seq pins s σ H x y v u Q I rx ry ⟨p, xs, e, hq, h1, h2, by simpa using q⟩
  · intro pins s σ H x y v u Q I rx ry h
    obtain ⟨a, o, rfl, g, q⟩ := h
    obtain rfl : u = Value.ref a := ry
    exact d_in hu I g rx fun s3 I3 => ⟨.bl o.isSome, H, I3, rfl, by simpa using q⟩
theorem xo_notIn {X : Cx} (hu : X.A.units + 1 < cLine) : OpR X (compareOp .NotIn) (rInG X.K true) := by
  refine op_or (op_or ?_ ?_) ?_
  · intro pins s σ H x y v u Q I rx ry h
    obtain ⟨c, z, e1, e2, q⟩ := h
    exact op_notIn_sign pins s σ H x y v u Q I rx ry ⟨c, z, e1, e2, by simpa using q⟩
  · intro pins s σ H x y v u Q I rx ry h
    obtain ⟨p, xs, e, hq, h1, h2, q⟩ := h
    exact op_notIn_seq pins s σ H x y v u Q I rx ry ⟨p, xs, e, hq, h1, h2, by simpa using q⟩
  · intro pins s σ H x y v u Q I rx ry h
    obtain ⟨a, o, rfl, g, q⟩ := h
    obtain rfl : u = Value.ref a := ry
    exact d_notIn hu I g rx fun s3 I3 => ⟨.bl (!o.isSome), H, I3, rfl, by simpa using q⟩
theorem flat_v {d : D} {v : V} (hf : flatD d = true) (h : RB K F H d v) : flatV v = true := by
  cases d with
  | non => rw [show v = .non from h]; rfl
  | bl b => rw [show v = .bl b from h]; rfl
  | int b => rw [show v = .int b from h]; rfl
  | str b => rw [show v = .str b from h]; rfl
  | _ => cases hf
theorem flat_rb {d : D} {v : V} (hf : flatD d = true) (h : Rep K F d v) : RB K F H d v := by
  cases d with
  | non => exact h
  | bl b => exact h
  | int b => exact h
  | str b => exact h
  | _ => cases hf
theorem flat_eq {d e : D} {v u : V} (hd : flatD d = true) (he : flatD e = true) (h1 : RB K F H d v) (h2 : RB K F H e u) : eqV v u = (eqO d e == some true) := by
  cases d with
  | non => rw [show v = .non from h1]; cases e with
    | non => rw [show u = .non from h2]; rfl
    | bl b => rw [show u = .bl b from h2]; rfl
    | int b => rw [show u = .int b from h2]; rfl
    | str b => rw [show u = .str b from h2]; rfl
    | _ => cases he
  | bl a => rw [show v = .bl a from h1]; cases e with
    | non => rw [show u = .non from h2]; rfl
    | bl b => rw [show u = .bl b from h2]; simp [eqV, eqO]
    | int b => rw [show u = .int b from h2]; simp [eqV, eqO]
    | str b => rw [show u = .str b from h2]; rfl
    | _ => cases he
  | int a => rw [show v = .int a from h1]; cases e with
    | non => rw [show u = .non from h2]; rfl
    | bl b => rw [show u = .bl b from h2]; simp [eqV, eqO]
    | int b => rw [show u = .int b from h2]; simp [eqV, eqO]
    | str b => rw [show u = .str b from h2]; rfl
    | _ => cases he
  | str a => rw [show v = .str a from h1]; cases e with
    | non => rw [show u = .non from h2]; rfl
    | bl b => rw [show u = .bl b from h2]; rfl
    | int b => rw [show u = .int b from h2]; rfl
    | str b => rw [show u = .str b from h2]; simp [eqV, eqO]
    | _ => cases he
  | _ => cases hd
theorem flat_all : ∀ {ds : List D} {vs : List V}, Reps K F ds vs → ds.all flatD = true → vs.all flatV = true
  | [], _, r, _ => by rw [show _ = [] from r]; rfl
  | d :: ds, _, ⟨v, r, e, h, hs⟩, hf => by
    subst e
    have hf' : flatD d = true ∧ ds.all flatD = true := by simpa using hf
    rw [List.all_cons, flat_v (H := fun _ => none) hf'.1 (flat_rb hf'.1 h), flat_all hs hf'.2]; rfl
theorem flat_any {x : D} {w : V} (hx : flatD x = true) (hw : RB K F H x w) : ∀ {ds : List D} {vs : List V}, Reps K F ds vs → ds.all flatD = true → inV w vs = ds.any fun y => eqO y x == some true
  | [], _, r, _ => by rw [show _ = [] from r]; rfl
  | d :: ds, _, ⟨v, r, e, h, hs⟩, hf => by
    subst e
    have hf' : flatD d = true ∧ ds.all flatD = true := by simpa using hf
    have ih := flat_any hx hw hs hf'.2
    unfold inV at ih ⊢
    rw [List.any_cons, List.any_cons, ih, flat_eq hf'.1 hx (flat_rb hf'.1 h) hw]
theorem od_in {neg : Bool} : OpD K (rInG K neg) (inD neg) := by
  intro F H v w d e x sb h1 h2 h Q q
  unfold inD at h
  split at h
  · split at h
    · rename_i c z hc; cases h
      have e1 : v = .str c := h1
      have e2 : w = .str z := h2
      exact .inl (.inl ⟨c.cps[0]!, z, by rw [e1]; exact congrArg V.str (sign_of hc), e2, q F H _ (Stp.refl sb) rfl⟩)
    · cases h
  · split at h
    · rename_i hf; cases h
      have hf' : flatD d = true ∧ _ := Bool.and_eq_true_iff.mp hf
      obtain ⟨p, vs, e1, hp, rs⟩ := h2
      refine .inl (.inr ⟨p, vs, e1, .inl (.inl (.inl hp)), flat_v hf'.1 h1, flat_all rs hf'.2, ?_⟩)
      rw [flat_any hf'.1 h1 rs hf'.2]
      exact q F H _ (Stp.refl sb) rfl
    · cases h
  · split at h
    · rename_i hf; cases h
      have hf' : flatD d = true ∧ _ := Bool.and_eq_true_iff.mp hf
      obtain ⟨p, vs, e1, hp, _, rs⟩ := h2
      refine .inl (.inr ⟨p, vs, e1, .inr (.inl (.inl hp)), flat_v hf'.1 h1, flat_all rs hf'.2, ?_⟩)
      rw [flat_any hf'.1 h1 rs hf'.2]
      exact q F H _ (Stp.refl sb) rfl
    · cases h
  · cases h
    obtain ⟨p, kvs, e1, hp, rs⟩ := h2
    have e2 : v = _ := h1
    refine .inr ⟨p, _, e1, .inl ⟨kvs, Sum.inl _, hp, e2, rfl⟩, ?_⟩
    rw [rs.isSome]
    exact q F H _ (Stp.refl sb) rfl
  · cases h
    obtain ⟨p, kvs, e1, hp, rs⟩ := h2
    have e2 : v = _ := h1
    refine .inr ⟨p, _, e1, .inl ⟨kvs, Sum.inr _, hp, e2, rfl⟩, ?_⟩
    rw [rs.isSome]
    exact q F H _ (Stp.refl sb) rfl
  · cases h
end
end L3
end S_Lt
section S_Lu
set_option maxHeartbeats 0
namespace L3
open PySem PySem.Spec PyProof.Rows L2
section
variable {K : Fg} {F H : Hp}
/-! ### subscripts -/
theorem Reps.atI {ds : List D} {vs : List V} {i : Int} {d : D} (r : Reps K F ds vs) (h : L2.atI ds i = some d) : ∃ v, L2.atI vs i = some v ∧ Rep K F d v := by
  unfold L2.atI at h ⊢
  rw [r.len]
  cases q : ixN ds.length i with
  | none => rw [q] at h; cases h
  | some j =>
    rw [q] at h
    exact r.get h
def ixD : D → D → Option Vl
  | .lst ds, .int i => (L2.atI ds i).map .fz
  | .tup ds, .int i => (L2.atI ds i).map .fz
  | .scr ns, .int i => (L2.atI ns i).map fun n => .fz (.int n)
  | .str z, .int i => if z.length ≤ 16777216 then (L2.atI z.cps.toList i).map fun c => .fz (.str ⟨#[c]⟩) else none
  | .dic ks, .int i => (gV ks (Sum.inl i)).map .fz
  | .dic ks, .str x => (gV ks (Sum.inr x)).map .fz
  | _, _ => none
def rIxG (K : Fg) : R2 := fun x y H Q => (rIxL K x y H Q ∨ rIxT K x y H Q) ∨ (rIxS x y H Q ∨ rIxD x y H Q)
theorem xo_ix {X : Cx} (hu : X.A.units + 1 < cLine) : IxR X (rIxG X.K) := ix_or (ix_or ix_list ix_tup) (ix_or ix_str (ix_dict hu))
theorem od_ix : OpD K (rIxG K) ixD := by
  intro F H v w d e x sb h1 h2 h Q q
  unfold ixD at h
  split at h
  · obtain ⟨a, ha, hx⟩ := Option.map_eq_some_iff.mp h
    subst hx
    obtain ⟨p, vs, e1, hp, rs⟩ := h1
    obtain ⟨u, hu, ru⟩ := rs.atI ha
    exact .inl (.inl ⟨p, vs, _, u, e1, h2, .inl (.inl hp), hu, q F H u (Stp.refl sb) ru⟩)
  · obtain ⟨a, ha, hx⟩ := Option.map_eq_some_iff.mp h
    subst hx
    obtain ⟨p, vs, e1, hp, _, rs⟩ := h1
    obtain ⟨u, hu, ru⟩ := rs.atI ha
    exact .inl (.inr ⟨p, vs, _, u, e1, h2, .inl (.inl hp), hu, q F H u (Stp.refl sb) ru⟩)
  · obtain ⟨a, ha, hx⟩ := Option.map_eq_some_iff.mp h
    subst hx
    obtain ⟨p, e1, hp⟩ := h1
    refine .inl (.inl ⟨p, _, _, .int a, e1, h2, hp, ?_, q F H _ (Stp.refl sb) rfl⟩)
    unfold L2.atI at ha ⊢
    rw [List.length_map]
    rename_i ns i
    cases z : ixN ns.length i with
    | none => rw [z] at ha; cases ha
    | some j =>
      rw [z] at ha
      show (ns.map V.int)[j]? = some (.int a)
      rw [List.getElem?_map, show ns[j]? = some a from ha]; rfl
  · split at h
    · rename_i hz
      obtain ⟨a, ha, hx⟩ := Option.map_eq_some_iff.mp h
      subst hx
      exact .inr (.inl ⟨_, _, a, h1, h2, szOk hz, ha, q F H _ (Stp.refl sb) rfl⟩)
    · cases h
  · obtain ⟨a, ha, hx⟩ := Option.map_eq_some_iff.mp h
    subst hx
    obtain ⟨p, kvs, e1, hp, rs⟩ := h1
    rename_i ks i
    have hv := rs.val (Sum.inl i)
    rw [ha] at hv
    obtain ⟨u, hu, ru⟩ := hv
    exact .inr (.inr ⟨p, u, e1, .inl ⟨kvs, Sum.inl i, hp, h2, hu.symm⟩, q F H u (Stp.refl sb) ru⟩)
  · obtain ⟨a, ha, hx⟩ := Option.map_eq_some_iff.mp h
    subst hx
    obtain ⟨p, kvs, e1, hp, rs⟩ := h1
    rename_i ks i
    have hv := rs.val (Sum.inr i)
    rw [ha] at hv
    obtain ⟨u, hu, ru⟩ := hv
    exact .inr (.inr ⟨p, u, e1, .inl ⟨kvs, Sum.inr i, hp, h2, hu.symm⟩, q F H u (Stp.refl sb) ru⟩)
  · cases h
/-! ### slices -/
def cutD {α : Type} (xs : List α) (lo hi : Option Int) : List α := (xs.drop (HT.sIx xs.length 0 lo)).take (HT.sIx xs.length xs.length hi - HT.sIx xs.length 0 lo)
theorem Reps.drop : ∀ {ds : List D} {vs : List V} (n : Nat), Reps K F ds vs → Reps K F (ds.drop n) (vs.drop n)
  | [], _, n, h => by rw [show _ = [] from h]; simp [Reps]
  | d :: ds, _, 0, h => h
  | d :: ds, _, n + 1, ⟨v, r, e, _, h⟩ => by subst e; exact Reps.drop n h
theorem Reps.take : ∀ {ds : List D} {vs : List V} (n : Nat), Reps K F ds vs → Reps K F (ds.take n) (vs.take n)
  | [], _, n, h => by rw [show _ = [] from h]; simp [Reps]
  | d :: ds, vs, 0, h => by simp [Reps]
  | d :: ds, _, n + 1, ⟨v, r, e, h1, h⟩ => by subst e; exact ⟨v, r.take n, rfl, h1, Reps.take n h⟩
theorem Reps.cut {ds : List D} {vs : List V} (r : Reps K F ds vs) (lo hi : Option Int) : Reps K F (cutD ds lo hi) (cutV vs lo hi) := by
  unfold cutD cutV
  rw [r.len]
  exact (r.drop _).take _
theorem cut_whole {α : Type} {xs : List α} {lo hi : Option Int} (h : HT.sIx xs.length 0 lo = 0 ∧ HT.sIx xs.length xs.length hi = xs.length) : cutD xs lo hi = xs := by
  unfold cutD
  rw [h.1, h.2]
  simp
def slD : D → Option Int → Option Int → Option Vl
  | .lst ds, lo, hi => some (.ow (.lst (cutD ds lo hi)))
  | .tup ds, lo, hi => some (.fz (.tup (cutD ds lo hi)))
  | .str z, lo, hi => if z.length ≤ 16777216 then some (.fz (.str (cutS z lo hi))) else none
  | _, _, _ => none
def rSlG (K : Fg) : V → Option Int → Option Int → Hp → VK → Prop := fun x lo hi H Q => (rSlL K x lo hi H Q ∨ rSlA K x lo hi H Q) ∨ rSlS x lo hi H Q
theorem xo_sl {X : Cx} : SlR X (rSlG X.K) := SlR.or (SlR.or sl_list sl_tupA) sl_str
theorem od_sl {v : V} {d : D} {lo hi : Option Int} {x : Vl} (sb : Sub F H) (h1 : RB K F H d v) (h : slD d lo hi = some x) (Q : VK) (q : ∀ F' H' u, Stp [] F H F' H' → VR0 K F' H' H u x → Q u H') : rSlG K v lo hi H Q := by
  unfold slD at h
  split at h
  · cases h
    obtain ⟨p, vs, e1, hp, rs⟩ := h1
    exact .inl (.inl ⟨p, vs, e1, .inl (.inl hp), fun r hr => q F _ _ (Stp.new sb hr) (own_new sb hr ⟨_, upd_same, rs.cut _ _⟩)⟩)
  · cases h
    obtain ⟨p, vs, e1, hp, fp, rs⟩ := h1
    refine .inl (.inr ⟨p, vs, e1, .inl (.inl hp), fun z => ?_, fun z r hr => ?_⟩)
    · rw [rs.len] at z
      rw [cut_whole z] at q
      exact q F H _ (Stp.refl sb) ⟨p, vs, rfl, fp, rs⟩
    · have hF := sb.none hr
      exact q _ _ _ (Stp.lay sb hr) ⟨r, _, rfl, upd_same, Reps.mono (Gr.upd hF) _ (rs.cut _ _)⟩
  · split at h
    · rename_i hz; cases h
      exact .inr ⟨_, h1, szOk hz, q F H _ (Stp.refl sb) rfl⟩
    · cases h
  · cases h
variable {cls : Ex → Addr} {W : WX}
/-- a part of a slice -/
def SndO (K : Fg) (cls : Ex → Addr) (W : WX) (to : TO) (m : M (Option Int)) : Prop := ∀ (σ : L2.St) (env : En) (F H : Hp) (Q : Option Int → Hp → Prop), Wd K σ env F H →
  OutQ (m env) (fun x env' => ∀ F' H', To K σ env F H env' F' H' → Q x H') (fun c env' => ∀ F' H', To K σ env F H env' F' H' → W (.ref (cls c)) none σ H') → to σ H Q
theorem sndO_none : SndO K cls W tNoPart (ret none) := fun σ env F H Q w h => h F H (To.refl w)
def dPart (m : M Vl) : M (Option Int) := mB m fun x => mB (pk x) fun d => match d with
  | .int i => ret (some i)
  | _ => fun _ => .stk
theorem sndO_some {te : TE} {m : M Vl} (h : Snd K cls W te m) : SndO K cls W (tPart te) (dPart m) := by
  intro σ env F H Q w q
  refine h σ env F H _ w (q.bind.imp (fun x env1 h1 F1 H1 v t1 r1 => ?_) fun c env1 h1 => h1)
  obtain ⟨a, ea, h4⟩ := h1.bind.pk
  cases a with
  | int i => exact ⟨i, r1.rb (w.to t1) ea, h4 F1 H1 t1⟩
  | _ => exact h4.elim
def dSl (m : M Vl) (a b : M (Option Int)) : M Vl := mB m fun x => mB a fun lo => mB b fun hi => mB (pk x) fun d => lft (slD d lo hi)
theorem snd_sl {te : TE} {tl th : TO} {m : M Vl} {a b : M (Option Int)} (h1 : Snd K cls W te m) (h2 : SndO K cls W tl a) (h3 : SndO K cls W th b) : Snd K cls W (tSl (rSlG K) te tl th) (dSl m a b) := by
  intro σ env F H Q w h
  refine h1 σ env F H _ w (h.bind.imp (fun x env1 h1 F1 H1 v t1 r1 => ?_) fun c env1 h1 => h1)
  refine h2 σ env1 F1 H1 _ (w.to t1) (h1.bind.imp (fun lo env2 h2 F2 H2 t2 => ?_) fun c env2 h2 F' H' t2 => h2 F' H' (t1.trans t2))
  have t12 := t1.trans t2
  refine h3 σ env2 F2 H2 _ (w.to t12) (h2.bind.imp (fun hi env3 h3 F3 H3 t3 => ?_) fun c env2 h2 F' H' t2 => h2 F' H' (t12.trans t2))
  have t13 := t12.trans t3
  obtain ⟨d, ed, h4⟩ := h3.bind.pk
  obtain ⟨z, ez, h5⟩ := h4.lft
  have w3 := w.to t13
  have r3 := (r1.on w t1 t2).on w t12 t3
  refine od_sl w3.sb (r3.rb w3 ed) ez Q fun F4 H4 u s4 r4 => ?_
  have t4 := w3.step s4 fun _ z => nomatch z
  exact h5 F4 H4 u (t13.trans t4) (VR.since t13 r4.vr)
/-! ### built-ins by name -/
def cLen : List D → Option Vl
  | [.lst ds] => some (.fz (.int ds.length))
  | [.tup ds] => some (.fz (.int ds.length))
  | [.scr ns] => some (.fz (.int ns.length))
  | [.str z] => if z.length ≤ 16777216 then some (.fz (.int z.length)) else none
  | [.dic ks] => some (.fz (.int ks.length))
  | _ => none
def rLenG (K : Fg) : List V → Hp → VK → Prop := fun xs H Q => (∃ x n, xs = [x] ∧ LenV K x H n ∧ Q (.int n) H) ∨ ∃ a kvs, xs = [V.ref a] ∧ Rd H a (.dK kvs) ∧ Q (.int kvs.length) H
theorem cr_or {X : Cx} {f : Value} {r r' : List V → Hp → VK → Prop} (h : CallR X f r) (h' : CallR X f r') : CallR X f (fun xs H Q => r xs H Q ∨ r' xs H Q) := by
  intro pins s σ H xs us Q I rx q
  rcases q with q | q
  · exact h pins s σ H xs us Q I rx q
  · exact h' pins s σ H xs us Q I rx q
theorem xc_len {X : Cx} : CallR X (.builtin "len") (rLenG X.K) := by
  refine cr_or call_len ?_
  intro pins s σ H xs us Q I r h
  obtain ⟨a, kvs, rfl, ha, q⟩ := h
  obtain ⟨u, rfl, ru⟩ := vals1 r
  cases ru
  exact d_len I ha fun t s' I' => ⟨.int kvs.length, H, I', ⟨t, rfl⟩, q⟩
theorem od_len : CallD K (rLenG K) cLen := by
  intro F H vs ds x sb h1 h Q q
  unfold cLen at h
  split at h
  · cases h
    obtain ⟨v, e, p, ws, e1, hp, rs⟩ := h1.one
    subst e
    refine .inl ⟨v, ws.length, rfl, ?_, ?_⟩
    · rw [e1]; exact .inl ⟨ws, .inl (.inl hp), rfl⟩
    · rw [rs.len]; exact q F H _ (Stp.refl sb) rfl
  · cases h
    obtain ⟨v, e, p, ws, e1, hp, _, rs⟩ := h1.one
    subst e
    refine .inl ⟨v, ws.length, rfl, ?_, ?_⟩
    · rw [e1]; exact .inr ⟨ws, .inl (.inl hp), rfl⟩
    · rw [rs.len]; exact q F H _ (Stp.refl sb) rfl
  · cases h
    obtain ⟨v, e, p, e1, hp⟩ := h1.one
    subst e
    refine .inl ⟨v, _, rfl, ?_, q F H _ (Stp.refl sb) rfl⟩
    rw [e1]; exact .inl ⟨_, hp, by simp⟩
  · split at h
    · rename_i z hz; cases h
      obtain ⟨v, e, e1⟩ := h1.one
      subst e
      refine .inl ⟨v, z.length, rfl, ?_, q F H _ (Stp.refl sb) rfl⟩
      rw [show v = .str z from e1]; exact ⟨szOk hz, rfl⟩
    · cases h
  · cases h
    obtain ⟨v, e, p, kvs, e1, hp, rs⟩ := h1.one
    subst e
    refine .inr ⟨p, kvs, by rw [e1], hp, ?_⟩
    rw [rs.len]; exact q F H _ (Stp.refl sb) rfl
  · cases h
/-- the kinds that isinstance tells apart -/
def tyNm : D → String
  | .non => "NoneType"
  | .bl _ => "bool"
  | .int _ => "int"
  | .str _ => "str"
  | .lst _ => "list"
  | .scr _ => "list"
  | .tup _ => "tuple"
  | .dic _ => "dict"
  | .dit _ => "dict"
  | .ty _ => "type"
  | .exn _ => "exn"
  | .cl _ => "cl"
  | .ptr _ => "ptr"
def isTy (a n : String) : Option Bool :=
  if n = "int" then some (a == "int" || a == "bool") else if n = "bool" then some (a == "bool") else if n = "str" then some (a == "str") else if n = "list" then some (a == "list") else if n = "dict" then some (a == "dict") else if n = "tuple" then some (a == "tuple") else none
theorem isTy_ok {a n : String} {b : Bool} (ha : a = "NoneType" ∨ a = "bool" ∨ a = "int" ∨ a = "str" ∨ a = "list" ∨ a = "tuple" ∨ a = "dict") (h : isTy a n = some b) : PySem.W.kitOne K (.type a) (.type n) = some b := by
  have hn : n = "int" ∨ n = "bool" ∨ n = "str" ∨ n = "list" ∨ n = "dict" ∨ n = "tuple" := by
    unfold isTy at h
    by_cases h1 : n = "int"; · exact .inl h1
    by_cases h2 : n = "bool"; · exact .inr (.inl h2)
    by_cases h3 : n = "str"; · exact .inr (.inr (.inl h3))
    by_cases h4 : n = "list"; · exact .inr (.inr (.inr (.inl h4)))
    by_cases h5 : n = "dict"; · exact .inr (.inr (.inr (.inr (.inl h5))))
    by_cases h6 : n = "tuple"; · exact .inr (.inr (.inr (.inr (.inr h6))))
    rw [if_neg h1, if_neg h2, if_neg h3, if_neg h4, if_neg h5, if_neg h6] at h
    cases h
  refine kit_ty ?_
  rcases ha with rfl | rfl | rfl | rfl | rfl | rfl | rfl <;> rcases hn with rfl | rfl | rfl | rfl | rfl | rfl <;> (rw [← h]; decide +kernel)
def dataTy : D → Bool
  | .dit _ => false
  | .ty _ => false
  | .exn _ => false
  | .cl _ => false
  | .ptr _ => false
  | _ => true
theorem tyx {d : D} {v : V} (hd : dataTy d = true) (h : RB K F H d v) : TyX K H v (.type (tyNm d)) := by
  cases d with
  | non => rw [show v = .non from h]; exact .base .non
  | bl b => rw [show v = .bl b from h]; exact .base (.bl b)
  | int b => rw [show v = .int b from h]; exact .base (.int b)
  | str b => rw [show v = .str b from h]; exact .base (.str b)
  | lst b => obtain ⟨p, _, e, hp, _⟩ := h; rw [e]; exact .base (.lst hp)
  | tup b => obtain ⟨p, _, e, hp, _⟩ := h; rw [e]; exact .base (.tup hp)
  | dic b =>
    obtain ⟨p, _, e, hp, _⟩ := h
    rw [e]
    rcases hp with hp | ⟨o, hp⟩
    · exact .base (.dK hp)
    · exact .fDict hp
  | scr b =>
    obtain ⟨p, e, hp⟩ := h
    rw [e]
    rcases hp with (hp | ⟨o, hp⟩) | ⟨o, its, n, hk, hc, _⟩
    · exact .base (.lst hp)
    · exact .base (.frz hp)
    · exact .kList hk hc
  | dit b => cases hd
  | ty b => cases hd
  | exn b => cases hd
  | cl b => cases hd
  | ptr b => cases hd
theorem tyNm_in {d : D} (hd : dataTy d = true) : tyNm d = "NoneType" ∨ tyNm d = "bool" ∨ tyNm d = "int" ∨ tyNm d = "str" ∨ tyNm d = "list" ∨ tyNm d = "tuple" ∨ tyNm d = "dict" := by
  cases d <;> first | (simp [tyNm]; done) | (simp [dataTy] at hd; done)
/-- isinstance(x, T), (x, (T1, T2)) -/
def tysOf : List D → Option (List String)
  | [] => some []
  | .ty n :: r => match tysOf r with
    | some l => some (n :: l)
    | none => none
  | _ => none
def anyTy (a : String) : List String → Option Bool
  | [] => some false
  | n :: r => match isTy a n with
    | some true => some true
    | some false => anyTy a r
    | none => none
def cIsi : List D → Option Vl
  | [d, .ty n] => if dataTy d then (match isTy (tyNm d) n with
    | some b => some (.fz (.bl b))
    | none => none) else none
  | [d, .tup ts] => if dataTy d then (match tysOf ts with
    | some ns => (match anyTy (tyNm d) ns with
      | some b => some (.fz (.bl b))
      | none => none)
    | none => none) else none
  | _ => none
def rIsiG (K : Fg) : List V → Hp → VK → Prop := fun xs H Q => rIsi K xs H Q ∨ rIsiT K xs H Q
theorem xc_isi {X : Cx} : CallR X (.builtin "isinstance") (rIsiG X.K) := cr_or call_isi call_isiT
theorem tys_vals : ∀ {ts : List D} {ns : List String} {vs : List V}, tysOf ts = some ns → Reps K F ts vs → Paired ClsV vs (ns.map Value.type)
  | [], ns, vs, h, r => by
    have h' : [] = ns := by simpa [tysOf] using h
    subst h'
    rw [show vs = [] from r]
    exact .nil
  | d :: ts, ns, vs, h, ⟨v, r, e, h1, h2⟩ => by
    subst e
    cases d with
    | ty n =>
      unfold tysOf at h
      cases q : tysOf ts with
      | none => rw [q] at h; cases h
      | some l =>
        rw [q] at h
        cases h
        rw [show v = .ty n from h1]
        exact .cons (.ty n) (tys_vals q h2)
    | _ => cases h
theorem any_kit {a : String} (ha : a = "NoneType" ∨ a = "bool" ∨ a = "int" ∨ a = "str" ∨ a = "list" ∨ a = "tuple" ∨ a = "dict") : ∀ {ns : List String} {b : Bool}, anyTy a ns = some b → PySem.W.kitAny K (.type a) (ns.map Value.type) = some b
  | [], b, h => h
  | n :: r, b, h => by
    unfold anyTy at h
    cases q : isTy a n with
    | none => rw [q] at h; cases h
    | some c =>
      rw [q] at h
      refine kitAny_cons (isTy_ok ha q) (fun z => ?_) fun z => ?_
      · subst z; exact any_kit ha h
      · subst z; exact (Option.some.inj h).symm
theorem od_isi : CallD K (rIsiG K) cIsi := by
  intro F H vs ds x sb h1 h Q q
  unfold cIsi at h
  split at h
  · split at h
    · rename_i d n hd
      split at h
      · rename_i b hb; cases h
        obtain ⟨v, u, e, hv, hu⟩ := h1.two
        subst e
        rw [show u = .ty n from hu]
        exact .inl ⟨v, _, _, _, b, rfl, .ty n, tyx hd hv, isTy_ok (tyNm_in hd) hb, q F H _ (Stp.refl sb) rfl⟩
      · cases h
    · cases h
  · split at h
    · rename_i d ts hd
      split at h
      · rename_i ns hns
        split at h
        · rename_i b hb; cases h
          obtain ⟨v, u, e, hv, p, us, e2, hp, _, rs⟩ := h1.two
          subst e e2
          exact .inr ⟨v, p, us, _, _, b, rfl, hp, tys_vals hns rs, tyx hd hv, any_kit (tyNm_in hd) hb, q F H _ (Stp.refl sb) rfl⟩
        · cases h
      · cases h
    · cases h
  · cases h
def blsOf : List D → Option (List Bool)
  | [] => some []
  | .bl b :: r => match blsOf r with
    | some l => some (b :: l)
    | none => none
  | _ => none
def intsOf : List D → Option (List Int)
  | [] => some []
  | .int b :: r => match intsOf r with
    | some l => some (b :: l)
    | none => none
  | _ => none
def strsOf : List D → Option (List Str)
  | [] => some []
  | .str b :: r => match strsOf r with
    | some l => some (b :: l)
    | none => none
  | _ => none
theorem bls_rep : ∀ {ds : List D} {bs : List Bool} {vs : List V}, blsOf ds = some bs → Reps K F ds vs → vs = bs.map V.bl
  | [], bs, vs, h, r => by
    have h' : [] = bs := by simpa [blsOf] using h
    subst h'; exact r
  | d :: ds, bs, vs, h, ⟨v, r, e, h1, h2⟩ => by
    subst e
    cases d with
    | bl b =>
      unfold blsOf at h
      cases q : blsOf ds with
      | none => rw [q] at h; cases h
      | some l => rw [q] at h; cases h; rw [show v = .bl b from h1, bls_rep q h2]; rfl
    | _ => cases h
theorem ints_rep : ∀ {ds : List D} {bs : List Int} {vs : List V}, intsOf ds = some bs → Reps K F ds vs → vs = bs.map V.int
  | [], bs, vs, h, r => by
    have h' : [] = bs := by simpa [intsOf] using h
    subst h'; exact r
  | d :: ds, bs, vs, h, ⟨v, r, e, h1, h2⟩ => by
    subst e
    cases d with
    | int b =>
      unfold intsOf at h
      cases q : intsOf ds with
      | none => rw [q] at h; cases h
      | some l => rw [q] at h; cases h; rw [show v = .int b from h1, ints_rep q h2]; rfl
    | _ => cases h
theorem strs_rep : ∀ {ds : List D} {bs : List Str} {vs : List V}, strsOf ds = some bs → Reps K F ds vs → vs = bs.map V.str
  | [], bs, vs, h, r => by
    have h' : [] = bs := by simpa [strsOf] using h
    subst h'; exact r
  | d :: ds, bs, vs, h, ⟨v, r, e, h1, h2⟩ => by
    subst e
    cases d with
    | str b =>
      unfold strsOf at h
      cases q : strsOf ds with
      | none => rw [q] at h; cases h
      | some l => rw [q] at h; cases h; rw [show v = .str b from h1, strs_rep q h2]; rfl
    | _ => cases h
def cAll : List D → Option Vl
  | [.lst ds] => (blsOf ds).map fun bs => .fz (.bl (bs.all id))
  | _ => none
def cAny : List D → Option Vl
  | [.lst ds] => (blsOf ds).map fun bs => .fz (.bl (bs.any id))
  | _ => none
def cSum : List D → Option Vl
  | [.lst ds] => (intsOf ds).map fun bs => .fz (.int bs.sum)
  | _ => none
theorem od_all : CallD K (rAll K) cAll := by
  intro F H vs ds x sb h1 h Q q
  unfold cAll at h
  split at h
  · obtain ⟨bs, hb, hx⟩ := Option.map_eq_some_iff.mp h
    subst hx
    obtain ⟨v, e, p, ws, e1, hp, rs⟩ := h1.one
    subst e e1
    exact ⟨p, bs, rfl, by rw [← bls_rep hb rs]; exact .inl (.inl hp), q F H _ (Stp.refl sb) rfl⟩
  · cases h
theorem od_any : CallD K (rAny K) cAny := by
  intro F H vs ds x sb h1 h Q q
  unfold cAny at h
  split at h
  · obtain ⟨bs, hb, hx⟩ := Option.map_eq_some_iff.mp h
    subst hx
    obtain ⟨v, e, p, ws, e1, hp, rs⟩ := h1.one
    subst e e1
    exact ⟨p, bs, rfl, by rw [← bls_rep hb rs]; exact .inl (.inl hp), q F H _ (Stp.refl sb) rfl⟩
  · cases h
theorem od_sum : CallD K (rSum K) cSum := by
  intro F H vs ds x sb h1 h Q q
  unfold cSum at h
  split at h
  · obtain ⟨bs, hb, hx⟩ := Option.map_eq_some_iff.mp h
    subst hx
    obtain ⟨v, e, p, ws, e1, hp, rs⟩ := h1.one
    subst e e1
    exact ⟨p, bs, rfl, by rw [← ints_rep hb rs]; exact .inl (.inl hp), q F H _ (Stp.refl sb) rfl⟩
  · cases h
/-- the greatest of some -/
def maxOf : Int → List Int → Int
  | m, [] => m
  | m, n :: r => maxOf (if m < n then n else m) r
theorem maxOf_ge : ∀ (r : List Int) (m : Int), m ≤ maxOf m r ∧ ∀ y ∈ r, y ≤ maxOf m r
  | [], m => ⟨Int.le_refl _, fun y h => nomatch h⟩
  | n :: r, m => by
    obtain ⟨h1, h2⟩ := maxOf_ge r (if m < n then n else m)
    have h3 : m ≤ (if m < n then n else m) ∧ n ≤ (if m < n then n else m) := by split <;> omega
    refine ⟨Int.le_trans h3.1 h1, fun y hy => ?_⟩
    rcases List.mem_cons.mp hy with e | hy
    · subst e; exact Int.le_trans h3.2 h1
    · exact h2 y hy
theorem maxOf_mem : ∀ (r : List Int) (m : Int), maxOf m r = m ∨ maxOf m r ∈ r
  | [], m => .inl rfl
  | n :: r, m => by
    rcases maxOf_mem r (if m < n then n else m) with h | h
    · by_cases c : m < n
      · rw [if_pos c] at h; exact .inr (by show maxOf (if m < n then n else m) r ∈ _; rw [if_pos c, h]; exact List.mem_cons_self)
      · rw [if_neg c] at h; exact .inl (by show maxOf (if m < n then n else m) r = _; rw [if_neg c, h])
    · exact .inr (List.mem_cons_of_mem _ h)
def cMax : List D → Option Vl
  | [.lst ds] => match intsOf ds with
    | some (n :: r) => some (.fz (.int (maxOf n r)))
    | _ => none
  | _ => none
theorem od_max : CallD K (rMax K) cMax := by
  intro F H vs ds x sb h1 h Q q
  unfold cMax at h
  split at h
  · split at h
    · rename_i n r hb; cases h
      obtain ⟨v, e, p, ws, e1, hp, rs⟩ := h1.one
      subst e e1
      refine ⟨p, n :: r, rfl, by rw [← ints_rep hb rs]; exact .inl (.inl hp), by simp, fun m hm hle => ?_⟩
      have : m = maxOf n r := by
        obtain ⟨g1, g2⟩ := maxOf_ge r n
        have m1 : m ≤ maxOf n r := by
          rcases List.mem_cons.mp hm with e | hm
          · subst e; exact g1
          · exact g2 m hm
        have m2 : maxOf n r ≤ m := by
          rcases maxOf_mem r n with e | e
          · rw [e]; exact hle n List.mem_cons_self
          · exact hle _ (List.mem_cons_of_mem _ e)
        omega
      subst this
      exact q F H _ (Stp.refl sb) rfl
    · cases h
  · cases h
def kD : Key → D
  | .inl i => .int i
  | .inr x => .str x
theorem rep_k (k : Key) : Rep K F (kD k) (kV k) := by cases k <;> rfl
theorem RepK.keysR : ∀ {ks : List (Key × D)} {kvs : List (Key × V)}, RepK K F ks kvs → Reps K F (ks.map fun p => kD p.1) (kvs.map fun p => kV p.1)
  | [], _, h => by rw [show _ = [] from h]; rfl
  | (k, d) :: ds, _, ⟨v, r, e, _, h⟩ => by subst e; exact ⟨_, _, rfl, rep_k k, RepK.keysR h⟩
/-- list(x): a list, a tuple, a dict's keys -/
def cList : List D → Option Vl
  | [.lst ds] => some (.ow (.lst ds))
  | [.tup ds] => some (.ow (.lst ds))
  | [.dic ks] => some (.ow (.lst (ks.map fun p => kD p.1)))
  | _ => none
def rListG (K : Fg) : List V → Hp → VK → Prop := fun xs H Q => (∃ p ys, xs = [.ref p] ∧ (SqL K H p ys ∨ SqT K H p ys) ∧ ∀ l, H l = none → Q (.ref l) (upd H l (.lst ys))) ∨
  ∃ (a : Addr) (kvs : List (Key × V)), xs = [.ref a] ∧ Rd H a (.dK kvs) ∧ ∀ p, H p = none → Q (.ref p) (upd H p (.lst (kvs.map fun kv => kV kv.1)))
theorem xc_list {X : Cx} (hc : X.calm = true) : CallR X (.type "list") (rListG X.K) := cr_or call_list_of (call_listD hc)
theorem od_list : CallD K (rListG K) cList := by
  intro F H vs ds x sb h1 h Q q
  unfold cList at h
  split at h
  · cases h
    obtain ⟨v, e, p, ws, e1, hp, rs⟩ := h1.one
    subst e e1
    exact .inl ⟨p, ws, rfl, .inl (.inl (.inl hp)), fun r hr => q F _ _ (Stp.new sb hr) (own_new sb hr ⟨_, upd_same, rs⟩)⟩
  · cases h
    obtain ⟨v, e, p, ws, e1, hp, _, rs⟩ := h1.one
    subst e e1
    exact .inl ⟨p, ws, rfl, .inr (.inl (.inl hp)), fun r hr => q F _ _ (Stp.new sb hr) (own_new sb hr ⟨_, upd_same, rs⟩)⟩
  · cases h
    obtain ⟨v, e, p, ws, e1, hp, rs⟩ := h1.one
    subst e e1
    exact .inr ⟨p, ws, rfl, hp, fun r hr => q F _ _ (Stp.new sb hr) (own_new sb hr ⟨_, upd_same, rs.keysR⟩)⟩
  · cases h
/-- tuple(x) -/
def cTuple : List D → Option Vl
  | [.lst ds] => some (.fz (.tup ds))
  | [.tup ds] => some (.fz (.tup ds))
  | _ => none
def rTupleG (K : Fg) : List V → Hp → VK → Prop := fun xs H Q => ∃ p ys, xs = [.ref p] ∧ ((SqL K H p ys ∧ ∀ l, H l = none → Q (.ref l) (upd H l (.tup ys))) ∨ (SqT K H p ys ∧ Q (.ref p) H))
theorem od_tuple : CallD K (rTupleG K) cTuple := by
  intro F H vs ds x sb h1 h Q q
  unfold cTuple at h
  split at h
  · cases h
    obtain ⟨v, e, p, ws, e1, hp, rs⟩ := h1.one
    subst e e1
    exact ⟨p, ws, rfl, .inl ⟨.inl (.inl hp), fun r hr => q _ _ _ (Stp.lay sb hr) ⟨r, _, rfl, upd_same, Reps.mono (Gr.upd (sb.none hr)) _ rs⟩⟩⟩
  · cases h
    obtain ⟨v, e, p, ws, e1, hp, fp, rs⟩ := h1.one
    subst e e1
    exact ⟨p, ws, rfl, .inr ⟨.inl (.inl hp), q F H _ (Stp.refl sb) ⟨p, ws, rfl, fp, rs⟩⟩⟩
  · cases h
/-- int(True), int(3) -/
def cInt : List D → Option Vl
  | [.int i] => some (.fz (.int i))
  | [.bl b] => some (.fz (.int (if b then 1 else 0)))
  | _ => none
theorem od_int : CallD K (fun xs H Q => (∃ i, xs = [V.int i] ∧ Q (.int i) H) ∨ ∃ k, xs = [V.bl k] ∧ Q (.int (if k then 1 else 0)) H) cInt := by
  intro F H vs ds x sb h1 h Q q
  unfold cInt at h
  split at h
  · cases h
    obtain ⟨v, e, e1⟩ := h1.one
    exact .inl ⟨_, by rw [e, show v = _ from e1], q F H _ (Stp.refl sb) rfl⟩
  · cases h
    obtain ⟨v, e, e1⟩ := h1.one
    exact .inr ⟨_, by rw [e, show v = _ from e1], q F H _ (Stp.refl sb) rfl⟩
  · cases h
/-! ### dict(pairs) -/
def putG {κ α : Type} [DecidableEq κ] (ks : List (κ × α)) (k : κ) (a : α) : List (κ × α) := match ks with
  | [] => [(k, a)]
  | (q, b) :: r => if q = k then (q, a) :: r else (q, b) :: putG r k a
theorem putK_cons_ne {p : Key × V} {r : List (Key × V)} {k : Key} {v : V} (h : ¬ p.1 = k) : putK (p :: r) k v = p :: putK r k v := by
  unfold putK
  have e : ((p :: r).any fun kv => decide (kv.1 = k)) = (r.any fun kv => decide (kv.1 = k)) := by rw [List.any_cons, decide_eq_false h, Bool.false_or]
  rw [e]
  split
  · rw [List.map_cons, if_neg h]
  · rfl
theorem putK_cons_eq {p : Key × V} {r : List (Key × V)} {k : Key} {v : V} (h : p.1 = k) (nd : k ∉ r.map (·.1)) : putK (p :: r) k v = (p.1, v) :: r := by
  unfold putK
  have e : ((p :: r).any fun kv => decide (kv.1 = k)) = true := by rw [List.any_cons, decide_eq_true h, Bool.true_or]
  rw [if_pos e, List.map_cons, if_pos h]
  congr 1
  have : ∀ (l : List (Key × V)), k ∉ l.map (·.1) → l.map (fun kv => if kv.1 = k then (kv.1, v) else kv) = l := by
    intro l
    induction l with
    | nil => intro _; rfl
    | cons a l ih =>
      intro hn
      have hn' : ¬ k = a.1 ∧ k ∉ l.map (·.1) := by simpa using hn
      rw [List.map_cons, if_neg (fun z => hn'.1 z.symm), ih hn'.2]
  exact this r nd
theorem RepK.put : ∀ {ks : List (Key × D)} {kvs : List (Key × V)} {k : Key} {d : D} {v : V}, RepK K F ks kvs → (ks.map (·.1)).Nodup → Rep K F d v → RepK K F (putG ks k d) (putK kvs k v)
  | [], _, k, d, v, h, _, r => by rw [show _ = [] from h]; exact ⟨v, [], rfl, r, rfl⟩
  | (q, b) :: ds, _, k, d, v, ⟨u, t, e, h1, h2⟩, nd, r => by
    subst e
    have nd' := List.nodup_cons.mp (show (q :: ds.map (·.1)).Nodup from nd)
    by_cases z : q = k
    · subst z
      rw [putK_cons_eq (p := (q, u)) rfl (by rw [h2.keys]; exact nd'.1)]
      unfold putG
      rw [if_pos rfl]
      exact ⟨v, t, rfl, r, h2⟩
    · rw [putK_cons_ne (p := (q, u)) z]
      unfold putG
      rw [if_neg z]
      exact ⟨u, _, rfl, h1, RepK.put h2 nd'.2 r⟩
theorem putG_keys {κ α : Type} [DecidableEq κ] : ∀ (ks : List (κ × α)) (k : κ) (a : α), (putG ks k a).map (·.1) = if k ∈ ks.map (·.1) then ks.map (·.1) else ks.map (·.1) ++ [k]
  | [], k, a => by simp [putG]
  | (q, b) :: r, k, a => by
    unfold putG
    by_cases z : q = k
    · subst z; simp
    · have z' : ¬ k = q := fun y => z y.symm
      rw [if_neg z, List.map_cons, putG_keys r k a]
      by_cases m : k ∈ r.map (·.1)
      · rw [if_pos m, if_pos (by simp only [List.map_cons, List.mem_cons]; exact .inr m)]; rfl
      · rw [if_neg m, if_neg (by simp only [List.map_cons, List.mem_cons, not_or]; exact ⟨z', m⟩)]; rfl
theorem putG_nodup {κ α : Type} [DecidableEq κ] {ks : List (κ × α)} {k : κ} {a : α} (h : (ks.map (·.1)).Nodup) : ((putG ks k a).map (·.1)).Nodup := by
  rw [putG_keys]
  split
  · exact h
  · rename_i m
    exact List.nodup_append.mpr ⟨h, by simp, fun x hx y hy z => by
      have : y = k := by simpa using hy
      subst this z
      exact m hx⟩
/-- pairs as data -/
def keyOf : D → Option Key
  | .int i => some (.inl i)
  | .str x => some (.inr x)
  | _ => none
def prsOf : List D → Option (List (Key × D))
  | [] => some []
  | .tup [k, d] :: r => match keyOf k, prsOf r with
    | some q, some l => some ((q, d) :: l)
    | _, _ => none
  | _ => none
def mergeD (ks : List (Key × D)) (more : List (Key × D)) : List (Key × D) := more.foldl (fun acc p => putG acc p.1 p.2) ks
theorem RepK.merge : ∀ {more : List (Key × D)} {mv : List (Key × V)} {ks : List (Key × D)} {kvs : List (Key × V)}, RepK K F more mv → RepK K F ks kvs → (ks.map (·.1)).Nodup → RepK K F (mergeD ks more) (mergeK kvs mv)
  | [], _, ks, kvs, h, h0, _ => by rw [show _ = [] from h]; exact h0
  | (k, d) :: more, _, ks, kvs, ⟨v, r, e, h1, h2⟩, h0, nd => by
    subst e
    exact RepK.merge (ks := putG ks k d) (kvs := putK kvs k v) h2 (h0.put nd h1) (putG_nodup nd)
theorem key_rb {d : D} {k : Key} {v : V} (h : keyOf d = some k) (r : Rep K F d v) : v = kV k := by
  cases d with
  | int i => cases h; exact r
  | str x => cases h; exact r
  | _ => cases h
theorem prs_rep (sb : Sub F H) : ∀ {ds : List D} {ks : List (Key × D)} {vs : List V}, prsOf ds = some ks → Reps K F ds vs → ∃ (ps : List Addr) (kvs : List (Key × V)), vs = ps.map V.ref ∧ Paired (fun p kv => SqT K H p [kV kv.1, kv.2]) ps kvs ∧ RepK K F ks kvs
  | [], ks, vs, h, r => by
    have h' : [] = ks := by simpa [prsOf] using h
    subst h'
    exact ⟨[], [], r, .nil, rfl⟩
  | .tup [k, d] :: ds, ks, vs, h, ⟨v, r, e, h1, h2⟩ => by
    subst e
    unfold prsOf at h
    cases q1 : keyOf k with
    | none => simp [q1] at h
    | some key =>
      cases q2 : prsOf ds with
      | none => simp [q1, q2] at h
      | some l =>
        have h' : (key, d) :: l = ks := by simpa [q1, q2] using h
        subst h'
        obtain ⟨ps, kvs, e1, e2, e3⟩ := prs_rep sb q2 h2
        obtain ⟨p, ws, e4, hp, u, t, e5, ru, u2, t2, e6, ru2, e7⟩ := h1
        subst e4 e5 e6
        have e7' : t2 = [] := e7
        subst e7' e1
        refine ⟨p :: ps, (key, u2) :: kvs, rfl, .cons ?_ e2, u2, kvs, rfl, ru2, e3⟩
        rw [key_rb q1 ru] at hp
        exact .inl (.inl (sb.tup hp))
  | .tup [] :: ds, _, _, h, _ => by cases h
  | .tup [_] :: ds, _, _, h, _ => by cases h
  | .tup (_ :: _ :: _ :: _) :: ds, _, _, h, _ => by cases h
  | .non :: ds, _, _, h, _ => by cases h
  | .bl _ :: ds, _, _, h, _ => by cases h
  | .int _ :: ds, _, _, h, _ => by cases h
  | .str _ :: ds, _, _, h, _ => by cases h
  | .lst _ :: ds, _, _, h, _ => by cases h
  | .dic _ :: ds, _, _, h, _ => by cases h
  | .dit _ :: ds, _, _, h, _ => by cases h
  | .scr _ :: ds, _, _, h, _ => by cases h
  | .ty _ :: ds, _, _, h, _ => by cases h
  | .exn _ :: ds, _, _, h, _ => by cases h
  | .cl _ :: ds, _, _, h, _ => by cases h
  | .ptr _ :: ds, _, _, h, _ => by cases h
/-- dict(a list of pairs), dict(d) -/
def cDict : List D → Option Vl
  | [.lst ds] => (prsOf ds).map fun ks => .ow (.dic (mergeD [] ks))
  | [.dic ks] => some (.ow (.dic ks))
  | _ => none
def rDictG (K : Fg) : List V → Hp → VK → Prop := fun xs H Q => (∃ (a : Addr) (ps : List Addr) (kvs : List (Key × V)), xs = [.ref a] ∧ SqL K H a (ps.map V.ref) ∧ Paired (fun p kv => SqT K H p [kV kv.1, kv.2]) ps kvs ∧ ∀ p, H p = none → Q (.ref p) (upd H p (.dK (mergeK [] kvs)))) ∨
  ∃ (a : Addr) (kvs : List (Key × V)), xs = [.ref a] ∧ Rd H a (.dK kvs) ∧ ∀ p, H p = none → Q (.ref p) (upd H p (.dK kvs))
theorem xc_dict {X : Cx} (hc : X.calm = true) : CallR X (.type "dict") (rDictG X.K) := cr_or (call_dictP hc) call_dictD
theorem od_dict : CallD K (rDictG K) cDict := by
  intro F H vs ds x sb h1 h Q q
  unfold cDict at h
  split at h
  · obtain ⟨ks, hk, hx⟩ := Option.map_eq_some_iff.mp h
    subst hx
    obtain ⟨v, e, p, ws, e1, hp, rs⟩ := h1.one
    subst e e1
    obtain ⟨ps, kvs, e2, e3, e4⟩ := prs_rep sb hk rs
    subst e2
    exact .inl ⟨p, ps, kvs, rfl, .inl (.inl hp), e3, fun r hr => q F _ _ (Stp.new sb hr) (own_new sb hr ⟨_, upd_same, RepK.merge (ks := []) (kvs := []) e4 rfl (by simp)⟩)⟩
  · cases h
    obtain ⟨v, e, p, ws, e1, hp, rs⟩ := h1.one
    subst e e1
    exact .inr ⟨p, ws, rfl, hp, fun r hr => q F _ _ (Stp.new sb hr) (own_new sb hr ⟨_, upd_same, rs⟩)⟩
  · cases h
end
end L3
end S_Lu
section S_Lv
set_option maxHeartbeats 0
namespace L3
open PySem PySem.Spec PyProof.Rows L2
/-! ### what is walked: lists, tuples, texts -/
def chD (z : Str) : List D := z.cps.toList.map fun c => .str ⟨#[c]⟩
def itemsOf : D → M (List D)
  | .lst ds => ret ds
  | .tup ds => ret ds
  | .str z => ret (chD z)
  | _ => fun _ => .stk
def dIt (m : M Vl) : M (List D) := mB m fun x => mB (frz x) itemsOf
def iAny (K : Fg) (te : TE) : TI := fun σ H R => te σ H fun x H1 => (∃ a, x = .ref a ∧ (∃ xs, SqL K H1 a xs) ∧ R (Itl K a) H1) ∨ (∃ a, x = .ref a ∧ (∃ xs, SqT K H1 a xs) ∧ R (Itt K a) H1) ∨ ∃ z, x = .str z ∧ R (Its z) H1
theorem pi_any {X : Cx} {tg l : Expr} {tl : TE} (hl : PE X l tl) : PI X tg l (iAny X.K tl) := by
  refine ⟨fun pins s σ H R I h => ?_⟩
  refine thn (hl.run pins s σ H _ I h) fun v s1 ⟨x, H1, I1, r1, q1⟩ => ?_
  rcases q1 with ⟨a, e, ⟨xs, hq⟩, q⟩ | ⟨a, e, ⟨xs, hq⟩, q⟩ | ⟨z, ex, q⟩
  · subst e
    cases r1
    obtain ⟨its, rv, p, hz⟩ := I1.list hq
    refine wpAny_pyIter_list p.isList ?_
    refine ⟨s1.heap.objs.size, [s1.heap.objs.size], _, _, H1, rfl, I1.kept (t' := s1.toks) fun b o e => Heap.get?_push_of_some _ e, turn_list a _, ⟨_, Heap.get?_push_size _ rfl, rfl, rfl⟩, fun b hb => ?_, q⟩
    have e : b = s1.heap.objs.size := by simpa using hb
    subst e
    exact I1.fpOk (Nat.le_refl _) (I1.hok.fresh (Nat.le_refl _))
  · subst e
    cases r1
    obtain ⟨its, rv, p, hz⟩ := I1.tuple hq
    refine wpAny_pyIter_tuple (show s1.heap.IsTuple a its.toArray from p) ?_
    refine ⟨s1.heap.objs.size, [s1.heap.objs.size], _, _, H1, rfl, I1.kept (t' := s1.toks) fun b o e => Heap.get?_push_of_some _ e, turn_tuple a _, ⟨_, Heap.get?_push_size _ rfl, rfl, rfl⟩, fun b hb => ?_, q⟩
    have e : b = s1.heap.objs.size := by simpa using hb
    subst e
    exact I1.fpOk (Nat.le_refl _) (I1.hok.fresh (Nat.le_refl _))
  · subst ex
    obtain ⟨t, rfl⟩ := r1
    cases ha : z.cps.all (· < 128)
    · exact wpAny_pyIter_wide ha (pi_one (tk := s1.toks) I1 _ (turn_str _ z t "str_iterator" (.inr rfl)) ⟨_, Heap.get?_push_size _ rfl, rfl, rfl⟩ q)
    · exact wpAny_pyIter_ascii ha (pi_one (tk := s1.toks) I1 _ (turn_str _ z t "str_ascii_iterator" (.inl rfl)) ⟨_, Heap.get?_push_size _ rfl, rfl, rfl⟩ q)
section
variable {K : Fg} {σ : L2.St} {env env' env2 : En} {F H F' H' F2 H2 H0 H1 : Hp} {v : V} {cls : Ex → Addr} {W : WX}
theorem itOk_str {z : Str} : ItOk K F H (Its z) (chD z) := by
  intro F2 H2 i g sb _
  refine ⟨fun d hd => ?_, fun hi => by show z.cps.size ≤ i; simp [chD] at hi; omega⟩
  have hlt : i < z.cps.size := by
    have := (List.getElem?_eq_some_iff.mp hd).1
    simpa [chD] using this
  refine ⟨hlt, fun x H' y => ?_⟩
  obtain ⟨e1, c, hc, e2⟩ := y
  subst e1 e2
  refine ⟨F2, Stp.refl sb, ?_⟩
  unfold chD at hd
  rw [List.getElem?_map] at hd
  have hc' : z.cps.toList[i]? = some c := by rw [Array.getElem?_toList]; exact hc
  rw [hc'] at hd
  have : D.str ⟨#[c]⟩ = d := by simpa using hd
  subst this
  rfl
theorem sndI_any {tl : TE} {m : M Vl} (h1 : Snd K cls W tl m) : SndI K cls W (iAny K tl) (dIt m) := by
  intro σ env F H R w h
  refine h1 σ env F H _ w (h.bind.imp (fun x env1 h1 F1 H1 v t1 r1 => ?_) fun c env1 h1 => h1)
  obtain ⟨d, env2, F2, h2, rp, t2, g2⟩ := To.frz w t1 r1 h1.bind
  cases d with
  | lst ds =>
    obtain ⟨p, vs, e, hp, rs⟩ := rp
    exact .inl ⟨p, e, ⟨vs, .inl (.inl ((w.to t2).sb.lst hp))⟩, h2 _ F2 H1 t2 (itOk_list hp rs)⟩
  | tup ds =>
    obtain ⟨p, vs, e, hp, rs⟩ := rp
    exact .inr (.inl ⟨p, e, ⟨vs, .inl (.inl ((w.to t2).sb.tup hp))⟩, h2 _ F2 H1 t2 (itOk_tup hp rs)⟩)
  | str z => exact .inr (.inr ⟨z, rp, h2 _ F2 H1 t2 itOk_str⟩)
  | _ => exact h2.elim
/-! ### a dict is locked while an expression, a statement runs -/
theorem SlotR.re {o : Option V} {e : Ent} (h : ∀ a, F a = none → H' a = H a) (r : SlotR K F H o e) : SlotR K F H' o e := by
  cases e with
  | no => trivial
  | fz d => exact r
  | ow d =>
    obtain ⟨a, e, hF, q⟩ := r
    exact ⟨a, e, hF, q.mono (Gr.refl F) fun u z => by rw [h a hF]; exact z⟩
theorem EnvR.re (h : ∀ a, F a = none → H' a = H a) (r : EnvR K F H σ env) : EnvR K F H' σ env := EnvR.of r.len fun i e he => by
  obtain ⟨o, g1, g2, _⟩ := r.get he
  exact ⟨o, g1, g2.re h⟩
theorem VR0.re {x : Vl} (h : ∀ a, F a = none → H' a = H a) (r : VR0 K F H H0 v x) : VR0 K F H' H0 v x := by
  cases x with
  | fz d => exact r
  | ow d =>
    obtain ⟨a, e, hF, q, hn⟩ := r
    exact ⟨a, e, hF, q.mono (Gr.refl F) fun u z => by rw [h a hF]; exact z, hn⟩
  | pl i => exact r
theorem VR.re {x : Vl} (h : ∀ a, F a = none → H' a = H a) (r : VR K σ env F H H0 v x) : VR K σ env F H' H0 v x := by
  cases x with
  | fz d => exact r
  | ow d =>
    obtain ⟨a, e, hF, q, hn⟩ := r
    exact ⟨a, e, hF, q.mono (Gr.refl F) fun u z => by rw [h a hF]; exact z, hn⟩
  | pl i => exact r
theorem Wd.lock (w : Wd K σ env F H) {p : Addr} {o : Obj} {kvs : List (Key × V)} (hF : F p = some (.dK kvs)) : Wd K σ env F (upd H p (.frz o (.dK kvs))) := by
  refine ⟨w.er.re fun a ha => ?_, w.nd, fun a u e => ?_⟩
  · have : a ≠ p := fun z => by rw [z, hF] at ha; cases ha
    rw [upd_ne this]
  · by_cases ha : a = p
    · subst ha
      rw [hF] at e; cases e
      exact .inr ⟨.inl ⟨_, rfl⟩, o, upd_same⟩
    · rw [upd_ne ha]; exact w.sb a u e
/-- unlocked again -/
theorem Stp.unlock {O : List Addr} {p : Addr} {o : Obj} {kvs : List (Key × V)} (s : Stp O F (upd H p (.frz o (.dK kvs))) F' H') (hH : H p = some (.dK kvs)) (hF : F p = some (.dK kvs)) (hO : ∀ a ∈ O, F a = none) : H' p = some (.frz o (.dK kvs)) ∧ Stp O F H F' (upd H' p (.dK kvs)) := by
  have hp : p ∉ O := fun z => by rw [hO p z] at hF; cases hF
  refine ⟨s.kp p _ upd_same hp, s.gr, fun a u e => ?_, fun a u e n => ?_, fun a u e => ?_, fun a u e => ?_⟩
  · by_cases ha : a = p
    · subst ha
      rw [s.gr _ _ hF] at e; cases e
      exact .inl upd_same
    · rw [upd_ne ha]; exact s.sub a u e
  · by_cases ha : a = p
    · subst ha
      rw [hH] at e; cases e
      exact upd_same
    · rw [upd_ne ha]; exact s.kp a u (by rw [upd_ne ha]; exact e) n
  · by_cases ha : a = p
    · subst ha; exact ⟨_, upd_same⟩
    · obtain ⟨u', q⟩ := s.al a u (by rw [upd_ne ha]; exact e)
      exact ⟨u', by rw [upd_ne ha]; exact q⟩
  · rcases s.nw a u e with z | z | z
    · exact .inl z
    · by_cases ha : a = p
      · subst ha; rw [upd_same] at z; cases z
      · rw [upd_ne ha] at z; exact .inr (.inl z)
    · exact .inr (.inr z)
theorem re_p {p : Addr} {u : HO} {kvs : List (Key × V)} (hF : F p = some (.dK kvs)) : ∀ a, F a = none → upd H p u a = H a := fun a ha => by
  have : a ≠ p := fun z => by rw [z, hF] at ha; cases ha
  rw [upd_ne this]
theorem To.unlock {p : Addr} {o : Obj} {kvs : List (Key × V)} (w : Wd K σ env F H) (t : To K σ env F (upd H p (.frz o (.dK kvs))) env' F' H') (hH : H p = some (.dK kvs)) (hF : F p = some (.dK kvs)) : H' p = some (.frz o (.dK kvs)) ∧ To K σ env F H env' F' (upd H' p (.dK kvs)) := by
  obtain ⟨h1, h2⟩ := t.st.unlock hH hF fun a ha => (w.own ha).1
  exact ⟨h1, h2, t.er.re (re_p (t.st.gr _ _ hF)), t.le⟩
/-- slot i holds a locked dict -/
def LkAt (K : Fg) (i : Nat) (σ : L2.St) (env : En) (F H : Hp) : Prop := ∃ p o kvs ks, σ[i]? = some (some (.ref p)) ∧ env[i]? = some (.fz (.dic ks)) ∧ F p = some (.dK kvs) ∧ RepK K F ks kvs ∧ H p = some (.frz o (.dK kvs))
def fzK (i : Nat) : M Unit := fun e => match e[i]? with
  | some (.fz (.dic _)) => .ok () e
  | some (.ow (.dic ks)) => .ok () (e.set i (.fz (.dic ks)))
  | _ => .stk
theorem fzK_ok {i : Nat} (w : Wd K σ env F H) {P : Unit → En → Prop} {Z : Ex → En → Prop} (h : OutQ (fzK i env) P Z) : ∃ env' F' p kvs ks, P () env' ∧ To K σ env F H env' F' H ∧ σ[i]? = some (some (.ref p)) ∧ env'[i]? = some (.fz (.dic ks)) ∧ F' p = some (.dK kvs) ∧ RepK K F' ks kvs := by
  unfold fzK at h
  cases q : env[i]? with
  | none => simp [q] at h; exact h.elim
  | some e =>
    obtain ⟨o, g1, g2, g3⟩ := w.er.get q
    cases e with
    | no => simp [q] at h; exact h.elim
    | fz d =>
      cases d with
      | dic ks =>
        simp only [q] at h
        obtain ⟨v, e, p, kvs, e1, hp, rs⟩ := g2
        subst e e1
        exact ⟨env, F, p, kvs, ks, h, To.refl w, g1, q, hp, rs⟩
      | _ => simp [q] at h; exact h.elim
    | ow d =>
      cases d with
      | dic ks =>
        simp only [q] at h
        obtain ⟨a, e', hF, r⟩ := g2
        subst e'
        obtain ⟨kvs, hH, rs⟩ := id r
        have st : Stp [a] F H (upd F a (.dK kvs)) H := Stp.frz w.sb hH hF (by simp)
        have rs' := RepK.mono st.gr ks rs
        have rp : Rep K (upd F a (.dK kvs)) (.dic ks) (.ref a) := ⟨a, kvs, rfl, upd_same, rs'⟩
        have er := w.er.set (o' := some (.ref a)) (e' := .fz (.dic ks)) st w.nd g1 q (fun p hp => .inl (by simpa [slotA] using hp)) ⟨_, rfl, rp⟩
        rw [set_get g1] at er
        have ha : a ∈ ownA σ env := g3 _ (by simp [slotA])
        refine ⟨_, _, a, kvs, ks, h, ⟨st.weak fun b hb => .inl (by
          have : b = a := by simpa using hb
          subst this; exact ha), er, EnvLe.set q trivial⟩, g1, ?_, upd_same, rs'⟩
        rw [List.getElem?_set_self (List.getElem?_eq_some_iff.mp q).1]
      | _ => simp [q] at h; exact h.elim
def dLk {α : Type} (i : Nat) (m : M α) : M α := mB (fzK i) fun _ => noX m
def tLkE (te : TE) : TE := fun σ H Q => te σ H Q ∨ tLockE te σ H Q
def tLkS (ts : TS) : TS := fun D σ H => ts D σ H ∨ tLock ts D σ H
theorem pe_lkE {X : Cx} {e : Expr} {te : TE} (h : PE X e te) : PE X e (tLkE te) := ⟨fun pins s σ H Q I q => q.elim (h.run pins s σ H Q I) ((pe_lock h).run pins s σ H Q I)⟩
theorem ps_lkS {X : Cx} {st : Stmt} {ts : TS} (h : PS X st ts) : PS X st (tLkS ts) := ⟨fun pins s σ H D I q => q.elim (h.run pins s σ H D I) ((ps_lock h).run pins s σ H D I)⟩
theorem snd_lkE {i : Nat} {te : TE} {m : M Vl} (hm : ∀ (σ : L2.St) (env : En) (F H : Hp) (Q : VK), Wd K σ env F H → LkAt K i σ env F H → OutQ (m env) (fun x env' => ∀ F' H' v, To K σ env F H env' F' H' → VR K σ env' F' H' H v x → Q v H') (fun _ _ => False) → te σ H Q) : Snd K cls W (tLkE te) (dLk i m) := by
  intro σ env F H Q w h
  obtain ⟨env1, F1, p, kvs, ks, h1, t1, hσ, he, hF, rs⟩ := fzK_ok w h.bind
  have h2 := noX_ok h1
  have w1 := w.to t1
  rcases w1.sb p _ hF with hH | ⟨_, o, hH⟩
  · refine .inr ⟨p, .dK kvs, hH, trivial, fun o => ?_⟩
    have wl := w1.lock (o := o) hF
    refine hm σ env1 F1 _ _ wl ⟨p, o, kvs, ks, hσ, he, hF, rs, upd_same⟩ (h2.imp (fun x env2 h3 F2 H2 v t2 r2 => ?_) fun _ _ z => z)
    obtain ⟨e1, t3⟩ := To.unlock w1 t2 hH hF
    refine ⟨e1, h3 F2 _ v (t1.trans t3) ?_⟩
    refine VR.earlier (fun a ha => ?_) (r2.re (re_p (t2.st.gr _ _ hF)))
    by_cases hap : a = p
    · subst hap; rw [upd_same] at ha; cases ha
    · rw [upd_ne hap] at ha; exact ha
  · exact .inl (hm σ env1 F1 H Q w1 ⟨p, o, kvs, ks, hσ, he, hF, rs, hH⟩ (h2.imp (fun x env2 h3 F2 H2 v t2 r2 => h3 F2 H2 v (t1.trans t2) (VR.since t1 r2)) fun _ _ z => z))
theorem snds_lkS {op : List Nat} {i : Nat} {ts : TS} {ms : M Fl} (hm : ∀ (C : Cn) (σ : L2.St) (env : En) (F H : Hp) (D : Ends), C.op = op → WdS K C σ env F H → LkAt K i σ env F H →
    OutQ (ms env) (fun f env' => ∀ σ' F' H', WdS K C σ' env' F' H' → FlQ K C D σ' F' H' f) (fun _ _ => False) → ts D σ H) : SndS K cls op W (tLkS ts) (dLk i ms) := by
  intro C σ env F H D ho w h
  obtain ⟨env1, F1, p, kvs, ks, h1, t1, hσ, he, hF, rs⟩ := fzK_ok w.w h.bind
  have h2 := noX_ok h1
  have w1 := w.to t1
  rcases w1.w.sb p _ hF with hH | ⟨_, o, hH⟩
  · refine .inr ⟨p, .dK kvs, hH, trivial, fun o => ?_⟩
    have wl := w1.w.lock (o := o) hF
    have upn : ∀ a, upd H p (.frz o (.dK kvs)) a = none → H a = none := fun a ha => by
      by_cases hap : a = p
      · subst hap; rw [upd_same] at ha; cases ha
      · rw [upd_ne hap] at ha; exact ha
    have back : ∀ σ2 env2 F2 H2, WdS K { C with O1 := ownA σ env1, F1 := F1, H1 := upd H p (.frz o (.dK kvs)), le := fun a ha => w1.h0 (upn a ha) } σ2 env2 F2 H2 → H2 p = some (.frz o (.dK kvs)) ∧ WdS K C σ2 env2 F2 (upd H2 p (.dK kvs)) := fun σ2 env2 F2 H2 w2 => by
      obtain ⟨e1, s1⟩ := w2.st.unlock hH hF fun a ha => (w1.w.own ha).1
      refine ⟨e1, ⟨w2.w.er.re (re_p (w2.st.gr _ _ hF)), w2.w.nd, s1.sub⟩, w1.st.trans s1 w1.new, fun a ha => ?_, w2.loc, w2.fix⟩
      rcases w2.new a ha with z | z
      · exact w1.new a z
      · exact .inr (w1.st.back (upn a z))
    refine hm { C with O1 := ownA σ env1, F1 := F1, H1 := upd H p (.frz o (.dK kvs)), le := fun a ha => w1.h0 (upn a ha) } σ env1 F1 _ _ ho ⟨wl, Stp.refl wl.sb, fun a ha => .inl ha, w1.loc, w1.fix⟩ ⟨p, o, kvs, ks, hσ, he, hF, rs, upd_same⟩ (h2.imp (fun f env2 h3 σ2 F2 H2 w2 => ?_) fun _ _ z => z)
    obtain ⟨e1, w3⟩ := back σ2 env2 F2 H2 w2
    have h4 := h3 σ2 F2 _ w3
    cases f with
    | nx => exact ⟨e1, h4⟩
    | bk => exact ⟨e1, h4⟩
    | ct => exact ⟨e1, h4⟩
    | rt x => exact fun v r => ⟨e1, h4 v (r.re (re_p (w2.st.gr _ _ hF)))⟩
  · exact .inl (hm C σ env1 F1 H D ho w1 ⟨p, o, kvs, ks, hσ, he, hF, rs, hH⟩ (h2.imp (fun f env2 h3 => h3) fun _ _ z => z))
/-! ### the keys of the dict in slot i -/
def dKs (i : Nat) : M (List D) := fun e => match e[i]? with
  | some (.fz (.dic ks)) => .ok (ks.map fun p => kD p.1) e
  | _ => .stk
theorem itOk_keys {p : Addr} {o : Obj} {kvs : List (Key × V)} {ks : List (Key × D)} (hF : F p = some (.dK kvs)) (hH : H p = some (.frz o (.dK kvs))) (rs : RepK K F ks kvs) : ItOk K F H (Itk p o kvs) (ks.map fun p => kD p.1) := by
  intro F2 H2 i g sb kp
  have h2 : H2 p = some (.frz o (.dK kvs)) := kp p _ _ hF hH
  refine ⟨fun d hd => ?_, fun hi => ⟨h2, by rw [rs.len]; simp at hi; omega⟩⟩
  have hlt : i < ks.length := by
    have := (List.getElem?_eq_some_iff.mp hd).1
    simpa using this
  refine ⟨⟨h2, by rw [rs.len]; exact hlt⟩, fun x H' y => ?_⟩
  obtain ⟨e1, k, v, hk, e2⟩ := y
  subst e1 e2
  refine ⟨F2, Stp.refl sb, ?_⟩
  have e3 := congrArg (fun l => l[i]?) rs.keys
  simp only [List.getElem?_map, hk, Option.map_some] at e3
  rw [List.getElem?_map] at hd
  cases q : ks[i]? with
  | none => rw [q] at e3; cases e3
  | some pr =>
    rw [q] at e3 hd
    have e4 : k = pr.1 := by simpa using e3
    have e5 : kD pr.1 = d := by simpa using hd
    subst e4 e5
    exact rep_k _
theorem keys_at {i : Nat} (w : Wd K σ env F H) (lk : LkAt K i σ env F H) (R : It → Hp → Prop) {Z : Ex → En → Prop} (h : OutQ (dKs i env) (fun ds env' => ∀ J F' H', To K σ env F H env' F' H' → ItOk K F' H' J ds → R J H') Z) : iKeysM (tVar i) σ H R := by
  obtain ⟨p, o, kvs, ks, hσ, he, hF, rs, hH⟩ := lk
  unfold dKs at h
  rw [he] at h
  exact ⟨_, hσ, p, o, kvs, rfl, hH, h _ F H (To.refl w) (itOk_keys hF hH rs)⟩
/-- a comprehension over x.keys(), x in slot i -/
theorem snd_lcK {i : Nat} {vs : List Nat} {g : TG} {tt : TT} {te : TE} {tgt : D → En → Option En} {mt : M Bool} {me : M Vl} {vt : List Nat} (hv : ∀ i ∈ vt, i ∈ vs) (hg : SndG K g tgt vt) (ht : SndT K cls W0 tt mt) (he : Snd K cls W0 te me) :
    Snd K cls W (tLkE (tLc (iKeysM (tVar i)) g tt te vs)) (dLk i (dLc vs (dKs i) tgt mt me)) :=
  snd_lkE fun σ env F H Q w lk h => lc_at (W := W0) hv w (fun R q => keys_at w lk R q) hg ht he (h.imp (fun _ _ z => z) fun _ _ z => z.elim)
theorem snds_forK {op fg vs : List Nat} {i : Nat} {g : TG} {tb : TS} {tgt : D → En → Option En} {mb : M Fl} (hf : ∀ i ∈ fg, i ∉ op) (hv : ∀ i ∈ vs, i ∉ op) (hvf : ∀ i ∈ vs, i ∈ fg) (hg : SndG K g tgt vs) (hb : SndS K cls op W tb mb) :
    SndS K cls op W (tLkS (tFor (iKeysM (tVar i)) g tb)) (dLk i (dFor fg (dKs i) tgt mb)) :=
  snds_lkS fun C σ env F H D ho w lk h => for_at hf hv hvf ho w (fun R q => keys_at w.w lk R q) hg hb (h.imp (fun _ _ z => z) fun _ _ z => z.elim)
end
end L3
end S_Lv
section S_Lw
set_option maxHeartbeats 0
namespace L3
open PySem PySem.Spec PyProof.Rows L2
section
variable {K : Fg} {σ : L2.St} {env env' env2 : En} {F H F' H' F2 H2 H0 H1 : Hp} {v : V} {cls : Ex → Addr} {W : WX}
/-! ### one's own, changed -/
/-- what slot i owns is changed -/
theorem To.mut (w : Wd K σ env F H) {i : Nat} {a : Addr} {d d' : D} {o : HO} (hs : σ[i]? = some (some (.ref a))) (he : env[i]? = some (.ow d)) (r : OwnAt K F (upd H a o) a d') : To K σ env F H (env.set i (.ow d')) F (upd H a o) := by
  obtain ⟨o1, g1, g2, g3⟩ := w.er.get he
  rw [hs] at g1; cases g1
  obtain ⟨a', e, hF, _⟩ := g2
  cases e
  have ha : a ∈ ownA σ env := g3 a (by simp [slotA])
  have st : Stp [a] F H F (upd H a o) := Stp.mut w.sb hF (by simp)
  have er := w.er.set (o' := some (.ref a)) (e' := .ow d') st w.nd hs he (fun p hp => .inl (by simpa [slotA] using hp)) ⟨a, rfl, hF, r⟩
  rw [set_get hs] at er
  exact ⟨st.weak fun b hb => .inl (by
    have : b = a := by simpa using hb
    subst this; exact ha), er, EnvLe.set he trivial⟩
theorem Wd.at (w : Wd K σ env F H) {i : Nat} {d : D} (he : env[i]? = some (.ow d)) : ∃ a, σ[i]? = some (some (.ref a)) ∧ F a = none ∧ OwnAt K F H a d := by
  obtain ⟨o, g1, ⟨a, e, hF, r⟩, _⟩ := w.er.get he
  subst e
  exact ⟨a, g1, hF, r⟩
theorem OutQ.stkE {α : Type} {P : α → En → Prop} {Z : Ex → En → Prop} (h : OutQ (.stk : Out α) P Z) : False := h
/-- x.append(e) -/
def isOwL (e : En) (i : Nat) : Bool := match e[i]? with
  | some (.ow (.lst _)) => true
  | _ => false
def appE (i : Nat) (d : D) : M Vl := fun e => match e[i]? with
  | some (.ow (.lst ds)) => if ds.length < 16777216 then .ok (.fz .non) (e.set i (.ow (.lst (ds ++ [d])))) else .stk
  | _ => .stk
def dApp (i : Nat) (m : M Vl) : M Vl := fun e => if isOwL e i = true then mB m (fun x => mB (frz x) fun d => appE i d) e else .stk
theorem isOwL_of {i : Nat} (h : isOwL env i = true) : ∃ ds, env[i]? = some (.ow (.lst ds)) := by
  unfold isOwL at h
  split at h
  · rename_i ds e; exact ⟨ds, e⟩
  · cases h
theorem snd_app {i : Nat} {te : TE} {m : M Vl} (h1 : Snd K cls W te m) : Snd K cls W (tBM K "list" rAppend (tVar i) (tCons te tNil)) (dApp i m) := by
  intro σ env F H Q w h
  unfold dApp at h
  by_cases hi : isOwL env i = true
  · rw [if_pos hi] at h
    obtain ⟨ds0, he0⟩ := isOwL_of hi
    obtain ⟨a, hs, _, vs0, hH0, _⟩ := w.at he0
    refine ⟨_, hs, .inl ⟨rfl, vs0, .inl (.inl hH0)⟩, ?_⟩
    refine h1 σ env F H _ w (OutQ.imp (OutQ.bind h) (fun x env1 h1 F1 H1 v t1 r1 => ?_) fun c env1 h1 => h1)
    obtain ⟨d, env2, F2, h2, rp, t2, g2⟩ := To.frz w t1 r1 h1.bind
    show rAppend _ [v] H1 Q
    unfold appE at h2
    split at h2
    · rename_i ds he2
      split at h2
      · rename_i hz
        have w2 := w.to t2
        obtain ⟨a2, hs2, hF2, vs, hH, rs⟩ := w2.at he2
        rw [hs] at hs2; cases hs2
        refine ⟨a, vs, v, rfl, rfl, hH, szLt (by rw [rs.len]; exact hz), ?_⟩
        exact h2 F2 _ .non (t2.trans (To.mut w2 hs he2 ⟨_, upd_same, rs.snoc rp⟩)) rfl
      · exact h2.elim
    · exact h2.elim
  · rw [if_neg hi] at h; exact h.elim
/-- x.extend(e), e a list -/
def extE (i : Nat) (d : D) : M Vl := fun e => match e[i]?, d with
  | some (.ow (.lst ds)), .lst es => if ds.length + es.length ≤ 16777216 then .ok (.fz .non) (e.set i (.ow (.lst (ds ++ es)))) else .stk
  | _, _ => .stk
def dExt (i : Nat) (m : M Vl) : M Vl := fun e => if isOwL e i = true then mB m (fun x => mB (pk x) fun d => extE i d) e else .stk
theorem snd_ext {i : Nat} {te : TE} {m : M Vl} (h1 : Snd K cls W te m) : Snd K cls W (tBM K "list" rExtend (tVar i) (tCons te tNil)) (dExt i m) := by
  intro σ env F H Q w h
  unfold dExt at h
  by_cases hi : isOwL env i = true
  · rw [if_pos hi] at h
    obtain ⟨ds0, he0⟩ := isOwL_of hi
    obtain ⟨a, hs, _, vs0, hH0, _⟩ := w.at he0
    refine ⟨_, hs, .inl ⟨rfl, vs0, .inl (.inl hH0)⟩, ?_⟩
    refine h1 σ env F H _ w (OutQ.imp (OutQ.bind h) (fun x env1 h1 F1 H1 v t1 r1 => ?_) fun c env1 h1 => h1)
    obtain ⟨d, ed, h2⟩ := h1.bind.pk
    have w1 := w.to t1
    show rExtend _ [v] H1 Q
    unfold extE at h2
    split at h2
    · rename_i ds es he2
      split at h2
      · rename_i hz
        obtain ⟨a2, hs2, hF2, vs, hH, rs⟩ := w1.at he2
        rw [hs] at hs2; cases hs2
        obtain ⟨b, us, eb, hb, rs2⟩ := r1.rb w1 ed
        refine ⟨a, b, vs, us, rfl, by rw [eb], hH, hb, szOk (by rw [rs.len, rs2.len]; exact hz), ?_⟩
        exact h2 F1 _ .non (t1.trans (To.mut w1 hs he2 ⟨_, upd_same, rs.app rs2⟩)) rfl
      · exact h2.elim
    · exact h2.elim
  · rw [if_neg hi] at h; exact h.elim
/-- x[k] = e, x a dict of one's own -/
def keysOf : List D → Option (List Key)
  | [] => some []
  | d :: r => match keyOf d, keysOf r with
    | some k, some l => some (k :: l)
    | _, _ => none
theorem keys_rep : ∀ {ds : List D} {ks : List Key} {vs : List V}, keysOf ds = some ks → Reps K F ds vs → vs = ks.map kV
  | [], ks, vs, h, r => by
    have h' : [] = ks := by simpa [keysOf] using h
    subst h'; exact r
  | d :: ds, ks, vs, h, ⟨v, r, e, h1, h2⟩ => by
    subst e
    unfold keysOf at h
    cases q1 : keyOf d with
    | none => simp [q1] at h
    | some k =>
      cases q2 : keysOf ds with
      | none => simp [q1, q2] at h
      | some l =>
        have h' : k :: l = ks := by simpa [q1, q2] using h
        subst h'
        rw [key_rb q1 h1, keys_rep q2 h2]; rfl
def tkeyOf : D → Option (List Key)
  | .tup ds => keysOf ds
  | _ => none
def putE1 (i : Nat) (k d : D) : M Fl := fun e => match e[i]? with
  | some (.ow (.dic ks)) => (match keyOf k with
    | some q => if ks.length < 16777216 ∧ (ks.map (·.1)).Nodup then .ok .nx (e.set i (.ow (.dic (putG ks q d)))) else .stk
    | none => .stk)
  | some (.ow (.dit ks)) => (match tkeyOf k with
    | some q => if ks.length < 16777216 ∧ (ks.map (·.1)).Nodup then .ok .nx (e.set i (.ow (.dit (putG ks q d)))) else .stk
    | none => .stk)
  | _ => .stk
theorem key_rb2 {d : D} {k : Key} {v : V} (h : keyOf d = some k) (r : RB K F H d v) : v = kV k := by
  cases d with
  | int i => cases h; exact r
  | str x => cases h; exact r
  | _ => cases h
theorem tkey_rb {d : D} {k : List Key} {v : V} (h : tkeyOf d = some k) (r : RB K F H d v) : ∃ b, v = .ref b ∧ H b = some (.tup (k.map kV)) := by
  cases d with
  | tup ds =>
    obtain ⟨b, us, eu, hb, fb, ru⟩ := r
    exact ⟨b, eu, by rw [hb, keys_rep h ru]⟩
  | _ => cases h
def dPut (i : Nat) (mk mv : M Vl) : M Fl := mB mv fun x => fun e => match e[i]? with
  | some (.ow _) => mB mk (fun y => mB (pk y) fun k => mB (frz x) fun d => putE1 i k d) e
  | _ => .stk
theorem putT_eq {ks : List (List Key × D)} {kvs : List (List Key × V)} {k : List Key} {d : D} {v : V} : RepT K F ks kvs → (ks.map (·.1)).Nodup → Rep K F d v → RepT K F (putG ks k d) (putK kvs k v) := by
  intro h nd r
  induction ks generalizing kvs with
  | nil => rw [show _ = [] from h]; exact ⟨v, [], rfl, r, rfl⟩
  | cons p ds ih =>
    obtain ⟨q, b⟩ := p
    obtain ⟨u, t, e, h1, h2⟩ := h
    subst e
    have nd' := List.nodup_cons.mp (show (q :: ds.map (·.1)).Nodup from nd)
    have keys : ∀ {ks : List (List Key × D)} {kvs : List (List Key × V)}, RepT K F ks kvs → kvs.map (·.1) = ks.map (·.1) := by
      intro ks
      induction ks with
      | nil => intro kvs h; rw [show kvs = [] from h]; rfl
      | cons p ks ih =>
        intro kvs ⟨u, t, e, _, h⟩
        subst e
        rw [List.map_cons, List.map_cons, ih h]
    have ne : ∀ {p : List Key × V} {r : List (List Key × V)} {k : List Key} {v : V}, ¬ p.1 = k → putK (p :: r) k v = p :: putK r k v := by
      intro p r k v h
      unfold putK
      have e : ((p :: r).any fun kv => decide (kv.1 = k)) = (r.any fun kv => decide (kv.1 = k)) := by rw [List.any_cons, decide_eq_false h, Bool.false_or]
      rw [e]
      split
      · rw [List.map_cons, if_neg h]
      · rfl
    by_cases z : q = k
    · subst z
      have e1 : putK ((q, u) :: t) q v = (q, v) :: t := by
        unfold putK
        have e : (((q, u) :: t).any fun kv => decide (kv.1 = q)) = true := by simp
        rw [if_pos e, List.map_cons, if_pos rfl]
        congr 1
        have all : ∀ (l : List (List Key × V)), q ∉ l.map (·.1) → l.map (fun kv => if kv.1 = q then (kv.1, v) else kv) = l := by
          intro l
          induction l with
          | nil => intro _; rfl
          | cons a l ih =>
            intro hn
            have hn' : ¬ q = a.1 ∧ q ∉ l.map (·.1) := by simpa using hn
            rw [List.map_cons, if_neg (fun z => hn'.1 z.symm), ih hn'.2]
        exact all t (by rw [keys h2]; exact nd'.1)
      rw [e1]
      unfold putG
      rw [if_pos rfl]
      exact ⟨v, t, rfl, r, h2⟩
    · rw [ne (p := (q, u)) z]
      unfold putG
      rw [if_neg z]
      exact ⟨u, _, rfl, h1, ih h2 nd'.2⟩
theorem RepT.len : ∀ {ks : List (List Key × D)} {kvs : List (List Key × V)}, RepT K F ks kvs → kvs.length = ks.length
  | [], _, h => by rw [show _ = [] from h]; rfl
  | (k, d) :: ds, _, ⟨v, r, e, _, h⟩ => by subst e; simp [RepT.len h]
theorem snds_put {op : List Nat} {i : Nat} {tk tv : TE} {mk mv : M Vl} (hk : Snd K cls W tk mk) (hv : Snd K cls W tv mv) : SndS K cls op W (sDPut (tVar i) tk tv) (dPut i mk mv) := by
  intro C σ env F H D ho ws h
  have w := ws.w
  refine hv σ env F H _ w (h.bind.imp (fun x env1 h1 F1 H1 v t1 r1 => ?_) fun c env1 h1 F1 H1 t1 => h1 σ F1 H1 (ws.to t1))
  have w1 := w.to t1
  split at h1
  · rename_i d0 he0
    obtain ⟨a, hs, _, _⟩ := w1.at he0
    refine ⟨_, hs, ?_⟩
    refine hk σ env1 F1 H1 _ w1 (OutQ.imp (OutQ.bind h1) (fun y env2 h2 F2 H2 u t2 r2 => ?_) fun c env2 h2 F2 H2 t2 => h2 σ F2 H2 (ws.to (t1.trans t2)))
    have t12 := t1.trans t2
    have w2 := w.to t12
    obtain ⟨k, ek, h3⟩ := h2.bind.pk
    have rk := r2.rb w2 ek
    obtain ⟨d, env3, F3, h4, rp, t3, g3⟩ := To.frz w t12 (r1.on w t1 t2) h3.bind
    have w3 := w.to t3
    unfold putE1 at h4
    split at h4
    · rename_i ks he3
      split at h4
      · rename_i q hq
        split at h4
        · rename_i hz
          obtain ⟨a2, hs2, _, kvs, hH, rs⟩ := w3.at he3
          rw [hs] at hs2; cases hs2
          have eu : u = kV q := key_rb2 hq rk
          refine ⟨a, _, rfl, .inl ⟨kvs, q, hH, eu, szLt (by rw [rs.len]; exact hz.1), rfl⟩, ?_⟩
          exact h4 σ F3 _ (ws.to (t3.trans (To.mut w3 hs he3 ⟨_, upd_same, rs.put hz.2 rp⟩)))
        · exact h4.elim
      · exact h4.elim
    · rename_i ks he3
      split at h4
      · rename_i q hq
        split at h4
        · rename_i hz
          obtain ⟨a2, hs2, _, kvs, hH, rs⟩ := w3.at he3
          rw [hs] at hs2; cases hs2
          obtain ⟨b, eu, hb⟩ := tkey_rb hq rk
          refine ⟨a, _, rfl, .inr ⟨kvs, q, b, hH, eu, hb, szLt (by rw [rs.len]; exact hz.1), rfl⟩, ?_⟩
          exact h4 σ F3 _ (ws.to (t3.trans (To.mut w3 hs he3 ⟨_, upd_same, putT_eq rs hz.2 rp⟩)))
        · exact h4.elim
      · exact h4.elim
    · exact h4.elim
  · exact h1.elim
/-- sep.join(e) -/
def strSum (l : List Str) : Nat := (l.map (·.length)).sum
def joinD : D → D → Option Vl
  | .str a, .lst ds => match strsOf ds with
    | some ys => if strSum ys + ys.length * a.length ≤ 16777216 then some (.fz (.str (Txt.join a ys))) else none
    | none => none
  | _, _ => none
def isStr : D → Bool
  | .str _ => true
  | _ => false
def dJoin (mo m : M Vl) : M Vl := mB mo fun x => mB (pk x) fun a => if isStr a = true then mB m fun y => mB (pk y) fun b => lft (joinD a b) else fun _ => .stk
def rJoin (K : Fg) : V → List V → Hp → VK → Prop := fun x xs H Q => ∃ a p, ∃ ys : List Str, x = .str a ∧ xs = [.ref p] ∧ (SqL K H p (ys.map V.str) ∨ SqT K H p (ys.map V.str)) ∧
      (ys.map (·.length)).sum + ys.length * a.length ≤ 16777216 ∧ Q (.str (Txt.join a ys)) H
theorem snd_join {to te : TE} {mo m : M Vl} (h1 : Snd K cls W to mo) (h2 : Snd K cls W te m) : Snd K cls W (tM1 (rJoin K) to te) (dJoin mo m) := by
  intro σ env F H Q w h
  refine h1 σ env F H _ w (h.bind.imp (fun x env1 h1 F1 H1 v t1 r1 => ?_) fun c env1 h1 => h1)
  have w1 := w.to t1
  obtain ⟨a, ea, h3⟩ := h1.bind.pk
  have ra := r1.rb w1 ea
  split at h3
  · rename_i hs
    cases a with
    | str z =>
      refine ⟨⟨z, ra⟩, ?_⟩
      refine h2 σ env1 F1 H1 _ w1 (OutQ.imp (OutQ.bind h3) (fun y env2 h4 F2 H2 u t2 r2 => ?_) fun c env2 h2 F' H' t2 => h2 F' H' (t1.trans t2))
      have t12 := t1.trans t2
      have w2 := w.to t12
      obtain ⟨b, eb, h5⟩ := h4.bind.pk
      obtain ⟨r, er, h6⟩ := h5.lft
      have rb := r2.rb w2 eb
      unfold joinD at er
      split at er
      · rename_i a' ds ha
        cases ha
        split at er
        · rename_i ys hy
          split at er
          · rename_i hz; cases er
            obtain ⟨p, vs, ep, hp, rs⟩ := rb
            refine ⟨z, p, ys, ra, by rw [ep], .inl (by rw [← strs_rep hy rs]; exact .inl (.inl hp)), hz, ?_⟩
            exact h6 F2 H2 _ t12 rfl
          · cases er
        · cases er
      · cases er
    | _ => cases hs
  · exact h3.elim
/-- a, b = e -/
def dUnp (is : List Nat) (m : M Vl) : M Fl := mB m fun x => mB (frz x) fun d => fun e => match d with
  | .tup ds => (match gtL is ds e with
    | some e' => .ok .nx e'
    | none => .stk)
  | _ => .stk
theorem snds_unp {op is : List Nat} {n : Nat} {te : TE} {m : M Vl} (hv : ∀ i ∈ is, i ∉ op) (hn : is.length = n) (h1 : Snd K cls W te m) : SndS K cls op W (tAsg te (gTup K n (gNames is))) (dUnp is m) := by
  intro C σ env F H D ho ws h
  subst ho
  refine h1 σ env F H _ ws.w (h.bind.imp (fun x env1 h1 F1 H1 v t1 r1 => ?_) fun c env1 h1 F1 H1 t1 => h1 σ F1 H1 (ws.to t1))
  obtain ⟨d, env2, F2, h2, rp, t2, g2⟩ := To.frz ws.w t1 r1 h1.bind
  have w2 := ws.to t2
  have h2' : OutQ (match d with
    | .tup ds => (match gtL is ds env2 with
      | some e' => (.ok .nx e' : Out Fl)
      | none => .stk)
    | _ => .stk) (fun f env' => ∀ σ' F' H', WdS K C σ' env' F' H' → FlQ K C D σ' F' H' f) (fun c env' => ∀ σ' F' H', WdS K C σ' env' F' H' → W (.ref (cls c)) none σ' H') := h2
  cases d with
  | tup ds =>
    cases q : gtL is ds env2 with
    | none => simp only [q] at h2'; exact h2'.elim
    | some e' =>
      simp only [q] at h2'
      refine sndG_tup hn σ env2 e' F2 H1 (.tup ds) v _ w2.w.er w2.w.sb rp q fun σ4 er4 same4 no4 len4 => ?_
      refine h2' σ4 F2 H1 (w2.target (To.refl w2.w) hv er4 same4 no4 len4 (ownA_sub_of len4 er4.len w2.w.er.len fun j d' hj => ?_))
      by_cases hm : j ∈ is
      · exact (no4 j hm d' hj).elim
      · exact same4 j hm
  | _ => exact h2'.elim
/-! ### truth -/
def truD : D → Option Bool
  | .non => some false
  | .bl b => some b
  | .int i => some (i != 0)
  | .str z => if z.length ≤ 16777216 then some ((z.length : Int) != 0) else none
  | .lst ds => some (!ds.isEmpty)
  | .tup ds => some (!ds.isEmpty)
  | .scr ns => some (!ns.isEmpty)
  | _ => none
theorem Reps.emp {ds : List D} {vs : List V} (r : Reps K F ds vs) : vs.isEmpty = ds.isEmpty := by
  cases ds with
  | nil => rw [show vs = [] from r]; rfl
  | cons d ds => obtain ⟨v, t, e, _⟩ := r; subst e; rfl
theorem tru_rb {d : D} {v : V} {b : Bool} (h : RB K F H d v) (q : truD d = some b) : TruV K v H b := by
  cases d with
  | non => rw [show v = .non from h]; cases q; rfl
  | bl c => rw [show v = .bl c from h]; cases q; rfl
  | int c => rw [show v = .int c from h]; cases q; rfl
  | str c =>
    rw [show v = .str c from h]
    have q' : (if c.length ≤ 16777216 then some ((c.length : Int) != 0) else none) = some b := q
    by_cases hz : c.length ≤ 16777216
    · rw [if_pos hz] at q'; cases q'; exact ⟨szOk hz, rfl⟩
    · rw [if_neg hz] at q'; cases q'
  | lst ds =>
    obtain ⟨p, vs, e, hp, rs⟩ := h
    cases q
    rw [e]
    exact .inl ⟨vs, .inl (.inl hp), by rw [rs.emp]⟩
  | tup ds =>
    obtain ⟨p, vs, e, hp, _, rs⟩ := h
    cases q
    rw [e]
    exact .inr (.inl ⟨vs, .inl (.inl hp), by rw [rs.emp]⟩)
  | scr ns =>
    obtain ⟨p, e, hp⟩ := h
    cases q
    rw [e]
    exact .inl ⟨_, hp, by cases ns <;> rfl⟩
  | _ => cases q
def dTru (m : M Vl) : M Bool := mB m fun x => mB (pk x) fun d => lft (truD d)
abbrev tTru (K : Fg) (ta : TE) : TT := fun σ H Q => ta σ H fun x H' => ∃ k, TruV K x H' k ∧ Q k H'
theorem snd_tru {te : TE} {m : M Vl} (h1 : Snd K cls W te m) : SndT K cls W (tTru K te) (dTru m) := by
  intro σ env F H Q w h
  refine h1 σ env F H _ w (h.bind.imp (fun x env1 h1 F1 H1 v t1 r1 => ?_) fun c env1 h1 => h1)
  obtain ⟨a, ea, h3⟩ := h1.bind.pk
  obtain ⟨b, eb, h4⟩ := h3.lft
  exact ⟨b, tru_rb (r1.rb (w.to t1) ea) eb, h4 F1 H1 t1⟩
/-- a op b op c -/
def dChain (f g : D → D → Option Vl) (ma mb mc : M Vl) : M Vl := mB ma fun x => mB mb fun y => mB (pk x) fun a => mB (pk y) fun b => match f a b with
  | some (.fz (.bl true)) => mB mc fun z => mB (pk y) fun b => mB (pk z) fun c => lft (g b c)
  | some (.fz (.bl false)) => ret (.fz (.bl false))
  | _ => fun _ => .stk
theorem snd_chain {r r' : R2} {f g : D → D → Option Vl} {ta tb tc : TE} {ma mb mc : M Vl} (o1 : OpD K r f) (o2 : OpD K r' g) (ha : Snd K cls W ta ma) (hb : Snd K cls W tb mb) (hc : Snd K cls W tc mc) : Snd K cls W (tChain r r' ta tb tc) (dChain f g ma mb mc) := by
  intro σ env F H Q w h
  refine ha σ env F H _ w (h.bind.imp (fun x env1 h1 F1 H1 v t1 r1 => ?_) fun c env1 h1 => h1)
  refine hb σ env1 F1 H1 _ (w.to t1) (h1.bind.imp (fun y env2 h2 F2 H2 u t2 r2 => ?_) fun c env2 h2 F' H' t2 => h2 F' H' (t1.trans t2))
  have t12 := t1.trans t2
  have w2 := w.to t12
  obtain ⟨a, ea, h3⟩ := h2.bind.pk
  obtain ⟨b, eb, h4⟩ := h3.bind.pk
  have r1' := r1.on w t1 t2
  have other : ∀ {m : M Vl} {P : Vl → En → Prop} {Z : Ex → En → Prop}, m = (fun _ => .stk) → OutQ (m env2) P Z → False := fun e q => by rw [e] at q; exact q
  by_cases h1b : f a b = some (.fz (.bl true))
  · have hf := h1b
    simp only [hf] at h4
    refine o1 F2 H2 v u a b _ w2.sb (r1'.rb w2 ea) (r2.rb w2 eb) hf _ fun F3 H3 z s3 r3 => ?_
    have e3 : z = .bl true := r3
    refine ⟨true, e3, ?_⟩
    rw [if_pos rfl]
    have t3 := w2.step s3 fun _ z => nomatch z
    have t13 := t12.trans t3
    have w3 := w.to t13
    refine hc σ env2 F3 H3 _ w3 (OutQ.imp (OutQ.bind h4) (fun zz env4 h5 F4 H4 u2 t4 r4 => ?_) fun c env2 h2 F' H' t2 => h2 F' H' (t13.trans t2))
    have t14 := t13.trans t4
    have w4 := w.to t14
    obtain ⟨b', eb', h6⟩ := h5.bind.pk
    obtain ⟨c, ec, h7⟩ := h6.bind.pk
    obtain ⟨y2, ey, h8⟩ := h7.lft
    have r2a := VR.since t1 r2
    have r2b := r2a.on w t12 t3
    have r2c := r2b.on w t13 t4
    refine o2 F4 H4 u u2 b' c y2 w4.sb (r2c.rb w4 eb') (r4.rb w4 ec) ey Q fun F5 H5 u5 s5 r5 => ?_
    have t5 := w4.step s5 fun _ z => nomatch z
    exact h8 F5 H5 u5 (t14.trans t5) (VR.since t14 r5.vr)
  by_cases h0b : f a b = some (.fz (.bl false))
  · have hf := h0b
    simp only [hf] at h4
    refine o1 F2 H2 v u a b _ w2.sb (r1'.rb w2 ea) (r2.rb w2 eb) hf _ fun F3 H3 z s3 r3 => ?_
    have e3 : z = .bl false := r3
    refine ⟨false, e3, ?_⟩
    rw [if_neg Bool.false_ne_true]
    have t3 := w2.step s3 fun _ z => nomatch z
    exact h4 F3 H3 _ (t12.trans t3) rfl
  · refine (other ?_ h4).elim
    split
    · rename_i q; exact absurd q h1b
    · rename_i q; exact absurd q h0b
    · rfl
/-! ### displays of dicts -/
def dPrs : List (D × M Vl) → M (List (D × Vl))
  | [] => ret []
  | (k, m) :: r => mB m fun x => mB (dPrs r) fun xs => ret ((k, x) :: xs)
def frzP : List (D × Vl) → M (List (D × D))
  | [] => ret []
  | (k, x) :: r => mB (frz x) fun d => mB (frzP r) fun ds => ret ((k, d) :: ds)
end
end L3
end S_Lw
section S_Lx
set_option maxHeartbeats 0
namespace L3
open PySem PySem.Spec PyProof.Rows L2
/-! ### a dict written -/
def tAs : List TE → TA
  | [] => tNil
  | t :: r => tCons t (tAs r)
def trsOf : List Key → List TE → List (TE × TE)
  | k :: ks, t :: ts => (tC (kV k), t) :: trsOf ks ts
  | _, _ => []
def zipV : List Key → List V → List (V × V)
  | k :: ks, v :: vs => (kV k, v) :: zipV ks vs
  | _, _ => []
theorem pairs_eq : ∀ (ks : List Key) (ts : List TE), ks.length = ts.length → tPairs (trsOf ks ts) = fun σ H Q => tAs ts σ H fun vs H' => Q (zipV ks vs) H'
  | [], [], _ => rfl
  | k :: ks, t :: ts, h => by
    funext σ H Q
    have ih := pairs_eq ks ts (by simpa using h)
    show (t σ H fun y H2 => tPairs (trsOf ks ts) σ H2 fun ps H3 => Q ((kV k, y) :: ps) H3) = _
    rw [ih]
    rfl
  | [], _ :: _, h => by simp at h
  | _ :: _, [], h => by simp at h
def dDisp (ks : List Key) (n : M (List Vl)) : M Vl := mB n fun xs => mB (frzs xs) fun ds => if ds.length = ks.length ∧ ks.length ≤ 15 then ret (.ow (.dic (mergeD [] (ks.zip ds)))) else fun _ => .stk
section
variable {K : Fg} {σ : L2.St} {env env' env2 : En} {F H F' H' F2 H2 H0 H1 : Hp} {v : V} {cls : Ex → Addr} {W : WX}
theorem zip_rep : ∀ {ks : List Key} {ds : List D} {vs : List V}, Reps K F ds vs → ds.length = ks.length → zipV ks vs = (ks.zip vs).map (fun kv => (kV kv.1, kv.2)) ∧ RepK K F (ks.zip ds) (ks.zip vs)
  | [], [], vs, h, _ => by rw [show vs = [] from h]; exact ⟨rfl, rfl⟩
  | k :: ks, d :: ds, vs, ⟨v, r, e, h1, h2⟩, hl => by
    subst e
    obtain ⟨h3, h4⟩ := zip_rep (ks := ks) h2 (by simpa using hl)
    exact ⟨by show (kV k, v) :: zipV ks r = _; rw [h3]; rfl, v, _, rfl, h1, h4⟩
  | [], _ :: _, _, _, h => by simp at h
  | _ :: _, [], _, _, h => by simp at h
theorem snd_disp {ks : List Key} {ts : List TE} (hl : ks.length = ts.length) {n : M (List Vl)} (ha : SndA K cls W (tAs ts) n) : Snd K cls W (tDisp (trsOf ks ts)) (dDisp ks n) := by
  intro σ env F H Q w h p hp
  rw [pairs_eq ks ts hl]
  have st : Stp ([] : List Addr) F H F (upd H p (.dK [])) := Stp.new w.sb hp
  have t0 := w.step st fun _ z => nomatch z
  have w0 := w.to t0
  refine ha σ env F _ _ w0 (h.bind.imp (fun xs env1 h1 F1 H1 vs t1 r1 nd => ?_) fun c env1 h1 F' H' t1 => h1 F' H' (t0.trans t1))
  obtain ⟨ds, env2, F2, h2, rs, t2, _⟩ := To.frzs w0 t1 r1 nd h1.bind
  have np : p ∉ ownA σ env := fun z => by
    obtain ⟨_, o, q⟩ := w.own z
    rw [hp] at q; cases q
  have hp2 : H1 p = some (.dK []) := t2.st.kp p _ upd_same np
  have fp2 : F2 p = none := by
    cases q : F2 p with
    | none => rfl
    | some u =>
      rcases t2.st.nw p u q with ⟨_, z⟩ | z | z
      · rw [w.sb.none hp] at z; cases z
      · rw [upd_same] at z; cases z
      · exact (np z).elim
  by_cases hz : ds.length = ks.length ∧ ks.length ≤ 15
  · rw [if_pos hz] at h2
    obtain ⟨e1, rk⟩ := zip_rep rs hz.1
    refine ⟨hp2, ks.zip vs, e1, by rw [List.length_zip]; omega, ?_⟩
    have w2 := w0.to t2
    have t02 := t0.trans t2
    have t3 : To K σ env F H env2 F2 (upd H1 p (.dK (mergeK [] (ks.zip vs)))) := by
      have sm : Stp [p] F2 H1 F2 (upd H1 p (.dK (mergeK [] (ks.zip vs)))) := Stp.mut w2.sb fp2 (by simp)
      refine ⟨t02.st.trans sm fun a ha => .inr ?_, w2.er.keep sm fun a ha z => ?_, t02.le⟩
      · have : a = p := by simpa using ha
        rw [this]; exact hp
      · have : a = p := by simpa using z
        rw [this] at ha
        exact np (t2.le.mem ha)
    exact h2 F2 _ _ t3 ⟨p, rfl, fp2, ⟨_, upd_same, RepK.merge (ks := []) (kvs := []) rk rfl (by simp)⟩, hp⟩
  · rw [if_neg hz] at h2; exact h2.elim
end
/-! ### list(d.keys()), list(d.values()), list(d.items()) -/
def rKeysG : V → Hp → VK → Prop := fun x H Q => ∃ (d : Addr) (kvs : List (Key × V)), x = .ref d ∧ Rd H d (.dK kvs) ∧ ∀ p, H p = none → Q (.ref p) (upd H p (.lst (kvs.map fun kv => kV kv.1)))
def rValsG : V → Hp → VK → Prop := fun x H Q => ∃ (d : Addr) (kvs : List (Key × V)), x = .ref d ∧ Rd H d (.dK kvs) ∧ ∀ p, H p = none → Q (.ref p) (upd H p (.lst (kvs.map fun kv => kv.2)))
def PairsAt (H' : Hp) (ts : List Addr) (kvs : List (V × V)) : Prop := Paired (fun (t : Addr) (q : V × V) => H' t = some (.tup [q.1, q.2])) ts kvs
/-- a new list of new pairs -/
def newPairs (H : Hp) (kvs : List (V × V)) (Q : VK) : Prop := ∀ (H' : Hp) (p : Addr) (ts : List Addr), (∀ b o, H b = some o → H' b = some o) → H p = none → (∀ t ∈ ts, H t = none) → p ∉ ts → H' p = some (.lst (ts.map V.ref)) → PairsAt H' ts kvs → Q (.ref p) H'
def rItemsG : V → Hp → VK → Prop := fun x H Q => ∃ (d : Addr) (kvs : List (Key × V)), x = .ref d ∧ Rd H d (.dK kvs) ∧ newPairs H (kvs.map fun kv => (kV kv.1, kv.2)) Q
abbrev tK1 (r : V → Hp → VK → Prop) (te : TE) : TE := fun σ H Q => te σ H fun x H1 => r x H1 Q
section
variable {X : Cx} {e : Expr} {te : TE} {p apos cpos pos : Pos}
theorem pe_listKeys (hc : X.calm = true) (he : PE X e te) (hg : Gl X "list") (hm : X.mg "list" = none) (hbase : attributeBase e "keys" X.env (eval e X.env) = eval e X.env := by rfl) (hline : (apos.endLine == cpos.line) = true := by rfl)
    (hs : starEach [.Call (.Attribute e "keys" apos) [] [] cpos] X.env = (false, eval (.Call (.Attribute e "keys" apos) [] [] cpos) X.env) :: starEach [] X.env := by rfl) :
    PE X (.Call (.Name "list" p) [.Call (.Attribute e "keys" apos) [] [] cpos] [] pos) (tK1 rKeysG te) := by
  refine ⟨fun pins s σ H Q I hq => ?_⟩
  refine wpAny_Call_Name_kw (ld_blt I hg hm boot_list ?_)
  refine PyProof.Rows.callWith_type1 ?_ hs rfl
  rw [hs]
  show wpAny _ _ (spliced ((false, eval (.Call (.Attribute e "keys" apos) [] [] cpos) X.env) :: backTo pos (starEach [] X.env))) _ _ s
  refine Calls.spliced_cons ?_
  refine wpAny_Call_method (T := "dict") (id := "dict.keys") hbase rfl hline F.plainAttrs_dict F.slot_dict_keys F.type_dict_keys (thn (he.run pins s σ H _ I hq) fun u s1 ⟨x, H1, I1, rx, d, kvs, ex, hd, q⟩ => ?_)
  subst ex
  obtain rfl : u = Value.ref d := rx
  obtain ⟨hz, hs0, vs, rel, hdo⟩ := dk_rd I1.hok hd
  obtain ⟨ep, hat⟩ := hdo.dictAt
  have lk : kvs.length = vs.length := Paired.length rel
  have I2 : Inv X pins σ H1 { s1 with heap := s1.heap.push { cls := .type "dict_keys", data := .fields #[.ref d] } } := I1.kept (t' := s1.toks) fun b ob q => Heap.get?_push_of_some _ q
  refine ⟨hdo.typeIs, hdo.mapOf.noDict, ?_⟩
  show wpAny _ _ (callWith cpos (.builtin "dict.keys") [.ref d] [] []) _ X.xe s1
  refine method_meetsIn F.slot_dict_keys F.entry_dict_keys rfl (PySem.evalArgs_none ⟨rfl, hdo.typeIs, F.args_dict_keys_1 _, _, PySem.W.kdl_meets_keys (mixKind X.prog X.w) d hs0, ⟨vs, hdo⟩, ?_⟩)
  refine Calls.spliced_nil ?_
  have ek : (kvs.map fun kv => kV kv.1) = vs.map fun p => kV p.1 := by
    have e := congrArg (List.map kV) rel.keys
    rw [List.map_map, List.map_map] at e
    exact e
  refine PySem.W.kdl_call (PySem.W.kdl_keys (knd := mixKind X.prog X.w) (kvs := vs) (ep := ep)) (I1.ok.hd hc) ⟨⟨_, Heap.get?_push_size _ rfl, rfl, rfl⟩, hat.push _⟩ (by omega) fun h' tk acc c' hk hD hacc => ?_
  have hv : Vals (vs.map fun p => kV p.1) acc.toList := L2.keys_at (by rw [Array.length_toList]; exact hacc.1) fun j v e => hacc.2 j v (by rw [← Array.getElem?_toList]; exact e)
  exact ⟨.ref _, upd H1 _ (.lst (kvs.map fun kv => kV kv.1)), I2.laid (t' := tk) hk (Nat.le_refl _)
    (show ObjOk X.prog X.w _ _ _ (.lst (kvs.map fun kv => kV kv.1)) from ⟨by rw [List.length_map]; exact hz, acc.toList, c', by rw [ek]; exact hv, by rw [Array.toArray_toList]; exact hD⟩), rfl, q _ (I2.hok.fresh (Nat.le_refl _))⟩
theorem pe_listValues (hc : X.calm = true) (he : PE X e te) (hg : Gl X "list") (hm : X.mg "list" = none) (hbase : attributeBase e "values" X.env (eval e X.env) = eval e X.env := by rfl) (hline : (apos.endLine == cpos.line) = true := by rfl)
    (hs : starEach [.Call (.Attribute e "values" apos) [] [] cpos] X.env = (false, eval (.Call (.Attribute e "values" apos) [] [] cpos) X.env) :: starEach [] X.env := by rfl) :
    PE X (.Call (.Name "list" p) [.Call (.Attribute e "values" apos) [] [] cpos] [] pos) (tK1 rValsG te) := by
  refine ⟨fun pins s σ H Q I hq => ?_⟩
  refine wpAny_Call_Name_kw (ld_blt I hg hm boot_list ?_)
  refine PyProof.Rows.callWith_type1 ?_ hs rfl
  rw [hs]
  show wpAny _ _ (spliced ((false, eval (.Call (.Attribute e "values" apos) [] [] cpos) X.env) :: backTo pos (starEach [] X.env))) _ _ s
  refine Calls.spliced_cons ?_
  refine wpAny_Call_method (T := "dict") (id := "dict.values") hbase rfl hline F.plainAttrs_dict F.slot_dict_values F.type_dict_values (thn (he.run pins s σ H _ I hq) fun u s1 ⟨x, H1, I1, rx, d, kvs, ex, hd, q⟩ => ?_)
  subst ex
  obtain rfl : u = Value.ref d := rx
  obtain ⟨hz, hs0, vs, rel, hdo⟩ := dk_rd I1.hok hd
  obtain ⟨ep, hat⟩ := hdo.dictAt
  have lk : kvs.length = vs.length := Paired.length rel
  have I2 : Inv X pins σ H1 { s1 with heap := s1.heap.push { cls := .type "dict_values", data := .fields #[.ref d] } } := I1.kept (t' := s1.toks) fun b ob q => Heap.get?_push_of_some _ q
  refine ⟨hdo.typeIs, hdo.mapOf.noDict, ?_⟩
  show wpAny _ _ (callWith cpos (.builtin "dict.values") [.ref d] [] []) _ X.xe s1
  refine method_meetsIn F.slot_dict_values F.entry_dict_values rfl (PySem.evalArgs_none ⟨rfl, hdo.typeIs, F.args_dict_values_1 _, _, meets_dict_values (mixKind X.prog X.w) d hs0, ⟨vs, hdo⟩, ?_⟩)
  refine Calls.spliced_nil ?_
  refine PySem.W.kdl_call (PySem.W.kdl_values (knd := mixKind X.prog X.w) (kvs := vs) (ep := ep)) (I1.ok.hd hc) ⟨⟨_, Heap.get?_push_size _ rfl, rfl, rfl⟩, hat.push _⟩ (by omega) fun h' tk acc c' hk hD hacc => ?_
  have hv : Vals (kvs.map fun kv => kv.2) acc.toList := by
    refine vals_of_idx _ _ (by rw [List.length_map, Array.length_toList, hacc.1]; exact lk.symm) fun j u hj => ?_
    obtain ⟨k, hk⟩ := hacc.2 j u (by rw [← Array.getElem?_toList]; exact hj)
    have hjl : j < kvs.length := by rw [lk]; exact (List.getElem?_eq_some_iff.mp hk).1
    obtain ⟨y, hy, ry⟩ := paired_get rel (List.getElem?_eq_getElem hjl)
    rw [hk] at hy; cases hy
    exact ⟨kvs[j].2, by rw [List.getElem?_map, List.getElem?_eq_getElem hjl]; rfl, ry.2⟩
  exact ⟨.ref _, upd H1 _ (.lst (kvs.map fun kv => kv.2)), I2.laid (t' := tk) hk (Nat.le_refl _)
    (show ObjOk X.prog X.w _ _ _ (.lst (kvs.map fun kv => kv.2)) from ⟨by rw [List.length_map]; exact hz, acc.toList, c', hv, by rw [Array.toArray_toList]; exact hD⟩), rfl, q _ (I2.hok.fresh (Nat.le_refl _))⟩
theorem pairsAt_map {H' : Hp} : ∀ {ts : List Addr} {kvs : List (Key × V)}, Paired (fun (t : Addr) (q : Key × V) => H' t = some (.tup [kV q.1, q.2])) ts kvs → PairsAt H' ts (kvs.map fun kv => (kV kv.1, kv.2))
  | _, _, .nil => .nil
  | _, _, .cons h t => .cons h (pairsAt_map t)
theorem pe_listItemsG (hc : X.calm = true) (he : PE X e te) (hg : Gl X "list") (hm : X.mg "list" = none) (hbase : attributeBase e "items" X.env (eval e X.env) = eval e X.env := by rfl) (hline : (apos.endLine == cpos.line) = true := by rfl)
    (hs : starEach [.Call (.Attribute e "items" apos) [] [] cpos] X.env = (false, eval (.Call (.Attribute e "items" apos) [] [] cpos) X.env) :: starEach [] X.env := by rfl) :
    PE X (.Call (.Name "list" p) [.Call (.Attribute e "items" apos) [] [] cpos] [] pos) (tK1 rItemsG te) := by
  refine ⟨fun pins s σ H Q I hq => ?_⟩
  refine wpAny_Call_Name_kw (ld_blt I hg hm boot_list ?_)
  refine PyProof.Rows.callWith_type1 ?_ hs rfl
  rw [hs]
  show wpAny _ _ (spliced ((false, eval (.Call (.Attribute e "items" apos) [] [] cpos) X.env) :: backTo pos (starEach [] X.env))) _ _ s
  refine Calls.spliced_cons ?_
  refine wpAny_Call_method (T := "dict") (id := "dict.items") hbase rfl hline F.plainAttrs_dict F.slot_dict_items F.type_dict_items (thn (he.run pins s σ H _ I hq) fun u s1 ⟨x, H1, I1, rx, d, kvs, ex, hd, q⟩ => ?_)
  subst ex
  obtain rfl : u = Value.ref d := rx
  obtain ⟨hz, hs0, vs, kv, hdo⟩ := dk_rd I1.hok hd
  obtain ⟨ep, hat⟩ := hdo.dictAt
  have lk : kvs.length = vs.length := Paired.length kv
  have I2 : Inv X pins σ H1 { s1 with heap := s1.heap.push { cls := .type "dict_items", data := .fields #[.ref d] } } := I1.kept (t' := s1.toks) fun b ob q => Heap.get?_push_of_some _ q
  refine ⟨hdo.typeIs, hdo.mapOf.noDict, ?_⟩
  show wpAny _ _ (callWith cpos (.builtin "dict.items") [.ref d] [] []) _ X.xe s1
  refine method_meetsIn F.slot_dict_items F.entry_dict_items rfl (PySem.evalArgs_none ⟨rfl, hdo.typeIs, F.args_dict_items_1 _, _, meets_dict_items (mixKind X.prog X.w) d hs0, ⟨vs, hdo⟩, ?_⟩)
  refine Calls.spliced_nil ?_
  refine PySem.W.kdx_call (knd := mixKind X.prog X.w) (kvs := vs) (ep := ep) (I1.ok.hd hc) ⟨_, Heap.get?_push_size _ rfl, rfl, rfl⟩ (hat.push _) (by omega) fun h' tk acc c as hk hS hl hG hacc => ?_
  obtain ⟨H', k1, k2, k3, k4, k5, k6, J⟩ := LiI.items_laid (tk := tk) I2 hz kv hk hS hl hG hacc
  exact ⟨.ref _, H', J, rfl, q H' _ as k1 k2 k3 k4 k5 (pairsAt_map k6)⟩
end
section
variable {K : Fg} {σ : L2.St} {env env' env2 : En} {F H F' H' F2 H2 H0 H1 : Hp} {v : V} {cls : Ex → Addr} {W : WX}
def kKeys : D → Option Vl
  | .dic ks => some (.ow (.lst (ks.map fun p => kD p.1)))
  | _ => none
def kVals : D → Option Vl
  | .dic ks => some (.ow (.lst (ks.map fun p => p.2)))
  | _ => none
def kItems : D → Option Vl
  | .dic ks => some (.ow (.lst (ks.map fun p => .tup [kD p.1, p.2])))
  | _ => none
theorem ud_keys : UnD K rKeysG kKeys := by
  intro F H v d x sb h1 h Q q
  cases d with
  | dic ks =>
    cases h
    obtain ⟨p, kvs, e1, hp, rs⟩ := h1
    exact ⟨p, kvs, e1, hp, fun r hr => q F _ _ (Stp.new sb hr) (own_new sb hr ⟨_, upd_same, rs.keysR⟩)⟩
  | _ => cases h
theorem RepK.valsR : ∀ {ks : List (Key × D)} {kvs : List (Key × V)}, RepK K F ks kvs → Reps K F (ks.map fun p => p.2) (kvs.map fun p => p.2)
  | [], _, h => by rw [show _ = [] from h]; rfl
  | (k, d) :: ds, _, ⟨v, r, e, r1, h⟩ => by subst e; exact ⟨_, _, rfl, r1, RepK.valsR h⟩
theorem ud_vals : UnD K rValsG kVals := by
  intro F H v d x sb h1 h Q q
  cases d with
  | dic ks =>
    cases h
    obtain ⟨p, kvs, e1, hp, rs⟩ := h1
    exact ⟨p, kvs, e1, hp, fun r hr => q F _ _ (Stp.new sb hr) (own_new sb hr ⟨_, upd_same, rs.valsR⟩)⟩
  | _ => cases h
theorem pairs_reps (g : Gr F F') : ∀ {ts : List Addr} {prs : List (V × V)} {ds : List (D × D)}, Paired (fun (t : Addr) (q : V × V) => F' t = some (.tup [q.1, q.2])) ts prs → Paired (fun (d : D × D) (q : V × V) => Rep K F d.1 q.1 ∧ Rep K F d.2 q.2) ds prs → Reps K F' (ds.map fun d => .tup [d.1, d.2]) (ts.map V.ref)
  | [], _, _, .nil, .nil => rfl
  | _ :: _, _, [], h, k => by cases h; cases k
  | t :: ts, _, d :: ds, .cons h1 h2, .cons h3 h4 => ⟨.ref t, ts.map V.ref, rfl, ⟨t, _, rfl, h1, _, _, rfl, Rep.mono g _ h3.1, _, _, rfl, Rep.mono g _ h3.2, rfl⟩, pairs_reps g h2 h4⟩
theorem paired_mem {α β : Type} {P : α → β → Prop} : ∀ {xs : List α} {ys : List β}, Paired P xs ys → ∀ {x : α}, x ∈ xs → ∃ y, P x y
  | _, _, .cons h t, x, hx => by
    rcases List.mem_cons.mp hx with e | hx
    · rw [e]; exact ⟨_, h⟩
    · exact paired_mem t hx
theorem paired_imp {α β : Type} {P P' : α → β → Prop} : ∀ {xs : List α} {ys : List β}, Paired P xs ys → (∀ x ∈ xs, ∀ y, P x y → P' x y) → Paired P' xs ys
  | _, _, .nil, _ => .nil
  | _, _, .cons h t, f => .cons (f _ List.mem_cons_self _ h) (paired_imp t fun x hx => f x (List.mem_cons_of_mem _ hx))
/-- a new list of new pairs, as data -/
theorem newPairs_of (sb : Sub F H) {prs : List (V × V)} {ds : List (D × D)} (hr : Paired (fun (d : D × D) (q : V × V) => Rep K F d.1 q.1 ∧ Rep K F d.2 q.2) ds prs) {Q : VK} (q : ∀ F' H' u, Stp [] F H F' H' → VR0 K F' H' H u (.ow (.lst (ds.map fun d => .tup [d.1, d.2]))) → Q u H') : newPairs H prs Q := by
  intro H' p ts hk hp hts hpt hH hpr
  have hFt : ∀ t ∈ ts, F t = none := fun t ht => sb.none (hts t ht)
  have g : Gr F (fun a => if a ∈ ts then H' a else F a) := fun a u e => by
    show (if a ∈ ts then H' a else F a) = some u
    rw [if_neg fun z => by rw [hFt a z] at e; cases e]; exact e
  refine q (fun a => if a ∈ ts then H' a else F a) H' (.ref p) ⟨g, fun a u e => ?_, fun a u e _ => hk a u e, fun a u e => ⟨u, hk a u e⟩, fun a u e => ?_⟩ ⟨p, rfl, ?_, ⟨ts.map V.ref, hH, ?_⟩, hp⟩
  · by_cases ha : a ∈ ts
    · simp only [if_pos ha] at e; exact .inl e
    · simp only [if_neg ha] at e
      rcases sb a u e with z | ⟨z1, o, z2⟩
      · exact .inl (hk a u z)
      · exact .inr ⟨z1, o, hk a _ z2⟩
  · by_cases ha : a ∈ ts
    · exact .inr (.inl (hts a ha))
    · simp only [if_neg ha] at e; exact .inl ⟨u, e⟩
  · show (if p ∈ ts then H' p else F p) = none
    rw [if_neg hpt]; exact sb.none hp
  · refine pairs_reps g (paired_imp hpr fun t ht y e => ?_) hr
    show (if t ∈ ts then H' t else F t) = _
    rw [if_pos ht]; exact e
theorem items_paired : ∀ {ks : List (Key × D)} {kvs : List (Key × V)}, RepK K F ks kvs → Paired (fun (d : D × D) (q : V × V) => Rep K F d.1 q.1 ∧ Rep K F d.2 q.2) (ks.map fun p => (kD p.1, p.2)) (kvs.map fun kv => (kV kv.1, kv.2))
  | [], _, h => by rw [show _ = [] from h]; exact .nil
  | (k, d) :: ds, _, ⟨v, r, e, r1, h⟩ => by subst e; exact .cons ⟨rep_k k, r1⟩ (items_paired h)
theorem ud_items : UnD K rItemsG kItems := by
  intro F H v d x sb h1 h Q q
  cases d with
  | dic ks =>
    cases h
    obtain ⟨p, kvs, e1, hp, rs⟩ := h1
    refine ⟨p, kvs, e1, hp, newPairs_of sb (items_paired rs) fun F' H' u s r => q F' H' u s ?_⟩
    rw [List.map_map] at r
    exact r
  | _ => cases h
end
end L3
end S_Lx
section S_Ly
set_option maxHeartbeats 0
/-! # list(enumerate(a list)) -/
namespace EnL
open PySem PySem.Spec PyProof.Rows PySem.Calls L2
section
variable {prog : Program} {w : World} {A : Around} {E : Value → Shared → Prop} {s : Shared}
/-- the enumerate at e over the list at l, ahead of its turn i, its last pair still held -/
def EnSt (h : Heap) (e it l S : Addr) (i : Nat) : Prop := h.IsListIter it l i ∧ ((∃ old, IsEnum h e it i old) ∨ ∃ old T f oT, IsEnumHeld h e it i old T f ∧ h.get? T = some oT ∧ T ≠ e ∧ T ≠ it ∧ T ≠ S)
theorem EnSt.keep {h h' : Heap} {e it l S : Addr} {i : Nat} (x : EnSt h e it l S i) (hk : ∀ b o, b ≠ S → h.get? b = some o → h'.get? b = some o) (h1 : e ≠ S) (h2 : it ≠ S) : EnSt h' e it l S i := by
  obtain ⟨hi, x⟩ := x
  refine ⟨hi.at fun o z => hk it o h2 z, ?_⟩
  rcases x with ⟨old, he⟩ | ⟨old, T, f, oT, he, hT, n1, n2, n3⟩
  · exact .inl ⟨old, hk e _ h1 he⟩
  · exact .inr ⟨old, T, f, oT, hk e _ h1 he, hk T _ n3 hT, n1, n2, n3⟩
theorem en_item {e it l S : Addr} {i : Nat} {items : Array Value} {x : Value} {Q : Option Value → Shared → Prop} (hst : EnSt s.heap e it l S i) (hS : S < s.heap.objs.size) (he : e < s.heap.objs.size) (hit : it < s.heap.objs.size) (hl : s.heap.IsList l items) (hx : items[i]? = some x) (hne : e ≠ it)
    (hQ : ∀ h', EnSt h' e it l S (i + 1) → h'.get? s.heap.objs.size = some { cls := .type "tuple", data := .seq #[.int i s.toks, x] } → h'.objs.size = s.heap.objs.size + 1 →
      (∀ b o, b ≠ e → b ≠ it → s.heap.get? b = some o → h'.get? b = some o) → Q (some (.ref s.heap.objs.size)) { s with heap := h', toks := s.toks + 1 }) :
    wpAny (model prog w) A (pyNext (.ref e)) Q E s := by
  have e1 : ((i + 1 : Nat) : Int) = (i : Int) + 1 := by omega
  obtain ⟨hi, hst⟩ := hst
  rcases hst with ⟨old, hen⟩ | ⟨old, T, f, oT, hen, hT, n1, n2, n3⟩
  · refine wpAny_pyNext_enum_item hen hi hl hx hne fun h' ho hit' hT hsz hk => hQ h' ⟨hit', .inr ⟨x, s.heap.objs.size, false, _, by rw [e1]; exact ho, hT, Nat.ne_of_gt he, Nat.ne_of_gt hit, Nat.ne_of_gt hS⟩⟩ hT hsz hk
  · refine wpAny_pyNext_enum_item_held hen hT n1 n2 hi hl hx hne fun h' ho hit' hT' hsz hk => hQ h' ⟨hit', .inr ⟨old, T, true, oT, by rw [e1]; exact ho, hk T _ n1 n2 hT, n1, n2, n3⟩⟩ hT' hsz hk
theorem en_done {e it l S : Addr} {i : Nat} {items : Array Value} {Q : Option Value → Shared → Prop} (hh : A.handled = none) (hst : EnSt s.heap e it l S i) (hl : s.heap.IsList l items) (hx : items[i]? = none)
    (hQ : ∀ h', Heap.ExtBut it s.heap h' → Q none { s with heap := h' }) : wpAny (model prog w) A (pyNext (.ref e)) Q E s := by
  obtain ⟨hi, hst⟩ := hst
  rcases hst with ⟨old, hen⟩ | ⟨old, T, f, oT, hen, hT, n1, n2, n3⟩
  · exact wpAny_pyNext_enum_end hh hen hi hl hx hQ
  · exact wpAny_pyNext_enum_end_held hh hen hi hl hx hQ
/-- the pairs made -/
structure EnG (vs : List Value) (lo : Addr) (h : Heap) (as : List Addr) : Prop where
  rise : as.Pairwise (· < ·)
  above : ∀ a ∈ as, lo < a
  pairs : ∀ (j : Nat) (a : Addr), as[j]? = some a → ∃ t x, vs[j]? = some x ∧ h.get? a = some { cls := .type "tuple", data := .seq #[.int (j : Int) t, x] }
theorem EnG.there {vs : List Value} {lo : Addr} {h : Heap} {as : List Addr} (g : EnG vs lo h as) {a : Addr} (ha : a ∈ as) : a < h.objs.size := by
  obtain ⟨j, hj⟩ := List.mem_iff_getElem?.mp ha
  obtain ⟨_, _, _, e⟩ := g.pairs j a hj
  exact Heap.lt_size e
end
section
variable {prog : Program} {w : World} {A : Around} {s : Shared} {R : Result → Shared → Prop} {vs : List Value}
theorem en_loop {S e it l : Addr} (hh : A.handled = none) (hne : e ≠ it) (hSe : S ≠ e) (hSi : S ≠ it) (hSl : l ≠ S) (hel : l ≠ e) (hil : l ≠ it) (M : Addr) (hM1 : e ≤ M) (hM2 : it ≤ M) (hM3 : S ≤ M) (hn : vs.length ≤ sizeLine) (res : Value) {h₁ : Heap}
    (hR : ∀ h' tk acc c as, (∀ b o, b ≠ S → b ≠ e → b ≠ it → h₁.get? b = some o → h'.get? b = some o) → h'.get? S = some { cls := .type "list", dict := none, data := .seq acc c, slots := #[] } → as.length = vs.length → EnG vs M h' as →
      acc.toList = as.map Value.ref → R (.ok (.ret res)) { s with heap := h', toks := tk }) :
    ∀ (k i : Nat) (h : Heap) (tk c : Nat) (acc : Array Value) (as : List Addr), vs.length - i = k → i ≤ vs.length → EnSt h e it l S i → h.IsList l vs.toArray → (∀ b o, b ≠ S → b ≠ e → b ≠ it → h₁.get? b = some o → h.get? b = some o) →
      h.get? S = some { cls := .type "list", dict := none, data := .seq acc c, slots := #[] } → acc.toList = as.map Value.ref → as.length = i → EnG vs M h as → M < h.objs.size →
      codeAny (model prog w) A (.builtin "list.extend.loop" ⟨[.ref S, .ref e, res], []⟩) R { s with heap := h, toks := tk } := by
  intro k
  induction k with
  | zero =>
    intro i h tk c acc as hk hi hst hL hkeep hS hacc hal hG hMs
    have hin : i = vs.length := by omega
    refine codeAny_builtin PySem.F.entry_extend_loop ?_
    rw [Around.under_plainId PySem.F.plain_extend_loop _]
    show wpAny _ A.in1 (pyNext (.ref e) >>= _) _ _ _
    refine wpAny_bind (en_done (s := { s with heap := h, toks := tk }) (A := A.in1) hh hst hL (by simp; omega) fun h' he => ?_)
    refine wpAny_pure (hR h' tk acc c as (fun b o h1 h2 h3 e => he b o h3 (hkeep b o h1 h2 h3 e)) (he S _ hSi hS) (by omega) ⟨hG.rise, hG.above, fun j a hj => ?_⟩ hacc)
    obtain ⟨t, x, e1, e3⟩ := hG.pairs j a hj
    have ha := hG.above a (List.mem_of_getElem? hj)
    exact ⟨t, x, e1, he a _ (Nat.ne_of_gt (Nat.lt_of_le_of_lt hM2 ha)) e3⟩
  | succ k ih =>
    intro i h tk c acc as hk hi hst hL hkeep hS hacc hal hG hMs
    have hlt : i < vs.length := by omega
    obtain ⟨x, hx⟩ : ∃ p, vs[i]? = some p := ⟨vs[i], List.getElem?_eq_getElem hlt⟩
    have hsz : acc.size = i := by rw [← Array.length_toList, hacc, List.length_map, hal]
    refine codeAny_builtin PySem.F.entry_extend_loop ?_
    rw [Around.under_plainId PySem.F.plain_extend_loop _]
    show wpAny _ A.in1 (pyNext (.ref e) >>= _) _ _ _
    refine wpAny_bind (en_item (s := { s with heap := h, toks := tk }) (S := S) hst (Heap.lt_size hS) (Nat.lt_of_le_of_lt hM1 hMs) (Nat.lt_of_le_of_lt hM2 hMs) hL (x := x) (by simpa using hx) hne fun h' hst' ht hz hkp => ?_)
    dsimp only at ht hz hkp ⊢
    have hS' := hkp S _ hSe hSi hS
    have up : ∀ b o, b ≠ S → h'.get? b = some o → (h'.update S (Obj.mapSeq (·.push (Value.ref h.objs.size)))).get? b = some o := fun b o hb e => (Heap.get?_update_other _ _ (Ne.symm hb)).trans e
    have hSl' : S < h.objs.size := Heap.lt_size hS
    show wpAny _ A.in1 (updateSeq S (·.push (Value.ref h.objs.size)) >>= _) _ _ _
    refine wpAny_bind ?_
    refine wpAny_updateSeq hS' rfl (wpAny_pure ⟨plainId_quiet PySem.F.plain_extend_loop _, ih (i + 1) _ (tk + 1) _ (acc.push (Value.ref h.objs.size)) (as ++ [h.objs.size]) (by omega) hlt (hst'.keep up (Ne.symm hSe) (Ne.symm hSi)) (hL.at fun o e => up l o hSl (hkp l o hel hil e))
      (fun b o h1 h2 h3 e => up b o h1 (hkp b o h2 h3 (hkeep b o h1 h2 h3 e))) (Heap.get?_update_self _ hS' rfl) (by rw [Array.toList_push, hacc, List.map_append]; rfl) (by rw [List.length_append, hal]; rfl) ⟨?_, ?_, ?_⟩ ?_⟩) (by rw [hsz]; omega) (by show (acc.push (Value.ref h.objs.size)).size ≤ sizeLine + 1; rw [Array.size_push, hsz]; omega)
    · refine List.pairwise_append.mpr ⟨hG.rise, List.pairwise_singleton _ _, fun a ha b hb => ?_⟩
      rw [List.mem_singleton.mp hb]
      exact hG.there ha
    · intro a ha
      rcases List.mem_append.mp ha with ha | ha
      · exact hG.above a ha
      · rw [List.mem_singleton.mp ha]; exact hMs
    · intro j b hj
      rcases Nat.lt_trichotomy j as.length with h1 | h1 | h1
      · rw [List.getElem?_append_left h1] at hj
        obtain ⟨t', x', e1, e3⟩ := hG.pairs j b hj
        have hb := hG.above b (List.mem_of_getElem? hj)
        exact ⟨t', x', e1, up b _ (Nat.ne_of_gt (Nat.lt_of_le_of_lt hM3 hb)) (hkp b _ (Nat.ne_of_gt (Nat.lt_of_le_of_lt hM1 hb)) (Nat.ne_of_gt (Nat.lt_of_le_of_lt hM2 hb)) e3)⟩
      · subst h1
        have hb : h.objs.size = b := by simpa using hj
        subst hb
        exact ⟨tk, x, by rw [hal]; exact hx, by rw [hal]; exact up _ _ (Nat.ne_of_gt hSl') ht⟩
      · have hnone : (as ++ [h.objs.size])[j]? = none := List.getElem?_eq_none (by rw [List.length_append, List.length_singleton]; omega)
        rw [hnone] at hj; cases hj
    · have e : (h'.update S (Obj.mapSeq (·.push (Value.ref h.objs.size)))).get? h.objs.size = _ := up _ _ (Nat.ne_of_gt hSl') ht
      exact Nat.lt_trans hMs (Heap.lt_size e)
end
theorem en_no_len : typeLookup (.type "enumerate") "__len__" = pure none := am_miss_of_fast (by decide +kernel)
theorem en_no_hint : typeLookup (.type "enumerate") "__length_hint__" = pure none := am_miss_of_fast (by decide +kernel)
section
variable {prog : Program} {w : World} {A : Around} {E : Value → Shared → Prop} {s : Shared} {vs : List Value} {e it l : Addr}
theorem en_type {s : Shared} {i : Int} {old : Value} (he : IsEnum s.heap e it i old) : s.TypeIs (.ref e) "enumerate" := ⟨_, he, rfl⟩
theorem en_hint {Q : Bool → Shared → Prop} (hT : s.TypeIs (.ref e) "enumerate") (h : Q true s) : wpAny (model prog w) A (Builtin.List.listLengthHint (.ref e)) Q E s := by
  unfold Builtin.List.listLengthHint
  refine wpAny_bind (wpAny_specialOf hT en_no_len ?_)
  show wpAny _ _ (specialOf (Value.ref e) (Str.ofString "__length_hint__") >>= _) _ _ _
  refine wpAny_bind (wpAny_specialOf hT en_no_hint ?_)
  exact wpAny_pure h
theorem en_extend {R : Result → Shared → Prop} (hh : A.handled = none) (he : IsEnum s.heap e it 0 .none) (hi : s.heap.IsListIter it l 0) (hl : s.heap.IsList l vs.toArray) (hne : e ≠ it) (S : Addr) (hSe : S ≠ e) (hSi : S ≠ it) (hSl : l ≠ S) (hel : l ≠ e) (hil : l ≠ it) (M : Addr) (hM1 : e ≤ M) (hM2 : it ≤ M) (hM3 : S ≤ M) (hM : M < s.heap.objs.size) (res : Value) (c₀ : Nat) (hS : s.heap.get? S = some { cls := .type "list", data := .seq #[] c₀ })
    (hR : ∀ h' tk acc c as, (∀ b o, b ≠ S → b ≠ e → b ≠ it → s.heap.get? b = some o → h'.get? b = some o) → h'.get? S = some { cls := .type "list", dict := none, data := .seq acc c, slots := #[] } → as.length = vs.length → EnG vs M h' as →
      acc.toList = as.map Value.ref → R (.ok (.ret res)) { s with heap := h', toks := tk }) (hn : vs.length ≤ sizeLine) :
    wpAny (model prog w) A.in1 (Builtin.List.listExtendWith (.ref S) (.ref e) res)
      (fun fin s' => match fin with | .done f => R (.ok f) s' | .again c' => c'.quiet = true ∧ codeAny (model prog w) A c' R s') (fun e s' => R (.error e) s') s := by
  have key : ∀ (h : Heap) (c₁ tk : Nat), (∀ b o, b ≠ S → s.heap.get? b = some o → h.get? b = some o) → M < h.objs.size →
      h.get? S = some { cls := .type "list", data := .seq #[] c₁ } → codeAny (model prog w) A (.builtin "list.extend.loop" ⟨[.ref S, .ref e, res], []⟩) R { s with heap := h, toks := tk } := by
    intro h c₁ tk hk hM' hS₁
    refine en_loop (vs := vs) (s := s) (h₁ := s.heap) hh hne hSe hSi hSl hel hil M hM1 hM2 hM3 hn res hR
      vs.length 0 h tk c₁ #[] [] (Nat.sub_zero _) (Nat.zero_le _) ⟨hi.at fun o z => hk it o (Ne.symm hSi) z, .inl ⟨.none, hk e _ (Ne.symm hSe) he⟩⟩ (hl.at fun o z => hk l o hSl z) (fun b o hb _ _ z => hk b o hb z) hS₁ rfl rfl
      ⟨List.Pairwise.nil, (fun _ ha => nomatch ha), (fun j a hj => by simp at hj)⟩ hM'
  unfold Builtin.List.listExtendWith
  refine wpAny_bind (wpAny_typeOf (T := "enumerate") (en_type he) ?_)
  have h1 : Builtin.List.listSameRef (.ref S) (.ref e) = false := by simp [Builtin.List.listSameRef, hSe]
  have h2 : (Value.type "enumerate" == Value.type "list") = false := by decide
  have h3 : (Value.type "enumerate" == Value.type "tuple") = false := by decide
  simp only [h1, h2, h3, Bool.or_false, Bool.false_eq_true, if_false]
  refine wpAny_bind (wpAny_pyIter_enum he ?_)
  refine wpAny_bind (wpAny_holding (en_hint (en_type he) ?_))
  refine wpAny_ite_split (fun _ => ?_) (fun _ => wpAny_pure ⟨plainId_quiet PySem.F.plain_extend_loop _, key _ c₀ _ (fun b o _ e => e) hM hS⟩)
  refine wpAny_bind (wpAny_rule ?_)
  refine wpAny_bind ?_
  show wpAny _ _ (updateSeq S (·.push .none) >>= fun _ => updateSeq S (·.pop)) _ _ _
  refine wpAny_bind (wpAny_updateSeq hS rfl ?_)
  have hS₂ := Heap.get?_update_self (Obj.mapSeq (·.push Value.none)) hS rfl
  refine wpAny_updateSeq (hz := by seq_fits) hS₂ rfl ?_
  have hS₃ := Heap.get?_update_self (Obj.mapSeq (·.pop)) hS₂ rfl
  refine wpAny_pure ⟨plainId_quiet PySem.F.plain_extend_loop _, key _ _ _ (fun b o hb e => ?_) ?_ hS₃⟩
  · exact (Heap.get?_update_other _ _ (Ne.symm hb)).trans ((Heap.get?_update_other _ _ (Ne.symm hb)).trans e)
  · have z : ∀ b o, b ≠ S → s.heap.get? b = some o → ((s.heap.update S (Obj.mapSeq (·.push Value.none))).update S (Obj.mapSeq (·.pop))).get? b = some o := fun b o hb e => (Heap.get?_update_other _ _ (Ne.symm hb)).trans ((Heap.get?_update_other _ _ (Ne.symm hb)).trans e)
    simpa using hM
theorem en_call {Q : Value → Shared → Prop} (hh : A.handled = none) (he : IsEnum s.heap e it 0 .none) (hi : s.heap.IsListIter it l 0) (hl : s.heap.IsList l vs.toArray) (hne : e ≠ it) (hel : l ≠ e) (hil : l ≠ it) (hn : vs.length ≤ sizeLine)
    (hQ : ∀ h' tk acc c as, (∀ b o, b ≠ e → b ≠ it → s.heap.get? b = some o → h'.get? b = some o) → h'.get? s.heap.objs.size = some { cls := .type "list", dict := none, data := .seq acc c, slots := #[] } → as.length = vs.length → EnG vs s.heap.objs.size h' as →
      acc.toList = as.map Value.ref → Q (.ref s.heap.objs.size) { s with heap := h', toks := tk }) :
    wpAny (model prog w) A (call (.type "list") [.ref e]) Q E s := by
  have hel' : e < s.heap.objs.size := Heap.lt_size he
  have hil' : it < s.heap.objs.size := by obtain ⟨_, q, _⟩ := hi; exact Heap.lt_size q
  have hll' : l < s.heap.objs.size := by obtain ⟨_, q, _⟩ := hl; exact Heap.lt_size q
  refine callType_codes (Q₁ := fun obj s₁ => obj = .ref s.heap.objs.size ∧ s₁ = { s with heap := s.heap.push { cls := .type "list", data := .seq #[] } }) PySem.F.called_list (PySem.F.typeCall_list_1 _) PySem.F.entry_list_init
    (code_list_new _ ⟨rfl, rfl⟩) fun obj s₁ h₁ => ?_
  obtain ⟨rfl, rfl⟩ := h₁
  have hS : (s.heap.push { cls := .type "list", data := .seq #[] }).get? s.heap.objs.size = some { cls := .type "list", data := .seq #[] } := Heap.get?_push_size _ rfl
  refine ⟨⟨_, hS, rfl⟩, PySem.F.args_list_init_2 _ _, ?_⟩
  show wpAny _ A.in1.in1 (do let old ← Builtin.List.listItems (.ref s.heap.objs.size); Builtin.List.listUpdate (.ref s.heap.objs.size) (fun _ => #[]); letGo old.toList.reverse; Builtin.List.listExtendWith (.ref s.heap.objs.size) (.ref e) .none) _ _ _
  refine wpAny_bind ?_
  unfold Builtin.List.listItems
  refine wpAny_bind (wpAny_seqItems hS rfl (wpAny_pure ?_))
  show wpAny _ A.in1.in1 (updateSeq s.heap.objs.size (fun _ => #[]) >>= fun _ => letGo (#[] : Array Value).toList.reverse >>= fun _ => Builtin.List.listExtendWith (.ref s.heap.objs.size) (.ref e) .none) _ _ _
  refine wpAny_bind (wpAny_updateSeq hS rfl ?_)
  have hS₂ := Heap.get?_update_self (Obj.mapSeq (fun _ => (#[] : Array Value))) hS rfl
  have oth : ∀ b o, s.heap.get? b = some o → ((s.heap.push { cls := .type "list", data := .seq #[] }).update s.heap.objs.size (Obj.mapSeq (fun _ => (#[] : Array Value)))).get? b = some o :=
    fun b o e => (Heap.get?_update_other _ _ (Ne.symm (Nat.ne_of_lt (Heap.lt_size e)))).trans (Heap.get?_push_of_some _ e)
  refine wpAny_bind (wpAny_letGo ?_)
  refine en_extend (vs := vs) (A := A.in1) hh (oth e _ he) (hi.at fun o z => oth it o z) (hl.at fun o z => oth l o z) hne s.heap.objs.size (Nat.ne_of_gt hel') (Nat.ne_of_gt hil') (Nat.ne_of_lt hll') hel hil s.heap.objs.size (Nat.le_of_lt hel') (Nat.le_of_lt hil') (Nat.le_refl _) ?_ .none _ hS₂ (fun h' tk acc c as hk hS' hlen hG hacc => ?_) hn
  · exact Heap.lt_size hS₂
  · exact ⟨rfl, hQ h' tk acc c as (fun b o h1 h2 z => hk b o (Nat.ne_of_lt (Heap.lt_size z)) h1 h2 (oth b o z)) hS' hlen hG hacc⟩
end
end EnL
end S_Ly
section S_Lz
set_option maxHeartbeats 0
namespace L3
open PySem PySem.Spec PyProof.Rows L2
def enK {α : Type} : Nat → List α → List (Key × α)
  | _, [] => []
  | i, x :: r => (Sum.inl (i : Int), x) :: enK (i + 1) r
theorem enK_get {α : Type} : ∀ (xs : List α) (i j : Nat) (x : α), xs[j]? = some x → (enK i xs)[j]? = some (Sum.inl ((i + j : Nat) : Int), x)
  | [], _, _, _, h => by simp at h
  | y :: r, i, 0, x, h => by
    have h' : y = x := by simpa using h
    subst h'; rfl
  | y :: r, i, j + 1, x, h => by
    show (enK (i + 1) r)[j]? = _
    rw [enK_get r (i + 1) j x (by simpa using h)]
    rw [show i + 1 + j = i + (j + 1) by omega]
theorem enK_len {α : Type} : ∀ (xs : List α) (i : Nat), (enK i xs).length = xs.length
  | [], _ => rfl
  | y :: r, i => by show (enK (i + 1) r).length + 1 = _; rw [enK_len r]; rfl
theorem enK_kv : ∀ {xs : List V} {us : List Value} (i : Nat), Vals xs us → KV (enK i xs) (enK i us)
  | _, _, _, .nil => .nil
  | _, _, i, .cons h t => .cons ⟨rfl, h⟩ (enK_kv (i + 1) t)
def rEnumG (K : Fg) : V → Hp → VK → Prop := fun x H Q => ∃ (a : Addr) (xs : List V), x = .ref a ∧ SqL K H a xs ∧ newPairs H ((enK 0 xs).map fun kv => (kV kv.1, kv.2)) Q
section
variable {X : Cx}
theorem enum_laid {pins : List (Addr × Obj)} {σ : L2.St} {H : Hp} {s : Shared} {h' : Heap} {tk : Nat} {xs : List V} {vs : List Value} {acc : Array Value} {c : Nat} {as : List Addr} {S : Addr} (I : Inv X pins σ H s) (hSz : s.heap.objs.size ≤ S) (hz : xs.length ≤ sizeLine) (kv : Vals xs vs)
    (hk : ∀ b o, s.heap.get? b = some o → h'.get? b = some o) (hS : h'.get? S = some { cls := .type "list", dict := none, data := .seq acc c, slots := #[] }) (hl : as.length = vs.length) (hG : EnL.EnG vs S h' as) (hacc : acc.toList = as.map Value.ref) :
    ∃ H' : Hp, (∀ b o, H b = some o → H' b = some o) ∧ H S = none ∧ (∀ t ∈ as, H t = none) ∧ S ∉ as ∧ H' S = some (.lst (as.map V.ref)) ∧ Paired (fun (t : Addr) (q : Key × V) => H' t = some (.tup [kV q.1, q.2])) as (enK 0 xs) ∧ Inv X pins σ H' { s with heap := h', toks := tk } := by
  have lk : xs.length = vs.length := kv.length
  have lk2 : (enK 0 xs).length = vs.length := by rw [enK_len]; exact lk
  have hSn : S ∉ as := fun z => Nat.lt_irrefl _ (hG.above _ z)
  have nd : as.Nodup := List.Pairwise.imp (fun {a b} (h : a < b) => Nat.ne_of_lt h) hG.rise
  have new : ∀ t ∈ as, H t = none := fun t ht => I.hok.fresh (Nat.le_of_lt (Nat.lt_of_le_of_lt hSz (hG.above t ht)))
  have newS : H S = none := I.hok.fresh hSz
  have atP := LiI.putT_at as (enK 0 xs) (upd H S (.lst (as.map V.ref))) (by omega) nd
  have off : ∀ b, b ∉ as → b ≠ S → LiI.putT (upd H S (.lst (as.map V.ref))) as (enK 0 xs) b = H b := fun b h1 h2 => by rw [LiI.putT_off as _ _ h1, upd_ne h2]
  have low : ∀ b o, s.heap.get? b = some o → b ∉ as ∧ b ≠ S := fun b o e => ⟨fun z => absurd (Heap.lt_size e) (Nat.not_lt.mpr (Nat.le_of_lt (Nat.lt_of_le_of_lt hSz (hG.above b z)))), Nat.ne_of_lt (Nat.lt_of_lt_of_le (Heap.lt_size e) hSz)⟩
  have kp : ∀ b u, H b = some u → (LiI.putT (upd H S (.lst (as.map V.ref))) as (enK 0 xs)) b = some u := fun b u e => by
    rw [off b (fun z => by rw [new b z] at e; cases e) (fun z => by rw [z, newS] at e; cases e)]
    exact e
  have eS : LiI.putT (upd H S (.lst (as.map V.ref))) as (enK 0 xs) S = some (.lst (as.map V.ref)) := by rw [LiI.putT_off as _ _ hSn, upd_same]
  refine ⟨LiI.putT (upd H S (.lst (as.map V.ref))) as (enK 0 xs), kp, newS, new, hSn, eS, atP, ?_⟩
  refine I.call' (ch := []) rfl ⟨fun b o q _ _ _ => hk b o q, fun b o q _ _ _ => ⟨o.slots, hk b o q⟩, fun b o q n _ => ?_, fun b o q _ => ⟨o, hk b o q⟩, fun b xs q => kp b _ q, fun b o u q => kp b _ q, fun b ps q => ⟨#[], by rw [kp b _ q]; simp⟩⟩ (fun b u q => ?_) I.bare fun b z => by simp at z
  · obtain ⟨z1, z2⟩ := low b o q
    rw [off b z1 z2]
    exact n
  · by_cases hb : b ∈ as
    · obtain ⟨j, pk, e1, e2, e3⟩ := LiI.paired_ix atP hb
      rw [e3] at q
      cases q
      obtain ⟨t, x, f1, f3⟩ := hG.pairs j b e1
      obtain ⟨y, hy, ry⟩ : ∃ y, xs[j]? = some y ∧ RelV y x := by
        have hj : j < xs.length := by rw [lk]; exact (List.getElem?_eq_some_iff.mp f1).1
        obtain ⟨z, g1, g2⟩ := kv.get (List.getElem?_eq_getElem hj)
        rw [f1] at g1; cases g1
        exact ⟨_, List.getElem?_eq_getElem hj, g2⟩
      rw [enK_get xs 0 j y hy] at e2
      cases e2
      refine ⟨by show 2 ≤ sizeLine; decide, [.int (j : Int) t, x], .cons ⟨t, ?_⟩ (.cons ry .nil), ⟨_, f3, rfl, _, rfl⟩⟩
      show _ = Value.int ((0 + j : Nat) : Int) t
      rw [Nat.zero_add]
    · by_cases hb2 : b = S
      · rw [hb2] at q ⊢
        rw [eS] at q
        cases q
        refine ⟨by rw [List.length_map]; omega, acc.toList, c, by rw [hacc]; exact LiI.vals_refs as, ?_⟩
        rw [Array.toArray_toList]
        exact hS
      · rw [off b hb hb2] at q
        exact (I.hok b u q).stay (fun d v _ y => hk d v y) (fun d y => kp d _ y) fun d xs y => kp d _ y
end
section
variable {X : Cx} {e : Expr} {te : TE} {p p2 cpos pos : Pos}
theorem pe_listEnum (hc : X.calm = true) (he : PE X e te) (hg : Gl X "list") (hm : X.mg "list" = none) (hg2 : Gl X "enumerate") (hm2 : X.mg "enumerate" = none)
    (hs2 : starEach [e] X.env = (false, eval e X.env) :: starEach [] X.env := by rfl)
    (hs : starEach [.Call (.Name "enumerate" p2) [e] [] cpos] X.env = (false, eval (.Call (.Name "enumerate" p2) [e] [] cpos) X.env) :: starEach [] X.env := by rfl) :
    PE X (.Call (.Name "list" p) [.Call (.Name "enumerate" p2) [e] [] cpos] [] pos) (tK1 (rEnumG X.K) te) := by
  refine ⟨fun pins s σ H Q I hq => ?_⟩
  refine wpAny_Call_Name_kw (ld_blt I hg hm boot_list ?_)
  refine PyProof.Rows.callWith_type1 ?_ hs rfl
  rw [hs]
  show wpAny _ _ (spliced ((false, eval (.Call (.Name "enumerate" p2) [e] [] cpos) X.env) :: backTo pos (starEach [] X.env))) _ _ s
  refine Calls.spliced_cons ?_
  refine wpAny_Call_Name_kw (ld_blt I hg2 hm2 boot_enumerate ?_)
  refine PyProof.Rows.callWith_type1 ?_ hs2 rfl
  rw [hs2]
  show wpAny _ _ (spliced ((false, eval e X.env) :: backTo cpos (starEach [] X.env))) _ _ s
  refine Calls.spliced_cons ?_
  refine thn (he.run pins s σ H _ I hq) fun u s1 ⟨x, H1, I1, rx, a, xs, ex, hd, q⟩ => ?_
  subst ex
  obtain rfl : u = Value.ref a := rx
  refine Calls.spliced_nil ?_
  obtain ⟨its, rv, pl, hz⟩ := I1.list hd
  refine call_enumerate_list pl.isList fun h' hE hI hsz hk => ?_
  refine Calls.spliced_nil ?_
  have I2 : Inv X pins σ H1 { s1 with heap := h' } := I1.kept (t' := s1.toks) hk
  have hal : a < s1.heap.objs.size := by obtain ⟨o, n, e, _⟩ := pl; exact Heap.lt_size e
  have hl2 : h'.IsList a its.toArray := pl.isList.at fun o z => hk a o z
  have hlen : its.length = xs.length := rv.length.symm
  refine EnL.en_call (vs := its) (I1.ok.hd hc) hE hI hl2 (Nat.succ_ne_self _) (Nat.ne_of_lt (Nat.lt_succ_of_lt hal)) (Nat.ne_of_lt hal) (by omega) fun h2 tk acc c as hk2 hS hl hG hacc => ?_
  obtain ⟨H', k1, k2, k3, k4, k5, k6, J⟩ := enum_laid (tk := tk) I1 (S := h'.objs.size) (by rw [hsz]; exact Nat.le_add_right _ _) (by omega) rv (fun b o z => hk2 b o (Nat.ne_of_lt (Nat.lt_succ_of_lt (Heap.lt_size z))) (Nat.ne_of_lt (Heap.lt_size z)) (hk b o z)) hS hl hG hacc
  exact ⟨.ref _, H', J, rfl, q H' _ as k1 k2 k3 k4 k5 (pairsAt_map k6)⟩
end
section
variable {K : Fg} {F H : Hp}
def enD : Nat → List D → List D
  | _, [] => []
  | i, d :: r => .tup [.int (i : Int), d] :: enD (i + 1) r
def kEnum : D → Option Vl
  | .lst ds => some (.ow (.lst (enD 0 ds)))
  | _ => none
def enP : Nat → List D → List (D × D)
  | _, [] => []
  | i, d :: r => (.int (i : Int), d) :: enP (i + 1) r
theorem enP_map : ∀ (i : Nat) (ds : List D), (enP i ds).map (fun d => D.tup [d.1, d.2]) = enD i ds
  | _, [] => rfl
  | i, d :: r => by show _ :: (enP (i + 1) r).map _ = _ :: _; rw [enP_map (i + 1) r]
theorem en_paired : ∀ (i : Nat) {ds : List D} {xs : List V}, Reps K F ds xs → Paired (fun (d : D × D) (q : V × V) => Rep K F d.1 q.1 ∧ Rep K F d.2 q.2) (enP i ds) ((enK i xs).map fun kv => (kV kv.1, kv.2))
  | _, [], _, h => by rw [show _ = [] from h]; exact .nil
  | i, d :: ds, _, ⟨v, r, e, r1, h⟩ => by subst e; exact .cons ⟨rfl, r1⟩ (en_paired (i + 1) h)
theorem ud_enum : UnD K (rEnumG K) kEnum := by
  intro F H v d x sb h1 h Q q
  cases d with
  | lst ds =>
    cases h
    obtain ⟨p, vs, e1, hp, rs⟩ := h1
    refine ⟨p, vs, e1, .inl (.inl hp), newPairs_of sb (en_paired 0 rs) fun F' H' u s r => q F' H' u s ?_⟩
    rw [enP_map] at r
    exact r
  | _ => cases h
end
end L3
end S_Lz
section S_Ma
set_option maxHeartbeats 0
/-! # rule and denotation in one -/
namespace L3
open PySem PySem.Spec PyProof.Rows L2
/-- a, b = e, f -/
def dPar (i j : Nat) (n : M (List Vl)) : M Fl := mB n fun xs => mB (frzs xs) fun ds => fun e => match ds with
  | [d, d'] => .ok .nx ((e.set i (.fz d)).set j (.fz d'))
  | _ => .stk
theorem snds_par {K : Fg} {cls : Ex → Addr} {W : WX} {op : List Nat} {i j : Nat} {ta : TA} {n : M (List Vl)} (hi : i ∉ op) (hj : j ∉ op) (h1 : SndA K cls W ta n) : SndS K cls op W (tPar i j ta) (dPar i j n) := by
  intro C σ env F H D ho ws h
  subst ho
  refine h1 σ env F H _ ws.w (h.bind.imp (fun xs env1 h1 F1 H1 vs t1 r1 nd => ?_) fun c env1 h1 F1 H1 t1 => h1 σ F1 H1 (ws.to t1))
  obtain ⟨ds, env2, F2, h2, rs, t2, _⟩ := To.frzs ws.w t1 r1 nd h1.bind
  have w2 := ws.to t2
  match ds, rs, h2 with
  | [d, d'], rs, h2 =>
    obtain ⟨v, r, e, rv, u, r', e', ru, e''⟩ := rs
    subst e e'
    rw [show r' = [] from e'']
    refine ⟨v, u, rfl, ?_⟩
    have w3 := w2.put hi (v := v) (e := .fz d) ⟨v, rfl, rv⟩ put_fz
    have w4 := w3.put hj (v := u) (e := .fz d') ⟨u, rfl, ru⟩ put_fz
    exact h2 _ F2 H1 w4
  | [], _, h2 => exact h2.elim
  | [_], _, h2 => exact h2.elim
  | _ :: _ :: _ :: _, _, h2 => exact h2.elim
structure XW (X : Cx) (cls : Ex → Addr) (W : WX) (e : Expr) (tt : TT) (m : M Bool) : Prop where
  pw : PW X e tt
  snd : SndT X.K cls W tt m
structure XTs (X : Cx) (cls : Ex → Addr) (W : WX) (es : List Expr) (tt : TT) (m : M Bool) : Prop where
  pt : PTs X es tt
  snd : SndT X.K cls W tt m
structure XI (X : Cx) (cls : Ex → Addr) (W : WX) (tg e : Expr) (wi : TI) (m : M (List D)) : Prop where
  pi : PI X tg e wi
  snd : SndI X.K cls W wi m
structure XO (X : Cx) (cls : Ex → Addr) (W : WX) (e : Option Expr) (to : TO) (m : M (Option Int)) : Prop where
  po : PO X e to
  snd : SndO X.K cls W to m
structure XG (X : Cx) (tg : Expr) (g : TG) (tgt : D → En → Option En) (vs : List Nat) : Prop where
  pg : PG X tg g
  snd : SndG X.K g tgt vs
structure XS (X : Cx) (cls : Ex → Addr) (op : List Nat) (W : WX) (st : Stmt) (ts : TS) (ms : M Fl) : Prop where
  ps : PS X st ts
  snd : SndS X.K cls op W ts ms
structure XD (X : Cx) (cls : Ex → Addr) (W : WX) (pos : Pos) (keys : List (Option Expr)) (values : List Expr) (ks : List Key) (ts : List TE) (m : M (List Vl)) : Prop where
  pp : PPs X pos keys values (trsOf ks ts)
  snd : SndA X.K cls W (tAs ts) m
  len : ks.length = ts.length
structure XSs (X : Cx) (cls : Ex → Addr) (op : List Nat) (W : WX) (ss : List Stmt) (ts : TS) (ms : M Fl) : Prop where
  ps : PSs X ss ts
  snd : SndS X.K cls op W ts ms
section
variable {X : Cx} {cls : Ex → Addr} {W : WX} {op : List Nat} {pos : Pos}
/-! ### rules with K named -/
section
variable (K : Fg)
theorem Kadd (hK : X.K = K := by rfl) : OpR X (binaryOp .Add) (rAddG K) := hK ▸ xo_add
theorem Kmul (hK : X.K = K := by rfl) : OpR X (binaryOp .Mult) (rMulG K) := hK ▸ xo_mul
theorem Keq (hu : X.A.units + 64 < cLine) (hK : X.K = K := by rfl) : OpR X (compareOp .Eq) (rEqG K) := hK ▸ op_eqG hu
theorem Kne (hu : X.A.units + 64 < cLine) (hK : X.K = K := by rfl) : OpR X (compareOp .NotEq) (rNeG K) := hK ▸ op_neG hu
theorem Kin (hu : X.A.units + 1 < cLine) (hK : X.K = K := by rfl) : OpR X (compareOp .In) (rInG K false) := hK ▸ xo_in hu
theorem KnotIn (hu : X.A.units + 1 < cLine) (hK : X.K = K := by rfl) : OpR X (compareOp .NotIn) (rInG K true) := hK ▸ xo_notIn hu
theorem Klen (hK : X.K = K := by rfl) : CallR X (.builtin "len") (rLenG K) := hK ▸ xc_len
theorem Kall (hc : X.calm = true) (hK : X.K = K := by rfl) : CallR X (.builtin "all") (rAll K) := hK ▸ cr_all hc
theorem Kany (hc : X.calm = true) (hK : X.K = K := by rfl) : CallR X (.builtin "any") (rAny K) := hK ▸ cr_any hc
theorem Ksum (hc : X.calm = true) (hK : X.K = K := by rfl) : CallR X (.builtin "sum") (rSum K) := hK ▸ cr_sum hc
theorem Kmax (hc : X.calm = true) (hK : X.K = K := by rfl) : CallR X (.builtin "max") (rMax K) := hK ▸ cr_max hc
theorem Kisi (hK : X.K = K := by rfl) : CallR X (.builtin "isinstance") (rIsiG K) := hK ▸ xc_isi
theorem Klist (hc : X.calm = true) (hK : X.K = K := by rfl) : CallR X (.type "list") (rListG K) := hK ▸ xc_list hc
theorem Kdict (hc : X.calm = true) (hK : X.K = K := by rfl) : CallR X (.type "dict") (rDictG K) := hK ▸ xc_dict hc
theorem Ktuple (hK : X.K = K := by rfl) : CallR X (.type "tuple") (rTupleG K) := by subst hK; exact call_tuple_of
end
variable {K : Fg}
/-! ### expressions -/
theorem xv (i : Nat) {x : Str} {pos : Pos} (hN : X.N[i]? = some x := by rfl) (hv : Vis X.env.scope x := by first | exact Or.inl rfl | exact Or.inr (Or.inl rfl) | exact Or.inr (Or.inr rfl)) (hd : (x == ("__debug__" : Str)) = false := by decide)
    (hcd : (x == ("__classdict__" : Str)) = false := by decide) : XE X cls W (.Name x pos) (tVar i) (dVar i) := ⟨pe_var hN hv hd hcd, snd_var i⟩
theorem xint {i j pos} : XE X cls W (.Constant (.int i) j pos) (tC (.int i)) (dC (.int i)) := ⟨pe_int, snd_c fun _ => rfl⟩
theorem xbl {i j pos} : XE X cls W (.Constant (.bool i) j pos) (tC (.bl i)) (dC (.bl i)) := ⟨pe_bl, snd_c fun _ => rfl⟩
theorem xstr {i j pos} : XE X cls W (.Constant (.str i) j pos) (tC (.str i)) (dC (.str i)) := ⟨pe_str, snd_c fun _ => rfl⟩
theorem xnon {j pos} : XE X cls W (.Constant .none j pos) (tC .non) (dC .non) := ⟨pe_non, snd_c fun _ => rfl⟩
theorem xgi {i : Int} {x : Str} {pos : Pos} (h : ∃ t, X.mg x = some (.int i t)) (hg : Gl X x := by rfl) (hd : (x == ("__debug__" : Str)) = false := by decide) : XE X cls W (.Name x pos) (tC (.int i)) (dC (.int i)) :=
  ⟨let ⟨t, e⟩ := h; pe_glob hg e ⟨t, rfl⟩ hd, snd_c fun _ => rfl⟩
theorem xgs {i : Str} {x : Str} {pos : Pos} (h : ∃ t, X.mg x = some (.str i t)) (hg : Gl X x := by rfl) (hd : (x == ("__debug__" : Str)) = false := by decide) : XE X cls W (.Name x pos) (tC (.str i)) (dC (.str i)) :=
  ⟨let ⟨t, e⟩ := h; pe_glob hg e ⟨t, rfl⟩ hd, snd_c fun _ => rfl⟩
theorem xty {x : Str} {T : String} {pos : Pos} (hm : X.mg x = none) (hv : bootBuiltins x = some (.type T)) (hg : Gl X x := by rfl) (hn : x ≠ "__name__" := by decide) (hd : (x == ("__debug__" : Str)) = false := by decide) : XE X cls W (.Name x pos) (tC (.ty T)) (dC (.ty T)) :=
  ⟨pe_bltn hg hm hv rfl hn hd, snd_c fun _ => rfl⟩
section
variable {a b c : Expr} {ta tb tc : TE} {ma mb mc : M Vl}
theorem xop {o : Operator} {r : R2} {f : D → D → Option Vl} (ho : OpR X (binaryOp o) r) (od : OpD X.K r f) (ha : XE X cls W a ta ma) (hb : XE X cls W b tb mb) : XE X cls W (.BinOp a o b pos) (tOp r ta tb) (dOp f ma mb) := ⟨pe_op ho ha.pe hb.pe, snd_op od ha.snd hb.snd⟩
theorem xcmp {o : CmpOp} {r : R2} {f : D → D → Option Vl} (ho : OpR X (compareOp o) r) (od : OpD X.K r f) (ha : XE X cls W a ta ma) (hb : XE X cls W b tb mb) (hm : behindInMarks o b = false := by first | exact nomark _ | with_unfolding_all rfl) : XE X cls W (.Compare a [o] [b] pos) (tOp r ta tb) (dOp f ma mb) :=
  ⟨pe_cmpR ho ha.pe hb.pe hm, snd_op od ha.snd hb.snd⟩
theorem xtcmp {o : CmpOp} {r : R2} {f : D → D → Option Vl} (ho : OpR X (compareOp o) r) (od : OpD X.K r f) (ha : XE X cls W a ta ma) (hb : XE X cls W b tb mb) (hm : behindInMarks o b = false := by first | exact nomark _ | with_unfolding_all rfl) : XT X cls W (.Compare a [o] [b] pos) (tTest (tOp r ta tb)) (dBool (dOp f ma mb)) :=
  ⟨pt_cmpR ho ha.pe hb.pe hm, snd_test (snd_op od ha.snd hb.snd)⟩
theorem xchain {o o' : CmpOp} {r r' : R2} {f g : D → D → Option Vl} (ho : OpR X (compareOp o) r) (od : OpD X.K r f) (ho' : OpR X (compareOp o') r') (od' : OpD X.K r' g) (ha : XE X cls W a ta ma) (hb : XE X cls W b tb mb) (hc : XE X cls W c tc mc) (hm : lastMarks [o, o'] [b, c] = false := by with_unfolding_all rfl) :
    XE X cls W (.Compare a [o, o'] [b, c] pos) (tChain r r' ta tb tc) (dChain f g ma mb mc) := ⟨pe_chain ho ho' ha.pe hb.pe hc.pe hm, snd_chain od od' ha.snd hb.snd hc.snd⟩
theorem xtchain {o o' : CmpOp} {r r' : R2} {f g : D → D → Option Vl} (ho : OpR X (compareOp o) r) (od : OpD X.K r f) (ho' : OpR X (compareOp o') r') (od' : OpD X.K r' g) (ha : XE X cls W a ta ma) (hb : XE X cls W b tb mb) (hc : XE X cls W c tc mc) (hm : lastMarks [o, o'] [b, c] = false := by with_unfolding_all rfl) :
    XT X cls W (.Compare a [o, o'] [b, c] pos) (tTest (tChain r r' ta tb tc)) (dBool (dChain f g ma mb mc)) := ⟨pt_chain ho ho' ha.pe hb.pe hc.pe hm, snd_test (snd_chain od od' ha.snd hb.snd hc.snd)⟩
theorem xtru (ha : XE X cls W a ta ma) (he : ∀ whole, isTrue a X.env whole = (do let v ← whole; standAt a.pos; holding [v] (truthy v)) := by intro _; rfl) (hK : X.K = K := by rfl) : XT X cls W a (tTru K ta) (dTru ma) := by
  subst hK
  exact ⟨pt_truth ha.pe he, snd_tru ha.snd⟩
theorem xtnot {t : TT} {m : M Bool} (ha : XT X cls W a t m) : XT X cls W (.UnaryOp .Not a pos) (tNot t) (dNot m) := ⟨pt_not ha.pt, snd_not ha.snd⟩
theorem xwand1 {t : TT} {m : M Bool} (ha : XT X cls W a t m) : XW X cls W (.BoolOp .And [a] pos) t m := ⟨pw_and1 ha.pt, ha.snd⟩
theorem xwor1 {t : TT} {m : M Bool} (ha : XT X cls W a t m) : XW X cls W (.BoolOp .Or [a] pos) t m := ⟨pw_or1 ha.pt, ha.snd⟩
theorem xwand {rest : List Expr} {t u : TT} {m n : M Bool} (ha : XT X cls W a t m) (hb : XW X cls W (.BoolOp .And (b :: rest) pos) u n) : XW X cls W (.BoolOp .And (a :: b :: rest) pos) (tAnd t u) (dAnd m n) := ⟨pw_and ha.pt hb.pw, snd_and ha.snd hb.snd⟩
theorem xwor {rest : List Expr} {t u : TT} {m n : M Bool} (ha : XT X cls W a t m) (hb : XW X cls W (.BoolOp .Or (b :: rest) pos) u n) : XW X cls W (.BoolOp .Or (a :: b :: rest) pos) (tOr t u) (dOr m n) := ⟨pw_or ha.pt hb.pw, snd_or ha.snd hb.snd⟩
theorem xtw {e : Expr} {t : TT} {m : M Bool} (h : XW X cls W e t m) : XT X cls W e t m := ⟨h.pw.pt, h.snd⟩
theorem xand1 {o : BoolOp} (ha : XE X cls W a ta ma) : XE X cls W (.BoolOp o [a] pos) ta ma := ⟨pe_one ha.pe, ha.snd⟩
theorem xand {rest : List Expr} (ha : XE X cls W a ta ma) (hb : XE X cls W (.BoolOp .And (b :: rest) pos) tb mb) : XE X cls W (.BoolOp .And (a :: b :: rest) pos) (tAndV ta tb) (dAndV ma mb) := ⟨pe_and ha.pe hb.pe, snd_andV ha.snd hb.snd⟩
theorem xor {rest : List Expr} (ha : XE X cls W a ta ma) (hb : XE X cls W (.BoolOp .Or (b :: rest) pos) tb mb) : XE X cls W (.BoolOp .Or (a :: b :: rest) pos) (tOrV ta tb) (dOrV ma mb) := ⟨pe_or ha.pe hb.pe, snd_orV ha.snd hb.snd⟩
theorem xnot (ha : XE X cls W a ta ma) : XE X cls W (.UnaryOp .Not a pos) (tNotV ta) (dNotV ma) := ⟨pe_not ha.pe, snd_notV ha.snd⟩
theorem xif {c : Expr} {t : TT} {m : M Bool} (hc : XT X cls W c t m) (ha : XE X cls W a ta ma) (hb : XE X cls W b tb mb) : XE X cls W (.IfExp c a b pos) (tIf t ta tb) (dIf m ma mb) := ⟨pe_ifExp hc.pt ha.pe hb.pe, snd_if hc.snd ha.snd hb.snd⟩
theorem xix (hu : X.A.units + 1 < cLine) (ha : XE X cls W a ta ma) (hb : XE X cls W b tb mb) (hs : PlainIx b := by intro _ _; rfl) (hK : X.K = K := by rfl) : XE X cls W (.Subscript a b pos) (tOp (rIxG K) ta tb) (dOp ixD ma mb) := by
  subst hK
  exact ⟨pe_ix (xo_ix hu) ha.pe hb.pe hs, snd_op od_ix ha.snd hb.snd⟩
theorem xo0 : XO X cls W none tNoPart (ret none) := ⟨po_none, sndO_none⟩
theorem xo1 (ha : XE X cls W a ta ma) : XO X cls W (some a) (tPart ta) (dPart ma) := ⟨po_some ha.pe, sndO_some ha.snd⟩
theorem xsl {p2 : Pos} {lo hi : Option Expr} {tl th : TO} {ml mh : M (Option Int)} (ha : XE X cls W a ta ma) (hl : XO X cls W lo tl ml) (hh : XO X cls W hi th mh) (hK : X.K = K := by rfl) : XE X cls W (.Subscript a (.Slice lo hi none p2) pos) (tSl (rSlG K) ta tl th) (dSl ma ml mh) := by
  subst hK
  exact ⟨pe_slice xo_sl ha.pe hl.po hh.po, snd_sl ha.snd hl.snd hh.snd⟩
theorem xa0 : XA X cls W [] tNil dNil := ⟨pa_nil, sndA_nil⟩
theorem xa {es : List Expr} {t : TA} {n : M (List Vl)} (ha : XE X cls W a ta ma) (hr : XA X cls W es t n) (hs : starEach (a :: es) X.env = (false, eval a X.env) :: starEach es X.env := by rfl) : XA X cls W (a :: es) (tCons ta t) (dCons ma n) := ⟨pa_cons ha.pe hr.pa hs, sndA_cons ha.snd hr.snd⟩
theorem xlst {es : List Expr} {t : TA} {n : M (List Vl)} (h : XA X cls W es t n) : XE X cls W (.List es pos) (tLst t) (dLst n) := ⟨pe_lst h.pa, snd_lst h.snd⟩
theorem xtup {x1} {es : List Expr} {t : TA} {n : M (List Vl)} (h : XA X cls W es t n) : XE X cls W (.Tuple es x1 pos) (tTup t) (dTup n) := ⟨pe_tup h.pa, snd_tup h.snd⟩
theorem xdk : XE X cls W (.Dict [] [] pos) tDNewK dNewK := ⟨pe_dnewK, snd_newK⟩
theorem xdt : XE X cls W (.Dict [] [] pos) tDNewT dNewT := ⟨pe_dnewT, snd_newT⟩
theorem xblt {x : Str} {id : String} {p : Pos} {e : Expr} {es : List Expr} {t : TA} {n : M (List Vl)} {r : List V → Hp → VK → Prop} {f : List D → Option Vl} (hc : CallR X (.builtin id) r) (od : CallD X.K r f) (hm : X.mg x = none) (hv : bootBuiltins x = some (.builtin id)) (ha : XA X cls W (e :: es) t n)
    (hg : Gl X x := by rfl) (hn : x ≠ "__name__" := by decide) (hdb : (x == ("__debug__" : Str)) = false := by decide) (he : starEach (e :: es) X.env = (false, eval e X.env) :: starEach es X.env := by rfl) (hpl : (backTo pos (starEach es X.env)).any (·.1) = false := by rfl) : XE X cls W (.Call (.Name x p) (e :: es) [] pos) (tCB r t) (dCB f n) :=
  ⟨pe_callB hc hg hm hv ha.pa hn hdb he hpl, snd_cb od ha.snd⟩
theorem xbty {x : Str} {T : String} {p : Pos} {e : Expr} {es : List Expr} {t : TA} {n : M (List Vl)} {r : List V → Hp → VK → Prop} {f : List D → Option Vl} (hc : CallR X (.type T) r) (od : CallD X.K r f) (hm : X.mg x = none) (hv : bootBuiltins x = some (.type T)) (ha : XA X cls W (e :: es) t n)
    (hg : Gl X x := by rfl) (hn : x ≠ "__name__" := by decide) (hdb : (x == ("__debug__" : Str)) = false := by decide) (he : starEach (e :: es) X.env = (false, eval e X.env) :: starEach es X.env := by rfl) (hpl : (backTo pos (starEach es X.env)).any (·.1) = false := by rfl) : XE X cls W (.Call (.Name x p) (e :: es) [] pos) (tCB r t) (dCB f n) :=
  ⟨pe_callTy hc hg hm hv ha.pa hn hdb he hpl, snd_cb od ha.snd⟩
theorem xd0 : XD X cls W pos [] [] [] [] dNil := ⟨pps_nil, sndA_nil, rfl⟩
theorem xds {x : Str} {j : Nat} {p : Pos} {keys : List (Option Expr)} {values : List Expr} {ks : List Key} {ts : List TE} {n : M (List Vl)} (ha : XE X cls W a ta ma) (h : XD X cls W pos keys values ks ts n) : XD X cls W pos (some (.Constant (.str x) j p) :: keys) (a :: values) (Sum.inr x :: ks) (ta :: ts) (dCons ma n) :=
  ⟨pps_cons pe_str ha.pe h.pp, sndA_cons ha.snd h.snd, congrArg (· + 1) h.len⟩
theorem xdi {x : Int} {j : Nat} {p : Pos} {keys : List (Option Expr)} {values : List Expr} {ks : List Key} {ts : List TE} {n : M (List Vl)} (ha : XE X cls W a ta ma) (h : XD X cls W pos keys values ks ts n) : XD X cls W pos (some (.Constant (.int x) j p) :: keys) (a :: values) (Sum.inl x :: ks) (ta :: ts) (dCons ma n) :=
  ⟨pps_cons pe_int ha.pe h.pp, sndA_cons ha.snd h.snd, congrArg (· + 1) h.len⟩
theorem xdisp {keys : List (Option Expr)} {values : List Expr} {ks : List Key} {ts : List TE} {n : M (List Vl)} (h : XD X cls W pos keys values ks ts n) (hall : keys.all (·.isSome) = true := by rfl) (hl : keys.length = values.length := by rfl) (h0 : keys ≠ [] := by simp) (h15 : keys.length ≤ 15 := by decide) :
    XE X cls W (.Dict keys values pos) (tDisp (trsOf ks ts)) (dDisp ks n) := ⟨pe_disp h.pp hall hl h0 h15, snd_disp h.len h.snd⟩
theorem xkeys {p apos cpos : Pos} (hc : X.calm = true) (hm : X.mg "list" = none) (he : XE X cls W a ta ma) (hg : Gl X "list" := by rfl) (hbase : attributeBase a "keys" X.env (eval a X.env) = eval a X.env := by rfl) (hline : (apos.endLine == cpos.line) = true := by rfl)
    (hs : starEach [.Call (.Attribute a "keys" apos) [] [] cpos] X.env = (false, eval (.Call (.Attribute a "keys" apos) [] [] cpos) X.env) :: starEach [] X.env := by rfl) : XE X cls W (.Call (.Name "list" p) [.Call (.Attribute a "keys" apos) [] [] cpos] [] pos) (tUn rKeysG ta) (dUn kKeys ma) :=
  ⟨pe_listKeys hc he.pe hg hm hbase hline hs, snd_un ud_keys he.snd⟩
theorem xvals {p apos cpos : Pos} (hc : X.calm = true) (hm : X.mg "list" = none) (he : XE X cls W a ta ma) (hg : Gl X "list" := by rfl) (hbase : attributeBase a "values" X.env (eval a X.env) = eval a X.env := by rfl) (hline : (apos.endLine == cpos.line) = true := by rfl)
    (hs : starEach [.Call (.Attribute a "values" apos) [] [] cpos] X.env = (false, eval (.Call (.Attribute a "values" apos) [] [] cpos) X.env) :: starEach [] X.env := by rfl) : XE X cls W (.Call (.Name "list" p) [.Call (.Attribute a "values" apos) [] [] cpos] [] pos) (tUn rValsG ta) (dUn kVals ma) :=
  ⟨pe_listValues hc he.pe hg hm hbase hline hs, snd_un ud_vals he.snd⟩
theorem xitems {p apos cpos : Pos} (hc : X.calm = true) (hm : X.mg "list" = none) (he : XE X cls W a ta ma) (hg : Gl X "list" := by rfl) (hbase : attributeBase a "items" X.env (eval a X.env) = eval a X.env := by rfl) (hline : (apos.endLine == cpos.line) = true := by rfl)
    (hs : starEach [.Call (.Attribute a "items" apos) [] [] cpos] X.env = (false, eval (.Call (.Attribute a "items" apos) [] [] cpos) X.env) :: starEach [] X.env := by rfl) : XE X cls W (.Call (.Name "list" p) [.Call (.Attribute a "items" apos) [] [] cpos] [] pos) (tUn rItemsG ta) (dUn kItems ma) :=
  ⟨pe_listItemsG hc he.pe hg hm hbase hline hs, snd_un ud_items he.snd⟩
theorem xenum {p p2 cpos : Pos} (hc : X.calm = true) (hm : X.mg "list" = none) (hm2 : X.mg "enumerate" = none) (he : XE X cls W a ta ma) (hg : Gl X "list" := by rfl) (hg2 : Gl X "enumerate" := by rfl) (hs2 : starEach [a] X.env = (false, eval a X.env) :: starEach [] X.env := by rfl)
    (hs : starEach [.Call (.Name "enumerate" p2) [a] [] cpos] X.env = (false, eval (.Call (.Name "enumerate" p2) [a] [] cpos) X.env) :: starEach [] X.env := by rfl) (hK : X.K = K := by rfl) : XE X cls W (.Call (.Name "list" p) [.Call (.Name "enumerate" p2) [a] [] cpos] [] pos) (tUn (rEnumG K) ta) (dUn kEnum ma) := by
  subst hK
  exact ⟨pe_listEnum hc he.pe hg hm hg2 hm2 hs2 hs, snd_un ud_enum he.snd⟩
theorem xjoin {apos : Pos} (ho : XE X cls W a ta ma) (he : XE X cls W b tb mb) (hs : starEach [b] X.env = [(false, eval b X.env)] := by rfl) (hbase : attributeBase a "join" X.env (eval a X.env) = eval a X.env := by rfl) (hline : (apos.endLine == pos.line) = true := by rfl) (hK : X.K = K := by rfl) :
    XE X cls W (.Call (.Attribute a "join" apos) [b] [] pos) (tM1 (rJoin K) ta tb) (dJoin ma mb) := by
  subst hK
  exact ⟨pe_join ho.pe he.pe hs hbase hline, snd_join ho.snd he.snd⟩
theorem xapp {i : Nat} {x : Str} {p apos cpos : Pos} (ho : XE X cls W (.Name x p) (tVar i) (dVar i)) (ha : XE X cls W a ta ma) (hbase : attributeBase (.Name x p) "append" X.env (eval (.Name x p) X.env) = eval (.Name x p) X.env := by rfl)
    (hfew : ((backTo cpos (starEach [a] X.env)).all (fun x => !x.1) && (backToKw cpos (keywordEach [] X.env)).all (fun x => x.1.isSome) && decide (([a] : List Expr).length + ([] : List Keyword).length + (if ([] : List Keyword).isEmpty then 0 else 1) < 30)) = true := by rfl)
    (hline : (apos.endLine == cpos.line) = true := by rfl) (hs : starEach [a] X.env = (false, eval a X.env) :: starEach [] X.env := by rfl) (hplain : (backTo cpos (starEach [] X.env)).any (·.1) = false := by rfl) (hK : X.K = K := by rfl) :
    XE X cls W (.Call (.Attribute (.Name x p) "append" apos) [a] [] cpos) (tBM K "list" rAppend (tVar i) (tCons ta tNil)) (dApp i ma) := by
  subst hK
  exact ⟨pe_bm PySem.F.plainAttrs_list PySem.F.slot_list_append PySem.F.type_list_append mt_append ho.pe (pa_cons ha.pe pa_nil hs) hbase hfew hline hs hplain, snd_app ha.snd⟩
theorem xext {i : Nat} {x : Str} {p apos cpos : Pos} (ho : XE X cls W (.Name x p) (tVar i) (dVar i)) (ha : XE X cls W a ta ma) (hbase : attributeBase (.Name x p) "extend" X.env (eval (.Name x p) X.env) = eval (.Name x p) X.env := by rfl)
    (hfew : ((backTo cpos (starEach [a] X.env)).all (fun x => !x.1) && (backToKw cpos (keywordEach [] X.env)).all (fun x => x.1.isSome) && decide (([a] : List Expr).length + ([] : List Keyword).length + (if ([] : List Keyword).isEmpty then 0 else 1) < 30)) = true := by rfl)
    (hline : (apos.endLine == cpos.line) = true := by rfl) (hs : starEach [a] X.env = (false, eval a X.env) :: starEach [] X.env := by rfl) (hplain : (backTo cpos (starEach [] X.env)).any (·.1) = false := by rfl) (hK : X.K = K := by rfl) :
    XE X cls W (.Call (.Attribute (.Name x p) "extend" apos) [a] [] cpos) (tBM K "list" rExtend (tVar i) (tCons ta tNil)) (dExt i ma) := by
  subst hK
  exact ⟨pe_bm PySem.F.plainAttrs_list PySem.F.slot_list_extend PySem.F.type_list_extend mt_extend ho.pe (pa_cons ha.pe pa_nil hs) hbase hfew hline hs hplain, snd_ext ha.snd⟩
end
/-! ### calls -/
section
variable {k n : Nat} {f : Addr} {fd : FuncData} {ps : List Str} {opf : List Nat} {g : FnD} {x : Str} {p : Pos} {e : Expr} {es : List Expr} {ta : TA} {m : M (List Vl)}
theorem xcall (F : FnOk X.prog X.w X.K X.mg X.base (L2.CX X.prog X.w) k f fd ps (spD K cls opf n g)) (hr : Room k X.A) (hm : X.mg x = some (.ref f)) (hk : PySem.W.keepIn X.K (.ref f) = true) (hb : Binds X.K fd ps []) (tk : Takes X W) (ha : XA X cls W (e :: es) ta m)
    (hg : Gl X x := by rfl) (hdb : (x == ("__debug__" : Str)) = false := by decide) (he : starEach (e :: es) X.env = (false, eval e X.env) :: starEach es X.env := by rfl) (hpl : (backTo pos (starEach es X.env)).any (·.1) = false := by rfl) (hK : X.K = K := by rfl) :
    XE X cls W (.Call (.Name x p) (e :: es) [] pos) (tCallS (spD K cls opf n g) (WE W) ta) (dCall opf n g m) := by
  subst hK
  exact ⟨pe_callS F hr hg hm hk hb (fun σ => passAt tk σ) ha.pa hdb he hpl, snd_callS ha.snd⟩
/-- within a comprehension -/
theorem xcall0 (F : FnOk X.prog X.w X.K X.mg X.base (L2.CX X.prog X.w) k f fd ps (spD K cls opf n g)) (hr : Room k X.A) (hm : X.mg x = some (.ref f)) (hk : PySem.W.keepIn X.K (.ref f) = true) (hb : Binds X.K fd ps []) (ha : XA X cls W0 (e :: es) ta m)
    (hg : Gl X x := by rfl) (hdb : (x == ("__debug__" : Str)) = false := by decide) (he : starEach (e :: es) X.env = (false, eval e X.env) :: starEach es X.env := by rfl) (hpl : (backTo pos (starEach es X.env)).any (·.1) = false := by rfl) (hK : X.K = K := by rfl) :
    XE X cls W0 (.Call (.Name x p) (e :: es) [] pos) (tCall (spD K cls opf n g) [] E0 ta) (dCall opf n g m) := by
  subst hK
  exact ⟨pe_call F hr hg hm hk hb .nil passL ha.pa hdb he hpl, snd_call (fun _ _ _ h => h.elim) ha.snd⟩
end
/-! ### what is walked -/
theorem xi {tg a : Expr} {ta : TE} {ma : M Vl} (h : XE X cls W a ta ma) (hK : X.K = K := by rfl) : XI X cls W tg a (iAny K ta) (dIt ma) := by
  subst hK
  exact ⟨pi_any h.pe, sndI_any h.snd⟩
def dRg1 (n : M (List Vl)) : M (List D) := mB n fun xs => mB (pks xs) fun ds => match ds with
    | [.int j] => if -(2 ^ 62) ≤ j ∧ j < 2 ^ 62 then ret (rgD 0 j.toNat) else fun _ => .stk
    | _ => fun _ => .stk
def dRg2 (n : M (List Vl)) : M (List D) := mB n fun xs => mB (pks xs) fun ds => match ds with
    | [.int i, .int j] => if -(2 ^ 62) ≤ i ∧ i < 2 ^ 62 ∧ -(2 ^ 62) ≤ j ∧ j < 2 ^ 62 then ret (rgD i (j - i).toNat) else fun _ => .stk
    | _ => fun _ => .stk
theorem xr1 {tg a : Expr} {ta : TA} {ma : M (List Vl)} {p : Pos} (hm : X.mg "range" = none) (h : XA X cls W [a] ta ma) (hg : Gl X "range" := by rfl) (hs : starEach [a] X.env = [(false, eval a X.env)] := by rfl) : XI X cls W tg (.Call (.Name "range" p) [a] [] pos) (iRng1 ta) (dRg1 ma) := ⟨pi_range1 hg hm h.pa hs, sndI_range1 h.snd⟩
theorem xr2 {tg a b : Expr} {ta : TA} {ma : M (List Vl)} {p : Pos} (hm : X.mg "range" = none) (h : XA X cls W [a, b] ta ma) (hg : Gl X "range" := by rfl) (hs : starEach [a, b] X.env = [(false, eval a X.env), (false, eval b X.env)] := by rfl) (hs2 : starEach [b] X.env = [(false, eval b X.env)] := by rfl) :
    XI X cls W tg (.Call (.Name "range" p) [a, b] [] pos) (iRng2 ta) (dRg2 ma) := ⟨pi_range2 hg hm h.pa hs hs2, sndI_range2 h.snd⟩
theorem xg {i : Nat} {x : Str} (hN : X.N.Nodup) (hi : X.N[i]? = some x := by rfl) (hx : Loc X.env.scope x := by first | exact .inl rfl | exact .inr rfl) (hf : X.fn x = true ∨ X.env.scope.names.lookup x = some .local := by first | exact .inl rfl | exact .inr rfl) : XG X (.Name x pos) (gName i) (gtN i) [i] := ⟨pg_name hN hi hx hf, sndG_name⟩
def gtU (is : List Nat) : D → En → Option En := fun d e => match d with
  | .tup ds => gtL is ds e
  | _ => none
theorem xgt {es : List Expr} {k n : Nat} {is : List Nat} (hc : X.calm = true) (h : PGs X es (gNames is)) (hn : (assignEach es X.env).length = n := by rfl) (hst : (assignEach es X.env).findIdx? (·.1) = none := by rfl) (hi : is.length = n := by rfl) (hK : X.K = K := by rfl) : XG X (.Tuple es k pos) (gTup K n (gNames is)) (gtU is) is := by
  subst hK
  exact ⟨pg_tup hc h hn hst, sndG_tup hi⟩
theorem xts0 : XTs X cls W [] tYes (ret true) := ⟨pts_nil, fun σ env F H Q w h => h F H (To.refl w)⟩
theorem xts1 {c : Expr} {t : TT} {m : M Bool} (h : XT X cls W c t m) : XTs X cls W [c] t m := ⟨pts_one h.pt, h.snd⟩
section
variable {elt tg iter : Expr} {ifs : List Expr} {scope : Scope} {own : List (Str × Nat)} {wi : TI} {g : TG} {tt : TT} {te : TE} {mi : M (List D)} {tgt : D → En → Option En} {mt : M Bool} {me : M Vl} {vt : List Nat}
abbrev Bk (X : Cx) (scope : Scope) (P : Cx → Prop) : Prop := ∀ (s : Shared) (H : Hp) (C : Addr) (cl : List (Str × Addr)) (fp : List Addr), P (X.blk s H scope (compEnvC scope cl C X.env) fp)
theorem xlc (hc : X.calm = true) (hN : X.N.Nodup) (hi : XI X cls W tg iter wi mi) (ok : BlkOk X.N X.env.scope scope own) (hg : Bk X scope fun X' => XG X' tg g tgt vt) (ht : Bk X scope fun X' => XTs X' cls W0 ifs tt mt) (he : Bk X scope fun X' => XE X' cls W0 elt te me) (hv : ∀ i ∈ vt, i ∈ own.map (·.2) := by decide) (hs : ∀ x, foldedSetIterable iter X.env x = pure x := by intro _; rfl) :
    XE X cls W (.ListComp elt [⟨tg, iter, ifs, 0⟩] scope pos) (tLc wi g tt te (own.map (·.2))) (dLc (own.map (·.2)) mi tgt mt me) :=
  ⟨pe_lc hc hN hi.pi ok (fun s H C cl fp => (hg s H C cl fp).pg) (fun s H C cl fp => (ht s H C cl fp).pt) (fun s H C cl fp => (he s H C cl fp).pe) hs, snd_lc hv hi.snd (hg X.s_0 X.H_0 0 [] []).snd (ht X.s_0 X.H_0 0 [] []).snd (he X.s_0 X.H_0 0 [] []).snd⟩
theorem xlcK {i : Nat} {apos cpos : Pos} {x : Str} {p : Pos} (hc : X.calm = true) (hN : X.N.Nodup) (hi : XE X cls W (.Name x p) (tVar i) (dVar i)) (ok : BlkOk X.N X.env.scope scope own) (hg : Bk X scope fun X' => XG X' tg g tgt vt) (ht : Bk X scope fun X' => XTs X' cls W0 ifs tt mt) (he : Bk X scope fun X' => XE X' cls W0 elt te me) (hv : ∀ i ∈ vt, i ∈ own.map (·.2) := by decide)
    (hs : ∀ z, foldedSetIterable (.Call (.Attribute (.Name x p) "keys" apos) [] [] cpos) X.env z = pure z := by intro _; rfl) (hbase : attributeBase (.Name x p) "keys" X.env (eval (.Name x p) X.env) = eval (.Name x p) X.env := by rfl) (hline : (apos.endLine == cpos.line) = true := by rfl) :
    XE X cls W (.ListComp elt [⟨tg, .Call (.Attribute (.Name x p) "keys" apos) [] [] cpos, ifs, 0⟩] scope pos) (tLkE (tLc (iKeysM (tVar i)) g tt te (own.map (·.2)))) (dLk i (dLc (own.map (·.2)) (dKs i) tgt mt me)) :=
  ⟨pe_lkE (pe_lc hc hN (pi_keysM hi.pe hbase hline) ok (fun s H C cl fp => (hg s H C cl fp).pg) (fun s H C cl fp => (ht s H C cl fp).pt) (fun s H C cl fp => (he s H C cl fp).pe) hs), snd_lcK hv (hg X.s_0 X.H_0 0 [] []).snd (ht X.s_0 X.H_0 0 [] []).snd (he X.s_0 X.H_0 0 [] []).snd⟩
/-- y = [e for ..] -/
theorem xsetLc {i : Nat} {y : Str} {py spos : Pos} (hio : i ∉ op) (hc : X.calm = true) (hN : X.N.Nodup) (hi : XI X cls W tg iter wi mi) (ok : BlkOk X.N X.env.scope scope own) (hg : Bk X scope fun X' => XG X' tg g tgt vt) (ht : Bk X scope fun X' => XTs X' cls W0 ifs tt mt) (he : Bk X scope fun X' => XE X' cls W0 elt te me)
    (hsw : swapsWith (.ListComp elt [⟨tg, iter, ifs, 0⟩] scope pos) (some (.Name y py)) spos.line X.env = pure true) (hy : X.N[i]? = some y := by rfl) (hyl : X.env.scope.names.lookup y = some .local := by rfl) (hv : ∀ i ∈ vt, i ∈ own.map (·.2) := by decide) (hs : ∀ x, foldedSetIterable iter X.env x = pure x := by intro _; rfl) :
    XS X cls op W (.Assign [.Name y py] (.ListComp elt [⟨tg, iter, ifs, 0⟩] scope pos) spos) (tAsg (tLc wi g tt te (own.map (·.2))) (gName i)) (dAsg i (dLc (own.map (·.2)) mi tgt mt me)) :=
  ⟨ps_setLc hc hN hy hyl hsw hi.pi ok (fun s H C cl fp => (hg s H C cl fp).pg) (fun s H C cl fp => (ht s H C cl fp).pt) (fun s H C cl fp => (he s H C cl fp).pe) hs, snds_asg hio (snd_lc hv hi.snd (hg X.s_0 X.H_0 0 [] []).snd (ht X.s_0 X.H_0 0 [] []).snd (he X.s_0 X.H_0 0 [] []).snd)⟩
end
/-! ### statements -/
theorem xs0 : XSs X cls op W [] tNext dNext := ⟨pss_nil, snds_next⟩
theorem xs {st : Stmt} {rest : List Stmt} {t u : TS} {m n : M Fl} (h : XS X cls op W st t m) (r : XSs X cls op W rest u n) : XSs X cls op W (st :: rest) (tSeq t u) (dSeq m n) := ⟨pss_cons h.ps r.ps, snds_seq h.snd r.snd⟩
theorem xs1 {st : Stmt} {t : TS} {m : M Fl} (h : XS X cls op W st t m) : XSs X cls op W [st] t m := ⟨pss_one h.ps, h.snd⟩
section
variable {a b : Expr} {ta tb : TE} {ma mb : M Vl}
theorem sexp (h : XE X cls W a ta ma) (hs : swapsWith a none pos.line X.env = pure false := by rfl) : XS X cls op W (.Expr a pos) (tDrop ta) (dDrop ma) := ⟨ps_expr h.pe hs, snds_drop h.snd⟩
theorem sret (h : XE X cls W a ta ma) : XS X cls op W (.Return (some a) pos) (tRet ta) (dRet op ma) := ⟨ps_ret h.pe, snds_ret h.snd⟩
theorem sretN : XS X cls op W (.Return none pos) tRetN (ret (.rt (.fz .non))) := ⟨ps_retN, snds_retN⟩
theorem sbrk : XS X cls op W (.Break pos) tBreak (ret .bk) := ⟨ps_break, snds_break⟩
theorem scnt : XS X cls op W (.Continue pos) tCont (ret .ct) := ⟨ps_continue, snds_cont⟩
theorem sset (i : Nat) {x : Str} {pos' : Pos} (hio : i ∉ op) (hN : X.N.Nodup) (he : XE X cls W a ta ma) (hi : X.N[i]? = some x := by rfl) (hx : Loc X.env.scope x := by first | exact .inl rfl | exact .inr rfl) (hs : swapsWith a (some (.Name x pos')) pos.line X.env = pure false := by rfl) (hf : X.fn x = true ∨ X.env.scope.names.lookup x = some .local := by first | exact .inl rfl | exact .inr rfl) :
    XS X cls op W (.Assign [.Name x pos'] a pos) (tAsg ta (gName i)) (dAsg i ma) := ⟨ps_set hN hi hx he.pe hs hf, snds_asg hio he.snd⟩
theorem sunp {es : List Expr} {is : List Nat} {k n : Nat} {p2 : Pos} (hio : ∀ i ∈ is, i ∉ op) (hc : X.calm = true) (he : XE X cls W a ta ma) (h : PGs X es (gNames is)) (hn : (assignEach es X.env).length = n := by rfl) (hst : (assignEach es X.env).findIdx? (·.1) = none := by rfl) (hi : is.length = n := by rfl)
    (hs : swapsWithSole [.Tuple es k p2] a pos.line X.env = pure false := by rfl) (hw : swappedStores [.Tuple es k p2] a X.env = pure none := by rfl) (h1 : (assignEach [.Tuple es k p2] X.env).map (·.2) = [assign (.Tuple es k p2) X.env] := by rfl) (hK : X.K = K := by rfl) :
    XS X cls op W (.Assign [.Tuple es k p2] a pos) (tAsg ta (gTup K n (gNames is))) (dUnp is ma) := by
  subst hK
  exact ⟨ps_asg he.pe (pg_tup hc h hn hst) hs hw h1, snds_unp hio hi he.snd⟩
theorem spar {i j : Nat} {x y : Str} {px py pt pt2 : Pos} {kt k2 : Nat} {ta : TA} {n : M (List Vl)} (hio : i ∉ op) (hjo : j ∉ op) (hc : X.calm = true) (hN : X.N.Nodup) (hij : i ≠ j) (ha : XA X cls W [a, b] ta n) (hi : X.N[i]? = some x := by rfl) (hj : X.N[j]? = some y := by rfl)
    (hx : X.env.scope.names.lookup x = some .local := by rfl) (hy : X.env.scope.names.lookup y = some .local := by rfl) (hw : swappedStores [.Tuple [.Name x px, .Name y py] kt pt] (.Tuple [a, b] k2 pt2) X.env = pure (some [x, y]) := by rfl) (hs : swapsWithSole [.Tuple [.Name x px, .Name y py] kt pt] (.Tuple [a, b] k2 pt2) pos.line X.env = pure false := by rfl) :
    XS X cls op W (.Assign [.Tuple [.Name x px, .Name y py] kt pt] (.Tuple [a, b] k2 pt2) pos) (tPar i j ta) (dPar i j n) := ⟨ps_par hc hN hi hj hij hx hy ha.pa hw hs, snds_par hio hjo ha.snd⟩
theorem sif {c : Expr} {x y : List Stmt} {tc : TT} {t u : TS} {mc : M Bool} {m n : M Fl} (hc : XT X cls W c tc mc) (ha : XSs X cls op W x t m) (hb : XSs X cls op W y u n) : XS X cls op W (.If c x y pos) (tIfS tc t u) (dIfS mc m n) := ⟨ps_if hc.pt ha.ps hb.ps, snds_if hc.snd ha.snd hb.snd⟩
theorem sfor {fg vs : List Nat} {tg : Expr} {body : List Stmt} {wi : TI} {g : TG} {tb : TS} {mi : M (List D)} {tgt : D → En → Option En} {mb : M Fl} (hf : ∀ i ∈ fg, i ∉ op) (hv : ∀ i ∈ vs, i ∉ op) (hvf : ∀ i ∈ vs, i ∈ fg) (hp : PassesOwn (model X.prog X.w) X.A X.env X.xe) (hc : X.calm = true) (hi : XI X cls W tg a wi mi) (hg : XG X tg g tgt vs) (hb : XSs X cls op W body tb mb)
    (hs : ∀ x, foldedSetIterable a X.env x = pure x := by intro _; rfl) : XS X cls op W (.For tg a body [] pos) (tFor wi g tb) (dFor fg mi tgt mb) := ⟨ps_for hp hc hi.pi hg.pg hb.ps hs, snds_for hf hv hvf hi.snd hg.snd hb.snd⟩
theorem sforK {fg vs : List Nat} {i : Nat} {x : Str} {p apos cpos : Pos} {tg : Expr} {body : List Stmt} {g : TG} {tb : TS} {tgt : D → En → Option En} {mb : M Fl} (hf : ∀ i ∈ fg, i ∉ op) (hv : ∀ i ∈ vs, i ∉ op) (hvf : ∀ i ∈ vs, i ∈ fg) (hp : PassesOwn (model X.prog X.w) X.A X.env X.xe) (hc : X.calm = true) (hi : XE X cls W (.Name x p) (tVar i) (dVar i)) (hg : XG X tg g tgt vs) (hb : XSs X cls op W body tb mb)
    (hs : ∀ z, foldedSetIterable (.Call (.Attribute (.Name x p) "keys" apos) [] [] cpos) X.env z = pure z := by intro _; rfl) (hbase : attributeBase (.Name x p) "keys" X.env (eval (.Name x p) X.env) = eval (.Name x p) X.env := by rfl) (hline : (apos.endLine == cpos.line) = true := by rfl) :
    XS X cls op W (.For tg (.Call (.Attribute (.Name x p) "keys" apos) [] [] cpos) body [] pos) (tLkS (tFor (iKeysM (tVar i)) g tb)) (dLk i (dFor fg (dKs i) tgt mb)) := ⟨ps_lkS (ps_for hp hc (pi_keysM hi.pe hbase hline) hg.pg hb.ps hs), snds_forK hf hv hvf hg.snd hb.snd⟩
theorem sput {i : Nat} {x : Str} {p pos' : Pos} {e : Expr} {te : TE} {me : M Vl} (hu : X.A.units + 1 < cLine) (ho : XE X cls W (.Name x p) (tVar i) (dVar i)) (hi : XE X cls W a ta ma) (hv : XE X cls W e te me) (hs : swapsWith e (some (.Subscript (.Name x p) a pos')) pos.line X.env = pure false := by rfl) :
    XS X cls op W (.Assign [.Subscript (.Name x p) a pos'] e pos) (sDPut (tVar i) ta te) (dPut i ma me) := ⟨ps_dput hu ho.pe hi.pe hv.pe hs, snds_put hi.snd hv.snd⟩
theorem sraise {c : Ex} {C : Addr} {x m : Str} {j : Nat} {p p2 p3 : Pos} (hcl : cls c = C) (hc : X.calm = true) (tk : Takes X W) (q : PySem.W.excIn X.K C He.veBase "ValueError.__new__" = true) (gC : X.mg x = some (.ref C)) (kC : PySem.W.keepIn X.K (.ref C) = true) (b : PySem.W.subIn X.K (.ref C) (.type "BaseException") = some true) (t : PySem.W.typeIn X.K (.ref C) = some (.type "type")) (hg : Gl X x := by rfl) (hdb : (x == ("__debug__" : Str)) = false := by decide) :
    XS X cls op W (.Raise (some (.Call (.Name x p) [.Constant (.str m) j p2] [] p3)) none pos) (fun _ σ H => W (.ref C) none σ H) (dRaise c) := ⟨ps_raise hc tk (pmk_own PySem.F.excBase_ValueError q gC kC (raises_own b t) hg hdb), snds_raise hcl⟩
end
end
/-! ### defs -/
theorem FunD.fun' {K : Fg} {x qual : Str} {st : Stmt} {f : Addr} {fd : FuncData} (F : FunD K x qual (defArgs st) (defBody st) (defScope st) [] [] f fd) : Fun K x qual st f fd := by
  obtain ⟨oc, od, dV, kV, doc, pm, an, cdv, ct, osl, e, lk, hcd, hD, _⟩ := F.ex
  rcases hD with ⟨_, rfl⟩ | ⟨z, _⟩
  · exact ⟨⟨oc, od, kV, doc, pm, an, cdv, ct, osl, e, lk, hcd⟩, F.kp⟩
  · exact (z rfl).elim
section
variable {P : Program} {w : World} {K : Fg} {mg : Str → Option Value} {base : Heap} {cls : Ex → Addr}
theorem fn_stk {f : Addr} {fd : FuncData} {ps : List Str} {op : List Nat} {n k : Nat} : FnOk P w K mg base (L2.CX P w) k f fd ps (spD K cls op n fun _ => .stk) :=
  ⟨fun vs H Q E ⟨_, _, _, _, _, q⟩ => q.elim, fun _ _ _ _ _ _ _ _ _ _ _ _ _ ⟨_, _, _, _, _, q⟩ => q.elim⟩
theorem fn_def {x qual : Str} {st : Stmt} {f : Addr} {fd : FuncData} {N ps : List Str} {k n : Nat} {op : List Nat} {ms : M Fl} (F : FunD K x qual (defArgs st) (defBody st) (defScope st) [] [] f fd) (S : FnScope N ps (defScope st)) (hn : ps.length = n)
    (hbody : ∀ (cdv : Value) (A : Around) (outer : List Env) (s : Shared) (H : Hp) (E : XK), Room k (A.deeper (envOfC qual (defScope st) s.heap.objs.size f cdv)) →
      ∃ t, XSs (cxOf (L2.CX P w) P w K mg base N qual (defScope st) f cdv A outer s H E) cls op (fun c d _ H => E c d H) (defBody st) t ms) :
    FnOk P w K mg base (L2.CX P w) (k + 1) f fd ps (spD K cls op n (runD op n N.length ms)) :=
  fn_ok (FunD.fun' F) S hn (fun cdv A outer s H E hr => let ⟨t, h⟩ := hbody cdv A outer s H E hr; ⟨t, h.ps, h.snd⟩) fun _ _ _ _ => rfl
end
end L3
end S_Ma
section S_Na
set_option maxHeartbeats 0
/-! # more: what is not served, signs, two of a kind, dicts asked, lists searched -/
namespace L3
open PySem PySem.Spec PyProof.Rows L2
/-! ### not served -/
def dStk {α : Type} : M α := fun _ => .stk
section
variable {X : Cx} {cls : Ex → Addr} {W : WX} {op : List Nat} {pos : Pos}
theorem xstks {ss : List Stmt} : XSs X cls op W ss (fun _ _ _ => False) dStk := ⟨⟨fun _ _ _ _ _ _ h => h.elim⟩, fun _ _ _ _ _ _ _ _ h => (show False from h).elim⟩
/-! ### - -/
def negD : D → Option Vl
  | .int i => some (.fz (.int (-i)))
  | _ => none
variable {K : Fg} {F H : Hp}
theorem ud_neg : UnD K (rU fun i => .int (-i)) negD := by
  intro F H v d x sb h1 h Q q
  unfold negD at h
  split at h
  · cases h
    exact ⟨_, h1, q F H _ (Stp.refl sb) rfl⟩
  · cases h
theorem xneg {a : Expr} {ta : TE} {ma : M Vl} (ha : XE X cls W a ta ma) : XE X cls W (.UnaryOp .USub a pos) (tUn (rU fun i => .int (-i)) ta) (dUn negD ma) := ⟨pe_un un_neg ha.pe, snd_un ud_neg ha.snd⟩
/-! ### min, max of two -/
def cMin2 : List D → Option Vl
  | [.int i, .int j] => some (.fz (.int (if j < i then j else i)))
  | _ => none
def cMax2 : List D → Option Vl
  | [.int i, .int j] => some (.fz (.int (if j > i then j else i)))
  | _ => none
theorem RBs.twoV {d e : D} {vs : List V} (h : RBs K F H [d, e] vs) : ∃ v u, vs = [v, u] ∧ RB K F H d v ∧ RB K F H e u := h.two
theorem od_min2 : CallD K (fun xs H Q => ∃ i j, xs = [.int i, .int j] ∧ Q (.int (if j < i then j else i)) H) cMin2 := by
  intro F H vs ds x sb h1 h Q q
  unfold cMin2 at h
  split at h
  · cases h
    obtain ⟨v, u, e, hv, hu⟩ := h1.two
    rw [show v = .int _ from hv, show u = .int _ from hu] at e
    exact ⟨_, _, e, q F H _ (Stp.refl sb) rfl⟩
  · cases h
theorem od_max2 : CallD K (fun xs H Q => ∃ i j, xs = [.int i, .int j] ∧ Q (.int (if j > i then j else i)) H) cMax2 := by
  intro F H vs ds x sb h1 h Q q
  unfold cMax2 at h
  split at h
  · cases h
    obtain ⟨v, u, e, hv, hu⟩ := h1.two
    rw [show v = .int _ from hv, show u = .int _ from hu] at e
    exact ⟨_, _, e, q F H _ (Stp.refl sb) rfl⟩
  · cases h
/-! ### methods of lists that change nothing -/
def isLst : D → Bool
  | .lst _ => true
  | _ => false
def MtD (K : Fg) (r : V → List V → Hp → VK → Prop) (f : D → List D → Option Vl) : Prop := ∀ (F H : Hp) (v : V) (vs : List V) (d : D) (ds : List D) (x : Vl), Sub F H → RB K F H d v → RBs K F H ds vs → f d ds = some x → ∀ Q : VK, (∀ F' H' u, Stp [] F H F' H' → VR0 K F' H' H u x → Q u H') → r v vs H Q
def dBM (f : D → List D → Option Vl) (m : M Vl) (n : M (List Vl)) : M Vl := mB m fun x => mB (pk x) fun d => if isLst d = true then mB n fun xs => mB (pk x) fun d' => mB (pks xs) fun ds => lft (f d' ds) else fun _ => .stk
theorem snd_bm {r : V → List V → Hp → VK → Prop} {f : D → List D → Option Vl} {te : TE} {ta : TA} {m : M Vl} {n : M (List Vl)} (o : MtD K r f) (h1 : Snd K cls W te m) (h2 : SndA K cls W ta n) : Snd K cls W (tBM K "list" r te ta) (dBM f m n) := by
  intro σ env F H Q w h
  refine h1 σ env F H _ w (h.bind.imp (fun x env1 h1 F1 H1 v t1 r1 => ?_) fun c env1 h1 => h1)
  obtain ⟨d, hd, h3⟩ := h1.bind.pk
  by_cases hl : isLst d = true
  · rw [if_pos hl] at h3
    have w1 := w.to t1
    have rb := r1.rb w1 hd
    refine ⟨?_, ?_⟩
    · cases d with
      | lst ds =>
        obtain ⟨p, vs, e, hp, _⟩ := rb
        subst e
        exact .inl ⟨rfl, vs, SqL.of hp⟩
      | _ => cases hl
    · refine h2 σ env1 F1 H1 _ w1 (h3.bind.imp (fun xs env2 h4 F2 H2 vs t2 r2 nd => ?_) fun c env2 h4 F2 H2 t2 => h4 F2 H2 (t1.trans t2))
      obtain ⟨d', hd', h5⟩ := h4.bind.pk
      obtain ⟨ds, hds, h6⟩ := h5.bind.pks
      obtain ⟨y, hy, h7⟩ := h6.lft
      have w2 := w1.to t2
      refine o F2 H2 v vs d' ds y w2.sb ((r1.on w t1 t2).rb w2 hd') (r2.rbs w2 hds) hy Q fun F3 H3 u st rv => ?_
      have t3 := w2.step st fun _ z => nomatch z
      exact h7 F3 H3 u ((t1.trans t2).trans t3) (VR.since (t1.trans t2) rv.vr)
  · rw [if_neg hl] at h3; exact h3.elim
/-! ### xs.count(b), xs.index(y) -/
def rCntB (K : Fg) : V → List V → Hp → VK → Prop := fun x xs H Q => ∃ (p : Addr) (bs : List Bool) (k : Bool), x = .ref p ∧ xs = [.bl k] ∧ SqL K H p (bs.map V.bl) ∧ Q (.int (bs.count k : Nat)) H
theorem vals_bools : ∀ {bs : List Bool} {its : List Value}, Vals (bs.map V.bl) its → its = bs.map Value.bool
  | [], _, r => by cases r; rfl
  | b :: bs, _, r => by
    cases r with
    | cons r1 r2 =>
      rw [vals_bools r2]
      rw [show _ = Value.bool b from r1]; rfl
theorem count_bools (k : Bool) : ∀ bs : List Bool, (bs.map Value.bool).countP (eqU (.bl k)) = bs.count k
  | [] => rfl
  | b :: bs => by
    rw [List.map_cons, List.countP_cons, count_bools k bs, List.count_cons]
    cases b <;> cases k <;> rfl
theorem mt_countB {X : Cx} : MtR X "list.count" (rCntB X.K) := by
  intro pins s σ H x xs v us Q I rx rxs h
  obtain ⟨p, bs, k, rfl, rfl, hs, q⟩ := h
  cases rx
  obtain ⟨u, rfl, ru⟩ := rxs.one
  have ru' : u = .bool k := ru
  subst ru'
  obtain ⟨its, rv, ⟨⟨cls, dd, data, sl⟩, n, ho, hc, hdn, hd⟩, hlen⟩ := I.list hs
  simp only at hc hd
  subst hc hd
  have hi := vals_bools rv
  subst hi
  refine call_meets PySem.F.slot_list_count ⟨_, ho, rfl⟩ PySem.F.entry_list_count (PySem.F.args_list_count_2 _ _)
    (SeqAt.list_countAt p (bs.map Value.bool).toArray n dd sl (.bool k) (eqU (.bl k))) ⟨ho, fun u' hu' => mem_eqAt (x := .bl k) rfl rfl rv (by simp [flatV]) u' (by simpa using hu'), ?_⟩
  refine ⟨.int (bs.count k : Nat), H, I.tok _, ⟨s.toks, ?_⟩, q⟩
  show Value.int ((((bs.map Value.bool).toArray.toList.countP (eqU (.bl k))) : Nat) : Int) s.toks = Value.int ((bs.count k : Nat) : Int) s.toks
  rw [show (bs.map Value.bool).toArray.toList = bs.map Value.bool from rfl, count_bools]
def cCount : D → List D → Option Vl
  | .lst ds, [.bl b] => (blsOf ds).map fun bs => .fz (.int (bs.count b : Nat))
  | _, _ => none
theorem RBs.oneV {d : D} {vs : List V} (h : RBs K F H [d] vs) : ∃ v, vs = [v] ∧ RB K F H d v := h.one
theorem md_count : MtD K (rCntB K) cCount := by
  intro F H v vs d ds x sb h1 h2 h Q q
  unfold cCount at h
  split at h
  · rename_i d0 es b
    cases hb : blsOf es with
    | none => rw [hb] at h; cases h
    | some bs =>
      rw [hb] at h
      cases h
      obtain ⟨p, ws, rfl, hp, rs⟩ := h1
      obtain ⟨u, rfl, hu⟩ := h2.one
      rw [show u = .bl b from hu]
      have e := bls_rep hb rs
      subst e
      exact ⟨p, bs, b, rfl, rfl, SqL.of hp, q F H _ (Stp.refl sb) rfl⟩
  · cases h
def cIndex : D → List D → Option Vl
  | .lst ds, [y] => if flatD y = true ∧ ds.all flatD = true then (ds.findIdx? fun z => eqO z y == some true).map fun j => .fz (.int (j : Nat)) else none
  | _, _ => none
theorem md_index : MtD K (rIndex K) cIndex := by
  intro F H v vs d ds x sb h1 h2 h Q q
  unfold cIndex at h
  split at h
  · rename_i d0 es y
    by_cases hf : flatD y = true ∧ es.all flatD = true
    · rw [if_pos hf] at h
      cases hj : es.findIdx? fun z => eqO z y == some true with
      | none => rw [hj] at h; cases h
      | some j =>
        rw [hj] at h
        cases h
        obtain ⟨p, ws, rfl, hp, rs⟩ := h1
        obtain ⟨u, rfl, hu⟩ := h2.one
        obtain ⟨hlt, hjt, hno⟩ := List.findIdx?_eq_some_iff_getElem.mp hj
        obtain ⟨z, hz, rz⟩ := rs.get (List.getElem?_eq_getElem hlt)
        have fe : ∀ m (hm : m < es.length), flatD es[m] = true := fun m hm => List.all_eq_true.mp hf.2 _ (List.getElem_mem hm)
        refine ⟨p, ws, u, j, z, rfl, rfl, SqL.of hp, flat_v hf.1 hu, flat_all rs hf.2, hz, ?_, fun m z' hm hz' => ?_, q F H _ (Stp.refl sb) rfl⟩
        · rw [flat_eq (fe j hlt) hf.1 (flat_rb (fe j hlt) rz) hu]; exact hjt
        · have hml : m < es.length := by omega
          obtain ⟨z2, hz2, rz2⟩ := rs.get (List.getElem?_eq_getElem hml)
          rw [hz'] at hz2; cases hz2
          rw [flat_eq (fe m hml) hf.1 (flat_rb (fe m hml) rz2) hu]
          simpa using hno m hm
    · rw [if_neg hf] at h; cases h
  · cases h
end
section
variable {X : Cx} {cls : Ex → Addr} {W : WX}
theorem xcount {K : Fg} {a b : Expr} {es : List Expr} {ta : TE} {ma : M Vl} {t : TA} {n : M (List Vl)} {apos cpos : Pos} (ha : XE X cls W a ta ma) (hb : XA X cls W (b :: es) t n) (hbase : attributeBase a "count" X.env (eval a X.env) = eval a X.env := by rfl)
    (hfew : ((backTo cpos (starEach (b :: es) X.env)).all (fun x => !x.1) && (backToKw cpos (keywordEach [] X.env)).all (fun x => x.1.isSome) && decide ((b :: es).length + ([] : List Keyword).length + (if ([] : List Keyword).isEmpty then 0 else 1) < 30)) = true := by rfl)
    (hline : (apos.endLine == cpos.line) = true := by rfl) (hs : starEach (b :: es) X.env = (false, eval b X.env) :: starEach es X.env := by rfl) (hplain : (backTo cpos (starEach es X.env)).any (·.1) = false := by rfl) (hK : X.K = K := by rfl) :
    XE X cls W (.Call (.Attribute a "count" apos) (b :: es) [] cpos) (tBM K "list" (rCntB K) ta t) (dBM cCount ma n) := by
  subst hK
  exact ⟨pe_bm PySem.F.plainAttrs_list PySem.F.slot_list_count PySem.F.type_list_count mt_countB ha.pe hb.pa hbase hfew hline hs hplain, snd_bm md_count ha.snd hb.snd⟩
theorem xindex {K : Fg} {a b : Expr} {es : List Expr} {ta : TE} {ma : M Vl} {t : TA} {n : M (List Vl)} {apos cpos : Pos} (ha : XE X cls W a ta ma) (hb : XA X cls W (b :: es) t n) (hbase : attributeBase a "index" X.env (eval a X.env) = eval a X.env := by rfl)
    (hfew : ((backTo cpos (starEach (b :: es) X.env)).all (fun x => !x.1) && (backToKw cpos (keywordEach [] X.env)).all (fun x => x.1.isSome) && decide ((b :: es).length + ([] : List Keyword).length + (if ([] : List Keyword).isEmpty then 0 else 1) < 30)) = true := by rfl)
    (hline : (apos.endLine == cpos.line) = true := by rfl) (hs : starEach (b :: es) X.env = (false, eval b X.env) :: starEach es X.env := by rfl) (hplain : (backTo cpos (starEach es X.env)).any (·.1) = false := by rfl) (hK : X.K = K := by rfl) :
    XE X cls W (.Call (.Attribute a "index" apos) (b :: es) [] cpos) (tBM K "list" (rIndex K) ta t) (dBM cIndex ma n) := by
  subst hK
  exact ⟨pe_bm PySem.F.plainAttrs_list PySem.F.slot_list_index PySem.F.type_list_index mt_index ha.pe hb.pa hbase hfew hline hs hplain, snd_bm md_index ha.snd hb.snd⟩
end
end L3
end S_Na
section S_Nb
set_option maxHeartbeats 0
/-! # a refusal caught, kept, asked for its kind -/
namespace L3
open PySem PySem.Spec PyProof.Rows L2
theorem exV_ok {P : Program} {w : World} {H : Hp} {h : Heap} {a : Addr} {cls : Value} {oe : Obj} {vs : Array Value} (e : h.get? a = some oe) (z : Zc cls none oe) (d : oe.data = .fields vs) : ObjOk P w H h a (ExV cls a) :=
  ⟨⟨oe, vs, e, z, d⟩, ⟨oe, e⟩, fun _ _ ⟨o, v, q, r⟩ k => ⟨o, v, k o q, r⟩⟩
section
variable {X : Cx} {pins : List (Addr × Obj)} {σ : L2.St} {H : Hp} {s : Shared}
/-- the exception that a suite held is tracked from then on -/
theorem trackX {a : Addr} {oe : Obj} {vs : Array Value} {cls : Value} (I : Inv (X.suite a ((a, oe) :: (X.pn ++ pins))) [] σ H s) (ok : X.Ok) (hz : Zc cls none oe) (hd : oe.data = .fields vs) (h0 : X.s_0.heap.get? a = none) (np : ∀ p ∈ X.pn ++ pins, p.1 ≠ a) : Inv X pins σ (upd H a (ExV cls a)) s := by
  obtain ⟨pe, pn, pl, pf, pd⟩ := I.pin (a, oe) (List.mem_append.mpr (.inl List.mem_cons_self))
  have ne0 : ∀ b o, X.s_0.heap.get? b = some o → b ≠ a := fun b o e z => by rw [z, h0] at e; cases e
  refine ⟨ok, I.os, I.bare, ⟨I.base.keep, I.base.slot, fun b o e n hx => ?_, I.base.there, fun b xs e => ?_, fun b o u e => ?_, fun b ps e => ?_⟩, I.loc, I.cell, ?_, fun x c e => ?_, fun p hp => ?_, ?_, I.len⟩
  · rw [upd_ne (ne0 b o e)]; exact I.base.free b o e n hx
  · have q := I.base.tups b xs e
    rw [upd_ne (ne_of_none q pn)]; exact q
  · have q := I.base.frzs b o u e
    rw [upd_ne (ne_of_none q pn)]; exact q
  · obtain ⟨m, q⟩ := I.base.tbls b ps e
    exact ⟨m, by rw [upd_ne (ne_of_none q pn)]; exact q⟩
  · rw [upd_ne (show X.env.locals ≠ a from fun z => pl z.symm)]; exact I.free
  · have hne : c ≠ a := fun z => by
      obtain ⟨v, o, ho, hdv⟩ := I.cell x c e
      have pe' : s.heap.get? a = some oe := pe
      rw [z, pe'] at ho
      cases ho
      exact pd v hdv
    rw [upd_ne hne]; exact I.freeC x c e
  · obtain ⟨q1, q2, q3⟩ := I.pin p (List.mem_append.mpr (.inl (List.mem_cons_of_mem _ hp)))
    exact ⟨q1, by rw [upd_ne (np p hp)]; exact q2, q3⟩
  · exact HOk.laidN I.hok (fun _ _ e => e) pn (exV_ok pe hz hd)
end
/-- what the clause 'except x as n' wishes, where the exception is kept behind it -/
def wAsT (K : PySem.W.Frag) (c : Value) (i : Nat) (ts : Addr → Value → Option Addr → TS) (Wout : WX) (D : Ends) : WX := fun cls d σ H =>
  ∃ b, PySem.W.exmOne K cls c = some b ∧ (b = true → d = none ∧ ∀ a, H a = none → ts a cls d { nx := fun σ' H' => D.nx (σ'.set i none) (upd H' a (ExV cls a)), rt := D.rt } (σ.set i (some (.ref a))) H) ∧
    (b = false → Wout cls d σ H)
section
variable {X : Cx} {x n : Str} {c : Value} {i : Nat} {body suite : List Stmt} {b₀ : Stmt} {np pos pos' : Pos} {tb : WX → TS} {ts : Addr → Value → Option Addr → TS} {Wout : WX}
theorem ps_try_asT (hx : X.ex = []) (hs : X.stack = X.env :: X.outer) (hf : X.env.frame = some X.env.locals) (hN : X.N.Nodup) (hi : X.N[i]? = some n) (hln : X.env.kindOf n = some .local) (hc : Names X x c) (tk : Takes X Wout)
    (hb : ∀ (W : WX) (pn : List (Addr × Obj)) (xe : Value → Shared → Prop), Takes (X.tr pn xe) W → PassesOwn (model X.prog X.w) X.A X.env xe → PSs (X.tr pn xe) body (tb W))
    (hsu : ∀ (a : Addr) (oe : Obj) (cls : Value) (d : Option Addr) (pn : List (Addr × Obj)), Zc cls d oe → (∃ vs, oe.data = .fields vs) → PSs (X.suite a ((a, oe) :: pn)) (b₀ :: suite) (ts a cls d)) :
    PS X (.Try body [.ExceptHandler (some (.Name x np)) (some n) (b₀ :: suite) pos'] [] [] pos) (fun D σ H => tb (wAsT X.K c i ts Wout D) D σ H) := by
  refine ⟨fun pins s σ H D I h => ?_⟩
  have ok := I.ok
  have hfr : X.A.frames = some (X.env :: X.outer) := by rw [ok.frames, hs]
  have hloc : Loc X.env.scope n := .inl hln
  refine wpAny_Try_except ?_
  refine wpAny_mono ((hb (wAsT X.K c i ts Wout D) (X.pn ++ pins) (fun e s₁ => wpAny (model X.prog X.w) X.A (noteFrame e X.env) (fun _ s₂ => wpAny (model X.prog X.w) X.A (setFlight e none) (fun _ s₃ =>
    wpAny (model X.prog X.w) X.A (handleBy e X.env [.ExceptHandler (some (.Name x np)) (some n) (b₀ :: suite) pos']) (SP X pins D) X.xe s₃) X.xe s₂) X.xe s₁) (fun u s' xx => ?_) PassesOwn.looking).run [] s σ H D (I.toTry _) h) (fun f s1 hsp => ?_) (fun e s1 he => he)
  · -- the catch
    obtain ⟨a, B, sI, pins', σ', H', cls, d, rfl, J', nb, up, sky, na, os, ag, b, hb1, hyes, hno⟩ := xx
    have J : Inv X pins σ' H' sI := J'.ofTry ok
    have sky' : Sky B (X.env :: X.outer) a (Zc cls d) X.env.locals s'.heap := by rw [← hs]; exact sky
    show wpAny (model X.prog X.w) X.A (noteFrame (.ref a) X.env) _ _ _
    refine Sky.land Zc.steady hfr hf sky' fun h3 fl3 up3 => ?_
    have J3 : Inv X pins σ' H' { s' with heap := h3 } := J.landed nb fl3.1 (up.trans up3) os ag
    obtain ⟨oe3, vs3, he3, hz3, hd3⟩ := fl3.there
    have notFr : ∀ {h : Heap} {o : Obj} {vs : Array Value}, h.FunFrames B (X.env :: X.outer) → h.get? a = some o → o.data = .fields vs → a ∉ frs (X.env :: X.outer) := fun {h o vs} ff e dd hm => by
      obtain ⟨_, o', e', hnf⟩ := ff.mem hm
      rw [e] at e'; cases e'
      exact hnf _ dd
    have nfr := notFr fl3.2.2.1 he3 hd3
    have nL : a ≠ X.env.locals := fun z => nfr (List.mem_filterMap.mpr ⟨X.env, List.mem_cons_self, by rw [hf, z]⟩)
    have nF : a ∉ X.fs := fun hm => by
      obtain ⟨e, he, q⟩ := List.mem_filterMap.mp hm
      exact nfr (List.mem_filterMap.mpr ⟨e, List.mem_cons_of_mem _ he, q⟩)
    -- it is new
    have Ba : B.get? a = none := fl3.2.1
    have nI : sI.heap.get? a = none := by
      cases e : sI.heap.get? a with
      | none => rfl
      | some o =>
        have := nb a o e (by rw [hs]; exact nfr)
        rw [Ba] at this; cases this
    have n0 : X.s_0.heap.get? a = none := by
      cases e : X.s_0.heap.get? a with
      | none => rfl
      | some o =>
        obtain ⟨o', q⟩ := J.base.there a o e (by rw [hx]; exact fun z => nomatch z)
        rw [nI] at q; cases q
    have npins : ∀ p ∈ X.pn ++ pins, p.1 ≠ a := fun p hp z => by
      obtain ⟨q1, _⟩ := J.pin p hp
      rw [z, nI] at q1; cases q1
    have S3 := J3.suite he3 hd3 na nL nF
    refine wpAny_handleBy_cons (codeAny_handlers_test ?_) (by intro q; cases q)
    have LT : PySem.W.Looks (model X.prog X.w) h3 (typeOf (.ref a)) cls := fun A Q E s k q => wpAny_typeOf_ref (k _ _ he3) (by rw [hz3.1]; exact q)
    have LM := PySem.W.exm_one (M := model X.prog X.w) (J3.kIn) LT hb1
    have test : ∀ {Q : Value → Shared → Prop} {E : Value → Shared → Prop}, Q c { s' with heap := h3 } → wpAny (model X.prog X.w) (X.A.mark (some (.ref a))) (eval (.Name x np) X.env) Q E { s' with heap := h3 } := fun {Q E} q => by
      obtain ⟨hg, hdbg, hm | ⟨hm, hv, hnn⟩⟩ := hc
      · exact ld_glob (X := X.suite a ((a, oe3) :: (X.pn ++ pins))) S3 hg hm q hdbg
      · exact ld_blt (X := X.suite a ((a, oe3) :: (X.pn ++ pins))) S3 hg hm hv q hnn hdbg
    refine test (LM.here ?_)
    cases b with
    | true =>
      obtain ⟨hd0, hyes⟩ := hyes rfl
      subst hd0
      refine codeAny_handlers_suite_as ?_
      refine HandSPX.lands_againZ fl3 fun h4 fl4 up4 => ?_
      have J4 : Inv X pins σ' H' { s' with heap := h4 } := J.landed nb fl4.1 ((up.trans up3).trans up4) os ag
      obtain ⟨oe4, vs4, he4, hz4, hd4⟩ := fl4.there
      have S4 := J4.suite he4 hd4 na nL nF
      refine store_ok (X := X.suite a ((a, oe4) :: (X.pn ++ pins))) (v := .ref a) S4 hN hi hloc rfl (fun s5 S5 => ?_) (.inr hln)
      refine wpAny_mono ((hsu a oe4 cls none (X.pn ++ pins) hz4 ⟨_, hd4⟩).run [] s5 _ H' _ S5 (hyes a na)) (fun f s6 hsp => ?_) (fun _ _ z => False.elim z)
      cases f with
      | next =>
        obtain ⟨σ6, H6, S6, q6⟩ := hsp
        exact gone_ok (trackX S6 ok hz4 hd4 n0 npins) hN hi hln fun s7 J7 => ⟨_, _, J7, q6⟩
      | brk =>
        obtain ⟨σ6, H6, S6, q6⟩ := hsp
        exact q6.elim
      | cont =>
        obtain ⟨σ6, H6, S6, q6⟩ := hsp
        exact q6.elim
      | ret u =>
        obtain ⟨v6, σ6, H6, S6, r6, q6⟩ := hsp
        exact gone_ok (S6.unsuite ok) hN hi hln fun s7 J7 => ⟨_, _, _, J7, r6, q6⟩
    | false =>
      show wpAny _ X.A (handleBy (.ref a) X.env []) _ _ _
      refine wpAny_handleBy_nil ?_
      obtain ⟨k1, k2, k3, oe, vs, T, oT, ts', he, hz, hd, h1, hr⟩ := id fl3
      unfold PySem.passOn
      refine wpAny_bind (wpAny_field he hd h1 ?_)
      rw [if_neg (show ¬ ((Value.ref T == Value.none) = true) from by simp)]
      have fin : wpAny (model X.prog X.w) X.A (setFlight (.ref a) X.env.frame) (fun _ s4 => wpAny (model X.prog X.w) X.A (throw (.ref a) : Sem Flow) (SP X pins D) X.xe s4) X.xe { s' with heap := h3 } := by
        rw [hf]
        refine HandSPX.setFlight_upZ fl3 fun h4 hh4 up4 => wpAny_throw (tk _ _ ?_)
        exact ⟨a, B, sI, pins, σ', H', cls, d, rfl, J, nb, (up.trans up3).trans up4, .inr (.inr (by rw [hs]; exact hh4)), na, os, ag, hno rfl⟩
      first
        | exact wpAny_bind (wpAny_pure (wpAny_bind fin))
        | exact wpAny_bind fin
  · cases f with
    | next =>
      obtain ⟨σ', H', J', q⟩ := hsp
      exact wpAny_execs_nil ⟨σ', H', J'.ofTry ok, q⟩
    | brk =>
      obtain ⟨σ', H', J', q⟩ := hsp
      exact ⟨σ', H', J'.ofTry ok, q⟩
    | cont =>
      obtain ⟨σ', H', J', q⟩ := hsp
      exact ⟨σ', H', J'.ofTry ok, q⟩
    | ret u =>
      obtain ⟨v, σ', H', J', r, q⟩ := hsp
      exact ⟨v, σ', H', J'.ofTry ok, r, q⟩
end
/-- try: body / except X as n: y = n; n in slot i, y in slot j -/
def dTry (cs : List Ex) (i j : Nat) (mb : M Fl) : M Fl := fun e => match mb e with
  | .ok f e' => .ok f e'
  | .exc c e' => if c ∈ cs ∧ i < e'.length then .ok .nx (((e'.set i (.fz (.exn c))).set j (.fz (.exn c))).set i .no) else .stk
  | .stk => .stk
section
variable {K : Fg} {cls : Ex → Addr} {W : WX} {op : List Nat}
theorem snds_try {cs : List Ex} {i j : Nat} {C0 : Addr} {tb : WX → TS} {mb : M Fl} (hi : i ∉ op) (hj : j ∉ op) (fx : ∀ c ∈ cs, PySem.W.exmOne K (.ref (cls c)) (.ref C0) = some true) (hcl : ∀ c, cls c = clsU K c) (hb : ∀ W', SndS K cls op W' (tb W') mb) :
    SndS K cls op W (fun D σ H => tb (wAsT K (.ref C0) i (fun _ _ _ => tAsg (tVar i) (gName j)) W D) D σ H) (dTry cs i j mb) := by
  intro C σ env F H D ho ws h
  refine hb _ C σ env F H D ho ws ?_
  unfold dTry at h
  cases q : mb env with
  | ok f e' => rw [q] at h; exact h
  | stk => rw [q] at h; exact h
  | exc c e' =>
    rw [q] at h
    by_cases hc : c ∈ cs ∧ i < e'.length
    · simp only [if_pos hc] at h
      intro σ' F' H' ws'
      refine ⟨true, fx c hc.1, fun _ => ⟨rfl, fun a ha => ?_⟩, fun z => nomatch z⟩
      have hl : σ'.length = e'.length := ws'.w.er.len
      refine ⟨.ref a, by rw [List.getElem?_set_self (by omega)], ?_⟩
      show D.nx (((σ'.set i (some (.ref a))).set j (some (.ref a))).set i none) (upd H' a (ExV (.ref (cls c)) a))
      have st : Stp [] F' H' (upd F' a (ExV (.ref (cls c)) a)) (upd H' a (ExV (.ref (cls c)) a)) := Stp.lay ws'.w.sb ha
      have w1 := ws'.to (ws'.w.step st fun _ z => nomatch z)
      have rp : Rep K (upd F' a (ExV (.ref (cls c)) a)) (.exn c) (.ref a) := ⟨a, rfl, by rw [upd_same, hcl c]⟩
      subst ho
      have w2 := w1.put hi (v := .ref a) (e := .fz (.exn c)) ⟨_, rfl, rp⟩ put_fz
      have w3 := w2.put hj (v := .ref a) (e := .fz (.exn c)) ⟨_, rfl, rp⟩ put_fz
      exact h _ _ _ (w3.drop hi)
    · simp only [if_neg hc] at h
      exact h.elim
end
section
variable {X : Cx} {cls : Ex → Addr} {W : WX} {op : List Nat}
theorem stry {cs : List Ex} {i j : Nat} {x n : Str} {C0 : Addr} {body suite : List Stmt} {b₀ : Stmt} {np pos pos' : Pos} {tb : WX → TS} {mb : M Fl} (hio : i ∉ op) (hjo : j ∉ op) (hN : X.N.Nodup) (tk : Takes X W) (fx : ∀ c ∈ cs, PySem.W.exmOne X.K (.ref (cls c)) (.ref C0) = some true) (hcl : ∀ c, cls c = clsU X.K c)
    (gC : X.mg x = some (.ref C0)) (hb : ∀ (W' : WX) (pn : List (Addr × Obj)) (xe : Value → Shared → Prop), Takes (X.tr pn xe) W' → XSs (X.tr pn xe) cls op W' body (tb W') mb)
    (hsu : ∀ (a : Addr) (oe : Obj) (pn : List (Addr × Obj)), PSs (X.suite a ((a, oe) :: pn)) (b₀ :: suite) (tAsg (tVar i) (gName j)))
    (hi : X.N[i]? = some n := by rfl) (hx : X.ex = [] := by rfl) (hs : X.stack = X.env :: X.outer := by rfl) (hf : X.env.frame = some X.env.locals := by rfl) (hln : X.env.kindOf n = some .local := by rfl) (hg : Gl X x := by rfl) (hd : (x == ("__debug__" : Str)) = false := by decide) :
    XS X cls op W (.Try body [.ExceptHandler (some (.Name x np)) (some n) (b₀ :: suite) pos'] [] [] pos) (fun D σ H => tb (wAsT X.K (.ref C0) i (fun _ _ _ => tAsg (tVar i) (gName j)) W D) D σ H) (dTry cs i j mb) :=
  ⟨ps_try_asT hx hs hf hN hi hln ⟨hg, hd, .inl gC⟩ tk (fun W' pn xe tk' _ => (hb W' pn xe tk').ps) fun a oe _ _ pn _ _ => hsu a oe pn,
    snds_try hio hjo fx hcl fun W' => (hb W' [] (fun _ _ => True) fun _ _ _ => trivial).snd⟩
end
/-! ### isinstance of one that is kept -/
def rIsX (K : Fg) : List V → Hp → VK → Prop := fun xs H Q => ∃ (a D0 : Addr) (c : V) (cv : Value) (b : Bool), xs = [.ref a, c] ∧ H a = some (ExV (.ref D0) a) ∧ ExcC K D0 ∧ (∀ u, RelV c u → u = cv) ∧ PySem.W.kitOne K (.ref D0) cv = some b ∧ Q (.bl b) H
theorem call_isX {X : Cx} : CallR X (.builtin "isinstance") (rIsX X.K) := by
  intro pins s σ H xs us Q I r h
  obtain ⟨a, D0, c, cv, b, rfl, ha, C, hcv, e, q⟩ := h
  cases r with
  | cons rx rr =>
    cases rr with
    | cons rt rr =>
      cases rr
      cases rx
      have ec := hcv _ rt
      subst ec
      obtain ⟨⟨oe, vs, hget, hz, hv⟩, _⟩ := I.hok a _ ha
      have J : PySem.W.InstAt s.heap a oe D0 none := by
        obtain ⟨oc, od, oda, osl⟩ := oe
        obtain ⟨h1, h2⟩ := hz
        dsimp only at h1 h2 hv
        subst h1 h2 hv
        exact ⟨hget, rfl, rfl, trivial⟩
      exact PySem.W.kia_one (PySem.W.handS_kitx_exc C.hg C.hk C.hs C.hd C.ha C.hn C.ht C.hm) I.kIn J e (fun z => nomatch z) fun tk => ⟨.bl b, H, I.kept (t' := tk) fun _ _ z => z, rfl, q⟩
theorem KisX {X : Cx} (K : Fg) (hK : X.K = K := by rfl) : CallR X (.builtin "isinstance") (rIsX K) := hK ▸ call_isX
/-- what is known of the classes of refusals -/
structure XF (K : Fg) (cs : List Ex) : Prop where
  c : ∀ x ∈ cs, ExcC K (clsU K x)
  k : ∀ x ∈ cs, ∀ y ∈ cs, PySem.W.kitOne K (.ref (clsU K x)) (.ref (clsU K y)) = some (decide (x = y))
  v : ∀ x ∈ cs, PySem.W.kitOne K (.ref (clsU K x)) (.type "ValueError") = some true
def cIsx (cs : List Ex) : List D → Option Vl
  | [.exn x, .cl y] => if x ∈ cs ∧ y ∈ cs then some (.fz (.bl (decide (x = y)))) else none
  | [.exn x, .ty n] => if x ∈ cs ∧ n = "ValueError" then some (.fz (.bl true)) else none
  | _ => none
theorem od_isx {K : Fg} {cs : List Ex} (f : XF K cs) : CallD K (rIsX K) (cIsx cs) := by
  intro F H vs ds x sb h1 h Q q
  unfold cIsx at h
  split at h
  · rename_i a b
    by_cases hc : a ∈ cs ∧ b ∈ cs
    · rw [if_pos hc] at h
      cases h
      obtain ⟨v, u, rfl, hv, hu⟩ := h1.two
      obtain ⟨p, rfl, hp⟩ := hv
      rw [show u = .ref (clsU K b) from hu]
      exact ⟨p, _, _, .ref (clsU K b), _, rfl, hp, f.c a hc.1, fun u r => by cases r; rfl, f.k a hc.1 b hc.2, q F H _ (Stp.refl sb) rfl⟩
    · rw [if_neg hc] at h; cases h
  · rename_i a n
    by_cases hc : a ∈ cs ∧ n = "ValueError"
    · rw [if_pos hc] at h
      cases h
      obtain ⟨v, u, rfl, hv, hu⟩ := h1.two
      obtain ⟨p, rfl, hp⟩ := hv
      rw [show u = .ty n from hu, hc.2]
      exact ⟨p, _, _, .type "ValueError", _, rfl, hp, f.c a hc.1, fun u r => by cases r; rfl, f.v a hc.1, q F H _ (Stp.refl sb) rfl⟩
    · rw [if_neg hc] at h; cases h
  · cases h
theorem xcl {X : Cx} {cls : Ex → Addr} {W : WX} {c : Ex} {K : Fg} {x : Str} {pos : Pos} (h : X.mg x = some (.ref (clsU K c))) (hK : X.K = K := by rfl) (hg : Gl X x := by rfl) (hd : (x == ("__debug__" : Str)) = false := by decide) : XE X cls W (.Name x pos) (tC (.ref (clsU K c))) (dC (.cl c)) := by
  subst hK
  exact ⟨pe_glob hg h rfl hd, snd_c fun _ => rfl⟩
end L3
end S_Nb
section S_Nh
set_option maxHeartbeats 0
/-! # the head's facts, with those of the classes of refusals -/
namespace L3
open PySem PySem.Spec PyProof.Rows L2
def excB (K : Fg) (D0 : Addr) : Bool :=
  He.eqO (PySem.W.findIn K (.ref D0) "__getattribute__") (some (some (.builtin "BaseException.__getattribute__"))) && (He.eqO (PySem.W.findIn K (.ref D0) "__getattr__") (some none) && (decide (PySem.W.subIn K (.ref D0) (.type "BaseException") = some true) && (PySem.W.hasDictIn K D0 &&
    (He.eqO (PySem.W.findIn K (.ref D0) "__class__") (some (some (.builtin "object.__class__"))) && (He.eqO (PySem.W.specialIn K (.builtin "object.__class__") "__get__") (some (some (.builtin "getset_descriptor.__get__"))) && (decide (PySem.W.takesIn K (.builtin "object.__class__") = some true) && decide (PySem.W.mroIn K D0 (.type "object") = some true)))))))
theorem excB_ok {K : Fg} {D0 : Addr} (h : excB K D0 = true) : ExcC K D0 := by
  obtain ⟨h1, h⟩ := He.ba h
  obtain ⟨h2, h⟩ := He.ba h
  obtain ⟨h3, h⟩ := He.ba h
  obtain ⟨h4, h⟩ := He.ba h
  obtain ⟨h5, h⟩ := He.ba h
  obtain ⟨h6, h⟩ := He.ba h
  obtain ⟨h7, h8⟩ := He.ba h
  exact ⟨He.eqO_ok h1, He.eqO_ok h2, of_decide_eq_true h3, h4, He.eqO_ok h5, He.eqO_ok h6, of_decide_eq_true h7, of_decide_eq_true h8⟩
def exB (cs : List Ex) (K : Fg) : Bool := cs.all fun x => excB K (clsU K x) && ((cs.all fun y => decide (PySem.W.kitOne K (.ref (clsU K x)) (.ref (clsU K y)) = some (decide (x = y)))) && (decide (PySem.W.kitOne K (.ref (clsU K x)) (.type "ValueError") = some true) && decide (PySem.W.exmOne K (.ref (clsU K x)) (.ref (He.ga K "DashError")) = some true)))
theorem exB_ok {cs : List Ex} {K : Fg} (h : exB cs K = true) : XF K cs ∧ ∀ c ∈ cs, PySem.W.exmOne K (.ref (clsU K c)) (.ref (He.ga K "DashError")) = some true := by
  have h0 := List.all_eq_true.mp h
  refine ⟨⟨fun x hx => ?_, fun x hx y hy => ?_, fun x hx => ?_⟩, fun x hx => ?_⟩ <;> obtain ⟨h1, h2⟩ := He.ba (h0 x hx)
  · exact excB_ok h1
  · exact of_decide_eq_true (List.all_eq_true.mp (He.ba h2).1 y hy)
  · exact of_decide_eq_true (He.ba (He.ba h2).2).1
  · exact of_decide_eq_true (He.ba (He.ba h2).2).2
abbrev AlX : Type := Bool × He.AlD
def obsX (fa : List He.Fa) (fn : List He.DefD) (ex : Fg → Bool) (K : Fg) : AlX := (ex K, He.obsD fa fn K)
def obsXG (n : Nat) (fa : List He.Fa) (fn : List He.DefD) (ex : Fg → Bool) (g : Addr → Option Obj) : AlX := obsX fa fn ex (He.frG g (He.asD g n))
def SaysX (fa : List He.Fa) (fn : List He.DefD) (ex : Fg → Bool) (K : Fg) : Prop := obsX fa fn ex K = (true, He.valD fn)
theorem SaysX.d {fa : List He.Fa} {fn : List He.DefD} {ex : Fg → Bool} {K : Fg} (c : SaysX fa fn ex K) : He.SaysD fa fn K := congrArg (fun z : AlX => z.2) c
theorem SaysX.e {fa : List He.Fa} {fn : List He.DefD} {ex : Fg → Bool} {K : Fg} (c : SaysX fa fn ex K) : ex K = true := congrArg (fun z : AlX => z.1) c
def hookX (n : Nat) (fa : List He.Fa) (fn : List He.DefD) (ex : Fg → Bool) : PySem.W.Hook where
  α := AlX
  obs := fun s => obsXG n fa fn ex s.heap.get?
  val := fun _ => (true, He.valD fn)
  says := fun _ h => ∃ K : PySem.W.Frag, K.In h ∧ SaysX fa fn ex K
  of := fun _ _ e => ⟨_, He.frG_in, e⟩
  keeps := fun _ _ _ ⟨K, hK, c⟩ k => ⟨K, PySem.W.Frag.In.keeps hK k, c⟩
theorem obsXG_eq {n : Nat} {fa : List He.Fa} {fn : List He.DefD} {ex : Fg → Bool} {g : Addr → Option Obj} {s : Shared} (h : ∀ a, g a = s.heap.get? a) : obsXG n fa fn ex g = (hookX n fa fn ex).obs s := by
  have e : g = s.heap.get? := funext h
  rw [e] <;> rfl
end L3
end S_Nh
section S_K62h
set_option maxHeartbeats 0
namespace K62
open PySem PySem.Spec PyProof.Rows L2
/-! ### the text by places (printed by head.py) -/
def top (i : Nat) : Stmt := PySem.Challenge.pw_dashlines_k62_refused_asks.main.body.getD i (.Pass ⟨0, 0, 0, 0⟩)
abbrev s_is_whole : Stmt := top 16
def d_is_whole : He.DefD := ⟨("is_whole", none), "is_whole", "is_whole", defArgs s_is_whole, defBody s_is_whole, defScope s_is_whole, [], []⟩
abbrev s_is_word : Stmt := top 17
def d_is_word : He.DefD := ⟨("is_word", none), "is_word", "is_word", defArgs s_is_word, defBody s_is_word, defScope s_is_word, [], []⟩
abbrev s_is_plain : Stmt := top 18
def d_is_plain : He.DefD := ⟨("is_plain", none), "is_plain", "is_plain", defArgs s_is_plain, defBody s_is_plain, defScope s_is_plain, [], []⟩
abbrev s_parts_of : Stmt := top 19
def d_parts_of : He.DefD := ⟨("parts_of", none), "parts_of", "parts_of", defArgs s_parts_of, defBody s_parts_of, defScope s_parts_of, [], []⟩
abbrev s_look_worth : Stmt := top 20
def d_look_worth : He.DefD := ⟨("look_worth", none), "look_worth", "look_worth", defArgs s_look_worth, defBody s_look_worth, defScope s_look_worth, [], []⟩
abbrev s_copied : Stmt := top 21
def d_copied : He.DefD := ⟨("copied", none), "copied", "copied", defArgs s_copied, defBody s_copied, defScope s_copied, [], []⟩
abbrev s_inside : Stmt := top 22
def d_inside : He.DefD := ⟨("inside", none), "inside", "inside", defArgs s_inside, defBody s_inside, defScope s_inside, [], []⟩
abbrev s_all_paths : Stmt := top 23
def d_all_paths : He.DefD := ⟨("all_paths", none), "all_paths", "all_paths", defArgs s_all_paths, defBody s_all_paths, defScope s_all_paths, [], []⟩
abbrev s_changed_at : Stmt := top 24
def d_changed_at : He.DefD := ⟨("changed_at", none), "changed_at", "changed_at", defArgs s_changed_at, defBody s_changed_at, defScope s_changed_at, [], []⟩
abbrev s_is_step : Stmt := top 29
def d_is_step : He.DefD := ⟨("is_step", none), "is_step", "is_step", defArgs s_is_step, defBody s_is_step, defScope s_is_step, [], []⟩
abbrev s_look_ask : Stmt := top 30
def d_look_ask : He.DefD := ⟨("look_ask", none), "look_ask", "look_ask", defArgs s_look_ask, defBody s_look_ask, defScope s_look_ask, [], []⟩
abbrev s_fits : Stmt := top 31
def d_fits : He.DefD := ⟨("fits", none), "fits", "fits", defArgs s_fits, defBody s_fits, defScope s_fits, [], []⟩
abbrev s_asked : Stmt := top 32
def d_asked : He.DefD := ⟨("asked", none), "asked", "asked", defArgs s_asked, defBody s_asked, defScope s_asked, [], []⟩
abbrev s_sought : Stmt := top 33
def d_sought : He.DefD := ⟨("sought", none), "sought", "sought", defArgs s_sought, defBody s_sought, defScope s_sought, [], []⟩
abbrev s_replaced : Stmt := top 34
def d_replaced : He.DefD := ⟨("replaced", none), "replaced", "replaced", defArgs s_replaced, defBody s_replaced, defScope s_replaced, [], []⟩
abbrev s__law_cell : Stmt := top 36
def d__law_cell : He.DefD := ⟨("_law_cell", none), "_law_cell", "_law_cell", defArgs s__law_cell, defBody s__law_cell, defScope s__law_cell, [], []⟩
abbrev s__law_mix : Stmt := top 37
def d__law_mix : He.DefD := ⟨("_law_mix", none), "_law_mix", "_law_mix", defArgs s__law_mix, defBody s__law_mix, defScope s__law_mix, [], []⟩
abbrev s__law_draw : Stmt := top 38
def d__law_draw : He.DefD := ⟨("_law_draw", none), "_law_draw", "_law_draw", defArgs s__law_draw, defBody s__law_draw, defScope s__law_draw, [], []⟩
abbrev s__law_pick : Stmt := top 39
def d__law_pick : He.DefD := ⟨("_law_pick", none), "_law_pick", "_law_pick", defArgs s__law_pick, defBody s__law_pick, defScope s__law_pick, [], []⟩
abbrev s__law_refusal : Stmt := top 40
def d__law_refusal : He.DefD := ⟨("_law_refusal", none), "_law_refusal", "_law_refusal", defArgs s__law_refusal, defBody s__law_refusal, defScope s__law_refusal, [], []⟩
abbrev s__law_word : Stmt := top 41
def d__law_word : He.DefD := ⟨("_law_word", none), "_law_word", "_law_word", defArgs s__law_word, defBody s__law_word, defScope s__law_word, [], []⟩
abbrev s__law_plain_one : Stmt := top 42
def d__law_plain_one : He.DefD := ⟨("_law_plain_one", none), "_law_plain_one", "_law_plain_one", defArgs s__law_plain_one, defBody s__law_plain_one, defScope s__law_plain_one, [], []⟩
abbrev s__law_worth : Stmt := top 43
def d__law_worth : He.DefD := ⟨("_law_worth", none), "_law_worth", "_law_worth", defArgs s__law_worth, defBody s__law_worth, defScope s__law_worth, [], []⟩
abbrev s__law_anew : Stmt := top 44
def d__law_anew : He.DefD := ⟨("_law_anew", none), "_law_anew", "_law_anew", defArgs s__law_anew, defBody s__law_anew, defScope s__law_anew, [], []⟩
abbrev s__law_count : Stmt := top 45
def d__law_count : He.DefD := ⟨("_law_count", none), "_law_count", "_law_count", defArgs s__law_count, defBody s__law_count, defScope s__law_count, [], []⟩
abbrev s__law_good : Stmt := top 46
def d__law_good : He.DefD := ⟨("_law_good", none), "_law_good", "_law_good", defArgs s__law_good, defBody s__law_good, defScope s__law_good, [], []⟩
abbrev s__law_one : Stmt := top 47
def d__law_one : He.DefD := ⟨("_law_one", none), "_law_one", "_law_one", defArgs s__law_one, defBody s__law_one, defScope s__law_one, [], []⟩
abbrev s__law_told : Stmt := top 48
def d__law_told : He.DefD := ⟨("_law_told", none), "_law_told", "_law_told", defArgs s__law_told, defBody s__law_told, defScope s__law_told, [], []⟩
abbrev s_law : Stmt := top 49
def d_law : He.DefD := ⟨("law", none), "law", "law", defArgs s_law, defBody s_law, defScope s_law, [], []⟩
def fn : List He.DefD := [d_is_whole, d_is_word, d_is_plain, d_parts_of, d_look_worth, d_copied, d_inside, d_all_paths, d_changed_at, d_is_step, d_look_ask, d_fits, d_asked, d_sought, d_replaced, d__law_cell, d__law_mix, d__law_draw, d__law_pick, d__law_refusal, d__law_word, d__law_plain_one, d__law_worth, d__law_anew, d__law_count, d__law_good, d__law_one, d__law_told, d_law]
def fa : List He.Fa := ([.glo "is_whole", .glo "is_word", .glo "is_plain", .glo "parts_of", .glo "look_worth", .glo "copied", .glo "inside", .glo "all_paths", .glo "changed_at", .glo "is_step", .glo "look_ask", .glo "fits", .glo "asked", .glo "sought", .glo "replaced", .glo "_law_cell", .glo "_law_mix", .glo "_law_draw", .glo "_law_pick", .glo "_law_refusal", .glo "_law_word", .glo "_law_plain_one", .glo "_law_worth", .glo "_law_anew", .glo "_law_count", .glo "_law_good", .glo "_law_one", .glo "_law_told", .glo "law", .glo "DashError"] : List He.Fa) ++ ([.exc "DashError", .glo "BadWorth", .exc "BadWorth", .glo "BadText", .exc "BadText", .glo "BadPath", .exc "BadPath", .glo "BadChoice", .exc "BadChoice", .glo "TooMany", .exc "TooMany", .glo "BadDeeds", .exc "BadDeeds", .glo "NoName", .exc "NoName", .glo "BadAsk", .exc "BadAsk", .str "SMALL" "abcdefghijklmnopqrstuvwxyz", .int "MOST_WORD" 12, .int "MOST_NUMBER" 1000000, .int "MOST_PARTS" 60, .int "MOST_DEEP" 6, .str "ONE" "*", .str "ANY" "**", .int "MOST_STEPS" 6, .free "ValueError", .free "all", .free "any", .free "bool", .free "dict"] : List He.Fa) ++ ([.free "int", .free "isinstance", .free "len", .free "list", .free "max", .free "range", .free "str", .free "sum", .free "tuple"] : List He.Fa)
def loose : List PySem.Str := (["is_whole", "is_word", "is_plain", "parts_of", "look_worth", "copied", "inside", "all_paths", "changed_at", "is_step", "look_ask", "fits", "asked", "sought", "replaced", "_law_cell", "_law_mix", "_law_draw", "_law_pick", "_law_refusal", "_law_word", "_law_plain_one", "_law_worth", "_law_anew", "_law_count", "_law_good", "_law_one", "_law_told", "DashError", "BadWorth"] : List PySem.Str) ++ (["BadText", "BadPath", "BadChoice", "TooMany", "BadDeeds", "NoName", "BadAsk", "SMALL", "MOST_WORD", "MOST_NUMBER", "MOST_PARTS", "MOST_DEEP", "ONE", "ANY", "MOST_STEPS"] : List PySem.Str)
abbrev R : PySem.W.OpenRow := PySem.W.OpenLaw.row PySem.Challenge.rw_dashlines_k62_refused_asks
abbrev exs : List L3.Ex := [.worth, .text, .path, .choice, .many, .deeds, .name, .ask]
abbrev hk : PySem.W.Hook := L3.hookX 5 fa fn (L3.exB exs)
def ob (s : PySem.W.SharedT) : L3.AlX := L3.obsXG 5 fa fn (L3.exB exs) (HandSHeadRun.getT s)
theorem ob_eq (s : PySem.W.SharedT) : ob s = hk.obs s.abs := L3.obsXG_eq (HandSHeadRun.getT_eq s)
theorem run (w : World) : HandSHeadRun.RunEq R (PySem.W.view R.prog [49]) hk ob 6000 loose w := by
  intro os
  kernel_rfl
end K62
end S_K62h
section S_GP
set_option maxHeartbeats 0
/-! # what the defs that several laws have in common come to, as functions of data (printed by gen.py) -/
namespace LP
open PySem PySem.Spec PyProof.Rows L2 L3
def m_is_whole : M Fl :=
  (dRet [] (dAndV (dCB cIsi (dCons (dVar 0) (dCons (dC (.ty "int")) dNil))) (dAndV (dNotV (dCB cIsi (dCons (dVar 0) (dCons (dC (.ty "bool")) dNil)))) (dChain (cmpD fun i j => decide (i ≤ j)) (cmpD fun i j => decide (i ≤ j)) (dVar 1) (dVar 0) (dVar 2)))))
def G_is_whole : Nat → FnD
  | 0 => fun _ => .stk
  | k + 1 => runD [] 3 3 (m_is_whole)
def Q_is_word_1 : M Vl := dLc [1] (dIt (dVar 0)) (gtN 1) (ret true) (dOp (inD false) (dVar 1) (dC (.str "abcdefghijklmnopqrstuvwxyz")))
def m_is_word : M Fl :=
  (dRet [] (dAndV (dCB cIsi (dCons (dVar 0) (dCons (dC (.ty "str")) dNil))) (dAndV (dChain (cmpD fun i j => decide (i ≤ j)) (cmpD fun i j => decide (i ≤ j)) (dC (.int 1)) (dCB cLen (dCons (dVar 0) dNil)) (dC (.int 12))) (dCB cAll (dCons (Q_is_word_1) dNil)))))
def G_is_word : Nat → FnD
  | 0 => fun _ => .stk
  | k + 1 => runD [] 1 2 (m_is_word)
def m_is_plain (g_is_whole : FnD) (g_is_word : FnD) : M Fl :=
  (dRet [] (dOrV (dCall [] 3 g_is_whole (dCons (dVar 0) (dCons (dOp subD (dC (.int 0)) (dC (.int 1000000))) (dCons (dC (.int 1000000)) dNil)))) (dCall [] 1 g_is_word (dCons (dVar 0) dNil))))
def G_is_plain : Nat → FnD
  | 0 => fun _ => .stk
  | k + 1 => runD [] 1 1 (m_is_plain (G_is_whole k) (G_is_word k))
def Q_parts_of_1 (g_is_plain : FnD) (g_is_word : FnD) (g_parts_of : FnD) : M Vl := dLk 0 (dLc [2] (dKs 0) (gtN 2) (ret true) (dCall [] 1 g_is_word (dCons (dVar 2) dNil)))
def Q_parts_of_2 (g_is_plain : FnD) (g_is_word : FnD) (g_parts_of : FnD) : M Vl := dLk 0 (dLc [2] (dKs 0) (gtN 2) (ret true) (dOp ixD (dVar 0) (dVar 2)))
def Q_parts_of_3 (g_is_plain : FnD) (g_is_word : FnD) (g_parts_of : FnD) : M Vl := dLc [5] (dIt (dVar 3)) (gtN 5) (ret true) (dCall [] 2 g_parts_of (dCons (dVar 5) (dCons (dOp subD (dVar 1) (dC (.int 1))) dNil)))
def m_parts_of (g_is_plain : FnD) (g_is_word : FnD) (g_parts_of : FnD) : M Fl :=
  (dSeq (dIfS (dTru (dCall [] 1 g_is_plain (dCons (dVar 0) dNil))) (dRet [] (dC (.int 1))) dNext)
  (dSeq (dIfS (dOr (dAnd (dNot (dTru (dCB cIsi (dCons (dVar 0) (dCons (dC (.ty "list")) dNil))))) (dNot (dTru (dCB cIsi (dCons (dVar 0) (dCons (dC (.ty "dict")) dNil)))))) (dBool (dOp eqD (dVar 1) (dC (.int 0))))) (dRet [] (dC .non)) dNext)
  (dSeq (dIfS (dAnd (dTru (dCB cIsi (dCons (dVar 0) (dCons (dC (.ty "dict")) dNil)))) (dNot (dTru (dCB cAll (dCons (Q_parts_of_1 g_is_plain g_is_word g_parts_of) dNil))))) (dRet [] (dC .non)) dNext)
  (dSeq (dAsg 3 (dIf (dTru (dCB cIsi (dCons (dVar 0) (dCons (dC (.ty "list")) dNil)))) (dVar 0) (Q_parts_of_2 g_is_plain g_is_word g_parts_of)))
  (dSeq (dIfS (dBool (dOp (cmpD fun i j => decide (j < i)) (dCB cLen (dCons (dVar 3) dNil)) (dC (.int 60)))) (dRet [] (dC .non)) dNext)
  (dSeq (dAsg 4 (Q_parts_of_3 g_is_plain g_is_word g_parts_of))
  (dRet [] (dIf (dBool (dOp (inD false) (dC .non) (dVar 4))) (dC .non) (dOp addD (dC (.int 1)) (dCB cSum (dCons (dVar 4) dNil)))))))))))
def G_parts_of : Nat → FnD
  | 0 => fun _ => .stk
  | k + 1 => runD [] 2 6 (m_parts_of (G_is_plain k) (G_is_word k) (G_parts_of k))
def m_look_worth (g_parts_of : FnD) : M Fl :=
  (dSeq (dAsg 1 (dCall [] 2 g_parts_of (dCons (dVar 0) (dCons (dC (.int 6)) dNil))))
  (dIfS (dOr (dBool (dOp (isND false) (dVar 1) (dC .non))) (dBool (dOp (cmpD fun i j => decide (j < i)) (dVar 1) (dC (.int 60))))) (dRaise .worth) dNext))
def G_look_worth : Nat → FnD
  | 0 => fun _ => .stk
  | k + 1 => runD [] 1 2 (m_look_worth (G_parts_of k))
def Q_copied_1 (g_copied : FnD) : M Vl := dLc [1] (dIt (dVar 0)) (gtN 1) (ret true) (dCall [] 1 g_copied (dCons (dVar 1) dNil))
def Q_copied_2 (g_copied : FnD) : M Vl := dLk 0 (dLc [2] (dKs 0) (gtN 2) (ret true) (dTup (dCons (dVar 2) (dCons (dCall [] 1 g_copied (dCons (dOp ixD (dVar 0) (dVar 2)) dNil)) dNil))))
def m_copied (g_copied : FnD) : M Fl :=
  (dSeq (dIfS (dTru (dCB cIsi (dCons (dVar 0) (dCons (dC (.ty "list")) dNil)))) (dRet [] (Q_copied_1 g_copied)) dNext)
  (dSeq (dIfS (dTru (dCB cIsi (dCons (dVar 0) (dCons (dC (.ty "dict")) dNil)))) (dRet [] (dCB cDict (dCons (Q_copied_2 g_copied) dNil))) dNext)
  (dRet [] (dVar 0))))
def G_copied : Nat → FnD
  | 0 => fun _ => .stk
  | k + 1 => runD [] 1 3 (m_copied (G_copied k))
def Q_inside_1 : M Vl := dLc [1] (dRg1 (dCons (dCB cLen (dCons (dVar 0) dNil)) dNil)) (gtN 1) (ret true) (dTup (dCons (dVar 1) (dCons (dOp ixD (dVar 0) (dVar 1)) dNil)))
def Q_inside_2 : M Vl := dLk 0 (dLc [2] (dKs 0) (gtN 2) (ret true) (dTup (dCons (dVar 2) (dCons (dOp ixD (dVar 0) (dVar 2)) dNil))))
def m_inside : M Fl :=
  (dSeq (dIfS (dTru (dCB cIsi (dCons (dVar 0) (dCons (dC (.ty "list")) dNil)))) (dRet [] (Q_inside_1)) dNext)
  (dRet [] (dIf (dTru (dCB cIsi (dCons (dVar 0) (dCons (dC (.ty "dict")) dNil)))) (Q_inside_2) (dLst dNil))))
def G_inside : Nat → FnD
  | 0 => fun _ => .stk
  | k + 1 => runD [] 1 3 (m_inside)
def Q_led_1 (g_is_whole : FnD) (g_is_word : FnD) : M Fl := dFor [2] (dIt (dVar 1)) (gtN 2) (dSeq (dIfS (dTru (dCB cIsi (dCons (dVar 0) (dCons (dC (.ty "list")) dNil)))) (dIfS (dNot (dTru (dCall [] 3 g_is_whole (dCons (dVar 2) (dCons (dC (.int 0)) (dCons (dOp subD (dCB cLen (dCons (dVar 0) dNil)) (dC (.int 1))) dNil)))))) (dRaise .path) dNext) (dIfS (dOr (dNot (dTru (dCB cIsi (dCons (dVar 0) (dCons (dC (.ty "dict")) dNil))))) (dOr (dNot (dTru (dCall [] 1 g_is_word (dCons (dVar 2) dNil)))) (dBool (dOp (inD true) (dVar 2) (dVar 0))))) (dRaise .path) dNext))
  (dAsg 0 (dOp ixD (dVar 0) (dVar 2))))
def m_led (g_is_whole : FnD) (g_is_word : FnD) : M Fl :=
  (dSeq (Q_led_1 g_is_whole g_is_word)
  (dRet [] (dVar 0)))
def G_led : Nat → FnD
  | 0 => fun _ => .stk
  | k + 1 => runD [] 2 3 (m_led (G_is_whole k) (G_is_word k))
def m_look_path : M Fl :=
  (dIfS (dNot (dTru (dCB cIsi (dCons (dVar 0) (dCons (dC (.ty "tuple")) dNil))))) (dRaise .path) dNext)
def G_look_path : Nat → FnD
  | 0 => fun _ => .stk
  | k + 1 => runD [] 1 1 (m_look_path)
def m_at (g_look_worth : FnD) (g_look_path : FnD) (g_led : FnD) (g_copied : FnD) : M Fl :=
  (dSeq (dDrop (dCall [] 1 g_look_worth (dCons (dVar 0) dNil)))
  (dSeq (dDrop (dCall [] 1 g_look_path (dCons (dVar 1) dNil)))
  (dRet [] (dCall [] 1 g_copied (dCons (dCall [] 2 g_led (dCons (dVar 0) (dCons (dVar 1) dNil))) dNil)))))
def G_at : Nat → FnD
  | 0 => fun _ => .stk
  | k + 1 => runD [] 2 2 (m_at (G_look_worth k) (G_look_path k) (G_led k) (G_copied k))
def Q_all_paths_1 (g_all_paths : FnD) (g_inside : FnD) : M Vl := dLc [4] (dIt (dCall [] 1 g_all_paths (dCons (dVar 3) dNil))) (gtN 4) (ret true) (dOp addD (dTup (dCons (dVar 2) dNil)) (dVar 4))
def Q_all_paths_2 (g_all_paths : FnD) (g_inside : FnD) : M Fl := dFor [2, 3] (dIt (dCall [] 1 g_inside (dCons (dVar 0) dNil))) (gtU [2, 3]) (dDrop (dExt 1 (Q_all_paths_1 g_all_paths g_inside)))
def m_all_paths (g_all_paths : FnD) (g_inside : FnD) : M Fl :=
  (dSeq (dAsg 1 (dLst (dCons (dTup dNil) dNil)))
  (dSeq (Q_all_paths_2 g_all_paths g_inside)
  (dRet [] (dVar 1))))
def G_all_paths : Nat → FnD
  | 0 => fun _ => .stk
  | k + 1 => runD [] 1 5 (m_all_paths (G_all_paths k) (G_inside k))
def m_paths (g_look_worth : FnD) (g_all_paths : FnD) : M Fl :=
  (dSeq (dDrop (dCall [] 1 g_look_worth (dCons (dVar 0) dNil)))
  (dRet [] (dCall [] 1 g_all_paths (dCons (dVar 0) dNil))))
def G_paths : Nat → FnD
  | 0 => fun _ => .stk
  | k + 1 => runD [] 1 1 (m_paths (G_look_worth k) (G_all_paths k))
def Q_changed_at_1 (g_copied : FnD) (g_changed_at : FnD) (g_inside : FnD) : M Vl := dLc [3, 4] (dIt (dCall [] 1 g_inside (dCons (dVar 0) dNil))) (gtU [3, 4]) (ret true) (dIf (dBool (dOp eqD (dVar 3) (dOp ixD (dVar 1) (dC (.int 0))))) (dCall [] 3 g_changed_at (dCons (dVar 4) (dCons (dSl (dVar 1) (dPart (dC (.int 1))) (ret none)) (dCons (dVar 2) dNil)))) (dCall [] 1 g_copied (dCons (dVar 4) dNil)))
def m_changed_at (g_copied : FnD) (g_changed_at : FnD) (g_inside : FnD) : M Fl :=
  (dSeq (dIfS (dBool (dOp eqD (dVar 1) (dTup dNil))) (dRet [] (dCall [] 1 g_copied (dCons (dVar 2) dNil))) dNext)
  (dSeq (dIfS (dTru (dCB cIsi (dCons (dVar 0) (dCons (dC (.ty "list")) dNil)))) (dRet [] (Q_changed_at_1 g_copied g_changed_at g_inside)) dNext)
  (dSeq (dAsg 5 (dCall [] 1 g_copied (dCons (dVar 0) dNil)))
  (dSeq (dPut 5 (dOp ixD (dVar 1) (dC (.int 0))) (dCall [] 3 g_changed_at (dCons (dOp ixD (dVar 0) (dOp ixD (dVar 1) (dC (.int 0)))) (dCons (dSl (dVar 1) (dPart (dC (.int 1))) (ret none)) (dCons (dVar 2) dNil)))))
  (dRet [] (dVar 5))))))
def G_changed_at : Nat → FnD
  | 0 => fun _ => .stk
  | k + 1 => runD [] 3 6 (m_changed_at (G_copied k) (G_changed_at k) (G_inside k))
def m_with_new (g_look_worth : FnD) (g_look_path : FnD) (g_led : FnD) (g_changed_at : FnD) : M Fl :=
  (dSeq (dDrop (dCall [] 1 g_look_worth (dCons (dVar 0) dNil)))
  (dSeq (dDrop (dCall [] 1 g_look_path (dCons (dVar 1) dNil)))
  (dSeq (dDrop (dCall [] 2 g_led (dCons (dVar 0) (dCons (dVar 1) dNil))))
  (dSeq (dDrop (dCall [] 1 g_look_worth (dCons (dVar 2) dNil)))
  (dSeq (dAsg 3 (dCall [] 3 g_changed_at (dCons (dVar 0) (dCons (dVar 1) (dCons (dVar 2) dNil)))))
  (dSeq (dDrop (dCall [] 1 g_look_worth (dCons (dVar 3) dNil)))
  (dRet [] (dVar 3))))))))
def G_with_new : Nat → FnD
  | 0 => fun _ => .stk
  | k + 1 => runD [] 3 4 (m_with_new (G_look_worth k) (G_look_path k) (G_led k) (G_changed_at k))
def m__law_cell : M Fl :=
  (dSeq (dIfS (dTru (dVar 0)) (dRet [] (dOp ixD (dVar 0) (dOp modD (dVar 1) (dCB cLen (dCons (dVar 0) dNil))))) dNext)
  (dRet [] (dC (.int 0))))
def G__law_cell : Nat → FnD
  | 0 => fun _ => .stk
  | k + 1 => runD [] 2 2 (m__law_cell)
def m__law_mix (g__law_cell : FnD) : M Fl :=
  (dSeq (dAsg 2 (dOp modD (dOp addD (dCall [] 2 g__law_cell (dCons (dVar 0) (dCons (dVar 1) dNil))) (dOp mulD (dC (.int 104729)) (dOp addD (dVar 1) (dC (.int 1))))) (dC (.int 4294967291))))
  (dSeq (dAsg 2 (dOp modD (dOp powD (dVar 2) (dC (.int 5))) (dC (.int 4294967279))))
  (dRet [] (dOp modD (dOp addD (dOp mulD (dOp fdivD (dVar 2) (dC (.int 64))) (dC (.int 69621))) (dVar 2)) (dC (.int 4294967231))))))
def G__law_mix : Nat → FnD
  | 0 => fun _ => .stk
  | k + 1 => runD [] 2 3 (m__law_mix (G__law_cell k))
def m__law_draw (g__law_mix : FnD) : M Fl :=
  (dSeq (dDrop (dApp 1 (dC (.int 0))))
  (dRet [1] (dOp modD (dOp fdivD (dCall [] 2 g__law_mix (dCons (dVar 0) (dCons (dCB cLen (dCons (dVar 1) dNil)) dNil))) (dC (.int 8))) (dVar 2))))
def G__law_draw : Nat → FnD
  | 0 => fun _ => .stk
  | k + 1 => runD [1] 3 3 (m__law_draw (G__law_mix k))
def m__law_pick (g__law_draw : FnD) : M Fl :=
  (dRet [1, 2] (dOp ixD (dVar 2) (dCall [1] 3 g__law_draw (dCons (dVar 0) (dCons (dVar 1) (dCons (dCB cLen (dCons (dVar 2) dNil)) dNil))))))
def G__law_pick : Nat → FnD
  | 0 => fun _ => .stk
  | k + 1 => runD [1, 2] 3 3 (m__law_pick (G__law_draw k))
def Q__law_word_1 (g__law_draw : FnD) (g__law_pick : FnD) : M Vl := dLc [3] (dRg1 (dCons (dOp addD (dC (.int 1)) (dCall [1] 3 g__law_draw (dCons (dVar 0) (dCons (dVar 1) (dCons (dC (.int 12)) dNil))))) dNil)) (gtN 3) (ret true) (dOp ixD (dVar 2) (dCall [1] 3 g__law_draw (dCons (dVar 0) (dCons (dVar 1) (dCons (dC (.int 26)) dNil)))))
def m__law_word (g__law_draw : FnD) (g__law_pick : FnD) : M Fl :=
  (dSeq (dAsg 2 (dC (.str "abcdefghijklmnopqrstuvwxyz")))
  (dSeq (dIfS (dBool (dOp (cmpD fun i j => decide (j < i)) (dCall [1] 3 g__law_draw (dCons (dVar 0) (dCons (dVar 1) (dCons (dC (.int 6)) dNil)))) (dC (.int 0)))) (dRet [1] (dCall [1, 2] 3 g__law_pick (dCons (dVar 0) (dCons (dVar 1) (dCons (dLst (dCons (dC (.str "b")) (dCons (dC (.str "a")) (dCons (dC (.str "ab")) (dCons (dC (.str "longerwordss")) (dCons (dC (.str "zz")) (dCons (dC (.str "k")) dNil))))))) dNil))))) dNext)
  (dRet [1] (dJoin (dC (.str "")) (Q__law_word_1 g__law_draw g__law_pick)))))
def G__law_word : Nat → FnD
  | 0 => fun _ => .stk
  | k + 1 => runD [1] 2 4 (m__law_word (G__law_draw k) (G__law_pick k))
def m__law_plain_one (g__law_draw : FnD) (g__law_pick : FnD) (g__law_word : FnD) : M Fl :=
  (dSeq (dAsg 2 (dLst (dCons (dC (.int 0)) (dCons (dOp subD (dC (.int 0)) (dC (.int 1))) (dCons (dC (.int 7)) (dCons (dC (.int 1000000)) (dCons (dOp subD (dC (.int 0)) (dC (.int 1000000))) (dCons (dOp subD (dCall [1] 3 g__law_draw (dCons (dVar 0) (dCons (dVar 1) (dCons (dC (.int 999)) dNil)))) (dC (.int 400))) dNil))))))))
  (dSeq (dAsg 3 (dCall [1] 3 g__law_draw (dCons (dVar 0) (dCons (dVar 1) (dCons (dC (.int 8)) dNil)))))
  (dSeq (dIfS (dBool (dOp (cmpD fun i j => decide (i < j)) (dVar 3) (dC (.int 3)))) (dRet [1] (dCall [1, 2] 3 g__law_pick (dCons (dVar 0) (dCons (dVar 1) (dCons (dVar 2) dNil))))) dNext)
  (dRet [1] (dIf (dBool (dOp (cmpD fun i j => decide (i < j)) (dVar 3) (dC (.int 5)))) (dOp ixD (dLst (dCons (dLst dNil) (dCons dNewK dNil))) (dOp subD (dVar 3) (dC (.int 3)))) (dCall [1] 2 g__law_word (dCons (dVar 0) (dCons (dVar 1) dNil))))))))
def G__law_plain_one : Nat → FnD
  | 0 => fun _ => .stk
  | k + 1 => runD [1] 2 4 (m__law_plain_one (G__law_draw k) (G__law_pick k) (G__law_word k))
def Q__law_anew_1 (g__law_anew : FnD) : M Vl := dLc [1] (dIt (dVar 0)) (gtN 1) (ret true) (dCall [] 1 g__law_anew (dCons (dVar 1) dNil))
def Q__law_anew_2 (g__law_anew : FnD) : M Vl := dLk 0 (dLc [2] (dKs 0) (gtN 2) (ret true) (dTup (dCons (dVar 2) (dCons (dCall [] 1 g__law_anew (dCons (dOp ixD (dVar 0) (dVar 2)) dNil)) dNil))))
def m__law_anew (g__law_anew : FnD) : M Fl :=
  (dSeq (dIfS (dTru (dCB cIsi (dCons (dVar 0) (dCons (dC (.ty "list")) dNil)))) (dRet [] (Q__law_anew_1 g__law_anew)) dNext)
  (dSeq (dIfS (dTru (dCB cIsi (dCons (dVar 0) (dCons (dC (.ty "dict")) dNil)))) (dRet [] (dCB cDict (dCons (Q__law_anew_2 g__law_anew) dNil))) dNext)
  (dRet [] (dVar 0))))
def G__law_anew : Nat → FnD
  | 0 => fun _ => .stk
  | k + 1 => runD [] 1 3 (m__law_anew (G__law_anew k))
def Q__law_worth_1 (g__law_draw : FnD) (g__law_pick : FnD) (g__law_anew : FnD) (g__law_plain_one : FnD) (g__law_worth : FnD) (g__law_word : FnD) : M Fl := dFor [7] (dRg1 (dCons (dOp addD (dC (.int 1)) (dCall [1] 3 g__law_draw (dCons (dVar 0) (dCons (dVar 1) (dCons (dVar 3) dNil))))) dNil)) (gtN 7) (dSeq (dAsg 8 (dCall [1, 4] 5 g__law_worth (dCons (dVar 0) (dCons (dVar 1) (dCons (dOp subD (dVar 2) (dC (.int 1))) (dCons (dVar 3) (dCons (dVar 4) dNil)))))))
  (dSeq (dDrop (dApp 6 (dVar 8)))
  (dDrop (dApp 4 (dVar 8)))))
def Q__law_worth_2 (g__law_draw : FnD) (g__law_pick : FnD) (g__law_anew : FnD) (g__law_plain_one : FnD) (g__law_worth : FnD) (g__law_word : FnD) : M Fl := dFor [8] (dIt (dVar 6)) (gtN 8) (dPut 9 (dCall [1] 2 g__law_word (dCons (dVar 0) (dCons (dVar 1) dNil))) (dVar 8))
def m__law_worth (g__law_draw : FnD) (g__law_pick : FnD) (g__law_anew : FnD) (g__law_plain_one : FnD) (g__law_worth : FnD) (g__law_word : FnD) : M Fl :=
  (dSeq (dAsg 5 (dCall [1] 3 g__law_draw (dCons (dVar 0) (dCons (dVar 1) (dCons (dC (.int 8)) dNil)))))
  (dSeq (dIfS (dAnd (dBool (dOp neD (dVar 4) (dLst dNil))) (dBool (dOp (cmpD fun i j => decide (i < j)) (dVar 5) (dC (.int 3))))) (dRet [1, 4] (dCall [] 1 g__law_anew (dCons (dCall [1, 2] 3 g__law_pick (dCons (dVar 0) (dCons (dVar 1) (dCons (dVar 4) dNil)))) dNil))) dNext)
  (dSeq (dIfS (dOr (dBool (dOp eqD (dVar 2) (dC (.int 0)))) (dBool (dOp (cmpD fun i j => decide (i < j)) (dVar 5) (dC (.int 5))))) (dRet [1, 4] (dCall [1] 2 g__law_plain_one (dCons (dVar 0) (dCons (dVar 1) dNil)))) dNext)
  (dSeq (dAsg 6 (dLst dNil))
  (dSeq (Q__law_worth_1 g__law_draw g__law_pick g__law_anew g__law_plain_one g__law_worth g__law_word)
  (dSeq (dIfS (dOr (dBool (dOp eqD (dVar 5) (dC (.int 5)))) (dBool (dOp eqD (dVar 5) (dC (.int 6))))) (dRet [1, 4] (dVar 6)) dNext)
  (dSeq (dAsg 9 dNewK)
  (dSeq (Q__law_worth_2 g__law_draw g__law_pick g__law_anew g__law_plain_one g__law_worth g__law_word)
  (dRet [1, 4] (dVar 9))))))))))
def G__law_worth : Nat → FnD
  | 0 => fun _ => .stk
  | k + 1 => runD [1, 4] 5 10 (m__law_worth (G__law_draw k) (G__law_pick k) (G__law_anew k) (G__law_plain_one k) (G__law_worth k) (G__law_word k))
def Q__law_count_1 (g__law_count : FnD) : M Vl := dLc [3] (dIt (dVar 1)) (gtN 3) (ret true) (dCall [] 1 g__law_count (dCons (dVar 3) dNil))
def Q__law_count_2 (g__law_count : FnD) : M Vl := dLc [5] (dIt (dVar 2)) (gtN 5) (ret true) (dOp ixD (dVar 5) (dC (.int 0)))
def Q__law_count_3 (g__law_count : FnD) : M Vl := dLc [5] (dIt (dVar 2)) (gtN 5) (ret true) (dOp ixD (dVar 5) (dC (.int 1)))
def m__law_count (g__law_count : FnD) : M Fl :=
  (dSeq (dAsg 1 (dIf (dTru (dCB cIsi (dCons (dVar 0) (dCons (dC (.ty "list")) dNil)))) (dVar 0) (dIf (dTru (dCB cIsi (dCons (dVar 0) (dCons (dC (.ty "dict")) dNil)))) (dUn kVals (dVar 0)) (dLst dNil))))
  (dSeq (dAsg 2 (Q__law_count_1 g__law_count))
  (dSeq (dAsg 4 (dOrV (dCB cIsi (dCons (dVar 0) (dCons (dC (.ty "list")) dNil))) (dCB cIsi (dCons (dVar 0) (dCons (dC (.ty "dict")) dNil)))))
  (dRet [] (dTup (dCons (dOp addD (dC (.int 1)) (dCB cSum (dCons (Q__law_count_2 g__law_count) dNil))) (dCons (dOp addD (dCB cInt (dCons (dVar 4) dNil)) (dCB cMax (dCons (dOp addD (dLst (dCons (dC (.int 0)) dNil)) (Q__law_count_3 g__law_count)) dNil))) dNil)))))))
def G__law_count : Nat → FnD
  | 0 => fun _ => .stk
  | k + 1 => runD [] 1 6 (m__law_count (G__law_count k))
def Q__law_good_1 (g__law_worth : FnD) (g__law_count : FnD) : M Vl := dLc [5] (dRg1 (dCons (dC (.int 3)) dNil)) (gtN 5) (ret true) (dCall [1, 4] 5 g__law_worth (dCons (dVar 0) (dCons (dVar 1) (dCons (dVar 2) (dCons (dVar 3) (dCons (dLst dNil) dNil))))))
def Q__law_good_2 (g__law_worth : FnD) (g__law_count : FnD) : M Vl := dLc [6] (dIt (dVar 4)) (gtN 6) (dAnd (dBool (dOp (cmpD fun i j => decide (i < j)) (dOp ixD (dCall [] 1 g__law_count (dCons (dVar 6) dNil)) (dC (.int 0))) (dC (.int 55)))) (dBool (dOp (cmpD fun i j => decide (i < j)) (dOp ixD (dCall [] 1 g__law_count (dCons (dVar 6) dNil)) (dC (.int 1))) (dC (.int 6))))) (dVar 6)
def Q__law_good_3 (g__law_worth : FnD) (g__law_count : FnD) : M Vl := dLc [6] (dIt (dVar 4)) (gtN 6) (dBool (dOp (cmpD fun i j => decide (j < i)) (dOp ixD (dCall [] 1 g__law_count (dCons (dVar 6) dNil)) (dC (.int 0))) (dC (.int 2)))) (dVar 6)
def m__law_good (g__law_worth : FnD) (g__law_count : FnD) : M Fl :=
  (dSeq (dAsg 4 (Q__law_good_1 g__law_worth g__law_count))
  (dSeq (dAsg 4 (Q__law_good_2 g__law_worth g__law_count))
  (dSeq (dAsg 4 (dOp addD (dOp addD (Q__law_good_3 g__law_worth g__law_count) (dVar 4)) (dLst (dCons (dLst (dCons (dC (.int 1)) (dCons (dC (.str "a")) (dCons (dLst (dCons (dC (.int 1)) (dCons (dC (.str "a")) dNil))) dNil)))) dNil))))
  (dRet [1] (dOp ixD (dVar 4) (dC (.int 0)))))))
def G__law_good : Nat → FnD
  | 0 => fun _ => .stk
  | k + 1 => runD [1] 4 7 (m__law_good (G__law_worth k) (G__law_count k))
def Q__law_rows_1 (g__law_rows : FnD) : M Vl := dLc [5, 6] (dIt (dCall [] 1 g__law_rows (dCons (dVar 4) dNil))) (gtU [5, 6]) (ret true) (dTup (dCons (dOp addD (dTup (dCons (dVar 3) dNil)) (dVar 5)) (dCons (dVar 6) dNil)))
def Q__law_rows_2 (g__law_rows : FnD) : M Fl := dFor [3, 4] (dIt (dVar 2)) (gtU [3, 4]) (dAsg 1 (dOp addD (dVar 1) (Q__law_rows_1 g__law_rows)))
def m__law_rows (g__law_rows : FnD) : M Fl :=
  (dSeq (dAsg 1 (dLst (dCons (dTup (dCons (dTup dNil) (dCons (dVar 0) dNil))) dNil)))
  (dSeq (dAsg 2 (dIf (dTru (dCB cIsi (dCons (dVar 0) (dCons (dC (.ty "list")) dNil)))) (dUn kEnum (dVar 0)) (dIf (dTru (dCB cIsi (dCons (dVar 0) (dCons (dC (.ty "dict")) dNil)))) (dUn kItems (dVar 0)) (dLst dNil))))
  (dSeq (Q__law_rows_2 g__law_rows)
  (dRet [] (dVar 1)))))
def G__law_rows : Nat → FnD
  | 0 => fun _ => .stk
  | k + 1 => runD [] 1 7 (m__law_rows (G__law_rows k))
def Q__law_led_1 : M Fl := dFor [2] (dIt (dVar 1)) (gtN 2) (dAsg 0 (dOp ixD (dVar 0) (dVar 2)))
def m__law_led : M Fl :=
  (dSeq (Q__law_led_1)
  (dRet [] (dVar 0)))
def G__law_led : Nat → FnD
  | 0 => fun _ => .stk
  | k + 1 => runD [] 2 3 (m__law_led)
def Q__law_alike_1 (g__law_alike : FnD) : M Vl := dLc [2] (dRg1 (dCons (dCB cLen (dCons (dVar 0) dNil)) dNil)) (gtN 2) (dNot (dTru (dCall [] 2 g__law_alike (dCons (dOp ixD (dVar 0) (dVar 2)) (dCons (dOp ixD (dVar 1) (dVar 2)) dNil))))) (dVar 2)
def Q__law_alike_2 (g__law_alike : FnD) : M Vl := dLc [3] (dIt (dUn kKeys (dVar 0))) (gtN 3) (dNot (dTru (dCall [] 2 g__law_alike (dCons (dOp ixD (dVar 0) (dVar 3)) (dCons (dOp ixD (dVar 1) (dVar 3)) dNil))))) (dVar 3)
def m__law_alike (g__law_alike : FnD) : M Fl :=
  (dSeq (dIfS (dAnd (dTru (dCB cIsi (dCons (dVar 0) (dCons (dC (.ty "list")) dNil)))) (dTru (dCB cIsi (dCons (dVar 1) (dCons (dC (.ty "list")) dNil))))) (dSeq (dIfS (dBool (dOp neD (dCB cLen (dCons (dVar 0) dNil)) (dCB cLen (dCons (dVar 1) dNil)))) (dRet [] (dC (.bl false))) dNext)
  (dRet [] (dOp eqD (Q__law_alike_1 g__law_alike) (dLst dNil)))) dNext)
  (dSeq (dIfS (dAnd (dTru (dCB cIsi (dCons (dVar 0) (dCons (dC (.ty "dict")) dNil)))) (dTru (dCB cIsi (dCons (dVar 1) (dCons (dC (.ty "dict")) dNil))))) (dSeq (dIfS (dBool (dOp neD (dUn kKeys (dVar 0)) (dUn kKeys (dVar 1)))) (dRet [] (dC (.bl false))) dNext)
  (dRet [] (dOp eqD (Q__law_alike_2 g__law_alike) (dLst dNil)))) dNext)
  (dSeq (dIfS (dOr (dTru (dCB cIsi (dCons (dVar 0) (dCons (dTup (dCons (dC (.ty "list")) (dCons (dC (.ty "dict")) dNil))) dNil)))) (dTru (dCB cIsi (dCons (dVar 1) (dCons (dTup (dCons (dC (.ty "list")) (dCons (dC (.ty "dict")) dNil))) dNil))))) (dRet [] (dC (.bl false))) dNext)
  (dRet [] (dOp eqD (dVar 0) (dVar 1))))))
def G__law_alike : Nat → FnD
  | 0 => fun _ => .stk
  | k + 1 => runD [] 2 4 (m__law_alike (G__law_alike k))
def m_is_step (g_is_word : FnD) (g_is_whole : FnD) : M Fl :=
  (dSeq (dIfS (dTru (dCB cIsi (dCons (dVar 0) (dCons (dC (.ty "str")) dNil)))) (dRet [] (dOrV (dOp (inD false) (dVar 0) (dTup (dCons (dC (.str "*")) (dCons (dC (.str "**")) dNil)))) (dCall [] 1 g_is_word (dCons (dVar 0) dNil)))) dNext)
  (dRet [] (dCall [] 3 g_is_whole (dCons (dVar 0) (dCons (dC (.int 0)) (dCons (dC (.int 60)) dNil))))))
def G_is_step : Nat → FnD
  | 0 => fun _ => .stk
  | k + 1 => runD [] 1 1 (m_is_step (G_is_word k) (G_is_whole k))
def Q_look_ask_1 (g_is_step : FnD) : M Vl := dLc [1] (dIt (dVar 0)) (gtN 1) (ret true) (dCall [] 1 g_is_step (dCons (dVar 1) dNil))
def m_look_ask (g_is_step : FnD) : M Fl :=
  (dIfS (dOr (dNot (dTru (dCB cIsi (dCons (dVar 0) (dCons (dC (.ty "tuple")) dNil))))) (dOr (dBool (dOp (cmpD fun i j => decide (j < i)) (dCB cLen (dCons (dVar 0) dNil)) (dC (.int 6)))) (dNot (dTru (dCB cAll (dCons (Q_look_ask_1 g_is_step) dNil)))))) (dRaise .ask) dNext)
def G_look_ask : Nat → FnD
  | 0 => fun _ => .stk
  | k + 1 => runD [] 1 2 (m_look_ask (G_is_step k))
def Q_fits_1 (g_fits : FnD) : M Vl := dLc [2] (dRg1 (dCons (dOp addD (dCB cLen (dCons (dVar 0) dNil)) (dC (.int 1))) dNil)) (gtN 2) (ret true) (dCall [] 2 g_fits (dCons (dSl (dVar 0) (dPart (dVar 2)) (ret none)) (dCons (dSl (dVar 1) (dPart (dC (.int 1))) (ret none)) dNil)))
def m_fits (g_fits : FnD) : M Fl :=
  (dSeq (dIfS (dBool (dOp eqD (dVar 1) (dTup dNil))) (dRet [] (dOp eqD (dVar 0) (dTup dNil))) dNext)
  (dSeq (dIfS (dBool (dOp eqD (dOp ixD (dVar 1) (dC (.int 0))) (dC (.str "**")))) (dRet [] (dCB cAny (dCons (Q_fits_1 g_fits) dNil))) dNext)
  (dRet [] (dAndV (dOp neD (dVar 0) (dTup dNil)) (dAndV (dOrV (dOp eqD (dOp ixD (dVar 1) (dC (.int 0))) (dC (.str "*"))) (dOp eqD (dOp ixD (dVar 1) (dC (.int 0))) (dOp ixD (dVar 0) (dC (.int 0))))) (dCall [] 2 g_fits (dCons (dSl (dVar 0) (dPart (dC (.int 1))) (ret none)) (dCons (dSl (dVar 1) (dPart (dC (.int 1))) (ret none)) dNil))))))))
def G_fits : Nat → FnD
  | 0 => fun _ => .stk
  | k + 1 => runD [] 2 3 (m_fits (G_fits k))
def Q_asked_1 (g_fits : FnD) (g_all_paths : FnD) : M Vl := dLc [2] (dIt (dCall [] 1 g_all_paths (dCons (dVar 0) dNil))) (gtN 2) (dTru (dCall [] 2 g_fits (dCons (dVar 2) (dCons (dVar 1) dNil)))) (dVar 2)
def m_asked (g_fits : FnD) (g_all_paths : FnD) : M Fl :=
  (dRet [] (Q_asked_1 g_fits g_all_paths))
def G_asked : Nat → FnD
  | 0 => fun _ => .stk
  | k + 1 => runD [] 2 3 (m_asked (G_fits k) (G_all_paths k))
def m_sought (g_look_worth : FnD) (g_look_ask : FnD) (g_asked : FnD) : M Fl :=
  (dSeq (dDrop (dCall [] 1 g_look_worth (dCons (dVar 0) dNil)))
  (dSeq (dDrop (dCall [] 1 g_look_ask (dCons (dVar 1) dNil)))
  (dRet [] (dCall [] 2 g_asked (dCons (dVar 0) (dCons (dVar 1) dNil))))))
def G_sought : Nat → FnD
  | 0 => fun _ => .stk
  | k + 1 => runD [] 2 2 (m_sought (G_look_worth k) (G_look_ask k) (G_asked k))
def Q_replaced_1 (g_look_worth : FnD) (g_look_ask : FnD) (g_copied : FnD) (g_changed_at : FnD) (g_asked : FnD) : M Fl := dFor [5] (dIt (dCall [] 2 g_asked (dCons (dVar 0) (dCons (dVar 1) dNil)))) (gtN 5) (dIfS (dOr (dBool (dOp (isND false) (dVar 4) (dC .non))) (dBool (dOp neD (dSl (dVar 5) (ret none) (dPart (dCB cLen (dCons (dVar 4) dNil)))) (dVar 4)))) (dSeq (dAsg 3 (dCall [] 3 g_changed_at (dCons (dVar 3) (dCons (dVar 5) (dCons (dVar 2) dNil)))))
  (dAsg 4 (dVar 5))) dNext)
def m_replaced (g_look_worth : FnD) (g_look_ask : FnD) (g_copied : FnD) (g_changed_at : FnD) (g_asked : FnD) : M Fl :=
  (dSeq (dDrop (dCall [] 1 g_look_worth (dCons (dVar 0) dNil)))
  (dSeq (dDrop (dCall [] 1 g_look_ask (dCons (dVar 1) dNil)))
  (dSeq (dDrop (dCall [] 1 g_look_worth (dCons (dVar 2) dNil)))
  (dSeq (dAsg 3 (dCall [] 1 g_copied (dCons (dVar 0) dNil)))
  (dSeq (dAsg 4 (dC .non))
  (dSeq (Q_replaced_1 g_look_worth g_look_ask g_copied g_changed_at g_asked)
  (dSeq (dDrop (dCall [] 1 g_look_worth (dCons (dVar 3) dNil)))
  (dRet [] (dVar 3)))))))))
def G_replaced : Nat → FnD
  | 0 => fun _ => .stk
  | k + 1 => runD [] 3 6 (m_replaced (G_look_worth k) (G_look_ask k) (G_copied k) (G_changed_at k) (G_asked k))
def m__law_refusal : M Fl :=
  (dSeq (dIfS (dBool (dOp (isND false) (dVar 0) (dC .non))) (dRet [] (dTup (dCons (dC (.str "ok")) dNil))) dNext)
  (dSeq (dAsg 1 (dLst (dCons (dCB (cIsx [.worth, .text, .path, .choice, .many, .deeds, .name, .ask]) (dCons (dVar 0) (dCons (dC (.cl .worth)) dNil))) (dCons (dCB (cIsx [.worth, .text, .path, .choice, .many, .deeds, .name, .ask]) (dCons (dVar 0) (dCons (dC (.cl .text)) dNil))) (dCons (dCB (cIsx [.worth, .text, .path, .choice, .many, .deeds, .name, .ask]) (dCons (dVar 0) (dCons (dC (.cl .path)) dNil))) dNil)))))
  (dSeq (dAsg 1 (dOp addD (dVar 1) (dLst (dCons (dCB (cIsx [.worth, .text, .path, .choice, .many, .deeds, .name, .ask]) (dCons (dVar 0) (dCons (dC (.cl .choice)) dNil))) (dCons (dCB (cIsx [.worth, .text, .path, .choice, .many, .deeds, .name, .ask]) (dCons (dVar 0) (dCons (dC (.cl .many)) dNil))) (dCons (dCB (cIsx [.worth, .text, .path, .choice, .many, .deeds, .name, .ask]) (dCons (dVar 0) (dCons (dC (.cl .deeds)) dNil))) dNil))))))
  (dSeq (dAsg 1 (dOp addD (dVar 1) (dLst (dCons (dCB (cIsx [.worth, .text, .path, .choice, .many, .deeds, .name, .ask]) (dCons (dVar 0) (dCons (dC (.cl .name)) dNil))) (dCons (dCB (cIsx [.worth, .text, .path, .choice, .many, .deeds, .name, .ask]) (dCons (dVar 0) (dCons (dC (.cl .ask)) dNil))) dNil)))))
  (dSeq (dIfS (dOr (dBool (dOp neD (dBM cCount (dVar 1) (dCons (dC (.bl true)) dNil)) (dC (.int 1)))) (dNot (dTru (dCB (cIsx [.worth, .text, .path, .choice, .many, .deeds, .name, .ask]) (dCons (dVar 0) (dCons (dC (.ty "ValueError")) dNil)))))) (dRet [] (dTup (dCons (dC (.str "wrong")) dNil))) dNext)
  (dSeq (dAsg 2 (dLst (dCons (dC (.str "worth")) (dCons (dC (.str "text")) (dCons (dC (.str "path")) (dCons (dC (.str "choice")) (dCons (dC (.str "many")) (dCons (dC (.str "deeds")) (dCons (dC (.str "name")) (dCons (dC (.str "ask")) dNil))))))))))
  (dRet [] (dTup (dCons (dC (.str "refused")) (dCons (dOp ixD (dVar 2) (dBM cIndex (dVar 1) (dCons (dC (.bl true)) dNil))) dNil))))))))))
def G__law_refusal : Nat → FnD
  | 0 => fun _ => .stk
  | k + 1 => runD [] 1 3 (m__law_refusal)
def Q_are_alike_1 (g_are_alike : FnD) : M Vl := dLc [2] (dRg1 (dCons (dCB cLen (dCons (dVar 0) dNil)) dNil)) (gtN 2) (ret true) (dCall [] 2 g_are_alike (dCons (dOp ixD (dVar 0) (dVar 2)) (dCons (dOp ixD (dVar 1) (dVar 2)) dNil)))
def Q_are_alike_2 (g_are_alike : FnD) : M Vl := dLk 0 (dLc [3] (dKs 0) (gtN 3) (ret true) (dCall [] 2 g_are_alike (dCons (dOp ixD (dVar 0) (dVar 3)) (dCons (dOp ixD (dVar 1) (dVar 3)) dNil))))
def m_are_alike (g_are_alike : FnD) : M Fl :=
  (dSeq (dIfS (dAnd (dTru (dCB cIsi (dCons (dVar 0) (dCons (dC (.ty "list")) dNil)))) (dTru (dCB cIsi (dCons (dVar 1) (dCons (dC (.ty "list")) dNil))))) (dRet [] (dAndV (dOp eqD (dCB cLen (dCons (dVar 0) dNil)) (dCB cLen (dCons (dVar 1) dNil))) (dCB cAll (dCons (Q_are_alike_1 g_are_alike) dNil)))) dNext)
  (dSeq (dIfS (dAnd (dTru (dCB cIsi (dCons (dVar 0) (dCons (dC (.ty "dict")) dNil)))) (dTru (dCB cIsi (dCons (dVar 1) (dCons (dC (.ty "dict")) dNil))))) (dSeq (dIfS (dBool (dOp neD (dUn kKeys (dVar 0)) (dUn kKeys (dVar 1)))) (dRet [] (dC (.bl false))) dNext)
  (dRet [] (dCB cAll (dCons (Q_are_alike_2 g_are_alike) dNil)))) dNext)
  (dSeq (dIfS (dOr (dTru (dCB cIsi (dCons (dVar 0) (dCons (dC (.ty "list")) dNil)))) (dOr (dTru (dCB cIsi (dCons (dVar 0) (dCons (dC (.ty "dict")) dNil)))) (dOr (dTru (dCB cIsi (dCons (dVar 1) (dCons (dC (.ty "list")) dNil)))) (dTru (dCB cIsi (dCons (dVar 1) (dCons (dC (.ty "dict")) dNil))))))) (dRet [] (dC (.bl false))) dNext)
  (dRet [] (dOp eqD (dVar 0) (dVar 1))))))
def G_are_alike : Nat → FnD
  | 0 => fun _ => .stk
  | k + 1 => runD [] 2 4 (m_are_alike (G_are_alike k))
def m_is_worth (g_parts_of : FnD) : M Fl :=
  (dSeq (dAsg 1 (dCall [] 2 g_parts_of (dCons (dVar 0) (dCons (dC (.int 6)) dNil))))
  (dRet [] (dAndV (dOp (isND true) (dVar 1) (dC .non)) (dOp (cmpD fun i j => decide (i ≤ j)) (dVar 1) (dC (.int 60))))))
def G_is_worth : Nat → FnD
  | 0 => fun _ => .stk
  | k + 1 => runD [] 1 2 (m_is_worth (G_parts_of k))
def m_holds (g_is_whole : FnD) (g_is_word : FnD) : M Fl :=
  (dSeq (dIfS (dTru (dCB cIsi (dCons (dVar 0) (dCons (dC (.ty "list")) dNil)))) (dRet [] (dCall [] 3 g_is_whole (dCons (dVar 1) (dCons (dC (.int 0)) (dCons (dOp subD (dCB cLen (dCons (dVar 0) dNil)) (dC (.int 1))) dNil))))) dNext)
  (dRet [] (dAndV (dCB cIsi (dCons (dVar 0) (dCons (dC (.ty "dict")) dNil))) (dAndV (dCall [] 1 g_is_word (dCons (dVar 1) dNil)) (dOp (inD false) (dVar 1) (dVar 0))))))
def G_holds : Nat → FnD
  | 0 => fun _ => .stk
  | k + 1 => runD [] 2 2 (m_holds (G_is_whole k) (G_is_word k))
def m_takes (g_is_whole : FnD) (g_is_word : FnD) : M Fl :=
  (dSeq (dIfS (dTru (dCB cIsi (dCons (dVar 0) (dCons (dC (.ty "list")) dNil)))) (dRet [] (dCall [] 3 g_is_whole (dCons (dVar 1) (dCons (dCB cLen (dCons (dVar 0) dNil)) (dCons (dCB cLen (dCons (dVar 0) dNil)) dNil))))) dNext)
  (dRet [] (dAndV (dCB cIsi (dCons (dVar 0) (dCons (dC (.ty "dict")) dNil))) (dAndV (dCall [] 1 g_is_word (dCons (dVar 1) dNil)) (dOp (inD true) (dVar 1) (dVar 0))))))
def G_takes : Nat → FnD
  | 0 => fun _ => .stk
  | k + 1 => runD [] 2 2 (m_takes (G_is_whole k) (G_is_word k))
def m_goes (g_is_whole : FnD) (g_holds : FnD) : M Fl :=
  (dSeq (dIfS (dTru (dCB cIsi (dCons (dVar 0) (dCons (dC (.ty "list")) dNil)))) (dRet [] (dAndV (dCall [] 3 g_is_whole (dCons (dVar 1) (dCons (dC (.int 0)) (dCons (dOp subD (dCB cLen (dCons (dVar 0) dNil)) (dC (.int 1))) dNil)))) (dOp eqD (dVar 1) (dOp subD (dCB cLen (dCons (dVar 0) dNil)) (dC (.int 1)))))) dNext)
  (dRet [] (dCall [] 2 g_holds (dCons (dVar 0) (dCons (dVar 1) dNil)))))
def G_goes : Nat → FnD
  | 0 => fun _ => .stk
  | k + 1 => runD [] 2 2 (m_goes (G_is_whole k) (G_holds k))
def Q_done_1 (g_holds : FnD) (g_copied : FnD) (g_takes : FnD) (g_goes : FnD) (g_changed_at : FnD) (g_inside : FnD) : M Fl := dFor [4] (dIt (dSl (dVar 2) (ret none) (dPart (dUn negD (dC (.int 1)))))) (gtN 4) (dSeq (dIfS (dNot (dTru (dCall [] 2 g_holds (dCons (dVar 3) (dCons (dVar 4) dNil))))) (dRaise .deeds) dNext)
  (dAsg 3 (dOp ixD (dVar 3) (dVar 4))))
def Q_done_2 (g_holds : FnD) (g_copied : FnD) (g_takes : FnD) (g_goes : FnD) (g_changed_at : FnD) (g_inside : FnD) : M Vl := dLc [7] (dIt (dCall [] 1 g_inside (dCons (dVar 3) dNil))) (gtN 7) (dBool (dOp neD (dOp ixD (dVar 7) (dC (.int 0))) (dVar 4))) (dVar 7)
def m_done (g_holds : FnD) (g_copied : FnD) (g_takes : FnD) (g_goes : FnD) (g_changed_at : FnD) (g_inside : FnD) : M Fl :=
  (dSeq (dAsg 2 (dOp ixD (dVar 1) (dC (.int 1))))
  (dSeq (dAsg 3 (dVar 0))
  (dSeq (Q_done_1 g_holds g_copied g_takes g_goes g_changed_at g_inside)
  (dSeq (dIfS (dBool (dOp eqD (dVar 2) (dTup dNil))) (dSeq (dIfS (dBool (dOp neD (dOp ixD (dVar 1) (dC (.int 0))) (dC (.str "other")))) (dRaise .deeds) dNext)
  (dRet [] (dCall [] 1 g_copied (dCons (dOp ixD (dVar 1) (dC (.int 2))) dNil)))) dNext)
  (dSeq (dAsg 4 (dOp ixD (dVar 2) (dUn negD (dC (.int 1)))))
  (dSeq (dAsg 5 (dIf (dBool (dOp eqD (dOp ixD (dVar 1) (dC (.int 0))) (dC (.str "other")))) (dCall [] 2 g_holds (dCons (dVar 3) (dCons (dVar 4) dNil))) (dIf (dBool (dOp eqD (dOp ixD (dVar 1) (dC (.int 0))) (dC (.str "come")))) (dCall [] 2 g_takes (dCons (dVar 3) (dCons (dVar 4) dNil))) (dCall [] 2 g_goes (dCons (dVar 3) (dCons (dVar 4) dNil))))))
  (dSeq (dIfS (dNot (dTru (dVar 5))) (dRaise .deeds) dNext)
  (dSeq (dIfS (dBool (dOp eqD (dOp ixD (dVar 1) (dC (.int 0))) (dC (.str "other")))) (dRet [] (dCall [] 3 g_changed_at (dCons (dVar 0) (dCons (dVar 2) (dCons (dOp ixD (dVar 1) (dC (.int 2))) dNil))))) dNext)
  (dSeq (dIfS (dBool (dOp eqD (dOp ixD (dVar 1) (dC (.int 0))) (dC (.str "come")))) (dAsg 6 (dIf (dTru (dCB cIsi (dCons (dVar 3) (dCons (dC (.ty "list")) dNil)))) (dOp addD (dVar 3) (dLst (dCons (dOp ixD (dVar 1) (dC (.int 2))) dNil))) (dCB cDict (dCons (dOp addD (dUn kItems (dVar 3)) (dLst (dCons (dTup (dCons (dVar 4) (dCons (dOp ixD (dVar 1) (dC (.int 2))) dNil))) dNil))) dNil)))) (dAsg 6 (dIf (dTru (dCB cIsi (dCons (dVar 3) (dCons (dC (.ty "list")) dNil)))) (dSl (dVar 3) (ret none) (dPart (dUn negD (dC (.int 1))))) (dCB cDict (dCons (Q_done_2 g_holds g_copied g_takes g_goes g_changed_at g_inside) dNil)))))
  (dRet [] (dCall [] 3 g_changed_at (dCons (dVar 0) (dCons (dSl (dVar 2) (ret none) (dPart (dUn negD (dC (.int 1))))) (dCons (dVar 6) dNil))))))))))))))
def G_done : Nat → FnD
  | 0 => fun _ => .stk
  | k + 1 => runD [] 2 8 (m_done (G_holds k) (G_copied k) (G_takes k) (G_goes k) (G_changed_at k) (G_inside k))
def m_is_short : M Fl :=
  (dRet [] (dOrV (dAndV (dNotV (dCB cIsi (dCons (dVar 0) (dCons (dC (.ty "list")) dNil)))) (dNotV (dCB cIsi (dCons (dVar 0) (dCons (dC (.ty "dict")) dNil))))) (dOp eqD (dCB cLen (dCons (dVar 0) dNil)) (dC (.int 0)))))
def G_is_short : Nat → FnD
  | 0 => fun _ => .stk
  | k + 1 => runD [] 1 1 (m_is_short)
def Q_short_in_1 (g_is_word : FnD) : M Vl := dLc [2] (dIt (dVar 1)) (gtN 2) (ret true) (dOp (inD false) (dVar 2) (dC (.str "0123456789")))
def m_short_in (g_is_word : FnD) : M Fl :=
  (dSeq (dIfS (dBool (dOp eqD (dVar 0) (dC (.str "[]")))) (dRet [] (dLst dNil)) dNext)
  (dSeq (dIfS (dBool (dOp eqD (dVar 0) (dC (.str "{}")))) (dRet [] dNewK) dNext)
  (dSeq (dIfS (dTru (dCall [] 1 g_is_word (dCons (dVar 0) dNil))) (dRet [] (dVar 0)) dNext)
  (dSeq (dAsg 1 (dIf (dBool (dOp eqD (dSl (dVar 0) (ret none) (dPart (dC (.int 1)))) (dC (.str "-")))) (dSl (dVar 0) (dPart (dC (.int 1))) (ret none)) (dVar 0)))
  (dSeq (dIfS (dOr (dBool (dOp eqD (dVar 1) (dC (.str "")))) (dOr (dBool (dOp (cmpD fun i j => decide (j < i)) (dCB cLen (dCons (dVar 0) dNil)) (dC (.int 8)))) (dNot (dTru (dCB cAll (dCons (Q_short_in_1 g_is_word) dNil)))))) (dRaise .text) dNext)
  (dRet [] (dCB cInt (dCons (dVar 0) dNil))))))))
def G_short_in : Nat → FnD
  | 0 => fun _ => .stk
  | k + 1 => runD [] 1 3 (m_short_in (G_is_word k))
def Q_longer_1 : M Fl := dFor [4] (dRg2 (dCons (dIf (dTru (dVar 3)) (dOp addD (dOp ixD (dVar 3) (dUn negD (dC (.int 1)))) (dC (.int 1))) (dC (.int 0))) (dCons (dVar 1) dNil))) (gtN 4) (dDrop (dApp 2 (dOp addD (dVar 3) (dTup (dCons (dVar 4) dNil)))))
def Q_longer_2 : M Fl := dFor [3] (dIt (dVar 0)) (gtN 3) (Q_longer_1)
def m_longer : M Fl :=
  (dSeq (dAsg 2 (dLst dNil))
  (dSeq (Q_longer_2)
  (dRet [] (dVar 2))))
def G_longer : Nat → FnD
  | 0 => fun _ => .stk
  | k + 1 => runD [] 2 5 (m_longer)
end LP
end S_GP
section S_K62a
set_option maxHeartbeats 0
namespace K62
open PySem PySem.Spec PyProof.Rows L2 L3 LP
def N_is_whole : List Str := ["thing", "low", "most"]
def N_is_word : List Str := ["thing", "sign"]
def N_is_plain : List Str := ["thing"]
def N_parts_of : List Str := ["thing", "deep", "key", "some", "counts", "one"]
def N_look_worth : List Str := ["worth", "found"]
def N_copied : List Str := ["worth", "one", "key"]
def N_inside : List Str := ["worth", "k", "key"]
def N_all_paths : List Str := ["worth", "found", "step", "one", "path"]
def N_changed_at : List Str := ["worth", "path", "new", "k", "one", "found"]
def N_is_step : List Str := ["thing"]
def N_look_ask : List Str := ["ask", "step"]
def N_fits : List Str := ["path", "ask", "k"]
def N_asked : List Str := ["worth", "ask", "path"]
def N_sought : List Str := ["worth", "ask"]
def N_replaced : List Str := ["worth", "ask", "new", "found", "last", "path"]
def N__law_cell : List Str := ["_law_script", "_law_k"]
def N__law_mix : List Str := ["_law_script", "_law_k", "_law_number"]
def N__law_draw : List Str := ["_law_script", "_law_town", "_law_many"]
def N__law_pick : List Str := ["_law_script", "_law_town", "_law_some"]
def N__law_refusal : List Str := ["_law_caught", "_law_kinds", "_law_words"]
def N__law_word : List Str := ["_law_script", "_law_town", "_law_signs", "_law_k"]
def N__law_plain_one : List Str := ["_law_script", "_law_town", "_law_some", "_law_way"]
def N__law_anew : List Str := ["_law_worth_here", "_law_one_here", "_law_key"]
def N__law_worth : List Str := ["_law_script", "_law_town", "_law_deep", "_law_wide", "_law_stock", "_law_way", "_law_found", "_law_k", "_law_one_here", "_law_table"]
def N__law_count : List Str := ["_law_worth_here", "_law_some", "_law_rows", "_law_one_here", "_law_is_deep", "_law_row"]
def N__law_good : List Str := ["_law_script", "_law_town", "_law_deep", "_law_wide", "_law_found", "_law_k", "_law_one_here"]
def N__law_one : List Str := ["_law_kind", "_law_some"]
def m__law_one (g_sought : FnD) (g_replaced : FnD) : M Fl :=
  (dRet [] (dIf (dBool (dOp eqD (dVar 0) (dC (.int 0)))) (dCall [] 2 g_sought (dCons (dOp ixD (dVar 1) (dC (.int 0))) (dCons (dOp ixD (dVar 1) (dC (.int 1))) dNil))) (dCall [] 3 g_replaced (dCons (dOp ixD (dVar 1) (dC (.int 0))) (dCons (dOp ixD (dVar 1) (dC (.int 1))) (dCons (dOp ixD (dVar 1) (dC (.int 2))) dNil))))))
def G__law_one : Nat → FnD
  | 0 => fun _ => .stk
  | k + 1 => runD [] 2 2 (m__law_one (G_sought k) (G_replaced k))
def N__law_told : List Str := ["_law_kind", "_law_some", "_law_caught", "_law_found", "e"]
def m__law_told (g__law_one : FnD) (g__law_refusal : FnD) : M Fl :=
  (dSeq (dAsg 2 (dC .non))
  (dSeq (dAsg 3 (dC .non))
  (dSeq (dTry [.worth, .text, .path, .choice, .many, .deeds, .name, .ask] 4 2 (dAsg 3 (dCall [] 2 g__law_one (dCons (dVar 0) (dCons (dVar 1) dNil)))))
  (dRet [] (dIf (dBool (dOp (isND false) (dVar 2) (dC .non))) (dTup (dCons (dC (.str "found")) (dCons (dVar 3) dNil))) (dCall [] 1 g__law_refusal (dCons (dVar 2) dNil)))))))
def G__law_told : Nat → FnD
  | 0 => fun _ => .stk
  | k + 1 => runD [] 2 5 (m__law_told (G__law_one k) (G__law_refusal k))
def N_law : List Str := ["_law_script", "_law_town", "_law_worth_here", "_law_bad", "_law_odd", "_law_spot", "_law_wrong", "_law_ask", "_law_some", "_law_told_here", "_law_one_here"]
def Q_law_1 (g__law_good : FnD) (g__law_pick : FnD) (g__law_draw : FnD) (g__law_told : FnD) : M Vl := dLc [10] (dIt (dTup (dCons (dOp mulD (dTup (dCons (dC (.str "**")) dNil)) (dC (.int 6))) (dCons (dTup (dCons (dC (.int 0)) (dCons (dC (.str "abcdefghijkl")) (dCons (dC (.int 60)) (dCons (dC (.str "*")) (dCons (dC (.str "**")) (dCons (dC (.str "a")) dNil))))))) (dCons (dTup dNil) dNil))))) (gtN 10) (ret true) (dOp ixD (dCall [] 2 g__law_told (dCons (dC (.int 0)) (dCons (dLst (dCons (dVar 2) (dCons (dVar 10) dNil))) dNil))) (dC (.int 0)))
def m_law (g__law_good : FnD) (g__law_pick : FnD) (g__law_draw : FnD) (g__law_told : FnD) : M Fl :=
  (dSeq (dAsg 1 (dLst dNil))
  (dSeq (dAsg 2 (dCall [1] 4 g__law_good (dCons (dVar 0) (dCons (dVar 1) (dCons (dC (.int 3)) (dCons (dC (.int 4)) dNil))))))
  (dSeq (dAsg 3 (dCall [1, 2] 3 g__law_pick (dCons (dVar 0) (dCons (dVar 1) (dCons (dLst (dCons (dC (.bl true)) (dCons (dC .non) (dCons (dC (.str "")) (dCons (dLst (dCons (dC .non) dNil)) (dCons (dDisp [Sum.inr "A"] (dCons (dC (.int 1)) dNil)) dNil)))))) dNil)))))
  (dSeq (dAsg 4 (dLst (dCons (dC (.str "***")) (dCons (dC (.str "")) (dCons (dC (.str "A")) (dCons (dOp subD (dC (.int 0)) (dC (.int 1))) (dCons (dC (.int 61)) (dCons (dC .non) (dCons (dC (.bl true)) (dCons (dTup (dCons (dC (.str "a")) dNil)) (dCons (dC (.str "abcdefghijklm")) (dCons (dC (.str "a*")) (dCons (dC (.str "* ")) dNil)))))))))))))
  (dSeq (dAsg 5 (dCall [1] 3 g__law_draw (dCons (dVar 0) (dCons (dVar 1) (dCons (dC (.int 3)) dNil)))))
  (dSeq (dAsg 6 (dOp addD (dOp addD (dOp mulD (dTup (dCons (dC (.str "*")) dNil)) (dVar 5)) (dTup (dCons (dCall [1, 2] 3 g__law_pick (dCons (dVar 0) (dCons (dVar 1) (dCons (dVar 4) dNil)))) dNil))) (dOp mulD (dTup (dCons (dC (.str "a")) dNil)) (dCall [1] 3 g__law_draw (dCons (dVar 0) (dCons (dVar 1) (dCons (dC (.int 3)) dNil)))))))
  (dSeq (dAsg 7 (dCall [1, 2] 3 g__law_pick (dCons (dVar 0) (dCons (dVar 1) (dCons (dLst (dCons (dVar 6) (dCons (dVar 6) (dCons (dVar 6) (dCons (dOp mulD (dTup (dCons (dC (.str "*")) dNil)) (dC (.int 7))) (dCons (dLst (dCons (dC (.str "*")) dNil)) (dCons (dC .non) (dCons (dC (.str "*")) (dCons (dC (.int 0)) dNil))))))))) dNil)))))
  (dSeq (dAsg 8 (dLst (dCons (dCall [] 2 g__law_told (dCons (dC (.int 0)) (dCons (dLst (dCons (dVar 3) (dCons (dVar 7) dNil))) dNil))) (dCons (dCall [] 2 g__law_told (dCons (dC (.int 1)) (dCons (dLst (dCons (dVar 3) (dCons (dVar 7) (dCons (dVar 3) dNil)))) dNil))) dNil))))
  (dSeq (dIfS (dBool (dOp neD (dVar 8) (dOp mulD (dLst (dCons (dTup (dCons (dC (.str "refused")) (dCons (dC (.str "worth")) dNil))) dNil)) (dC (.int 2))))) (dRet [] (dC (.bl false))) dNext)
  (dSeq (dIfS (dBool (dOp neD (dLst (dCons (dCall [] 2 g__law_told (dCons (dC (.int 0)) (dCons (dLst (dCons (dVar 2) (dCons (dVar 7) dNil))) dNil))) (dCons (dCall [] 2 g__law_told (dCons (dC (.int 1)) (dCons (dLst (dCons (dVar 2) (dCons (dVar 7) (dCons (dVar 3) dNil)))) dNil))) dNil))) (dOp mulD (dLst (dCons (dTup (dCons (dC (.str "refused")) (dCons (dC (.str "ask")) dNil))) dNil)) (dC (.int 2))))) (dRet [] (dC (.bl false))) dNext)
  (dSeq (dIfS (dBool (dOp neD (dCall [] 2 g__law_told (dCons (dC (.int 1)) (dCons (dLst (dCons (dVar 2) (dCons (dTup (dCons (dC (.int 60)) dNil)) (dCons (dVar 3) dNil)))) dNil))) (dTup (dCons (dC (.str "refused")) (dCons (dC (.str "worth")) dNil))))) (dRet [] (dC (.bl false))) dNext)
  (dSeq (dIfS (dBool (dOp neD (dCall [] 2 g__law_told (dCons (dC (.int 1)) (dCons (dLst (dCons (dLst (dCons (dC (.int 1)) (dCons (dC (.int 2)) dNil))) (dCons (dTup (dCons (dC (.str "*")) dNil)) (dCons (dOp mulD (dLst (dCons (dC (.int 0)) dNil)) (dC (.int 30))) dNil)))) dNil))) (dTup (dCons (dC (.str "refused")) (dCons (dC (.str "worth")) dNil))))) (dRet [] (dC (.bl false))) dNext)
  (dSeq (dIfS (dBool (dOp neD (dOp ixD (dCall [] 2 g__law_told (dCons (dC (.int 1)) (dCons (dLst (dCons (dLst (dCons (dC (.int 1)) (dCons (dC (.int 2)) dNil))) (dCons (dTup (dCons (dC (.str "*")) dNil)) (dCons (dOp mulD (dLst (dCons (dC (.int 0)) dNil)) (dC (.int 28))) dNil)))) dNil))) (dC (.int 0))) (dC (.str "found")))) (dRet [] (dC (.bl false))) dNext)
  (dSeq (dAsg 9 (Q_law_1 g__law_good g__law_pick g__law_draw g__law_told))
  (dRet [] (dAndV (dOp eqD (dVar 9) (dOp mulD (dLst (dCons (dC (.str "found")) dNil)) (dC (.int 3)))) (dOp eqD (dCall [] 2 g__law_told (dCons (dC (.int 1)) (dCons (dLst (dCons (dVar 2) (dCons (dTup (dCons (dC (.int 60)) dNil)) (dCons (dC (.int 1)) dNil)))) dNil))) (dTup (dCons (dC (.str "found")) (dCons (dVar 2) dNil))))))))))))))))))))
def G_law : Nat → FnD
  | 0 => fun _ => .stk
  | k + 1 => runD [] 1 11 (m_law (G__law_good k) (G__law_pick k) (G__law_draw k) (G__law_told k))
structure Fx (K : Fg) (mg : Str → Option Value) where
  fd_is_whole : FuncData
  F_is_whole : FunD K "is_whole" "is_whole" (defArgs s_is_whole) (defBody s_is_whole) (defScope s_is_whole) [] [] (He.ga K "is_whole") fd_is_whole
  B_is_whole : Binds K fd_is_whole ["thing", "low", "most"] []
  g_is_whole : mg "is_whole" = some (.ref (He.ga K "is_whole"))
  fd_is_word : FuncData
  F_is_word : FunD K "is_word" "is_word" (defArgs s_is_word) (defBody s_is_word) (defScope s_is_word) [] [] (He.ga K "is_word") fd_is_word
  B_is_word : Binds K fd_is_word ["thing"] []
  g_is_word : mg "is_word" = some (.ref (He.ga K "is_word"))
  fd_is_plain : FuncData
  F_is_plain : FunD K "is_plain" "is_plain" (defArgs s_is_plain) (defBody s_is_plain) (defScope s_is_plain) [] [] (He.ga K "is_plain") fd_is_plain
  B_is_plain : Binds K fd_is_plain ["thing"] []
  g_is_plain : mg "is_plain" = some (.ref (He.ga K "is_plain"))
  fd_parts_of : FuncData
  F_parts_of : FunD K "parts_of" "parts_of" (defArgs s_parts_of) (defBody s_parts_of) (defScope s_parts_of) [] [] (He.ga K "parts_of") fd_parts_of
  B_parts_of : Binds K fd_parts_of ["thing", "deep"] []
  g_parts_of : mg "parts_of" = some (.ref (He.ga K "parts_of"))
  fd_look_worth : FuncData
  F_look_worth : FunD K "look_worth" "look_worth" (defArgs s_look_worth) (defBody s_look_worth) (defScope s_look_worth) [] [] (He.ga K "look_worth") fd_look_worth
  B_look_worth : Binds K fd_look_worth ["worth"] []
  g_look_worth : mg "look_worth" = some (.ref (He.ga K "look_worth"))
  fd_copied : FuncData
  F_copied : FunD K "copied" "copied" (defArgs s_copied) (defBody s_copied) (defScope s_copied) [] [] (He.ga K "copied") fd_copied
  B_copied : Binds K fd_copied ["worth"] []
  g_copied : mg "copied" = some (.ref (He.ga K "copied"))
  fd_inside : FuncData
  F_inside : FunD K "inside" "inside" (defArgs s_inside) (defBody s_inside) (defScope s_inside) [] [] (He.ga K "inside") fd_inside
  B_inside : Binds K fd_inside ["worth"] []
  g_inside : mg "inside" = some (.ref (He.ga K "inside"))
  fd_all_paths : FuncData
  F_all_paths : FunD K "all_paths" "all_paths" (defArgs s_all_paths) (defBody s_all_paths) (defScope s_all_paths) [] [] (He.ga K "all_paths") fd_all_paths
  B_all_paths : Binds K fd_all_paths ["worth"] []
  g_all_paths : mg "all_paths" = some (.ref (He.ga K "all_paths"))
  fd_changed_at : FuncData
  F_changed_at : FunD K "changed_at" "changed_at" (defArgs s_changed_at) (defBody s_changed_at) (defScope s_changed_at) [] [] (He.ga K "changed_at") fd_changed_at
  B_changed_at : Binds K fd_changed_at ["worth", "path", "new"] []
  g_changed_at : mg "changed_at" = some (.ref (He.ga K "changed_at"))
  fd_is_step : FuncData
  F_is_step : FunD K "is_step" "is_step" (defArgs s_is_step) (defBody s_is_step) (defScope s_is_step) [] [] (He.ga K "is_step") fd_is_step
  B_is_step : Binds K fd_is_step ["thing"] []
  g_is_step : mg "is_step" = some (.ref (He.ga K "is_step"))
  fd_look_ask : FuncData
  F_look_ask : FunD K "look_ask" "look_ask" (defArgs s_look_ask) (defBody s_look_ask) (defScope s_look_ask) [] [] (He.ga K "look_ask") fd_look_ask
  B_look_ask : Binds K fd_look_ask ["ask"] []
  g_look_ask : mg "look_ask" = some (.ref (He.ga K "look_ask"))
  fd_fits : FuncData
  F_fits : FunD K "fits" "fits" (defArgs s_fits) (defBody s_fits) (defScope s_fits) [] [] (He.ga K "fits") fd_fits
  B_fits : Binds K fd_fits ["path", "ask"] []
  g_fits : mg "fits" = some (.ref (He.ga K "fits"))
  fd_asked : FuncData
  F_asked : FunD K "asked" "asked" (defArgs s_asked) (defBody s_asked) (defScope s_asked) [] [] (He.ga K "asked") fd_asked
  B_asked : Binds K fd_asked ["worth", "ask"] []
  g_asked : mg "asked" = some (.ref (He.ga K "asked"))
  fd_sought : FuncData
  F_sought : FunD K "sought" "sought" (defArgs s_sought) (defBody s_sought) (defScope s_sought) [] [] (He.ga K "sought") fd_sought
  B_sought : Binds K fd_sought ["worth", "ask"] []
  g_sought : mg "sought" = some (.ref (He.ga K "sought"))
  fd_replaced : FuncData
  F_replaced : FunD K "replaced" "replaced" (defArgs s_replaced) (defBody s_replaced) (defScope s_replaced) [] [] (He.ga K "replaced") fd_replaced
  B_replaced : Binds K fd_replaced ["worth", "ask", "new"] []
  g_replaced : mg "replaced" = some (.ref (He.ga K "replaced"))
  fd__law_cell : FuncData
  F__law_cell : FunD K "_law_cell" "_law_cell" (defArgs s__law_cell) (defBody s__law_cell) (defScope s__law_cell) [] [] (He.ga K "_law_cell") fd__law_cell
  B__law_cell : Binds K fd__law_cell ["_law_script", "_law_k"] []
  g__law_cell : mg "_law_cell" = some (.ref (He.ga K "_law_cell"))
  fd__law_mix : FuncData
  F__law_mix : FunD K "_law_mix" "_law_mix" (defArgs s__law_mix) (defBody s__law_mix) (defScope s__law_mix) [] [] (He.ga K "_law_mix") fd__law_mix
  B__law_mix : Binds K fd__law_mix ["_law_script", "_law_k"] []
  g__law_mix : mg "_law_mix" = some (.ref (He.ga K "_law_mix"))
  fd__law_draw : FuncData
  F__law_draw : FunD K "_law_draw" "_law_draw" (defArgs s__law_draw) (defBody s__law_draw) (defScope s__law_draw) [] [] (He.ga K "_law_draw") fd__law_draw
  B__law_draw : Binds K fd__law_draw ["_law_script", "_law_town", "_law_many"] []
  g__law_draw : mg "_law_draw" = some (.ref (He.ga K "_law_draw"))
  fd__law_pick : FuncData
  F__law_pick : FunD K "_law_pick" "_law_pick" (defArgs s__law_pick) (defBody s__law_pick) (defScope s__law_pick) [] [] (He.ga K "_law_pick") fd__law_pick
  B__law_pick : Binds K fd__law_pick ["_law_script", "_law_town", "_law_some"] []
  g__law_pick : mg "_law_pick" = some (.ref (He.ga K "_law_pick"))
  fd__law_refusal : FuncData
  F__law_refusal : FunD K "_law_refusal" "_law_refusal" (defArgs s__law_refusal) (defBody s__law_refusal) (defScope s__law_refusal) [] [] (He.ga K "_law_refusal") fd__law_refusal
  B__law_refusal : Binds K fd__law_refusal ["_law_caught"] []
  g__law_refusal : mg "_law_refusal" = some (.ref (He.ga K "_law_refusal"))
  fd__law_word : FuncData
  F__law_word : FunD K "_law_word" "_law_word" (defArgs s__law_word) (defBody s__law_word) (defScope s__law_word) [] [] (He.ga K "_law_word") fd__law_word
  B__law_word : Binds K fd__law_word ["_law_script", "_law_town"] []
  g__law_word : mg "_law_word" = some (.ref (He.ga K "_law_word"))
  fd__law_plain_one : FuncData
  F__law_plain_one : FunD K "_law_plain_one" "_law_plain_one" (defArgs s__law_plain_one) (defBody s__law_plain_one) (defScope s__law_plain_one) [] [] (He.ga K "_law_plain_one") fd__law_plain_one
  B__law_plain_one : Binds K fd__law_plain_one ["_law_script", "_law_town"] []
  g__law_plain_one : mg "_law_plain_one" = some (.ref (He.ga K "_law_plain_one"))
  fd__law_worth : FuncData
  F__law_worth : FunD K "_law_worth" "_law_worth" (defArgs s__law_worth) (defBody s__law_worth) (defScope s__law_worth) [] [] (He.ga K "_law_worth") fd__law_worth
  B__law_worth : Binds K fd__law_worth ["_law_script", "_law_town", "_law_deep", "_law_wide", "_law_stock"] []
  g__law_worth : mg "_law_worth" = some (.ref (He.ga K "_law_worth"))
  fd__law_anew : FuncData
  F__law_anew : FunD K "_law_anew" "_law_anew" (defArgs s__law_anew) (defBody s__law_anew) (defScope s__law_anew) [] [] (He.ga K "_law_anew") fd__law_anew
  B__law_anew : Binds K fd__law_anew ["_law_worth_here"] []
  g__law_anew : mg "_law_anew" = some (.ref (He.ga K "_law_anew"))
  fd__law_count : FuncData
  F__law_count : FunD K "_law_count" "_law_count" (defArgs s__law_count) (defBody s__law_count) (defScope s__law_count) [] [] (He.ga K "_law_count") fd__law_count
  B__law_count : Binds K fd__law_count ["_law_worth_here"] []
  g__law_count : mg "_law_count" = some (.ref (He.ga K "_law_count"))
  fd__law_good : FuncData
  F__law_good : FunD K "_law_good" "_law_good" (defArgs s__law_good) (defBody s__law_good) (defScope s__law_good) [] [] (He.ga K "_law_good") fd__law_good
  B__law_good : Binds K fd__law_good ["_law_script", "_law_town", "_law_deep", "_law_wide"] []
  g__law_good : mg "_law_good" = some (.ref (He.ga K "_law_good"))
  fd__law_one : FuncData
  F__law_one : FunD K "_law_one" "_law_one" (defArgs s__law_one) (defBody s__law_one) (defScope s__law_one) [] [] (He.ga K "_law_one") fd__law_one
  B__law_one : Binds K fd__law_one ["_law_kind", "_law_some"] []
  g__law_one : mg "_law_one" = some (.ref (He.ga K "_law_one"))
  fd__law_told : FuncData
  F__law_told : FunD K "_law_told" "_law_told" (defArgs s__law_told) (defBody s__law_told) (defScope s__law_told) [] [] (He.ga K "_law_told") fd__law_told
  B__law_told : Binds K fd__law_told ["_law_kind", "_law_some"] []
  g__law_told : mg "_law_told" = some (.ref (He.ga K "_law_told"))
  fd_law : FuncData
  F_law : FunD K "law" "law" (defArgs s_law) (defBody s_law) (defScope s_law) [] [] (He.ga K "law") fd_law
  B_law : Binds K fd_law ["_law_script"] []
  g_law : mg "law" = some (.ref (He.ga K "law"))
  b_ValueError : mg "ValueError" = none
  b_all : mg "all" = none
  b_any : mg "any" = none
  b_bool : mg "bool" = none
  b_dict : mg "dict" = none
  b_int : mg "int" = none
  b_isinstance : mg "isinstance" = none
  b_len : mg "len" = none
  b_list : mg "list" = none
  b_max : mg "max" = none
  b_range : mg "range" = none
  b_str : mg "str" = none
  b_sum : mg "sum" = none
  b_tuple : mg "tuple" = none
  c_SMALL : ∃ t, mg "SMALL" = some (.str "abcdefghijklmnopqrstuvwxyz" t)
  c_MOST_WORD : ∃ t, mg "MOST_WORD" = some (.int 12 t)
  c_MOST_NUMBER : ∃ t, mg "MOST_NUMBER" = some (.int 1000000 t)
  c_MOST_PARTS : ∃ t, mg "MOST_PARTS" = some (.int 60 t)
  c_MOST_DEEP : ∃ t, mg "MOST_DEEP" = some (.int 6 t)
  c_ONE : ∃ t, mg "ONE" = some (.str "*" t)
  c_ANY : ∃ t, mg "ANY" = some (.str "**" t)
  c_MOST_STEPS : ∃ t, mg "MOST_STEPS" = some (.int 6 t)
  g_DashError : mg "DashError" = some (.ref (He.ga K "DashError"))
  xf : XF K [.worth, .text, .path, .choice, .many, .deeds, .name, .ask]
  tf : ∀ e ∈ ([.worth, .text, .path, .choice, .many, .deeds, .name, .ask] : List Ex), PySem.W.exmOne K (.ref (clsU K e)) (.ref (He.ga K "DashError")) = some true
  x_BadWorth : PySem.W.excIn K (He.ga K "BadWorth") He.veBase "ValueError.__new__" = true ∧ mg "BadWorth" = some (.ref (He.ga K "BadWorth")) ∧ PySem.W.keepIn K (.ref (He.ga K "BadWorth")) = true ∧ PySem.W.subIn K (.ref (He.ga K "BadWorth")) (.type "BaseException") = some true ∧ PySem.W.typeIn K (.ref (He.ga K "BadWorth")) = some (.type "type")
  x_BadText : PySem.W.excIn K (He.ga K "BadText") He.veBase "ValueError.__new__" = true ∧ mg "BadText" = some (.ref (He.ga K "BadText")) ∧ PySem.W.keepIn K (.ref (He.ga K "BadText")) = true ∧ PySem.W.subIn K (.ref (He.ga K "BadText")) (.type "BaseException") = some true ∧ PySem.W.typeIn K (.ref (He.ga K "BadText")) = some (.type "type")
  x_BadPath : PySem.W.excIn K (He.ga K "BadPath") He.veBase "ValueError.__new__" = true ∧ mg "BadPath" = some (.ref (He.ga K "BadPath")) ∧ PySem.W.keepIn K (.ref (He.ga K "BadPath")) = true ∧ PySem.W.subIn K (.ref (He.ga K "BadPath")) (.type "BaseException") = some true ∧ PySem.W.typeIn K (.ref (He.ga K "BadPath")) = some (.type "type")
  x_BadChoice : PySem.W.excIn K (He.ga K "BadChoice") He.veBase "ValueError.__new__" = true ∧ mg "BadChoice" = some (.ref (He.ga K "BadChoice")) ∧ PySem.W.keepIn K (.ref (He.ga K "BadChoice")) = true ∧ PySem.W.subIn K (.ref (He.ga K "BadChoice")) (.type "BaseException") = some true ∧ PySem.W.typeIn K (.ref (He.ga K "BadChoice")) = some (.type "type")
  x_TooMany : PySem.W.excIn K (He.ga K "TooMany") He.veBase "ValueError.__new__" = true ∧ mg "TooMany" = some (.ref (He.ga K "TooMany")) ∧ PySem.W.keepIn K (.ref (He.ga K "TooMany")) = true ∧ PySem.W.subIn K (.ref (He.ga K "TooMany")) (.type "BaseException") = some true ∧ PySem.W.typeIn K (.ref (He.ga K "TooMany")) = some (.type "type")
  x_BadDeeds : PySem.W.excIn K (He.ga K "BadDeeds") He.veBase "ValueError.__new__" = true ∧ mg "BadDeeds" = some (.ref (He.ga K "BadDeeds")) ∧ PySem.W.keepIn K (.ref (He.ga K "BadDeeds")) = true ∧ PySem.W.subIn K (.ref (He.ga K "BadDeeds")) (.type "BaseException") = some true ∧ PySem.W.typeIn K (.ref (He.ga K "BadDeeds")) = some (.type "type")
  x_NoName : PySem.W.excIn K (He.ga K "NoName") He.veBase "ValueError.__new__" = true ∧ mg "NoName" = some (.ref (He.ga K "NoName")) ∧ PySem.W.keepIn K (.ref (He.ga K "NoName")) = true ∧ PySem.W.subIn K (.ref (He.ga K "NoName")) (.type "BaseException") = some true ∧ PySem.W.typeIn K (.ref (He.ga K "NoName")) = some (.type "type")
  x_BadAsk : PySem.W.excIn K (He.ga K "BadAsk") He.veBase "ValueError.__new__" = true ∧ mg "BadAsk" = some (.ref (He.ga K "BadAsk")) ∧ PySem.W.keepIn K (.ref (He.ga K "BadAsk")) = true ∧ PySem.W.subIn K (.ref (He.ga K "BadAsk")) (.type "BaseException") = some true ∧ PySem.W.typeIn K (.ref (He.ga K "BadAsk")) = some (.type "type")
theorem sc_is_whole : FnScope N_is_whole ["thing", "low", "most"] (defScope s_is_whole) := ⟨rfl, rfl, rfl, by decide +kernel, rfl, by decide +kernel, by decide +kernel⟩
theorem sc_is_word : FnScope N_is_word ["thing"] (defScope s_is_word) := ⟨rfl, rfl, rfl, by decide +kernel, rfl, by decide +kernel, by decide +kernel⟩
theorem sc_is_plain : FnScope N_is_plain ["thing"] (defScope s_is_plain) := ⟨rfl, rfl, rfl, by decide +kernel, rfl, by decide +kernel, by decide +kernel⟩
theorem sc_parts_of : FnScope N_parts_of ["thing", "deep"] (defScope s_parts_of) := ⟨rfl, rfl, rfl, by decide +kernel, rfl, by decide +kernel, by decide +kernel⟩
theorem sc_look_worth : FnScope N_look_worth ["worth"] (defScope s_look_worth) := ⟨rfl, rfl, rfl, by decide +kernel, rfl, by decide +kernel, by decide +kernel⟩
theorem sc_copied : FnScope N_copied ["worth"] (defScope s_copied) := ⟨rfl, rfl, rfl, by decide +kernel, rfl, by decide +kernel, by decide +kernel⟩
theorem sc_inside : FnScope N_inside ["worth"] (defScope s_inside) := ⟨rfl, rfl, rfl, by decide +kernel, rfl, by decide +kernel, by decide +kernel⟩
theorem sc_all_paths : FnScope N_all_paths ["worth"] (defScope s_all_paths) := ⟨rfl, rfl, rfl, by decide +kernel, rfl, by decide +kernel, by decide +kernel⟩
theorem sc_changed_at : FnScope N_changed_at ["worth", "path", "new"] (defScope s_changed_at) := ⟨rfl, rfl, rfl, by decide +kernel, rfl, by decide +kernel, by decide +kernel⟩
theorem sc_is_step : FnScope N_is_step ["thing"] (defScope s_is_step) := ⟨rfl, rfl, rfl, by decide +kernel, rfl, by decide +kernel, by decide +kernel⟩
theorem sc_look_ask : FnScope N_look_ask ["ask"] (defScope s_look_ask) := ⟨rfl, rfl, rfl, by decide +kernel, rfl, by decide +kernel, by decide +kernel⟩
theorem sc_fits : FnScope N_fits ["path", "ask"] (defScope s_fits) := ⟨rfl, rfl, rfl, by decide +kernel, rfl, by decide +kernel, by decide +kernel⟩
theorem sc_asked : FnScope N_asked ["worth", "ask"] (defScope s_asked) := ⟨rfl, rfl, rfl, by decide +kernel, rfl, by decide +kernel, by decide +kernel⟩
theorem sc_sought : FnScope N_sought ["worth", "ask"] (defScope s_sought) := ⟨rfl, rfl, rfl, by decide +kernel, rfl, by decide +kernel, by decide +kernel⟩
theorem sc_replaced : FnScope N_replaced ["worth", "ask", "new"] (defScope s_replaced) := ⟨rfl, rfl, rfl, by decide +kernel, rfl, by decide +kernel, by decide +kernel⟩
theorem sc__law_cell : FnScope N__law_cell ["_law_script", "_law_k"] (defScope s__law_cell) := ⟨rfl, rfl, rfl, by decide +kernel, rfl, by decide +kernel, by decide +kernel⟩
theorem sc__law_mix : FnScope N__law_mix ["_law_script", "_law_k"] (defScope s__law_mix) := ⟨rfl, rfl, rfl, by decide +kernel, rfl, by decide +kernel, by decide +kernel⟩
theorem sc__law_draw : FnScope N__law_draw ["_law_script", "_law_town", "_law_many"] (defScope s__law_draw) := ⟨rfl, rfl, rfl, by decide +kernel, rfl, by decide +kernel, by decide +kernel⟩
theorem sc__law_pick : FnScope N__law_pick ["_law_script", "_law_town", "_law_some"] (defScope s__law_pick) := ⟨rfl, rfl, rfl, by decide +kernel, rfl, by decide +kernel, by decide +kernel⟩
theorem sc__law_refusal : FnScope N__law_refusal ["_law_caught"] (defScope s__law_refusal) := ⟨rfl, rfl, rfl, by decide +kernel, rfl, by decide +kernel, by decide +kernel⟩
theorem sc__law_word : FnScope N__law_word ["_law_script", "_law_town"] (defScope s__law_word) := ⟨rfl, rfl, rfl, by decide +kernel, rfl, by decide +kernel, by decide +kernel⟩
theorem sc__law_plain_one : FnScope N__law_plain_one ["_law_script", "_law_town"] (defScope s__law_plain_one) := ⟨rfl, rfl, rfl, by decide +kernel, rfl, by decide +kernel, by decide +kernel⟩
theorem sc__law_anew : FnScope N__law_anew ["_law_worth_here"] (defScope s__law_anew) := ⟨rfl, rfl, rfl, by decide +kernel, rfl, by decide +kernel, by decide +kernel⟩
theorem sc__law_worth : FnScope N__law_worth ["_law_script", "_law_town", "_law_deep", "_law_wide", "_law_stock"] (defScope s__law_worth) := ⟨rfl, rfl, rfl, by decide +kernel, rfl, by decide +kernel, by decide +kernel⟩
theorem sc__law_count : FnScope N__law_count ["_law_worth_here"] (defScope s__law_count) := ⟨rfl, rfl, rfl, by decide +kernel, rfl, by decide +kernel, by decide +kernel⟩
theorem sc__law_good : FnScope N__law_good ["_law_script", "_law_town", "_law_deep", "_law_wide"] (defScope s__law_good) := ⟨rfl, rfl, rfl, by decide +kernel, rfl, by decide +kernel, by decide +kernel⟩
theorem sc__law_one : FnScope N__law_one ["_law_kind", "_law_some"] (defScope s__law_one) := ⟨rfl, rfl, rfl, by decide +kernel, rfl, by decide +kernel, by decide +kernel⟩
theorem sc__law_told : FnScope N__law_told ["_law_kind", "_law_some"] (defScope s__law_told) := ⟨rfl, rfl, rfl, by decide +kernel, rfl, by decide +kernel, by decide +kernel⟩
theorem sc_law : FnScope N_law ["_law_script"] (defScope s_law) := ⟨rfl, rfl, rfl, by decide +kernel, rfl, by decide +kernel, by decide +kernel⟩
section
variable {P : Program} {w : World} {K : Fg} {mg : Str → Option Value} {base : Heap} (c : Fx K mg)
include c
theorem ok_is_whole : ∀ k, FnOk P w K mg base (L2.CX P w) k (He.ga K "is_whole") c.fd_is_whole ["thing", "low", "most"] (spD K (clsU K) [] 3 (G_is_whole k))
  | 0 => fn_stk
  | k + 1 => fn_def (N := N_is_whole) c.F_is_whole sc_is_whole rfl fun cdv A outer s H E hr => by
    have hu := hu_of hr
    have hu64 := hr.units
    have nd := sc_is_whole.nd
    have tk : Takes (cxOf (L2.CX P w) P w K mg base N_is_whole "is_whole" (defScope s_is_whole) (He.ga K "is_whole") cdv A outer s H E) (fun c d _ H => E c d H) := takes_of rfl rfl rfl rfl
    exact ⟨_, (xs1 (sret (xand (xblt (Kisi K) od_isi c.b_isinstance boot_isinstance (xa (xv 0) (xa (xty c.b_int (by decide +kernel)) xa0))) (xand (xnot (xblt (Kisi K) od_isi c.b_isinstance boot_isinstance (xa (xv 0) (xa (xty c.b_bool (by decide +kernel)) xa0)))) (xand1 (xchain op_le od_cmp op_le od_cmp (xv 1) (xv 0) (xv 2)))))))⟩
theorem ok_is_word : ∀ k, FnOk P w K mg base (L2.CX P w) k (He.ga K "is_word") c.fd_is_word ["thing"] (spD K (clsU K) [] 1 (G_is_word k))
  | 0 => fn_stk
  | k + 1 => fn_def (N := N_is_word) c.F_is_word sc_is_word rfl fun cdv A outer s H E hr => by
    have hu := hu_of hr
    have hu64 := hr.units
    have nd := sc_is_word.nd
    have tk : Takes (cxOf (L2.CX P w) P w K mg base N_is_word "is_word" (defScope s_is_word) (He.ga K "is_word") cdv A outer s H E) (fun c d _ H => E c d H) := takes_of rfl rfl rfl rfl
    exact ⟨_, (xs1 (sret (xand (xblt (Kisi K) od_isi c.b_isinstance boot_isinstance (xa (xv 0) (xa (xty c.b_str (by decide +kernel)) xa0))) (xand (xchain op_le od_cmp op_le od_cmp xint (xblt (Klen K) od_len c.b_len PySem.boot_len (xa (xv 0) xa0)) (xgi c.c_MOST_WORD)) (xand1 (xblt (Kall K rfl) od_all c.b_all boot_all (xa (xlc (own := [("sign", 1)]) rfl nd (xi (K := K) (xv 0)) (blkOk_by (N := N_is_word) (sc := defScope s_is_word) (by decide +kernel)) (fun _ _ _ _ _ => xg (i := 1) nd) (fun _ _ _ _ _ => xts0) (fun _ _ _ _ _ => (xcmp (Kin K hu) od_in (xv 1) (xgs c.c_SMALL)))) xa0)))))))⟩
theorem ok_is_plain : ∀ k, FnOk P w K mg base (L2.CX P w) k (He.ga K "is_plain") c.fd_is_plain ["thing"] (spD K (clsU K) [] 1 (G_is_plain k))
  | 0 => fn_stk
  | k + 1 => fn_def (N := N_is_plain) c.F_is_plain sc_is_plain rfl fun cdv A outer s H E hr => by
    have hu := hu_of hr
    have hu64 := hr.units
    have nd := sc_is_plain.nd
    have tk : Takes (cxOf (L2.CX P w) P w K mg base N_is_plain "is_plain" (defScope s_is_plain) (He.ga K "is_plain") cdv A outer s H E) (fun c d _ H => E c d H) := takes_of rfl rfl rfl rfl
    exact ⟨_, (xs1 (sret (xor (xcall (K := K) (ok_is_whole c k) hr c.g_is_whole c.F_is_whole.kp c.B_is_whole tk (xa (xv 0) (xa (xop op_sub od_sub xint (xgi c.c_MOST_NUMBER)) (xa (xgi c.c_MOST_NUMBER) xa0)))) (xand1 (xcall (K := K) (ok_is_word c k) hr c.g_is_word c.F_is_word.kp c.B_is_word tk (xa (xv 0) xa0))))))⟩
theorem ok_parts_of : ∀ k, FnOk P w K mg base (L2.CX P w) k (He.ga K "parts_of") c.fd_parts_of ["thing", "deep"] (spD K (clsU K) [] 2 (G_parts_of k))
  | 0 => fn_stk
  | k + 1 => fn_def (N := N_parts_of) c.F_parts_of sc_parts_of rfl fun cdv A outer s H E hr => by
    have hu := hu_of hr
    have hu64 := hr.units
    have nd := sc_parts_of.nd
    have tk : Takes (cxOf (L2.CX P w) P w K mg base N_parts_of "parts_of" (defScope s_parts_of) (He.ga K "parts_of") cdv A outer s H E) (fun c d _ H => E c d H) := takes_of rfl rfl rfl rfl
    exact ⟨_, (xs (sif (xtru (K := K) (xcall (K := K) (ok_is_plain c k) hr c.g_is_plain c.F_is_plain.kp c.B_is_plain tk (xa (xv 0) xa0))) (xs1 (sret xint)) xs0)
      (xs (sif (xtw (xwor (xtw (xwand (xtnot (xtru (K := K) (xblt (Kisi K) od_isi c.b_isinstance boot_isinstance (xa (xv 0) (xa (xty c.b_list (by decide +kernel)) xa0))))) (xwand1 (xtnot (xtru (K := K) (xblt (Kisi K) od_isi c.b_isinstance boot_isinstance (xa (xv 0) (xa (xty c.b_dict (by decide +kernel)) xa0)))))))) (xwor1 (xtcmp (Keq K hu64) od_eq (xv 1) xint)))) (xs1 (sret xnon)) xs0)
      (xs (sif (xtw (xwand (xtru (K := K) (xblt (Kisi K) od_isi c.b_isinstance boot_isinstance (xa (xv 0) (xa (xty c.b_dict (by decide +kernel)) xa0)))) (xwand1 (xtnot (xtru (K := K) (xblt (Kall K rfl) od_all c.b_all boot_all (xa (xlcK (own := [("key", 2)]) rfl nd (xv 0) (blkOk_by (N := N_parts_of) (sc := defScope s_parts_of) (by decide +kernel)) (fun _ _ _ _ _ => xg (i := 2) nd) (fun _ _ _ _ _ => xts0) (fun _ _ _ _ _ => (xcall0 (K := K) (ok_is_word c k) hr c.g_is_word c.F_is_word.kp c.B_is_word (xa (xv 2) xa0)))) xa0))))))) (xs1 (sret xnon)) xs0)
      (xs (sset 3 (by decide) nd (xif (xtru (K := K) (xblt (Kisi K) od_isi c.b_isinstance boot_isinstance (xa (xv 0) (xa (xty c.b_list (by decide +kernel)) xa0)))) (xv 0) (xlcK (own := [("key", 2)]) rfl nd (xv 0) (blkOk_by (N := N_parts_of) (sc := defScope s_parts_of) (by decide +kernel)) (fun _ _ _ _ _ => xg (i := 2) nd) (fun _ _ _ _ _ => xts0) (fun _ _ _ _ _ => (xix (K := K) hu (xv 0) (xv 2))))))
      (xs (sif (xtcmp op_gt od_cmp (xblt (Klen K) od_len c.b_len PySem.boot_len (xa (xv 3) xa0)) (xgi c.c_MOST_PARTS)) (xs1 (sret xnon)) xs0)
      (xs (xsetLc (i := 4) (own := [("one", 5)]) (by decide) rfl nd (xi (K := K) (xv 3)) (blkOk_by (N := N_parts_of) (sc := defScope s_parts_of) (by decide +kernel)) (fun _ _ _ _ _ => xg (i := 5) nd) (fun _ _ _ _ _ => xts0) (fun _ _ _ _ _ => (xcall0 (K := K) (ok_parts_of k) hr c.g_parts_of c.F_parts_of.kp c.B_parts_of (xa (xv 5) (xa (xop op_sub od_sub (xv 1) xint) xa0)))) (sw_true rfl rfl rfl (by decide +kernel)))
      (xs1 (sret (xif (xtcmp (Kin K hu) od_in xnon (xv 4)) xnon (xop (Kadd K) od_add xint (xblt (Ksum K rfl) od_sum c.b_sum boot_sum (xa (xv 4) xa0))))))))))))⟩
theorem ok_look_worth : ∀ k, FnOk P w K mg base (L2.CX P w) k (He.ga K "look_worth") c.fd_look_worth ["worth"] (spD K (clsU K) [] 1 (G_look_worth k))
  | 0 => fn_stk
  | k + 1 => fn_def (N := N_look_worth) c.F_look_worth sc_look_worth rfl fun cdv A outer s H E hr => by
    have hu := hu_of hr
    have hu64 := hr.units
    have nd := sc_look_worth.nd
    have tk : Takes (cxOf (L2.CX P w) P w K mg base N_look_worth "look_worth" (defScope s_look_worth) (He.ga K "look_worth") cdv A outer s H E) (fun c d _ H => E c d H) := takes_of rfl rfl rfl rfl
    exact ⟨_, (xs (sset 1 (by decide) nd (xcall (K := K) (ok_parts_of c k) hr c.g_parts_of c.F_parts_of.kp c.B_parts_of tk (xa (xv 0) (xa (xgi c.c_MOST_DEEP) xa0))))
      (xs1 (sif (xtw (xwor (xtcmp op_isN od_isN (xv 1) xnon) (xwor1 (xtcmp op_gt od_cmp (xv 1) (xgi c.c_MOST_PARTS))))) (xs1 (sraise (c := .worth) rfl rfl tk c.x_BadWorth.1 c.x_BadWorth.2.1 c.x_BadWorth.2.2.1 c.x_BadWorth.2.2.2.1 c.x_BadWorth.2.2.2.2)) xs0)))⟩
theorem ok_copied : ∀ k, FnOk P w K mg base (L2.CX P w) k (He.ga K "copied") c.fd_copied ["worth"] (spD K (clsU K) [] 1 (G_copied k))
  | 0 => fn_stk
  | k + 1 => fn_def (N := N_copied) c.F_copied sc_copied rfl fun cdv A outer s H E hr => by
    have hu := hu_of hr
    have hu64 := hr.units
    have nd := sc_copied.nd
    have tk : Takes (cxOf (L2.CX P w) P w K mg base N_copied "copied" (defScope s_copied) (He.ga K "copied") cdv A outer s H E) (fun c d _ H => E c d H) := takes_of rfl rfl rfl rfl
    exact ⟨_, (xs (sif (xtru (K := K) (xblt (Kisi K) od_isi c.b_isinstance boot_isinstance (xa (xv 0) (xa (xty c.b_list (by decide +kernel)) xa0)))) (xs1 (sret (xlc (own := [("one", 1)]) rfl nd (xi (K := K) (xv 0)) (blkOk_by (N := N_copied) (sc := defScope s_copied) (by decide +kernel)) (fun _ _ _ _ _ => xg (i := 1) nd) (fun _ _ _ _ _ => xts0) (fun _ _ _ _ _ => (xcall0 (K := K) (ok_copied k) hr c.g_copied c.F_copied.kp c.B_copied (xa (xv 1) xa0)))))) xs0)
      (xs (sif (xtru (K := K) (xblt (Kisi K) od_isi c.b_isinstance boot_isinstance (xa (xv 0) (xa (xty c.b_dict (by decide +kernel)) xa0)))) (xs1 (sret (xbty (Kdict K rfl) od_dict c.b_dict boot_dict (xa (xlcK (own := [("key", 2)]) rfl nd (xv 0) (blkOk_by (N := N_copied) (sc := defScope s_copied) (by decide +kernel)) (fun _ _ _ _ _ => xg (i := 2) nd) (fun _ _ _ _ _ => xts0) (fun _ _ _ _ _ => (xtup (xa (xv 2) (xa (xcall0 (K := K) (ok_copied k) hr c.g_copied c.F_copied.kp c.B_copied (xa (xix (K := K) hu (xv 0) (xv 2)) xa0)) xa0))))) xa0)))) xs0)
      (xs1 (sret (xv 0)))))⟩
theorem ok_inside : ∀ k, FnOk P w K mg base (L2.CX P w) k (He.ga K "inside") c.fd_inside ["worth"] (spD K (clsU K) [] 1 (G_inside k))
  | 0 => fn_stk
  | k + 1 => fn_def (N := N_inside) c.F_inside sc_inside rfl fun cdv A outer s H E hr => by
    have hu := hu_of hr
    have hu64 := hr.units
    have nd := sc_inside.nd
    have tk : Takes (cxOf (L2.CX P w) P w K mg base N_inside "inside" (defScope s_inside) (He.ga K "inside") cdv A outer s H E) (fun c d _ H => E c d H) := takes_of rfl rfl rfl rfl
    exact ⟨_, (xs (sif (xtru (K := K) (xblt (Kisi K) od_isi c.b_isinstance boot_isinstance (xa (xv 0) (xa (xty c.b_list (by decide +kernel)) xa0)))) (xs1 (sret (xlc (own := [("k", 1)]) rfl nd (xr1 c.b_range (xa (xblt (Klen K) od_len c.b_len PySem.boot_len (xa (xv 0) xa0)) xa0)) (blkOk_by (N := N_inside) (sc := defScope s_inside) (by decide +kernel)) (fun _ _ _ _ _ => xg (i := 1) nd) (fun _ _ _ _ _ => xts0) (fun _ _ _ _ _ => (xtup (xa (xv 1) (xa (xix (K := K) hu (xv 0) (xv 1)) xa0))))))) xs0)
      (xs1 (sret (xif (xtru (K := K) (xblt (Kisi K) od_isi c.b_isinstance boot_isinstance (xa (xv 0) (xa (xty c.b_dict (by decide +kernel)) xa0)))) (xlcK (own := [("key", 2)]) rfl nd (xv 0) (blkOk_by (N := N_inside) (sc := defScope s_inside) (by decide +kernel)) (fun _ _ _ _ _ => xg (i := 2) nd) (fun _ _ _ _ _ => xts0) (fun _ _ _ _ _ => (xtup (xa (xv 2) (xa (xix (K := K) hu (xv 0) (xv 2)) xa0))))) (xlst xa0)))))⟩
theorem ok_all_paths : ∀ k, FnOk P w K mg base (L2.CX P w) k (He.ga K "all_paths") c.fd_all_paths ["worth"] (spD K (clsU K) [] 1 (G_all_paths k))
  | 0 => fn_stk
  | k + 1 => fn_def (N := N_all_paths) c.F_all_paths sc_all_paths rfl fun cdv A outer s H E hr => by
    have hu := hu_of hr
    have hu64 := hr.units
    have nd := sc_all_paths.nd
    have tk : Takes (cxOf (L2.CX P w) P w K mg base N_all_paths "all_paths" (defScope s_all_paths) (He.ga K "all_paths") cdv A outer s H E) (fun c d _ H => E c d H) := takes_of rfl rfl rfl rfl
    exact ⟨_, (xs (sset 1 (by decide) nd (xlst (xa (xtup xa0) xa0)))
      (xs (sfor (fg := [2, 3]) (by decide) (by decide) (by decide) (passes_of rfl) rfl (xi (K := K) (xcall (K := K) (ok_inside c k) hr c.g_inside c.F_inside.kp c.B_inside tk (xa (xv 0) xa0))) (xgt (K := K) (n := 2) (is := [2, 3]) rfl (pgs_cons (pg_name (i := 2) nd rfl (by first | exact .inl rfl | exact .inr rfl)) (pgs_cons (pg_name (i := 3) nd rfl (by first | exact .inl rfl | exact .inr rfl)) pgs_nil))) (xs1 (sexp (xext (K := K) (xv 1) (xlc (own := [("path", 4)]) rfl nd (xi (K := K) (xcall (K := K) (ok_all_paths k) hr c.g_all_paths c.F_all_paths.kp c.B_all_paths tk (xa (xv 3) xa0))) (blkOk_by (N := N_all_paths) (sc := defScope s_all_paths) (by decide +kernel)) (fun _ _ _ _ _ => xg (i := 4) nd) (fun _ _ _ _ _ => xts0) (fun _ _ _ _ _ => (xop (Kadd K) od_add (xtup (xa (xv 2) xa0)) (xv 4))))))))
      (xs1 (sret (xv 1)))))⟩
theorem ok_changed_at : ∀ k, FnOk P w K mg base (L2.CX P w) k (He.ga K "changed_at") c.fd_changed_at ["worth", "path", "new"] (spD K (clsU K) [] 3 (G_changed_at k))
  | 0 => fn_stk
  | k + 1 => fn_def (N := N_changed_at) c.F_changed_at sc_changed_at rfl fun cdv A outer s H E hr => by
    have hu := hu_of hr
    have hu64 := hr.units
    have nd := sc_changed_at.nd
    have tk : Takes (cxOf (L2.CX P w) P w K mg base N_changed_at "changed_at" (defScope s_changed_at) (He.ga K "changed_at") cdv A outer s H E) (fun c d _ H => E c d H) := takes_of rfl rfl rfl rfl
    exact ⟨_, (xs (sif (xtcmp (Keq K hu64) od_eq (xv 1) (xtup xa0)) (xs1 (sret (xcall (K := K) (ok_copied c k) hr c.g_copied c.F_copied.kp c.B_copied tk (xa (xv 2) xa0)))) xs0)
      (xs (sif (xtru (K := K) (xblt (Kisi K) od_isi c.b_isinstance boot_isinstance (xa (xv 0) (xa (xty c.b_list (by decide +kernel)) xa0)))) (xs1 (sret (xlc (own := [("k", 3), ("one", 4)]) rfl nd (xi (K := K) (xcall (K := K) (ok_inside c k) hr c.g_inside c.F_inside.kp c.B_inside tk (xa (xv 0) xa0))) (blkOk_by (N := N_changed_at) (sc := defScope s_changed_at) (by decide +kernel)) (fun _ _ _ _ _ => xgt (K := K) (n := 2) (is := [3, 4]) rfl (pgs_cons (pg_name (i := 3) nd rfl (by first | exact .inl rfl | exact .inr rfl)) (pgs_cons (pg_name (i := 4) nd rfl (by first | exact .inl rfl | exact .inr rfl)) pgs_nil))) (fun _ _ _ _ _ => xts0) (fun _ _ _ _ _ => (xif (xtcmp (Keq K hu64) od_eq (xv 3) (xix (K := K) hu (xv 1) xint)) (xcall0 (K := K) (ok_changed_at k) hr c.g_changed_at c.F_changed_at.kp c.B_changed_at (xa (xv 4) (xa (xsl (K := K) (xv 1) (xo1 xint) xo0) (xa (xv 2) xa0)))) (xcall0 (K := K) (ok_copied c k) hr c.g_copied c.F_copied.kp c.B_copied (xa (xv 4) xa0))))))) xs0)
      (xs (sset 5 (by decide) nd (xcall (K := K) (ok_copied c k) hr c.g_copied c.F_copied.kp c.B_copied tk (xa (xv 0) xa0)))
      (xs (sput hu (xv 5) (xix (K := K) hu (xv 1) xint) (xcall (K := K) (ok_changed_at k) hr c.g_changed_at c.F_changed_at.kp c.B_changed_at tk (xa (xix (K := K) hu (xv 0) (xix (K := K) hu (xv 1) xint)) (xa (xsl (K := K) (xv 1) (xo1 xint) xo0) (xa (xv 2) xa0)))))
      (xs1 (sret (xv 5)))))))⟩
theorem ok_is_step : ∀ k, FnOk P w K mg base (L2.CX P w) k (He.ga K "is_step") c.fd_is_step ["thing"] (spD K (clsU K) [] 1 (G_is_step k))
  | 0 => fn_stk
  | k + 1 => fn_def (N := N_is_step) c.F_is_step sc_is_step rfl fun cdv A outer s H E hr => by
    have hu := hu_of hr
    have hu64 := hr.units
    have nd := sc_is_step.nd
    have tk : Takes (cxOf (L2.CX P w) P w K mg base N_is_step "is_step" (defScope s_is_step) (He.ga K "is_step") cdv A outer s H E) (fun c d _ H => E c d H) := takes_of rfl rfl rfl rfl
    exact ⟨_, (xs (sif (xtru (K := K) (xblt (Kisi K) od_isi c.b_isinstance boot_isinstance (xa (xv 0) (xa (xty c.b_str (by decide +kernel)) xa0)))) (xs1 (sret (xor (xcmp (Kin K hu) od_in (xv 0) (xtup (xa (xgs c.c_ONE) (xa (xgs c.c_ANY) xa0)))) (xand1 (xcall (K := K) (ok_is_word c k) hr c.g_is_word c.F_is_word.kp c.B_is_word tk (xa (xv 0) xa0)))))) xs0)
      (xs1 (sret (xcall (K := K) (ok_is_whole c k) hr c.g_is_whole c.F_is_whole.kp c.B_is_whole tk (xa (xv 0) (xa xint (xa (xgi c.c_MOST_PARTS) xa0)))))))⟩
theorem ok_look_ask : ∀ k, FnOk P w K mg base (L2.CX P w) k (He.ga K "look_ask") c.fd_look_ask ["ask"] (spD K (clsU K) [] 1 (G_look_ask k))
  | 0 => fn_stk
  | k + 1 => fn_def (N := N_look_ask) c.F_look_ask sc_look_ask rfl fun cdv A outer s H E hr => by
    have hu := hu_of hr
    have hu64 := hr.units
    have nd := sc_look_ask.nd
    have tk : Takes (cxOf (L2.CX P w) P w K mg base N_look_ask "look_ask" (defScope s_look_ask) (He.ga K "look_ask") cdv A outer s H E) (fun c d _ H => E c d H) := takes_of rfl rfl rfl rfl
    exact ⟨_, (xs1 (sif (xtw (xwor (xtnot (xtru (K := K) (xblt (Kisi K) od_isi c.b_isinstance boot_isinstance (xa (xv 0) (xa (xty c.b_tuple (by decide +kernel)) xa0))))) (xwor (xtcmp op_gt od_cmp (xblt (Klen K) od_len c.b_len PySem.boot_len (xa (xv 0) xa0)) (xgi c.c_MOST_STEPS)) (xwor1 (xtnot (xtru (K := K) (xblt (Kall K rfl) od_all c.b_all boot_all (xa (xlc (own := [("step", 1)]) rfl nd (xi (K := K) (xv 0)) (blkOk_by (N := N_look_ask) (sc := defScope s_look_ask) (by decide +kernel)) (fun _ _ _ _ _ => xg (i := 1) nd) (fun _ _ _ _ _ => xts0) (fun _ _ _ _ _ => (xcall0 (K := K) (ok_is_step c k) hr c.g_is_step c.F_is_step.kp c.B_is_step (xa (xv 1) xa0)))) xa0)))))))) (xs1 (sraise (c := .ask) rfl rfl tk c.x_BadAsk.1 c.x_BadAsk.2.1 c.x_BadAsk.2.2.1 c.x_BadAsk.2.2.2.1 c.x_BadAsk.2.2.2.2)) xs0))⟩
theorem ok_fits : ∀ k, FnOk P w K mg base (L2.CX P w) k (He.ga K "fits") c.fd_fits ["path", "ask"] (spD K (clsU K) [] 2 (G_fits k))
  | 0 => fn_stk
  | k + 1 => fn_def (N := N_fits) c.F_fits sc_fits rfl fun cdv A outer s H E hr => by
    have hu := hu_of hr
    have hu64 := hr.units
    have nd := sc_fits.nd
    have tk : Takes (cxOf (L2.CX P w) P w K mg base N_fits "fits" (defScope s_fits) (He.ga K "fits") cdv A outer s H E) (fun c d _ H => E c d H) := takes_of rfl rfl rfl rfl
    exact ⟨_, (xs (sif (xtcmp (Keq K hu64) od_eq (xv 1) (xtup xa0)) (xs1 (sret (xcmp (Keq K hu64) od_eq (xv 0) (xtup xa0)))) xs0)
      (xs (sif (xtcmp (Keq K hu64) od_eq (xix (K := K) hu (xv 1) xint) (xgs c.c_ANY)) (xs1 (sret (xblt (Kany K rfl) od_any c.b_any boot_any (xa (xlc (own := [("k", 2)]) rfl nd (xr1 c.b_range (xa (xop (Kadd K) od_add (xblt (Klen K) od_len c.b_len PySem.boot_len (xa (xv 0) xa0)) xint) xa0)) (blkOk_by (N := N_fits) (sc := defScope s_fits) (by decide +kernel)) (fun _ _ _ _ _ => xg (i := 2) nd) (fun _ _ _ _ _ => xts0) (fun _ _ _ _ _ => (xcall0 (K := K) (ok_fits k) hr c.g_fits c.F_fits.kp c.B_fits (xa (xsl (K := K) (xv 0) (xo1 (xv 2)) xo0) (xa (xsl (K := K) (xv 1) (xo1 xint) xo0) xa0))))) xa0)))) xs0)
      (xs1 (sret (xand (xcmp (Kne K hu64) od_ne (xv 0) (xtup xa0)) (xand (xor (xcmp (Keq K hu64) od_eq (xix (K := K) hu (xv 1) xint) (xgs c.c_ONE)) (xand1 (xcmp (Keq K hu64) od_eq (xix (K := K) hu (xv 1) xint) (xix (K := K) hu (xv 0) xint)))) (xand1 (xcall (K := K) (ok_fits k) hr c.g_fits c.F_fits.kp c.B_fits tk (xa (xsl (K := K) (xv 0) (xo1 xint) xo0) (xa (xsl (K := K) (xv 1) (xo1 xint) xo0) xa0))))))))))⟩
theorem ok_asked : ∀ k, FnOk P w K mg base (L2.CX P w) k (He.ga K "asked") c.fd_asked ["worth", "ask"] (spD K (clsU K) [] 2 (G_asked k))
  | 0 => fn_stk
  | k + 1 => fn_def (N := N_asked) c.F_asked sc_asked rfl fun cdv A outer s H E hr => by
    have hu := hu_of hr
    have hu64 := hr.units
    have nd := sc_asked.nd
    have tk : Takes (cxOf (L2.CX P w) P w K mg base N_asked "asked" (defScope s_asked) (He.ga K "asked") cdv A outer s H E) (fun c d _ H => E c d H) := takes_of rfl rfl rfl rfl
    exact ⟨_, (xs1 (sret (xlc (own := [("path", 2)]) rfl nd (xi (K := K) (xcall (K := K) (ok_all_paths c k) hr c.g_all_paths c.F_all_paths.kp c.B_all_paths tk (xa (xv 0) xa0))) (blkOk_by (N := N_asked) (sc := defScope s_asked) (by decide +kernel)) (fun _ _ _ _ _ => xg (i := 2) nd) (fun _ _ _ _ _ => (xts1 (xtru (K := K) (xcall0 (K := K) (ok_fits c k) hr c.g_fits c.F_fits.kp c.B_fits (xa (xv 2) (xa (xv 1) xa0)))))) (fun _ _ _ _ _ => (xv 2)))))⟩
theorem ok_sought : ∀ k, FnOk P w K mg base (L2.CX P w) k (He.ga K "sought") c.fd_sought ["worth", "ask"] (spD K (clsU K) [] 2 (G_sought k))
  | 0 => fn_stk
  | k + 1 => fn_def (N := N_sought) c.F_sought sc_sought rfl fun cdv A outer s H E hr => by
    have hu := hu_of hr
    have hu64 := hr.units
    have nd := sc_sought.nd
    have tk : Takes (cxOf (L2.CX P w) P w K mg base N_sought "sought" (defScope s_sought) (He.ga K "sought") cdv A outer s H E) (fun c d _ H => E c d H) := takes_of rfl rfl rfl rfl
    exact ⟨_, (xs (sexp (xcall (K := K) (ok_look_worth c k) hr c.g_look_worth c.F_look_worth.kp c.B_look_worth tk (xa (xv 0) xa0)))
      (xs (sexp (xcall (K := K) (ok_look_ask c k) hr c.g_look_ask c.F_look_ask.kp c.B_look_ask tk (xa (xv 1) xa0)))
      (xs1 (sret (xcall (K := K) (ok_asked c k) hr c.g_asked c.F_asked.kp c.B_asked tk (xa (xv 0) (xa (xv 1) xa0)))))))⟩
theorem ok_replaced : ∀ k, FnOk P w K mg base (L2.CX P w) k (He.ga K "replaced") c.fd_replaced ["worth", "ask", "new"] (spD K (clsU K) [] 3 (G_replaced k))
  | 0 => fn_stk
  | k + 1 => fn_def (N := N_replaced) c.F_replaced sc_replaced rfl fun cdv A outer s H E hr => by
    have hu := hu_of hr
    have hu64 := hr.units
    have nd := sc_replaced.nd
    have tk : Takes (cxOf (L2.CX P w) P w K mg base N_replaced "replaced" (defScope s_replaced) (He.ga K "replaced") cdv A outer s H E) (fun c d _ H => E c d H) := takes_of rfl rfl rfl rfl
    exact ⟨_, (xs (sexp (xcall (K := K) (ok_look_worth c k) hr c.g_look_worth c.F_look_worth.kp c.B_look_worth tk (xa (xv 0) xa0)))
      (xs (sexp (xcall (K := K) (ok_look_ask c k) hr c.g_look_ask c.F_look_ask.kp c.B_look_ask tk (xa (xv 1) xa0)))
      (xs (sexp (xcall (K := K) (ok_look_worth c k) hr c.g_look_worth c.F_look_worth.kp c.B_look_worth tk (xa (xv 2) xa0)))
      (xs (sset 3 (by decide) nd (xcall (K := K) (ok_copied c k) hr c.g_copied c.F_copied.kp c.B_copied tk (xa (xv 0) xa0)))
      (xs (sset 4 (by decide) nd xnon)
      (xs (sfor (fg := [5]) (by decide) (by decide) (by decide) (passes_of rfl) rfl (xi (K := K) (xcall (K := K) (ok_asked c k) hr c.g_asked c.F_asked.kp c.B_asked tk (xa (xv 0) (xa (xv 1) xa0)))) (xg (i := 5) nd) (xs1 (sif (xtw (xwor (xtcmp op_isN od_isN (xv 4) xnon) (xwor1 (xtcmp (Kne K hu64) od_ne (xsl (K := K) (xv 5) xo0 (xo1 (xblt (Klen K) od_len c.b_len PySem.boot_len (xa (xv 4) xa0)))) (xv 4))))) (xs (sset 3 (by decide) nd (xcall (K := K) (ok_changed_at c k) hr c.g_changed_at c.F_changed_at.kp c.B_changed_at tk (xa (xv 3) (xa (xv 5) (xa (xv 2) xa0)))))
      (xs1 (sset 4 (by decide) nd (xv 5)))) xs0)))
      (xs (sexp (xcall (K := K) (ok_look_worth c k) hr c.g_look_worth c.F_look_worth.kp c.B_look_worth tk (xa (xv 3) xa0)))
      (xs1 (sret (xv 3))))))))))⟩
theorem ok__law_cell : ∀ k, FnOk P w K mg base (L2.CX P w) k (He.ga K "_law_cell") c.fd__law_cell ["_law_script", "_law_k"] (spD K (clsU K) [] 2 (G__law_cell k))
  | 0 => fn_stk
  | k + 1 => fn_def (N := N__law_cell) c.F__law_cell sc__law_cell rfl fun cdv A outer s H E hr => by
    have hu := hu_of hr
    have hu64 := hr.units
    have nd := sc__law_cell.nd
    have tk : Takes (cxOf (L2.CX P w) P w K mg base N__law_cell "_law_cell" (defScope s__law_cell) (He.ga K "_law_cell") cdv A outer s H E) (fun c d _ H => E c d H) := takes_of rfl rfl rfl rfl
    exact ⟨_, (xs (sif (xtru (K := K) (xv 0)) (xs1 (sret (xix (K := K) hu (xv 0) (xop op_mod od_mod (xv 1) (xblt (Klen K) od_len c.b_len PySem.boot_len (xa (xv 0) xa0)))))) xs0)
      (xs1 (sret xint)))⟩
theorem ok__law_mix : ∀ k, FnOk P w K mg base (L2.CX P w) k (He.ga K "_law_mix") c.fd__law_mix ["_law_script", "_law_k"] (spD K (clsU K) [] 2 (G__law_mix k))
  | 0 => fn_stk
  | k + 1 => fn_def (N := N__law_mix) c.F__law_mix sc__law_mix rfl fun cdv A outer s H E hr => by
    have hu := hu_of hr
    have hu64 := hr.units
    have nd := sc__law_mix.nd
    have tk : Takes (cxOf (L2.CX P w) P w K mg base N__law_mix "_law_mix" (defScope s__law_mix) (He.ga K "_law_mix") cdv A outer s H E) (fun c d _ H => E c d H) := takes_of rfl rfl rfl rfl
    exact ⟨_, (xs (sset 2 (by decide) nd (xop op_mod od_mod (xop (Kadd K) od_add (xcall (K := K) (ok__law_cell c k) hr c.g__law_cell c.F__law_cell.kp c.B__law_cell tk (xa (xv 0) (xa (xv 1) xa0))) (xop (Kmul K) od_mul xint (xop (Kadd K) od_add (xv 1) xint))) xint))
      (xs (sset 2 (by decide) nd (xop op_mod od_mod (xop op_pow od_pow (xv 2) xint) xint))
      (xs1 (sret (xop op_mod od_mod (xop (Kadd K) od_add (xop (Kmul K) od_mul (xop op_fdiv od_fdiv (xv 2) xint) xint) (xv 2)) xint)))))⟩
theorem ok__law_draw : ∀ k, FnOk P w K mg base (L2.CX P w) k (He.ga K "_law_draw") c.fd__law_draw ["_law_script", "_law_town", "_law_many"] (spD K (clsU K) [1] 3 (G__law_draw k))
  | 0 => fn_stk
  | k + 1 => fn_def (N := N__law_draw) c.F__law_draw sc__law_draw rfl fun cdv A outer s H E hr => by
    have hu := hu_of hr
    have hu64 := hr.units
    have nd := sc__law_draw.nd
    have tk : Takes (cxOf (L2.CX P w) P w K mg base N__law_draw "_law_draw" (defScope s__law_draw) (He.ga K "_law_draw") cdv A outer s H E) (fun c d _ H => E c d H) := takes_of rfl rfl rfl rfl
    exact ⟨_, (xs (sexp (xapp (K := K) (xv 1) xint))
      (xs1 (sret (xop op_mod od_mod (xop op_fdiv od_fdiv (xcall (K := K) (ok__law_mix c k) hr c.g__law_mix c.F__law_mix.kp c.B__law_mix tk (xa (xv 0) (xa (xblt (Klen K) od_len c.b_len PySem.boot_len (xa (xv 1) xa0)) xa0))) xint) (xv 2)))))⟩
theorem ok__law_pick : ∀ k, FnOk P w K mg base (L2.CX P w) k (He.ga K "_law_pick") c.fd__law_pick ["_law_script", "_law_town", "_law_some"] (spD K (clsU K) [1, 2] 3 (G__law_pick k))
  | 0 => fn_stk
  | k + 1 => fn_def (N := N__law_pick) c.F__law_pick sc__law_pick rfl fun cdv A outer s H E hr => by
    have hu := hu_of hr
    have hu64 := hr.units
    have nd := sc__law_pick.nd
    have tk : Takes (cxOf (L2.CX P w) P w K mg base N__law_pick "_law_pick" (defScope s__law_pick) (He.ga K "_law_pick") cdv A outer s H E) (fun c d _ H => E c d H) := takes_of rfl rfl rfl rfl
    exact ⟨_, (xs1 (sret (xix (K := K) hu (xv 2) (xcall (K := K) (ok__law_draw c k) hr c.g__law_draw c.F__law_draw.kp c.B__law_draw tk (xa (xv 0) (xa (xv 1) (xa (xblt (Klen K) od_len c.b_len PySem.boot_len (xa (xv 2) xa0)) xa0)))))))⟩
theorem ok__law_refusal : ∀ k, FnOk P w K mg base (L2.CX P w) k (He.ga K "_law_refusal") c.fd__law_refusal ["_law_caught"] (spD K (clsU K) [] 1 (G__law_refusal k))
  | 0 => fn_stk
  | k + 1 => fn_def (N := N__law_refusal) c.F__law_refusal sc__law_refusal rfl fun cdv A outer s H E hr => by
    have hu := hu_of hr
    have hu64 := hr.units
    have nd := sc__law_refusal.nd
    have tk : Takes (cxOf (L2.CX P w) P w K mg base N__law_refusal "_law_refusal" (defScope s__law_refusal) (He.ga K "_law_refusal") cdv A outer s H E) (fun c d _ H => E c d H) := takes_of rfl rfl rfl rfl
    exact ⟨_, (xs (sif (xtcmp op_isN od_isN (xv 0) xnon) (xs1 (sret (xtup (xa xstr xa0)))) xs0)
      (xs (sset 1 (by decide) nd (xlst (xa (xblt (KisX K) (od_isx c.xf) c.b_isinstance boot_isinstance (xa (xv 0) (xa (xcl (c := .worth) c.x_BadWorth.2.1) xa0))) (xa (xblt (KisX K) (od_isx c.xf) c.b_isinstance boot_isinstance (xa (xv 0) (xa (xcl (c := .text) c.x_BadText.2.1) xa0))) (xa (xblt (KisX K) (od_isx c.xf) c.b_isinstance boot_isinstance (xa (xv 0) (xa (xcl (c := .path) c.x_BadPath.2.1) xa0))) xa0)))))
      (xs (sset 1 (by decide) nd (xop (Kadd K) od_add (xv 1) (xlst (xa (xblt (KisX K) (od_isx c.xf) c.b_isinstance boot_isinstance (xa (xv 0) (xa (xcl (c := .choice) c.x_BadChoice.2.1) xa0))) (xa (xblt (KisX K) (od_isx c.xf) c.b_isinstance boot_isinstance (xa (xv 0) (xa (xcl (c := .many) c.x_TooMany.2.1) xa0))) (xa (xblt (KisX K) (od_isx c.xf) c.b_isinstance boot_isinstance (xa (xv 0) (xa (xcl (c := .deeds) c.x_BadDeeds.2.1) xa0))) xa0))))))
      (xs (sset 1 (by decide) nd (xop (Kadd K) od_add (xv 1) (xlst (xa (xblt (KisX K) (od_isx c.xf) c.b_isinstance boot_isinstance (xa (xv 0) (xa (xcl (c := .name) c.x_NoName.2.1) xa0))) (xa (xblt (KisX K) (od_isx c.xf) c.b_isinstance boot_isinstance (xa (xv 0) (xa (xcl (c := .ask) c.x_BadAsk.2.1) xa0))) xa0)))))
      (xs (sif (xtw (xwor (xtcmp (Kne K hu64) od_ne (xcount (K := K) (xv 1) (xa xbl xa0)) xint) (xwor1 (xtnot (xtru (K := K) (xblt (KisX K) (od_isx c.xf) c.b_isinstance boot_isinstance (xa (xv 0) (xa (xty c.b_ValueError (by decide +kernel)) xa0)))))))) (xs1 (sret (xtup (xa xstr xa0)))) xs0)
      (xs (sset 2 (by decide) nd (xlst (xa xstr (xa xstr (xa xstr (xa xstr (xa xstr (xa xstr (xa xstr (xa xstr xa0))))))))))
      (xs1 (sret (xtup (xa xstr (xa (xix (K := K) hu (xv 2) (xindex (K := K) (xv 1) (xa xbl xa0))) xa0)))))))))))⟩
theorem ok__law_word : ∀ k, FnOk P w K mg base (L2.CX P w) k (He.ga K "_law_word") c.fd__law_word ["_law_script", "_law_town"] (spD K (clsU K) [1] 2 (G__law_word k))
  | 0 => fn_stk
  | k + 1 => fn_def (N := N__law_word) c.F__law_word sc__law_word rfl fun cdv A outer s H E hr => by
    have hu := hu_of hr
    have hu64 := hr.units
    have nd := sc__law_word.nd
    have tk : Takes (cxOf (L2.CX P w) P w K mg base N__law_word "_law_word" (defScope s__law_word) (He.ga K "_law_word") cdv A outer s H E) (fun c d _ H => E c d H) := takes_of rfl rfl rfl rfl
    exact ⟨_, (xs (sset 2 (by decide) nd xstr)
      (xs (sif (xtcmp op_gt od_cmp (xcall (K := K) (ok__law_draw c k) hr c.g__law_draw c.F__law_draw.kp c.B__law_draw tk (xa (xv 0) (xa (xv 1) (xa xint xa0)))) xint) (xs1 (sret (xcall (K := K) (ok__law_pick c k) hr c.g__law_pick c.F__law_pick.kp c.B__law_pick tk (xa (xv 0) (xa (xv 1) (xa (xlst (xa xstr (xa xstr (xa xstr (xa xstr (xa xstr (xa xstr xa0))))))) xa0)))))) xs0)
      (xs1 (sret (xjoin (K := K) xstr (xlc (own := [("_law_k", 3)]) rfl nd (xr1 c.b_range (xa (xop (Kadd K) od_add xint (xcall (K := K) (ok__law_draw c k) hr c.g__law_draw c.F__law_draw.kp c.B__law_draw tk (xa (xv 0) (xa (xv 1) (xa xint xa0))))) xa0)) (blkOk_by (N := N__law_word) (sc := defScope s__law_word) (by decide +kernel)) (fun _ _ _ _ _ => xg (i := 3) nd) (fun _ _ _ _ _ => xts0) (fun _ _ _ _ _ => (xix (K := K) hu (xv 2) (xcall0 (K := K) (ok__law_draw c k) hr c.g__law_draw c.F__law_draw.kp c.B__law_draw (xa (xv 0) (xa (xv 1) (xa xint xa0))))))))))))⟩
theorem ok__law_plain_one : ∀ k, FnOk P w K mg base (L2.CX P w) k (He.ga K "_law_plain_one") c.fd__law_plain_one ["_law_script", "_law_town"] (spD K (clsU K) [1] 2 (G__law_plain_one k))
  | 0 => fn_stk
  | k + 1 => fn_def (N := N__law_plain_one) c.F__law_plain_one sc__law_plain_one rfl fun cdv A outer s H E hr => by
    have hu := hu_of hr
    have hu64 := hr.units
    have nd := sc__law_plain_one.nd
    have tk : Takes (cxOf (L2.CX P w) P w K mg base N__law_plain_one "_law_plain_one" (defScope s__law_plain_one) (He.ga K "_law_plain_one") cdv A outer s H E) (fun c d _ H => E c d H) := takes_of rfl rfl rfl rfl
    exact ⟨_, (xs (sset 2 (by decide) nd (xlst (xa xint (xa (xop op_sub od_sub xint xint) (xa xint (xa xint (xa (xop op_sub od_sub xint xint) (xa (xop op_sub od_sub (xcall (K := K) (ok__law_draw c k) hr c.g__law_draw c.F__law_draw.kp c.B__law_draw tk (xa (xv 0) (xa (xv 1) (xa xint xa0)))) xint) xa0))))))))
      (xs (sset 3 (by decide) nd (xcall (K := K) (ok__law_draw c k) hr c.g__law_draw c.F__law_draw.kp c.B__law_draw tk (xa (xv 0) (xa (xv 1) (xa xint xa0)))))
      (xs (sif (xtcmp op_lt od_cmp (xv 3) xint) (xs1 (sret (xcall (K := K) (ok__law_pick c k) hr c.g__law_pick c.F__law_pick.kp c.B__law_pick tk (xa (xv 0) (xa (xv 1) (xa (xv 2) xa0)))))) xs0)
      (xs1 (sret (xif (xtcmp op_lt od_cmp (xv 3) xint) (xix (K := K) hu (xlst (xa (xlst xa0) (xa xdk xa0))) (xop op_sub od_sub (xv 3) xint)) (xcall (K := K) (ok__law_word c k) hr c.g__law_word c.F__law_word.kp c.B__law_word tk (xa (xv 0) (xa (xv 1) xa0)))))))))⟩
theorem ok__law_anew : ∀ k, FnOk P w K mg base (L2.CX P w) k (He.ga K "_law_anew") c.fd__law_anew ["_law_worth_here"] (spD K (clsU K) [] 1 (G__law_anew k))
  | 0 => fn_stk
  | k + 1 => fn_def (N := N__law_anew) c.F__law_anew sc__law_anew rfl fun cdv A outer s H E hr => by
    have hu := hu_of hr
    have hu64 := hr.units
    have nd := sc__law_anew.nd
    have tk : Takes (cxOf (L2.CX P w) P w K mg base N__law_anew "_law_anew" (defScope s__law_anew) (He.ga K "_law_anew") cdv A outer s H E) (fun c d _ H => E c d H) := takes_of rfl rfl rfl rfl
    exact ⟨_, (xs (sif (xtru (K := K) (xblt (Kisi K) od_isi c.b_isinstance boot_isinstance (xa (xv 0) (xa (xty c.b_list (by decide +kernel)) xa0)))) (xs1 (sret (xlc (own := [("_law_one_here", 1)]) rfl nd (xi (K := K) (xv 0)) (blkOk_by (N := N__law_anew) (sc := defScope s__law_anew) (by decide +kernel)) (fun _ _ _ _ _ => xg (i := 1) nd) (fun _ _ _ _ _ => xts0) (fun _ _ _ _ _ => (xcall0 (K := K) (ok__law_anew k) hr c.g__law_anew c.F__law_anew.kp c.B__law_anew (xa (xv 1) xa0)))))) xs0)
      (xs (sif (xtru (K := K) (xblt (Kisi K) od_isi c.b_isinstance boot_isinstance (xa (xv 0) (xa (xty c.b_dict (by decide +kernel)) xa0)))) (xs1 (sret (xbty (Kdict K rfl) od_dict c.b_dict boot_dict (xa (xlcK (own := [("_law_key", 2)]) rfl nd (xv 0) (blkOk_by (N := N__law_anew) (sc := defScope s__law_anew) (by decide +kernel)) (fun _ _ _ _ _ => xg (i := 2) nd) (fun _ _ _ _ _ => xts0) (fun _ _ _ _ _ => (xtup (xa (xv 2) (xa (xcall0 (K := K) (ok__law_anew k) hr c.g__law_anew c.F__law_anew.kp c.B__law_anew (xa (xix (K := K) hu (xv 0) (xv 2)) xa0)) xa0))))) xa0)))) xs0)
      (xs1 (sret (xv 0)))))⟩
theorem ok__law_worth : ∀ k, FnOk P w K mg base (L2.CX P w) k (He.ga K "_law_worth") c.fd__law_worth ["_law_script", "_law_town", "_law_deep", "_law_wide", "_law_stock"] (spD K (clsU K) [1, 4] 5 (G__law_worth k))
  | 0 => fn_stk
  | k + 1 => fn_def (N := N__law_worth) c.F__law_worth sc__law_worth rfl fun cdv A outer s H E hr => by
    have hu := hu_of hr
    have hu64 := hr.units
    have nd := sc__law_worth.nd
    have tk : Takes (cxOf (L2.CX P w) P w K mg base N__law_worth "_law_worth" (defScope s__law_worth) (He.ga K "_law_worth") cdv A outer s H E) (fun c d _ H => E c d H) := takes_of rfl rfl rfl rfl
    exact ⟨_, (xs (sset 5 (by decide) nd (xcall (K := K) (ok__law_draw c k) hr c.g__law_draw c.F__law_draw.kp c.B__law_draw tk (xa (xv 0) (xa (xv 1) (xa xint xa0)))))
      (xs (sif (xtw (xwand (xtcmp (Kne K hu64) od_ne (xv 4) (xlst xa0)) (xwand1 (xtcmp op_lt od_cmp (xv 5) xint)))) (xs1 (sret (xcall (K := K) (ok__law_anew c k) hr c.g__law_anew c.F__law_anew.kp c.B__law_anew tk (xa (xcall (K := K) (ok__law_pick c k) hr c.g__law_pick c.F__law_pick.kp c.B__law_pick tk (xa (xv 0) (xa (xv 1) (xa (xv 4) xa0)))) xa0)))) xs0)
      (xs (sif (xtw (xwor (xtcmp (Keq K hu64) od_eq (xv 2) xint) (xwor1 (xtcmp op_lt od_cmp (xv 5) xint)))) (xs1 (sret (xcall (K := K) (ok__law_plain_one c k) hr c.g__law_plain_one c.F__law_plain_one.kp c.B__law_plain_one tk (xa (xv 0) (xa (xv 1) xa0))))) xs0)
      (xs (sset 6 (by decide) nd (xlst xa0))
      (xs (sfor (fg := [7]) (by decide) (by decide) (by decide) (passes_of rfl) rfl (xr1 c.b_range (xa (xop (Kadd K) od_add xint (xcall (K := K) (ok__law_draw c k) hr c.g__law_draw c.F__law_draw.kp c.B__law_draw tk (xa (xv 0) (xa (xv 1) (xa (xv 3) xa0))))) xa0)) (xg (i := 7) nd) (xs (sset 8 (by decide) nd (xcall (K := K) (ok__law_worth k) hr c.g__law_worth c.F__law_worth.kp c.B__law_worth tk (xa (xv 0) (xa (xv 1) (xa (xop op_sub od_sub (xv 2) xint) (xa (xv 3) (xa (xv 4) xa0)))))))
      (xs (sexp (xapp (K := K) (xv 6) (xv 8)))
      (xs1 (sexp (xapp (K := K) (xv 4) (xv 8)))))))
      (xs (sif (xtw (xwor (xtcmp (Keq K hu64) od_eq (xv 5) xint) (xwor1 (xtcmp (Keq K hu64) od_eq (xv 5) xint)))) (xs1 (sret (xv 6))) xs0)
      (xs (sset 9 (by decide) nd xdk)
      (xs (sfor (fg := [8]) (by decide) (by decide) (by decide) (passes_of rfl) rfl (xi (K := K) (xv 6)) (xg (i := 8) nd) (xs1 (sput hu (xv 9) (xcall (K := K) (ok__law_word c k) hr c.g__law_word c.F__law_word.kp c.B__law_word tk (xa (xv 0) (xa (xv 1) xa0))) (xv 8))))
      (xs1 (sret (xv 9)))))))))))⟩
theorem ok__law_count : ∀ k, FnOk P w K mg base (L2.CX P w) k (He.ga K "_law_count") c.fd__law_count ["_law_worth_here"] (spD K (clsU K) [] 1 (G__law_count k))
  | 0 => fn_stk
  | k + 1 => fn_def (N := N__law_count) c.F__law_count sc__law_count rfl fun cdv A outer s H E hr => by
    have hu := hu_of hr
    have hu64 := hr.units
    have nd := sc__law_count.nd
    have tk : Takes (cxOf (L2.CX P w) P w K mg base N__law_count "_law_count" (defScope s__law_count) (He.ga K "_law_count") cdv A outer s H E) (fun c d _ H => E c d H) := takes_of rfl rfl rfl rfl
    exact ⟨_, (xs (sset 1 (by decide) nd (xif (xtru (K := K) (xblt (Kisi K) od_isi c.b_isinstance boot_isinstance (xa (xv 0) (xa (xty c.b_list (by decide +kernel)) xa0)))) (xv 0) (xif (xtru (K := K) (xblt (Kisi K) od_isi c.b_isinstance boot_isinstance (xa (xv 0) (xa (xty c.b_dict (by decide +kernel)) xa0)))) (xvals rfl c.b_list (xv 0)) (xlst xa0))))
      (xs (xsetLc (i := 2) (own := [("_law_one_here", 3)]) (by decide) rfl nd (xi (K := K) (xv 1)) (blkOk_by (N := N__law_count) (sc := defScope s__law_count) (by decide +kernel)) (fun _ _ _ _ _ => xg (i := 3) nd) (fun _ _ _ _ _ => xts0) (fun _ _ _ _ _ => (xcall0 (K := K) (ok__law_count k) hr c.g__law_count c.F__law_count.kp c.B__law_count (xa (xv 3) xa0))) (sw_true rfl rfl rfl (by decide +kernel)))
      (xs (sset 4 (by decide) nd (xor (xblt (Kisi K) od_isi c.b_isinstance boot_isinstance (xa (xv 0) (xa (xty c.b_list (by decide +kernel)) xa0))) (xand1 (xblt (Kisi K) od_isi c.b_isinstance boot_isinstance (xa (xv 0) (xa (xty c.b_dict (by decide +kernel)) xa0))))))
      (xs1 (sret (xtup (xa (xop (Kadd K) od_add xint (xblt (Ksum K rfl) od_sum c.b_sum boot_sum (xa (xlc (own := [("_law_row", 5)]) rfl nd (xi (K := K) (xv 2)) (blkOk_by (N := N__law_count) (sc := defScope s__law_count) (by decide +kernel)) (fun _ _ _ _ _ => xg (i := 5) nd) (fun _ _ _ _ _ => xts0) (fun _ _ _ _ _ => (xix (K := K) hu (xv 5) xint))) xa0))) (xa (xop (Kadd K) od_add (xbty call_int1 od_int c.b_int boot_int (xa (xv 4) xa0)) (xblt (Kmax K rfl) od_max c.b_max boot_max (xa (xop (Kadd K) od_add (xlst (xa xint xa0)) (xlc (own := [("_law_row", 5)]) rfl nd (xi (K := K) (xv 2)) (blkOk_by (N := N__law_count) (sc := defScope s__law_count) (by decide +kernel)) (fun _ _ _ _ _ => xg (i := 5) nd) (fun _ _ _ _ _ => xts0) (fun _ _ _ _ _ => (xix (K := K) hu (xv 5) xint)))) xa0))) xa0))))))))⟩
theorem ok__law_good : ∀ k, FnOk P w K mg base (L2.CX P w) k (He.ga K "_law_good") c.fd__law_good ["_law_script", "_law_town", "_law_deep", "_law_wide"] (spD K (clsU K) [1] 4 (G__law_good k))
  | 0 => fn_stk
  | k + 1 => fn_def (N := N__law_good) c.F__law_good sc__law_good rfl fun cdv A outer s H E hr => by
    have hu := hu_of hr
    have hu64 := hr.units
    have nd := sc__law_good.nd
    have tk : Takes (cxOf (L2.CX P w) P w K mg base N__law_good "_law_good" (defScope s__law_good) (He.ga K "_law_good") cdv A outer s H E) (fun c d _ H => E c d H) := takes_of rfl rfl rfl rfl
    exact ⟨_, (xs (xsetLc (i := 4) (own := [("_law_k", 5)]) (by decide) rfl nd (xr1 c.b_range (xa xint xa0)) (blkOk_by (N := N__law_good) (sc := defScope s__law_good) (by decide +kernel)) (fun _ _ _ _ _ => xg (i := 5) nd) (fun _ _ _ _ _ => xts0) (fun _ _ _ _ _ => (xcall0 (K := K) (ok__law_worth c k) hr c.g__law_worth c.F__law_worth.kp c.B__law_worth (xa (xv 0) (xa (xv 1) (xa (xv 2) (xa (xv 3) (xa (xlst xa0) xa0))))))) (sw_true rfl rfl rfl (by decide +kernel)))
      (xs (xsetLc (i := 4) (own := [("_law_one_here", 6)]) (by decide) rfl nd (xi (K := K) (xv 4)) (blkOk_by (N := N__law_good) (sc := defScope s__law_good) (by decide +kernel)) (fun _ _ _ _ _ => xg (i := 6) nd) (fun _ _ _ _ _ => (xts1 (xtw (xwand (xtcmp op_lt od_cmp (xix (K := K) hu (xcall0 (K := K) (ok__law_count c k) hr c.g__law_count c.F__law_count.kp c.B__law_count (xa (xv 6) xa0)) xint) xint) (xwand1 (xtcmp op_lt od_cmp (xix (K := K) hu (xcall0 (K := K) (ok__law_count c k) hr c.g__law_count c.F__law_count.kp c.B__law_count (xa (xv 6) xa0)) xint) xint)))))) (fun _ _ _ _ _ => (xv 6)) (sw_true rfl rfl rfl (by decide +kernel)))
      (xs (sset 4 (by decide) nd (xop (Kadd K) od_add (xop (Kadd K) od_add (xlc (own := [("_law_one_here", 6)]) rfl nd (xi (K := K) (xv 4)) (blkOk_by (N := N__law_good) (sc := defScope s__law_good) (by decide +kernel)) (fun _ _ _ _ _ => xg (i := 6) nd) (fun _ _ _ _ _ => (xts1 (xtcmp op_gt od_cmp (xix (K := K) hu (xcall0 (K := K) (ok__law_count c k) hr c.g__law_count c.F__law_count.kp c.B__law_count (xa (xv 6) xa0)) xint) xint))) (fun _ _ _ _ _ => (xv 6))) (xv 4)) (xlst (xa (xlst (xa xint (xa xstr (xa (xlst (xa xint (xa xstr xa0))) xa0)))) xa0))))
      (xs1 (sret (xix (K := K) hu (xv 4) xint))))))⟩
theorem ok__law_one : ∀ k, FnOk P w K mg base (L2.CX P w) k (He.ga K "_law_one") c.fd__law_one ["_law_kind", "_law_some"] (spD K (clsU K) [] 2 (G__law_one k))
  | 0 => fn_stk
  | k + 1 => fn_def (N := N__law_one) c.F__law_one sc__law_one rfl fun cdv A outer s H E hr => by
    have hu := hu_of hr
    have hu64 := hr.units
    have nd := sc__law_one.nd
    have tk : Takes (cxOf (L2.CX P w) P w K mg base N__law_one "_law_one" (defScope s__law_one) (He.ga K "_law_one") cdv A outer s H E) (fun c d _ H => E c d H) := takes_of rfl rfl rfl rfl
    exact ⟨_, (xs1 (sret (xif (xtcmp (Keq K hu64) od_eq (xv 0) xint) (xcall (K := K) (ok_sought c k) hr c.g_sought c.F_sought.kp c.B_sought tk (xa (xix (K := K) hu (xv 1) xint) (xa (xix (K := K) hu (xv 1) xint) xa0))) (xcall (K := K) (ok_replaced c k) hr c.g_replaced c.F_replaced.kp c.B_replaced tk (xa (xix (K := K) hu (xv 1) xint) (xa (xix (K := K) hu (xv 1) xint) (xa (xix (K := K) hu (xv 1) xint) xa0)))))))⟩
theorem ok__law_told : ∀ k, FnOk P w K mg base (L2.CX P w) k (He.ga K "_law_told") c.fd__law_told ["_law_kind", "_law_some"] (spD K (clsU K) [] 2 (G__law_told k))
  | 0 => fn_stk
  | k + 1 => fn_def (N := N__law_told) c.F__law_told sc__law_told rfl fun cdv A outer s H E hr => by
    have hu := hu_of hr
    have hu64 := hr.units
    have nd := sc__law_told.nd
    have tk : Takes (cxOf (L2.CX P w) P w K mg base N__law_told "_law_told" (defScope s__law_told) (He.ga K "_law_told") cdv A outer s H E) (fun c d _ H => E c d H) := takes_of rfl rfl rfl rfl
    exact ⟨_, (xs (sset 2 (by decide) nd xnon)
      (xs (sset 3 (by decide) nd xnon)
      (xs (stry (i := 4) (j := 2) (by decide) (by decide) nd tk c.tf (fun _ => rfl) c.g_DashError (fun W pn xe tk => (xs1 (sset 3 (by decide) nd (xcall (K := K) (ok__law_one c k) hr c.g__law_one c.F__law_one.kp c.B__law_one tk (xa (xv 0) (xa (xv 1) xa0)))))) (fun _ _ _ => (xs1 (cls := clsU K) (op := []) (W := W0) (sset 2 (by decide) nd (xv 4))).ps))
      (xs1 (sret (xif (xtcmp op_isN od_isN (xv 2) xnon) (xtup (xa xstr (xa (xv 3) xa0))) (xcall (K := K) (ok__law_refusal c k) hr c.g__law_refusal c.F__law_refusal.kp c.B__law_refusal tk (xa (xv 2) xa0))))))))⟩
theorem ok_law : ∀ k, FnOk P w K mg base (L2.CX P w) k (He.ga K "law") c.fd_law ["_law_script"] (spD K (clsU K) [] 1 (G_law k))
  | 0 => fn_stk
  | k + 1 => fn_def (N := N_law) c.F_law sc_law rfl fun cdv A outer s H E hr => by
    have hu := hu_of hr
    have hu64 := hr.units
    have nd := sc_law.nd
    have tk : Takes (cxOf (L2.CX P w) P w K mg base N_law "law" (defScope s_law) (He.ga K "law") cdv A outer s H E) (fun c d _ H => E c d H) := takes_of rfl rfl rfl rfl
    exact ⟨_, (xs (sset 1 (by decide) nd (xlst xa0))
      (xs (sset 2 (by decide) nd (xcall (K := K) (ok__law_good c k) hr c.g__law_good c.F__law_good.kp c.B__law_good tk (xa (xv 0) (xa (xv 1) (xa xint (xa xint xa0))))))
      (xs (sset 3 (by decide) nd (xcall (K := K) (ok__law_pick c k) hr c.g__law_pick c.F__law_pick.kp c.B__law_pick tk (xa (xv 0) (xa (xv 1) (xa (xlst (xa xbl (xa xnon (xa xstr (xa (xlst (xa xnon xa0)) (xa (xdisp (xds xint xd0)) xa0)))))) xa0)))))
      (xs (sset 4 (by decide) nd (xlst (xa xstr (xa xstr (xa xstr (xa (xop op_sub od_sub xint xint) (xa xint (xa xnon (xa xbl (xa (xtup (xa xstr xa0)) (xa xstr (xa xstr (xa xstr xa0)))))))))))))
      (xs (sset 5 (by decide) nd (xcall (K := K) (ok__law_draw c k) hr c.g__law_draw c.F__law_draw.kp c.B__law_draw tk (xa (xv 0) (xa (xv 1) (xa xint xa0)))))
      (xs (sset 6 (by decide) nd (xop (Kadd K) od_add (xop (Kadd K) od_add (xop (Kmul K) od_mul (xtup (xa xstr xa0)) (xv 5)) (xtup (xa (xcall (K := K) (ok__law_pick c k) hr c.g__law_pick c.F__law_pick.kp c.B__law_pick tk (xa (xv 0) (xa (xv 1) (xa (xv 4) xa0)))) xa0))) (xop (Kmul K) od_mul (xtup (xa xstr xa0)) (xcall (K := K) (ok__law_draw c k) hr c.g__law_draw c.F__law_draw.kp c.B__law_draw tk (xa (xv 0) (xa (xv 1) (xa xint xa0)))))))
      (xs (sset 7 (by decide) nd (xcall (K := K) (ok__law_pick c k) hr c.g__law_pick c.F__law_pick.kp c.B__law_pick tk (xa (xv 0) (xa (xv 1) (xa (xlst (xa (xv 6) (xa (xv 6) (xa (xv 6) (xa (xop (Kmul K) od_mul (xtup (xa xstr xa0)) xint) (xa (xlst (xa xstr xa0)) (xa xnon (xa xstr (xa xint xa0))))))))) xa0)))))
      (xs (sset 8 (by decide) nd (xlst (xa (xcall (K := K) (ok__law_told c k) hr c.g__law_told c.F__law_told.kp c.B__law_told tk (xa xint (xa (xlst (xa (xv 3) (xa (xv 7) xa0))) xa0))) (xa (xcall (K := K) (ok__law_told c k) hr c.g__law_told c.F__law_told.kp c.B__law_told tk (xa xint (xa (xlst (xa (xv 3) (xa (xv 7) (xa (xv 3) xa0)))) xa0))) xa0))))
      (xs (sif (xtcmp (Kne K hu64) od_ne (xv 8) (xop (Kmul K) od_mul (xlst (xa (xtup (xa xstr (xa xstr xa0))) xa0)) xint)) (xs1 (sret xbl)) xs0)
      (xs (sif (xtcmp (Kne K hu64) od_ne (xlst (xa (xcall (K := K) (ok__law_told c k) hr c.g__law_told c.F__law_told.kp c.B__law_told tk (xa xint (xa (xlst (xa (xv 2) (xa (xv 7) xa0))) xa0))) (xa (xcall (K := K) (ok__law_told c k) hr c.g__law_told c.F__law_told.kp c.B__law_told tk (xa xint (xa (xlst (xa (xv 2) (xa (xv 7) (xa (xv 3) xa0)))) xa0))) xa0))) (xop (Kmul K) od_mul (xlst (xa (xtup (xa xstr (xa xstr xa0))) xa0)) xint)) (xs1 (sret xbl)) xs0)
      (xs (sif (xtcmp (Kne K hu64) od_ne (xcall (K := K) (ok__law_told c k) hr c.g__law_told c.F__law_told.kp c.B__law_told tk (xa xint (xa (xlst (xa (xv 2) (xa (xtup (xa xint xa0)) (xa (xv 3) xa0)))) xa0))) (xtup (xa xstr (xa xstr xa0)))) (xs1 (sret xbl)) xs0)
      (xs (sif (xtcmp (Kne K hu64) od_ne (xcall (K := K) (ok__law_told c k) hr c.g__law_told c.F__law_told.kp c.B__law_told tk (xa xint (xa (xlst (xa (xlst (xa xint (xa xint xa0))) (xa (xtup (xa xstr xa0)) (xa (xop (Kmul K) od_mul (xlst (xa xint xa0)) xint) xa0)))) xa0))) (xtup (xa xstr (xa xstr xa0)))) (xs1 (sret xbl)) xs0)
      (xs (sif (xtcmp (Kne K hu64) od_ne (xix (K := K) hu (xcall (K := K) (ok__law_told c k) hr c.g__law_told c.F__law_told.kp c.B__law_told tk (xa xint (xa (xlst (xa (xlst (xa xint (xa xint xa0))) (xa (xtup (xa xstr xa0)) (xa (xop (Kmul K) od_mul (xlst (xa xint xa0)) xint) xa0)))) xa0))) xint) xstr) (xs1 (sret xbl)) xs0)
      (xs (xsetLc (i := 9) (own := [("_law_one_here", 10)]) (by decide) rfl nd (xi (K := K) (xtup (xa (xop (Kmul K) od_mul (xtup (xa xstr xa0)) xint) (xa (xtup (xa xint (xa xstr (xa xint (xa xstr (xa xstr (xa xstr xa0))))))) (xa (xtup xa0) xa0))))) (blkOk_by (N := N_law) (sc := defScope s_law) (by decide +kernel)) (fun _ _ _ _ _ => xg (i := 10) nd) (fun _ _ _ _ _ => xts0) (fun _ _ _ _ _ => (xix (K := K) hu (xcall0 (K := K) (ok__law_told c k) hr c.g__law_told c.F__law_told.kp c.B__law_told (xa xint (xa (xlst (xa (xv 2) (xa (xv 10) xa0))) xa0))) xint)) (sw_true rfl rfl rfl (by decide +kernel)))
      (xs1 (sret (xand (xcmp (Keq K hu64) od_eq (xv 9) (xop (Kmul K) od_mul (xlst (xa xstr xa0)) xint)) (xand1 (xcmp (Keq K hu64) od_eq (xcall (K := K) (ok__law_told c k) hr c.g__law_told c.F__law_told.kp c.B__law_told tk (xa xint (xa (xlst (xa (xv 2) (xa (xtup (xa xint xa0)) (xa xint xa0)))) xa0))) (xtup (xa xstr (xa (xv 2) xa0))))))))))))))))))))))⟩
end
end K62
end S_K62a
section S_Mb
set_option maxHeartbeats 0
/-! # denotations: how loops and comprehensions run -/
namespace L3
open PySem PySem.Spec PyProof.Rows L2
theorem wipeE_at {e : En} {i : Nat} : ∀ {vs : List Nat}, (wipeE vs e)[i]? = if i ∈ vs ∧ i < e.length then some .no else e[i]?
  | [] => by simp [wipeE]
  | v :: vs => by
    unfold wipeE
    have ih := wipeE_at (e := e) (i := i) (vs := vs)
    by_cases h : v = i
    · subst h
      by_cases hl : v < e.length
      · rw [List.getElem?_set_self (by rw [wipeE_len]; exact hl), if_pos ⟨List.mem_cons_self, hl⟩]
      · rw [if_neg (fun z => hl z.2), List.getElem?_eq_none (by rw [List.length_set, wipeE_len]; omega), List.getElem?_eq_none (by omega)]
    · rw [List.getElem?_set_ne h, ih]
      by_cases hm : i ∈ vs ∧ i < e.length
      · rw [if_pos hm, if_pos ⟨List.mem_cons_of_mem _ hm.1, hm.2⟩]
      · rw [if_neg hm, if_neg fun z => hm ⟨by
          rcases List.mem_cons.mp z.1 with q | q
          · exact (h q.symm).elim
          · exact q, z.2⟩]
theorem wipeE_idem {e : En} {vs : List Nat} : wipeE vs (wipeE vs e) = wipeE vs e := by
  refine List.ext_getElem? fun i => ?_
  rw [wipeE_at, wipeE_at, wipeE_len]
  split <;> rfl
theorem unwipe_at {e0 e : En} {i : Nat} (hl : e.length = e0.length) : ∀ {vs : List Nat}, (unwipe vs e0 e)[i]? = if i ∈ vs then e0[i]? else e[i]?
  | [] => by simp [unwipe]
  | v :: vs => by
    unfold unwipe
    have ih := unwipe_at (e0 := e0) (e := e) (i := i) hl (vs := vs)
    by_cases h : v = i
    · subst h
      rw [if_pos List.mem_cons_self]
      by_cases hl2 : v < e0.length
      · rw [List.getElem?_set_self (by rw [unwipe_len]; omega), List.getD_eq_getElem?_getD, List.getElem?_eq_getElem hl2]; rfl
      · rw [List.getElem?_eq_none (by rw [List.length_set, unwipe_len]; omega), List.getElem?_eq_none (by omega)]
    · rw [List.getElem?_set_ne h, ih]
      by_cases hm : i ∈ vs
      · rw [if_pos hm, if_pos (List.mem_cons_of_mem _ hm)]
      · rw [if_neg hm, if_neg fun z => by
          rcases List.mem_cons.mp z with q | q
          · exact h q.symm
          · exact hm q]
theorem unwipe_eq {e0 e : En} {vs : List Nat} (h : wipeE vs e = wipeE vs e0) : unwipe vs e0 (wipeE vs e) = e0 := by
  have hl : e.length = e0.length := by rw [← wipeE_len e vs, h, wipeE_len]
  refine List.ext_getElem? fun i => ?_
  rw [unwipe_at (by rw [wipeE_len]; exact hl)]
  by_cases hm : i ∈ vs
  · rw [if_pos hm]
  · rw [if_neg hm, h, wipeE_at, if_neg fun z => hm z.1]
/-- what one turn of a comprehension gives -/
def LcT (vs : List Nat) (tgt : D → En → Option En) (mt : M Bool) (me : M Vl) (e0 : En) (d : D) (r : List D) : Prop := ∃ e1 b e2, tgt d e0 = some e1 ∧ noX mt e1 = .ok b e2 ∧
  (b = true → ∃ y e3, mB (noX me) frz e2 = .ok y e3 ∧ wipeE vs e3 = e0 ∧ r = [y]) ∧ (b = false → wipeE vs e2 = e0 ∧ r = [])
theorem lcL_gen {vs : List Nat} {tgt : D → En → Option En} {mt : M Bool} {me : M Vl} {r : D → List D} {e0 : En} : ∀ (ds acc : List D) (e : En), wipeE vs e = e0 → acc.length + ds.length ≤ 16777216 → (∀ d ∈ ds, LcT vs tgt mt me e0 d (r d)) → lcL vs tgt mt me ds acc e = .ok (acc ++ ds.flatMap r) e0
  | [], acc, e, h0, _, _ => by simp [lcL, h0]
  | d :: ds, acc, e, h0, hl, h => by
    obtain ⟨e1, b, e2, h1, h2, h3, h4⟩ := h d List.mem_cons_self
    have hl' : acc.length + 1 + ds.length ≤ 16777216 := by simpa [Nat.add_assoc, Nat.add_comm, Nat.add_left_comm] using hl
    unfold lcL
    simp only [h0, h1]
    unfold mB
    rw [h2]
    cases b with
    | true =>
      obtain ⟨y, e3, h5, h6, h7⟩ := h3 rfl
      simp only [if_true]
      unfold mB at h5
      cases q : noX me e2 with
      | ok x ex =>
        rw [q] at h5
        have h5' : frz x ex = .ok y e3 := h5
        simp only [q]
        show mB (frz x) _ ex = _
        unfold mB
        rw [h5']
        simp only [if_pos (show acc.length < 16777216 by omega)]
        rw [lcL_gen ds (acc ++ [y]) e3 h6 (by simp; omega) fun d hd => h d (List.mem_cons_of_mem _ hd)]
        rw [List.flatMap_cons, h7, List.append_assoc]
      | exc c ex => rw [q] at h5; cases h5
      | stk => rw [q] at h5; cases h5
    | false =>
      obtain ⟨h5, h6⟩ := h4 rfl
      simp only [if_neg Bool.false_ne_true]
      rw [lcL_gen ds acc e2 h5 (by omega) fun d hd => h d (List.mem_cons_of_mem _ hd)]
      rw [List.flatMap_cons, h6, List.nil_append]
theorem lc_gen {vs : List Nat} {mi : M (List D)} {tgt : D → En → Option En} {mt : M Bool} {me : M Vl} (r : D → List D) {e ei : En} {ds : List D} (hi : mi e = .ok ds ei) (hl : ds.length ≤ 16777216) (h : ∀ d ∈ ds, LcT vs tgt mt me (wipeE vs ei) d (r d)) : dLc vs mi tgt mt me e = .ok (.ow (.lst (ds.flatMap r))) ei := by
  unfold dLc mB
  rw [hi]
  have k := lcL_gen (r := r) ds [] ei rfl (by simpa using hl) h
  simp only [k, List.nil_append]
  have : unwipe vs ei (wipeE vs ei) = ei := unwipe_eq rfl
  rw [this]
theorem flatMap_one {α β : Type} (f : α → β) : ∀ ds : List α, ds.flatMap (fun d => [f d]) = ds.map f
  | [] => rfl
  | d :: ds => by rw [List.flatMap_cons, flatMap_one f ds]; rfl
theorem lc_map {vs : List Nat} {mi : M (List D)} {tgt : D → En → Option En} {me : M Vl} (f : D → D) {e ei : En} {ds : List D} (hi : mi e = .ok ds ei) (hl : ds.length ≤ 16777216) (h : ∀ d ∈ ds, ∃ e1 e3, tgt d (wipeE vs ei) = some e1 ∧ mB (noX me) frz e1 = .ok (f d) e3 ∧ wipeE vs e3 = wipeE vs ei) :
    dLc vs mi tgt (ret true) me e = .ok (.ow (.lst (ds.map f))) ei := by
  rw [← flatMap_one]
  refine lc_gen (fun d => [f d]) hi hl fun d hd => ?_
  obtain ⟨e1, e3, h1, h2, h3⟩ := h d hd
  exact ⟨e1, true, e1, h1, rfl, fun _ => ⟨f d, e3, h2, h3, rfl⟩, fun z => nomatch z⟩
/-- with a state: what holds of it and what is made so far -/
theorem lcL_inv {vs : List Nat} {tgt : D → En → Option En} {me : M Vl} (P : List D → En → Prop) {N : Nat} (hN : N ≤ 16777216) : ∀ (ds acc : List D) (e : En), acc.length + ds.length = N → P acc e → (∀ d ∈ ds, ∀ acc e, acc.length < N → P acc e → ∃ e1 y e3, tgt d (wipeE vs e) = some e1 ∧ mB (noX me) frz e1 = .ok y e3 ∧ P (acc ++ [y]) e3) →
    ∃ out e', lcL vs tgt (ret true) me ds acc e = .ok out (wipeE vs e') ∧ P out e' ∧ out.length = acc.length + ds.length
  | [], acc, e, _, hp, _ => ⟨acc, e, rfl, hp, rfl⟩
  | d :: ds, acc, e, hl, hp, h => by
    have hl' : acc.length + 1 + ds.length = N := by rw [List.length_cons] at hl; omega
    obtain ⟨e1, y, e3, h1, h2, h3⟩ := h d List.mem_cons_self acc e (by omega) hp
    obtain ⟨out, e', h4, h5, h6⟩ := lcL_inv P hN ds (acc ++ [y]) e3 (by simp; omega) h3 fun d hd => h d (List.mem_cons_of_mem _ hd)
    refine ⟨out, e', ?_, h5, by rw [h6]; simp; omega⟩
    unfold lcL
    simp only [h1]
    unfold mB
    have e0 : noX (L3.ret true) e1 = .ok true e1 := rfl
    rw [e0]
    simp only [if_true]
    unfold mB at h2
    cases q : noX me e1 with
    | ok x ex =>
      rw [q] at h2
      have h2' : frz x ex = .ok y e3 := h2
      simp only [q]
      show mB (frz x) _ ex = _
      unfold mB
      rw [h2']
      simp only [if_pos (show acc.length < 16777216 by omega)]
      exact h4
    | exc c ex => rw [q] at h2; cases h2
    | stk => rw [q] at h2; cases h2
theorem lc_inv {vs : List Nat} {mi : M (List D)} {tgt : D → En → Option En} {me : M Vl} (P : List D → En → Prop) {e ei : En} {ds : List D} (hi : mi e = .ok ds ei) (hl : ds.length ≤ 16777216) (h0 : P [] ei) (h : ∀ d ∈ ds, ∀ acc e, acc.length < ds.length → P acc e → ∃ e1 y e3, tgt d (wipeE vs e) = some e1 ∧ mB (noX me) frz e1 = .ok y e3 ∧ P (acc ++ [y]) e3) :
    ∃ out e', dLc vs mi tgt (ret true) me e = .ok (.ow (.lst out)) (unwipe vs ei (wipeE vs e')) ∧ P out e' ∧ out.length = ds.length := by
  obtain ⟨out, e', h1, h2, h3⟩ := lcL_inv (vs := vs) (tgt := tgt) (me := me) P hl ds [] ei (by simp) h0 h
  refine ⟨out, e', ?_, h2, by simpa using h3⟩
  unfold dLc mB
  rw [hi]
  simp only [h1]
/-- a loop that runs to its end -/
theorem forL_inv {fg : List Nat} {tgt : D → En → Option En} {mb : M Fl} (P : List D → En → Prop) : ∀ (ds : List D) (e : En), P ds e → (∀ d r e, P (d :: r) e → ∃ e1 e2, tgt d (forget fg e) = some e1 ∧ (mb e1 = .ok .nx e2 ∨ mb e1 = .ok .ct e2) ∧ P r e2) → ∃ e', forL fg tgt mb ds e = .ok .nx (forget fg e') ∧ P [] e'
  | [], e, h0, _ => ⟨e, rfl, h0⟩
  | d :: ds, e, h0, h => by
    obtain ⟨e1, e2, h1, h2, h3⟩ := h d ds e h0
    obtain ⟨e', h4, h5⟩ := forL_inv P ds e2 h3 h
    refine ⟨e', ?_, h5⟩
    unfold forL
    simp only [h1]
    unfold mB
    rcases h2 with h2 | h2
    · rw [h2]; exact h4
    · rw [h2]; exact h4
theorem for_inv {fg : List Nat} {mi : M (List D)} {tgt : D → En → Option En} {mb : M Fl} (P : List D → En → Prop) {e ei : En} {ds : List D} (hi : mi e = .ok ds ei) (h0 : P ds ei) (h : ∀ d r e, P (d :: r) e → ∃ e1 e2, tgt d (forget fg e) = some e1 ∧ (mb e1 = .ok .nx e2 ∨ mb e1 = .ok .ct e2) ∧ P r e2) : ∃ e', dFor fg mi tgt mb e = .ok .nx (forget fg e') ∧ P [] e' := by
  obtain ⟨e', h1, h2⟩ := forL_inv P ds ei h0 h
  refine ⟨e', ?_, h2⟩
  unfold dFor mB
  rw [hi]
  exact h1
theorem lk_ok {α : Type} {i : Nat} {m : M α} {e e' : En} {ks : List (Key × D)} {a : α} (he : e[i]? = some (.fz (.dic ks))) (h : m e = .ok a e') : dLk i m e = .ok a e' := by
  unfold dLk mB fzK
  simp only [he]
  unfold noX
  rw [h]
theorem ks_ok {i : Nat} {e : En} {ks : List (Key × D)} (he : e[i]? = some (.fz (.dic ks))) : dKs i e = .ok (ks.map fun p => kD p.1) e := by
  unfold dKs
  rw [he]
/-! ### steps -/
theorem mB_ok {α β : Type} {m : M α} {f : α → M β} {e e1 : En} {a : α} (h : m e = .ok a e1) : mB m f e = f a e1 := by unfold mB; rw [h]
theorem seq_nx {m n : M Fl} {e e1 : En} (h : m e = .ok .nx e1) : dSeq m n e = n e1 := by unfold dSeq; rw [mB_ok h]
theorem seq_rt {m n : M Fl} {e e1 : En} {x : Vl} (h : m e = .ok (.rt x) e1) : dSeq m n e = .ok (.rt x) e1 := by unfold dSeq; rw [mB_ok h]; rfl
theorem seq_exc {m n : M Fl} {e e1 : En} {c : Ex} (h : m e = .exc c e1) : dSeq m n e = .exc c e1 := by unfold dSeq mB; rw [h]
theorem ifs_t {c : M Bool} {m n : M Fl} {e e1 : En} (h : c e = .ok true e1) : dIfS c m n e = m e1 := by unfold dIfS; rw [mB_ok h, if_pos rfl]
theorem ifs_f {c : M Bool} {m n : M Fl} {e e1 : En} (h : c e = .ok false e1) : dIfS c m n e = n e1 := by unfold dIfS; rw [mB_ok h, if_neg Bool.false_ne_true]
theorem run_rt {op : List Nat} {n N : Nat} {ms : M Fl} {ents e : En} {x : Vl} (h : ms (ents ++ List.replicate (N - n) .no) = .ok (.rt x) e) : runD op n N ms ents = .ok x (backE op 0 ents e) := by unfold runD; rw [h]
theorem run_nx {op : List Nat} {n N : Nat} {ms : M Fl} {ents e : En} (h : ms (ents ++ List.replicate (N - n) .no) = .ok .nx e) : runD op n N ms ents = .ok (.fz .non) (backE op 0 ents e) := by unfold runD; rw [h]
theorem run_exc {op : List Nat} {n N : Nat} {ms : M Fl} {ents e : En} {c : Ex} (h : ms (ents ++ List.replicate (N - n) .no) = .exc c e) : runD op n N ms ents = .exc c (backE op 0 ents e) := by unfold runD; rw [h]
/-! ### expressions, step by step -/
theorem cons_ok {m : M Vl} {n : M (List Vl)} {e e1 e2 : En} {x : Vl} {xs : List Vl} (h1 : m e = .ok x e1) (h2 : n e1 = .ok xs e2) : dCons m n e = .ok (x :: xs) e2 := by
  unfold dCons
  rw [mB_ok h1, mB_ok h2]; rfl
theorem nil_ok {e : En} : dNil e = .ok [] e := rfl
theorem frzs_ok {x : Vl} {xs : List Vl} {e e1 e2 : En} {d : D} {ds : List D} (h1 : frz x e = .ok d e1) (h2 : frzs xs e1 = .ok ds e2) : frzs (x :: xs) e = .ok (d :: ds) e2 := by
  unfold frzs
  rw [mB_ok h1, mB_ok h2]; rfl
theorem frzs_nil {e : En} : frzs [] e = .ok [] e := rfl
theorem frz_pl {i : Nat} {e : En} {d : D} (h : e[i]? = some (.fz d)) : frz (.pl i) e = .ok d e := by unfold frz; simp only [h]
theorem pk_pl {i : Nat} {e : En} {d : D} (h : e[i]? = some (.fz d)) : pk (.pl i) e = .ok d e := by unfold pk peek; simp only [h]
theorem var_ok {i : Nat} {e : En} {d : D} (h : e[i]? = some (.fz d)) : dVar i e = .ok (.pl i) e := by unfold dVar; simp only [h]
theorem frzN_nil : ∀ (xs : List Vl) (i : Nat) (e : En) (ds : List D) (e2 : En), frzs xs e = .ok ds e2 → frzN [] i xs e = .ok (ds.map Vl.fz) e2
  | [], _, e, ds, e2, h => by cases h; rfl
  | x :: xs, i, e, ds, e2, h => by
    unfold frzs at h
    unfold frzN
    rw [if_neg (by simp)]
    unfold mB at h ⊢
    cases q : frz x e with
    | exc c e1 => rw [q] at h; cases h
    | stk => rw [q] at h; cases h
    | ok d e1 =>
      simp only [q] at h ⊢
      cases q2 : frzs xs e1 with
      | exc c e3 => rw [q2] at h; cases h
      | stk => rw [q2] at h; cases h
      | ok ds' e3 =>
        rw [q2] at h
        cases h
        rw [frzN_nil xs (i + 1) e1 ds' e2 q2]
        rfl
theorem plIx_fz : ∀ ds : List D, plIx (ds.map Vl.fz) = []
  | [] => rfl
  | d :: ds => plIx_fz ds
theorem putE_fz : ∀ (ds : List D) (es env : En), putE (ds.map Vl.fz) es env = env
  | [], es, env => by cases es <;> rfl
  | d :: ds, [], env => rfl
  | d :: ds, e :: es, env => putE_fz ds es env
theorem call_ok {n : Nat} {g : FnD} {m : M (List Vl)} {e e1 e2 es : En} {xs : List Vl} {ds : List D} {r : Vl} (h1 : m e = .ok xs e1) (h2 : frzs xs e1 = .ok ds e2) (hn : ds.length = n) (h3 : g (ds.map Ent.fz) = .ok r es) : dCall [] n g m e = .ok r e2 := by
  unfold dCall
  rw [mB_ok h1]
  unfold callE
  rw [mB_ok (frzN_nil xs 0 e1 ds e2 h2)]
  have e3 : (ds.map Vl.fz).map (entOf e2) = ds.map Ent.fz := by rw [List.map_map]; rfl
  rw [if_pos ⟨by rw [plIx_fz]; exact List.nodup_nil, by rw [List.length_map]; exact hn⟩]
  simp only [e3, h3, putE_fz]
theorem call_exc {n : Nat} {g : FnD} {m : M (List Vl)} {e e1 e2 es : En} {xs : List Vl} {ds : List D} {c : Ex} (h1 : m e = .ok xs e1) (h2 : frzs xs e1 = .ok ds e2) (hn : ds.length = n) (h3 : g (ds.map Ent.fz) = .exc c es) : dCall [] n g m e = .exc c e2 := by
  unfold dCall
  rw [mB_ok h1]
  unfold callE
  rw [mB_ok (frzN_nil xs 0 e1 ds e2 h2)]
  have e3 : (ds.map Vl.fz).map (entOf e2) = ds.map Ent.fz := by rw [List.map_map]; rfl
  rw [if_pos ⟨by rw [plIx_fz]; exact List.nodup_nil, by rw [List.length_map]; exact hn⟩]
  simp only [e3, h3, putE_fz]
theorem tup_ok {m : M (List Vl)} {e e1 e2 : En} {xs : List Vl} {ds : List D} (h1 : m e = .ok xs e1) (h2 : frzs xs e1 = .ok ds e2) (hn : ds.length ≤ 16777216) : dTup m e = .ok (.fz (.tup ds)) e2 := by
  unfold dTup
  rw [mB_ok h1, mB_ok h2, if_pos hn]; rfl
theorem lst_ok {m : M (List Vl)} {e e1 e2 : En} {xs : List Vl} {ds : List D} (h1 : m e = .ok xs e1) (h2 : frzs xs e1 = .ok ds e2) (hn : ds.length ≤ 16777216) : dLst m e = .ok (.ow (.lst ds)) e2 := by
  unfold dLst
  rw [mB_ok h1, mB_ok h2, if_pos hn]; rfl
theorem op_ok {f : D → D → Option Vl} {m n : M Vl} {e e1 e2 : En} {x y : Vl} {a b : D} {r : Vl} (h1 : m e = .ok x e1) (h2 : n e1 = .ok y e2) (h3 : peek e2 x = some a) (h4 : peek e2 y = some b) (h5 : f a b = some r) : dOp f m n e = .ok r e2 := by
  unfold dOp
  rw [mB_ok h1, mB_ok h2]
  rw [mB_ok (show pk x e2 = .ok a e2 by unfold pk; rw [h3])]
  rw [mB_ok (show pk y e2 = .ok b e2 by unfold pk; rw [h4])]
  unfold lft
  rw [h5]
theorem un_ok {f : D → Option Vl} {m : M Vl} {e e1 : En} {x : Vl} {a : D} {r : Vl} (h1 : m e = .ok x e1) (h3 : peek e1 x = some a) (h5 : f a = some r) : dUn f m e = .ok r e1 := by
  unfold dUn
  rw [mB_ok h1]
  rw [mB_ok (show pk x e1 = .ok a e1 by unfold pk; rw [h3])]
  unfold lft
  rw [h5]
theorem cb_ok {f : List D → Option Vl} {n : M (List Vl)} {e e1 : En} {xs : List Vl} {ds : List D} {r : Vl} (h1 : n e = .ok xs e1) (h3 : peeks e1 xs = some ds) (h5 : f ds = some r) : dCB f n e = .ok r e1 := by
  unfold dCB
  rw [mB_ok h1]
  rw [mB_ok (show pks xs e1 = .ok ds e1 by unfold pks; rw [h3])]
  unfold lft
  rw [h5]
theorem rg1_ok {n : M (List Vl)} {e e1 : En} {x : Vl} {j : Nat} (h1 : n e = .ok [x] e1) (h2 : peek e1 x = some (.int j)) (h3 : j ≤ 16777216) : dRg1 n e = .ok (rgD 0 j) e1 := by
  unfold dRg1
  rw [mB_ok h1]
  rw [mB_ok (show pks [x] e1 = .ok [.int j] e1 by unfold pks peeks peeks; rw [h2])]
  have h4 : (-(2 ^ 62) : Int) ≤ (j : Int) ∧ (j : Int) < 2 ^ 62 := by omega
  show (if (-(2 ^ 62) : Int) ≤ (j : Int) ∧ (j : Int) < 2 ^ 62 then L3.ret (rgD 0 (j : Int).toNat) else fun _ => .stk) e1 = _
  rw [if_pos h4, Int.toNat_natCast]; rfl
theorem it_ok {m : M Vl} {e e1 e2 : En} {x : Vl} {d : D} {ds : List D} (h1 : m e = .ok x e1) (h2 : frz x e1 = .ok d e2) (h3 : itemsOf d = L3.ret ds) : dIt m e = .ok ds e2 := by
  unfold dIt
  rw [mB_ok h1, mB_ok h2, h3]; rfl
theorem el_ok {me : M Vl} {e e1 e2 : En} {x : Vl} {d : D} (h1 : me e = .ok x e1) (h2 : frz x e1 = .ok d e2) : mB (noX me) frz e = .ok d e2 := by
  rw [mB_ok (show noX me e = .ok x e1 by unfold noX; rw [h1])]
  exact h2
theorem drop_ok {m : M Vl} {e e1 : En} {x : Vl} (h : m e = .ok x e1) : dDrop m e = .ok .nx e1 := by unfold dDrop; rw [mB_ok h]; rfl
theorem drop_exc {m : M Vl} {e e1 : En} {c : Ex} (h : m e = .exc c e1) : dDrop m e = .exc c e1 := by unfold dDrop mB; rw [h]
theorem ret_fz {op : List Nat} {m : M Vl} {e e1 : En} {d : D} (h : m e = .ok (.fz d) e1) : dRet op m e = .ok (.rt (.fz d)) e1 := by unfold dRet; rw [mB_ok h]; rfl
theorem ret_ow {op : List Nat} {m : M Vl} {e e1 : En} {d : D} (h : m e = .ok (.ow d) e1) : dRet op m e = .ok (.rt (.ow d)) e1 := by unfold dRet; rw [mB_ok h]; rfl
theorem ret_pl {op : List Nat} {m : M Vl} {e e1 : En} {i : Nat} {d : D} (h : m e = .ok (.pl i) e1) (h2 : e1[i]? = some (.fz d)) : dRet op m e = .ok (.rt (.fz d)) e1 := by unfold dRet; rw [mB_ok h]; unfold retv; simp only [h2]
theorem asg_fz {i : Nat} {m : M Vl} {e e1 : En} {d : D} (h : m e = .ok (.fz d) e1) : dAsg i m e = .ok .nx (e1.set i (.fz d)) := by unfold dAsg; rw [mB_ok h]; rfl
theorem asg_ow {i : Nat} {m : M Vl} {e e1 : En} {d : D} (h : m e = .ok (.ow d) e1) : dAsg i m e = .ok .nx (e1.set i (.ow d)) := by unfold dAsg; rw [mB_ok h]; rfl
theorem asg_pl {i j : Nat} {m : M Vl} {e e1 : En} {d : D} (h : m e = .ok (.pl j) e1) (h2 : e1[j]? = some (.fz d)) : dAsg i m e = .ok .nx (e1.set i (.fz d)) := by
  unfold dAsg
  rw [mB_ok h]
  rw [mB_ok (show stv i (.pl j) e1 = .ok () (e1.set i (.fz d)) by unfold stv; simp only [h2])]; rfl
theorem if_t {c : M Bool} {m n : M Vl} {e e1 : En} (h : c e = .ok true e1) : dIf c m n e = m e1 := by unfold dIf; rw [mB_ok h, if_pos rfl]
theorem if_f {c : M Bool} {m n : M Vl} {e e1 : En} (h : c e = .ok false e1) : dIf c m n e = n e1 := by unfold dIf; rw [mB_ok h, if_neg Bool.false_ne_true]
theorem tru_ok {m : M Vl} {e e1 : En} {x : Vl} {d : D} {b : Bool} (h : m e = .ok x e1) (h2 : peek e1 x = some d) (h3 : truD d = some b) : dTru m e = .ok b e1 := by
  unfold dTru
  rw [mB_ok h, mB_ok (show pk x e1 = .ok d e1 by unfold pk; rw [h2])]
  unfold lft
  rw [h3]
theorem bool_ok {m : M Vl} {e e1 : En} {x : Vl} {b : Bool} (h : m e = .ok x e1) (h2 : peek e1 x = some (.bl b)) : dBool m e = .ok b e1 := by
  unfold dBool
  rw [mB_ok h, mB_ok (show pk x e1 = .ok (.bl b) e1 by unfold pk; rw [h2])]; rfl
theorem not_ok {m : M Bool} {e e1 : En} {b : Bool} (h : m e = .ok b e1) : dNot m e = .ok (!b) e1 := by unfold dNot; rw [mB_ok h]; rfl
theorem and_t {m n : M Bool} {e e1 : En} (h : m e = .ok true e1) : dAnd m n e = n e1 := by unfold dAnd; rw [mB_ok h, if_pos rfl]
theorem and_f {m n : M Bool} {e e1 : En} (h : m e = .ok false e1) : dAnd m n e = .ok false e1 := by unfold dAnd; rw [mB_ok h, if_neg Bool.false_ne_true]; rfl
theorem or_t {m n : M Bool} {e e1 : En} (h : m e = .ok true e1) : dOr m n e = .ok true e1 := by unfold dOr; rw [mB_ok h, if_pos rfl]; rfl
theorem or_f {m n : M Bool} {e e1 : En} (h : m e = .ok false e1) : dOr m n e = n e1 := by unfold dOr; rw [mB_ok h, if_neg Bool.false_ne_true]
/-- isinstance(x, T) as a test, x in slot i -/
abbrev mIsi (i : Nat) (n : String) : M Vl := dCB cIsi (dCons (dVar i) (dCons (dC (.ty n)) dNil))
theorem isiV_ok {i : Nat} {n : String} {e : En} {d : D} {b : Bool} (h : e[i]? = some (.fz d)) (hd : dataTy d = true) (hb : isTy (tyNm d) n = some b) : mIsi i n e = .ok (.fz (.bl b)) e := by
  refine cb_ok (xs := [.pl i, .fz (.ty n)]) (ds := [d, .ty n]) (cons_ok (var_ok h) (cons_ok rfl nil_ok)) ?_ ?_
  · unfold peeks peeks peeks peek
    simp only [h]
  · simp only [cIsi, hd, hb, if_true]
theorem isi_ok {i : Nat} {n : String} {e : En} {d : D} {b : Bool} (h : e[i]? = some (.fz d)) (hd : dataTy d = true) (hb : isTy (tyNm d) n = some b) : dTru (mIsi i n) e = .ok b e := tru_ok (isiV_ok h hd hb) rfl rfl
theorem ty_ll : isTy "list" "list" = some true := by simp [isTy]
theorem ty_dl : isTy "dict" "list" = some false := by simp [isTy]
theorem ty_il : isTy "int" "list" = some false := by simp [isTy]
theorem ty_sl : isTy "str" "list" = some false := by simp [isTy]
theorem ty_tl : isTy "tuple" "list" = some false := by simp [isTy]
theorem ty_ld : isTy "list" "dict" = some false := by simp [isTy]
theorem ty_dd : isTy "dict" "dict" = some true := by simp [isTy]
theorem ty_id : isTy "int" "dict" = some false := by simp [isTy]
theorem ty_sd : isTy "str" "dict" = some false := by simp [isTy]
theorem ty_tt : isTy "tuple" "tuple" = some true := by simp [isTy]
theorem if_same {α : Type} {c : Prop} [Decidable c] {a b : α} (h : c) : (if c then a else b) = a := if_pos h
theorem backE_nil : ∀ (i : Nat) (es xs : En), backE [] i es xs = es
  | _, [], _ => rfl
  | i, e :: es, x :: xs => by
    unfold backE
    rw [if_neg (by simp), backE_nil (i + 1) es xs]
  | _, _ :: _, [] => rfl
theorem run0 {n N : Nat} {ms : M Fl} {ents e0 e : En} {x : Vl} (h0 : ents ++ List.replicate (N - n) .no = e0) (h : ms e0 = .ok (.rt x) e) : runD [] n N ms ents = .ok x ents := by
  subst h0
  rw [run_rt h, backE_nil]
theorem run0n {n N : Nat} {ms : M Fl} {ents e0 e : En} (h0 : ents ++ List.replicate (N - n) .no = e0) (h : ms e0 = .ok .nx e) : runD [] n N ms ents = .ok (.fz .non) ents := by
  subst h0
  rw [run_nx h, backE_nil]
theorem run0x {n N : Nat} {ms : M Fl} {ents e0 e : En} {c : Ex} (h0 : ents ++ List.replicate (N - n) .no = e0) (h : ms e0 = .exc c e) : runD [] n N ms ents = .exc c ents := by
  subst h0
  rw [run_exc h, backE_nil]
theorem ext_ok {i : Nat} {m : M Vl} {e e1 : En} {ds0 ds es : List D} (h0 : e[i]? = some (.ow (.lst ds0))) (h : m e = .ok (.ow (.lst es)) e1) (h1 : e1[i]? = some (.ow (.lst ds))) (hl : ds.length + es.length ≤ 16777216) : dExt i m e = .ok (.fz .non) (e1.set i (.ow (.lst (ds ++ es)))) := by
  unfold dExt
  rw [if_pos (by unfold isOwL; rw [h0])]
  rw [mB_ok h, mB_ok (show pk (.ow (.lst es)) e1 = .ok (.lst es) e1 from rfl)]
  unfold extE
  simp only [h1, if_pos hl]
theorem app_ok {i : Nat} {m : M Vl} {e e1 e2 : En} {x : Vl} {d : D} {ds0 ds : List D} (h0 : e[i]? = some (.ow (.lst ds0))) (h : m e = .ok x e1) (h2 : frz x e1 = .ok d e2) (h1 : e2[i]? = some (.ow (.lst ds))) (hl : ds.length < 16777216) : dApp i m e = .ok (.fz .non) (e2.set i (.ow (.lst (ds ++ [d])))) := by
  unfold dApp
  rw [if_pos (by unfold isOwL; rw [h0])]
  rw [mB_ok h, mB_ok h2]
  unfold appE
  simp only [h1, if_pos hl]
theorem put_okD {i : Nat} {mk mv : M Vl} {e e1 e2 e3 : En} {x y : Vl} {k d : D} {q : Key} {ks : List (Key × D)} {w : D} (h1 : mv e = .ok x e1) (h0 : e1[i]? = some (.ow w)) (h2 : mk e1 = .ok y e2) (h3 : peek e2 y = some k) (h4 : frz x e2 = .ok d e3) (h5 : e3[i]? = some (.ow (.dic ks))) (hk : keyOf k = some q) (hl : ks.length < 16777216) (nd : (ks.map (·.1)).Nodup) :
    dPut i mk mv e = .ok .nx (e3.set i (.ow (.dic (putG ks q d)))) := by
  unfold dPut
  rw [mB_ok h1]
  simp only [h0]
  rw [mB_ok h2, mB_ok (show pk y e2 = .ok k e2 by unfold pk; rw [h3]), mB_ok h4]
  unfold putE1
  simp only [h5, hk]
  rw [if_pos ⟨hl, nd⟩]
theorem var_ow {i : Nat} {e : En} {d : D} (h : e[i]? = some (.ow d)) : dVar i e = .ok (.pl i) e := by unfold dVar; simp only [h]
theorem frz_plow {i : Nat} {e : En} {d : D} (h : e[i]? = some (.ow d)) : frz (.pl i) e = .ok d (e.set i (.fz d)) := by unfold frz; simp only [h]
theorem frzN_1 {x0 : Vl} {j : Nat} {xs : List Vl} {e e1 e2 : En} {d0 : D} {ds : List D} (h0 : frz x0 e = .ok d0 e1) (h1 : frzs xs e1 = .ok ds e2) : frzN [1] 0 (x0 :: .pl j :: xs) e = .ok (.fz d0 :: .pl j :: ds.map Vl.fz) e2 := by
  have key : ∀ (xs : List Vl) (i : Nat) (e : En) (ds : List D) (e2 : En), 2 ≤ i → frzs xs e = .ok ds e2 → frzN [1] i xs e = .ok (ds.map Vl.fz) e2 := by
    intro xs
    induction xs with
    | nil => intro i e ds e2 _ h; cases h; rfl
    | cons x xs ih =>
      intro i e ds e2 hi h
      unfold frzs at h
      unfold frzN
      rw [if_neg (by simp; omega)]
      unfold mB at h ⊢
      cases q : frz x e with
      | exc c e1 => rw [q] at h; cases h
      | stk => rw [q] at h; cases h
      | ok d e1 =>
        simp only [q] at h ⊢
        cases q2 : frzs xs e1 with
        | exc c e3 => rw [q2] at h; cases h
        | stk => rw [q2] at h; cases h
        | ok ds' e3 =>
          rw [q2] at h
          cases h
          rw [ih (i + 1) e1 ds' e2 (by omega) q2]
          rfl
  unfold frzN
  rw [if_neg (by simp), mB_ok h0]
  unfold frzN
  rw [if_pos (by simp)]
  rw [mB_ok (show mB (frzN [1] (0 + 1 + 1) xs) (fun ys => L3.ret (.pl j :: ys)) e1 = .ok (.pl j :: ds.map Vl.fz) e2 by rw [mB_ok (key xs 2 e1 ds e2 (Nat.le_refl _) h1)]; rfl)]
  rfl
/-- a call of a def that changes its second argument, a slot's own -/
theorem call1_ok {n : Nat} {g : FnD} {m : M (List Vl)} {e e1 e2 e3 : En} {x0 : Vl} {j : Nat} {xs : List Vl} {d0 : D} {ds : List D} {w a w' : Ent} {r : Vl} {es : En} (h : m e = .ok (x0 :: .pl j :: xs) e1) (h0 : frz x0 e1 = .ok d0 e2) (h1 : frzs xs e2 = .ok ds e3) (hj : e3[j]? = some w) (hn : ds.length + 2 = n) (hg : g (.fz d0 :: w :: ds.map Ent.fz) = .ok r (a :: w' :: es)) :
    dCall [1] n g m e = .ok r (e3.set j w') := by
  unfold dCall
  rw [mB_ok h]
  unfold callE
  rw [mB_ok (frzN_1 h0 h1)]
  have e3' : (Vl.fz d0 :: Vl.pl j :: ds.map Vl.fz).map (entOf e3) = .fz d0 :: w :: ds.map Ent.fz := by
    rw [List.map_cons, List.map_cons, List.map_map]
    show Ent.fz d0 :: e3.getD j .no :: _ = _
    rw [List.getD_eq_getElem?_getD, hj]; rfl
  have np : (plIx (Vl.fz d0 :: Vl.pl j :: ds.map Vl.fz)).Nodup := by
    show (j :: plIx (ds.map Vl.fz)).Nodup
    rw [plIx_fz]; simp
  rw [if_pos ⟨np, by simp; omega⟩]
  simp only [e3', hg]
  show Out.ok r (putE (ds.map Vl.fz) es (e3.set j w')) = _
  rw [putE_fz]
theorem run1 {n N : Nat} {ms : M Fl} {e0 e : En} {a b : Ent} {r : En} {x : Vl} {w : Ent} {t : En} {a' : Ent} (h0 : (a :: b :: r) ++ List.replicate (N - n) .no = e0) (h : ms e0 = .ok (.rt x) e) (he : e = a' :: w :: t) : runD [1] n N ms (a :: b :: r) = .ok x (a :: w :: r) := by
  subst h0
  rw [run_rt h, he]
  have key : ∀ (i : Nat) (es xs : En), 2 ≤ i → backE [1] i es xs = es := by
    intro i es
    induction es generalizing i with
    | nil => intro xs _; rfl
    | cons e es ih =>
      intro xs hi
      cases xs with
      | nil => rfl
      | cons x xs =>
        unfold backE
        rw [if_neg (by simp; omega), ih (i + 1) xs (by omega)]
  unfold backE
  rw [if_neg (by simp)]
  unfold backE
  rw [if_pos (by simp), key 2 r t (Nat.le_refl _)]
theorem ret_fz1 {op : List Nat} {m : M Vl} {e e1 : En} {d : D} (h : m e = .ok (.fz d) e1) : dRet op m e = .ok (.rt (.fz d)) e1 := ret_fz h
theorem asgF {i : Nat} {m : M Vl} {e e1 e2 : En} {d : D} (h : m e = .ok (.fz d) e1) (h2 : e1.set i (.fz d) = e2) : dAsg i m e = .ok .nx e2 := by rw [asg_fz h, h2]
theorem asgO {i : Nat} {m : M Vl} {e e1 e2 : En} {d : D} (h : m e = .ok (.ow d) e1) (h2 : e1.set i (.ow d) = e2) : dAsg i m e = .ok .nx e2 := by rw [asg_ow h, h2]
theorem appF {i : Nat} {m : M Vl} {e e1 e2 e3 : En} {x : Vl} {d : D} {ds0 ds : List D} (h0 : e[i]? = some (.ow (.lst ds0))) (h : m e = .ok x e1) (h2 : frz x e1 = .ok d e2) (h1 : e2[i]? = some (.ow (.lst ds))) (hl : ds.length < 16777216) (h3 : e2.set i (.ow (.lst (ds ++ [d]))) = e3) : dApp i m e = .ok (.fz .non) e3 := by rw [app_ok h0 h h2 h1 hl, h3]
theorem call1F {n : Nat} {g : FnD} {m : M (List Vl)} {e e1 e2 e3 e4 : En} {x0 : Vl} {j : Nat} {xs : List Vl} {d0 : D} {ds : List D} {w a w' : Ent} {r : Vl} {es : En} (h : m e = .ok (x0 :: .pl j :: xs) e1) (h0 : frz x0 e1 = .ok d0 e2) (h1 : frzs xs e2 = .ok ds e3) (hj : e3[j]? = some w) (hn : ds.length + 2 = n) (hg : g (.fz d0 :: w :: ds.map Ent.fz) = .ok r (a :: w' :: es)) (h4 : e3.set j w' = e4) :
    dCall [1] n g m e = .ok r e4 := by rw [call1_ok h h0 h1 hj hn hg, h4]
/-- a call of a def that changes its second argument and may read an own third -/
theorem call12F {g : FnD} {m : M (List Vl)} {e e1 e4 : En} {x0 y : Vl} {j : Nat} {d0 : D} {w1 w2 a0 a1 a2 : Ent} {r : Vl} (hy : ∀ l, y = .pl l → j ≠ l) (h : m e = .ok [x0, .pl j, y] e1) (h0 : frz x0 e1 = .ok d0 e1) (hj : e1[j]? = some w1) (hw : entOf e1 y = w2)
    (hg : g [.fz d0, w1, w2] = .ok r [a0, a1, a2]) (h4 : (match y with | .pl l => (e1.set j a1).set l a2 | _ => e1.set j a1) = e4) : dCall [1, 2] 3 g m e = .ok r e4 := by
  unfold dCall
  rw [mB_ok h]
  unfold callE
  have hN : frzN [1, 2] 0 [x0, .pl j, y] e1 = .ok [.fz d0, .pl j, y] e1 := by
    simp only [frzN, List.mem_cons, List.not_mem_nil, or_false]
    rw [if_neg (by decide), mB_ok h0]
    rw [if_pos (by decide), if_pos (by decide)]
    rfl
  rw [mB_ok hN]
  have np : (plIx [.fz d0, .pl j, y]).Nodup := by
    cases y with
    | pl l =>
      show [j, l].Nodup
      have := hy l rfl
      simp [this]
    | fz d => show [j].Nodup; simp
    | ow d => show [j].Nodup; simp
  have e3 : [Vl.fz d0, .pl j, y].map (entOf e1) = [.fz d0, w1, w2] := by
    simp only [List.map_cons, List.map_nil, hw]
    simp only [entOf, List.getD_eq_getElem?_getD, hj, Option.getD_some]
  rw [if_pos ⟨np, rfl⟩]
  simp only [e3, hg]
  rw [← h4]
  cases y <;> rfl
/-- a def's run that changes its second parameter, its third as it is -/
theorem run12 {N : Nat} {ms : M Fl} {e0 e : En} {a b c : Ent} {x : Vl} {w w2 : Ent} {t : En} {a' : Ent} (h0 : [a, b, c] ++ List.replicate (N - 3) .no = e0) (h : ms e0 = .ok (.rt x) e) (he : e = a' :: w :: w2 :: t) : runD [1, 2] 3 N ms [a, b, c] = .ok x [a, w, w2] := by
  subst h0
  rw [run_rt h, he]
  rfl
theorem run14 {N : Nat} {ms : M Fl} {e0 e : En} {a b c d f : Ent} {x : Vl} {w w4 a' c' d' : Ent} {t : En} (h0 : [a, b, c, d, f] ++ List.replicate (N - 5) .no = e0) (h : ms e0 = .ok (.rt x) e) (he : e = a' :: w :: c' :: d' :: w4 :: t) : runD [1, 4] 5 N ms [a, b, c, d, f] = .ok x [a, w, c, d, w4] := by
  subst h0
  rw [run_rt h, he]
  rfl
end L3
end S_Mb
section S_Mc
set_option maxHeartbeats 0
/-! # worths as data, with no program in sight -/
namespace L3
open PySem PySem.Spec PyProof.Rows L2
def small : Str := "abcdefghijklmnopqrstuvwxyz"
def okS (s : Str) : Bool := decide (1 ≤ s.length) && decide (s.length ≤ 12) && s.cps.toList.all fun c => decide (c ∈ small.cps.toList)
def okI (i : Int) : Bool := decide (-1000000 ≤ i) && decide (i ≤ 1000000)
def okK : Key → Bool
  | .inr s => okS s
  | .inl _ => false
/-- a worth no deeper than n -/
def okW : Nat → D → Bool
  | _, .int i => okI i
  | _, .str s => okS s
  | n + 1, .lst ds => ds.all (okW n)
  | n + 1, .dic ks => ks.all (fun p => okK p.1 && okW n p.2) && decide ((ks.map (·.1)).Nodup)
  | _, _ => false
mutual
def cntW : D → Nat
  | .lst ds => 1 + cnts ds
  | .dic ks => 1 + cntk ks
  | _ => 1
def cnts : List D → Nat
  | [] => 0
  | d :: r => cntW d + cnts r
def cntk : List (Key × D) → Nat
  | [] => 0
  | (_, d) :: r => cntW d + cntk r
end
mutual
def dp : D → Nat
  | .lst ds => 1 + dps ds
  | .dic ks => 1 + dpk ks
  | _ => 0
def dps : List D → Nat
  | [] => 0
  | d :: r => max (dp d) (dps r)
def dpk : List (Key × D) → Nat
  | [] => 0
  | (_, d) :: r => max (dp d) (dpk r)
end
theorem cnts_map : ∀ ds : List D, cnts ds = (ds.map cntW).sum
  | [] => rfl
  | d :: r => by simp [cnts, cnts_map r]
theorem cntk_map : ∀ ks : List (Key × D), cntk ks = (ks.map fun p => cntW p.2).sum
  | [] => rfl
  | (k, d) :: r => by simp [cntk, cntk_map r]
theorem cnt_pos (d : D) : 1 ≤ cntW d := by cases d <;> simp [cntW]
theorem cnts_mem {d : D} : ∀ {ds : List D}, d ∈ ds → cntW d ≤ cnts ds
  | e :: r, h => by
    rcases List.mem_cons.mp h with q | q
    · subst q; simp [cnts]
    · have := cnts_mem q; simp [cnts]; omega
theorem cntk_mem {p : Key × D} : ∀ {ks : List (Key × D)}, p ∈ ks → cntW p.2 ≤ cntk ks
  | (k, e) :: r, h => by
    rcases List.mem_cons.mp h with q | q
    · subst q; simp [cntk]
    · have := cntk_mem q; simp [cntk]; omega
theorem cnts_len : ∀ ds : List D, ds.length ≤ cnts ds
  | [] => Nat.le_refl _
  | d :: r => by have := cnts_len r; have := cnt_pos d; simp [cnts]; omega
theorem cntk_len : ∀ ds : List (Key × D), ds.length ≤ cntk ds
  | [] => Nat.le_refl _
  | (k, d) :: r => by have := cntk_len r; have := cnt_pos d; simp [cntk]; omega
theorem dps_mem {d : D} : ∀ {ds : List D}, d ∈ ds → dp d ≤ dps ds
  | e :: r, h => by
    rcases List.mem_cons.mp h with q | q
    · subst q; simp [dps]; omega
    · have := dps_mem q; simp [dps]; omega
theorem dpk_mem {p : Key × D} : ∀ {ks : List (Key × D)}, p ∈ ks → dp p.2 ≤ dpk ks
  | (k, e) :: r, h => by
    rcases List.mem_cons.mp h with q | q
    · subst q; simp [dpk]; omega
    · have := dpk_mem q; simp [dpk]; omega
theorem dps_le {n : Nat} : ∀ {ds : List D}, (∀ d ∈ ds, dp d ≤ n) → dps ds ≤ n
  | [], _ => Nat.zero_le _
  | d :: r, h => by
    have h1 := h d List.mem_cons_self
    have h2 := dps_le fun e he => h e (List.mem_cons_of_mem d he)
    simp [dps]; omega
theorem dpk_le {n : Nat} : ∀ {ks : List (Key × D)}, (∀ p ∈ ks, dp p.2 ≤ n) → dpk ks ≤ n
  | [], _ => Nat.zero_le _
  | (k, d) :: r, h => by
    have h1 : dp d ≤ n := h (k, d) List.mem_cons_self
    have h2 := dpk_le fun e he => h e (List.mem_cons_of_mem (k, d) he)
    simp [dpk]; omega
theorem okW_lst {n : Nat} {ds : List D} : okW (n + 1) (.lst ds) = true ↔ ∀ d ∈ ds, okW n d = true := by simp [okW]
theorem okW_dic {n : Nat} {ks : List (Key × D)} : okW (n + 1) (.dic ks) = true ↔ (∀ p ∈ ks, okK p.1 = true ∧ okW n p.2 = true) ∧ (ks.map (·.1)).Nodup := by simp [okW]
theorem okW_dp : ∀ {n : Nat} {d : D}, okW n d = true → dp d ≤ n
  | n, .int _, _ => by simp [dp]
  | n, .str _, _ => by simp [dp]
  | n + 1, .lst ds, h => by
    have h' := okW_lst.mp h
    have : dps ds ≤ n := dps_le fun d hd => okW_dp (h' d hd)
    simp [dp]; omega
  | n + 1, .dic ks, h => by
    have h' := (okW_dic.mp h).1
    have : dpk ks ≤ n := dpk_le fun p hp => okW_dp (h' p hp).2
    simp [dp]; omega
  | 0, .lst _, h => by cases h
  | 0, .dic _, h => by cases h
  | 0, .non, h => by cases h
  | 0, .bl _, h => by cases h
  | 0, .tup _, h => by cases h
  | 0, .dit _, h => by cases h
  | 0, .scr _, h => by cases h
  | 0, .ty _, h => by cases h
  | 0, .exn _, h => by cases h
  | 0, .cl _, h => by cases h
  | 0, .ptr _, h => by cases h
  | n + 1, .non, h => by cases h
  | n + 1, .bl _, h => by cases h
  | n + 1, .tup _, h => by cases h
  | n + 1, .dit _, h => by cases h
  | n + 1, .scr _, h => by cases h
  | n + 1, .ty _, h => by cases h
  | n + 1, .exn _, h => by cases h
  | n + 1, .cl _, h => by cases h
  | n + 1, .ptr _, h => by cases h
theorem okW_of : ∀ {n m : Nat} {d : D}, okW n d = true → dp d ≤ m → okW m d = true
  | n, m, .int _, h, _ => by cases n <;> cases m <;> exact h
  | n, m, .str _, h, _ => by cases n <;> cases m <;> exact h
  | n + 1, m, .lst ds, h, hd => by
    have h' := okW_lst.mp h
    cases m with
    | zero => simp [dp] at hd
    | succ m =>
      have hd' : dps ds ≤ m := by simp [dp] at hd; omega
      exact okW_lst.mpr fun d hm => okW_of (h' d hm) (Nat.le_trans (dps_mem hm) hd')
  | n + 1, m, .dic ks, h, hd => by
    have h' := okW_dic.mp h
    cases m with
    | zero => simp [dp] at hd
    | succ m =>
      have hd' : dpk ks ≤ m := by simp [dp] at hd; omega
      exact okW_dic.mpr ⟨fun p hm => ⟨(h'.1 p hm).1, okW_of (h'.1 p hm).2 (Nat.le_trans (dpk_mem hm) hd')⟩, h'.2⟩
  | 0, _, .lst _, h, _ => by cases h
  | 0, _, .dic _, h, _ => by cases h
  | 0, _, .non, h, _ => by cases h
  | 0, _, .bl _, h, _ => by cases h
  | 0, _, .tup _, h, _ => by cases h
  | 0, _, .dit _, h, _ => by cases h
  | 0, _, .scr _, h, _ => by cases h
  | 0, _, .ty _, h, _ => by cases h
  | 0, _, .exn _, h, _ => by cases h
  | 0, _, .cl _, h, _ => by cases h
  | 0, _, .ptr _, h, _ => by cases h
  | n + 1, _, .non, h, _ => by cases h
  | n + 1, _, .bl _, h, _ => by cases h
  | n + 1, _, .tup _, h, _ => by cases h
  | n + 1, _, .dit _, h, _ => by cases h
  | n + 1, _, .scr _, h, _ => by cases h
  | n + 1, _, .ty _, h, _ => by cases h
  | n + 1, _, .exn _, h, _ => by cases h
  | n + 1, _, .cl _, h, _ => by cases h
  | n + 1, _, .ptr _, h, _ => by cases h
theorem okW_mono {n m : Nat} {d : D} (h : okW n d = true) (hm : n ≤ m) : okW m d = true := okW_of h (Nat.le_trans (okW_dp h) hm)
/-! ### what stands within -/
/-- the steps and what they lead to -/
def kids : D → List (D × D)
  | .lst ds => enP 0 ds
  | .dic ks => ks.map fun p => (kD p.1, p.2)
  | _ => []
def kid : D → D → Option D
  | .lst ds, .int i => if 0 ≤ i then ds[i.toNat]? else none
  | .dic ks, .str s => gV ks (Sum.inr s)
  | _, _ => none
def ledF : D → List D → Option D
  | d, [] => some d
  | d, s :: p => match kid d s with
    | some c => ledF c p
    | none => none
/-- another at a path -/
def putF : D → List D → D → D
  | _, [], e => e
  | .lst ds, .int i :: p, e => match ds[i.toNat]? with
    | some c => .lst (ds.set i.toNat (putF c p e))
    | none => .lst ds
  | .dic ks, .str s :: p, e => match gV ks (Sum.inr s) with
    | some c => .dic (putG ks (Sum.inr s) (putF c p e))
    | none => .dic ks
  | d, _, _ => d
def rowsF : Nat → D → List (List D × D)
  | 0, d => [([], d)]
  | n + 1, d => ([], d) :: (kids d).flatMap fun q => (rowsF n q.2).map fun r => (q.1 :: r.1, r.2)
theorem enP_mem {s c : D} : ∀ {ds : List D} {i : Nat}, (s, c) ∈ enP i ds → ∃ j : Nat, s = .int ((i + j : Nat) : Int) ∧ ds[j]? = some c
  | d :: r, i, h => by
    rcases List.mem_cons.mp (show (s, c) ∈ (D.int (i : Int), d) :: enP (i + 1) r from h) with q | q
    · cases q; exact ⟨0, rfl, rfl⟩
    · obtain ⟨j, h1, h2⟩ := enP_mem q
      exact ⟨j + 1, by rw [h1, show i + 1 + j = i + (j + 1) by omega], by simpa using h2⟩
theorem enP_of {c : D} : ∀ {ds : List D} {i j : Nat}, ds[j]? = some c → (D.int ((i + j : Nat) : Int), c) ∈ enP i ds
  | d :: r, i, 0, h => by
    have : d = c := by simpa using h
    subst this
    exact List.mem_cons_self
  | d :: r, i, j + 1, h => by
    have := enP_of (i := i + 1) (j := j) (ds := r) (by simpa using h)
    rw [show i + 1 + j = i + (j + 1) by omega] at this
    exact List.mem_cons_of_mem _ this
  | [], _, _, h => by simp at h
/-- a child by its step -/
theorem kid_of {n : Nat} {d s c : D} (h : okW n d = true) (hk : (s, c) ∈ kids d) : kid d s = some c := by
  cases d with
  | lst ds =>
    obtain ⟨j, h1, h2⟩ := enP_mem hk
    subst h1
    rw [Nat.zero_add]
    show (if (0 : Int) ≤ (j : Int) then ds[(j : Int).toNat]? else none) = some c
    rw [if_pos (by omega), Int.toNat_natCast, h2]
  | dic ks =>
    cases n with
    | zero => cases h
    | succ n =>
      have h' := okW_dic.mp h
      obtain ⟨p, hp, e⟩ := List.mem_map.mp hk
      cases e
      obtain ⟨k, c⟩ := p
      cases k with
      | inl i => have := (h'.1 _ hp).1; cases this
      | inr s => exact gV_of h'.2 hp
  | _ => cases hk
theorem kid_in {d s c : D} (h : kid d s = some c) : (s, c) ∈ kids d := by
  cases d with
  | lst ds =>
    cases s with
    | int i =>
      by_cases hi : 0 ≤ i
      · have h' : ds[i.toNat]? = some c := by simpa [kid, hi] using h
        have := enP_of (i := 0) h'
        rw [Nat.zero_add, Int.toNat_of_nonneg hi] at this
        exact this
      · simp [kid, hi] at h
    | _ => cases h
  | dic ks =>
    cases s with
    | str s => exact List.mem_map.mpr ⟨(Sum.inr s, c), gV_some h, rfl⟩
    | _ => cases h
  | _ => cases h
theorem kid_ok {n : Nat} {d s c : D} (h : okW n d = true) (hk : kid d s = some c) : ∃ m, n = m + 1 ∧ okW m c = true := by
  have hm := kid_in hk
  cases d with
  | lst ds =>
    cases n with
    | zero => cases h
    | succ n =>
      obtain ⟨j, _, h2⟩ := enP_mem hm
      exact ⟨n, rfl, okW_lst.mp h c (List.mem_of_getElem? h2)⟩
  | dic ks =>
    cases n with
    | zero => cases h
    | succ n =>
      obtain ⟨p, hp, e⟩ := List.mem_map.mp hm
      cases e
      exact ⟨n, rfl, ((okW_dic.mp h).1 p hp).2⟩
  | _ => cases hm
theorem kid_cnt {d s c : D} (hk : kid d s = some c) : cntW c + 1 ≤ cntW d := by
  have hm := kid_in hk
  cases d with
  | lst ds =>
    obtain ⟨j, _, h2⟩ := enP_mem hm
    have := cnts_mem (List.mem_of_getElem? h2)
    simp [cntW]; omega
  | dic ks =>
    obtain ⟨p, hp, e⟩ := List.mem_map.mp hm
    cases e
    have := cntk_mem hp
    simp [cntW]; omega
  | _ => cases hm
theorem led_ok : ∀ {p : List D} {n : Nat} {d x : D}, okW n d = true → ledF d p = some x → okW n x = true ∧ cntW x ≤ cntW d
  | [], n, d, x, h, e => by cases e; exact ⟨h, Nat.le_refl _⟩
  | s :: p, n, d, x, h, e => by
    unfold ledF at e
    cases q : kid d s with
    | none => rw [q] at e; cases e
    | some c =>
      rw [q] at e
      obtain ⟨m, rfl, hc⟩ := kid_ok h q
      obtain ⟨h1, h2⟩ := led_ok hc e
      have := kid_cnt q
      exact ⟨okW_mono h1 (Nat.le_succ _), by omega⟩
theorem led_dp : ∀ {p : List D} {n : Nat} {d x : D}, okW n d = true → ledF d p = some x → ∃ m, n = m + p.length ∧ okW m x = true
  | [], n, d, x, h, e => by cases e; exact ⟨n, rfl, h⟩
  | s :: p, n, d, x, h, e => by
    unfold ledF at e
    cases q : kid d s with
    | none => rw [q] at e; cases e
    | some c =>
      rw [q] at e
      obtain ⟨m, rfl, hc⟩ := kid_ok h q
      obtain ⟨k, e1, h1⟩ := led_dp hc e
      exact ⟨k, by rw [e1, List.length_cons]; omega, h1⟩
theorem rows_led : ∀ {n m : Nat} {d x : D} {p : List D}, okW m d = true → (p, x) ∈ rowsF n d → ledF d p = some x
  | 0, m, d, x, p, _, h => by
    have : p = [] ∧ x = d := by simpa [rowsF] using h
    obtain ⟨rfl, rfl⟩ := this
    rfl
  | n + 1, m, d, x, p, hw, h => by
    rcases List.mem_cons.mp (show (p, x) ∈ ([], d) :: (kids d).flatMap _ from h) with q | q
    · cases q; rfl
    · obtain ⟨⟨s, c⟩, h1, h2⟩ := List.mem_flatMap.mp q
      obtain ⟨⟨p', x'⟩, h3, h4⟩ := List.mem_map.mp h2
      cases h4
      have hk := kid_of hw h1
      obtain ⟨k, rfl, hc⟩ := kid_ok hw hk
      unfold ledF
      rw [hk]
      exact rows_led hc h3
theorem led_app : ∀ (p q : List D) (d : D), ledF d (p ++ q) = (ledF d p).bind fun x => ledF x q
  | [], q, d => rfl
  | s :: p, q, d => by
    show (match kid d s with | some c => ledF c (p ++ q) | none => none) = (match kid d s with | some c => ledF c p | none => none).bind _
    cases kid d s with
    | none => rfl
    | some c => exact led_app p q c
end L3
end S_Mc
section S_Md
set_option maxHeartbeats 0
namespace L3
open PySem PySem.Spec PyProof.Rows L2
section
variable {κ α : Type} [DecidableEq κ]
theorem gV_put : ∀ (ks : List (κ × α)) (k q : κ) (a : α), gV (putG ks k a) q = if k = q then some a else gV ks q
  | [], k, q, a => by
    by_cases h : k = q
    · simp [putG, gV, h]
    · simp [putG, gV, h]
  | (x, b) :: r, k, q, a => by
    unfold putG
    by_cases hx : x = k
    · subst hx
      rw [if_pos rfl]
      unfold gV
      by_cases h : x = q
      · simp [h]
      · simp [h]
    · rw [if_neg hx]
      have ih := gV_put r k q a
      unfold gV
      by_cases h : x = q
      · subst h
        simp [show ¬ k = x from fun z => hx z.symm]
      · simp only [if_neg h, ih]
theorem putG_self : ∀ {ks : List (κ × α)} {k : κ} {a : α}, gV ks k = some a → putG ks k a = ks
  | (x, b) :: r, k, a, h => by
    unfold gV at h
    unfold putG
    by_cases hx : x = k
    · subst hx
      rw [if_pos rfl] at h ⊢
      cases h; rfl
    · rw [if_neg hx] at h ⊢
      rw [putG_self h]
theorem putG_putG : ∀ (ks : List (κ × α)) (k : κ) (a b : α), putG (putG ks k a) k b = putG ks k b
  | [], k, a, b => by simp [putG]
  | (x, c) :: r, k, a, b => by
    by_cases hx : x = k
    · subst hx; simp [putG]
    · simp only [putG, if_neg hx, putG_putG r k a b]
theorem putG_keys_in {ks : List (κ × α)} {k : κ} {a b : α} (h : gV ks k = some b) : (putG ks k a).map (·.1) = ks.map (·.1) := by
  rw [putG_keys, if_pos]
  exact List.mem_map.mpr ⟨(k, b), gV_some h, rfl⟩
theorem putG_mem : ∀ {ks : List (κ × α)} {k : κ} {a : α} {p : κ × α}, p ∈ putG ks k a → p ∈ ks ∨ p = (k, a)
  | [], k, a, p, h => by
    have : p = (k, a) := by simpa [putG] using h
    exact .inr this
  | (x, b) :: r, k, a, p, h => by
    unfold putG at h
    by_cases hx : x = k
    · rw [if_pos hx] at h
      rcases List.mem_cons.mp h with q | q
      · subst hx; exact .inr q
      · exact .inl (List.mem_cons_of_mem _ q)
    · rw [if_neg hx] at h
      rcases List.mem_cons.mp h with q | q
      · exact .inl (by rw [q]; exact List.mem_cons_self)
      · rcases putG_mem q with z | z
        · exact .inl (List.mem_cons_of_mem _ z)
        · exact .inr z
end
/-- what a path that leads somewhere leads through -/
theorem led_cons {s : D} {p : List D} {d x : D} (h : ledF d (s :: p) = some x) : (∃ ds i c, d = .lst ds ∧ s = .int i ∧ 0 ≤ i ∧ ds[i.toNat]? = some c ∧ ledF c p = some x) ∨ ∃ ks k c, d = .dic ks ∧ s = .str k ∧ gV ks (Sum.inr k) = some c ∧ ledF c p = some x := by
  unfold ledF at h
  cases q : kid d s with
  | none => rw [q] at h; cases h
  | some c =>
    rw [q] at h
    cases d with
    | lst ds =>
      cases s with
      | int i =>
        by_cases hi : 0 ≤ i
        · exact .inl ⟨ds, i, c, rfl, rfl, hi, by simpa [kid, hi] using q, h⟩
        · simp [kid, hi] at q
      | _ => cases q
    | dic ks =>
      cases s with
      | str k => exact .inr ⟨ks, k, c, rfl, rfl, q, h⟩
      | _ => cases q
    | _ => cases q
theorem put_lst {ds : List D} {i : Int} {c e : D} {p : List D} (h : ds[i.toNat]? = some c) : putF (.lst ds) (.int i :: p) e = .lst (ds.set i.toNat (putF c p e)) := by simp only [putF, h]
theorem put_dic {ks : List (Key × D)} {k : Str} {c e : D} {p : List D} (h : gV ks (Sum.inr k) = some c) : putF (.dic ks) (.str k :: p) e = .dic (putG ks (Sum.inr k) (putF c p e)) := by simp only [putF, h]
theorem kid_lst {ds : List D} {i : Int} (hi : 0 ≤ i) : kid (.lst ds) (.int i) = ds[i.toNat]? := by simp [kid, hi]
theorem get_set {ds : List D} {j : Nat} {c e : D} (h : ds[j]? = some c) : (ds.set j e)[j]? = some e := List.getElem?_set_self (List.getElem?_eq_some_iff.mp h).1
theorem led_put : ∀ {p : List D} {d x e : D}, ledF d p = some x → ledF (putF d p e) p = some e
  | [], d, x, e, _ => by cases d <;> rfl
  | s :: p, d, x, e, h => by
    rcases led_cons h with ⟨ds, i, c, rfl, rfl, hi, hc, hl⟩ | ⟨ks, k, c, rfl, rfl, hc, hl⟩
    · rw [put_lst hc]
      unfold ledF
      rw [kid_lst hi, get_set hc]
      exact led_put hl
    · rw [put_dic hc]
      unfold ledF
      show (match gV (putG ks (Sum.inr k) _) (Sum.inr k) with | some c => ledF c p | none => none) = _
      rw [gV_put, if_pos rfl]
      exact led_put hl
theorem put_nil (d e : D) : putF d [] e = e := by cases d <;> rfl
theorem put_put : ∀ {p : List D} {d x e : D}, ledF d p = some x → putF (putF d p e) p x = d
  | [], d, x, e, h => by cases h; rw [put_nil]
  | s :: p, d, x, e, h => by
    rcases led_cons h with ⟨ds, i, c, rfl, rfl, hi, hc, hl⟩ | ⟨ks, k, c, rfl, rfl, hc, hl⟩
    · rw [put_lst hc, put_lst (get_set hc), put_put hl, List.set_set, set_get hc]
    · have h2 : gV (putG ks (Sum.inr k) (putF c p e)) (Sum.inr k) = some (putF c p e) := by rw [gV_put, if_pos rfl]
      rw [put_dic hc, put_dic h2, put_put hl, putG_putG, putG_self hc]
theorem put_app : ∀ {a b : List D} {d x e : D}, ledF d a = some x → putF d (a ++ b) e = putF d a (putF x b e)
  | [], b, d, x, e, h => by cases h; rw [put_nil]; rfl
  | s :: a, b, d, x, e, h => by
    rcases led_cons h with ⟨ds, i, c, rfl, rfl, hi, hc, hl⟩ | ⟨ks, k, c, rfl, rfl, hc, hl⟩
    · rw [List.cons_append, put_lst hc, put_lst hc, put_app hl]
    · rw [List.cons_append, put_dic hc, put_dic hc, put_app hl]
theorem led_put_at {a b : List D} {d x e : D} (h : ledF d a = some x) : ledF (putF d (a ++ b) e) a = some (putF x b e) := by
  rw [put_app h]
  exact led_put h
/-- apart paths don't see one another -/
def apart : List D → List D → Prop
  | s :: p, t :: q => s ≠ t ∨ apart p q
  | _, _ => False
theorem led_put_off : ∀ {p q : List D} {d x y e : D}, apart p q → ledF d p = some x → ledF d q = some y → ledF (putF d p e) q = some y
  | s :: p, t :: q, d, x, y, e, ha, h1, h2 => by
    rcases led_cons h1 with ⟨ds, i, c, rfl, rfl, hi, hc, hl⟩ | ⟨ks, k, c, rfl, rfl, hc, hl⟩
    · rcases led_cons h2 with ⟨ds', j, c', e1, rfl, hj, hc', hl'⟩ | ⟨ks, k, c', e1, _⟩
      · cases e1
        rw [put_lst hc]
        unfold ledF
        rw [kid_lst hj]
        by_cases hij : i = j
        · subst hij
          rw [hc] at hc'; cases hc'
          rw [get_set hc]
          rcases ha with z | z
          · exact (z rfl).elim
          · exact led_put_off z hl hl'
        · have hne : i.toNat ≠ j.toNat := fun z => hij (by rw [← Int.toNat_of_nonneg hi, z, Int.toNat_of_nonneg hj])
          rw [List.getElem?_set_ne hne, hc']
          exact hl'
      · cases e1
    · rcases led_cons h2 with ⟨ds', j, c', e1, _⟩ | ⟨ks', k', c', e1, rfl, hc', hl'⟩
      · cases e1
      · cases e1
        rw [put_dic hc]
        unfold ledF
        show (match gV (putG ks (Sum.inr k) _) (Sum.inr k') with | some c => ledF c q | none => none) = _
        rw [gV_put]
        by_cases hkk : k = k'
        · subst hkk
          rw [hc] at hc'; cases hc'
          rw [if_pos rfl]
          rcases ha with z | z
          · exact (z rfl).elim
          · exact led_put_off z hl hl'
        · rw [if_neg fun z => hkk (Sum.inr.inj z), hc']
          exact hl'
  | [], _, _, _, _, _, ha, _, _ => ha.elim
  | _ :: _, [], _, _, _, _, ha, _, _ => ha.elim
/-! ### how great it comes to be -/
theorem cnts_set : ∀ {ds : List D} {j : Nat} {c e : D}, ds[j]? = some c → cnts (ds.set j e) + cntW c = cnts ds + cntW e
  | d :: r, 0, c, e, h => by
    have : d = c := by simpa using h
    subst this
    simp [cnts]; omega
  | d :: r, j + 1, c, e, h => by
    have := cnts_set (ds := r) (j := j) (c := c) (e := e) (by simpa using h)
    simp [cnts]; omega
  | [], _, _, _, h => by simp at h
theorem cntk_put : ∀ {ks : List (Key × D)} {k : Key} {c e : D}, gV ks k = some c → cntk (putG ks k e) + cntW c = cntk ks + cntW e
  | (x, d) :: r, k, c, e, h => by
    unfold gV at h
    unfold putG
    by_cases hx : x = k
    · rw [if_pos hx] at h ⊢
      cases h
      simp [cntk]; omega
    · rw [if_neg hx] at h ⊢
      have := cntk_put (e := e) h
      simp [cntk]; omega
  | [], _, _, _, h => by cases h
theorem put_cnt : ∀ {p : List D} {d x e : D}, ledF d p = some x → cntW (putF d p e) + cntW x = cntW d + cntW e
  | [], d, x, e, h => by cases h; rw [put_nil]; omega
  | s :: p, d, x, e, h => by
    rcases led_cons h with ⟨ds, i, c, rfl, rfl, hi, hc, hl⟩ | ⟨ks, k, c, rfl, rfl, hc, hl⟩
    · rw [put_lst hc]
      have h1 := cnts_set (e := putF c p e) hc
      have h2 := put_cnt (e := e) hl
      simp only [cntW]; omega
    · rw [put_dic hc]
      have h1 := cntk_put (e := putF c p e) hc
      have h2 := put_cnt (e := e) hl
      simp only [cntW]; omega
theorem put_ok : ∀ {p : List D} {d x e : D} {n m : Nat}, okW n d = true → okW m e = true → ledF d p = some x → okW (max n (p.length + m)) (putF d p e) = true
  | [], d, x, e, n, m, hd, he, h => by rw [put_nil]; exact okW_mono he (by simp; omega)
  | s :: p, d, x, e, n, m, hd, he, h => by
    rcases led_cons h with ⟨ds, i, c, rfl, rfl, hi, hc, hl⟩ | ⟨ks, k, c, rfl, rfl, hc, hl⟩
    · cases n with
      | zero => cases hd
      | succ n =>
        have hd' := okW_lst.mp hd
        have ih := put_ok (hd' c (List.mem_of_getElem? hc)) he hl
        rw [put_lst hc, show max (n + 1) ((D.int i :: p).length + m) = max n (p.length + m) + 1 by simp; omega]
        refine okW_lst.mpr fun y hy => ?_
        rcases List.mem_or_eq_of_mem_set hy with q | q
        · exact okW_mono (hd' y q) (by omega)
        · rw [q]; exact ih
    · cases n with
      | zero => cases hd
      | succ n =>
        obtain ⟨hd', nd⟩ := okW_dic.mp hd
        have ih := put_ok (hd' _ (gV_some hc)).2 he hl
        rw [put_dic hc, show max (n + 1) ((D.str k :: p).length + m) = max n (p.length + m) + 1 by simp; omega]
        refine okW_dic.mpr ⟨fun q hq => ?_, by rw [putG_keys_in hc]; exact nd⟩
        rcases putG_mem hq with z | z
        · exact ⟨(hd' q z).1, okW_mono (hd' q z).2 (by omega)⟩
        · rw [z]; exact ⟨(hd' _ (gV_some hc)).1, ih⟩
theorem enP_snd : ∀ (ds : List D) (i : Nat), (enP i ds).map (·.2) = ds
  | [], _ => rfl
  | d :: r, i => by show d :: (enP (i + 1) r).map (·.2) = _; rw [enP_snd r]
theorem kids_sum (f : D → Nat) : ∀ {l : List (D × D)}, (l.map fun q => f q.2).sum = ((l.map (·.2)).map f).sum
  | [] => rfl
  | q :: r => by simp [kids_sum f (l := r)]
theorem rows_len : ∀ {n : Nat} {d : D}, okW n d = true → (rowsF n d).length = cntW d
  | 0, d, h => by cases d <;> first | rfl | cases h
  | n + 1, d, h => by
    show ((kids d).flatMap _).length + 1 = cntW d
    rw [List.length_flatMap]
    have key : ∀ q ∈ kids d, ((rowsF n q.2).map fun r => (q.1 :: r.1, r.2)).length = cntW q.2 := fun q hq => by
      rw [List.length_map]
      have hk := kid_of h (s := q.1) (c := q.2) hq
      obtain ⟨m, e, hc⟩ := kid_ok h hk
      cases e
      exact rows_len hc
    rw [List.map_congr_left key]
    cases d with
    | lst ds =>
      have e : (((enP 0 ds).map fun q => cntW q.2)).sum = cnts ds := by rw [kids_sum, enP_snd, cnts_map]
      show ((enP 0 ds).map fun q => cntW q.2).sum + 1 = 1 + cnts ds
      omega
    | dic ks =>
      show ((ks.map fun p => (kD p.1, p.2)).map fun q => cntW q.2).sum + 1 = 1 + cntk ks
      rw [List.map_map, cntk_map]
      show (ks.map fun p => cntW p.2).sum + 1 = _
      omega
    | _ => rfl
theorem led_len : ∀ {p : List D} {d x : D}, ledF d p = some x → cntW x + p.length ≤ cntW d
  | [], d, x, h => by cases h; simp
  | s :: p, d, x, h => by
    unfold ledF at h
    cases q : kid d s with
    | none => rw [q] at h; cases h
    | some c =>
      rw [q] at h
      have h1 := led_len h
      have h2 := kid_cnt q
      simp; omega
end L3
end S_Md
section S_Pb
set_option maxHeartbeats 0
namespace LP
open PySem PySem.Spec PyProof.Rows L2 L3
--BEGIN
/-! ### what the program's own defs come to -/
theorem up1 {n m : Nat} (h : m + 1 ≤ n) : ∃ k, n = k + 1 ∧ m ≤ k := ⟨n - 1, by omega, by omega⟩
theorem is_whole_int {n : Nat} (hn : 1 ≤ n) (i lo hi : Int) : G_is_whole n [.fz (.int i), .fz (.int lo), .fz (.int hi)] = .ok (.fz (.bl (decide (lo ≤ i) && decide (i ≤ hi)))) [.fz (.int i), .fz (.int lo), .fz (.int hi)] := by
  obtain ⟨k, rfl, _⟩ := up1 hn
  show runD _ _ _ _ _ = _
  by_cases h : lo ≤ i
  · simp [h, m_is_whole, runD, dSeq, dIfS, dRet, retv, dAsg, stv, dVar, dC, dOp, dUn, dCB, dCall, callE, frzN, entOf, plIx, putE, mB, L3.ret, pk, peek, pks, peeks, lft, frz, frzs, dCons, dNil, dAndV, dOrV, dNotV, dAnd, dOr, dNot, dIf, dBool, dTru, truD, dChain, cIsi, tyNm, isTy, dataTy, tysOf, anyTy, cLen, cmpD, addD, subD, dNext, backE, dLst, dTup, dDrop]
  · simp [h, m_is_whole, runD, dSeq, dIfS, dRet, retv, dAsg, stv, dVar, dC, dOp, dUn, dCB, dCall, callE, frzN, entOf, plIx, putE, mB, L3.ret, pk, peek, pks, peeks, lft, frz, frzs, dCons, dNil, dAndV, dOrV, dNotV, dAnd, dOr, dNot, dIf, dBool, dTru, truD, dChain, cIsi, tyNm, isTy, dataTy, tysOf, anyTy, cLen, cmpD, addD, subD, dNext, backE, dLst, dTup, dDrop]
def isInt : D → Bool
  | .int _ => true
  | _ => false
theorem is_whole_no {n : Nat} (hn : 1 ≤ n) {d : D} (hd : dataTy d = true) (hb : ∀ b, d ≠ .bl b) (h : isInt d = false) (lo hi : Int) : G_is_whole n [.fz d, .fz (.int lo), .fz (.int hi)] = .ok (.fz (.bl false)) [.fz d, .fz (.int lo), .fz (.int hi)] := by
  obtain ⟨k, rfl, _⟩ := up1 hn
  show runD _ _ _ _ _ = _
  cases d with
  | int i => cases h
  | bl b => exact (hb b rfl).elim
  | dit _ => cases hd
  | ty _ => cases hd
  | exn _ => cases hd
  | cl _ => cases hd
  | ptr _ => cases hd
  | _ => simp [m_is_whole, runD, dSeq, dIfS, dRet, retv, dAsg, stv, dVar, dC, dOp, dUn, dCB, dCall, callE, frzN, entOf, plIx, putE, mB, L3.ret, pk, peek, pks, peeks, lft, frz, frzs, dCons, dNil, dAndV, dOrV, dNotV, dAnd, dOr, dNot, dIf, dBool, dTru, truD, dChain, cIsi, tyNm, isTy, dataTy, tysOf, anyTy, cLen, cmpD, addD, subD, dNext, backE, dLst, dTup, dDrop]
def chB (d : D) : Bool := match d with
  | .str c => decide (c.cps[0]! ∈ small.cps.toList)
  | _ => false
theorem bls_map (f : D → Bool) : ∀ ds : List D, blsOf (ds.map fun d => .bl (f d)) = some (ds.map f)
  | [] => rfl
  | d :: ds => by simp [blsOf, bls_map f ds]
theorem q_is_word (s : Str) (hs : s.length ≤ 16777216) : Q_is_word_1 [.fz (.str s), .no] = .ok (.ow (.lst ((chD s).map fun d => .bl (chB d)))) [.fz (.str s), .no] := by
  refine lc_map (fun d => .bl (chB d)) (ei := [.fz (.str s), .no]) (by simp [dIt, itemsOf, runD, dSeq, dIfS, dRet, retv, dAsg, stv, dVar, dC, dOp, dUn, dCB, dCall, callE, frzN, entOf, plIx, putE, mB, L3.ret, pk, peek, pks, peeks, lft, frz, frzs, dCons, dNil, dAndV, dOrV, dNotV, dAnd, dOr, dNot, dIf, dBool, dTru, truD, dChain, cIsi, tyNm, isTy, dataTy, tysOf, anyTy, cLen, cmpD, addD, subD, dNext, backE, dLst, dTup, dDrop]) (by simp [chD]; exact hs) fun d hd => ?_
  obtain ⟨c, hc, rfl⟩ := List.mem_map.mp hd
  exact ⟨[.fz (.str s), .fz (.str ⟨#[c]⟩)], [.fz (.str s), .fz (.str ⟨#[c]⟩)], by simp [gtN, wipeE], by simp [noX, inD, chB, small, runD, dSeq, dIfS, dRet, retv, dAsg, stv, dVar, dC, dOp, dUn, dCB, dCall, callE, frzN, entOf, plIx, putE, mB, L3.ret, pk, peek, pks, peeks, lft, frz, frzs, dCons, dNil, dAndV, dOrV, dNotV, dAnd, dOr, dNot, dIf, dBool, dTru, truD, dChain, cIsi, tyNm, isTy, dataTy, tysOf, anyTy, cLen, cmpD, addD, subD, dNext, backE, dLst, dTup, dDrop], by simp [wipeE]⟩
theorem is_word_str {n : Nat} (hn : 1 ≤ n) (s : Str) (hs : s.length ≤ 16777216) : G_is_word n [.fz (.str s)] = .ok (.fz (.bl (okS s))) [.fz (.str s)] := by
  obtain ⟨k, rfl, _⟩ := up1 hn
  show runD _ _ _ _ _ = _
  have q := q_is_word s hs
  have e : (((chD s).map chB).all id) = s.cps.toList.all fun c => decide (c ∈ small.cps.toList) := by simp [chD, chB, List.all_map, Function.comp_def]
  have b := bls_map chB (chD s)
  by_cases h1 : (1 : Int) ≤ s.length
  · by_cases h2 : (s.length : Int) ≤ 12
    · have h3 : okS s = ((chD s).map chB).all id := by
        unfold okS
        rw [e, decide_eq_true (show 1 ≤ s.length by omega), decide_eq_true (show s.length ≤ 12 by omega)]; rfl
      rw [h3]
      simp only [m_is_word, List.replicate, List.append, runD, dSeq, dIfS, dRet, retv, dAsg, stv, dVar, dC, dOp, dUn, dCB, dCall, callE, frzN, entOf, plIx, putE, mB, L3.ret, pk, peek, pks, peeks, lft, frz, frzs, dCons, dNil, dAndV, dOrV, dNotV, dAnd, dOr, dNot, dIf, dBool, dTru, truD, dChain, cIsi, tyNm, isTy, dataTy, tysOf, anyTy, cLen, cmpD, addD, subD, dNext, backE, dLst, dTup, dDrop, HAppend.hAppend, Append.append]
      simp [q, hs, cAll, b, h1, h2, runD, dSeq, dIfS, dRet, retv, dAsg, stv, dVar, dC, dOp, dUn, dCB, dCall, callE, frzN, entOf, plIx, putE, mB, L3.ret, pk, peek, pks, peeks, lft, frz, frzs, dCons, dNil, dAndV, dOrV, dNotV, dAnd, dOr, dNot, dIf, dBool, dTru, truD, dChain, cIsi, tyNm, isTy, dataTy, tysOf, anyTy, cLen, cmpD, addD, subD, dNext, backE, dLst, dTup, dDrop]
    · have h3 : okS s = false := by
        unfold okS
        rw [decide_eq_false (show ¬ s.length ≤ 12 by omega)]; simp
      rw [h3]
      simp [m_is_word, runD, dSeq, dIfS, dRet, retv, dAsg, stv, dVar, dC, dOp, dUn, dCB, dCall, callE, frzN, entOf, plIx, putE, mB, L3.ret, pk, peek, pks, peeks, lft, frz, frzs, dCons, dNil, dAndV, dOrV, dNotV, dAnd, dOr, dNot, dIf, dBool, dTru, truD, dChain, cIsi, tyNm, isTy, dataTy, tysOf, anyTy, cLen, cmpD, addD, subD, dNext, backE, dLst, dTup, dDrop, hs, h1, h2]
  · have h3 : okS s = false := by
      unfold okS
      rw [decide_eq_false (show ¬ 1 ≤ s.length by omega)]; simp
    rw [h3]
    simp [m_is_word, runD, dSeq, dIfS, dRet, retv, dAsg, stv, dVar, dC, dOp, dUn, dCB, dCall, callE, frzN, entOf, plIx, putE, mB, L3.ret, pk, peek, pks, peeks, lft, frz, frzs, dCons, dNil, dAndV, dOrV, dNotV, dAnd, dOr, dNot, dIf, dBool, dTru, truD, dChain, cIsi, tyNm, isTy, dataTy, tysOf, anyTy, cLen, cmpD, addD, subD, dNext, backE, dLst, dTup, dDrop, hs, h1]
theorem is_word_no {n : Nat} (hn : 1 ≤ n) {d : D} (hd : dataTy d = true) (h : isStr d = false) : G_is_word n [.fz d] = .ok (.fz (.bl false)) [.fz d] := by
  obtain ⟨k, rfl, _⟩ := up1 hn
  show runD _ _ _ _ _ = _
  cases d with
  | str i => cases h
  | dit _ => cases hd
  | ty _ => cases hd
  | exn _ => cases hd
  | cl _ => cases hd
  | ptr _ => cases hd
  | _ => simp [m_is_word, runD, dSeq, dIfS, dRet, retv, dAsg, stv, dVar, dC, dOp, dUn, dCB, dCall, callE, frzN, entOf, plIx, putE, mB, L3.ret, pk, peek, pks, peeks, lft, frz, frzs, dCons, dNil, dAndV, dOrV, dNotV, dAnd, dOr, dNot, dIf, dBool, dTru, truD, dChain, cIsi, tyNm, isTy, dataTy, tysOf, anyTy, cLen, cmpD, addD, subD, dNext, backE, dLst, dTup, dDrop]
/-- is_plain of a worth -/
def plainB : D → Bool
  | .int i => okI i
  | .str s => okS s
  | _ => false
theorem is_plain_ok {n : Nat} (hn : 2 ≤ n) {d : D} (hd : dataTy d = true) (hs : ∀ s, d = .str s → s.length ≤ 16777216) (hb : ∀ b, d ≠ .bl b) : G_is_plain n [.fz d] = .ok (.fz (.bl (plainB d))) [.fz d] := by
  obtain ⟨k, rfl, hk⟩ := up1 hn
  show runD _ _ _ _ _ = _
  cases d with
  | int i =>
    have h1 := is_whole_int hk i (-1000000) 1000000
    have h2 := is_word_no hk (d := .int i) rfl rfl
    have e : (decide (-1000000 ≤ i) && decide (i ≤ 1000000)) = okI i := rfl
    rw [e] at h1
    cases h3 : okI i with
    | true => rw [h3] at h1; simp [m_is_plain, runD, dSeq, dIfS, dRet, retv, dAsg, stv, dVar, dC, dOp, dUn, dCB, dCall, callE, frzN, entOf, plIx, putE, mB, L3.ret, pk, peek, pks, peeks, lft, frz, frzs, dCons, dNil, dAndV, dOrV, dNotV, dAnd, dOr, dNot, dIf, dBool, dTru, truD, dChain, cIsi, tyNm, isTy, dataTy, tysOf, anyTy, cLen, cmpD, addD, subD, dNext, backE, dLst, dTup, dDrop, h1, h2, plainB, h3]
    | false => rw [h3] at h1; simp [m_is_plain, runD, dSeq, dIfS, dRet, retv, dAsg, stv, dVar, dC, dOp, dUn, dCB, dCall, callE, frzN, entOf, plIx, putE, mB, L3.ret, pk, peek, pks, peeks, lft, frz, frzs, dCons, dNil, dAndV, dOrV, dNotV, dAnd, dOr, dNot, dIf, dBool, dTru, truD, dChain, cIsi, tyNm, isTy, dataTy, tysOf, anyTy, cLen, cmpD, addD, subD, dNext, backE, dLst, dTup, dDrop, h1, h2, plainB, h3]
  | str s =>
    have h1 := is_whole_no hk (d := .str s) rfl (fun _ z => nomatch z) rfl (-1000000) 1000000
    have h2 := is_word_str hk s (hs s rfl)
    simp [m_is_plain, runD, dSeq, dIfS, dRet, retv, dAsg, stv, dVar, dC, dOp, dUn, dCB, dCall, callE, frzN, entOf, plIx, putE, mB, L3.ret, pk, peek, pks, peeks, lft, frz, frzs, dCons, dNil, dAndV, dOrV, dNotV, dAnd, dOr, dNot, dIf, dBool, dTru, truD, dChain, cIsi, tyNm, isTy, dataTy, tysOf, anyTy, cLen, cmpD, addD, subD, dNext, backE, dLst, dTup, dDrop, h1, h2, plainB]
  | dit _ => cases hd
  | ty _ => cases hd
  | exn _ => cases hd
  | cl _ => cases hd
  | ptr _ => cases hd
  | bl b => exact (hb b rfl).elim
  | non =>
    have h1 := is_whole_no hk (d := .non) rfl (fun _ z => nomatch z) rfl (-1000000) 1000000
    have h2 := is_word_no hk (d := .non) rfl rfl
    simp [m_is_plain, runD, dSeq, dIfS, dRet, retv, dAsg, stv, dVar, dC, dOp, dUn, dCB, dCall, callE, frzN, entOf, plIx, putE, mB, L3.ret, pk, peek, pks, peeks, lft, frz, frzs, dCons, dNil, dAndV, dOrV, dNotV, dAnd, dOr, dNot, dIf, dBool, dTru, truD, dChain, cIsi, tyNm, isTy, dataTy, tysOf, anyTy, cLen, cmpD, addD, subD, dNext, backE, dLst, dTup, dDrop, h1, h2, plainB]
  | lst ds =>
    have h1 := is_whole_no hk (d := .lst ds) rfl (fun _ z => nomatch z) rfl (-1000000) 1000000
    have h2 := is_word_no hk (d := .lst ds) rfl rfl
    simp [m_is_plain, runD, dSeq, dIfS, dRet, retv, dAsg, stv, dVar, dC, dOp, dUn, dCB, dCall, callE, frzN, entOf, plIx, putE, mB, L3.ret, pk, peek, pks, peeks, lft, frz, frzs, dCons, dNil, dAndV, dOrV, dNotV, dAnd, dOr, dNot, dIf, dBool, dTru, truD, dChain, cIsi, tyNm, isTy, dataTy, tysOf, anyTy, cLen, cmpD, addD, subD, dNext, backE, dLst, dTup, dDrop, h1, h2, plainB]
  | tup ds =>
    have h1 := is_whole_no hk (d := .tup ds) rfl (fun _ z => nomatch z) rfl (-1000000) 1000000
    have h2 := is_word_no hk (d := .tup ds) rfl rfl
    simp [m_is_plain, runD, dSeq, dIfS, dRet, retv, dAsg, stv, dVar, dC, dOp, dUn, dCB, dCall, callE, frzN, entOf, plIx, putE, mB, L3.ret, pk, peek, pks, peeks, lft, frz, frzs, dCons, dNil, dAndV, dOrV, dNotV, dAnd, dOr, dNot, dIf, dBool, dTru, truD, dChain, cIsi, tyNm, isTy, dataTy, tysOf, anyTy, cLen, cmpD, addD, subD, dNext, backE, dLst, dTup, dDrop, h1, h2, plainB]
  | dic ds =>
    have h1 := is_whole_no hk (d := .dic ds) rfl (fun _ z => nomatch z) rfl (-1000000) 1000000
    have h2 := is_word_no hk (d := .dic ds) rfl rfl
    simp [m_is_plain, runD, dSeq, dIfS, dRet, retv, dAsg, stv, dVar, dC, dOp, dUn, dCB, dCall, callE, frzN, entOf, plIx, putE, mB, L3.ret, pk, peek, pks, peeks, lft, frz, frzs, dCons, dNil, dAndV, dOrV, dNotV, dAnd, dOr, dNot, dIf, dBool, dTru, truD, dChain, cIsi, tyNm, isTy, dataTy, tysOf, anyTy, cLen, cmpD, addD, subD, dNext, backE, dLst, dTup, dDrop, h1, h2, plainB]
  | scr ns =>
    have h1 := is_whole_no hk (d := .scr ns) rfl (fun _ z => nomatch z) rfl (-1000000) 1000000
    have h2 := is_word_no hk (d := .scr ns) rfl rfl
    simp [m_is_plain, runD, dSeq, dIfS, dRet, retv, dAsg, stv, dVar, dC, dOp, dUn, dCB, dCall, callE, frzN, entOf, plIx, putE, mB, L3.ret, pk, peek, pks, peeks, lft, frz, frzs, dCons, dNil, dAndV, dOrV, dNotV, dAnd, dOr, dNot, dIf, dBool, dTru, truD, dChain, cIsi, tyNm, isTy, dataTy, tysOf, anyTy, cLen, cmpD, addD, subD, dNext, backE, dLst, dTup, dDrop, h1, h2, plainB]

theorem okS_len {s : Str} (h : okS s = true) : s.length ≤ 16777216 := by
  unfold okS at h
  simp only [Bool.and_eq_true, decide_eq_true_eq] at h
  omega
theorem okW_data {n : Nat} {d : D} (h : okW n d = true) : dataTy d = true ∧ (∀ s, d = .str s → s.length ≤ 16777216) ∧ ∀ b, d ≠ .bl b := by
  cases d with
  | str s => exact ⟨rfl, fun s' e => by cases e; exact okS_len (by cases n <;> exact h), fun b e => nomatch e⟩
  | bl b => cases n <;> cases h
  | dit _ => cases n <;> cases h
  | ty _ => cases n <;> cases h
  | exn _ => cases n <;> cases h
  | cl _ => cases n <;> cases h
  | ptr _ => cases n <;> cases h
  | _ => exact ⟨rfl, fun s' e => (by cases e), fun b e => nomatch e⟩
theorem okK_str {k : Key} (h : okK k = true) : ∃ s, k = .inr s ∧ okS s = true := by
  cases k with
  | inl i => cases h
  | inr s => exact ⟨s, rfl, h⟩
theorem ints_map (f : D → Int) : ∀ ds : List D, intsOf (ds.map fun d => .int (f d)) = some (ds.map f)
  | [] => rfl
  | d :: ds => by simp [intsOf, ints_map f ds]
theorem no_non (f : D → Int) : ∀ ds : List D, ((ds.map fun d => D.int (f d)).any fun y => eqO y .non == some true) = false
  | [] => rfl
  | d :: ds => by simp [eqO, no_non f ds]
theorem fl_ints (f : D → Int) : ∀ ds : List D, (ds.map fun d => D.int (f d)).all flatD = true
  | [] => rfl
  | d :: ds => by simp [flatD, fl_ints f ds]
theorem sum_cast (f : D → Nat) : ∀ ds : List D, (ds.map fun d => ((f d : Nat) : Int)).sum = ((ds.map f).sum : Nat)
  | [] => rfl
  | d :: ds => by simp [sum_cast f ds]
theorem in_counts (f : D → Nat) (ds : List D) : inD false .non (.lst (ds.map fun d => .int (f d))) = some (.fz (.bl false)) := by
  have h1 := fl_ints (fun d => (f d : Int)) ds
  have h2 := no_non (fun d => (f d : Int)) ds
  simp only [inD, h1, h2, flatD]; rfl
theorem sum_counts (f : D → Nat) (ds : List D) : cSum [.lst (ds.map fun d => .int (f d))] = some (.fz (.int ((ds.map f).sum : Nat))) := by
  have h1 := ints_map (fun d => (f d : Int)) ds
  simp only [cSum, h1, Option.map_some, sum_cast]
theorem all_true {α : Type} (ks : List α) : cAll [.lst (ks.map fun _ => .bl true)] = some (.fz (.bl true)) := by
  have : ∀ ks : List α, blsOf (ks.map fun _ => D.bl true) = some (ks.map fun _ => true) := by
    intro ks
    induction ks with
    | nil => rfl
    | cons a r ih => simp only [List.map_cons, blsOf, ih]
  simp [cAll, this]
/-- a comprehension over the keys of slot i -/
theorem lcK_map {i : Nat} {vs : List Nat} {tgt : D → En → Option En} {me : M Vl} (f : Key × D → D) {e : En} {ks : List (Key × D)} (he : e[i]? = some (.fz (.dic ks))) (hl : ks.length ≤ 16777216) (h : ∀ p ∈ ks, ∃ e1 e3, tgt (kD p.1) (wipeE vs e) = some e1 ∧ mB (noX me) frz e1 = .ok (f p) e3 ∧ wipeE vs e3 = wipeE vs e) (nd : (ks.map (·.1)).Nodup) :
    dLk i (dLc vs (dKs i) tgt (L3.ret true) me) e = .ok (.ow (.lst (ks.map f))) e := by
  classical
  have inj : ∀ a b : Key, kD a = kD b → a = b := fun a b z => by
    cases a <;> cases b <;> first | (cases z; rfl) | cases z
  have g : ∀ p ∈ ks, ((fun d => match ks.find? (fun q => decide (kD q.1 = kD p.1)) with | some q => f q | none => d) (kD p.1)) = f p := fun p hp => by
    have : ks.find? (fun q => decide (kD q.1 = kD p.1)) = some p := by
      clear he hl h
      induction ks with
      | nil => cases hp
      | cons q r ih =>
        have nd' := List.nodup_cons.mp (show (q.1 :: r.map (·.1)).Nodup from nd)
        rcases List.mem_cons.mp hp with z | z
        · subst z; simp
        · have hne : ¬ kD q.1 = kD p.1 := fun y => nd'.1 (by rw [inj _ _ y]; exact List.mem_map.mpr ⟨p, z, rfl⟩)
          rw [List.find?_cons_of_neg (by simp [hne])]
          exact ih nd'.2 z
    simp only [this]
  refine lk_ok he ?_
  have key := lc_gen (vs := vs) (tgt := tgt) (mt := L3.ret true) (me := me) (fun d => match ks.find? (fun q => decide (kD q.1 = d)) with | some q => [f q] | none => [d]) (ks_ok he) (by rw [List.length_map]; exact hl) fun d hd => by
    obtain ⟨p, hp, rfl⟩ := List.mem_map.mp hd
    obtain ⟨e1, e3, h1, h2, h3⟩ := h p hp
    refine ⟨e1, true, e1, h1, rfl, fun _ => ⟨f p, e3, h2, h3, ?_⟩, fun z => nomatch z⟩
    have := g p hp
    cases q : ks.find? (fun q => decide (kD q.1 = kD p.1)) with
    | none => rw [q] at this; simp only at this ⊢; rw [this]
    | some z => rw [q] at this; simp only at this ⊢; rw [this]
  rw [key]
  congr 3
  rw [List.flatMap_map]
  clear key he hl h
  have : ∀ l : List (Key × D), (∀ p ∈ l, p ∈ ks) → l.flatMap (fun a => match ks.find? (fun q => decide (kD q.1 = kD a.1)) with | some q => [f q] | none => [kD a.1]) = l.map f := by
    intro l
    induction l with
    | nil => intro _; rfl
    | cons p r ih =>
      intro hl
      rw [List.flatMap_cons, ih fun q hq => hl q (List.mem_cons_of_mem _ hq)]
      have := g p (hl p List.mem_cons_self)
      cases q : ks.find? (fun q => decide (kD q.1 = kD p.1)) with
      | none => rw [q] at this; simp only at this ⊢; rw [this]; rfl
      | some z => rw [q] at this; simp only at this ⊢; rw [this]; rfl
  exact this ks fun p hp => hp
theorem parts_ok : ∀ (m n : Nat) (d : D) (kd : Nat), m + 3 ≤ n → okW m d = true → m ≤ kd → cntW d ≤ 60 → G_parts_of n [.fz d, .fz (.int kd)] = .ok (.fz (.int (cntW d))) [.fz d, .fz (.int kd)] := by
  intro m
  induction m with
  | zero =>
    intro n d kd hn hw hk hc
    obtain ⟨k, rfl, hn'⟩ := up1 (m := 2) (by omega)
    obtain ⟨h1, h2, h3⟩ := okW_data hw
    have hp := is_plain_ok hn' h1 h2 h3
    have e : plainB d = true ∧ cntW d = 1 := by cases d <;> first | exact ⟨hw, rfl⟩ | cases hw
    rw [e.1] at hp
    show runD _ _ _ _ _ = _
    simp [m_parts_of, runD, dSeq, dIfS, dRet, retv, dAsg, stv, dVar, dC, dOp, dUn, dCB, dCall, callE, frzN, entOf, plIx, putE, mB, L3.ret, pk, peek, pks, peeks, lft, frz, frzs, dCons, dNil, dAndV, dOrV, dNotV, dAnd, dOr, dNot, dIf, dBool, dTru, truD, dChain, cIsi, tyNm, isTy, dataTy, tysOf, anyTy, cLen, cmpD, addD, subD, dNext, backE, dLst, dTup, dDrop, hp, e.2]
  | succ m ih =>
    intro n d kd hn hw hk hc
    obtain ⟨k, rfl, hn'⟩ := up1 (m := m + 3) (by omega)
    obtain ⟨h1, h2, h3⟩ := okW_data hw
    have hp := is_plain_ok (n := k) (by omega) h1 h2 h3
    show runD _ _ _ _ _ = _
    have hkd : ((kd : Int) == 0) = false := by simp; omega
    have hkd' : (kd : Int) - 1 = ((kd - 1 : Nat) : Int) := by omega
    cases d with
    | lst ds =>
      have hw' := okW_lst.mp hw
      have hl := cnts_len ds
      have hc' : 1 + cnts ds ≤ 60 := hc
      have h60 : ¬ (60 : Int) < ds.length := by omega
      have q3 : Q_parts_of_3 (G_is_plain k) (G_is_word k) (G_parts_of k) [.fz (.lst ds), .fz (.int kd), .no, .fz (.lst ds), .no, .no] = .ok (.ow (.lst (ds.map fun d => .int (cntW d)))) [.fz (.lst ds), .fz (.int kd), .no, .fz (.lst ds), .no, .no] := by
        refine lc_map (fun d => .int (cntW d)) (ei := [.fz (.lst ds), .fz (.int kd), .no, .fz (.lst ds), .no, .no]) (by simp [dIt, itemsOf, runD, dSeq, dIfS, dRet, retv, dAsg, stv, dVar, dC, dOp, dUn, dCB, dCall, callE, frzN, entOf, plIx, putE, mB, L3.ret, pk, peek, pks, peeks, lft, frz, frzs, dCons, dNil, dAndV, dOrV, dNotV, dAnd, dOr, dNot, dIf, dBool, dTru, truD, dChain, cIsi, tyNm, isTy, dataTy, tysOf, anyTy, cLen, cmpD, addD, subD, dNext, backE, dLst, dTup, dDrop]) (by omega) fun c hcd => ?_
        have := cnts_mem hcd
        have h4 := ih k c (kd - 1) (by omega) (hw' c hcd) (by omega) (by omega)
        refine ⟨[.fz (.lst ds), .fz (.int kd), .no, .fz (.lst ds), .no, .fz c], [.fz (.lst ds), .fz (.int kd), .no, .fz (.lst ds), .no, .fz c], by simp [gtN, wipeE], ?_, by simp [wipeE]⟩
        simp [noX, runD, dSeq, dIfS, dRet, retv, dAsg, stv, dVar, dC, dOp, dUn, dCB, dCall, callE, frzN, entOf, plIx, putE, mB, L3.ret, pk, peek, pks, peeks, lft, frz, frzs, dCons, dNil, dAndV, dOrV, dNotV, dAnd, dOr, dNot, dIf, dBool, dTru, truD, dChain, cIsi, tyNm, isTy, dataTy, tysOf, anyTy, cLen, cmpD, addD, subD, dNext, backE, dLst, dTup, dDrop, hkd', h4]
      simp [m_parts_of, runD, dSeq, dIfS, dRet, retv, dAsg, stv, dVar, dC, dOp, dUn, dCB, dCall, callE, frzN, entOf, plIx, putE, mB, L3.ret, pk, peek, pks, peeks, lft, frz, frzs, dCons, dNil, dAndV, dOrV, dNotV, dAnd, dOr, dNot, dIf, dBool, dTru, truD, dChain, cIsi, tyNm, isTy, dataTy, tysOf, anyTy, cLen, cmpD, addD, subD, dNext, backE, dLst, dTup, dDrop, hp, plainB, eqD, depLe, eqO, hkd, q3, h60, in_counts, sum_counts, cntW, cnts_map]
    | dic ks =>
      obtain ⟨hw', nd⟩ := okW_dic.mp hw
      have hl := cntk_len ks
      have hc' : 1 + cntk ks ≤ 60 := hc
      have h60 : ¬ (60 : Int) < ks.length := by omega
      have q1 : Q_parts_of_1 (G_is_plain k) (G_is_word k) (G_parts_of k) [.fz (.dic ks), .fz (.int kd), .no, .no, .no, .no] = .ok (.ow (.lst (ks.map fun _ => .bl true))) [.fz (.dic ks), .fz (.int kd), .no, .no, .no, .no] := by
        refine lcK_map (fun _ => .bl true) rfl (by omega) (fun p hp => ?_) nd
        obtain ⟨s, e, hs⟩ := okK_str (hw' p hp).1
        have h4 := is_word_str (n := k) (by omega) s (okS_len hs)
        rw [hs] at h4
        refine ⟨[.fz (.dic ks), .fz (.int kd), .fz (.str s), .no, .no, .no], [.fz (.dic ks), .fz (.int kd), .fz (.str s), .no, .no, .no], by simp [gtN, wipeE, e, kD], ?_, by simp [wipeE]⟩
        simp [noX, runD, dSeq, dIfS, dRet, retv, dAsg, stv, dVar, dC, dOp, dUn, dCB, dCall, callE, frzN, entOf, plIx, putE, mB, L3.ret, pk, peek, pks, peeks, lft, frz, frzs, dCons, dNil, dAndV, dOrV, dNotV, dAnd, dOr, dNot, dIf, dBool, dTru, truD, dChain, cIsi, tyNm, isTy, dataTy, tysOf, anyTy, cLen, cmpD, addD, subD, dNext, backE, dLst, dTup, dDrop, h4]
      have q2 : Q_parts_of_2 (G_is_plain k) (G_is_word k) (G_parts_of k) [.fz (.dic ks), .fz (.int kd), .no, .no, .no, .no] = .ok (.ow (.lst (ks.map fun p => p.2))) [.fz (.dic ks), .fz (.int kd), .no, .no, .no, .no] := by
        refine lcK_map (fun p => p.2) rfl (by omega) (fun p hp => ?_) nd
        obtain ⟨s, e, hs⟩ := okK_str (hw' p hp).1
        have h5 : gV ks (Sum.inr s) = some p.2 := gV_of nd (by rw [← e]; exact hp)
        refine ⟨[.fz (.dic ks), .fz (.int kd), .fz (.str s), .no, .no, .no], [.fz (.dic ks), .fz (.int kd), .fz (.str s), .no, .no, .no], by simp [gtN, wipeE, e, kD], ?_, by simp [wipeE]⟩
        simp [noX, runD, dSeq, dIfS, dRet, retv, dAsg, stv, dVar, dC, dOp, dUn, dCB, dCall, callE, frzN, entOf, plIx, putE, mB, L3.ret, pk, peek, pks, peeks, lft, frz, frzs, dCons, dNil, dAndV, dOrV, dNotV, dAnd, dOr, dNot, dIf, dBool, dTru, truD, dChain, cIsi, tyNm, isTy, dataTy, tysOf, anyTy, cLen, cmpD, addD, subD, dNext, backE, dLst, dTup, dDrop, ixD, h5]
      have q3 : Q_parts_of_3 (G_is_plain k) (G_is_word k) (G_parts_of k) [.fz (.dic ks), .fz (.int kd), .no, .ow (.lst (ks.map fun p => p.2)), .no, .no] = .ok (.ow (.lst ((ks.map fun p => p.2).map fun d => .int (cntW d)))) [.fz (.dic ks), .fz (.int kd), .no, .fz (.lst (ks.map fun p => p.2)), .no, .no] := by
        refine lc_map (ds := ks.map fun p => p.2) (fun d => .int (cntW d)) (ei := [.fz (.dic ks), .fz (.int kd), .no, .fz (.lst (ks.map fun p => p.2)), .no, .no]) rfl (by rw [List.length_map]; omega) fun c hcd => ?_
        obtain ⟨p, hp, rfl⟩ := List.mem_map.mp hcd
        have := cntk_mem hp
        have h4 := ih k p.2 (kd - 1) (by omega) (hw' p hp).2 (by omega) (by omega)
        refine ⟨[.fz (.dic ks), .fz (.int kd), .no, .fz (.lst (ks.map fun p => p.2)), .no, .fz p.2], [.fz (.dic ks), .fz (.int kd), .no, .fz (.lst (ks.map fun p => p.2)), .no, .fz p.2], by simp [gtN, wipeE], ?_, by simp [wipeE]⟩
        simp [noX, runD, dSeq, dIfS, dRet, retv, dAsg, stv, dVar, dC, dOp, dUn, dCB, dCall, callE, frzN, entOf, plIx, putE, mB, L3.ret, pk, peek, pks, peeks, lft, frz, frzs, dCons, dNil, dAndV, dOrV, dNotV, dAnd, dOr, dNot, dIf, dBool, dTru, truD, dChain, cIsi, tyNm, isTy, dataTy, tysOf, anyTy, cLen, cmpD, addD, subD, dNext, backE, dLst, dTup, dDrop, hkd', h4]
      have e1 := in_counts cntW (ks.map fun p => p.2)
      have e2 := sum_counts cntW (ks.map fun p => p.2)
      have e3 := all_true ks
      rw [List.map_map] at q3 e1 e2
      rw [List.map_map] at e2
      simp only [Function.comp_def] at q3 e1 e2
      simp [m_parts_of, runD, dSeq, dIfS, dRet, retv, dAsg, stv, dVar, dC, dOp, dUn, dCB, dCall, callE, frzN, entOf, plIx, putE, mB, L3.ret, pk, peek, pks, peeks, lft, frz, frzs, dCons, dNil, dAndV, dOrV, dNotV, dAnd, dOr, dNot, dIf, dBool, dTru, truD, dChain, cIsi, tyNm, isTy, dataTy, tysOf, anyTy, cLen, cmpD, addD, subD, dNext, backE, dLst, dTup, dDrop, hp, plainB, eqD, depLe, eqO, hkd, q1, q2, q3, h60, e3, e1, e2, cntW, cntk_map, Function.comp_def]
    | int i =>
      have e : okI i = true := hw
      simp [m_parts_of, runD, dSeq, dIfS, dRet, retv, dAsg, stv, dVar, dC, dOp, dUn, dCB, dCall, callE, frzN, entOf, plIx, putE, mB, L3.ret, pk, peek, pks, peeks, lft, frz, frzs, dCons, dNil, dAndV, dOrV, dNotV, dAnd, dOr, dNot, dIf, dBool, dTru, truD, dChain, cIsi, tyNm, isTy, dataTy, tysOf, anyTy, cLen, cmpD, addD, subD, dNext, backE, dLst, dTup, dDrop, hp, plainB, e, cntW]
    | str i =>
      have e : okS i = true := hw
      simp [m_parts_of, runD, dSeq, dIfS, dRet, retv, dAsg, stv, dVar, dC, dOp, dUn, dCB, dCall, callE, frzN, entOf, plIx, putE, mB, L3.ret, pk, peek, pks, peeks, lft, frz, frzs, dCons, dNil, dAndV, dOrV, dNotV, dAnd, dOr, dNot, dIf, dBool, dTru, truD, dChain, cIsi, tyNm, isTy, dataTy, tysOf, anyTy, cLen, cmpD, addD, subD, dNext, backE, dLst, dTup, dDrop, hp, plainB, e, cntW]
    | _ => cases hw
theorem look_ok {n m : Nat} {d : D} (hn : 10 ≤ n) (hw : okW m d = true) (hm : m ≤ 6) (hc : cntW d ≤ 60) : G_look_worth n [.fz d] = .ok (.fz .non) [.fz d] := by
  obtain ⟨k, rfl, hn'⟩ := up1 (m := 9) (by omega)
  have h := parts_ok m k d 6 (by omega) hw hm hc
  have h60 : ¬ (60 : Int) < cntW d := by omega
  show runD _ _ _ _ _ = _
  have h' : G_parts_of k [.fz d, .fz (.int 6)] = .ok (.fz (.int (cntW d))) [.fz d, .fz (.int 6)] := h
  simp [m_look_worth, runD, dSeq, dIfS, dRet, retv, dAsg, stv, dVar, dC, dOp, dUn, dCB, dCall, callE, frzN, entOf, plIx, putE, mB, L3.ret, pk, peek, pks, peeks, lft, frz, frzs, dCons, dNil, dAndV, dOrV, dNotV, dAnd, dOr, dNot, dIf, dBool, dTru, truD, dChain, cIsi, tyNm, isTy, dataTy, tysOf, anyTy, cLen, cmpD, addD, subD, dNext, backE, dLst, dTup, dDrop, isND, isNonD, h', h60]
end LP
end S_Pb
section S_Pc
set_option maxHeartbeats 0
namespace LP
open PySem PySem.Spec PyProof.Rows L2 L3
--BEGIN
/-- what copied tells: a list, a dict of its own -/
def cpV : D → Vl
  | .lst ds => .ow (.lst ds)
  | .dic ks => .ow (.dic ks)
  | d => .fz d
theorem frz_cp (d : D) (e : En) : frz (cpV d) e = .ok d e := by cases d <;> rfl
theorem pk_cp (d : D) (e : En) : pk (cpV d) e = .ok d e := by cases d <;> rfl
theorem prs_map : ∀ ks : List (Key × D), prsOf (ks.map fun p => .tup [kD p.1, p.2]) = some ks
  | [] => rfl
  | (k, d) :: r => by
    have h : keyOf (kD k) = some k := by cases k <;> rfl
    simp only [List.map_cons, prsOf, h, prs_map r]
theorem putG_new {κ α : Type} [DecidableEq κ] : ∀ {ks : List (κ × α)} {k : κ} {a : α}, k ∉ ks.map (·.1) → putG ks k a = ks ++ [(k, a)]
  | [], k, a, _ => rfl
  | (x, b) :: r, k, a, h => by
    have h' : ¬ k = x ∧ k ∉ r.map (·.1) := by simpa using h
    unfold putG
    rw [if_neg fun z => h'.1 z.symm, putG_new h'.2]; rfl
theorem merge_app : ∀ (more ks : List (Key × D)), ((ks ++ more).map (·.1)).Nodup → mergeD ks more = ks ++ more
  | [], ks, _ => by simp [mergeD]
  | (k, d) :: r, ks, h => by
    have hk : k ∉ ks.map (·.1) := by
      rw [List.map_append, List.nodup_append] at h
      intro z
      exact h.2.2 k z k (by simp) rfl
    show mergeD (putG ks k d) r = _
    rw [putG_new hk, merge_app r (ks ++ [(k, d)]) (by rw [List.append_assoc]; exact h), List.append_assoc]; rfl
theorem merge_self {ks : List (Key × D)} (h : (ks.map (·.1)).Nodup) : mergeD [] ks = ks := merge_app ks [] h
theorem dict_pairs {ks : List (Key × D)} (h : (ks.map (·.1)).Nodup) : cDict [.lst (ks.map fun p => .tup [kD p.1, p.2])] = some (.ow (.dic ks)) := by simp [cDict, prs_map, merge_self h]
/-- no list, no dict of more than so many -/
def lim (d : D) : Prop := cntW d ≤ 16777216
theorem copied_ok : ∀ (m n : Nat) (d : D), m + 1 ≤ n → okW m d = true → cntW d ≤ 16777216 → G_copied n [.fz d] = .ok (cpV d) [.fz d] := by
  intro m
  induction m with
  | zero =>
    intro n d hn hw hc
    obtain ⟨k, rfl, _⟩ := up1 hn
    show runD _ _ _ _ _ = _
    cases d <;> first | cases hw | (simp [m_copied, runD, dSeq, dIfS, dRet, retv, dAsg, stv, dVar, dC, dOp, dUn, dCB, dCall, callE, frzN, entOf, plIx, putE, mB, L3.ret, pk, peek, pks, peeks, lft, frz, frzs, dCons, dNil, dAndV, dOrV, dNotV, dAnd, dOr, dNot, dIf, dBool, dTru, truD, dChain, cIsi, tyNm, isTy, dataTy, tysOf, anyTy, cLen, cmpD, addD, subD, dNext, backE, dLst, dTup, dDrop, cpV])
  | succ m ih =>
    intro n d hn hw hc
    obtain ⟨k, rfl, hk⟩ := up1 hn
    show runD _ _ _ _ _ = _
    cases d with
    | lst ds =>
      have hw' := okW_lst.mp hw
      have hl := cnts_len ds
      have hc' : 1 + cnts ds ≤ 16777216 := hc
      have q1 : Q_copied_1 (G_copied k) [.fz (.lst ds), .no, .no] = .ok (.ow (.lst (ds.map fun d => d))) [.fz (.lst ds), .no, .no] := by
        refine lc_map (ds := ds) (fun d => d) (ei := [.fz (.lst ds), .no, .no]) rfl (by omega) fun c hcd => ?_
        have := cnts_mem hcd
        have h4 := ih k c hk (hw' c hcd) (by omega)
        refine ⟨[.fz (.lst ds), .fz c, .no], [.fz (.lst ds), .fz c, .no], by simp [gtN, wipeE], ?_, by simp [wipeE]⟩
        have h5 : dCall [] 1 (G_copied k) (dCons (dVar 1) dNil) [.fz (.lst ds), .fz c, .no] = .ok (cpV c) [.fz (.lst ds), .fz c, .no] := by simp [runD, dSeq, dIfS, dRet, retv, dAsg, stv, dVar, dC, dOp, dUn, dCB, dCall, callE, frzN, entOf, plIx, putE, mB, L3.ret, pk, peek, pks, peeks, lft, frz, frzs, dCons, dNil, dAndV, dOrV, dNotV, dAnd, dOr, dNot, dIf, dBool, dTru, truD, dChain, cIsi, tyNm, isTy, dataTy, tysOf, anyTy, cLen, cmpD, addD, subD, dNext, backE, dLst, dTup, dDrop, h4]
        rw [mB_ok (show noX _ _ = Out.ok (cpV c) [.fz (.lst ds), .fz c, .no] by unfold noX; rw [h5])]
        exact frz_cp _ _
      rw [List.map_id'] at q1
      simp [m_copied, runD, dSeq, dIfS, dRet, retv, dAsg, stv, dVar, dC, dOp, dUn, dCB, dCall, callE, frzN, entOf, plIx, putE, mB, L3.ret, pk, peek, pks, peeks, lft, frz, frzs, dCons, dNil, dAndV, dOrV, dNotV, dAnd, dOr, dNot, dIf, dBool, dTru, truD, dChain, cIsi, tyNm, isTy, dataTy, tysOf, anyTy, cLen, cmpD, addD, subD, dNext, backE, dLst, dTup, dDrop, q1, cpV]
    | dic ks =>
      obtain ⟨hw', nd⟩ := okW_dic.mp hw
      have hl := cntk_len ks
      have hc' : 1 + cntk ks ≤ 16777216 := hc
      have q2 : Q_copied_2 (G_copied k) [.fz (.dic ks), .no, .no] = .ok (.ow (.lst (ks.map fun p => .tup [kD p.1, p.2]))) [.fz (.dic ks), .no, .no] := by
        refine lcK_map (fun p => .tup [kD p.1, p.2]) rfl (by omega) (fun p hp => ?_) nd
        obtain ⟨s, e, hs⟩ := okK_str (hw' p hp).1
        have h5 : gV ks (Sum.inr s) = some p.2 := gV_of nd (by rw [← e]; exact hp)
        have := cntk_mem hp
        have h4 := ih k p.2 hk (hw' p hp).2 (by omega)
        have h6 := frz_cp p.2
        refine ⟨[.fz (.dic ks), .no, .fz (.str s)], [.fz (.dic ks), .no, .fz (.str s)], by simp [gtN, wipeE, e, kD], ?_, by simp [wipeE]⟩
        have h7 : dCall [] 1 (G_copied k) (dCons (dOp ixD (dVar 0) (dVar 2)) dNil) [.fz (.dic ks), .no, .fz (.str s)] = .ok (cpV p.2) [.fz (.dic ks), .no, .fz (.str s)] :=
          call_ok (cons_ok (op_ok (r := .fz p.2) (var_ok rfl) (var_ok rfl) rfl rfl (by simp [ixD, h5])) nil_ok) (frzs_ok rfl frzs_nil) rfl h4
        rw [e]
        exact el_ok (tup_ok (cons_ok (var_ok rfl) (cons_ok h7 nil_ok)) (frzs_ok (frz_pl rfl) (frzs_ok (h6 _) frzs_nil)) (by simp)) rfl
      simp [m_copied, runD, dSeq, dIfS, dRet, retv, dAsg, stv, dVar, dC, dOp, dUn, dCB, dCall, callE, frzN, entOf, plIx, putE, mB, L3.ret, pk, peek, pks, peeks, lft, frz, frzs, dCons, dNil, dAndV, dOrV, dNotV, dAnd, dOr, dNot, dIf, dBool, dTru, truD, dChain, cIsi, tyNm, isTy, dataTy, tysOf, anyTy, cLen, cmpD, addD, subD, dNext, backE, dLst, dTup, dDrop, q2, cpV, dict_pairs nd]
    | int i => simp [m_copied, runD, dSeq, dIfS, dRet, retv, dAsg, stv, dVar, dC, dOp, dUn, dCB, dCall, callE, frzN, entOf, plIx, putE, mB, L3.ret, pk, peek, pks, peeks, lft, frz, frzs, dCons, dNil, dAndV, dOrV, dNotV, dAnd, dOr, dNot, dIf, dBool, dTru, truD, dChain, cIsi, tyNm, isTy, dataTy, tysOf, anyTy, cLen, cmpD, addD, subD, dNext, backE, dLst, dTup, dDrop, cpV]
    | str i => simp [m_copied, runD, dSeq, dIfS, dRet, retv, dAsg, stv, dVar, dC, dOp, dUn, dCB, dCall, callE, frzN, entOf, plIx, putE, mB, L3.ret, pk, peek, pks, peeks, lft, frz, frzs, dCons, dNil, dAndV, dOrV, dNotV, dAnd, dOr, dNot, dIf, dBool, dTru, truD, dChain, cIsi, tyNm, isTy, dataTy, tysOf, anyTy, cLen, cmpD, addD, subD, dNext, backE, dLst, dTup, dDrop, cpV]
    | _ => cases hw
/-- the steps within, with what stands there -/
def kidsD (d : D) : List D := (kids d).map fun q => .tup [q.1, q.2]
theorem rg_enD : ∀ (ds pre : List D), (rgD (pre.length : Int) ds.length).map (fun d => D.tup [d, match d with | .int i => (pre ++ ds).getD i.toNat .non | _ => .non]) = enD pre.length ds
  | [], pre => by simp [rgD, enD]
  | d :: ds, pre => by
    have ih := rg_enD ds (pre ++ [d])
    have e : rgD (pre.length : Int) (d :: ds).length = .int (pre.length : Int) :: rgD ((pre ++ [d]).length : Int) ds.length := by
      unfold rgD
      rw [List.length_cons, List.range_succ_eq_map, List.map_cons, List.map_map]
      have e1 : D.int ((pre.length : Int) + ((0 : Nat) : Int)) = .int (pre.length : Int) := by simp
      rw [e1]
      congr 1
      refine List.map_congr_left fun i _ => ?_
      have e2 : (pre.length : Int) + ((i + 1 : Nat) : Int) = ((pre ++ [d]).length : Int) + (i : Int) := by simp only [List.length_append, List.length_singleton]; omega
      show D.int ((pre.length : Int) + ((i + 1 : Nat) : Int)) = _
      rw [e2]
    rw [e, List.map_cons]
    show _ = D.tup [.int (pre.length : Int), d] :: enD (pre.length + 1) ds
    rw [show pre.length + 1 = (pre ++ [d]).length by simp, ← ih]
    congr 1
    · simp
    · simp
theorem q_inside {ds : List D} (hl : ds.length ≤ 16777215) : Q_inside_1 [.fz (.lst ds), .no, .no] = .ok (.ow (.lst (kidsD (.lst ds)))) [.fz (.lst ds), .no, .no] := by
  have e : kidsD (.lst ds) = (rgD 0 ds.length).map (fun d => D.tup [d, match d with | .int i => ds.getD i.toNat .non | _ => .non]) := by
    have := rg_enD ds []
    rw [List.nil_append] at this
    show (enP 0 ds).map _ = _
    rw [enP_map]
    exact this.symm
  rw [e]
  refine lc_map (ds := rgD 0 ds.length) _ (ei := [.fz (.lst ds), .no, .no]) ?_ (by simp [rgD]; omega) fun c hcd => ?_
  · exact rg1_ok (cons_ok (cb_ok (cons_ok (var_ok rfl) nil_ok) rfl rfl) nil_ok) rfl (by omega)
  · obtain ⟨i, hi, rfl⟩ := List.mem_map.mp (show c ∈ (List.range ds.length).map fun (i : Nat) => D.int (0 + (i : Int)) from hcd)
    have hi' : i < ds.length := by simpa using hi
    refine ⟨[.fz (.lst ds), .fz (.int (0 + (i : Int))), .no], [.fz (.lst ds), .fz (.int (0 + (i : Int))), .no], by simp [gtN, wipeE], ?_, by simp [wipeE]⟩
    have h2 : L2.atI ds (0 + (i : Int)) = some ds[i] := by
      rw [Int.zero_add]
      exact atI_nat (List.getElem?_eq_getElem hi')
    have h3 : ds.getD (0 + (i : Int)).toNat .non = ds[i] := by
      rw [Int.zero_add, Int.toNat_natCast, List.getD_eq_getElem?_getD, List.getElem?_eq_getElem hi']; rfl
    show mB (noX (dTup (dCons (dVar 1) (dCons (dOp ixD (dVar 0) (dVar 1)) dNil)))) frz _ = _
    refine el_ok (tup_ok (cons_ok (var_ok rfl) (cons_ok (op_ok (r := .fz ds[i]) (var_ok rfl) (var_ok rfl) rfl rfl (by show (L2.atI ds (0 + (i : Int))).map Vl.fz = _; rw [h2]; rfl)) nil_ok)) (frzs_ok (frz_pl rfl) (frzs_ok rfl frzs_nil)) (by simp)) ?_
    show Out.ok (D.tup [.int (0 + (i : Int)), ds[i]]) _ = Out.ok (D.tup [.int (0 + (i : Int)), ds.getD (0 + (i : Int)).toNat .non]) _
    rw [h3]
theorem inside_ok {n m : Nat} {d : D} (hn : 1 ≤ n) (hw : okW m d = true) (hc : cntW d ≤ 16777216) : G_inside n [.fz d] = .ok (.ow (.lst (kidsD d))) [.fz d] := by
  obtain ⟨k, rfl, _⟩ := up1 hn
  show runD [] 1 3 m_inside [.fz d] = _
  refine run0 (e0 := [.fz d, .no, .no]) (e := [.fz d, .no, .no]) rfl ?_
  unfold m_inside
  cases d with
  | lst ds =>
    have hl := cnts_len ds
    have hc' : 1 + cnts ds ≤ 16777216 := hc
    have q1 := q_inside (ds := ds) (by omega)
    refine seq_rt ?_
    rw [ifs_t (isi_ok (d := .lst ds) rfl rfl ty_ll)]
    exact ret_ow q1
  | dic ks =>
    cases m with
    | zero => cases hw
    | succ m =>
      obtain ⟨hw', nd⟩ := okW_dic.mp hw
      have hl := cntk_len ks
      have hc' : 1 + cntk ks ≤ 16777216 := hc
      have q2 : Q_inside_2 [.fz (.dic ks), .no, .no] = .ok (.ow (.lst (kidsD (.dic ks)))) [.fz (.dic ks), .no, .no] := by
        have e : kidsD (.dic ks) = ks.map fun p => .tup [kD p.1, p.2] := by simp [kidsD, kids]
        rw [e]
        refine lcK_map (fun p => .tup [kD p.1, p.2]) rfl (by omega) (fun p hp => ?_) nd
        obtain ⟨s, e, hs⟩ := okK_str (hw' p hp).1
        have h5 : gV ks (Sum.inr s) = some p.2 := gV_of nd (by rw [← e]; exact hp)
        refine ⟨[.fz (.dic ks), .no, .fz (.str s)], [.fz (.dic ks), .no, .fz (.str s)], by simp [gtN, wipeE, e, kD], ?_, by simp [wipeE]⟩
        rw [e]
        exact el_ok (tup_ok (cons_ok (var_ok rfl) (cons_ok (op_ok (r := .fz p.2) (var_ok rfl) (var_ok rfl) rfl rfl (by simp [ixD, h5])) nil_ok)) (frzs_ok (frz_pl rfl) (frzs_ok rfl frzs_nil)) (by simp)) rfl
      rw [seq_nx (e1 := [.fz (.dic ks), .no, .no]) (by rw [ifs_f (isi_ok (d := .dic ks) rfl rfl ty_dl)]; rfl)]
      refine ret_ow ?_
      rw [if_t (isi_ok (d := .dic ks) rfl rfl ty_dd)]
      exact q2
  | int i =>
    rw [seq_nx (e1 := [.fz (.int i), .no, .no]) (by rw [ifs_f (isi_ok (d := .int i) rfl rfl ty_il)]; rfl)]
    refine ret_ow ?_
    rw [if_f (isi_ok (d := .int i) rfl rfl ty_id)]
    exact lst_ok nil_ok frzs_nil (Nat.zero_le _)
  | str i =>
    rw [seq_nx (e1 := [.fz (.str i), .no, .no]) (by rw [ifs_f (isi_ok (d := .str i) rfl rfl ty_sl)]; rfl)]
    refine ret_ow ?_
    rw [if_f (isi_ok (d := .str i) rfl rfl ty_sd)]
    exact lst_ok nil_ok frzs_nil (Nat.zero_le _)
  | _ => cases m <;> cases hw
end LP
end S_Pc
section S_Pd
set_option maxHeartbeats 0
namespace LP
open PySem PySem.Spec PyProof.Rows L2 L3
--BEGIN
theorem atI_int {α : Type} {xs : List α} {i : Int} {v : α} (hi : 0 ≤ i) (h : xs[i.toNat]? = some v) : L2.atI xs i = some v := by
  have := atI_nat (j := i.toNat) h
  rwa [Int.toNat_of_nonneg hi] at this
theorem gled_ok {n m : Nat} {d x : D} {p : List D} (hn : 2 ≤ n) (hw : okW m d = true) (hl : ledF d p = some x) : G_led n [.fz d, .fz (.tup p)] = .ok (.fz x) [.fz d, .fz (.tup p)] := by
  obtain ⟨k, rfl, hk⟩ := up1 hn
  show runD [] 2 3 (m_led (G_is_whole k) (G_is_word k)) [.fz d, .fz (.tup p)] = _
  obtain ⟨e', h1, c, s, m', rfl, hc, hx⟩ := for_inv (fg := [2]) (mi := dIt (dVar 1)) (tgt := gtN 2) (mb := (dSeq (dIfS (dTru (mIsi 0 "list")) (dIfS (dNot (dTru (dCall [] 3 (G_is_whole k) (dCons (dVar 2) (dCons (dC (.int 0)) (dCons (dOp subD (dCB cLen (dCons (dVar 0) dNil)) (dC (.int 1))) dNil)))))) (dRaise .path) dNext) (dIfS (dOr (dNot (dTru (mIsi 0 "dict"))) (dOr (dNot (dTru (dCall [] 1 (G_is_word k) (dCons (dVar 2) dNil)))) (dBool (dOp (inD true) (dVar 2) (dVar 0))))) (dRaise .path) dNext))
    (dAsg 0 (dOp ixD (dVar 0) (dVar 2))))) (e := [.fz d, .fz (.tup p), .no]) (ei := [.fz d, .fz (.tup p), .no]) (ds := p) (fun r e => ∃ c s m', e = [.fz c, .fz (.tup p), s] ∧ okW m' c = true ∧ ledF c r = some x)
    (it_ok (var_ok rfl) (frz_pl rfl) rfl) ⟨d, .no, m, rfl, hw, hl⟩ (by
      rintro s r e ⟨c, s0, m', rfl, hc, hx⟩
      rcases led_cons hx with ⟨ds, i, c', rfl, rfl, hi, hc', hl'⟩ | ⟨ks, key, c', rfl, rfl, hc', hl'⟩
      · have hlt : i.toNat < ds.length := (List.getElem?_eq_some_iff.mp hc').1
        obtain ⟨m2, rfl, hw2⟩ := kid_ok hc (show kid (.lst ds) (.int i) = some c' by rw [kid_lst hi]; exact hc')
        refine ⟨[.fz (.lst ds), .fz (.tup p), .fz (.int i)], [.fz c', .fz (.tup p), .fz (.int i)], rfl, .inl ?_, c', .fz (.int i), m2, rfl, hw2, hl'⟩
        have hb : (decide ((0 : Int) ≤ i) && decide (i ≤ (ds.length : Int) - 1)) = true := by
          rw [decide_eq_true hi, decide_eq_true (by omega)]; rfl
        have h2 := is_whole_int hk i 0 ((ds.length : Int) - 1)
        rw [hb] at h2
        refine (seq_nx (e1 := [.fz (.lst ds), .fz (.tup p), .fz (.int i)]) ?_).trans ?_
        · refine (ifs_t (isi_ok (d := .lst ds) rfl rfl ty_ll)).trans ?_
          refine (ifs_f (e1 := [.fz (.lst ds), .fz (.tup p), .fz (.int i)]) ?_).trans rfl
          refine not_ok (b := true) (tru_ok (x := .fz (.bl true)) (d := .bl true) ?_ rfl rfl)
          refine call_ok (ds := [.int i, .int 0, .int ((ds.length : Int) - 1)]) (cons_ok (var_ok rfl) (cons_ok rfl (cons_ok (op_ok (r := .fz (.int ((ds.length : Int) - 1))) (a := .int ds.length) (b := .int 1) (cb_ok (ds := [.lst ds]) (cons_ok (var_ok rfl) nil_ok) rfl rfl) rfl rfl rfl rfl) nil_ok))) (frzs_ok (frz_pl rfl) (frzs_ok rfl (frzs_ok rfl frzs_nil))) rfl h2
        exact asg_fz (op_ok (r := .fz c') (a := .lst ds) (b := .int i) (var_ok rfl) (var_ok rfl) rfl rfl (by show (L2.atI ds i).map Vl.fz = _; rw [atI_int hi hc']; rfl))
      · obtain ⟨m2, rfl, hw2⟩ := kid_ok hc (show kid (.dic ks) (.str key) = some c' from hc')
        have hkk : okS key = true := ((okW_dic.mp hc).1 _ (gV_some hc')).1
        refine ⟨[.fz (.dic ks), .fz (.tup p), .fz (.str key)], [.fz c', .fz (.tup p), .fz (.str key)], rfl, .inl ?_, c', .fz (.str key), m2, rfl, hw2, hl'⟩
        have h2 := is_word_str hk key (okS_len hkk)
        rw [hkk] at h2
        refine (seq_nx (e1 := [.fz (.dic ks), .fz (.tup p), .fz (.str key)]) ?_).trans ?_
        · refine (ifs_f (isi_ok (d := .dic ks) rfl rfl ty_dl)).trans ?_
          refine (ifs_f (e1 := [.fz (.dic ks), .fz (.tup p), .fz (.str key)]) ?_).trans rfl
          refine (or_f (not_ok (b := true) (isi_ok (d := .dic ks) rfl rfl ty_dd))).trans ?_
          refine (or_f (e1 := [.fz (.dic ks), .fz (.tup p), .fz (.str key)]) (not_ok (b := true) (tru_ok (x := .fz (.bl true)) (d := .bl true) ?_ rfl rfl))).trans ?_
          · exact call_ok (ds := [.str key]) (cons_ok (var_ok rfl) nil_ok) (frzs_ok (frz_pl rfl) frzs_nil) rfl h2
          · exact bool_ok (op_ok (r := .fz (.bl false)) (a := .str key) (b := .dic ks) (var_ok rfl) (var_ok rfl) rfl rfl (by simp [inD, hc'])) rfl
        exact asg_fz (op_ok (r := .fz c') (a := .dic ks) (b := .str key) (var_ok rfl) (var_ok rfl) rfl rfl (by simp [ixD, hc'])))
  have ex : c = x := by simpa [ledF] using hx
  subst ex
  refine run0 (e0 := [.fz d, .fz (.tup p), .no]) (e := [.fz c, .fz (.tup p), .no]) rfl ?_
  unfold m_led Q_led_1
  refine (seq_nx h1).trans ?_
  exact ret_pl (var_ok rfl) rfl
theorem look_path_ok {n : Nat} {p : List D} (hn : 1 ≤ n) : G_look_path n [.fz (.tup p)] = .ok (.fz .non) [.fz (.tup p)] := by
  obtain ⟨k, rfl, hk⟩ := up1 hn
  show runD [] 1 1 m_look_path [.fz (.tup p)] = _
  refine run0n (e0 := [.fz (.tup p)]) (e := [.fz (.tup p)]) rfl ?_
  unfold m_look_path
  rw [ifs_f (not_ok (b := true) (isi_ok (d := .tup p) rfl rfl ty_tt))]
  rfl
theorem at_ok {n m : Nat} {d x : D} {p : List D} (hn : 11 ≤ n) (hw : okW m d = true) (hm : m ≤ 6) (hc : cntW d ≤ 60) (hl : ledF d p = some x) : G_at n [.fz d, .fz (.tup p)] = .ok (cpV x) [.fz d, .fz (.tup p)] := by
  obtain ⟨k, rfl, hk⟩ := up1 hn
  show runD [] 2 2 (m_at (G_look_worth k) (G_look_path k) (G_led k) (G_copied k)) [.fz d, .fz (.tup p)] = _
  obtain ⟨hx1, hx2⟩ := led_ok hw hl
  have h1 := look_ok hk hw hm hc
  have h2 := look_path_ok (n := k) (p := p) (by omega)
  have h3 := gled_ok (n := k) (by omega) hw hl
  have h4 := copied_ok m k x (by omega) hx1 (by omega)
  have fin : ∃ e, dRet [] (dCall [] 1 (G_copied k) (dCons (dCall [] 2 (G_led k) (dCons (dVar 0) (dCons (dVar 1) dNil))) dNil)) [.fz d, .fz (.tup p)] = .ok (.rt (cpV x)) e := by
    have h5 : dCall [] 1 (G_copied k) (dCons (dCall [] 2 (G_led k) (dCons (dVar 0) (dCons (dVar 1) dNil))) dNil) [.fz d, .fz (.tup p)] = .ok (cpV x) [.fz d, .fz (.tup p)] :=
      call_ok (ds := [x]) (cons_ok (call_ok (ds := [d, .tup p]) (cons_ok (var_ok rfl) (cons_ok (var_ok rfl) nil_ok)) (frzs_ok (frz_pl rfl) (frzs_ok (frz_pl rfl) frzs_nil)) rfl h3) nil_ok) (frzs_ok rfl frzs_nil) rfl h4
    cases x <;> first | exact ⟨_, ret_fz h5⟩ | exact ⟨_, ret_ow h5⟩
  obtain ⟨e, fin⟩ := fin
  refine run0 (e0 := [.fz d, .fz (.tup p)]) (e := e) rfl ?_
  unfold m_at
  refine (seq_nx (e1 := [.fz d, .fz (.tup p)]) (drop_ok (x := .fz .non) ?_)).trans ?_
  · exact call_ok (ds := [d]) (cons_ok (var_ok rfl) nil_ok) (frzs_ok (frz_pl rfl) frzs_nil) rfl h1
  refine (seq_nx (e1 := [.fz d, .fz (.tup p)]) (drop_ok (x := .fz .non) ?_)).trans ?_
  · exact call_ok (ds := [.tup p]) (cons_ok (var_ok rfl) nil_ok) (frzs_ok (frz_pl rfl) frzs_nil) rfl h2
  exact fin
theorem flat_len_le {α : Type} (f : D × D → List α) : ∀ {a b : List (D × D)}, (a.flatMap f).length ≤ ((a ++ b).flatMap f).length
  | a, b => by rw [List.flatMap_append, List.length_append]; omega
theorem all_paths_ok : ∀ (m n : Nat) (d : D), m + 2 ≤ n → okW m d = true → cntW d ≤ 1000 → G_all_paths n [.fz d] = .ok (.ow (.lst ((rowsF m d).map fun r => .tup r.1))) [.fz d] := by
  intro m
  induction m with
  | zero =>
    intro n d hn hw hc
    obtain ⟨k, rfl, hk⟩ := up1 hn
    show runD [] 1 5 (m_all_paths (G_all_paths k) (G_inside k)) [.fz d] = _
    have h1 := inside_ok (n := k) (by omega) hw (by omega)
    have e0 : kidsD d = [] := by cases d <;> first | rfl | cases hw
    rw [e0] at h1
    refine run0 (e0 := [.fz d, .no, .no, .no, .no]) (e := [.fz d, .no, .no, .no, .no]) rfl ?_
    unfold m_all_paths
    refine (seq_nx (e1 := [.fz d, .ow (.lst [.tup []]), .no, .no, .no]) ?_).trans ?_
    · exact asg_ow (lst_ok (ds := [.tup []]) (cons_ok (tup_ok (ds := []) nil_ok frzs_nil (Nat.zero_le _)) nil_ok) (frzs_ok rfl frzs_nil) (by simp))
    refine (seq_nx (e1 := [.fz d, .ow (.lst [.tup []]), .no, .no, .no]) ?_).trans ?_
    · unfold Q_all_paths_2 dFor
      refine (mB_ok (a := []) (e1 := [.fz d, .ow (.lst [.tup []]), .no, .no, .no]) ?_).trans rfl
      exact it_ok (ds := []) (call_ok (ds := [d]) (cons_ok (var_ok rfl) nil_ok) (frzs_ok (frz_pl rfl) frzs_nil) rfl h1) rfl rfl
    · rfl
  | succ m ih =>
    intro n d hn hw hc
    obtain ⟨k, rfl, hk⟩ := up1 hn
    show runD [] 1 5 (m_all_paths (G_all_paths k) (G_inside k)) [.fz d] = _
    have h1 := inside_ok (n := k) (by omega) hw (by omega)
    have hlen := rows_len hw
    obtain ⟨e', h2, q1, q2, s2, s3, hq, hr, rfl⟩ := for_inv (fg := [2, 3]) (mi := dIt (dCall [] 1 (G_inside k) (dCons (dVar 0) dNil))) (tgt := gtU [2, 3]) (mb := dDrop (dExt 1 (Q_all_paths_1 (G_all_paths k) (G_inside k)))) (e := [.fz d, .ow (.lst [.tup []]), .no, .no, .no]) (ei := [.fz d, .ow (.lst [.tup []]), .no, .no, .no]) (ds := kidsD d)
      (fun r e => ∃ q1 q2 s2 s3, kids d = q1 ++ q2 ∧ r = q2.map (fun q => .tup [q.1, q.2]) ∧ e = [.fz d, .ow (.lst (.tup [] :: q1.flatMap fun q => (rowsF m q.2).map fun r => .tup (q.1 :: r.1))), s2, s3, .no])
      (it_ok (ds := kidsD d) (call_ok (ds := [d]) (cons_ok (var_ok rfl) nil_ok) (frzs_ok (frz_pl rfl) frzs_nil) rfl h1) rfl rfl) ⟨[], kids d, .no, .no, rfl, rfl, rfl⟩ (by
        rintro y r e ⟨q1, q2, s2, s3, hq, hr, rfl⟩
        cases q2 with
        | nil => cases hr
        | cons q q2 =>
          rw [List.map_cons] at hr
          cases hr
          have hqk : q ∈ kids d := by rw [hq]; simp
          have hkid := kid_of hw (s := q.1) (c := q.2) hqk
          obtain ⟨m2, e2, hw2⟩ := kid_ok hw hkid
          cases e2
          have hcnt := kid_cnt hkid
          have h3 := ih k q.2 (by omega) hw2 (by omega)
          have hl2 := rows_len hw2
          have hfl := flat_len_le (fun q => (rowsF m q.2).map fun r => (q.1 :: r.1, r.2)) (a := q1 ++ [q]) (b := q2)
          have hall : (rowsF (m + 1) d).length = ((q1 ++ [q] ++ q2).flatMap fun q => (rowsF m q.2).map fun r => (q.1 :: r.1, r.2)).length + 1 := by
            show ((kids d).flatMap _).length + 1 = _
            rw [hq, List.append_assoc]; rfl
          refine ⟨[.fz d, .ow (.lst (.tup [] :: q1.flatMap fun q => (rowsF m q.2).map fun r => .tup (q.1 :: r.1))), .fz q.1, .fz q.2, .no], [.fz d, .ow (.lst (.tup [] :: (q1 ++ [q]).flatMap fun q => (rowsF m q.2).map fun r => .tup (q.1 :: r.1))), .fz q.1, .fz q.2, .no], rfl, .inl ?_, q1 ++ [q], q2, .fz q.1, .fz q.2, by rw [hq, List.append_assoc]; rfl, rfl, rfl⟩
          refine drop_ok (x := .fz .non) ?_
          have h4 : Q_all_paths_1 (G_all_paths k) (G_inside k) [.fz d, .ow (.lst (.tup [] :: q1.flatMap fun q => (rowsF m q.2).map fun r => .tup (q.1 :: r.1))), .fz q.1, .fz q.2, .no] = .ok (.ow (.lst (((rowsF m q.2).map fun r => D.tup r.1).map fun d => match d with | .tup t => .tup (q.1 :: t) | d => d))) [.fz d, .ow (.lst (.tup [] :: q1.flatMap fun q => (rowsF m q.2).map fun r => .tup (q.1 :: r.1))), .fz q.1, .fz q.2, .no] := by
            refine lc_map (ds := (rowsF m q.2).map fun r => D.tup r.1) _ (ei := [.fz d, .ow (.lst (.tup [] :: q1.flatMap fun q => (rowsF m q.2).map fun r => .tup (q.1 :: r.1))), .fz q.1, .fz q.2, .no]) ?_ (by rw [List.length_map, hl2]; omega) fun c hcd => ?_
            · exact it_ok (call_ok (ds := [q.2]) (cons_ok (var_ok rfl) nil_ok) (frzs_ok (frz_pl rfl) frzs_nil) rfl h3) rfl rfl
            · obtain ⟨r, hr, rfl⟩ := List.mem_map.mp hcd
              refine ⟨_, _, rfl, el_ok (op_ok (r := .fz (.tup (q.1 :: r.1))) (a := .tup [q.1]) (b := .tup r.1) (tup_ok (ds := [q.1]) (cons_ok (var_ok rfl) nil_ok) (frzs_ok (frz_pl rfl) frzs_nil) (by simp)) (var_ok rfl) rfl rfl ?_) rfl, rfl⟩
              have hpl := led_len (rows_led hw2 hr)
              show (if [q.1].length + r.1.length ≤ 16777216 then some (Vl.fz (.tup ([q.1] ++ r.1))) else none) = _
              rw [if_pos (by simp; omega)]; rfl
          have h5 := ext_ok (i := 1) rfl h4 rfl (by
            simp only [List.flatMap_append, List.length_append, List.flatMap_cons, List.flatMap_nil, List.length_nil, List.length_cons, List.length_flatMap, List.length_map] at hfl hall ⊢
            omega)
          rw [h5, List.map_map]
          show Out.ok _ [.fz d, .ow (.lst ((.tup [] :: q1.flatMap fun q => (rowsF m q.2).map fun r => D.tup (q.1 :: r.1)) ++ (rowsF m q.2).map fun r => D.tup (q.1 :: r.1))), .fz q.1, .fz q.2, .no] = _
          rw [List.cons_append, List.flatMap_append, List.flatMap_cons, List.flatMap_nil, List.append_nil])
    have e2 : q2 = [] := by
      cases q2 with
      | nil => rfl
      | cons q q2 => cases hr
    subst e2
    rw [List.append_nil] at hq
    subst hq
    refine run0 (e0 := [.fz d, .no, .no, .no, .no]) (e := [.fz d, .no, .no, .no, .no]) rfl ?_
    unfold m_all_paths
    refine (seq_nx (e1 := [.fz d, .ow (.lst [.tup []]), .no, .no, .no]) ?_).trans ?_
    · exact asg_ow (lst_ok (ds := [.tup []]) (cons_ok (tup_ok (ds := []) nil_ok frzs_nil (Nat.zero_le _)) nil_ok) (frzs_ok rfl frzs_nil) (by simp))
    refine (seq_nx h2).trans ?_
    show Out.ok (Fl.rt (.ow (.lst (.tup [] :: (kids d).flatMap fun q => (rowsF m q.2).map fun r => D.tup (q.1 :: r.1))))) _ = Out.ok (Fl.rt (.ow (.lst ((([], d) :: (kids d).flatMap fun q => (rowsF m q.2).map fun r => (q.1 :: r.1, r.2)).map fun r => D.tup r.1)))) _
    rw [List.map_cons, List.map_flatMap]
    simp only [List.map_map]
    rfl
theorem paths_ok {n m : Nat} {d : D} (hn : 11 ≤ n) (hw : okW m d = true) (hm : m ≤ 6) (hc : cntW d ≤ 60) : G_paths n [.fz d] = .ok (.ow (.lst ((rowsF m d).map fun r => .tup r.1))) [.fz d] := by
  obtain ⟨k, rfl, hk⟩ := up1 hn
  show runD [] 1 1 (m_paths (G_look_worth k) (G_all_paths k)) [.fz d] = _
  have h1 := look_ok hk hw hm hc
  have h2 := all_paths_ok m k d (by omega) hw (by omega)
  refine run0 (e0 := [.fz d]) (e := [.fz d]) rfl ?_
  unfold m_paths
  refine (seq_nx (e1 := [.fz d]) (drop_ok (x := .fz .non) ?_)).trans ?_
  · exact call_ok (ds := [d]) (cons_ok (var_ok rfl) nil_ok) (frzs_ok (frz_pl rfl) frzs_nil) rfl h1
  exact ret_ow (call_ok (ds := [d]) (cons_ok (var_ok rfl) nil_ok) (frzs_ok (frz_pl rfl) frzs_nil) rfl h2)
end LP
end S_Pd
section S_Pe
set_option maxHeartbeats 0
namespace LP
open PySem PySem.Spec PyProof.Rows L2 L3
--BEGIN
def flatStep : D → Bool
  | .int _ => true
  | .str _ => true
  | _ => false
theorem led_flat : ∀ {p : List D} {d x : D}, ledF d p = some x → ∀ s ∈ p, flatStep s = true
  | [], _, _, _, s, hs => nomatch hs
  | t :: p, d, x, h, s, hs => by
    rcases led_cons h with ⟨ds, i, c, rfl, rfl, hi, hc, hl⟩ | ⟨ks, k, c, rfl, rfl, hc, hl⟩
    · rcases List.mem_cons.mp hs with q | q
      · subst q; rfl
      · exact led_flat hl s q
    · rcases List.mem_cons.mp hs with q | q
      · subst q; rfl
      · exact led_flat hl s q
theorem flat_dep {p : List D} (h : ∀ s ∈ p, flatStep s = true) : depLe 60 (.tup p) = true := by
  show p.all (depLe 59) = true
  refine List.all_eq_true.mpr fun s hs => ?_
  have := h s hs
  cases s <;> first | rfl | cases this
theorem eq_nil {p : List D} (h : ∀ s ∈ p, flatStep s = true) : eqD (.tup p) (.tup []) = some (.fz (.bl p.isEmpty)) := by
  unfold eqD
  rw [if_pos (flat_dep h)]
  have e : eqO (.tup p) (.tup []) = some (p.isEmpty) := by
    unfold eqO
    cases p with
    | nil => rfl
    | cons s p => rfl
  rw [e]
theorem cut_tail {α : Type} (s : α) (p : List α) : L3.cutD (s :: p) (some 1) none = p := by
  unfold L3.cutD
  have h1 : HT.sIx (s :: p).length 0 (some 1) = 1 := by
    have := HT.sIx_nat (s :: p).length 0 1
    rw [show ((1 : Nat) : Int) = 1 from rfl] at this
    rw [this]; simp
  rw [h1, HT.sIx_none]
  simp
theorem sl_tail {i : Nat} {e : En} {s : D} {p : List D} (h : e[i]? = some (.fz (.tup (s :: p)))) : dSl (dVar i) (dPart (dC (.int 1))) (L3.ret none) e = .ok (.fz (.tup p)) e := by
  unfold dSl
  rw [mB_ok (var_ok h)]
  rw [mB_ok (show dPart (dC (.int 1)) e = .ok (some 1) e from rfl)]
  rw [mB_ok (show L3.ret (none : Option Int) e = .ok none e from rfl)]
  rw [mB_ok (pk_pl h)]
  show lft (some (Vl.fz (.tup (L3.cutD (s :: p) (some 1) none)))) e = _
  rw [cut_tail]; rfl
theorem ret_cp {m : M Vl} {e e1 : En} {x : D} (h : m e = .ok (cpV x) e1) : ∃ e', dRet [] m e = .ok (.rt (cpV x)) e' := by
  cases x <;> first | exact ⟨_, ret_fz h⟩ | exact ⟨_, ret_ow h⟩
theorem head_ix {s : D} {p : List D} : ixD (.tup (s :: p)) (.int 0) = some (.fz s) := by
  show (L2.atI (s :: p) 0).map Vl.fz = _
  rw [show (0 : Int) = ((0 : Nat) : Int) from rfl, atI_nat (j := 0) (xs := s :: p) (v := s) rfl]; rfl
theorem enP_get (ds : List D) (j t : Nat) : (enP j ds)[t]? = (ds[t]?).map fun c => (D.int ((j + t : Nat) : Int), c) := by
  induction ds generalizing j t with
  | nil => simp [enP]
  | cons d r ih =>
    cases t with
    | zero => simp [enP]
    | succ t =>
      show (enP (j + 1) r)[t]? = _
      rw [ih]
      simp [show j + 1 + t = j + (t + 1) by omega]
theorem set_map (ds : List D) (i : Int) (hi : 0 ≤ i) (v : D) (hlt : i.toNat < ds.length) : (kidsD (.lst ds)).map (fun d => match d with | .tup [.int k, c] => if k = i then v else c | d => d) = ds.set i.toNat v := by
  refine List.ext_getElem? fun t => ?_
  show (((enP 0 ds).map fun q => D.tup [q.1, q.2]).map _)[t]? = _
  rw [List.getElem?_map, List.getElem?_map, enP_get]
  by_cases h : i.toNat = t
  · subst h
    rw [List.getElem?_set_self hlt, List.getElem?_eq_getElem hlt]
    show some (if ((0 + i.toNat : Nat) : Int) = i then v else _) = _
    rw [if_pos (by omega)]
  · rw [List.getElem?_set_ne h]
    cases q : ds[t]? with
    | none => rfl
    | some c =>
      show some (if ((0 + t : Nat) : Int) = i then v else c) = _
      rw [if_neg (by omega)]
theorem changed_ok : ∀ (p : List D) (md me n : Nat) (d e x : D), md + me + 3 ≤ n → okW md d = true → okW me e = true → cntW d ≤ 1000 → cntW e ≤ 1000 → ledF d p = some x → G_changed_at n [.fz d, .fz (.tup p), .fz e] = .ok (cpV (putF d p e)) [.fz d, .fz (.tup p), .fz e]
  | [], md, me, n, d, e, x, hn, hd, he, hcd, hce, hl => by
    obtain ⟨k, rfl, hk⟩ := up1 (m := md + me + 2) hn
    show runD [] 3 6 (m_changed_at (G_copied k) (G_changed_at k) (G_inside k)) [.fz d, .fz (.tup []), .fz e] = _
    have h1 := copied_ok me k e (by omega) he (by omega)
    rw [put_nil]
    obtain ⟨e', h2⟩ := ret_cp (m := dCall [] 1 (G_copied k) (dCons (dVar 2) dNil)) (e := [.fz d, .fz (.tup []), .fz e, .no, .no, .no]) (call_ok (ds := [e]) (cons_ok (var_ok rfl) nil_ok) (frzs_ok (frz_pl rfl) frzs_nil) rfl h1)
    refine run0 (e0 := [.fz d, .fz (.tup []), .fz e, .no, .no, .no]) (e := e') rfl ?_
    unfold m_changed_at
    refine seq_rt ?_
    refine (ifs_t (e1 := [.fz d, .fz (.tup []), .fz e, .no, .no, .no]) ?_).trans h2
    exact bool_ok (op_ok (r := .fz (.bl true)) (a := .tup []) (b := .tup []) (var_ok rfl) (tup_ok nil_ok frzs_nil (Nat.zero_le _)) rfl rfl (eq_nil fun _ z => nomatch z)) rfl
  | s :: p, md, me, n, d, e, x, hn, hd, he, hcd, hce, hl => by
    obtain ⟨k, rfl, hk⟩ := up1 (m := md + me + 2) hn
    show runD [] 3 6 (m_changed_at (G_copied k) (G_changed_at k) (G_inside k)) [.fz d, .fz (.tup (s :: p)), .fz e] = _
    have hfl := led_flat hl
    have c0 : dBool (dOp eqD (dVar 1) (dTup dNil)) [.fz d, .fz (.tup (s :: p)), .fz e, .no, .no, .no] = .ok false [.fz d, .fz (.tup (s :: p)), .fz e, .no, .no, .no] :=
      bool_ok (op_ok (r := .fz (.bl false)) (a := .tup (s :: p)) (b := .tup []) (var_ok rfl) (tup_ok nil_ok frzs_nil (Nat.zero_le _)) rfl rfl (eq_nil hfl)) rfl
    rcases led_cons hl with ⟨ds, i, c, rfl, rfl, hi, hc, hl'⟩ | ⟨ks, key, c, rfl, rfl, hc, hl'⟩
    · obtain ⟨md', rfl, hwc⟩ := kid_ok hd (show kid (.lst ds) (.int i) = some c by rw [kid_lst hi]; exact hc)
      have hcc := kid_cnt (show kid (.lst ds) (.int i) = some c by rw [kid_lst hi]; exact hc)
      have ih := changed_ok p md' me k c e x (by omega) hwc he (by omega) hce hl'
      have hin := inside_ok (n := k) (by omega) hd (by omega)
      have hlt : i.toNat < ds.length := (List.getElem?_eq_some_iff.mp hc).1
      have hlen := cnts_len ds
      have hcd' : 1 + cnts ds ≤ 1000 := hcd
      have q : Q_changed_at_1 (G_copied k) (G_changed_at k) (G_inside k) [.fz (.lst ds), .fz (.tup (.int i :: p)), .fz e, .no, .no, .no] = .ok (.ow (.lst (ds.set i.toNat (putF c p e)))) [.fz (.lst ds), .fz (.tup (.int i :: p)), .fz e, .no, .no, .no] := by
        rw [← set_map ds i hi (putF c p e) hlt]
        refine lc_map (ds := kidsD (.lst ds)) _ (ei := [.fz (.lst ds), .fz (.tup (.int i :: p)), .fz e, .no, .no, .no]) ?_ ?_ fun y hy => ?_
        · exact it_ok (ds := kidsD (.lst ds)) (call_ok (ds := [.lst ds]) (cons_ok (var_ok rfl) nil_ok) (frzs_ok (frz_pl rfl) frzs_nil) rfl hin) rfl rfl
        · have : (kidsD (.lst ds)).length = ds.length := by
            show ((enP 0 ds).map _).length = _
            rw [List.length_map, ← List.length_map (f := (·.2)) (as := enP 0 ds), enP_snd]
          rw [this]; omega
        · obtain ⟨⟨a, b⟩, hq, rfl⟩ := List.mem_map.mp hy
          obtain ⟨t, e1, e2⟩ := enP_mem hq
          subst e1
          have hwb := okW_lst.mp hd b (List.mem_of_getElem? e2)
          have hcb := cnts_mem (List.mem_of_getElem? e2)
          have h4 := copied_ok md' k b (by omega) hwb (by omega)
          have cnd : dBool (dOp eqD (dVar 3) (dOp ixD (dVar 1) (dC (.int 0)))) [.fz (.lst ds), .fz (.tup (.int i :: p)), .fz e, .fz (.int ((0 + t : Nat) : Int)), .fz b, .no] = .ok (((0 + t : Nat) : Int) == i) [.fz (.lst ds), .fz (.tup (.int i :: p)), .fz e, .fz (.int ((0 + t : Nat) : Int)), .fz b, .no] :=
            bool_ok (op_ok (r := .fz (.bl (((0 + t : Nat) : Int) == i))) (a := .int ((0 + t : Nat) : Int)) (b := .int i) (var_ok rfl) (op_ok (r := .fz (.int i)) (a := .tup (.int i :: p)) (b := .int 0) (var_ok rfl) rfl rfl rfl head_ix) rfl rfl rfl) rfl
          refine ⟨[.fz (.lst ds), .fz (.tup (.int i :: p)), .fz e, .fz (.int ((0 + t : Nat) : Int)), .fz b, .no], [.fz (.lst ds), .fz (.tup (.int i :: p)), .fz e, .fz (.int ((0 + t : Nat) : Int)), .fz b, .no], rfl, ?_, rfl⟩
          by_cases hti : ((0 + t : Nat) : Int) = i
          · have : b = c := by
              have : i.toNat = t := by omega
              rw [this, e2] at hc; cases hc; rfl
            subst this
            show mB (noX _) frz _ = Out.ok (if ((0 + t : Nat) : Int) = i then _ else _) _
            rw [if_pos hti]
            refine el_ok (x := cpV (putF b p e)) ?_ (frz_cp _ _)
            rw [show (((0 + t : Nat) : Int) == i) = true by simpa using hti] at cnd
            exact (if_t cnd).trans (call_ok (ds := [b, .tup p, e]) (cons_ok (var_ok rfl) (cons_ok (sl_tail rfl) (cons_ok (var_ok rfl) nil_ok))) (frzs_ok (frz_pl rfl) (frzs_ok rfl (frzs_ok (frz_pl rfl) frzs_nil))) rfl ih)
          · show mB (noX _) frz _ = Out.ok (if ((0 + t : Nat) : Int) = i then _ else _) _
            rw [if_neg hti]
            refine el_ok (x := cpV b) ?_ (frz_cp _ _)
            rw [show (((0 + t : Nat) : Int) == i) = false by simpa using hti] at cnd
            exact (if_f cnd).trans (call_ok (ds := [b]) (cons_ok (var_ok rfl) nil_ok) (frzs_ok (frz_pl rfl) frzs_nil) rfl h4)
      rw [put_lst hc]
      refine run0 (e0 := [.fz (.lst ds), .fz (.tup (.int i :: p)), .fz e, .no, .no, .no]) (e := [.fz (.lst ds), .fz (.tup (.int i :: p)), .fz e, .no, .no, .no]) rfl ?_
      unfold m_changed_at
      refine (seq_nx (e1 := [.fz (.lst ds), .fz (.tup (.int i :: p)), .fz e, .no, .no, .no]) ((ifs_f c0).trans rfl)).trans ?_
      refine seq_rt ?_
      exact (ifs_t (isi_ok (d := .lst ds) rfl rfl ty_ll)).trans (ret_ow q)
    · obtain ⟨md', rfl, hwc⟩ := kid_ok hd (show kid (.dic ks) (.str key) = some c from hc)
      have hcc := kid_cnt (show kid (.dic ks) (.str key) = some c from hc)
      have ih := changed_ok p md' me k c e x (by omega) hwc he (by omega) hce hl'
      have h4 := copied_ok (md' + 1) k (.dic ks) (by omega) hd (by omega)
      have hlen := cntk_len ks
      have hcd' : 1 + cntk ks ≤ 1000 := hcd
      have nd := (okW_dic.mp hd).2
      rw [put_dic hc]
      refine run0 (e0 := [.fz (.dic ks), .fz (.tup (.str key :: p)), .fz e, .no, .no, .no]) (e := [.fz (.dic ks), .fz (.tup (.str key :: p)), .fz e, .no, .no, .no]) rfl ?_
      unfold m_changed_at
      refine (seq_nx (e1 := [.fz (.dic ks), .fz (.tup (.str key :: p)), .fz e, .no, .no, .no]) ((ifs_f c0).trans rfl)).trans ?_
      refine (seq_nx (e1 := [.fz (.dic ks), .fz (.tup (.str key :: p)), .fz e, .no, .no, .no]) ((ifs_f (isi_ok (d := .dic ks) rfl rfl ty_dl)).trans rfl)).trans ?_
      refine (seq_nx (e1 := [.fz (.dic ks), .fz (.tup (.str key :: p)), .fz e, .no, .no, .ow (.dic ks)]) (asg_ow (call_ok (ds := [.dic ks]) (cons_ok (var_ok rfl) nil_ok) (frzs_ok (frz_pl rfl) frzs_nil) rfl h4))).trans ?_
      refine (seq_nx (e1 := [.fz (.dic ks), .fz (.tup (.str key :: p)), .fz e, .no, .no, .ow (.dic (putG ks (Sum.inr key) (putF c p e)))]) ?_).trans rfl
      refine put_okD (x := cpV (putF c p e)) (e1 := [.fz (.dic ks), .fz (.tup (.str key :: p)), .fz e, .no, .no, .ow (.dic ks)]) (e2 := [.fz (.dic ks), .fz (.tup (.str key :: p)), .fz e, .no, .no, .ow (.dic ks)]) (e3 := [.fz (.dic ks), .fz (.tup (.str key :: p)), .fz e, .no, .no, .ow (.dic ks)]) (w := .dic ks) (ks := ks) (q := Sum.inr key) (d := putF c p e) (y := .fz (.str key)) (k := .str key) ?_ rfl ?_ rfl (frz_cp _ _) rfl rfl (by omega) nd
      · exact call_ok (ds := [c, .tup p, e]) (cons_ok (op_ok (r := .fz c) (a := .dic ks) (b := .str key) (var_ok rfl) (op_ok (r := .fz (.str key)) (a := .tup (.str key :: p)) (b := .int 0) (var_ok rfl) rfl rfl rfl head_ix) rfl rfl (by simp [ixD, hc])) (cons_ok (sl_tail rfl) (cons_ok (var_ok rfl) nil_ok))) (frzs_ok rfl (frzs_ok rfl (frzs_ok (frz_pl rfl) frzs_nil))) rfl ih
      · exact op_ok (r := .fz (.str key)) (a := .tup (.str key :: p)) (b := .int 0) (var_ok rfl) rfl rfl rfl head_ix
end LP
end S_Pe
section S_Pf
set_option maxHeartbeats 0
namespace LP
open PySem PySem.Spec PyProof.Rows L2 L3
--BEGIN
theorem with_new_ok {n md me : Nat} {d e x : D} {p : List D} (hn : 17 ≤ n) (hd : okW md d = true) (hmd : md ≤ 6) (hcd : cntW d ≤ 60) (he : okW me e = true) (hme : me ≤ 6) (hce : cntW e ≤ 60) (hl : ledF d p = some x) (hr : okW 6 (putF d p e) = true) (hcr : cntW (putF d p e) ≤ 60) :
    G_with_new n [.fz d, .fz (.tup p), .fz e] = .ok (.fz (putF d p e)) [.fz d, .fz (.tup p), .fz e] := by
  obtain ⟨k, rfl, hk⟩ := up1 hn
  show runD [] 3 4 (m_with_new (G_look_worth k) (G_look_path k) (G_led k) (G_changed_at k)) [.fz d, .fz (.tup p), .fz e] = _
  have h1 := look_ok (n := k) (by omega) hd hmd hcd
  have h2 := look_path_ok (n := k) (p := p) (by omega)
  have h3 := gled_ok (n := k) (by omega) hd hl
  have h4 := look_ok (n := k) (by omega) he hme hce
  have h5 := changed_ok p md me k d e x (by omega) hd he (by omega) (by omega) hl
  have h6 := look_ok (n := k) (by omega) hr (Nat.le_refl _) hcr
  generalize hR : putF d p e = R at *
  refine run0 (e0 := [.fz d, .fz (.tup p), .fz e, .no]) (e := [.fz d, .fz (.tup p), .fz e, .fz R]) rfl ?_
  unfold m_with_new
  refine (seq_nx (e1 := [.fz d, .fz (.tup p), .fz e, .no]) (drop_ok (x := .fz .non) ?_)).trans ?_
  · exact call_ok (ds := [d]) (cons_ok (var_ok rfl) nil_ok) (frzs_ok (frz_pl rfl) frzs_nil) rfl h1
  refine (seq_nx (e1 := [.fz d, .fz (.tup p), .fz e, .no]) (drop_ok (x := .fz .non) ?_)).trans ?_
  · exact call_ok (ds := [.tup p]) (cons_ok (var_ok rfl) nil_ok) (frzs_ok (frz_pl rfl) frzs_nil) rfl h2
  refine (seq_nx (e1 := [.fz d, .fz (.tup p), .fz e, .no]) (drop_ok (x := .fz x) ?_)).trans ?_
  · exact call_ok (ds := [d, .tup p]) (cons_ok (var_ok rfl) (cons_ok (var_ok rfl) nil_ok)) (frzs_ok (frz_pl rfl) (frzs_ok (frz_pl rfl) frzs_nil)) rfl h3
  refine (seq_nx (e1 := [.fz d, .fz (.tup p), .fz e, .no]) (drop_ok (x := .fz .non) ?_)).trans ?_
  · exact call_ok (ds := [e]) (cons_ok (var_ok rfl) nil_ok) (frzs_ok (frz_pl rfl) frzs_nil) rfl h4
  have hcall : dCall [] 3 (G_changed_at k) (dCons (dVar 0) (dCons (dVar 1) (dCons (dVar 2) dNil))) [.fz d, .fz (.tup p), .fz e, .no] = .ok (cpV R) [.fz d, .fz (.tup p), .fz e, .no] :=
    call_ok (ds := [d, .tup p, e]) (cons_ok (var_ok rfl) (cons_ok (var_ok rfl) (cons_ok (var_ok rfl) nil_ok))) (frzs_ok (frz_pl rfl) (frzs_ok (frz_pl rfl) (frzs_ok (frz_pl rfl) frzs_nil))) rfl h5
  have own : ∀ R : D, G_look_worth k [.fz R] = .ok (.fz .non) [.fz R] → (cpV R = .ow R ∨ cpV R = .fz R) → dCall [] 3 (G_changed_at k) (dCons (dVar 0) (dCons (dVar 1) (dCons (dVar 2) dNil))) [.fz d, .fz (.tup p), .fz e, .no] = .ok (cpV R) [.fz d, .fz (.tup p), .fz e, .no] →
      dSeq (dAsg 3 (dCall [] 3 (G_changed_at k) (dCons (dVar 0) (dCons (dVar 1) (dCons (dVar 2) dNil))))) (dSeq (dDrop (dCall [] 1 (G_look_worth k) (dCons (dVar 3) dNil))) (dRet [] (dVar 3))) [.fz d, .fz (.tup p), .fz e, .no] = .ok (.rt (.fz R)) [.fz d, .fz (.tup p), .fz e, .fz R] := by
    intro R h6 hv hc
    rcases hv with hv | hv
    · rw [hv] at hc
      refine (seq_nx (e1 := [.fz d, .fz (.tup p), .fz e, .ow R]) (asg_ow hc)).trans ?_
      refine (seq_nx (e1 := [.fz d, .fz (.tup p), .fz e, .fz R]) (drop_ok (x := .fz .non) ?_)).trans (ret_pl (var_ok rfl) rfl)
      exact call_ok (ds := [R]) (cons_ok (var_ow rfl) nil_ok) (frzs_ok (frz_plow rfl) frzs_nil) rfl h6
    · rw [hv] at hc
      refine (seq_nx (e1 := [.fz d, .fz (.tup p), .fz e, .fz R]) (asg_fz hc)).trans ?_
      refine (seq_nx (e1 := [.fz d, .fz (.tup p), .fz e, .fz R]) (drop_ok (x := .fz .non) ?_)).trans (ret_pl (var_ok rfl) rfl)
      exact call_ok (ds := [R]) (cons_ok (var_ok rfl) nil_ok) (frzs_ok (frz_pl rfl) frzs_nil) rfl h6
  exact own R h6 (by cases R <;> first | exact .inl rfl | exact .inr rfl) hcall
/-! ### draws -/
theorem cell_ok {n : Nat} (hn : 1 ≤ n) (ns : List Int) (t : Nat) : ∃ c, G__law_cell n [.fz (.scr ns), .fz (.int t)] = .ok (.fz (.int c)) [.fz (.scr ns), .fz (.int t)] := by
  obtain ⟨k, rfl, _⟩ := up1 hn
  show ∃ c, runD [] 2 2 m__law_cell _ = _
  cases ns with
  | nil =>
    refine ⟨0, run0 (e0 := [.fz (.scr []), .fz (.int t)]) (e := [.fz (.scr []), .fz (.int t)]) rfl ?_⟩
    unfold m__law_cell
    exact (seq_nx (e1 := [.fz (.scr []), .fz (.int t)]) ((ifs_f (tru_ok (d := .scr []) (var_ok rfl) rfl rfl)).trans rfl)).trans rfl
  | cons a r =>
    have hlt : t % (a :: r).length < (a :: r).length := Nat.mod_lt _ (by simp)
    refine ⟨(a :: r)[t % (a :: r).length], run0 (e0 := [.fz (.scr (a :: r)), .fz (.int t)]) (e := [.fz (.scr (a :: r)), .fz (.int t)]) rfl ?_⟩
    unfold m__law_cell
    refine seq_rt ((ifs_t (tru_ok (d := .scr (a :: r)) (b := true) (var_ok rfl) rfl rfl)).trans (ret_fz ?_))
    refine op_ok (a := .scr (a :: r)) (b := .int ((t % (a :: r).length : Nat) : Int)) (y := .fz (.int ((t % (a :: r).length : Nat) : Int))) (var_ok rfl) ?_ rfl rfl ?_
    · refine op_ok (a := .int t) (b := .int (a :: r).length) (var_ok rfl) (cb_ok (ds := [.scr (a :: r)]) (cons_ok (var_ok rfl) nil_ok) rfl rfl) rfl rfl ?_
      show (if (0 : Int) < ((a :: r).length : Nat) then some (Vl.fz (.int ((t : Int) % ((a :: r).length : Nat)))) else none) = _
      rw [if_pos (by have : 0 < (a :: r).length := by simp
                     omega)]; rfl
    · show (L2.atI (a :: r) ((t % (a :: r).length : Nat) : Int)).map _ = _
      rw [atI_nat (List.getElem?_eq_getElem hlt)]; rfl
theorem mul_l {i j : Int} (h : -(2 ^ 64) < i ∧ i < 2 ^ 64) : mulD (.int i) (.int j) = some (.fz (.int (i * j))) := by
  exact if_pos (.inl h)
theorem mul_r {i j : Int} (h : -(2 ^ 64) < j ∧ j < 2 ^ 64) : mulD (.int i) (.int j) = some (.fz (.int (i * j))) := by
  exact if_pos (.inr h)
theorem mix_ok {n : Nat} (hn : 2 ≤ n) (ns : List Int) (t : Nat) : ∃ c : Int, G__law_mix n [.fz (.scr ns), .fz (.int t)] = .ok (.fz (.int c)) [.fz (.scr ns), .fz (.int t)] ∧ 0 ≤ c := by
  obtain ⟨k, rfl, hk⟩ := up1 hn
  obtain ⟨c, hc⟩ := cell_ok hk ns t
  have b1 := Int.emod_nonneg (c + 104729 * ((t : Int) + 1)) (show (4294967291 : Int) ≠ 0 by decide)
  have b2 := Int.emod_lt_of_pos (c + 104729 * ((t : Int) + 1)) (show (0 : Int) < 4294967291 by decide)
  generalize hA : (c + 104729 * ((t : Int) + 1)) % 4294967291 = A at b1 b2
  have b3 := Int.emod_nonneg (A ^ 5) (show (4294967279 : Int) ≠ 0 by decide)
  generalize hB : A ^ 5 % 4294967279 = B at b3
  have b4 := Int.emod_nonneg (B / 64 * 69621 + B) (show (4294967231 : Int) ≠ 0 by decide)
  refine ⟨(B / 64 * 69621 + B) % 4294967231, ?_, b4⟩
  show runD [] 2 3 (m__law_mix (G__law_cell k)) _ = _
  refine run0 (e0 := [.fz (.scr ns), .fz (.int t), .no]) (e := [.fz (.scr ns), .fz (.int t), .fz (.int B)]) rfl ?_
  unfold m__law_mix
  refine (seq_nx (e1 := [.fz (.scr ns), .fz (.int t), .fz (.int A)]) (asgF (e1 := [.fz (.scr ns), .fz (.int t), .no]) (d := .int A) ?_ rfl)).trans ?_
  · refine op_ok (a := .int (c + 104729 * ((t : Int) + 1))) (b := .int 4294967291) (x := .fz (.int (c + 104729 * ((t : Int) + 1)))) (y := .fz (.int 4294967291)) (op_ok (a := .int c) (b := .int (104729 * ((t : Int) + 1))) (x := .fz (.int c)) (y := .fz (.int (104729 * ((t : Int) + 1)))) (call_ok (ds := [.scr ns, .int t]) (cons_ok (var_ok rfl) (cons_ok (var_ok rfl) nil_ok)) (frzs_ok (frz_pl rfl) (frzs_ok (frz_pl rfl) frzs_nil)) rfl hc) ?_ rfl rfl rfl) rfl rfl rfl ?_
    · refine op_ok (a := .int 104729) (b := .int ((t : Int) + 1)) (x := .fz (.int 104729)) (y := .fz (.int ((t : Int) + 1))) rfl (op_ok (a := .int t) (b := .int 1) (var_ok rfl) rfl rfl rfl rfl) rfl rfl (mul_l (by decide))
    · show (if (0 : Int) < 4294967291 then some (Vl.fz (.int ((c + 104729 * ((t : Int) + 1)) % 4294967291))) else none) = _
      rw [if_pos (by decide), hA]
  refine (seq_nx (e1 := [.fz (.scr ns), .fz (.int t), .fz (.int B)]) (asgF (e1 := [.fz (.scr ns), .fz (.int t), .fz (.int A)]) (d := .int B) ?_ rfl)).trans ?_
  · refine op_ok (a := .int (A ^ 5)) (b := .int 4294967279) (x := .fz (.int (A ^ 5))) (y := .fz (.int 4294967279)) (op_ok (a := .int A) (b := .int 5) (var_ok rfl) rfl rfl rfl ?_) rfl rfl rfl ?_
    · show (if (0 : Int) ≤ 5 ∧ (5 : Int) ≤ 1000000 ∧ A.natAbs < 2 ^ 64 then some (Vl.fz (.int (A ^ (5 : Int).toNat))) else none) = _
      rw [if_pos ⟨by decide, by decide, by omega⟩]; rfl
    · show (if (0 : Int) < 4294967279 then some (Vl.fz (.int (A ^ 5 % 4294967279))) else none) = _
      rw [if_pos (by decide), hB]
  refine ret_fz ?_
  refine op_ok (a := .int (B / 64 * 69621 + B)) (b := .int 4294967231) (x := .fz (.int (B / 64 * 69621 + B))) (y := .fz (.int 4294967231)) (op_ok (a := .int (B / 64 * 69621)) (b := .int B) (x := .fz (.int (B / 64 * 69621))) (op_ok (a := .int (B / 64)) (b := .int 69621) (x := .fz (.int (B / 64))) (op_ok (a := .int B) (b := .int 64) (var_ok rfl) rfl rfl rfl ?_) rfl rfl rfl ?_) (var_ok rfl) rfl rfl rfl) rfl rfl rfl ?_
  · show (if (0 : Int) < 64 ∧ (64 : Int) < 1073741824 then some (Vl.fz (.int (B / 64))) else none) = _
    rw [if_pos ⟨by decide, by decide⟩]
  · exact mul_r (by decide)
  · show (if (0 : Int) < 4294967231 then some (Vl.fz (.int ((B / 64 * 69621 + B) % 4294967231))) else none) = _
    rw [if_pos (by decide)]
theorem draw_ok {n : Nat} (hn : 3 ≤ n) (ns : List Int) (T : List D) (hT : T.length < 16777216) (many : Int) (hm : 0 < many) : ∃ r : Int, G__law_draw n [.fz (.scr ns), .ow (.lst T), .fz (.int many)] = .ok (.fz (.int r)) [.fz (.scr ns), .ow (.lst (T ++ [.int 0])), .fz (.int many)] ∧ 0 ≤ r ∧ r < many := by
  obtain ⟨k, rfl, hk⟩ := up1 hn
  obtain ⟨c, hc, hc0⟩ := mix_ok hk ns (T ++ [D.int 0]).length
  refine ⟨c / 8 % many, ?_, Int.emod_nonneg _ (by omega), Int.emod_lt_of_pos _ hm⟩
  show runD [1] 3 3 (m__law_draw (G__law_mix k)) _ = _
  refine run1 (e0 := [.fz (.scr ns), .ow (.lst T), .fz (.int many)]) (e := [.fz (.scr ns), .ow (.lst (T ++ [.int 0])), .fz (.int many)]) rfl ?_ rfl
  unfold m__law_draw
  refine (seq_nx (e1 := [.fz (.scr ns), .ow (.lst (T ++ [.int 0])), .fz (.int many)]) (drop_ok (x := .fz .non) (appF (ds0 := T) (ds := T) (d := .int 0) (x := .fz (.int 0)) (e1 := [.fz (.scr ns), .ow (.lst T), .fz (.int many)]) (e2 := [.fz (.scr ns), .ow (.lst T), .fz (.int many)]) rfl rfl rfl rfl hT rfl))).trans ?_
  refine ret_fz ?_
  refine op_ok (a := .int (c / 8)) (b := .int many) (x := .fz (.int (c / 8))) (op_ok (a := .int c) (b := .int 8) (x := .fz (.int c)) (call_ok (ds := [.scr ns, .int (T ++ [D.int 0]).length]) (cons_ok (var_ok rfl) (cons_ok (cb_ok (ds := [.lst (T ++ [D.int 0])]) (cons_ok (var_ow rfl) nil_ok) rfl rfl) nil_ok)) (frzs_ok (frz_pl rfl) (frzs_ok rfl frzs_nil)) rfl hc) rfl rfl rfl ?_) (var_ok rfl) rfl rfl ?_
  · show (if (0 : Int) < 8 ∧ (8 : Int) < 1073741824 then some (Vl.fz (.int (c / 8))) else none) = _
    rw [if_pos ⟨by decide, by decide⟩]
  · show (if (0 : Int) < many then some (Vl.fz (.int (c / 8 % many))) else none) = _
    rw [if_pos hm]
end LP
end S_Pf
section S_Pg
set_option maxHeartbeats 0
namespace LP
open PySem PySem.Spec PyProof.Rows L2 L3
--BEGIN
theorem pick_ok {n : Nat} (hn : 4 ≤ n) (ns : List Int) (T : List D) (hT : T.length < 16777216) (xs : List D) (hx : xs ≠ []) {X : Ent} (hX : X = .fz (.lst xs) ∨ X = .ow (.lst xs)) : ∃ x T', G__law_pick n [.fz (.scr ns), .ow (.lst T), X] = .ok (.fz x) [.fz (.scr ns), .ow (.lst T'), X] ∧ x ∈ xs ∧ T'.length = T.length + 1 := by
  obtain ⟨k, rfl, hk⟩ := up1 hn
  have hpos : 0 < xs.length := by
    cases xs with
    | nil => exact (hx rfl).elim
    | cons a r => simp
  obtain ⟨r, hr, h0, h1⟩ := draw_ok hk ns T hT xs.length (by omega)
  have hlt : r.toNat < xs.length := by omega
  refine ⟨xs[r.toNat], T ++ [D.int 0], ?_, List.getElem_mem hlt, by simp⟩
  show runD [1, 2] 3 3 (m__law_pick (G__law_draw k)) _ = _
  refine run12 (e0 := [.fz (.scr ns), .ow (.lst T), X]) (e := [.fz (.scr ns), .ow (.lst (T ++ [D.int 0])), X]) rfl ?_ rfl
  unfold m__law_pick
  have v2 : ∀ T : List D, dVar 2 [.fz (.scr ns), .ow (.lst T), X] = .ok (.pl 2) [.fz (.scr ns), .ow (.lst T), X] := fun T => by
    rcases hX with rfl | rfl <;> rfl
  have p2 : ∀ T : List D, peek [.fz (.scr ns), .ow (.lst T), X] (.pl 2) = some (.lst xs) := fun T => by
    rcases hX with rfl | rfl <;> rfl
  refine ret_fz (op_ok (a := .lst xs) (b := .int r) (y := .fz (.int r)) (x := .pl 2) (e1 := [.fz (.scr ns), .ow (.lst T), X]) (v2 T) ?_ (p2 _) rfl ?_)
  · exact call1F (d0 := .scr ns) (ds := [.int xs.length]) (xs := [.fz (.int xs.length)]) (cons_ok (var_ok rfl) (cons_ok (var_ow rfl) (cons_ok (cb_ok (xs := [.pl 2]) (ds := [.lst xs]) (cons_ok (v2 T) nil_ok) (by unfold peeks peeks; rw [p2]) rfl) nil_ok))) (frz_pl rfl) (frzs_ok rfl frzs_nil) rfl rfl hr rfl
  · show (L2.atI xs r).map Vl.fz = _
    rw [atI_int h0 (List.getElem?_eq_getElem hlt)]; rfl
theorem join_chars : ∀ cs : List Nat, (Str.join "" (cs.map fun c => (⟨#[c]⟩ : Str))).cps.toList = cs
  | [] => rfl
  | [c] => rfl
  | c :: d :: r => by
    have ih := join_chars (d :: r)
    show ((⟨#[c]⟩ : Str) ++ "" ++ Str.join "" ((d :: r).map fun c => (⟨#[c]⟩ : Str))).cps.toList = _
    show (#[c] ++ ("" : Str).cps ++ (Str.join "" ((d :: r).map fun c => (⟨#[c]⟩ : Str))).cps).toList = _
    rw [Array.toList_append, ih]; rfl
theorem strs_chars : ∀ cs : List Nat, strsOf (cs.map fun c => D.str ⟨#[c]⟩) = some (cs.map fun c => (⟨#[c]⟩ : Str))
  | [] => rfl
  | c :: r => by simp only [List.map_cons, strsOf, strs_chars r]
theorem sum_chars : ∀ cs : List Nat, strSum (cs.map fun c => (⟨#[c]⟩ : Str)) = cs.length
  | [] => rfl
  | c :: r => by
    have ih := sum_chars r
    show (⟨#[c]⟩ : Str).length + strSum _ = _
    rw [ih]
    show 1 + r.length = _
    simp; omega
theorem okS_of {s : Str} (h1 : 1 ≤ s.cps.toList.length) (h2 : s.cps.toList.length ≤ 12) (h3 : ∀ c ∈ s.cps.toList, c ∈ small.cps.toList) : okS s = true := by
  have e : s.length = s.cps.toList.length := by show s.cps.size = _; simp
  unfold okS
  rw [e, decide_eq_true h1, decide_eq_true h2]
  simp only [Bool.true_and]
  exact List.all_eq_true.mpr fun c hc => decide_eq_true (h3 c hc)
theorem word_ok {n : Nat} (hn : 5 ≤ n) (ns : List Int) (T : List D) (hT : T.length + 20 < 16777216) : ∃ s T', G__law_word n [.fz (.scr ns), .ow (.lst T)] = .ok (.fz (.str s)) [.fz (.scr ns), .ow (.lst T')] ∧ okS s = true ∧ T'.length ≤ T.length + 14 := by
  obtain ⟨k, rfl, hk⟩ := up1 hn
  obtain ⟨r, hr, h0, h1⟩ := draw_ok (n := k) (by omega) ns T (by omega) 6 (by decide)
  have e1 : dBool (dOp (cmpD fun i j => decide (j < i)) (dCall [1] 3 (G__law_draw k) (dCons (dVar 0) (dCons (dVar 1) (dCons (dC (.int 6)) dNil)))) (dC (.int 0))) [.fz (.scr ns), .ow (.lst T), .fz (.str small), .no] = .ok (decide (0 < r)) [.fz (.scr ns), .ow (.lst (T ++ [D.int 0])), .fz (.str small), .no] := by
    refine bool_ok (op_ok (a := .int r) (b := .int 0) (x := .fz (.int r)) (y := .fz (.int 0)) (r := .fz (.bl (decide (0 < r)))) (e1 := [.fz (.scr ns), .ow (.lst (T ++ [D.int 0])), .fz (.str small), .no]) ?_ rfl rfl rfl rfl) rfl
    exact call1F (d0 := .scr ns) (ds := [.int 6]) (xs := [.fz (.int 6)]) (cons_ok (var_ok rfl) (cons_ok (var_ow rfl) (cons_ok rfl nil_ok))) (frz_pl rfl) (frzs_ok rfl frzs_nil) rfl rfl hr rfl
  by_cases hc : 0 < r
  · rw [decide_eq_true hc] at e1
    obtain ⟨x, T', hx, hm, hl⟩ := pick_ok (n := k) (by omega) ns (T ++ [D.int 0]) (by simp; omega) [.str "b", .str "a", .str "ab", .str "longerwordss", .str "zz", .str "k"] (by simp) (.inr rfl)
    have hs : ∃ s, x = .str s ∧ okS s = true := by
      simp only [List.mem_cons, List.not_mem_nil, or_false] at hm
      rcases hm with rfl | rfl | rfl | rfl | rfl | rfl <;> exact ⟨_, rfl, by decide +kernel⟩
    obtain ⟨s, rfl, hok⟩ := hs
    refine ⟨s, T', ?_, hok, by simp at hl; omega⟩
    show runD [1] 2 4 (m__law_word (G__law_draw k) (G__law_pick k)) _ = _
    refine run1 (e0 := [.fz (.scr ns), .ow (.lst T), .no, .no]) (e := [.fz (.scr ns), .ow (.lst T'), .fz (.str small), .no]) rfl ?_ rfl
    unfold m__law_word
    refine (seq_nx (e1 := [.fz (.scr ns), .ow (.lst T), .fz (.str small), .no]) rfl).trans ?_
    refine seq_rt ((ifs_t e1).trans (ret_fz ?_))
    exact call12F (y := .ow (.lst [.str "b", .str "a", .str "ab", .str "longerwordss", .str "zz", .str "k"])) (d0 := .scr ns) (fun _ z => nomatch z) (cons_ok (var_ok rfl) (cons_ok (var_ow rfl) (cons_ok (lst_ok (ds := [.str "b", .str "a", .str "ab", .str "longerwordss", .str "zz", .str "k"]) (cons_ok rfl (cons_ok rfl (cons_ok rfl (cons_ok rfl (cons_ok rfl (cons_ok rfl nil_ok)))))) rfl (by simp)) nil_ok))) (frz_pl rfl) rfl rfl hx rfl
  · rw [decide_eq_false hc] at e1
    obtain ⟨r2, hr2, h20, h21⟩ := draw_ok (n := k) (by omega) ns (T ++ [D.int 0]) (by simp; omega) 12 (by decide)
    have hq : ∃ (cs : List Nat) (T' : List D), Q__law_word_1 (G__law_draw k) (G__law_pick k) [.fz (.scr ns), .ow (.lst (T ++ [D.int 0])), .fz (.str small), .no] = .ok (.ow (.lst (cs.map fun c => D.str ⟨#[c]⟩))) [.fz (.scr ns), .ow (.lst T'), .fz (.str small), .no] ∧ (∀ c ∈ cs, c ∈ small.cps.toList) ∧ cs.length = (1 + r2).toNat ∧ T'.length ≤ T.length + 14 := by
      have hi : dRg1 (dCons (dOp addD (dC (.int 1)) (dCall [1] 3 (G__law_draw k) (dCons (dVar 0) (dCons (dVar 1) (dCons (dC (.int 12)) dNil))))) dNil) [.fz (.scr ns), .ow (.lst (T ++ [D.int 0])), .fz (.str small), .no] = .ok (rgD 0 (1 + r2).toNat) [.fz (.scr ns), .ow (.lst (T ++ [D.int 0] ++ [D.int 0])), .fz (.str small), .no] := by
        refine rg1_ok (x := .fz (.int ((1 + r2).toNat : Nat))) (cons_ok (e1 := [.fz (.scr ns), .ow (.lst (T ++ [D.int 0] ++ [D.int 0])), .fz (.str small), .no]) ?_ nil_ok) rfl (by omega)
        refine op_ok (a := .int 1) (b := .int r2) (x := .fz (.int 1)) (y := .fz (.int r2)) (e1 := [.fz (.scr ns), .ow (.lst (T ++ [D.int 0])), .fz (.str small), .no]) rfl ?_ rfl rfl ?_
        · exact call1F (d0 := .scr ns) (ds := [.int 12]) (xs := [.fz (.int 12)]) (cons_ok (var_ok rfl) (cons_ok (var_ow rfl) (cons_ok rfl nil_ok))) (frz_pl rfl) (frzs_ok rfl frzs_nil) rfl rfl hr2 rfl
        · show some (Vl.fz (.int (1 + r2))) = _
          rw [Int.toNat_of_nonneg (by omega)]
      obtain ⟨out, e', h2, ⟨cs, T', x, rfl, rfl, hcs, hTl⟩, hlen⟩ := lc_inv (vs := [3]) (tgt := gtN 3) (me := dOp ixD (dVar 2) (dCall [1] 3 (G__law_draw k) (dCons (dVar 0) (dCons (dVar 1) (dCons (dC (.int 26)) dNil)))))
        (fun acc e => ∃ (cs : List Nat) (T' : List D) (x : Ent), acc = cs.map (fun c => D.str ⟨#[c]⟩) ∧ e = [.fz (.scr ns), .ow (.lst T'), .fz (.str small), x] ∧ (∀ c ∈ cs, c ∈ small.cps.toList) ∧ T'.length = T.length + 2 + cs.length) hi (by simp [rgD]; omega) ⟨[], T ++ [D.int 0] ++ [D.int 0], .no, rfl, rfl, (by simp), (by simp)⟩ (by
          rintro d hd acc e hac ⟨cs, T', x, rfl, rfl, hcs, hTl⟩
          have hac' : cs.length < (1 + r2).toNat := by simpa [rgD] using hac
          obtain ⟨r3, hr3, h30, h31⟩ := draw_ok (n := k) (by omega) ns T' (by omega) 26 (by decide)
          have hsl : small.cps.toList.length = 26 := by decide +kernel
          have hlt : r3.toNat < small.cps.toList.length := by omega
          refine ⟨[.fz (.scr ns), .ow (.lst T'), .fz (.str small), .fz d], .str ⟨#[small.cps.toList[r3.toNat]]⟩, [.fz (.scr ns), .ow (.lst (T' ++ [D.int 0])), .fz (.str small), .fz d], rfl, el_ok (x := .fz (.str ⟨#[small.cps.toList[r3.toNat]]⟩)) (e1 := [.fz (.scr ns), .ow (.lst (T' ++ [D.int 0])), .fz (.str small), .fz d]) ?_ rfl, cs ++ [small.cps.toList[r3.toNat]], _, _, by simp, rfl, fun c hc => ?_, by simp; omega⟩
          · refine op_ok (a := .str small) (b := .int r3) (x := .pl 2) (y := .fz (.int r3)) (e1 := [.fz (.scr ns), .ow (.lst T'), .fz (.str small), .fz d]) (var_ok rfl) ?_ rfl rfl ?_
            · exact call1F (d0 := .scr ns) (ds := [.int 26]) (xs := [.fz (.int 26)]) (cons_ok (var_ok rfl) (cons_ok (var_ow rfl) (cons_ok rfl nil_ok))) (frz_pl rfl) (frzs_ok rfl frzs_nil) rfl rfl hr3 rfl
            · show (if small.length ≤ 16777216 then (L2.atI small.cps.toList r3).map (fun c => Vl.fz (.str ⟨#[c]⟩)) else none) = _
              rw [if_pos (by decide +kernel), atI_int h30 (List.getElem?_eq_getElem hlt)]; rfl
          · rcases List.mem_append.mp hc with z | z
            · exact hcs c z
            · have : c = small.cps.toList[r3.toNat] := by simpa using z
              rw [this]; exact List.getElem_mem hlt)
      have hcl : cs.length = (1 + r2).toNat := by simpa [rgD] using hlen
      exact ⟨cs, T', h2, hcs, hcl, by omega⟩
    obtain ⟨cs, T', hq, hcs, hcl, hTl⟩ := hq
    have hj := join_chars cs
    refine ⟨Str.join "" (cs.map fun c => (⟨#[c]⟩ : Str)), T', ?_, okS_of (by rw [hj]; omega) (by rw [hj]; omega) (by rw [hj]; exact hcs), hTl⟩
    show runD [1] 2 4 (m__law_word (G__law_draw k) (G__law_pick k)) _ = _
    refine run1 (e0 := [.fz (.scr ns), .ow (.lst T), .no, .no]) (e := [.fz (.scr ns), .ow (.lst T'), .fz (.str small), .no]) rfl ?_ rfl
    unfold m__law_word
    refine (seq_nx (e1 := [.fz (.scr ns), .ow (.lst T), .fz (.str small), .no]) rfl).trans ?_
    refine (seq_nx (e1 := [.fz (.scr ns), .ow (.lst (T ++ [D.int 0])), .fz (.str small), .no]) ((ifs_f e1).trans rfl)).trans ?_
    refine ret_fz ?_
    unfold dJoin
    refine (mB_ok (a := Vl.fz (.str "")) (e1 := [.fz (.scr ns), .ow (.lst (T ++ [D.int 0])), .fz (.str small), .no]) rfl).trans ?_
    refine (mB_ok (a := D.str "") (e1 := [.fz (.scr ns), .ow (.lst (T ++ [D.int 0])), .fz (.str small), .no]) rfl).trans ?_
    show mB (Q__law_word_1 (G__law_draw k) (G__law_pick k)) _ _ = _
    refine (mB_ok hq).trans ?_
    refine (mB_ok (a := D.lst (cs.map fun c => D.str ⟨#[c]⟩)) (e1 := [.fz (.scr ns), .ow (.lst T'), .fz (.str small), .no]) rfl).trans ?_
    have e2 : joinD (.str "") (.lst (cs.map fun c => D.str ⟨#[c]⟩)) = some (.fz (.str (Str.join "" (cs.map fun c => (⟨#[c]⟩ : Str))))) := by
      unfold joinD
      simp only [strs_chars]
      rw [if_pos (by rw [sum_chars, List.length_map]; show cs.length + cs.length * 0 ≤ _; omega)]
      exact congrArg (fun z => some (Vl.fz (D.str z))) (StrLaws.glued_eq_join _ _)
    unfold lft
    rw [e2]
end LP
end S_Pg
section S_Pi
set_option maxHeartbeats 0
namespace LP
open PySem PySem.Spec PyProof.Rows L2 L3
--BEGIN
theorem plain_one_ok {n : Nat} (hn : 6 ≤ n) (ns : List Int) (T : List D) (hT : T.length + 30 < 16777216) : ∃ d T', G__law_plain_one n [.fz (.scr ns), .ow (.lst T)] = .ok (.fz d) [.fz (.scr ns), .ow (.lst T')] ∧ okW 1 d = true ∧ cntW d = 1 ∧ (d = .lst [] ∨ d = .dic [] ∨ isInt d = true ∨ isStr d = true) ∧ T'.length ≤ T.length + 18 := by
  obtain ⟨k, rfl, hk⟩ := up1 hn
  obtain ⟨r, hr, h0, h1⟩ := draw_ok (n := k) (by omega) ns T (by omega) 999 (by decide)
  have eS : ∀ e : En, e = [.fz (.scr ns), .ow (.lst (T ++ [D.int 0])), .no, .no] → True := fun _ _ => trivial
  have some_ok : dLst (dCons (dC (.int 0)) (dCons (dOp subD (dC (.int 0)) (dC (.int 1))) (dCons (dC (.int 7)) (dCons (dC (.int 1000000)) (dCons (dOp subD (dC (.int 0)) (dC (.int 1000000))) (dCons (dOp subD (dCall [1] 3 (G__law_draw k) (dCons (dVar 0) (dCons (dVar 1) (dCons (dC (.int 999)) dNil)))) (dC (.int 400))) dNil)))))) [.fz (.scr ns), .ow (.lst T), .no, .no] = .ok (.ow (.lst [.int 0, .int (0 - 1), .int 7, .int 1000000, .int (0 - 1000000), .int (r - 400)])) [.fz (.scr ns), .ow (.lst (T ++ [D.int 0])), .no, .no] := by
    refine lst_ok (ds := [.int 0, .int (0 - 1), .int 7, .int 1000000, .int (0 - 1000000), .int (r - 400)]) (xs := [.fz (.int 0), .fz (.int (0 - 1)), .fz (.int 7), .fz (.int 1000000), .fz (.int (0 - 1000000)), .fz (.int (r - 400))]) (cons_ok rfl (cons_ok rfl (cons_ok rfl (cons_ok rfl (cons_ok rfl (cons_ok ?_ nil_ok)))))) rfl (by simp)
    refine op_ok (a := .int r) (b := .int 400) (x := .fz (.int r)) (y := .fz (.int 400)) (e1 := [.fz (.scr ns), .ow (.lst (T ++ [D.int 0])), .no, .no]) ?_ rfl rfl rfl rfl
    exact call1F (d0 := .scr ns) (ds := [.int 999]) (xs := [.fz (.int 999)]) (cons_ok (var_ok rfl) (cons_ok (var_ow rfl) (cons_ok rfl nil_ok))) (frz_pl rfl) (frzs_ok rfl frzs_nil) rfl rfl hr rfl
  obtain ⟨w, hw, w0, w1⟩ := draw_ok (n := k) (by omega) ns (T ++ [D.int 0]) (by simp; omega) 8 (by decide)
  have way_ok : dCall [1] 3 (G__law_draw k) (dCons (dVar 0) (dCons (dVar 1) (dCons (dC (.int 8)) dNil))) [.fz (.scr ns), .ow (.lst (T ++ [D.int 0])), .ow (.lst [.int 0, .int (0 - 1), .int 7, .int 1000000, .int (0 - 1000000), .int (r - 400)]), .no] = .ok (.fz (.int w)) [.fz (.scr ns), .ow (.lst (T ++ [D.int 0] ++ [D.int 0])), .ow (.lst [.int 0, .int (0 - 1), .int 7, .int 1000000, .int (0 - 1000000), .int (r - 400)]), .no] :=
    call1F (d0 := .scr ns) (ds := [.int 8]) (xs := [.fz (.int 8)]) (cons_ok (var_ok rfl) (cons_ok (var_ow rfl) (cons_ok rfl nil_ok))) (frz_pl rfl) (frzs_ok rfl frzs_nil) rfl rfl hw rfl
  generalize hS : [D.int 0, .int (0 - 1), .int 7, .int 1000000, .int (0 - 1000000), .int (r - 400)] = S at *
  generalize hT2 : T ++ [D.int 0] ++ [D.int 0] = T2 at *
  have hT2l : T2.length = T.length + 2 := by rw [← hT2]; simp
  have cmp : ∀ (c : Int) (T2 : List D), dBool (dOp (cmpD fun i j => decide (i < j)) (dVar 3) (dC (.int c))) [.fz (.scr ns), .ow (.lst T2), .ow (.lst S), .fz (.int w)] = .ok (decide (w < c)) [.fz (.scr ns), .ow (.lst T2), .ow (.lst S), .fz (.int w)] := fun c T2 =>
    bool_ok (op_ok (a := .int w) (b := .int c) (x := .pl 3) (y := .fz (.int c)) (r := .fz (.bl (decide (w < c)))) (var_ok rfl) rfl rfl rfl rfl) rfl
  have start : ∀ (v : D) (T3 : List D) (e : En), dSeq (dIfS (dBool (dOp (cmpD fun i j => decide (i < j)) (dVar 3) (dC (.int 3)))) (dRet [1] (dCall [1, 2] 3 (G__law_pick k) (dCons (dVar 0) (dCons (dVar 1) (dCons (dVar 2) dNil))))) dNext)
      (dRet [1] (dIf (dBool (dOp (cmpD fun i j => decide (i < j)) (dVar 3) (dC (.int 5)))) (dOp ixD (dLst (dCons (dLst dNil) (dCons dNewK dNil))) (dOp subD (dVar 3) (dC (.int 3)))) (dCall [1] 2 (G__law_word k) (dCons (dVar 0) (dCons (dVar 1) dNil))))) [.fz (.scr ns), .ow (.lst T2), .ow (.lst S), .fz (.int w)] = .ok (.rt (.fz v)) e → (∃ t, e = .fz (.scr ns) :: .ow (.lst T3) :: t) →
      G__law_plain_one (k + 1) [.fz (.scr ns), .ow (.lst T)] = .ok (.fz v) [.fz (.scr ns), .ow (.lst T3)] := by
    rintro v T3 e h ⟨t, rfl⟩
    show runD [1] 2 4 (m__law_plain_one (G__law_draw k) (G__law_pick k) (G__law_word k)) _ = _
    refine run1 (e0 := [.fz (.scr ns), .ow (.lst T), .no, .no]) (e := .fz (.scr ns) :: .ow (.lst T3) :: t) rfl ?_ rfl
    unfold m__law_plain_one
    refine (seq_nx (e1 := [.fz (.scr ns), .ow (.lst (T ++ [D.int 0])), .ow (.lst S), .no]) (asgO some_ok rfl)).trans ?_
    refine (seq_nx (e1 := [.fz (.scr ns), .ow (.lst T2), .ow (.lst S), .fz (.int w)]) (asgF way_ok rfl)).trans ?_
    exact h
  by_cases c3 : w < 3
  · obtain ⟨x, T', hx, hm, hl⟩ := pick_ok (n := k) (by omega) ns T2 (by omega) S (by rw [← hS]; simp) (X := .ow (.lst S)) (.inr rfl)
    have hok : okW 1 x = true ∧ cntW x = 1 ∧ isInt x = true := by
      rw [← hS] at hm
      simp only [List.mem_cons, List.not_mem_nil, or_false] at hm
      have hi : ∀ i : Int, -1000000 ≤ i → i ≤ 1000000 → okW 1 (.int i) = true := fun i a b => by
        show okI i = true
        unfold okI
        rw [decide_eq_true a, decide_eq_true b]; rfl
      rcases hm with rfl | rfl | rfl | rfl | rfl | rfl <;> exact ⟨hi _ (by omega) (by omega), rfl, rfl⟩
    refine ⟨x, T', start x T' [.fz (.scr ns), .ow (.lst T'), .ow (.lst S), .fz (.int w)] ?_ ⟨_, rfl⟩, hok.1, hok.2.1, .inr (.inr (.inl hok.2.2)), by omega⟩
    refine seq_rt ((ifs_t (e1 := [.fz (.scr ns), .ow (.lst T2), .ow (.lst S), .fz (.int w)]) ?_).trans (ret_fz ?_))
    · rw [cmp 3 T2, decide_eq_true c3]
    · exact call12F (y := .pl 2) (d0 := .scr ns) (fun l z => by cases z; decide) (cons_ok (var_ok rfl) (cons_ok (var_ow rfl) (cons_ok (var_ow rfl) nil_ok))) (frz_pl rfl) rfl rfl hx rfl
  · have h3 : dIfS (dBool (dOp (cmpD fun i j => decide (i < j)) (dVar 3) (dC (.int 3)))) (dRet [1] (dCall [1, 2] 3 (G__law_pick k) (dCons (dVar 0) (dCons (dVar 1) (dCons (dVar 2) dNil))))) dNext [.fz (.scr ns), .ow (.lst T2), .ow (.lst S), .fz (.int w)] = .ok .nx [.fz (.scr ns), .ow (.lst T2), .ow (.lst S), .fz (.int w)] := by
      refine (ifs_f (e1 := [.fz (.scr ns), .ow (.lst T2), .ow (.lst S), .fz (.int w)]) ?_).trans rfl
      rw [cmp 3 T2, decide_eq_false c3]
    by_cases c5 : w < 5
    · have hw34 : w = 3 ∨ w = 4 := by omega
      have two : dLst (dCons (dLst dNil) (dCons dNewK dNil)) [.fz (.scr ns), .ow (.lst T2), .ow (.lst S), .fz (.int w)] = .ok (.ow (.lst [.lst [], .dic []])) [.fz (.scr ns), .ow (.lst T2), .ow (.lst S), .fz (.int w)] :=
        lst_ok (ds := [.lst [], .dic []]) (xs := [.ow (.lst []), .ow (.dic [])]) (cons_ok (lst_ok (ds := []) nil_ok frzs_nil (Nat.zero_le _)) (cons_ok rfl nil_ok)) rfl (by simp)
      have fin : ∀ v : D, L2.atI [D.lst [], .dic []] (w - 3) = some v → G__law_plain_one (k + 1) [.fz (.scr ns), .ow (.lst T)] = .ok (.fz v) [.fz (.scr ns), .ow (.lst T2)] := fun v hv => by
        refine start v T2 [.fz (.scr ns), .ow (.lst T2), .ow (.lst S), .fz (.int w)] ?_ ⟨_, rfl⟩
        refine (seq_nx h3).trans (ret_fz ?_)
        refine (if_t (e1 := [.fz (.scr ns), .ow (.lst T2), .ow (.lst S), .fz (.int w)]) ?_).trans ?_
        · rw [cmp 5 T2, decide_eq_true c5]
        · refine op_ok (a := .lst [.lst [], .dic []]) (b := .int (w - 3)) (y := .fz (.int (w - 3))) two (op_ok (a := .int w) (b := .int 3) (var_ok rfl) rfl rfl rfl rfl) rfl rfl ?_
          show (L2.atI [D.lst [], .dic []] (w - 3)).map Vl.fz = _
          rw [hv]; rfl
      rcases hw34 with rfl | rfl
      · exact ⟨.lst [], T2, fin _ rfl, rfl, rfl, .inl rfl, by omega⟩
      · exact ⟨.dic [], T2, fin _ rfl, rfl, rfl, .inr (.inl rfl), by omega⟩
    · obtain ⟨s, T', hx, hok, hl⟩ := word_ok (n := k) (by omega) ns T2 (by omega)
      refine ⟨.str s, T', start (.str s) T' [.fz (.scr ns), .ow (.lst T'), .ow (.lst S), .fz (.int w)] ?_ ⟨_, rfl⟩, hok, rfl, .inr (.inr (.inr rfl)), by omega⟩
      refine (seq_nx h3).trans (ret_fz ?_)
      refine (if_f (e1 := [.fz (.scr ns), .ow (.lst T2), .ow (.lst S), .fz (.int w)]) ?_).trans ?_
      · rw [cmp 5 T2, decide_eq_false c5]
      · exact call1F (d0 := .scr ns) (ds := []) (xs := []) (cons_ok (var_ok rfl) (cons_ok (var_ow rfl) nil_ok)) (frz_pl rfl) frzs_nil rfl rfl hx rfl
/-- no list, no dict within of more than a thousand -/
def wdW : Nat → D → Bool
  | n + 1, .lst ds => decide (ds.length ≤ 1000) && ds.all (wdW n)
  | n + 1, .dic ks => decide (ks.length ≤ 1000) && ks.all (fun p => wdW n p.2)
  | _, _ => true
theorem wdW_lst {n : Nat} {ds : List D} : wdW (n + 1) (.lst ds) = true ↔ ds.length ≤ 1000 ∧ ∀ d ∈ ds, wdW n d = true := by simp [wdW]
theorem wdW_dic {n : Nat} {ks : List (Key × D)} : wdW (n + 1) (.dic ks) = true ↔ ks.length ≤ 1000 ∧ ∀ p ∈ ks, wdW n p.2 = true := by simp [wdW]
theorem anew_ok : ∀ (m n : Nat) (d : D), m + 1 ≤ n → okW m d = true → wdW m d = true → G__law_anew n [.fz d] = .ok (cpV d) [.fz d] := by
  intro m
  induction m with
  | zero =>
    intro n d hn hw hc
    obtain ⟨k, rfl, _⟩ := up1 hn
    show runD _ _ _ _ _ = _
    cases d <;> first | cases hw | (simp [m__law_anew, runD, dSeq, dIfS, dRet, retv, dAsg, stv, dVar, dC, dOp, dUn, dCB, dCall, callE, frzN, entOf, plIx, putE, mB, L3.ret, pk, peek, pks, peeks, lft, frz, frzs, dCons, dNil, dAndV, dOrV, dNotV, dAnd, dOr, dNot, dIf, dBool, dTru, truD, dChain, cIsi, tyNm, isTy, dataTy, tysOf, anyTy, cLen, cmpD, addD, subD, dNext, backE, dLst, dTup, dDrop, cpV])
  | succ m ih =>
    intro n d hn hw hc
    obtain ⟨k, rfl, hk⟩ := up1 hn
    show runD _ _ _ _ _ = _
    cases d with
    | lst ds =>
      have hw' := okW_lst.mp hw
      obtain ⟨hl, hc'⟩ := wdW_lst.mp hc
      have q1 : Q__law_anew_1 (G__law_anew k) [.fz (.lst ds), .no, .no] = .ok (.ow (.lst (ds.map fun d => d))) [.fz (.lst ds), .no, .no] := by
        refine lc_map (ds := ds) (fun d => d) (ei := [.fz (.lst ds), .no, .no]) rfl (by omega) fun c hcd => ?_
        have h4 := ih k c hk (hw' c hcd) (hc' c hcd)
        refine ⟨[.fz (.lst ds), .fz c, .no], [.fz (.lst ds), .fz c, .no], by simp [gtN, wipeE], ?_, by simp [wipeE]⟩
        have h5 : dCall [] 1 (G__law_anew k) (dCons (dVar 1) dNil) [.fz (.lst ds), .fz c, .no] = .ok (cpV c) [.fz (.lst ds), .fz c, .no] := by simp [runD, dSeq, dIfS, dRet, retv, dAsg, stv, dVar, dC, dOp, dUn, dCB, dCall, callE, frzN, entOf, plIx, putE, mB, L3.ret, pk, peek, pks, peeks, lft, frz, frzs, dCons, dNil, dAndV, dOrV, dNotV, dAnd, dOr, dNot, dIf, dBool, dTru, truD, dChain, cIsi, tyNm, isTy, dataTy, tysOf, anyTy, cLen, cmpD, addD, subD, dNext, backE, dLst, dTup, dDrop, h4]
        rw [mB_ok (show noX _ _ = Out.ok (cpV c) [.fz (.lst ds), .fz c, .no] by unfold noX; rw [h5])]
        exact frz_cp _ _
      rw [List.map_id'] at q1
      simp [m__law_anew, runD, dSeq, dIfS, dRet, retv, dAsg, stv, dVar, dC, dOp, dUn, dCB, dCall, callE, frzN, entOf, plIx, putE, mB, L3.ret, pk, peek, pks, peeks, lft, frz, frzs, dCons, dNil, dAndV, dOrV, dNotV, dAnd, dOr, dNot, dIf, dBool, dTru, truD, dChain, cIsi, tyNm, isTy, dataTy, tysOf, anyTy, cLen, cmpD, addD, subD, dNext, backE, dLst, dTup, dDrop, q1, cpV]
    | dic ks =>
      obtain ⟨hw', nd⟩ := okW_dic.mp hw
      obtain ⟨hl, hc'⟩ := wdW_dic.mp hc
      have q2 : Q__law_anew_2 (G__law_anew k) [.fz (.dic ks), .no, .no] = .ok (.ow (.lst (ks.map fun p => .tup [kD p.1, p.2]))) [.fz (.dic ks), .no, .no] := by
        refine lcK_map (fun p => .tup [kD p.1, p.2]) rfl (by omega) (fun p hp => ?_) nd
        obtain ⟨s, e, hs⟩ := okK_str (hw' p hp).1
        have h5 : gV ks (Sum.inr s) = some p.2 := gV_of nd (by rw [← e]; exact hp)
        have h4 := ih k p.2 hk (hw' p hp).2 (hc' p hp)
        have h6 := frz_cp p.2
        refine ⟨[.fz (.dic ks), .no, .fz (.str s)], [.fz (.dic ks), .no, .fz (.str s)], by simp [gtN, wipeE, e, kD], ?_, by simp [wipeE]⟩
        have h7 : dCall [] 1 (G__law_anew k) (dCons (dOp ixD (dVar 0) (dVar 2)) dNil) [.fz (.dic ks), .no, .fz (.str s)] = .ok (cpV p.2) [.fz (.dic ks), .no, .fz (.str s)] :=
          call_ok (cons_ok (op_ok (r := .fz p.2) (var_ok rfl) (var_ok rfl) rfl rfl (by simp [ixD, h5])) nil_ok) (frzs_ok rfl frzs_nil) rfl h4
        rw [e]
        exact el_ok (tup_ok (cons_ok (var_ok rfl) (cons_ok h7 nil_ok)) (frzs_ok (frz_pl rfl) (frzs_ok (h6 _) frzs_nil)) (by simp)) rfl
      simp [m__law_anew, runD, dSeq, dIfS, dRet, retv, dAsg, stv, dVar, dC, dOp, dUn, dCB, dCall, callE, frzN, entOf, plIx, putE, mB, L3.ret, pk, peek, pks, peeks, lft, frz, frzs, dCons, dNil, dAndV, dOrV, dNotV, dAnd, dOr, dNot, dIf, dBool, dTru, truD, dChain, cIsi, tyNm, isTy, dataTy, tysOf, anyTy, cLen, cmpD, addD, subD, dNext, backE, dLst, dTup, dDrop, q2, cpV, dict_pairs nd]
    | int i => simp [m__law_anew, runD, dSeq, dIfS, dRet, retv, dAsg, stv, dVar, dC, dOp, dUn, dCB, dCall, callE, frzN, entOf, plIx, putE, mB, L3.ret, pk, peek, pks, peeks, lft, frz, frzs, dCons, dNil, dAndV, dOrV, dNotV, dAnd, dOr, dNot, dIf, dBool, dTru, truD, dChain, cIsi, tyNm, isTy, dataTy, tysOf, anyTy, cLen, cmpD, addD, subD, dNext, backE, dLst, dTup, dDrop, cpV]
    | str i => simp [m__law_anew, runD, dSeq, dIfS, dRet, retv, dAsg, stv, dVar, dC, dOp, dUn, dCB, dCall, callE, frzN, entOf, plIx, putE, mB, L3.ret, pk, peek, pks, peeks, lft, frz, frzs, dCons, dNil, dAndV, dOrV, dNotV, dAnd, dOr, dNot, dIf, dBool, dTru, truD, dChain, cIsi, tyNm, isTy, dataTy, tysOf, anyTy, cLen, cmpD, addD, subD, dNext, backE, dLst, dTup, dDrop, cpV]
    | _ => cases hw
end LP
end S_Pi
section S_Pj
set_option maxHeartbeats 0
namespace LP
open PySem PySem.Spec PyProof.Rows L2 L3
--BEGIN
theorem maxOf_dps : ∀ (ds : List D) (m : Nat), maxOf (m : Int) (ds.map fun d => ((dp d : Nat) : Int)) = ((max m (dps ds) : Nat) : Int)
  | [], m => by simp [maxOf, dps]
  | d :: r, m => by
    have h : (if (m : Int) < ((dp d : Nat) : Int) then ((dp d : Nat) : Int) else (m : Int)) = ((max m (dp d) : Nat) : Int) := by split <;> omega
    show maxOf (if (m : Int) < ((dp d : Nat) : Int) then ((dp d : Nat) : Int) else (m : Int)) (r.map fun d => ((dp d : Nat) : Int)) = _
    rw [h, maxOf_dps r (max m (dp d))]
    simp only [dps]
    congr 1
    omega
theorem dpk_snd : ∀ ks : List (Key × D), dps (ks.map fun p => p.2) = dpk ks
  | [] => rfl
  | (k, d) :: r => by simp only [List.map_cons, dps, dpk, dpk_snd r]
def cntT (d : D) : D := .tup [.int (cntW d), .int (dp d)]
theorem ints_mapC {α : Type} (f : α → Int) : ∀ ds : List α, intsOf (ds.map fun d => .int (f d)) = some (ds.map f)
  | [] => rfl
  | d :: ds => by simp only [List.map_cons, intsOf, ints_mapC f ds]
theorem count_tail {k : Nat} {d : D} {s1 : Ent} {cs : List D} {b : Bool} (hs : s1 = .fz (.lst cs) ∨ s1 = .ow (.lst cs)) (hl : cs.length ≤ 1000) (hc : ∀ c ∈ cs, G__law_count k [.fz c] = .ok (.fz (cntT c)) [.fz c])
    (hb : dOrV (mIsi 0 "list") (mIsi 0 "dict") [.fz d, .fz (.lst cs), .ow (.lst (cs.map cntT)), .no, .no, .no] = .ok (.fz (.bl b)) [.fz d, .fz (.lst cs), .ow (.lst (cs.map cntT)), .no, .no, .no]) :
    dSeq (dAsg 2 (Q__law_count_1 (G__law_count k))) (dSeq (dAsg 4 (dOrV (mIsi 0 "list") (mIsi 0 "dict")))
      (dRet [] (dTup (dCons (dOp addD (dC (.int 1)) (dCB cSum (dCons (Q__law_count_2 (G__law_count k)) dNil))) (dCons (dOp addD (dCB cInt (dCons (dVar 4) dNil)) (dCB cMax (dCons (dOp addD (dLst (dCons (dC (.int 0)) dNil)) (Q__law_count_3 (G__law_count k))) dNil))) dNil))))) [.fz d, s1, .no, .no, .no, .no] =
    .ok (.rt (.fz (.tup [.int (1 + ((cs.map cntW).sum : Nat)), .int ((if b then 1 else 0) + ((dps cs : Nat) : Int))]))) [.fz d, .fz (.lst cs), .fz (.lst (cs.map cntT)), .no, .fz (.bl b), .no] := by
  have q1 : Q__law_count_1 (G__law_count k) [.fz d, s1, .no, .no, .no, .no] = .ok (.ow (.lst (cs.map cntT))) [.fz d, .fz (.lst cs), .no, .no, .no, .no] := by
    refine lc_map (ds := cs) cntT (ei := [.fz d, .fz (.lst cs), .no, .no, .no, .no]) ?_ (by omega) fun c hcc => ?_
    · rcases hs with rfl | rfl
      · exact it_ok (d := .lst cs) (var_ok rfl) (frz_pl rfl) rfl
      · exact it_ok (d := .lst cs) (var_ow rfl) (frz_plow rfl) rfl
    · exact ⟨_, _, rfl, el_ok (call_ok (ds := [c]) (cons_ok (var_ok rfl) nil_ok) (frzs_ok (frz_pl rfl) frzs_nil) rfl (hc c hcc)) rfl, rfl⟩
  refine (seq_nx (e1 := [.fz d, .fz (.lst cs), .ow (.lst (cs.map cntT)), .no, .no, .no]) (asgO q1 rfl)).trans ?_
  refine (seq_nx (e1 := [.fz d, .fz (.lst cs), .ow (.lst (cs.map cntT)), .no, .fz (.bl b), .no]) (asgF hb rfl)).trans ?_
  have q2 : Q__law_count_2 (G__law_count k) [.fz d, .fz (.lst cs), .ow (.lst (cs.map cntT)), .no, .fz (.bl b), .no] = .ok (.ow (.lst (cs.map fun c => .int (cntW c)))) [.fz d, .fz (.lst cs), .fz (.lst (cs.map cntT)), .no, .fz (.bl b), .no] := by
    have := lc_map (vs := [5]) (tgt := gtN 5) (me := dOp ixD (dVar 5) (dC (.int 0))) (ds := cs.map cntT) (mi := dIt (dVar 2)) (e := [.fz d, .fz (.lst cs), .ow (.lst (cs.map cntT)), .no, .fz (.bl b), .no]) (fun d => match d with | .tup (a :: _) => a | d => d) (ei := [.fz d, .fz (.lst cs), .fz (.lst (cs.map cntT)), .no, .fz (.bl b), .no]) (it_ok (d := .lst (cs.map cntT)) (var_ow rfl) (frz_plow rfl) rfl) (by rw [List.length_map]; omega) fun c hcc => by
        obtain ⟨x, _, rfl⟩ := List.mem_map.mp hcc
        exact ⟨_, _, rfl, el_ok (op_ok (a := cntT x) (b := .int 0) (y := .fz (.int 0)) (r := .fz (.int (cntW x))) (var_ok rfl) rfl rfl rfl rfl) rfl, rfl⟩
    rw [List.map_map] at this
    exact this
  have q3 : Q__law_count_3 (G__law_count k) [.fz d, .fz (.lst cs), .fz (.lst (cs.map cntT)), .no, .fz (.bl b), .no] = .ok (.ow (.lst (cs.map fun c => .int (dp c)))) [.fz d, .fz (.lst cs), .fz (.lst (cs.map cntT)), .no, .fz (.bl b), .no] := by
    have := lc_map (vs := [5]) (tgt := gtN 5) (me := dOp ixD (dVar 5) (dC (.int 1))) (ds := cs.map cntT) (mi := dIt (dVar 2)) (e := [.fz d, .fz (.lst cs), .fz (.lst (cs.map cntT)), .no, .fz (.bl b), .no]) (fun d => match d with | .tup [_, a] => a | d => d) (ei := [.fz d, .fz (.lst cs), .fz (.lst (cs.map cntT)), .no, .fz (.bl b), .no]) (it_ok (d := .lst (cs.map cntT)) (var_ok rfl) (frz_pl rfl) rfl) (by rw [List.length_map]; omega) fun c hcc => by
        obtain ⟨x, _, rfl⟩ := List.mem_map.mp hcc
        exact ⟨_, _, rfl, el_ok (op_ok (a := cntT x) (b := .int 1) (y := .fz (.int 1)) (r := .fz (.int (dp x))) (var_ok rfl) rfl rfl rfl rfl) rfl, rfl⟩
    rw [List.map_map] at this
    exact this
  refine ret_fz (tup_ok (ds := [.int (1 + ((cs.map cntW).sum : Nat)), .int ((if b then 1 else 0) + ((dps cs : Nat) : Int))]) (xs := [.fz (.int (1 + ((cs.map cntW).sum : Nat))), .fz (.int ((if b then 1 else 0) + ((dps cs : Nat) : Int)))]) (cons_ok (e1 := [.fz d, .fz (.lst cs), .fz (.lst (cs.map cntT)), .no, .fz (.bl b), .no]) ?_ (cons_ok ?_ nil_ok)) rfl (by simp))
  · refine op_ok (a := .int 1) (b := .int ((cs.map cntW).sum : Nat)) (x := .fz (.int 1)) (y := .fz (.int ((cs.map cntW).sum : Nat))) rfl (cb_ok (ds := [.lst (cs.map fun c => .int (cntW c))]) (cons_ok q2 nil_ok) rfl ?_) rfl rfl rfl
    exact sum_counts cntW cs
  · refine op_ok (a := .int (if b then 1 else 0)) (b := .int (dps cs)) (x := .fz (.int (if b then 1 else 0))) (y := .fz (.int (dps cs))) (e1 := [.fz d, .fz (.lst cs), .fz (.lst (cs.map cntT)), .no, .fz (.bl b), .no]) (cb_ok (ds := [.bl b]) (cons_ok (var_ok rfl) nil_ok) rfl rfl) ?_ rfl rfl rfl
    refine cb_ok (ds := [.lst (.int 0 :: cs.map fun c => .int (dp c))]) (xs := [.ow (.lst (.int 0 :: cs.map fun c => .int (dp c)))]) (cons_ok ?_ nil_ok) rfl ?_
    · refine op_ok (a := .lst [.int 0]) (b := .lst (cs.map fun c => .int (dp c))) (x := .ow (.lst [.int 0])) (y := .ow (.lst (cs.map fun c => .int (dp c)))) (e1 := [.fz d, .fz (.lst cs), .fz (.lst (cs.map cntT)), .no, .fz (.bl b), .no]) (lst_ok (ds := [.int 0]) (cons_ok rfl nil_ok) rfl (by simp)) q3 rfl rfl ?_
      exact if_pos (by rw [List.length_map]; show 1 + cs.length ≤ _; omega)
    · have h1 : intsOf (.int 0 :: cs.map fun c => .int (dp c)) = some (0 :: cs.map fun c => ((dp c : Nat) : Int)) := by
        have := ints_mapC (fun c => ((dp c : Nat) : Int)) cs
        simp only [intsOf, this]
      have h2 := maxOf_dps cs 0
      simp only [cMax, h1]
      rw [show (0 : Int) = ((0 : Nat) : Int) from rfl, h2]
      simp
theorem count_ok : ∀ (m n : Nat) (d : D), m + 1 ≤ n → okW m d = true → wdW m d = true → G__law_count n [.fz d] = .ok (.fz (cntT d)) [.fz d] := by
  intro m
  induction m with
  | zero =>
    intro n d hn hw hc
    obtain ⟨k, rfl, hk⟩ := up1 hn
    show runD [] 1 6 (m__law_count (G__law_count k)) _ = _
    have fin : ∀ {d : D}, isTy (tyNm d) "list" = some false → isTy (tyNm d) "dict" = some false → dataTy d = true → cntT d = .tup [.int (1 + (([].map cntW).sum : Nat)), .int ((if false then 1 else 0) + ((dps [] : Nat) : Int))] → runD [] 1 6 (m__law_count (G__law_count k)) [.fz d] = .ok (.fz (cntT d)) [.fz d] := by
      intro d t1 t2 t3 e
      refine run0 (e0 := [.fz d, .no, .no, .no, .no, .no]) (e := [.fz d, .fz (.lst []), .fz (.lst []), .no, .fz (.bl false), .no]) rfl ?_
      unfold m__law_count
      refine (seq_nx (e1 := [.fz d, .ow (.lst []), .no, .no, .no, .no]) (asgO ((if_f (isi_ok (d := d) rfl t3 t1)).trans ((if_f (isi_ok (d := d) rfl t3 t2)).trans (lst_ok nil_ok frzs_nil (Nat.zero_le _)))) rfl)).trans ?_
      rw [e]
      refine count_tail (cs := []) (b := false) (.inr rfl) (Nat.zero_le _) (fun _ z => nomatch z) ?_
      unfold dOrV
      refine (mB_ok (a := false) (bool_ok (isiV_ok (d := d) rfl t3 t1) rfl)).trans ?_
      exact isiV_ok (d := d) rfl t3 t2
    cases d with
    | int i => exact fin ty_il ty_id rfl rfl
    | str s => exact fin ty_sl ty_sd rfl rfl
    | _ => cases hw
  | succ m ih =>
    intro n d hn hw hc
    obtain ⟨k, rfl, hk⟩ := up1 hn
    show runD [] 1 6 (m__law_count (G__law_count k)) _ = _
    have fin : ∀ {d : D}, isTy (tyNm d) "list" = some false → isTy (tyNm d) "dict" = some false → dataTy d = true → cntT d = .tup [.int (1 + (([].map cntW).sum : Nat)), .int ((if false then 1 else 0) + ((dps [] : Nat) : Int))] → runD [] 1 6 (m__law_count (G__law_count k)) [.fz d] = .ok (.fz (cntT d)) [.fz d] := by
      intro d t1 t2 t3 e
      refine run0 (e0 := [.fz d, .no, .no, .no, .no, .no]) (e := [.fz d, .fz (.lst []), .fz (.lst []), .no, .fz (.bl false), .no]) rfl ?_
      unfold m__law_count
      refine (seq_nx (e1 := [.fz d, .ow (.lst []), .no, .no, .no, .no]) (asgO ((if_f (isi_ok (d := d) rfl t3 t1)).trans ((if_f (isi_ok (d := d) rfl t3 t2)).trans (lst_ok nil_ok frzs_nil (Nat.zero_le _)))) rfl)).trans ?_
      rw [e]
      refine count_tail (cs := []) (b := false) (.inr rfl) (Nat.zero_le _) (fun _ z => nomatch z) ?_
      unfold dOrV
      refine (mB_ok (a := false) (bool_ok (isiV_ok (d := d) rfl t3 t1) rfl)).trans ?_
      exact isiV_ok (d := d) rfl t3 t2
    cases d with
    | int i => exact fin ty_il ty_id rfl rfl
    | str s => exact fin ty_sl ty_sd rfl rfl
    | lst ds =>
      have hw' := okW_lst.mp hw
      obtain ⟨hl, hc'⟩ := wdW_lst.mp hc
      refine run0 (e0 := [.fz (.lst ds), .no, .no, .no, .no, .no]) (e := [.fz (.lst ds), .fz (.lst ds), .fz (.lst (ds.map cntT)), .no, .fz (.bl true), .no]) rfl ?_
      unfold m__law_count
      refine (seq_nx (e1 := [.fz (.lst ds), .fz (.lst ds), .no, .no, .no, .no]) ?_).trans ?_
      · unfold dAsg
        refine (mB_ok (a := Vl.pl 0) (e1 := [.fz (.lst ds), .no, .no, .no, .no, .no]) ?_).trans rfl
        exact (if_t (isi_ok (d := .lst ds) rfl rfl ty_ll)).trans (var_ok rfl)
      have e : cntT (.lst ds) = .tup [.int (1 + ((ds.map cntW).sum : Nat)), .int ((if true then 1 else 0) + ((dps ds : Nat) : Int))] := by
        unfold cntT
        simp only [cntW, dp, cnts_map]
        simp
      rw [e]
      refine count_tail (cs := ds) (b := true) (.inl rfl) hl (fun c hcc => ih k c hk (hw' c hcc) (hc' c hcc)) ?_
      unfold dOrV
      exact (mB_ok (a := true) (bool_ok (isiV_ok (d := .lst ds) rfl rfl ty_ll) rfl)).trans rfl
    | dic ks =>
      obtain ⟨hw', nd⟩ := okW_dic.mp hw
      obtain ⟨hl, hc'⟩ := wdW_dic.mp hc
      refine run0 (e0 := [.fz (.dic ks), .no, .no, .no, .no, .no]) (e := [.fz (.dic ks), .fz (.lst (ks.map fun p => p.2)), .fz (.lst ((ks.map fun p => p.2).map cntT)), .no, .fz (.bl true), .no]) rfl ?_
      unfold m__law_count
      refine (seq_nx (e1 := [.fz (.dic ks), .ow (.lst (ks.map fun p => p.2)), .no, .no, .no, .no]) (asgO ((if_f (isi_ok (d := .dic ks) rfl rfl ty_dl)).trans ((if_t (isi_ok (d := .dic ks) rfl rfl ty_dd)).trans (un_ok (a := .dic ks) (var_ok rfl) rfl rfl))) rfl)).trans ?_
      have e : cntT (.dic ks) = .tup [.int (1 + (((ks.map fun p => p.2).map cntW).sum : Nat)), .int ((if true then 1 else 0) + ((dps (ks.map fun p => p.2) : Nat) : Int))] := by
        unfold cntT
        simp only [cntW, dp, cntk_map, dpk_snd, List.map_map]
        simp [Function.comp_def]
      rw [e]
      refine count_tail (cs := ks.map fun p => p.2) (b := true) (.inr rfl) (by rw [List.length_map]; exact hl) (fun c hcc => ?_) ?_
      · obtain ⟨p, hp, rfl⟩ := List.mem_map.mp hcc
        exact ih k p.2 hk (hw' p hp).2 (hc' p hp)
      · unfold dOrV
        refine (mB_ok (a := false) (bool_ok (isiV_ok (d := .dic ks) rfl rfl ty_dl) rfl)).trans ?_
        exact isiV_ok (d := .dic ks) rfl rfl ty_dd
    | _ => cases hw
end LP
end S_Pj
section S_Pk
set_option maxHeartbeats 0
namespace LP
open PySem PySem.Spec PyProof.Rows L2 L3
--BEGIN
def rowT (r : List D × D) : D := .tup [.tup r.1, r.2]
theorem kids_some {d : D} {m : Nat} (hw : okW m d = true) (hc : cntW d ≤ 1000) {e : En} (h0 : e[0]? = some (.fz d)) : dIf (dTru (mIsi 0 "list")) (dUn kEnum (dVar 0)) (dIf (dTru (mIsi 0 "dict")) (dUn kItems (dVar 0)) (dLst dNil)) e = .ok (.ow (.lst (kidsD d))) e := by
  have pk0 : peek e (.pl 0) = some d := by unfold peek; simp only [h0]
  cases d with
  | lst ds =>
    refine (if_t (isi_ok (d := .lst ds) h0 rfl ty_ll)).trans (un_ok (a := .lst ds) (var_ok h0) pk0 ?_)
    show some (Vl.ow (.lst (enD 0 ds))) = some (Vl.ow (.lst ((enP 0 ds).map _)))
    rw [enP_map]
  | dic ks =>
    refine (if_f (isi_ok (d := .dic ks) h0 rfl ty_dl)).trans ((if_t (isi_ok (d := .dic ks) h0 rfl ty_dd)).trans (un_ok (a := .dic ks) (var_ok h0) pk0 ?_))
    show some (Vl.ow (.lst (ks.map _))) = some (Vl.ow (.lst ((ks.map _).map _)))
    rw [List.map_map]; rfl
  | int i => exact (if_f (isi_ok (d := .int i) h0 rfl ty_il)).trans ((if_f (isi_ok (d := .int i) h0 rfl ty_id)).trans (lst_ok nil_ok frzs_nil (Nat.zero_le _)))
  | str i => exact (if_f (isi_ok (d := .str i) h0 rfl ty_sl)).trans ((if_f (isi_ok (d := .str i) h0 rfl ty_sd)).trans (lst_ok nil_ok frzs_nil (Nat.zero_le _)))
  | _ => cases m <;> cases hw
theorem rows_ok : ∀ (m n : Nat) (d : D), m + 1 ≤ n → okW m d = true → cntW d ≤ 1000 → G__law_rows n [.fz d] = .ok (.ow (.lst ((rowsF m d).map rowT))) [.fz d] := by
  intro m
  induction m with
  | zero =>
    intro n d hn hw hc
    obtain ⟨k, rfl, hk⟩ := up1 hn
    show runD [] 1 7 (m__law_rows (G__law_rows k)) [.fz d] = _
    have e0 : kidsD d = [] := by cases d <;> first | rfl | cases hw
    have h1 := kids_some hw hc (e := [.fz d, .ow (.lst [rowT ([], d)]), .no, .no, .no, .no, .no]) rfl
    rw [e0] at h1
    refine run0 (e0 := [.fz d, .no, .no, .no, .no, .no, .no]) (e := [.fz d, .no, .fz (.lst []), .no, .no, .no, .no]) rfl ?_
    unfold m__law_rows
    refine (seq_nx (e1 := [.fz d, .ow (.lst [rowT ([], d)]), .no, .no, .no, .no, .no]) (asgO (lst_ok (ds := [rowT ([], d)]) (xs := [.fz (rowT ([], d))]) (cons_ok (tup_ok (ds := [.tup [], d]) (xs := [.fz (.tup []), .pl 0]) (cons_ok (tup_ok (ds := []) nil_ok frzs_nil (Nat.zero_le _)) (cons_ok (var_ok rfl) nil_ok)) rfl (by simp)) nil_ok) rfl (by simp)) rfl)).trans ?_
    refine (seq_nx (e1 := [.fz d, .ow (.lst [rowT ([], d)]), .ow (.lst []), .no, .no, .no, .no]) (asgO h1 rfl)).trans ?_
    refine (seq_nx (e1 := [.fz d, .ow (.lst [rowT ([], d)]), .fz (.lst []), .no, .no, .no, .no]) ?_).trans rfl
    unfold Q__law_rows_2 dFor
    refine (mB_ok (a := []) (e1 := [.fz d, .ow (.lst [rowT ([], d)]), .fz (.lst []), .no, .no, .no, .no]) ?_).trans rfl
    exact it_ok (d := .lst []) (var_ow rfl) (frz_plow rfl) rfl
  | succ m ih =>
    intro n d hn hw hc
    obtain ⟨k, rfl, hk⟩ := up1 hn
    show runD [] 1 7 (m__law_rows (G__law_rows k)) [.fz d] = _
    have h1 := kids_some hw hc (e := [.fz d, .ow (.lst [rowT ([], d)]), .no, .no, .no, .no, .no]) rfl
    have hlen := rows_len hw
    obtain ⟨e', h2, q1, q2, s3, s4, hq, hr, rfl⟩ := for_inv (fg := [3, 4]) (mi := dIt (dVar 2)) (tgt := gtU [3, 4]) (mb := dAsg 1 (dOp addD (dVar 1) (Q__law_rows_1 (G__law_rows k)))) (e := [.fz d, .ow (.lst [rowT ([], d)]), .ow (.lst (kidsD d)), .no, .no, .no, .no]) (ei := [.fz d, .ow (.lst [rowT ([], d)]), .fz (.lst (kidsD d)), .no, .no, .no, .no]) (ds := kidsD d)
      (fun r e => ∃ q1 q2 s3 s4, kids d = q1 ++ q2 ∧ r = q2.map (fun q => .tup [q.1, q.2]) ∧ e = [.fz d, .ow (.lst (rowT ([], d) :: q1.flatMap fun q => (rowsF m q.2).map fun r => rowT (q.1 :: r.1, r.2))), .fz (.lst (kidsD d)), s3, s4, .no, .no])
      (it_ok (d := .lst (kidsD d)) (var_ow rfl) (frz_plow rfl) rfl) ⟨[], kids d, .no, .no, rfl, rfl, rfl⟩ (by
        rintro y r e ⟨q1, q2, s3, s4, hq, hr, rfl⟩
        cases q2 with
        | nil => cases hr
        | cons q q2 =>
          rw [List.map_cons] at hr
          cases hr
          have hqk : q ∈ kids d := by rw [hq]; simp
          have hkid := kid_of hw (s := q.1) (c := q.2) hqk
          obtain ⟨m2, e2, hw2⟩ := kid_ok hw hkid
          cases e2
          have hcnt := kid_cnt hkid
          have h3 := ih k q.2 (by omega) hw2 (by omega)
          have hl2 := rows_len hw2
          have hfl := flat_len_le (fun q => (rowsF m q.2).map fun r => (q.1 :: r.1, r.2)) (a := q1 ++ [q]) (b := q2)
          have hall : (rowsF (m + 1) d).length = ((q1 ++ [q] ++ q2).flatMap fun q => (rowsF m q.2).map fun r => (q.1 :: r.1, r.2)).length + 1 := by
            show ((kids d).flatMap _).length + 1 = _
            rw [hq, List.append_assoc]; rfl
          refine ⟨[.fz d, .ow (.lst (rowT ([], d) :: q1.flatMap fun q => (rowsF m q.2).map fun r => rowT (q.1 :: r.1, r.2))), .fz (.lst (kidsD d)), .fz q.1, .fz q.2, .no, .no], [.fz d, .ow (.lst (rowT ([], d) :: (q1 ++ [q]).flatMap fun q => (rowsF m q.2).map fun r => rowT (q.1 :: r.1, r.2))), .fz (.lst (kidsD d)), .fz q.1, .fz q.2, .no, .no], rfl, .inl ?_, q1 ++ [q], q2, .fz q.1, .fz q.2, by rw [hq, List.append_assoc]; rfl, rfl, rfl⟩
          have h4 : Q__law_rows_1 (G__law_rows k) [.fz d, .ow (.lst (rowT ([], d) :: q1.flatMap fun q => (rowsF m q.2).map fun r => rowT (q.1 :: r.1, r.2))), .fz (.lst (kidsD d)), .fz q.1, .fz q.2, .no, .no] = .ok (.ow (.lst (((rowsF m q.2).map rowT).map fun d => match d with | .tup [.tup t, x] => .tup [.tup (q.1 :: t), x] | d => d))) [.fz d, .ow (.lst (rowT ([], d) :: q1.flatMap fun q => (rowsF m q.2).map fun r => rowT (q.1 :: r.1, r.2))), .fz (.lst (kidsD d)), .fz q.1, .fz q.2, .no, .no] := by
            refine lc_map (ds := (rowsF m q.2).map rowT) _ (ei := [.fz d, .ow (.lst (rowT ([], d) :: q1.flatMap fun q => (rowsF m q.2).map fun r => rowT (q.1 :: r.1, r.2))), .fz (.lst (kidsD d)), .fz q.1, .fz q.2, .no, .no]) ?_ (by rw [List.length_map, hl2]; omega) fun c hcd => ?_
            · exact it_ok (call_ok (ds := [q.2]) (cons_ok (var_ok rfl) nil_ok) (frzs_ok (frz_pl rfl) frzs_nil) rfl h3) rfl rfl
            · obtain ⟨r, hr, rfl⟩ := List.mem_map.mp hcd
              have hpl := led_len (rows_led hw2 hr)
              refine ⟨_, _, rfl, el_ok (tup_ok (ds := [.tup (q.1 :: r.1), r.2]) (xs := [.fz (.tup (q.1 :: r.1)), .pl 6]) (cons_ok (op_ok (r := .fz (.tup (q.1 :: r.1))) (a := .tup [q.1]) (b := .tup r.1) (x := .fz (.tup [q.1])) (tup_ok (ds := [q.1]) (cons_ok (var_ok rfl) nil_ok) (frzs_ok (frz_pl rfl) frzs_nil) (by simp)) (var_ok rfl) rfl rfl ?_) (cons_ok (var_ok rfl) nil_ok)) rfl (by simp)) rfl, rfl⟩
              show (if [q.1].length + r.1.length ≤ 16777216 then some (Vl.fz (.tup ([q.1] ++ r.1))) else none) = _
              rw [if_pos (by simp; omega)]; rfl
          refine asgO (op_ok (a := .lst (rowT ([], d) :: q1.flatMap fun q => (rowsF m q.2).map fun r => rowT (q.1 :: r.1, r.2))) (b := .lst (((rowsF m q.2).map rowT).map fun d => match d with | .tup [.tup t, x] => .tup [.tup (q.1 :: t), x] | d => d)) (var_ow rfl) h4 rfl rfl (r := .ow (.lst (rowT ([], d) :: (q1 ++ [q]).flatMap fun q => (rowsF m q.2).map fun r => rowT (q.1 :: r.1, r.2)))) ?_) rfl
          have e5 : ((rowsF m q.2).map rowT).map (fun d => match d with | .tup [.tup t, x] => D.tup [.tup (q.1 :: t), x] | d => d) = (rowsF m q.2).map fun r => rowT (q.1 :: r.1, r.2) := by rw [List.map_map]; rfl
          rw [e5]
          have e6 : (rowT ([], d) :: q1.flatMap fun q => (rowsF m q.2).map fun r => rowT (q.1 :: r.1, r.2)) ++ ((rowsF m q.2).map fun r => rowT (q.1 :: r.1, r.2)) = rowT ([], d) :: (q1 ++ [q]).flatMap fun q => (rowsF m q.2).map fun r => rowT (q.1 :: r.1, r.2) := by
            rw [List.cons_append, List.flatMap_append, List.flatMap_cons, List.flatMap_nil, List.append_nil]
          rw [← e6]
          refine if_pos ?_
          simp only [List.flatMap_append, List.length_append, List.flatMap_cons, List.flatMap_nil, List.length_nil, List.length_cons, List.length_flatMap, List.length_map] at hfl hall ⊢
          omega)
    have e2 : q2 = [] := by
      cases q2 with
      | nil => rfl
      | cons q q2 => cases hr
    subst e2
    rw [List.append_nil] at hq
    subst hq
    refine run0 (e0 := [.fz d, .no, .no, .no, .no, .no, .no]) (e := [.fz d, .no, .fz (.lst (kidsD d)), .no, .no, .no, .no]) rfl ?_
    unfold m__law_rows
    refine (seq_nx (e1 := [.fz d, .ow (.lst [rowT ([], d)]), .no, .no, .no, .no, .no]) (asgO (lst_ok (ds := [rowT ([], d)]) (xs := [.fz (rowT ([], d))]) (cons_ok (tup_ok (ds := [.tup [], d]) (xs := [.fz (.tup []), .pl 0]) (cons_ok (tup_ok (ds := []) nil_ok frzs_nil (Nat.zero_le _)) (cons_ok (var_ok rfl) nil_ok)) rfl (by simp)) nil_ok) rfl (by simp)) rfl)).trans ?_
    refine (seq_nx (e1 := [.fz d, .ow (.lst [rowT ([], d)]), .ow (.lst (kidsD d)), .no, .no, .no, .no]) (asgO h1 rfl)).trans ?_
    refine (seq_nx h2).trans ?_
    show Out.ok (Fl.rt (.ow (.lst (rowT ([], d) :: (kids d).flatMap fun q => (rowsF m q.2).map fun r => rowT (q.1 :: r.1, r.2))))) _ = Out.ok (Fl.rt (.ow (.lst ((([], d) :: (kids d).flatMap fun q => (rowsF m q.2).map fun r => (q.1 :: r.1, r.2)).map rowT)))) _
    rw [List.map_cons, List.map_flatMap]
    simp only [List.map_map]
    rfl
/-! ### alike of the same -/
theorem eq_keys : ∀ ks : List Key, eqOs (ks.map kD) (ks.map kD) = some true
  | [] => rfl
  | k :: r => by
    have h : eqO (kD k) (kD k) = some true := by cases k <;> simp [kD, eqO]
    simp only [List.map_cons, eqOs, h, eq_keys r]; rfl
theorem dep_keys (ks : List Key) : depLe 60 (.lst (ks.map kD)) = true := by
  show (ks.map kD).all (depLe 59) = true
  refine List.all_eq_true.mpr fun d hd => ?_
  obtain ⟨k, _, rfl⟩ := List.mem_map.mp hd
  cases k <;> rfl
theorem flat_none {α β : Type} : ∀ l : List α, l.flatMap (fun _ => ([] : List β)) = []
  | [] => rfl
  | a :: r => by rw [List.flatMap_cons, flat_none r]; rfl
theorem tupTy {e : En} : dTup (dCons (dC (.ty "list")) (dCons (dC (.ty "dict")) dNil)) e = .ok (.fz (.tup [.ty "list", .ty "dict"])) e := tup_ok (ds := [.ty "list", .ty "dict"]) (cons_ok rfl (cons_ok rfl nil_ok)) rfl (by simp)
theorem isi2_ok {i : Nat} {e : En} {d : D} (h : e[i]? = some (.fz d)) (hd : dataTy d = true) (h1 : isTy (tyNm d) "list" = some false) (h2 : isTy (tyNm d) "dict" = some false) : dTru (dCB cIsi (dCons (dVar i) (dCons (dTup (dCons (dC (.ty "list")) (dCons (dC (.ty "dict")) dNil))) dNil))) e = .ok false e := by
  refine tru_ok (x := .fz (.bl false)) (d := .bl false) (cb_ok (xs := [.pl i, .fz (.tup [.ty "list", .ty "dict"])]) (ds := [d, .tup [.ty "list", .ty "dict"]]) (cons_ok (var_ok h) (cons_ok tupTy nil_ok)) ?_ ?_) rfl rfl
  · unfold peeks peeks peeks peek
    simp only [h]
  · simp only [cIsi, hd, tysOf, anyTy, h1, h2, if_true]
theorem alike_leaf {k : Nat} {d : D} (hd : dataTy d = true) (h1 : isTy (tyNm d) "list" = some false) (h2 : isTy (tyNm d) "dict" = some false) (he : eqD d d = some (.fz (.bl true))) : G__law_alike (k + 1) [.fz d, .fz d] = .ok (.fz (.bl true)) [.fz d, .fz d] := by
  show runD [] 2 4 (m__law_alike (G__law_alike k)) [.fz d, .fz d] = _
  refine run0 (e0 := [.fz d, .fz d, .no, .no]) (e := [.fz d, .fz d, .no, .no]) rfl ?_
  unfold m__law_alike
  refine (seq_nx (e1 := [.fz d, .fz d, .no, .no]) ((ifs_f (and_f (isi_ok (d := d) rfl hd h1))).trans rfl)).trans ?_
  refine (seq_nx (e1 := [.fz d, .fz d, .no, .no]) ((ifs_f (and_f (isi_ok (d := d) rfl hd h2))).trans rfl)).trans ?_
  refine (seq_nx (e1 := [.fz d, .fz d, .no, .no]) ((ifs_f ((or_f (isi2_ok (d := d) rfl hd h1 h2)).trans (isi2_ok (d := d) rfl hd h1 h2))).trans rfl)).trans ?_
  exact ret_fz (op_ok (a := d) (b := d) (var_ok rfl) (var_ok rfl) rfl rfl he)
theorem eq_none : eqD (.lst []) (.lst []) = some (.fz (.bl true)) := rfl
theorem alike_ok : ∀ (m n : Nat) (d : D), m + 1 ≤ n → okW m d = true → cntW d ≤ 1000 → G__law_alike n [.fz d, .fz d] = .ok (.fz (.bl true)) [.fz d, .fz d] := by
  intro m
  induction m with
  | zero =>
    intro n d hn hw hc
    obtain ⟨k, rfl, hk⟩ := up1 hn
    cases d with
    | int i => exact alike_leaf rfl ty_il ty_id (by simp [eqD, depLe, eqO])
    | str i => exact alike_leaf rfl ty_sl ty_sd (by simp [eqD, depLe, eqO])
    | _ => cases hw
  | succ m ih =>
    intro n d hn hw hc
    obtain ⟨k, rfl, hk⟩ := up1 hn
    cases d with
    | int i => exact alike_leaf rfl ty_il ty_id (by simp [eqD, depLe, eqO])
    | str i => exact alike_leaf rfl ty_sl ty_sd (by simp [eqD, depLe, eqO])
    | lst ds =>
      have hw' := okW_lst.mp hw
      have hl := cnts_len ds
      have hc' : 1 + cnts ds ≤ 1000 := hc
      have q1 : Q__law_alike_1 (G__law_alike k) [.fz (.lst ds), .fz (.lst ds), .no, .no] = .ok (.ow (.lst [])) [.fz (.lst ds), .fz (.lst ds), .no, .no] := by
        have := lc_gen (vs := [2]) (tgt := gtN 2) (mt := dNot (dTru (dCall [] 2 (G__law_alike k) (dCons (dOp ixD (dVar 0) (dVar 2)) (dCons (dOp ixD (dVar 1) (dVar 2)) dNil))))) (me := dVar 2) (mi := dRg1 (dCons (dCB cLen (dCons (dVar 0) dNil)) dNil)) (fun _ => []) (e := [.fz (.lst ds), .fz (.lst ds), .no, .no]) (ei := [.fz (.lst ds), .fz (.lst ds), .no, .no]) (ds := rgD 0 ds.length)
          (rg1_ok (x := .fz (.int ds.length)) (cons_ok (cb_ok (ds := [.lst ds]) (cons_ok (var_ok rfl) nil_ok) rfl rfl) nil_ok) rfl (by omega)) (by simp [rgD]; omega) fun c hcd => by
            obtain ⟨i, hi, rfl⟩ := List.mem_map.mp (show c ∈ (List.range ds.length).map fun (i : Nat) => D.int (0 + (i : Int)) from hcd)
            have hi' : i < ds.length := by simpa using hi
            have h2 : (L2.atI ds (0 + (i : Int))).map Vl.fz = some (.fz ds[i]) := by
              rw [Int.zero_add, atI_nat (List.getElem?_eq_getElem hi')]; rfl
            have hm := List.getElem_mem hi'
            have h3 := ih k ds[i] hk (hw' _ hm) (by have := cnts_mem hm; omega)
            refine ⟨[.fz (.lst ds), .fz (.lst ds), .fz (.int (0 + (i : Int))), .no], false, [.fz (.lst ds), .fz (.lst ds), .fz (.int (0 + (i : Int))), .no], rfl, ?_, (fun z => nomatch z), fun _ => ⟨rfl, rfl⟩⟩
            have h4 : dNot (dTru (dCall [] 2 (G__law_alike k) (dCons (dOp ixD (dVar 0) (dVar 2)) (dCons (dOp ixD (dVar 1) (dVar 2)) dNil)))) [.fz (.lst ds), .fz (.lst ds), .fz (.int (0 + (i : Int))), .no] = .ok false [.fz (.lst ds), .fz (.lst ds), .fz (.int (0 + (i : Int))), .no] :=
              not_ok (b := true) (tru_ok (x := .fz (.bl true)) (d := .bl true) (call_ok (ds := [ds[i], ds[i]]) (cons_ok (op_ok (a := .lst ds) (b := .int (0 + (i : Int))) (r := .fz ds[i]) (var_ok rfl) (var_ok rfl) rfl rfl h2) (cons_ok (op_ok (a := .lst ds) (b := .int (0 + (i : Int))) (r := .fz ds[i]) (var_ok rfl) (var_ok rfl) rfl rfl h2) nil_ok)) (frzs_ok rfl (frzs_ok rfl frzs_nil)) rfl h3) rfl rfl)
            unfold noX
            rw [h4]
        rw [flat_none] at this
        exact this
      show runD [] 2 4 (m__law_alike (G__law_alike k)) _ = _
      refine run0 (e0 := [.fz (.lst ds), .fz (.lst ds), .no, .no]) (e := [.fz (.lst ds), .fz (.lst ds), .no, .no]) rfl ?_
      unfold m__law_alike
      refine seq_rt ((ifs_t (e1 := [.fz (.lst ds), .fz (.lst ds), .no, .no]) ((and_t (isi_ok (d := .lst ds) rfl rfl ty_ll)).trans (isi_ok (d := .lst ds) rfl rfl ty_ll))).trans ?_)
      refine (seq_nx (e1 := [.fz (.lst ds), .fz (.lst ds), .no, .no]) ((ifs_f (e1 := [.fz (.lst ds), .fz (.lst ds), .no, .no]) (bool_ok (op_ok (a := .int ds.length) (b := .int ds.length) (x := .fz (.int ds.length)) (y := .fz (.int ds.length)) (r := .fz (.bl false)) (cb_ok (ds := [.lst ds]) (cons_ok (var_ok rfl) nil_ok) rfl rfl) (cb_ok (ds := [.lst ds]) (cons_ok (var_ok rfl) nil_ok) rfl rfl) rfl rfl (by simp [neD, neO, depLe, eqO])) rfl)).trans rfl)).trans ?_
      exact ret_fz (op_ok (a := .lst []) (b := .lst []) (x := .ow (.lst [])) (y := .ow (.lst [])) q1 (lst_ok nil_ok frzs_nil (Nat.zero_le _)) rfl rfl eq_none)
    | dic ks =>
      obtain ⟨hw', nd⟩ := okW_dic.mp hw
      have hl := cntk_len ks
      have hc' : 1 + cntk ks ≤ 1000 := hc
      have ek : (ks.map fun p => kD p.1) = (ks.map (·.1)).map kD := by rw [List.map_map]; rfl
      have q2 : Q__law_alike_2 (G__law_alike k) [.fz (.dic ks), .fz (.dic ks), .no, .no] = .ok (.ow (.lst [])) [.fz (.dic ks), .fz (.dic ks), .no, .no] := by
        have := lc_gen (vs := [3]) (tgt := gtN 3) (mt := dNot (dTru (dCall [] 2 (G__law_alike k) (dCons (dOp ixD (dVar 0) (dVar 3)) (dCons (dOp ixD (dVar 1) (dVar 3)) dNil))))) (me := dVar 3) (mi := dIt (dUn kKeys (dVar 0))) (fun _ => []) (e := [.fz (.dic ks), .fz (.dic ks), .no, .no]) (ei := [.fz (.dic ks), .fz (.dic ks), .no, .no]) (ds := ks.map fun p => kD p.1)
          (it_ok (d := .lst (ks.map fun p => kD p.1)) (un_ok (a := .dic ks) (var_ok rfl) rfl rfl) rfl rfl) (by rw [List.length_map]; omega) fun c hcd => by
            obtain ⟨p, hp, rfl⟩ := List.mem_map.mp hcd
            obtain ⟨s, e, hs⟩ := okK_str (hw' p hp).1
            have h5 : gV ks (Sum.inr s) = some p.2 := gV_of nd (by rw [← e]; exact hp)
            have h3 := ih k p.2 hk (hw' p hp).2 (by have := cntk_mem hp; omega)
            have h2 : ixD (.dic ks) (.str s) = some (.fz p.2) := by simp [ixD, h5]
            rw [e]
            refine ⟨[.fz (.dic ks), .fz (.dic ks), .no, .fz (.str s)], false, [.fz (.dic ks), .fz (.dic ks), .no, .fz (.str s)], rfl, ?_, (fun z => nomatch z), fun _ => ⟨rfl, rfl⟩⟩
            have h4 : dNot (dTru (dCall [] 2 (G__law_alike k) (dCons (dOp ixD (dVar 0) (dVar 3)) (dCons (dOp ixD (dVar 1) (dVar 3)) dNil)))) [.fz (.dic ks), .fz (.dic ks), .no, .fz (.str s)] = .ok false [.fz (.dic ks), .fz (.dic ks), .no, .fz (.str s)] :=
              not_ok (b := true) (tru_ok (x := .fz (.bl true)) (d := .bl true) (call_ok (ds := [p.2, p.2]) (cons_ok (op_ok (a := .dic ks) (b := .str s) (r := .fz p.2) (var_ok rfl) (var_ok rfl) rfl rfl h2) (cons_ok (op_ok (a := .dic ks) (b := .str s) (r := .fz p.2) (var_ok rfl) (var_ok rfl) rfl rfl h2) nil_ok)) (frzs_ok rfl (frzs_ok rfl frzs_nil)) rfl h3) rfl rfl)
            unfold noX
            rw [h4]
        rw [flat_none] at this
        exact this
      have hne : neD (.lst (ks.map fun p => kD p.1)) (.lst (ks.map fun p => kD p.1)) = some (.fz (.bl false)) := by
        rw [ek]
        unfold neD
        rw [if_pos (dep_keys _)]
        have h1 : eqO (.lst ((ks.map (·.1)).map kD)) (.lst ((ks.map (·.1)).map kD)) = some true := by
          unfold eqO
          rw [if_pos rfl, eq_keys]
        simp only [neO, h1]; rfl
      show runD [] 2 4 (m__law_alike (G__law_alike k)) _ = _
      refine run0 (e0 := [.fz (.dic ks), .fz (.dic ks), .no, .no]) (e := [.fz (.dic ks), .fz (.dic ks), .no, .no]) rfl ?_
      unfold m__law_alike
      refine (seq_nx (e1 := [.fz (.dic ks), .fz (.dic ks), .no, .no]) ((ifs_f (and_f (isi_ok (d := .dic ks) rfl rfl ty_dl))).trans rfl)).trans ?_
      refine seq_rt ((ifs_t (e1 := [.fz (.dic ks), .fz (.dic ks), .no, .no]) ((and_t (isi_ok (d := .dic ks) rfl rfl ty_dd)).trans (isi_ok (d := .dic ks) rfl rfl ty_dd))).trans ?_)
      refine (seq_nx (e1 := [.fz (.dic ks), .fz (.dic ks), .no, .no]) ((ifs_f (e1 := [.fz (.dic ks), .fz (.dic ks), .no, .no]) (bool_ok (op_ok (a := .lst (ks.map fun p => kD p.1)) (b := .lst (ks.map fun p => kD p.1)) (x := .ow (.lst (ks.map fun p => kD p.1))) (y := .ow (.lst (ks.map fun p => kD p.1))) (r := .fz (.bl false)) (un_ok (a := .dic ks) (var_ok rfl) rfl rfl) (un_ok (a := .dic ks) (var_ok rfl) rfl rfl) rfl rfl hne) rfl)).trans rfl)).trans ?_
      exact ret_fz (op_ok (a := .lst []) (b := .lst []) (x := .ow (.lst [])) (y := .ow (.lst [])) q2 (lst_ok nil_ok frzs_nil (Nat.zero_le _)) rfl rfl eq_none)
    | _ => cases hw
end LP
end S_Pk
section S_Pl
set_option maxHeartbeats 0
namespace LP
open PySem PySem.Spec PyProof.Rows L2 L3
--BEGIN
theorem call14F {g : FnD} {m : M (List Vl)} {e e1 e4 : En} {x0 x2 x3 : Vl} {j l : Nat} {d0 d2 d3 : D} {w1 w4 a0 a1 a2 a3 a4 : Ent} {r : Vl} (hjl : j ≠ l) (h : m e = .ok [x0, .pl j, x2, x3, .pl l] e1) (h0 : frz x0 e1 = .ok d0 e1) (h2 : frz x2 e1 = .ok d2 e1) (h3 : frz x3 e1 = .ok d3 e1) (hj : e1[j]? = some w1) (hl : e1[l]? = some w4)
    (hg : g [.fz d0, w1, .fz d2, .fz d3, w4] = .ok r [a0, a1, a2, a3, a4]) (h4 : (e1.set j a1).set l a4 = e4) : dCall [1, 4] 5 g m e = .ok r e4 := by
  unfold dCall
  rw [mB_ok h]
  unfold callE
  have hN : frzN [1, 4] 0 [x0, .pl j, x2, x3, .pl l] e1 = .ok [.fz d0, .pl j, .fz d2, .fz d3, .pl l] e1 := by
    simp only [frzN, List.mem_cons, List.not_mem_nil, or_false]
    rw [if_neg (by decide), mB_ok h0]
    rw [if_pos (by decide)]
    rw [if_neg (by decide), if_neg (by decide), if_pos (by decide)]
    refine (mB_ok (a := [Vl.pl j, .fz d2, .fz d3, .pl l]) (e1 := e1) ?_).trans rfl
    refine (mB_ok (a := [Vl.fz d2, .fz d3, .pl l]) (e1 := e1) ?_).trans rfl
    rw [mB_ok h2]
    refine (mB_ok (a := [Vl.fz d3, .pl l]) (e1 := e1) ?_).trans rfl
    rw [mB_ok h3]
    rfl
  rw [mB_ok hN]
  have np : (plIx [.fz d0, .pl j, .fz d2, .fz d3, .pl l]).Nodup := by
    show [j, l].Nodup
    simp [hjl]
  have e3 : [Vl.fz d0, .pl j, .fz d2, .fz d3, .pl l].map (entOf e1) = [.fz d0, w1, .fz d2, .fz d3, w4] := by
    simp only [List.map_cons, List.map_nil, entOf, List.getD_eq_getElem?_getD, hj, hl, Option.getD_some]
  rw [if_pos ⟨np, rfl⟩]
  simp only [e3, hg]
  show Out.ok r ((e1.set j a1).set l a4) = _
  rw [h4]
/-- .. the fifth a new list -/
theorem call14N {g : FnD} {m : M (List Vl)} {e e1 e4 : En} {x0 x2 x3 : Vl} {j : Nat} {d0 d2 d3 w : D} {w1 a0 a1 a2 a3 a4 : Ent} {r : Vl} (h : m e = .ok [x0, .pl j, x2, x3, .ow w] e1) (h0 : frz x0 e1 = .ok d0 e1) (h2 : frz x2 e1 = .ok d2 e1) (h3 : frz x3 e1 = .ok d3 e1) (hj : e1[j]? = some w1)
    (hg : g [.fz d0, w1, .fz d2, .fz d3, .ow w] = .ok r [a0, a1, a2, a3, a4]) (h4 : e1.set j a1 = e4) : dCall [1, 4] 5 g m e = .ok r e4 := by
  unfold dCall
  rw [mB_ok h]
  unfold callE
  have hN : frzN [1, 4] 0 [x0, .pl j, x2, x3, .ow w] e1 = .ok [.fz d0, .pl j, .fz d2, .fz d3, .ow w] e1 := by
    simp only [frzN, List.mem_cons, List.not_mem_nil, or_false]
    rw [if_neg (by decide), mB_ok h0]
    rw [if_pos (by decide)]
    rw [if_neg (by decide), if_neg (by decide), if_pos (by decide)]
    refine (mB_ok (a := [Vl.pl j, .fz d2, .fz d3, .ow w]) (e1 := e1) ?_).trans rfl
    refine (mB_ok (a := [Vl.fz d2, .fz d3, .ow w]) (e1 := e1) ?_).trans rfl
    rw [mB_ok h2]
    refine (mB_ok (a := [Vl.fz d3, .ow w]) (e1 := e1) ?_).trans rfl
    rw [mB_ok h3]
    rfl
  rw [mB_ok hN]
  have np : (plIx [.fz d0, .pl j, .fz d2, .fz d3, .ow w]).Nodup := by
    show [j].Nodup
    simp
  have e3 : [Vl.fz d0, .pl j, .fz d2, .fz d3, .ow w].map (entOf e1) = [.fz d0, w1, .fz d2, .fz d3, .ow w] := by
    simp only [List.map_cons, List.map_nil, entOf, List.getD_eq_getElem?_getD, hj, Option.getD_some]
  rw [if_pos ⟨np, rfl⟩]
  simp only [e3, hg]
  show Out.ok r (e1.set j a1) = _
  rw [h4]
theorem wd_mono : ∀ {n m : Nat} {d : D}, okW n d = true → wdW n d = true → n ≤ m → wdW m d = true
  | n, m, .int _, _, _, _ => by cases m <;> rfl
  | n, m, .str _, _, _, _ => by cases m <;> rfl
  | n + 1, 0, .lst ds, _, _, h => absurd h (by omega)
  | n + 1, m + 1, .lst ds, hw, hd, h => by
    have hw' := okW_lst.mp hw
    have hd' := wdW_lst.mp hd
    exact wdW_lst.mpr ⟨hd'.1, fun d hm => wd_mono (hw' d hm) (hd'.2 d hm) (by omega)⟩
  | n + 1, 0, .dic ks, _, _, h => absurd h (by omega)
  | n + 1, m + 1, .dic ks, hw, hd, h => by
    have hw' := (okW_dic.mp hw).1
    have hd' := wdW_dic.mp hd
    exact wdW_dic.mpr ⟨hd'.1, fun p hm => wd_mono (hw' p hm).2 (hd'.2 p hm) (by omega)⟩
  | 0, _, .lst _, h, _, _ => by cases h
  | 0, _, .dic _, h, _, _ => by cases h
  | n, m, .non, _, _, _ => by cases m <;> rfl
  | n, m, .bl _, _, _, _ => by cases m <;> rfl
  | n, m, .tup _, _, _, _ => by cases m <;> rfl
  | n, m, .dit _, _, _, _ => by cases m <;> rfl
  | n, m, .scr _, _, _, _ => by cases m <;> rfl
  | n, m, .ty _, _, _, _ => by cases m <;> rfl
  | n, m, .exn _, _, _, _ => by cases m <;> rfl
  | n, m, .cl _, _, _, _ => by cases m <;> rfl
  | n, m, .ptr _, _, _, _ => by cases m <;> rfl
/-- a worth no deeper than n, nowhere too wide -/
def gd (n : Nat) (d : D) : Prop := okW n d = true ∧ wdW n d = true
theorem gd_mono {n m : Nat} {d : D} (h : gd n d) (hm : n ≤ m) : gd m d := ⟨okW_mono h.1 hm, wd_mono h.1 h.2 hm⟩
theorem gd_dep {n : Nat} {d : D} (h : gd n d) (hn : n ≤ 59) : depLe 59 d = true := by
  have key : ∀ (n k : Nat) (d : D), okW n d = true → n ≤ k → depLe k d = true := by
    intro n
    induction n with
    | zero => intro k d h _; cases d <;> first | (cases k <;> rfl) | cases h
    | succ n ih =>
      intro k d h hk
      obtain ⟨k, rfl⟩ : ∃ j, k = j + 1 := ⟨k - 1, by omega⟩
      cases d with
      | lst ds => exact List.all_eq_true.mpr fun d hd => ih k d (okW_lst.mp h d hd) (by omega)
      | dic ks => exact List.all_eq_true.mpr fun p hp => ih k p.2 ((okW_dic.mp h).1 p hp).2 (by omega)
      | int i => rfl
      | str i => rfl
      | _ => cases h
  exact key n 59 d h.1 hn
theorem neq_nil {S : List D} (h : ∀ x ∈ S, depLe 59 x = true) : neD (.lst S) (.lst []) = some (.fz (.bl (!S.isEmpty))) := by
  unfold neD
  rw [if_pos (show depLe 60 (.lst S) = true from List.all_eq_true.mpr h)]
  cases S with
  | nil => rfl
  | cons a r => simp [neO, eqO]
def gG : Nat → Nat
  | 0 => 0
  | d + 1 => 4 * gG d + 1
def gB : Nat → Nat
  | 0 => 40
  | d + 1 => 4 * gB d + 200
def gL : Nat → Nat
  | 0 => 0
  | d + 1 => 4 * (gL d + 1)
theorem set_own {v : Vl} {d : D} (hv : v = .fz d ∨ v = .ow d) {e : En} {i : Nat} {m : M Vl} {e1 : En} (h : m e = .ok v e1) : ∃ x, (x = .fz d ∨ x = .ow d) ∧ dAsg i m e = .ok .nx (e1.set i x) := by
  rcases hv with rfl | rfl
  · exact ⟨_, .inl rfl, asg_fz h⟩
  · exact ⟨_, .inr rfl, asg_ow h⟩
/-- the first steps of _law_worth -/
theorem worth_first {n : Nat} (ns : List Int) {M : Nat} {T S : List D} (dd : Int) (hn : M + 9 ≤ n + 1) (hM : 1 ≤ M) (hM2 : M ≤ 50) (hS : ∀ x ∈ S, gd M x) (hT : T.length + 40 < 16000000) :
    (∃ v d T', G__law_worth (n + 1) [.fz (.scr ns), .ow (.lst T), .fz (.int dd), .fz (.int 4), .ow (.lst S)] = .ok v [.fz (.scr ns), .ow (.lst T'), .fz (.int dd), .fz (.int 4), .ow (.lst S)] ∧ (v = .fz d ∨ v = .ow d) ∧ gd M d ∧ T'.length ≤ T.length + 40) ∨
    (dd ≠ 0 ∧ ∃ w : Int, 5 ≤ w ∧ w < 8 ∧ ∀ (v : Vl) (T' S' : List D), (∃ t, dSeq (dAsg 6 (dLst dNil))
        (dSeq (Q__law_worth_1 (G__law_draw n) (G__law_pick n) (G__law_anew n) (G__law_plain_one n) (G__law_worth n) (G__law_word n))
        (dSeq (dIfS (dOr (dBool (dOp eqD (dVar 5) (dC (.int 5)))) (dBool (dOp eqD (dVar 5) (dC (.int 6))))) (dRet [1, 4] (dVar 6)) dNext)
        (dSeq (dAsg 9 dNewK)
        (dSeq (Q__law_worth_2 (G__law_draw n) (G__law_pick n) (G__law_anew n) (G__law_plain_one n) (G__law_worth n) (G__law_word n))
        (dRet [1, 4] (dVar 9)))))) [.fz (.scr ns), .ow (.lst (T ++ [D.int 0])), .fz (.int dd), .fz (.int 4), .ow (.lst S), .fz (.int w), .no, .no, .no, .no] = .ok (.rt v) (.fz (.scr ns) :: .ow (.lst T') :: .fz (.int dd) :: .fz (.int 4) :: .ow (.lst S') :: t)) →
      G__law_worth (n + 1) [.fz (.scr ns), .ow (.lst T), .fz (.int dd), .fz (.int 4), .ow (.lst S)] = .ok v [.fz (.scr ns), .ow (.lst T'), .fz (.int dd), .fz (.int 4), .ow (.lst S')]) := by
  obtain ⟨w, hw, w0, w1⟩ := draw_ok (n := n) (by omega) ns T (by omega) 8 (by decide)
  have way : dAsg 5 (dCall [1] 3 (G__law_draw n) (dCons (dVar 0) (dCons (dVar 1) (dCons (dC (.int 8)) dNil)))) [.fz (.scr ns), .ow (.lst T), .fz (.int dd), .fz (.int 4), .ow (.lst S), .no, .no, .no, .no, .no] = .ok .nx [.fz (.scr ns), .ow (.lst (T ++ [D.int 0])), .fz (.int dd), .fz (.int 4), .ow (.lst S), .fz (.int w), .no, .no, .no, .no] :=
    asgF (call1F (d0 := .scr ns) (ds := [.int 8]) (xs := [.fz (.int 8)]) (cons_ok (var_ok rfl) (cons_ok (var_ow rfl) (cons_ok rfl nil_ok))) (frz_pl rfl) (frzs_ok rfl frzs_nil) rfl rfl hw rfl) rfl
  generalize hE : ([.fz (.scr ns), .ow (.lst (T ++ [D.int 0])), .fz (.int dd), .fz (.int 4), .ow (.lst S), .fz (.int w), .no, .no, .no, .no] : En) = E1 at way ⊢
  have start : ∀ (v : Vl) (T' S' : List D) (t : En), dSeq (dIfS (dAnd (dBool (dOp neD (dVar 4) (dLst dNil))) (dBool (dOp (cmpD fun i j => decide (i < j)) (dVar 5) (dC (.int 3))))) (dRet [1, 4] (dCall [] 1 (G__law_anew n) (dCons (dCall [1, 2] 3 (G__law_pick n) (dCons (dVar 0) (dCons (dVar 1) (dCons (dVar 4) dNil)))) dNil))) dNext)
      (dSeq (dIfS (dOr (dBool (dOp eqD (dVar 2) (dC (.int 0)))) (dBool (dOp (cmpD fun i j => decide (i < j)) (dVar 5) (dC (.int 5))))) (dRet [1, 4] (dCall [1] 2 (G__law_plain_one n) (dCons (dVar 0) (dCons (dVar 1) dNil)))) dNext)
      (dSeq (dAsg 6 (dLst dNil))
        (dSeq (Q__law_worth_1 (G__law_draw n) (G__law_pick n) (G__law_anew n) (G__law_plain_one n) (G__law_worth n) (G__law_word n))
        (dSeq (dIfS (dOr (dBool (dOp eqD (dVar 5) (dC (.int 5)))) (dBool (dOp eqD (dVar 5) (dC (.int 6))))) (dRet [1, 4] (dVar 6)) dNext)
        (dSeq (dAsg 9 dNewK)
        (dSeq (Q__law_worth_2 (G__law_draw n) (G__law_pick n) (G__law_anew n) (G__law_plain_one n) (G__law_worth n) (G__law_word n))
        (dRet [1, 4] (dVar 9)))))))) E1 = .ok (.rt v) (.fz (.scr ns) :: .ow (.lst T') :: .fz (.int dd) :: .fz (.int 4) :: .ow (.lst S') :: t) →
      G__law_worth (n + 1) [.fz (.scr ns), .ow (.lst T), .fz (.int dd), .fz (.int 4), .ow (.lst S)] = .ok v [.fz (.scr ns), .ow (.lst T'), .fz (.int dd), .fz (.int 4), .ow (.lst S')] := by
    intro v T' S' t h
    show runD [1, 4] 5 10 (m__law_worth (G__law_draw n) (G__law_pick n) (G__law_anew n) (G__law_plain_one n) (G__law_worth n) (G__law_word n)) _ = _
    refine run14 (e := .fz (.scr ns) :: .ow (.lst T') :: .fz (.int dd) :: .fz (.int 4) :: .ow (.lst S') :: t) (e0 := [.fz (.scr ns), .ow (.lst T), .fz (.int dd), .fz (.int 4), .ow (.lst S), .no, .no, .no, .no, .no]) rfl ?_ rfl
    unfold m__law_worth
    exact (seq_nx way).trans h
  subst hE
  have c1 : dBool (dOp neD (dVar 4) (dLst dNil)) [.fz (.scr ns), .ow (.lst (T ++ [D.int 0])), .fz (.int dd), .fz (.int 4), .ow (.lst S), .fz (.int w), .no, .no, .no, .no] = .ok (!S.isEmpty) [.fz (.scr ns), .ow (.lst (T ++ [D.int 0])), .fz (.int dd), .fz (.int 4), .ow (.lst S), .fz (.int w), .no, .no, .no, .no] :=
    bool_ok (op_ok (a := .lst S) (b := .lst []) (r := .fz (.bl (!S.isEmpty))) (var_ow rfl) (lst_ok nil_ok frzs_nil (Nat.zero_le _)) rfl rfl (neq_nil fun x hx => gd_dep (hS x hx) (by omega))) rfl
  have cw : ∀ c : Int, dBool (dOp (cmpD fun i j => decide (i < j)) (dVar 5) (dC (.int c))) [.fz (.scr ns), .ow (.lst (T ++ [D.int 0])), .fz (.int dd), .fz (.int 4), .ow (.lst S), .fz (.int w), .no, .no, .no, .no] = .ok (decide (w < c)) [.fz (.scr ns), .ow (.lst (T ++ [D.int 0])), .fz (.int dd), .fz (.int 4), .ow (.lst S), .fz (.int w), .no, .no, .no, .no] := fun c =>
    bool_ok (op_ok (a := .int w) (b := .int c) (y := .fz (.int c)) (r := .fz (.bl (decide (w < c)))) (var_ok rfl) rfl rfl rfl rfl) rfl
  by_cases hA : S ≠ [] ∧ w < 3
  · obtain ⟨hne, hw3⟩ := hA
    obtain ⟨x, T', hx, hm, hl⟩ := pick_ok (n := n) (by omega) ns (T ++ [D.int 0]) (by simp; omega) S hne (X := .ow (.lst S)) (.inr rfl)
    have hgx := hS x hm
    have ha := anew_ok M n x (by omega) hgx.1 hgx.2
    refine .inl ⟨cpV x, x, T', ?_, by cases x <;> first | exact .inl rfl | exact .inr rfl, hgx, by simp at hl; omega⟩
    have hr : dRet [1, 4] (dCall [] 1 (G__law_anew n) (dCons (dCall [1, 2] 3 (G__law_pick n) (dCons (dVar 0) (dCons (dVar 1) (dCons (dVar 4) dNil)))) dNil)) [.fz (.scr ns), .ow (.lst (T ++ [D.int 0])), .fz (.int dd), .fz (.int 4), .ow (.lst S), .fz (.int w), .no, .no, .no, .no] = .ok (.rt (cpV x)) [.fz (.scr ns), .ow (.lst T'), .fz (.int dd), .fz (.int 4), .ow (.lst S), .fz (.int w), .no, .no, .no, .no] := by
      have hc : dCall [] 1 (G__law_anew n) (dCons (dCall [1, 2] 3 (G__law_pick n) (dCons (dVar 0) (dCons (dVar 1) (dCons (dVar 4) dNil)))) dNil) [.fz (.scr ns), .ow (.lst (T ++ [D.int 0])), .fz (.int dd), .fz (.int 4), .ow (.lst S), .fz (.int w), .no, .no, .no, .no] = .ok (cpV x) [.fz (.scr ns), .ow (.lst T'), .fz (.int dd), .fz (.int 4), .ow (.lst S), .fz (.int w), .no, .no, .no, .no] :=
        call_ok (ds := [x]) (cons_ok (call12F (y := .pl 4) (d0 := .scr ns) (fun l z => by cases z; decide) (cons_ok (var_ok rfl) (cons_ok (var_ow rfl) (cons_ok (var_ow rfl) nil_ok))) (frz_pl rfl) rfl rfl hx rfl) nil_ok) (frzs_ok rfl frzs_nil) rfl ha
      cases x <;> first | exact ret_fz hc | exact ret_ow hc
    have hse : (!S.isEmpty) = true := by
      cases S with
      | nil => exact (hne rfl).elim
      | cons a r => rfl
    rw [hse] at c1
    exact start _ T' S _ (seq_rt ((ifs_t ((and_t c1).trans ((cw 3).trans (by rw [decide_eq_true hw3])))).trans hr))
  · have hf : dAnd (dBool (dOp neD (dVar 4) (dLst dNil))) (dBool (dOp (cmpD fun i j => decide (i < j)) (dVar 5) (dC (.int 3)))) [.fz (.scr ns), .ow (.lst (T ++ [D.int 0])), .fz (.int dd), .fz (.int 4), .ow (.lst S), .fz (.int w), .no, .no, .no, .no] = .ok false [.fz (.scr ns), .ow (.lst (T ++ [D.int 0])), .fz (.int dd), .fz (.int 4), .ow (.lst S), .fz (.int w), .no, .no, .no, .no] := by
      cases S with
      | nil => exact and_f c1
      | cons a r =>
        have hw3 : ¬ w < 3 := fun z => hA ⟨by simp, z⟩
        refine (and_t c1).trans ?_
        rw [cw 3, decide_eq_false hw3]
    have hd : dBool (dOp eqD (dVar 2) (dC (.int 0))) [.fz (.scr ns), .ow (.lst (T ++ [D.int 0])), .fz (.int dd), .fz (.int 4), .ow (.lst S), .fz (.int w), .no, .no, .no, .no] = .ok (dd == 0) [.fz (.scr ns), .ow (.lst (T ++ [D.int 0])), .fz (.int dd), .fz (.int 4), .ow (.lst S), .fz (.int w), .no, .no, .no, .no] :=
      bool_ok (op_ok (a := .int dd) (b := .int 0) (y := .fz (.int 0)) (r := .fz (.bl (dd == 0))) (var_ok rfl) rfl rfl rfl rfl) rfl
    by_cases hB : dd = 0 ∨ w < 5
    · obtain ⟨x, T', hx, hok, hcn, hkind, hl⟩ := plain_one_ok (n := n) (by omega) ns (T ++ [D.int 0]) (by simp; omega)
      have hg1 : gd 1 x := ⟨hok, by rcases hkind with rfl | rfl | h | h <;> first | rfl | (cases x <;> first | rfl | cases h)⟩
      refine .inl ⟨.fz x, x, T', ?_, .inl rfl, gd_mono hg1 hM, by simp at hl; omega⟩
      have ht : dOr (dBool (dOp eqD (dVar 2) (dC (.int 0)))) (dBool (dOp (cmpD fun i j => decide (i < j)) (dVar 5) (dC (.int 5)))) [.fz (.scr ns), .ow (.lst (T ++ [D.int 0])), .fz (.int dd), .fz (.int 4), .ow (.lst S), .fz (.int w), .no, .no, .no, .no] = .ok true [.fz (.scr ns), .ow (.lst (T ++ [D.int 0])), .fz (.int dd), .fz (.int 4), .ow (.lst S), .fz (.int w), .no, .no, .no, .no] := by
        by_cases h0 : dd = 0
        · rw [show (dd == 0) = true by simpa using h0] at hd
          exact or_t hd
        · rw [show (dd == 0) = false by simpa using h0] at hd
          refine (or_f hd).trans ?_
          rw [cw 5, decide_eq_true (hB.resolve_left h0)]
      refine start _ T' S [.fz (.int w), .no, .no, .no, .no] ((seq_nx ((ifs_f hf).trans rfl)).trans (seq_rt ((ifs_t ht).trans (ret_fz ?_))))
      · exact call1F (d0 := .scr ns) (ds := []) (xs := []) (cons_ok (var_ok rfl) (cons_ok (var_ow rfl) nil_ok)) (frz_pl rfl) frzs_nil rfl rfl hx rfl
    · have h0 : dd ≠ 0 := fun z => hB (.inl z)
      have h5 : ¬ w < 5 := fun z => hB (.inr z)
      refine .inr ⟨h0, w, by omega, w1, fun v T' S' ⟨t, h⟩ => start v T' S' t ?_⟩
      have hff : dOr (dBool (dOp eqD (dVar 2) (dC (.int 0)))) (dBool (dOp (cmpD fun i j => decide (i < j)) (dVar 5) (dC (.int 5)))) [.fz (.scr ns), .ow (.lst (T ++ [D.int 0])), .fz (.int dd), .fz (.int 4), .ow (.lst S), .fz (.int w), .no, .no, .no, .no] = .ok false [.fz (.scr ns), .ow (.lst (T ++ [D.int 0])), .fz (.int dd), .fz (.int 4), .ow (.lst S), .fz (.int w), .no, .no, .no, .no] := by
        rw [show (dd == 0) = false by simpa using h0] at hd
        refine (or_f hd).trans ?_
        rw [cw 5, decide_eq_false h5]
      exact (seq_nx ((ifs_f hf).trans rfl)).trans ((seq_nx ((ifs_f hff).trans rfl)).trans h)
theorem worth_ok (ns : List Int) : ∀ (dd n M : Nat) (T S : List D), dd + (M + gG dd) + 9 ≤ n → 1 ≤ M → M + gG dd ≤ 50 → (∀ x ∈ S, gd M x) → T.length + gB dd < 16000000 → S.length + gL dd < 16000000 →
    ∃ v d T' S', G__law_worth n [.fz (.scr ns), .ow (.lst T), .fz (.int dd), .fz (.int 4), .ow (.lst S)] = .ok v [.fz (.scr ns), .ow (.lst T'), .fz (.int dd), .fz (.int 4), .ow (.lst S')] ∧ (v = .fz d ∨ v = .ow d) ∧ gd (M + gG dd) d ∧ (∀ x ∈ S', gd (M + gG dd) x) ∧ T'.length ≤ T.length + gB dd ∧ S'.length ≤ S.length + gL dd := by
  intro dd
  induction dd with
  | zero =>
    intro n M T S hn hM hM2 hS hT hL
    have hn' : M + 8 + 1 ≤ n := by have : gG 0 = 0 := rfl
                                   omega
    obtain ⟨k, rfl, hk⟩ := up1 hn'
    have e0 : gG 0 = 0 := rfl
    have e1 : gB 0 = 40 := rfl
    rcases worth_first (n := k) ns (T := T) (S := S) (0 : Int) (M := M) (by omega) hM (by omega) hS (by omega) with ⟨v, d, T', h1, h2, h3, h4⟩ | ⟨h, _⟩
    · exact ⟨v, d, T', S, h1, h2, gd_mono h3 (by omega), fun x hx => gd_mono (hS x hx) (by omega), by omega, by omega⟩
    · exact (h rfl).elim
  | succ dd ih =>
    intro n M T S hn hM hM2 hS hT hL
    have eG : gG (dd + 1) = 4 * gG dd + 1 := rfl
    have eB : gB (dd + 1) = 4 * gB dd + 200 := rfl
    have eL : gL (dd + 1) = 4 * (gL dd + 1) := rfl
    obtain ⟨k, rfl, hk⟩ := up1 (m := dd + 1 + (M + gG (dd + 1)) + 8) (by omega)
    rcases worth_first (n := k) ns (T := T) (S := S) ((dd + 1 : Nat) : Int) (M := M) (by omega) hM (by omega) hS (by omega) with ⟨v, d, T', h1, h2, h3, h4⟩ | ⟨_, w, hw5, hw8, go⟩
    · exact ⟨v, d, T', S, h1, h2, gd_mono h3 (by omega), fun x hx => gd_mono (hS x hx) (by omega), by omega, by omega⟩
    obtain ⟨r, hr, hr0, hr1⟩ := draw_ok (n := k) (by omega) ns (T ++ [D.int 0]) (by simp; omega) 4 (by decide)
    have hm1 : (((dd + 1 : Nat) : Int)) - 1 = ((dd : Nat) : Int) := by omega
    -- the first loop
    have hi : dRg1 (dCons (dOp addD (dC (.int 1)) (dCall [1] 3 (G__law_draw k) (dCons (dVar 0) (dCons (dVar 1) (dCons (dVar 3) dNil))))) dNil) [.fz (.scr ns), .ow (.lst (T ++ [D.int 0])), .fz (.int (dd + 1 : Nat)), .fz (.int 4), .ow (.lst S), .fz (.int w), .ow (.lst []), .no, .no, .no] = .ok (rgD 0 (1 + r).toNat) [.fz (.scr ns), .ow (.lst (T ++ [D.int 0] ++ [D.int 0])), .fz (.int (dd + 1 : Nat)), .fz (.int 4), .ow (.lst S), .fz (.int w), .ow (.lst []), .no, .no, .no] := by
      refine rg1_ok (x := .fz (.int ((1 + r).toNat : Nat))) (cons_ok (e1 := [.fz (.scr ns), .ow (.lst (T ++ [D.int 0] ++ [D.int 0])), .fz (.int (dd + 1 : Nat)), .fz (.int 4), .ow (.lst S), .fz (.int w), .ow (.lst []), .no, .no, .no]) ?_ nil_ok) rfl (by omega)
      refine op_ok (a := .int 1) (b := .int r) (x := .fz (.int 1)) (y := .fz (.int r)) (e1 := [.fz (.scr ns), .ow (.lst (T ++ [D.int 0])), .fz (.int (dd + 1 : Nat)), .fz (.int 4), .ow (.lst S), .fz (.int w), .ow (.lst []), .no, .no, .no]) rfl ?_ rfl rfl ?_
      · exact call1F (d0 := .scr ns) (ds := [.int 4]) (xs := [.pl 3]) (cons_ok (var_ok rfl) (cons_ok (var_ow rfl) (cons_ok (var_ok rfl) nil_ok))) (frz_pl rfl) (frzs_ok (frz_pl rfl) frzs_nil) rfl rfl hr rfl
      · show some (Vl.fz (.int (1 + r))) = _
        rw [Int.toNat_of_nonneg (by omega)]
    have hlenR : (rgD 0 (1 + r).toNat).length = (1 + r).toNat := by simp [rgD]
    have hcnt : (1 + r).toNat ≤ 4 := by omega
    obtain ⟨e', h2, T2, S2, F2, x7, x8, i2, rfl, hT2, hS2, hF2, hTl2, hSl2, hFl2, hi2⟩ := for_inv (fg := [7]) (tgt := gtN 7) (mb := dSeq (dAsg 8 (dCall [1, 4] 5 (G__law_worth k) (dCons (dVar 0) (dCons (dVar 1) (dCons (dOp subD (dVar 2) (dC (.int 1))) (dCons (dVar 3) (dCons (dVar 4) dNil)))))))
        (dSeq (dDrop (dApp 6 (dVar 8))) (dDrop (dApp 4 (dVar 8)))))
      (fun rest e => ∃ (T2 S2 F2 : List D) (x7 x8 : Ent) (i : Nat), e = [.fz (.scr ns), .ow (.lst T2), .fz (.int (dd + 1 : Nat)), .fz (.int 4), .ow (.lst S2), .fz (.int w), .ow (.lst F2), x7, x8, .no] ∧ i + rest.length = (1 + r).toNat ∧ (∀ x ∈ S2, gd (M + i * gG dd) x) ∧ (∀ x ∈ F2, gd (M + i * gG dd) x) ∧ T2.length ≤ T.length + 2 + i * gB dd ∧ S2.length ≤ S.length + i * (gL dd + 1) ∧ F2.length = i ∧ i ≤ 4)
      hi ⟨_, S, [], .no, .no, 0, rfl, by rw [hlenR]; omega, fun x hx => gd_mono (hS x hx) (by omega), (fun _ z => nomatch z), by simp, by omega, rfl, by omega⟩ (by
        rintro y rest e ⟨T2, S2, F2, x7, x8, i, rfl, hir, hS2, hF2, hTl, hSl, hFl, hi4⟩
        have hi3 : i + 1 ≤ 4 := by rw [List.length_cons] at hir; omega
        have b1 : i * gG dd ≤ 3 * gG dd := Nat.mul_le_mul_right _ (by omega)
        have b2 : i * gB dd ≤ 3 * gB dd := Nat.mul_le_mul_right _ (by omega)
        have b3 : i * (gL dd + 1) ≤ 3 * (gL dd + 1) := Nat.mul_le_mul_right _ (by omega)
        have s1 : (i + 1) * gG dd = i * gG dd + gG dd := Nat.succ_mul _ _
        have s2 : (i + 1) * gB dd = i * gB dd + gB dd := Nat.succ_mul _ _
        have s3 : (i + 1) * (gL dd + 1) = i * (gL dd + 1) + (gL dd + 1) := Nat.succ_mul _ _
        obtain ⟨v, d, T3, S3, hv, hvd, hgd, hS3, hT3, hSl3⟩ := ih k (M + i * gG dd) T2 S2 (by omega) (by omega) (by omega) hS2 (by omega) (by omega)
        have hcall : dCall [1, 4] 5 (G__law_worth k) (dCons (dVar 0) (dCons (dVar 1) (dCons (dOp subD (dVar 2) (dC (.int 1))) (dCons (dVar 3) (dCons (dVar 4) dNil))))) [.fz (.scr ns), .ow (.lst T2), .fz (.int (dd + 1 : Nat)), .fz (.int 4), .ow (.lst S2), .fz (.int w), .ow (.lst F2), .fz y, x8, .no] = .ok v [.fz (.scr ns), .ow (.lst T3), .fz (.int (dd + 1 : Nat)), .fz (.int 4), .ow (.lst S3), .fz (.int w), .ow (.lst F2), .fz y, x8, .no] := by
          refine call14F (j := 1) (l := 4) (d0 := .scr ns) (d2 := .int dd) (d3 := .int 4) (by decide) (cons_ok (var_ok rfl) (cons_ok (var_ow rfl) (cons_ok (op_ok (a := .int (dd + 1 : Nat)) (b := .int 1) (y := .fz (.int 1)) (r := .fz (.int dd)) (var_ok rfl) rfl rfl rfl ?_) (cons_ok (var_ok rfl) (cons_ok (var_ow rfl) nil_ok))))) (frz_pl rfl) rfl (frz_pl rfl) rfl rfl hv rfl
          show some (Vl.fz (.int (((dd + 1 : Nat) : Int) - 1))) = _
          rw [hm1]
        have e6 : ∀ x ∈ F2 ++ [d], gd (M + (i + 1) * gG dd) x := fun x hx => by
          rcases List.mem_append.mp hx with z | z
          · exact gd_mono (hF2 x z) (by omega)
          · have : x = d := by simpa using z
            subst this
            exact gd_mono hgd (by omega)
        have e4 : ∀ x ∈ S3 ++ [d], gd (M + (i + 1) * gG dd) x := fun x hx => by
          rcases List.mem_append.mp hx with z | z
          · exact gd_mono (hS3 x z) (by omega)
          · have : x = d := by simpa using z
            subst this
            exact gd_mono hgd (by omega)
        refine ⟨[.fz (.scr ns), .ow (.lst T2), .fz (.int (dd + 1 : Nat)), .fz (.int 4), .ow (.lst S2), .fz (.int w), .ow (.lst F2), .fz y, x8, .no], [.fz (.scr ns), .ow (.lst T3), .fz (.int (dd + 1 : Nat)), .fz (.int 4), .ow (.lst (S3 ++ [d])), .fz (.int w), .ow (.lst (F2 ++ [d])), .fz y, .fz d, .no], rfl, .inl ?_, T3, S3 ++ [d], F2 ++ [d], .fz y, .fz d, i + 1, rfl, by rw [List.length_cons] at hir; omega, e4, e6, by omega, by simp; omega, by simp; omega, hi3⟩
        have tail : dSeq (dDrop (dApp 6 (dVar 8))) (dDrop (dApp 4 (dVar 8))) [.fz (.scr ns), .ow (.lst T3), .fz (.int (dd + 1 : Nat)), .fz (.int 4), .ow (.lst S3), .fz (.int w), .ow (.lst F2), .fz y, .fz d, .no] = .ok .nx [.fz (.scr ns), .ow (.lst T3), .fz (.int (dd + 1 : Nat)), .fz (.int 4), .ow (.lst (S3 ++ [d])), .fz (.int w), .ow (.lst (F2 ++ [d])), .fz y, .fz d, .no] := by
          refine (seq_nx (e1 := [.fz (.scr ns), .ow (.lst T3), .fz (.int (dd + 1 : Nat)), .fz (.int 4), .ow (.lst S3), .fz (.int w), .ow (.lst (F2 ++ [d])), .fz y, .fz d, .no]) (drop_ok (x := .fz .non) (appF (ds0 := F2) (ds := F2) (d := d) rfl (var_ok rfl) (frz_pl rfl) rfl (by omega) rfl))).trans ?_
          exact drop_ok (x := .fz .non) (appF (ds0 := S3) (ds := S3) (d := d) rfl (var_ok rfl) (frz_pl rfl) rfl (by omega) rfl)
        rcases hvd with rfl | rfl
        · exact (seq_nx (asgF hcall rfl)).trans tail
        · refine (seq_nx (e1 := [.fz (.scr ns), .ow (.lst T3), .fz (.int (dd + 1 : Nat)), .fz (.int 4), .ow (.lst S3), .fz (.int w), .ow (.lst F2), .fz y, .ow d, .no]) (asgO hcall rfl)).trans ?_
          refine (seq_nx (e1 := [.fz (.scr ns), .ow (.lst T3), .fz (.int (dd + 1 : Nat)), .fz (.int 4), .ow (.lst S3), .fz (.int w), .ow (.lst (F2 ++ [d])), .fz y, .fz d, .no]) (drop_ok (x := .fz .non) (appF (ds0 := F2) (ds := F2) (d := d) rfl (var_ow rfl) (frz_plow rfl) rfl (by omega) rfl))).trans ?_
          exact drop_ok (x := .fz .non) (appF (ds0 := S3) (ds := S3) (d := d) rfl (var_ok rfl) (frz_pl rfl) rfl (by omega) rfl))
    have hnr : T2.length ≤ T.length + 2 + 4 * gB dd ∧ S2.length ≤ S.length + 4 * (gL dd + 1) ∧ M + i2 * gG dd ≤ M + 4 * gG dd ∧ F2.length ≤ 4 := by
      have b1 : i2 * gG dd ≤ 4 * gG dd := Nat.mul_le_mul_right _ (by omega)
      have b2 : i2 * gB dd ≤ 4 * gB dd := Nat.mul_le_mul_right _ (by omega)
      have b3 : i2 * (gL dd + 1) ≤ 4 * (gL dd + 1) := Nat.mul_le_mul_right _ (by omega)
      omega
    obtain ⟨n1, n2, n3, n4⟩ := hnr
    have hS2' : ∀ x ∈ S2, gd (M + gG (dd + 1)) x := fun x hx => gd_mono (hS2 x hx) (by omega)
    have hF2' : ∀ x ∈ F2, gd (M + 4 * gG dd) x := fun x hx => gd_mono (hF2 x hx) (by omega)
    have first : dSeq (dAsg 6 (dLst dNil))
        (dSeq (Q__law_worth_1 (G__law_draw k) (G__law_pick k) (G__law_anew k) (G__law_plain_one k) (G__law_worth k) (G__law_word k))
        (dSeq (dIfS (dOr (dBool (dOp eqD (dVar 5) (dC (.int 5)))) (dBool (dOp eqD (dVar 5) (dC (.int 6))))) (dRet [1, 4] (dVar 6)) dNext)
        (dSeq (dAsg 9 dNewK)
        (dSeq (Q__law_worth_2 (G__law_draw k) (G__law_pick k) (G__law_anew k) (G__law_plain_one k) (G__law_worth k) (G__law_word k))
        (dRet [1, 4] (dVar 9)))))) [.fz (.scr ns), .ow (.lst (T ++ [D.int 0])), .fz (.int (dd + 1 : Nat)), .fz (.int 4), .ow (.lst S), .fz (.int w), .no, .no, .no, .no] =
      dSeq (dIfS (dOr (dBool (dOp eqD (dVar 5) (dC (.int 5)))) (dBool (dOp eqD (dVar 5) (dC (.int 6))))) (dRet [1, 4] (dVar 6)) dNext)
        (dSeq (dAsg 9 dNewK)
        (dSeq (Q__law_worth_2 (G__law_draw k) (G__law_pick k) (G__law_anew k) (G__law_plain_one k) (G__law_worth k) (G__law_word k))
        (dRet [1, 4] (dVar 9)))) [.fz (.scr ns), .ow (.lst T2), .fz (.int (dd + 1 : Nat)), .fz (.int 4), .ow (.lst S2), .fz (.int w), .ow (.lst F2), .no, x8, .no] := by
      refine (seq_nx (e1 := [.fz (.scr ns), .ow (.lst (T ++ [D.int 0])), .fz (.int (dd + 1 : Nat)), .fz (.int 4), .ow (.lst S), .fz (.int w), .ow (.lst []), .no, .no, .no]) (asgO (lst_ok nil_ok frzs_nil (Nat.zero_le _)) rfl)).trans ?_
      exact seq_nx h2
    have cq : ∀ c : Int, dBool (dOp eqD (dVar 5) (dC (.int c))) [.fz (.scr ns), .ow (.lst T2), .fz (.int (dd + 1 : Nat)), .fz (.int 4), .ow (.lst S2), .fz (.int w), .ow (.lst F2), .no, x8, .no] = .ok (w == c) [.fz (.scr ns), .ow (.lst T2), .fz (.int (dd + 1 : Nat)), .fz (.int 4), .ow (.lst S2), .fz (.int w), .ow (.lst F2), .no, x8, .no] := fun c =>
      bool_ok (op_ok (a := .int w) (b := .int c) (y := .fz (.int c)) (r := .fz (.bl (w == c))) (var_ok rfl) rfl rfl rfl rfl) rfl
    have gF : gd (M + gG (dd + 1)) (.lst F2) := by
      have e : M + gG (dd + 1) = (M + 4 * gG dd) + 1 := by omega
      rw [e]
      exact ⟨okW_lst.mpr fun d hd => (hF2' d hd).1, wdW_lst.mpr ⟨by omega, fun d hd => (hF2' d hd).2⟩⟩
    by_cases h56 : w = 5 ∨ w = 6
    · refine ⟨.ow (.lst F2), .lst F2, T2, S2, go _ T2 S2 ⟨[.fz (.int w), .no, .no, x8, .no], first.trans (seq_rt ((ifs_t (e1 := [.fz (.scr ns), .ow (.lst T2), .fz (.int (dd + 1 : Nat)), .fz (.int 4), .ow (.lst S2), .fz (.int w), .ow (.lst F2), .no, x8, .no]) ?_).trans rfl))⟩, .inr rfl, gF, hS2', by omega, by omega⟩
      rcases h56 with h | h
      · exact or_t ((cq 5).trans (by rw [show (w == 5) = true by simpa using h]))
      · have h5 : (w == 5) = false := by simp; omega
        exact (or_f ((cq 5).trans (by rw [h5]))).trans ((cq 6).trans (by rw [show (w == 6) = true by simpa using h]))
    · have h5 : (w == 5) = false := by simp; omega
      have h6 : (w == 6) = false := by simp; omega
      -- the second loop
      have it2 : dIt (dVar 6) [.fz (.scr ns), .ow (.lst T2), .fz (.int (dd + 1 : Nat)), .fz (.int 4), .ow (.lst S2), .fz (.int w), .ow (.lst F2), .no, x8, .ow (.dic [])] = .ok F2 [.fz (.scr ns), .ow (.lst T2), .fz (.int (dd + 1 : Nat)), .fz (.int 4), .ow (.lst S2), .fz (.int w), .fz (.lst F2), .no, x8, .ow (.dic [])] :=
        it_ok (d := .lst F2) (var_ow rfl) (frz_plow rfl) rfl
      obtain ⟨e2, h3, T4, x4, ks, i4, rfl, hk1, hk2, hk3, hT4, hkl, hi4⟩ := for_inv (fg := [8]) (tgt := gtN 8) (mb := dPut 9 (dCall [1] 2 (G__law_word k) (dCons (dVar 0) (dCons (dVar 1) dNil))) (dVar 8))
        (fun rest e => ∃ (T4 : List D) (x4 : Ent) (ks : List (Key × D)) (i : Nat), e = [.fz (.scr ns), .ow (.lst T4), .fz (.int (dd + 1 : Nat)), .fz (.int 4), .ow (.lst S2), .fz (.int w), .fz (.lst F2), .no, x4, .ow (.dic ks)] ∧ (∀ p ∈ ks, okK p.1 = true ∧ gd (M + 4 * gG dd) p.2) ∧ (ks.map (·.1)).Nodup ∧ (∀ x ∈ rest, x ∈ F2) ∧ T4.length ≤ T2.length + i * 14 ∧ ks.length ≤ i ∧ i + rest.length = F2.length)
        it2 ⟨T2, x8, [], 0, rfl, (fun _ z => nomatch z), List.nodup_nil, fun x hx => hx, by simp, Nat.le_refl _, by simp⟩ (by
          rintro y rest e ⟨T4, x4, ks, i, rfl, hk1, hk2, hk3, hT4, hkl, hir⟩
          rw [List.length_cons] at hir
          have hy := hF2' y (hk3 y List.mem_cons_self)
          obtain ⟨s, T5, hs, hok, hT5⟩ := word_ok (n := k) (by omega) ns T4 (by omega)
          have hkl2 : (putG ks (Sum.inr s) y).length ≤ ks.length + 1 := by
            have := congrArg List.length (putG_keys ks (Sum.inr s) y)
            rw [List.length_map] at this
            rw [this]
            split
            · simp
            · simp
          refine ⟨[.fz (.scr ns), .ow (.lst T4), .fz (.int (dd + 1 : Nat)), .fz (.int 4), .ow (.lst S2), .fz (.int w), .fz (.lst F2), .no, .fz y, .ow (.dic ks)], [.fz (.scr ns), .ow (.lst T5), .fz (.int (dd + 1 : Nat)), .fz (.int 4), .ow (.lst S2), .fz (.int w), .fz (.lst F2), .no, .fz y, .ow (.dic (putG ks (Sum.inr s) y))], rfl, .inl ?_, T5, .fz y, putG ks (Sum.inr s) y, i + 1, rfl, fun p hp => ?_, putG_nodup hk2, fun x hx => hk3 x (List.mem_cons_of_mem _ hx), by omega, by omega, by omega⟩
          · exact put_okD (x := .pl 8) (y := .fz (.str s)) (k := .str s) (q := Sum.inr s) (d := y) (ks := ks) (w := .dic ks) (e1 := [.fz (.scr ns), .ow (.lst T4), .fz (.int (dd + 1 : Nat)), .fz (.int 4), .ow (.lst S2), .fz (.int w), .fz (.lst F2), .no, .fz y, .ow (.dic ks)]) (e2 := [.fz (.scr ns), .ow (.lst T5), .fz (.int (dd + 1 : Nat)), .fz (.int 4), .ow (.lst S2), .fz (.int w), .fz (.lst F2), .no, .fz y, .ow (.dic ks)]) (e3 := [.fz (.scr ns), .ow (.lst T5), .fz (.int (dd + 1 : Nat)), .fz (.int 4), .ow (.lst S2), .fz (.int w), .fz (.lst F2), .no, .fz y, .ow (.dic ks)]) (var_ok rfl) rfl (call1F (d0 := .scr ns) (ds := []) (xs := []) (cons_ok (var_ok rfl) (cons_ok (var_ow rfl) nil_ok)) (frz_pl rfl) frzs_nil rfl rfl hs rfl) rfl (frz_pl rfl) rfl rfl (by omega) hk2
          · rcases putG_mem hp with z | z
            · exact hk1 p z
            · rw [z]; exact ⟨hok, hy⟩)
      have gK : gd (M + gG (dd + 1)) (.dic ks) := by
        have e : M + gG (dd + 1) = (M + 4 * gG dd) + 1 := by omega
        rw [e]
        exact ⟨okW_dic.mpr ⟨fun p hp => ⟨(hk1 p hp).1, (hk1 p hp).2.1⟩, hk2⟩, wdW_dic.mpr ⟨by omega, fun p hp => (hk1 p hp).2.2⟩⟩
      refine ⟨.ow (.dic ks), .dic ks, T4, S2, go _ T4 S2 ⟨[.fz (.int w), .fz (.lst F2), .no, .no, .no], first.trans ?_⟩, .inr rfl, gK, hS2', by omega, by omega⟩
      refine (seq_nx (e1 := [.fz (.scr ns), .ow (.lst T2), .fz (.int (dd + 1 : Nat)), .fz (.int 4), .ow (.lst S2), .fz (.int w), .ow (.lst F2), .no, x8, .no]) ((ifs_f ((or_f ((cq 5).trans (by rw [h5]))).trans ((cq 6).trans (by rw [h6])))).trans rfl)).trans ?_
      refine (seq_nx (e1 := [.fz (.scr ns), .ow (.lst T2), .fz (.int (dd + 1 : Nat)), .fz (.int 4), .ow (.lst S2), .fz (.int w), .ow (.lst F2), .no, x8, .ow (.dic [])]) rfl).trans ?_
      exact (seq_nx h3).trans rfl
end LP
end S_Pl
section S_Pm
set_option maxHeartbeats 0
namespace LP
open PySem PySem.Spec PyProof.Rows L2 L3
--BEGIN
def lastOne : D := .lst [.int 1, .str "a", .lst [.int 1, .str "a"]]
def nice (d : D) : Prop := gd 22 d ∧ cntW d < 55 ∧ dp d < 6
theorem nice_last : nice lastOne := ⟨⟨by decide +kernel, by decide +kernel⟩, by decide +kernel, by decide +kernel⟩
theorem cnt_cmp {k : Nat} {d : D} (hg : gd 22 d) (hk : 23 ≤ k) (scr : D) (T : List D) (d2 d3 : D) (F : List D) (j : Int) (c : Int) (f : Int → Int → Bool) (v : Int) (hv : ixD (cntT d) (.int j) = some (.fz (.int v))) :
    dBool (dOp (cmpD f) (dOp ixD (dCall [] 1 (G__law_count k) (dCons (dVar 6) dNil)) (dC (.int j))) (dC (.int c))) [.fz scr, .ow (.lst T), .fz d2, .fz d3, .fz (.lst F), .no, .fz d] = .ok (f v c) [.fz scr, .ow (.lst T), .fz d2, .fz d3, .fz (.lst F), .no, .fz d] :=
  bool_ok (op_ok (a := .int v) (b := .int c) (y := .fz (.int c)) (r := .fz (.bl (f v c))) (op_ok (a := cntT d) (b := .int j) (y := .fz (.int j)) (call_ok (ds := [d]) (cons_ok (var_ok rfl) nil_ok) (frzs_ok (frz_pl rfl) frzs_nil) rfl (count_ok 22 k d hk hg.1 hg.2)) rfl rfl rfl hv) rfl rfl rfl rfl) rfl
theorem filt_len {α : Type} (p : α → Bool) : ∀ l : List α, (l.flatMap fun d => if p d = true then [d] else []).length ≤ l.length
  | [] => Nat.le_refl _
  | a :: r => by
    have ih := filt_len p r
    rw [List.flatMap_cons, List.length_append, List.length_cons]
    cases p a with
    | true => rw [if_pos rfl, List.length_singleton]; omega
    | false => rw [if_neg Bool.false_ne_true, List.length_nil]; omega
theorem good_ok {n : Nat} (hn : 36 ≤ n) (ns : List Int) (T : List D) (hT : T.length + 3 * gB 3 < 15000000) : ∃ d T', G__law_good n [.fz (.scr ns), .ow (.lst T), .fz (.int 3), .fz (.int 4)] = .ok (.fz d) [.fz (.scr ns), .ow (.lst T'), .fz (.int 3), .fz (.int 4)] ∧ nice d ∧ T'.length ≤ T.length + 3 * gB 3 := by
  obtain ⟨k, rfl, hk⟩ := up1 hn
  have eG : gG 3 = 21 := rfl
  have eB : gB 3 = 6760 := rfl
  have eL : gL 3 = 84 := rfl
  obtain ⟨out, e', h1, ⟨T2, x5, rfl, hout, hTl⟩, hlen⟩ := lc_inv (vs := [5]) (tgt := gtN 5) (mi := dRg1 (dCons (dC (.int 3)) dNil)) (me := dCall [1, 4] 5 (G__law_worth k) (dCons (dVar 0) (dCons (dVar 1) (dCons (dVar 2) (dCons (dVar 3) (dCons (dLst dNil) dNil))))))
    (fun acc e => ∃ (T2 : List D) (x5 : Ent), e = [.fz (.scr ns), .ow (.lst T2), .fz (.int 3), .fz (.int 4), .no, x5, .no] ∧ (∀ x ∈ acc, gd 22 x) ∧ T2.length ≤ T.length + acc.length * gB 3)
    (e := [.fz (.scr ns), .ow (.lst T), .fz (.int 3), .fz (.int 4), .no, .no, .no]) (ei := [.fz (.scr ns), .ow (.lst T), .fz (.int 3), .fz (.int 4), .no, .no, .no]) (ds := rgD 0 3)
    (rg1_ok (x := .fz (.int 3)) (j := 3) (cons_ok rfl nil_ok) rfl (by decide)) (by decide) ⟨T, .no, rfl, (fun _ z => nomatch z), by simp⟩ (by
      rintro y hy acc e hac ⟨T2, x5, rfl, hacc, hTl⟩
      have hac' : acc.length < 3 := hac
      have b1 : acc.length * gB 3 ≤ 2 * gB 3 := Nat.mul_le_mul_right _ (by omega)
      have s1 : (acc.length + 1) * gB 3 = acc.length * gB 3 + gB 3 := Nat.succ_mul _ _
      obtain ⟨v, d, T3, S3, hv, hvd, hgd, hS3, hT3, hSl3⟩ := worth_ok ns 3 k 1 T2 [] (by omega) (by omega) (by omega) (fun _ z => nomatch z) (by omega) (by simp; omega)
      refine ⟨[.fz (.scr ns), .ow (.lst T2), .fz (.int 3), .fz (.int 4), .no, .fz y, .no], d, [.fz (.scr ns), .ow (.lst T3), .fz (.int 3), .fz (.int 4), .no, .fz y, .no], rfl, el_ok (x := v) (e1 := [.fz (.scr ns), .ow (.lst T3), .fz (.int 3), .fz (.int 4), .no, .fz y, .no]) ?_ (by rcases hvd with rfl | rfl <;> rfl), T3, .fz y, rfl, fun x hx => ?_, by simp only [List.length_append, List.length_singleton]; omega⟩
      · exact call14N (j := 1) (w := .lst []) (d0 := .scr ns) (d2 := .int 3) (d3 := .int 4) (cons_ok (var_ok rfl) (cons_ok (var_ow rfl) (cons_ok (var_ok rfl) (cons_ok (var_ok rfl) (cons_ok (lst_ok nil_ok frzs_nil (Nat.zero_le _)) nil_ok))))) (frz_pl rfl) (frz_pl rfl) (frz_pl rfl) rfl hv rfl
      · rcases List.mem_append.mp hx with z | z
        · exact hacc x z
        · have : x = d := by simpa using z
          subst this
          exact gd_mono hgd (by omega))
  have hlen3 : out.length = 3 := hlen
  rw [hlen3] at hTl
  have q2 : Q__law_good_2 (G__law_worth k) (G__law_count k) [.fz (.scr ns), .ow (.lst T2), .fz (.int 3), .fz (.int 4), .ow (.lst out), .no, .no] = .ok (.ow (.lst (out.flatMap fun d => if decide ((cntW d : Int) < 55) && decide ((dp d : Int) < 6) then [d] else []))) [.fz (.scr ns), .ow (.lst T2), .fz (.int 3), .fz (.int 4), .fz (.lst out), .no, .no] := by
    refine lc_gen (ds := out) (ei := [.fz (.scr ns), .ow (.lst T2), .fz (.int 3), .fz (.int 4), .fz (.lst out), .no, .no]) _ (it_ok (d := .lst out) (var_ow rfl) (frz_plow rfl) rfl) (by omega) fun d hd => ?_
    have hg := hout d hd
    have c1 := cnt_cmp (k := k) hg (by omega) (.scr ns) T2 (.int 3) (.int 4) out 0 55 (fun i j => decide (i < j)) (cntW d) rfl
    have c2 := cnt_cmp (k := k) hg (by omega) (.scr ns) T2 (.int 3) (.int 4) out 1 6 (fun i j => decide (i < j)) (dp d) rfl
    refine ⟨[.fz (.scr ns), .ow (.lst T2), .fz (.int 3), .fz (.int 4), .fz (.lst out), .no, .fz d], decide ((cntW d : Int) < 55) && decide ((dp d : Int) < 6), [.fz (.scr ns), .ow (.lst T2), .fz (.int 3), .fz (.int 4), .fz (.lst out), .no, .fz d], rfl, ?_, fun z => ⟨d, _, el_ok (var_ok rfl) (frz_pl rfl), rfl, by rw [if_pos z]⟩, fun z => ⟨rfl, by rw [if_neg (by rw [z]; exact Bool.false_ne_true)]⟩⟩
    unfold noX
    cases h55 : decide ((cntW d : Int) < 55) with
    | false => rw [and_f (c1.trans (by rw [h55]))]; rfl
    | true => rw [(and_t (c1.trans (by rw [h55]))).trans c2]; rfl
  generalize hB : (out.flatMap fun d => if decide ((cntW d : Int) < 55) && decide ((dp d : Int) < 6) then [d] else []) = B at q2
  have hBn : ∀ d ∈ B, nice d := by
    intro d hd
    rw [← hB] at hd
    obtain ⟨a, ha, hm⟩ := List.mem_flatMap.mp hd
    by_cases hc : (decide ((cntW a : Int) < 55) && decide ((dp a : Int) < 6)) = true
    · rw [if_pos hc] at hm
      have : d = a := by simpa using hm
      subst this
      simp only [Bool.and_eq_true, decide_eq_true_eq] at hc
      exact ⟨hout _ ha, by omega, by omega⟩
    · rw [if_neg hc] at hm; cases hm
  have hBl : B.length ≤ 3 := by
    rw [← hB]
    have := filt_len (fun d => decide ((cntW d : Int) < 55) && decide ((dp d : Int) < 6)) out
    omega
  have q3 : Q__law_good_3 (G__law_worth k) (G__law_count k) [.fz (.scr ns), .ow (.lst T2), .fz (.int 3), .fz (.int 4), .ow (.lst B), .no, .no] = .ok (.ow (.lst (B.flatMap fun d => if decide ((2 : Int) < cntW d) then [d] else []))) [.fz (.scr ns), .ow (.lst T2), .fz (.int 3), .fz (.int 4), .fz (.lst B), .no, .no] := by
    refine lc_gen (ds := B) (ei := [.fz (.scr ns), .ow (.lst T2), .fz (.int 3), .fz (.int 4), .fz (.lst B), .no, .no]) _ (it_ok (d := .lst B) (var_ow rfl) (frz_plow rfl) rfl) (by omega) fun d hd => ?_
    have c1 := cnt_cmp (k := k) (hBn d hd).1 (by omega) (.scr ns) T2 (.int 3) (.int 4) B 0 2 (fun i j => decide (j < i)) (cntW d) rfl
    refine ⟨[.fz (.scr ns), .ow (.lst T2), .fz (.int 3), .fz (.int 4), .fz (.lst B), .no, .fz d], decide ((2 : Int) < cntW d), [.fz (.scr ns), .ow (.lst T2), .fz (.int 3), .fz (.int 4), .fz (.lst B), .no, .fz d], rfl, ?_, fun z => ⟨d, _, el_ok (var_ok rfl) (frz_pl rfl), rfl, by rw [if_pos z]⟩, fun z => ⟨rfl, by rw [if_neg (by rw [z]; exact Bool.false_ne_true)]⟩⟩
    unfold noX
    rw [c1]
  generalize hC : (B.flatMap fun d => if decide ((2 : Int) < cntW d) then [d] else []) = C at q3
  have hCn : ∀ d ∈ C, nice d := by
    intro d hd
    rw [← hC] at hd
    obtain ⟨a, ha, hm⟩ := List.mem_flatMap.mp hd
    by_cases hc : decide ((2 : Int) < cntW a) = true
    · rw [if_pos hc] at hm
      have : d = a := by simpa using hm
      subst this
      exact hBn _ ha
    · rw [if_neg hc] at hm; cases hm
  have hCl : C.length ≤ 3 := by
    rw [← hC]
    have := filt_len (fun d => decide ((2 : Int) < cntW d)) B
    omega
  have hall : ∀ d ∈ C ++ B ++ [lastOne], nice d := fun d hd => by
    rcases List.mem_append.mp hd with z | z
    · rcases List.mem_append.mp z with y | y
      · exact hCn d y
      · exact hBn d y
    · have : d = lastOne := by simpa using z
      rw [this]; exact nice_last
  obtain ⟨hd0, tl0, hL⟩ : ∃ a r, C ++ B ++ [lastOne] = a :: r := by
    cases h : C ++ B ++ [lastOne] with
    | nil => simp at h
    | cons a r => exact ⟨a, r, rfl⟩
  refine ⟨hd0, T2, ?_, hall hd0 (by rw [hL]; exact List.mem_cons_self), hTl⟩
  show runD [1] 4 7 (m__law_good (G__law_worth k) (G__law_count k)) _ = _
  refine run1 (e0 := [.fz (.scr ns), .ow (.lst T), .fz (.int 3), .fz (.int 4), .no, .no, .no]) (e := [.fz (.scr ns), .ow (.lst T2), .fz (.int 3), .fz (.int 4), .ow (.lst (C ++ B ++ [lastOne])), .no, .no]) rfl ?_ rfl
  unfold m__law_good
  refine (seq_nx (e1 := [.fz (.scr ns), .ow (.lst T2), .fz (.int 3), .fz (.int 4), .ow (.lst out), .no, .no]) (asgO h1 rfl)).trans ?_
  refine (seq_nx (e1 := [.fz (.scr ns), .ow (.lst T2), .fz (.int 3), .fz (.int 4), .ow (.lst B), .no, .no]) (asgO q2 rfl)).trans ?_
  refine (seq_nx (e1 := [.fz (.scr ns), .ow (.lst T2), .fz (.int 3), .fz (.int 4), .ow (.lst (C ++ B ++ [lastOne])), .no, .no]) (asgO (e1 := [.fz (.scr ns), .ow (.lst T2), .fz (.int 3), .fz (.int 4), .fz (.lst B), .no, .no]) (op_ok (a := .lst (C ++ B)) (b := .lst [lastOne]) (x := .ow (.lst (C ++ B))) (y := .ow (.lst [lastOne])) (r := .ow (.lst (C ++ B ++ [lastOne]))) (op_ok (a := .lst C) (b := .lst B) (x := .ow (.lst C)) (y := .pl 4) (r := .ow (.lst (C ++ B))) q3 (var_ok rfl) rfl rfl (if_pos (by omega))) ?_ rfl rfl (if_pos (by simp; omega))) rfl)).trans ?_
  · exact lst_ok (ds := [lastOne]) (xs := [.ow lastOne]) (cons_ok (lst_ok (ds := [.int 1, .str "a", .lst [.int 1, .str "a"]]) (xs := [.fz (.int 1), .fz (.str "a"), .ow (.lst [.int 1, .str "a"])]) (cons_ok rfl (cons_ok rfl (cons_ok (lst_ok (ds := [.int 1, .str "a"]) (cons_ok rfl (cons_ok rfl nil_ok)) rfl (by decide)) nil_ok))) rfl (by decide)) nil_ok) rfl (by decide)
  · refine ret_fz (op_ok (a := .lst (C ++ B ++ [lastOne])) (b := .int 0) (y := .fz (.int 0)) (var_ow rfl) rfl rfl rfl ?_)
    show (L2.atI (C ++ B ++ [lastOne]) 0).map Vl.fz = _
    rw [hL, show (0 : Int) = ((0 : Nat) : Int) from rfl, atI_nat (j := 0) (xs := hd0 :: tl0) (v := hd0) rfl]; rfl
end LP
end S_Pm
section S_Po
set_option maxHeartbeats 0
namespace LP
open PySem PySem.Spec PyProof.Rows L2 L3
--BEGIN
theorem step_eq {a b : D} (ha : flatStep a = true) (hb : flatStep b = true) : ∃ c, eqO a b = some c ∧ (c = true ↔ a = b) := by
  cases a with
  | int i => cases b with
    | int j => exact ⟨i == j, rfl, by simp⟩
    | str y => exact ⟨false, rfl, by simp⟩
    | _ => cases hb
  | str x => cases b with
    | int j => exact ⟨false, rfl, by simp⟩
    | str y => exact ⟨x == y, rfl, by simp⟩
    | _ => cases hb
  | _ => cases ha
theorem steps_eq : ∀ {p q : List D}, (∀ s ∈ p, flatStep s = true) → (∀ s ∈ q, flatStep s = true) → ∃ c, eqOs p q = some c ∧ ((c && p.length == q.length) = true ↔ p = q)
  | [], q, _, _ => ⟨true, by cases q <;> rfl, by cases q <;> simp⟩
  | _ :: _, [], _, _ => ⟨true, rfl, by simp⟩
  | a :: p, b :: q, hp, hq => by
    obtain ⟨c, h1, h2⟩ := step_eq (hp a List.mem_cons_self) (hq b List.mem_cons_self)
    obtain ⟨c', h3, h4⟩ := steps_eq (p := p) (q := q) (fun s hs => hp s (List.mem_cons_of_mem _ hs)) (fun s hs => hq s (List.mem_cons_of_mem _ hs))
    refine ⟨c && c', by simp only [eqOs, h1, h3], ?_⟩
    have e : (p.length + 1 == q.length + 1) = (p.length == q.length) := by simp
    simp only [List.length_cons, e, List.cons.injEq, ← h2, ← h4, Bool.and_eq_true]
    constructor
    · rintro ⟨⟨x, y⟩, z⟩; exact ⟨x, y, z⟩
    · rintro ⟨x, y, z⟩; exact ⟨⟨x, y⟩, z⟩
theorem tup_eq {p q : List D} (hp : ∀ s ∈ p, flatStep s = true) (hq : ∀ s ∈ q, flatStep s = true) : ∃ c, eqO (.tup p) (.tup q) = some c ∧ (c = true ↔ p = q) := by
  obtain ⟨c, h1, h2⟩ := steps_eq hp hq
  exact ⟨c && p.length == q.length, by simp only [eqO, h1], h2⟩
theorem tup_ne {p q : List D} (hp : ∀ s ∈ p, flatStep s = true) (hq : ∀ s ∈ q, flatStep s = true) : ∃ c, neD (.tup p) (.tup q) = some (.fz (.bl c)) ∧ (c = true ↔ p ≠ q) := by
  obtain ⟨c, h1, h2⟩ := tup_eq hp hq
  refine ⟨!c, ?_, ?_⟩
  · unfold neD
    rw [if_pos (flat_dep hp)]
    simp only [neO, h1]
  · cases c with
    | true => simp [h2.mp rfl]
    | false => simp; intro z; exact absurd (h2.mpr z) Bool.false_ne_true
theorem apart_of : ∀ {p q : List D}, q.take p.length ≠ p → p.take q.length ≠ q → apart p q
  | [], q, h, _ => (h (by simp)).elim
  | _ :: _, [], _, h => (h (by simp)).elim
  | s :: p, t :: q, h1, h2 => by
    by_cases hst : s = t
    · subst hst
      exact .inr (apart_of (fun z => h1 (by simp [z])) fun z => h2 (by simp [z]))
    · exact .inl hst
theorem cut_head {α : Type} (p : List α) (k : Nat) : L3.cutD p none (some (k : Int)) = p.take k := by
  unfold L3.cutD
  rw [HT.sIx_none, HT.sIx_nat]
  simp
theorem cut_rest {α : Type} (p : List α) (k : Nat) : L3.cutD p (some (k : Int)) none = p.drop k := by
  unfold L3.cutD
  rw [HT.sIx_none, HT.sIx_nat]
  by_cases h : k ≤ p.length
  · rw [Nat.min_eq_left h]
    exact List.take_of_length_le (by simp)
  · rw [Nat.min_eq_right (by omega), List.drop_eq_nil_of_le (Nat.le_refl _), List.drop_eq_nil_of_le (by omega)]; simp
theorem sl_head {i : Nat} {e : En} {p : List D} {k : Nat} {m : M Vl} {x : Vl} (h : e[i]? = some (.fz (.tup p))) (hm : m e = .ok x e) (hx : peek e x = some (.int k)) : dSl (dVar i) (L3.ret none) (dPart m) e = .ok (.fz (.tup (p.take k))) e := by
  unfold dSl
  rw [mB_ok (var_ok h)]
  rw [mB_ok (show L3.ret (none : Option Int) e = .ok none e from rfl)]
  have h2 : dPart m e = .ok (some (k : Int)) e := by
    unfold dPart
    rw [mB_ok hm, mB_ok (show pk x e = .ok (.int k) e by unfold pk; rw [hx])]; rfl
  rw [mB_ok h2, mB_ok (pk_pl h)]
  show lft (some (Vl.fz (.tup (L3.cutD p none (some (k : Int)))))) e = _
  rw [cut_head]; rfl
theorem sl_rest {i : Nat} {e : En} {p : List D} {k : Nat} {m : M Vl} {x : Vl} (h : e[i]? = some (.fz (.tup p))) (hm : m e = .ok x e) (hx : peek e x = some (.int k)) : dSl (dVar i) (dPart m) (L3.ret none) e = .ok (.fz (.tup (p.drop k))) e := by
  unfold dSl
  rw [mB_ok (var_ok h)]
  have h2 : dPart m e = .ok (some (k : Int)) e := by
    unfold dPart
    rw [mB_ok hm, mB_ok (show pk x e = .ok (.int k) e by unfold pk; rw [hx])]; rfl
  rw [mB_ok h2]
  rw [mB_ok (show L3.ret (none : Option Int) e = .ok none e from rfl), mB_ok (pk_pl h)]
  show lft (some (Vl.fz (.tup (L3.cutD p (some (k : Int)) none)))) e = _
  rw [cut_rest]; rfl
theorem rows_self {l : List (List D × D)} (h : ∀ r ∈ l, ∀ s ∈ r.1, flatStep s = true) : neD (.lst (l.map fun r => .tup r.1)) (.lst (l.map fun r => .tup r.1)) = some (.fz (.bl false)) := by
  have hd : depLe 60 (.lst (l.map fun r => .tup r.1)) = true := by
    show (l.map fun r => D.tup r.1).all (depLe 59) = true
    refine List.all_eq_true.mpr fun d hd => ?_
    obtain ⟨r, hr, rfl⟩ := List.mem_map.mp hd
    show r.1.all (depLe 58) = true
    refine List.all_eq_true.mpr fun s hs => ?_
    have := h r hr s hs
    cases s <;> first | rfl | cases this
  have he : eqOs (l.map fun r => .tup r.1) (l.map fun r => .tup r.1) = some true := by
    clear hd
    induction l with
    | nil => rfl
    | cons r l ih =>
      obtain ⟨c, h1, h2⟩ := tup_eq (h r List.mem_cons_self) (h r List.mem_cons_self)
      rw [h2.mpr rfl] at h1
      simp only [List.map_cons, eqOs, h1, ih fun q hq => h q (List.mem_cons_of_mem _ hq)]; rfl
  have hq : eqO (.lst (l.map fun r => .tup r.1)) (.lst (l.map fun r => .tup r.1)) = some true := by
    unfold eqO
    rw [if_pos rfl, he]
  unfold neD
  rw [if_pos hd]
  simp only [neO, hq]; rfl
/-- not alike, of the same: no -/
theorem no_alike {k : Nat} {m : M (List Vl)} {e e1 e2 : En} {xs : List Vl} {d : D} {m' : Nat} (h : m e = .ok xs e1) (hf : frzs xs e1 = .ok [d, d] e2) (hw : okW m' d = true) (hk : m' + 1 ≤ k) (hc : cntW d ≤ 1000) : dNot (dTru (dCall [] 2 (G__law_alike k) m)) e = .ok false e2 :=
  not_ok (b := true) (tru_ok (x := .fz (.bl true)) (d := .bl true) (call_ok (ds := [d, d]) h hf rfl (alike_ok m' k d hk hw hc)) rfl rfl)
end LP
end S_Po
section S_Si
set_option maxHeartbeats 0
/-! # denotations evaluated by rewriting, from the outside in -/
namespace L3
open PySem PySem.Spec PyProof.Rows L2
section
variable {α β : Type} {e e1 e2 : En}
def seqR (o : Out Fl) (n : M Fl) : Out Fl := match o with
  | .ok .nx e => n e
  | .ok .bk e => .ok .bk e
  | .ok .ct e => .ok .ct e
  | .ok (.rt x) e => .ok (.rt x) e
  | .exc c e => .exc c e
  | .stk => .stk
theorem S_seq {m n : M Fl} : dSeq m n e = seqR (m e) n := by
  unfold dSeq mB seqR
  cases m e with
  | ok f e1 => cases f <;> rfl
  | exc c e1 => rfl
  | stk => rfl
theorem S_seq1 {n : M Fl} : seqR (.ok .nx e) n = n e := Eq.trans rfl rfl
theorem S_seq2 {n : M Fl} {x : Vl} : seqR (.ok (.rt x) e) n = .ok (.rt x) e := Eq.trans rfl rfl
theorem S_seq3 {n : M Fl} {c : Ex} : seqR (.exc c e) n = .exc c e := Eq.trans rfl rfl
theorem S_seq4 {n : M Fl} : seqR (.ok .ct e) n = .ok .ct e := Eq.trans rfl rfl
theorem S_seq5 {n : M Fl} : seqR (.ok .bk e) n = .ok .bk e := Eq.trans rfl rfl
def ifR (o : Out Bool) (m n : M α) : Out α := match o with
  | .ok true e => m e
  | .ok false e => n e
  | .exc c e => .exc c e
  | .stk => .stk
theorem S_if1 {m n : M α} : ifR (.ok true e) m n = m e := Eq.trans rfl rfl
theorem S_if2 {m n : M α} : ifR (.ok false e) m n = n e := Eq.trans rfl rfl
theorem S_if3 {m n : M α} {c : Ex} : ifR (.exc c e) m n = .exc c e := Eq.trans rfl rfl
theorem ifR_mB {c : M Bool} {m n : M α} : mB c (fun b => if b = true then m else n) e = ifR (c e) m n := by
  unfold mB ifR
  cases c e with
  | ok b e1 => cases b <;> rfl
  | exc c e1 => rfl
  | stk => rfl
theorem S_ifs {c : M Bool} {m n : M Fl} : dIfS c m n e = ifR (c e) m n := ifR_mB
theorem S_if {c : M Bool} {m n : M Vl} : dIf c m n e = ifR (c e) m n := ifR_mB
theorem S_and {m n : M Bool} : dAnd m n e = ifR (m e) n (ret false) := ifR_mB
theorem S_or {m n : M Bool} : dOr m n e = ifR (m e) (ret true) n := ifR_mB
theorem S_andV {m n : M Vl} : dAndV m n e = ifR (dBool m e) n (dC (.bl false)) := ifR_mB
theorem S_orV {m n : M Vl} : dOrV m n e = ifR (dBool m e) (dC (.bl true)) n := ifR_mB
def notR (o : Out Bool) : Out Bool := match o with
  | .ok b e => .ok (!b) e
  | .exc c e => .exc c e
  | .stk => .stk
theorem S_not {m : M Bool} : dNot m e = notR (m e) := by unfold dNot mB notR; cases m e <;> rfl
theorem S_not1 {b : Bool} : notR (.ok b e) = .ok (!b) e := Eq.trans rfl rfl
theorem S_not2 {c : Ex} : notR (.exc c e) = .exc c e := Eq.trans rfl rfl
def notVR (o : Out Bool) : Out Vl := match o with
  | .ok b e => .ok (.fz (.bl (!b))) e
  | .exc c e => .exc c e
  | .stk => .stk
theorem S_notV {m : M Vl} : dNotV m e = notVR (dBool m e) := by unfold dNotV mB notVR; cases dBool m e <;> rfl
theorem S_notV1 {b : Bool} : notVR (.ok b e) = .ok (.fz (.bl (!b))) e := Eq.trans rfl rfl
theorem S_ret {a : α} : L3.ret a e = .ok a e := Eq.trans rfl rfl
theorem S_C {d : D} : dC d e = .ok (.fz d) e := Eq.trans rfl rfl
theorem S_next : dNext e = .ok .nx e := Eq.trans rfl rfl
theorem S_raise {c : Ex} : dRaise c e = .exc c e := Eq.trans rfl rfl
def varR (i : Nat) (o : Option Ent) (e : En) : Out Vl := match o with
  | some (.fz _) => .ok (.pl i) e
  | some (.ow _) => .ok (.pl i) e
  | _ => .stk
theorem S_var {i : Nat} : dVar i e = varR i (e[i]?) e := by
  unfold dVar varR
  cases e[i]? with
  | none => rfl
  | some x => cases x <;> rfl
theorem S_var1 {i : Nat} {d : D} : varR i (some (.fz d)) e = .ok (.pl i) e := Eq.trans rfl rfl
theorem S_var2 {i : Nat} {d : D} : varR i (some (.ow d)) e = .ok (.pl i) e := Eq.trans rfl rfl
/-! a look at a value -/
def peekR (o : Option Ent) : Option D := match o with
  | some (.fz d) => some d
  | some (.ow d) => some d
  | _ => none
theorem S_pk1 {d : D} : peek e (.fz d) = some d := Eq.trans rfl rfl
theorem S_pk2 {d : D} : peek e (.ow d) = some d := Eq.trans rfl rfl
theorem S_pk3 {i : Nat} : peek e (.pl i) = peekR (e[i]?) := by
  show (match e[i]? with | some (.fz d) => some d | some (.ow d) => some d | _ => none) = peekR (e[i]?)
  unfold peekR
  cases e[i]? with
  | none => rfl
  | some x => cases x <;> rfl
theorem S_pk4 {d : D} : peekR (some (.fz d)) = some d := Eq.trans rfl rfl
theorem S_pk5 {d : D} : peekR (some (.ow d)) = some d := Eq.trans rfl rfl
def liftR (o : Option α) (e : En) : Out α := match o with
  | some a => .ok a e
  | none => .stk
theorem S_lift {a : α} : liftR (some a) e = .ok a e := Eq.trans rfl rfl
def unR2 (f : D → Option Vl) (o : Option D) (e : En) : Out Vl := match o with
  | some d => liftR (f d) e
  | none => .stk
def unR (f : D → Option Vl) (o : Out Vl) : Out Vl := match o with
  | .ok x e => unR2 f (peek e x) e
  | .exc c e => .exc c e
  | .stk => .stk
theorem S_un {f : D → Option Vl} {m : M Vl} : dUn f m e = unR f (m e) := by
  unfold dUn mB unR
  cases m e with
  | ok x e1 =>
    show mB (pk x) _ e1 = unR2 f (peek e1 x) e1
    unfold mB pk unR2
    cases peek e1 x <;> rfl
  | exc c e1 => rfl
  | stk => rfl
theorem S_un1 {f : D → Option Vl} {x : Vl} : unR f (.ok x e) = unR2 f (peek e x) e := Eq.trans rfl rfl
theorem S_un2 {f : D → Option Vl} {d : D} : unR2 f (some d) e = liftR (f d) e := Eq.trans rfl rfl
theorem S_un3 {f : D → Option Vl} {c : Ex} : unR f (.exc c e) = .exc c e := Eq.trans rfl rfl
def opR (f : D → D → Option Vl) (o : Out Vl) (n : M Vl) : Out Vl := match o with
  | .ok x e => mB n (fun y => mB (pk x) fun a => mB (pk y) fun b => lft (f a b)) e
  | .exc c e => .exc c e
  | .stk => .stk
def opR2 (f : D → D → Option Vl) (x : Vl) (o : Out Vl) : Out Vl := match o with
  | .ok y e => mB (pk x) (fun a => mB (pk y) fun b => lft (f a b)) e
  | .exc c e => .exc c e
  | .stk => .stk
def opR3 (f : D → D → Option Vl) (o u : Option D) (e : En) : Out Vl := match o with
  | some a => (match u with
    | some b => liftR (f a b) e
    | none => .stk)
  | none => .stk
theorem S_op {f : D → D → Option Vl} {m n : M Vl} : dOp f m n e = opR f (m e) n := by
  unfold dOp opR
  cases q : m e with
  | ok x e1 => rw [mB_ok q]
  | exc c e1 => unfold mB; rw [q]
  | stk => unfold mB; rw [q]
theorem S_op1 {f : D → D → Option Vl} {x : Vl} {n : M Vl} : opR f (.ok x e) n = opR2 f x (n e) := by
  unfold opR opR2
  simp only []
  cases q : n e with
  | ok y e1 => rw [mB_ok q]
  | exc c e1 => unfold mB; rw [q]
  | stk => unfold mB; rw [q]
theorem S_op2 {f : D → D → Option Vl} {x y : Vl} : opR2 f x (.ok y e) = opR3 f (peek e x) (peek e y) e := by
  show mB (pk x) _ e = opR3 f (peek e x) (peek e y) e
  unfold opR3 mB pk
  cases h1 : peek e x with
  | none => rfl
  | some a =>
    cases h2 : peek e y with
    | none => simp only [h2]
    | some b => simp only [h2]; rfl
theorem S_op3 {f : D → D → Option Vl} {a b : D} : opR3 f (some a) (some b) e = liftR (f a b) e := Eq.trans rfl rfl
theorem S_op4 {f : D → D → Option Vl} {n : M Vl} {c : Ex} : opR f (.exc c e) n = .exc c e := Eq.trans rfl rfl
theorem S_op5 {f : D → D → Option Vl} {x : Vl} {c : Ex} : opR2 f x (.exc c e) = .exc c e := Eq.trans rfl rfl
def boolR2 (o : Option D) (e : En) : Out Bool := match o with
  | some (.bl b) => .ok b e
  | _ => .stk
def boolR (o : Out Vl) : Out Bool := match o with
  | .ok x e => boolR2 (peek e x) e
  | .exc c e => .exc c e
  | .stk => .stk
theorem S_bool {m : M Vl} : dBool m e = boolR (m e) := by
  unfold dBool mB boolR
  cases m e with
  | ok x e1 =>
    show mB (pk x) _ e1 = boolR2 (peek e1 x) e1
    unfold mB pk boolR2
    cases peek e1 x with
    | none => rfl
    | some d => cases d <;> rfl
  | exc c e1 => rfl
  | stk => rfl
theorem S_bool1 {x : Vl} : boolR (.ok x e) = boolR2 (peek e x) e := Eq.trans rfl rfl
theorem S_bool2 {b : Bool} : boolR2 (some (.bl b)) e = .ok b e := Eq.trans rfl rfl
theorem S_bool3 {c : Ex} : boolR (.exc c e) = .exc c e := Eq.trans rfl rfl
def truR2 (o : Option D) (e : En) : Out Bool := match o with
  | some d => liftR (truD d) e
  | none => .stk
def truR (o : Out Vl) : Out Bool := match o with
  | .ok x e => truR2 (peek e x) e
  | .exc c e => .exc c e
  | .stk => .stk
theorem S_tru {m : M Vl} : dTru m e = truR (m e) := by
  unfold dTru mB truR
  cases m e with
  | ok x e1 =>
    show mB (pk x) _ e1 = truR2 (peek e1 x) e1
    unfold mB pk truR2
    cases peek e1 x <;> rfl
  | exc c e1 => rfl
  | stk => rfl
theorem S_tru1 {x : Vl} : truR (.ok x e) = truR2 (peek e x) e := Eq.trans rfl rfl
theorem S_tru2 {d : D} : truR2 (some d) e = liftR (truD d) e := Eq.trans rfl rfl
theorem S_tru3 {c : Ex} : truR (.exc c e) = .exc c e := Eq.trans rfl rfl
theorem S_truB {b : Bool} : truD (.bl b) = some b := Eq.trans rfl rfl
theorem S_truL {ds : List D} : truD (.lst ds) = some (!ds.isEmpty) := Eq.trans rfl rfl
theorem S_truT {ds : List D} : truD (.tup ds) = some (!ds.isEmpty) := Eq.trans rfl rfl
/-! rows -/
theorem S_nil : dNil e = .ok [] e := Eq.trans rfl rfl
def consR (o : Out Vl) (n : M (List Vl)) : Out (List Vl) := match o with
  | .ok x e => mB n (fun xs => L3.ret (x :: xs)) e
  | .exc c e => .exc c e
  | .stk => .stk
def consR2 (x : Vl) (o : Out (List Vl)) : Out (List Vl) := match o with
  | .ok xs e => .ok (x :: xs) e
  | .exc c e => .exc c e
  | .stk => .stk
theorem S_cons {m : M Vl} {n : M (List Vl)} : dCons m n e = consR (m e) n := by
  unfold dCons consR
  cases q : m e with
  | ok x e1 => rw [mB_ok q]
  | exc c e1 => unfold mB; rw [q]
  | stk => unfold mB; rw [q]
theorem S_cons1 {x : Vl} {n : M (List Vl)} : consR (.ok x e) n = consR2 x (n e) := by
  unfold consR consR2
  simp only []
  cases q : n e with
  | ok y e1 => rw [mB_ok q]; rfl
  | exc c e1 => unfold mB; rw [q]
  | stk => unfold mB; rw [q]
theorem S_cons2 {x : Vl} {xs : List Vl} : consR2 x (.ok xs e) = .ok (x :: xs) e := Eq.trans rfl rfl
theorem S_cons3 {n : M (List Vl)} {c : Ex} : consR (.exc c e) n = .exc c e := Eq.trans rfl rfl
theorem S_cons4 {x : Vl} {c : Ex} : consR2 x (.exc c e) = .exc c e := Eq.trans rfl rfl
def peeksR (o : Option D) (u : Option (List D)) : Option (List D) := match o with
  | some d => (match u with
    | some ds => some (d :: ds)
    | none => none)
  | none => none
theorem S_pks0 : peeks e [] = some [] := Eq.trans rfl rfl
theorem S_pks1 {x : Vl} {xs : List Vl} : peeks e (x :: xs) = peeksR (peek e x) (peeks e xs) := by rw [peeks]; unfold peeksR; rfl
theorem S_pks2 {d : D} {ds : List D} : peeksR (some d) (some ds) = some (d :: ds) := Eq.trans rfl rfl
def cbR2 (f : List D → Option Vl) (o : Option (List D)) (e : En) : Out Vl := match o with
  | some ds => liftR (f ds) e
  | none => .stk
def cbR (f : List D → Option Vl) (o : Out (List Vl)) : Out Vl := match o with
  | .ok xs e => cbR2 f (peeks e xs) e
  | .exc c e => .exc c e
  | .stk => .stk
theorem S_cb {f : List D → Option Vl} {n : M (List Vl)} : dCB f n e = cbR f (n e) := by
  unfold dCB mB cbR
  cases n e with
  | ok x e1 =>
    show mB (pks x) _ e1 = cbR2 f (peeks e1 x) e1
    unfold mB pks cbR2
    cases peeks e1 x <;> rfl
  | exc c e1 => rfl
  | stk => rfl
theorem S_cb1 {f : List D → Option Vl} {xs : List Vl} : cbR f (.ok xs e) = cbR2 f (peeks e xs) e := Eq.trans rfl rfl
theorem S_cb2 {f : List D → Option Vl} {ds : List D} : cbR2 f (some ds) e = liftR (f ds) e := Eq.trans rfl rfl
theorem S_cb3 {f : List D → Option Vl} {c : Ex} : cbR f (.exc c e) = .exc c e := Eq.trans rfl rfl
/-! freezing -/
def frzR (i : Nat) (o : Option Ent) (e : En) : Out D := match o with
  | some (.fz d) => .ok d e
  | some (.ow d) => .ok d (e.set i (.fz d))
  | _ => .stk
theorem S_fz1 {d : D} : frz (.fz d) e = .ok d e := Eq.trans rfl rfl
theorem S_fz2 {d : D} : frz (.ow d) e = .ok d e := Eq.trans rfl rfl
theorem S_fz3 {i : Nat} : frz (.pl i) e = frzR i (e[i]?) e := by
  show (match e[i]? with | some (.fz d) => .ok d e | some (.ow d) => .ok d (e.set i (.fz d)) | _ => .stk) = frzR i (e[i]?) e
  unfold frzR
  cases e[i]? with
  | none => rfl
  | some x => cases x <;> rfl
theorem S_fz4 {i : Nat} {d : D} : frzR i (some (.fz d)) e = .ok d e := Eq.trans rfl rfl
theorem S_fz5 {i : Nat} {d : D} : frzR i (some (.ow d)) e = .ok d (e.set i (.fz d)) := Eq.trans rfl rfl
def fzsR (o : Out D) (xs : List Vl) : Out (List D) := match o with
  | .ok d e => mB (frzs xs) (fun ds => L3.ret (d :: ds)) e
  | .exc c e => .exc c e
  | .stk => .stk
def fzsR2 (d : D) (o : Out (List D)) : Out (List D) := match o with
  | .ok ds e => .ok (d :: ds) e
  | .exc c e => .exc c e
  | .stk => .stk
theorem S_fzs0 : frzs [] e = .ok [] e := Eq.trans rfl rfl
theorem S_fzs1 {x : Vl} {xs : List Vl} : frzs (x :: xs) e = fzsR (frz x e) xs := by
  rw [frzs]; unfold fzsR
  cases q : frz x e with
  | ok d e1 => rw [mB_ok q]
  | exc c e1 => unfold mB; rw [q]
  | stk => unfold mB; rw [q]
theorem S_fzs2 {d : D} {xs : List Vl} : fzsR (.ok d e) xs = fzsR2 d (frzs xs e) := by
  unfold fzsR fzsR2
  simp only []
  cases q : frzs xs e with
  | ok y e1 => rw [mB_ok q]; rfl
  | exc c e1 => unfold mB; rw [q]
  | stk => unfold mB; rw [q]
theorem S_fzs3 {d : D} {ds : List D} : fzsR2 d (.ok ds e) = .ok (d :: ds) e := Eq.trans rfl rfl
def mkR (k : List D → Vl) (o : Out (List D)) : Out Vl := match o with
  | .ok ds e => if ds.length ≤ 16777216 then .ok (k ds) e else .stk
  | .exc c e => .exc c e
  | .stk => .stk
def mkR0 (k : List D → Vl) (o : Out (List Vl)) : Out Vl := match o with
  | .ok xs e => mkR k (frzs xs e)
  | .exc c e => .exc c e
  | .stk => .stk
def kL (ds : List D) : Vl := .ow (.lst ds)
def kT (ds : List D) : Vl := .fz (.tup ds)
theorem S_lst {n : M (List Vl)} : dLst n e = mkR0 kL (n e) := by
  unfold dLst mkR0 kL
  cases q : n e with
  | ok xs e1 =>
    rw [mB_ok q]
    unfold mkR
    simp only []
    cases q2 : frzs xs e1 with
    | ok ds e2 => rw [mB_ok q2]; by_cases h : ds.length ≤ 16777216 <;> simp [h, L3.ret]
    | exc c e2 => unfold mB; rw [q2]
    | stk => unfold mB; rw [q2]
  | exc c e1 => unfold mB; rw [q]
  | stk => unfold mB; rw [q]
theorem S_tup {n : M (List Vl)} : dTup n e = mkR0 kT (n e) := by
  unfold dTup mkR0 kT
  cases q : n e with
  | ok xs e1 =>
    rw [mB_ok q]
    unfold mkR
    simp only []
    cases q2 : frzs xs e1 with
    | ok ds e2 => rw [mB_ok q2]; by_cases h : ds.length ≤ 16777216 <;> simp [h, L3.ret]
    | exc c e2 => unfold mB; rw [q2]
    | stk => unfold mB; rw [q2]
  | exc c e1 => unfold mB; rw [q]
  | stk => unfold mB; rw [q]
theorem S_mk0 {k : List D → Vl} {xs : List Vl} : mkR0 k (.ok xs e) = mkR k (frzs xs e) := Eq.trans rfl rfl
theorem S_mk1 {k : List D → Vl} {c : Ex} : mkR0 k (.exc c e) = .exc c e := Eq.trans rfl rfl
/-- few -/
theorem S_mk2 {k : List D → Vl} {ds : List D} (h : ds.length ≤ 16777216) : mkR k (.ok ds e) = .ok (k ds) e := by unfold mkR; simp only [if_pos h]
theorem S_kL {ds : List D} : kL ds = .ow (.lst ds) := Eq.trans rfl rfl
theorem S_kT {ds : List D} : kT ds = .fz (.tup ds) := Eq.trans rfl rfl
theorem S_newK : dNewK e = .ok (.ow (.dic [])) e := Eq.trans rfl rfl
theorem S_newT : dNewT e = .ok (.ow (.dit [])) e := Eq.trans rfl rfl
/-! statements -/
def stvR (i j : Nat) (o : Option Ent) (e : En) : Out Fl := match o with
  | some (.fz d) => .ok .nx (e.set i (.fz d))
  | some (.ow d) => .ok .nx ((e.set j (.fz d)).set i (.fz d))
  | _ => .stk
def asgR (i : Nat) (o : Out Vl) : Out Fl := match o with
  | .ok (.fz d) e => .ok .nx (e.set i (.fz d))
  | .ok (.ow d) e => .ok .nx (e.set i (.ow d))
  | .ok (.pl j) e => stvR i j (e[j]?) e
  | .exc c e => .exc c e
  | .stk => .stk
theorem S_asg {i : Nat} {m : M Vl} : dAsg i m e = asgR i (m e) := by
  unfold dAsg asgR
  cases q : m e with
  | ok x e1 =>
    rw [mB_ok q]
    cases x with
    | fz d => rfl
    | ow d => rfl
    | pl j =>
      unfold mB stv stvR
      simp only []
      cases e1[j]? with
      | none => rfl
      | some y => cases y <;> rfl
  | exc c e1 => unfold mB; rw [q]
  | stk => unfold mB; rw [q]
theorem S_asg1 {i : Nat} {d : D} : asgR i (.ok (.fz d) e) = .ok .nx (e.set i (.fz d)) := Eq.trans rfl rfl
theorem S_asg2 {i : Nat} {d : D} : asgR i (.ok (.ow d) e) = .ok .nx (e.set i (.ow d)) := Eq.trans rfl rfl
theorem S_asg3 {i j : Nat} : asgR i (.ok (.pl j) e) = stvR i j (e[j]?) e := Eq.trans rfl rfl
theorem S_asg4 {i j : Nat} {d : D} : stvR i j (some (.fz d)) e = .ok .nx (e.set i (.fz d)) := Eq.trans rfl rfl
theorem S_asg5 {i j : Nat} {d : D} : stvR i j (some (.ow d)) e = .ok .nx ((e.set j (.fz d)).set i (.fz d)) := Eq.trans rfl rfl
theorem S_asg6 {i : Nat} {c : Ex} : asgR i (.exc c e) = .exc c e := Eq.trans rfl rfl
def rtR (op : List Nat) (i : Nat) (o : Option Ent) (e : En) : Out Fl := match o with
  | some (.fz d) => .ok (.rt (.fz d)) e
  | some (.ow d) => if i ∈ op then .ok (.rt (.fz d)) (e.set i (.fz d)) else .ok (.rt (.ow d)) (e.set i .no)
  | _ => .stk
def retR (op : List Nat) (o : Out Vl) : Out Fl := match o with
  | .ok (.fz d) e => .ok (.rt (.fz d)) e
  | .ok (.ow d) e => .ok (.rt (.ow d)) e
  | .ok (.pl i) e => rtR op i (e[i]?) e
  | .exc c e => .exc c e
  | .stk => .stk
theorem S_rt {op : List Nat} {m : M Vl} : dRet op m e = retR op (m e) := by
  unfold dRet retR
  cases q : m e with
  | ok x e1 =>
    rw [mB_ok q]
    cases x with
    | fz d => rfl
    | ow d => rfl
    | pl j =>
      unfold retv rtR
      first
        | (simp only []; done)
        | (simp only []
           cases e1[j]? with
           | none => rfl
           | some y => cases y <;> rfl)
  | exc c e1 => unfold mB; rw [q]
  | stk => unfold mB; rw [q]
theorem S_rt1 {op : List Nat} {d : D} : retR op (.ok (.fz d) e) = .ok (.rt (.fz d)) e := Eq.trans rfl rfl
theorem S_rt2 {op : List Nat} {d : D} : retR op (.ok (.ow d) e) = .ok (.rt (.ow d)) e := Eq.trans rfl rfl
theorem S_rt3 {op : List Nat} {i : Nat} : retR op (.ok (.pl i) e) = rtR op i (e[i]?) e := Eq.trans rfl rfl
theorem S_rt4 {op : List Nat} {i : Nat} {d : D} : rtR op i (some (.fz d)) e = .ok (.rt (.fz d)) e := Eq.trans rfl rfl
theorem S_rt5 {i : Nat} {d : D} : rtR [] i (some (.ow d)) e = .ok (.rt (.ow d)) (e.set i .no) := by unfold rtR; simp
theorem S_rt5o {op : List Nat} {i : Nat} {d : D} (h : i ∉ op) : rtR op i (some (.ow d)) e = .ok (.rt (.ow d)) (e.set i .no) := by unfold rtR; simp [h]
theorem S_rt6 {op : List Nat} {c : Ex} : retR op (.exc c e) = .exc c e := Eq.trans rfl rfl
def dropR (o : Out Vl) : Out Fl := match o with
  | .ok _ e => .ok .nx e
  | .exc c e => .exc c e
  | .stk => .stk
theorem S_drop {m : M Vl} : dDrop m e = dropR (m e) := by unfold dDrop mB dropR; cases m e <;> rfl
theorem S_drop1 {x : Vl} : dropR (.ok x e) = .ok .nx e := Eq.trans rfl rfl
theorem S_drop2 {c : Ex} : dropR (.exc c e) = .exc c e := Eq.trans rfl rfl
def unpR3 (o : Option En) : Out Fl := match o with
  | some e' => .ok .nx e'
  | none => .stk
def unpR2 (is : List Nat) (o : Out D) : Out Fl := match o with
  | .ok (.tup ds) e1 => unpR3 (gtL is ds e1)
  | .ok _ _ => .stk
  | .exc c e => .exc c e
  | .stk => .stk
def unpR (is : List Nat) (o : Out Vl) : Out Fl := match o with
  | .ok x e => unpR2 is (frz x e)
  | .exc c e => .exc c e
  | .stk => .stk
theorem S_unp {is : List Nat} {m : M Vl} : dUnp is m e = unpR is (m e) := by
  unfold dUnp unpR
  cases q : m e with
  | ok x e1 =>
    rw [mB_ok q]
    show _ = unpR2 is (frz x e1)
    unfold unpR2
    cases q2 : frz x e1 with
    | ok d e2 => rw [mB_ok q2]; cases d <;> rfl
    | exc c e2 => unfold mB; rw [q2]
    | stk => unfold mB; rw [q2]
  | exc c e1 => unfold mB; rw [q]
  | stk => unfold mB; rw [q]
theorem S_unp1 {is : List Nat} {x : Vl} : unpR is (.ok x e) = unpR2 is (frz x e) := Eq.trans rfl rfl
theorem S_unp2 {is : List Nat} {ds : List D} : unpR2 is (.ok (.tup ds) e) = unpR3 (gtL is ds e) := Eq.trans rfl rfl
theorem S_unp3 {e' : En} : unpR3 (some e') = .ok .nx e' := Eq.trans rfl rfl
theorem S_unp4 {is : List Nat} {c : Ex} : unpR is (.exc c e) = .exc c e := Eq.trans rfl rfl
/-! calls -/
def callR (n : Nat) (g : FnD) (o : Out (List Vl)) : Out Vl := match o with
  | .ok xs e => callE [] n g xs e
  | .exc c e => .exc c e
  | .stk => .stk
def callR2 (n : Nat) (g : FnD) (o : Out (List D)) : Out Vl := match o with
  | .ok ds e => if ds.length = n then (match g (ds.map Ent.fz) with
    | .ok r _ => .ok r e
    | .exc c _ => .exc c e
    | .stk => .stk) else .stk
  | .exc c e => .exc c e
  | .stk => .stk
def callR3 (o : Out Vl) (e : En) : Out Vl := match o with
  | .ok r _ => .ok r e
  | .exc c _ => .exc c e
  | .stk => .stk
theorem S_call {n : Nat} {g : FnD} {m : M (List Vl)} : dCall [] n g m e = callR n g (m e) := by
  unfold dCall callR
  cases q : m e with
  | ok x e1 => rw [mB_ok q]
  | exc c e1 => unfold mB; rw [q]
  | stk => unfold mB; rw [q]
theorem frzN_frzs : ∀ (xs : List Vl) (i : Nat) (e : En), frzN [] i xs e = (match frzs xs e with
    | .ok ds e1 => .ok (ds.map Vl.fz) e1
    | .exc c e1 => .exc c e1
    | .stk => .stk)
  | [], _, e => rfl
  | x :: xs, i, e => by
    rw [frzs, frzN, if_neg (by simp)]
    unfold mB
    cases q : frz x e with
    | ok d e1 =>
      simp only []
      rw [frzN_frzs xs (i + 1) e1]
      cases q2 : frzs xs e1 <;> rfl
    | exc c e1 => rfl
    | stk => rfl
theorem S_call1 {n : Nat} {g : FnD} {xs : List Vl} : callR n g (.ok xs e) = callR2 n g (frzs xs e) := by
  unfold callR callR2
  simp only []
  unfold callE
  cases q : frzs xs e with
  | ok ds e1 =>
    have h := frzN_frzs xs 0 e
    rw [q] at h
    rw [mB_ok h]
    have e3 : (ds.map Vl.fz).map (entOf e1) = ds.map Ent.fz := by rw [List.map_map]; rfl
    by_cases hn : ds.length = n
    · rw [if_pos ⟨by rw [plIx_fz]; exact List.nodup_nil, by rw [List.length_map]; exact hn⟩, e3]
      simp only [if_pos hn]
      cases g (ds.map Ent.fz) <;> simp only [putE_fz]
    · rw [if_neg fun z => hn (by simpa using z.2)]
      simp only [if_neg hn]
  | exc c e1 =>
    have h := frzN_frzs xs 0 e
    rw [q] at h
    unfold mB; rw [h]
  | stk =>
    have h := frzN_frzs xs 0 e
    rw [q] at h
    unfold mB; rw [h]
theorem S_call2 {n : Nat} {g : FnD} {ds : List D} (h : ds.length = n) : callR2 n g (.ok ds e) = callR3 (g (ds.map Ent.fz)) e := by unfold callR2 callR3; simp only [if_pos h]
theorem S_call3 {r : Vl} {es : En} : callR3 (.ok r es) e = .ok r e := Eq.trans rfl rfl
theorem S_call4 {c : Ex} {es : En} : callR3 (.exc c es) e = .exc c e := Eq.trans rfl rfl
theorem S_call5 {n : Nat} {g : FnD} {c : Ex} : callR n g (.exc c e) = .exc c e := Eq.trans rfl rfl
/-! slices -/
def partR2 (o : Option D) (e : En) : Out (Option Int) := match o with
  | some (.int i) => .ok (some i) e
  | _ => .stk
def partR (o : Out Vl) : Out (Option Int) := match o with
  | .ok x e => partR2 (peek e x) e
  | .exc c e => .exc c e
  | .stk => .stk
theorem S_part {m : M Vl} : dPart m e = partR (m e) := by
  unfold dPart mB partR
  cases m e with
  | ok x e1 =>
    show mB (pk x) _ e1 = partR2 (peek e1 x) e1
    unfold mB pk partR2
    cases peek e1 x with
    | none => rfl
    | some d => cases d <;> rfl
  | exc c e1 => rfl
  | stk => rfl
theorem S_part1 {x : Vl} : partR (.ok x e) = partR2 (peek e x) e := Eq.trans rfl rfl
theorem S_part2 {i : Int} : partR2 (some (.int i)) e = .ok (some i) e := Eq.trans rfl rfl
def slR (o : Out Vl) (a b : M (Option Int)) : Out Vl := match o with
  | .ok x e => mB a (fun lo => mB b fun hi => mB (pk x) fun d => lft (slD d lo hi)) e
  | .exc c e => .exc c e
  | .stk => .stk
def slR2 (x : Vl) (o : Out (Option Int)) (b : M (Option Int)) : Out Vl := match o with
  | .ok lo e => mB b (fun hi => mB (pk x) fun d => lft (slD d lo hi)) e
  | .exc c e => .exc c e
  | .stk => .stk
def slR4 (lo hi : Option Int) (o : Option D) (e : En) : Out Vl := match o with
  | some d => liftR (slD d lo hi) e
  | none => .stk
def slR3 (x : Vl) (lo : Option Int) (o : Out (Option Int)) : Out Vl := match o with
  | .ok hi e => slR4 lo hi (peek e x) e
  | .exc c e => .exc c e
  | .stk => .stk
theorem S_sl {m : M Vl} {a b : M (Option Int)} : dSl m a b e = slR (m e) a b := by
  unfold dSl slR
  cases q : m e with
  | ok x e1 => rw [mB_ok q]
  | exc c e1 => unfold mB; rw [q]
  | stk => unfold mB; rw [q]
theorem S_sl1 {x : Vl} {a b : M (Option Int)} : slR (.ok x e) a b = slR2 x (a e) b := by
  unfold slR slR2
  simp only []
  cases q : a e with
  | ok y e1 => rw [mB_ok q]
  | exc c e1 => unfold mB; rw [q]
  | stk => unfold mB; rw [q]
theorem S_sl2 {x : Vl} {lo : Option Int} {b : M (Option Int)} : slR2 x (.ok lo e) b = slR3 x lo (b e) := by
  unfold slR2 slR3
  simp only []
  cases q : b e with
  | ok y e1 =>
    rw [mB_ok q]
    show mB (pk x) _ e1 = slR4 lo y (peek e1 x) e1
    unfold mB pk slR4
    cases peek e1 x <;> rfl
  | exc c e1 => unfold mB; rw [q]
  | stk => unfold mB; rw [q]
theorem S_sl3 {x : Vl} {lo hi : Option Int} : slR3 x lo (.ok hi e) = slR4 lo hi (peek e x) e := Eq.trans rfl rfl
theorem S_sl4 {lo hi : Option Int} {d : D} : slR4 lo hi (some d) e = liftR (slD d lo hi) e := Eq.trans rfl rfl
/-! what is walked -/
def itR (o : Out Vl) : Out (List D) := match o with
  | .ok x e => mB (frz x) itemsOf e
  | .exc c e => .exc c e
  | .stk => .stk
def itR2 (o : Out D) : Out (List D) := match o with
  | .ok d e => itemsOf d e
  | .exc c e => .exc c e
  | .stk => .stk
theorem S_it {m : M Vl} : dIt m e = itR (m e) := by
  unfold dIt itR
  cases q : m e with
  | ok x e1 => rw [mB_ok q]
  | exc c e1 => unfold mB; rw [q]
  | stk => unfold mB; rw [q]
theorem S_it1 {x : Vl} : itR (.ok x e) = itR2 (frz x e) := by show mB (frz x) itemsOf e = itR2 (frz x e); unfold itR2 mB; cases frz x e <;> rfl
theorem S_it2 {d : D} : itR2 (.ok d e) = itemsOf d e := Eq.trans rfl rfl
theorem S_itL {ds : List D} : itemsOf (.lst ds) e = .ok ds e := Eq.trans rfl rfl
theorem S_itT {ds : List D} : itemsOf (.tup ds) e = .ok ds e := Eq.trans rfl rfl
theorem S_itS {z : Str} : itemsOf (.str z) e = .ok (chD z) e := Eq.trans rfl rfl
/-! a turn of a comprehension -/
def elR (o : Out Vl) : Out D := match o with
  | .ok x e => frz x e
  | _ => .stk
theorem S_el {m : M Vl} : mB (noX m) frz e = elR (m e) := by unfold mB noX elR; cases m e <;> rfl
theorem S_el1 {x : Vl} : elR (.ok x e) = frz x e := Eq.trans rfl rfl
def nxR (o : Out α) : Out α := match o with
  | .ok x e => .ok x e
  | _ => .stk
theorem S_nox {m : M α} : noX m e = nxR (m e) := by unfold noX nxR; cases m e <;> rfl
theorem S_nox1 {x : α} : nxR (.ok x e) = .ok x e := Eq.trans rfl rfl
/-! a def's run -/
def runR (op : List Nat) (ents : En) (o : Out Fl) : Out Vl := match o with
  | .ok (.rt x) e => .ok x (backE op 0 ents e)
  | .ok .nx e => .ok (.fz .non) (backE op 0 ents e)
  | .exc c e => .exc c (backE op 0 ents e)
  | _ => .stk
theorem S_run {op : List Nat} {n N : Nat} {ms : M Fl} {ents : En} : runD op n N ms ents = runR op ents (ms (ents ++ List.replicate (N - n) .no)) := by
  unfold runD runR
  cases ms (ents ++ List.replicate (N - n) .no) with
  | ok f e => cases f <;> rfl
  | exc c e => rfl
  | stk => rfl
theorem S_run1 {ents : En} {x : Vl} : runR [] ents (.ok (.rt x) e) = .ok x ents := by unfold runR; simp only [backE_nil]
theorem S_run2 {ents : En} : runR [] ents (.ok .nx e) = .ok (.fz .non) ents := by unfold runR; simp only [backE_nil]
theorem S_run3 {ents : En} {c : Ex} : runR [] ents (.exc c e) = .exc c ents := by unfold runR; simp only [backE_nil]
theorem S_run4 {op : List Nat} {ents : En} {x : Vl} : runR op ents (.ok (.rt x) e) = .ok x (backE op 0 ents e) := Eq.trans rfl rfl
/-! a list of one's own grows -/
def appR (i : Nat) (o : Out D) : Out Vl := match o with
  | .ok d e => appE i d e
  | .exc c e => .exc c e
  | .stk => .stk
def appR2 (i : Nat) (d : D) (o : Option Ent) (e : En) : Out Vl := match o with
  | some (.ow (.lst ds)) => if ds.length < 16777216 then .ok (.fz .non) (e.set i (.ow (.lst (ds ++ [d])))) else .stk
  | _ => .stk
def appR0 (i : Nat) (o : Out Vl) : Out Vl := match o with
  | .ok x e => appR i (frz x e)
  | .exc c e => .exc c e
  | .stk => .stk
theorem S_app {i : Nat} {m : M Vl} {ds : List D} (h : e[i]? = some (.ow (.lst ds))) : dApp i m e = appR0 i (m e) := by
  unfold dApp appR0
  rw [if_pos (by unfold isOwL; rw [h])]
  cases q : m e with
  | ok x e1 =>
    rw [mB_ok q]
    show mB (frz x) (fun d => appE i d) e1 = appR i (frz x e1)
    unfold appR mB
    cases frz x e1 <;> rfl
  | exc c e1 => unfold mB; rw [q]
  | stk => unfold mB; rw [q]
theorem S_app0 {i : Nat} {x : Vl} : appR0 i (.ok x e) = appR i (frz x e) := Eq.trans rfl rfl
theorem S_app1 {i : Nat} {d : D} : appR i (.ok d e) = appR2 i d (e[i]?) e := by
  unfold appR appE appR2
  rfl
theorem S_app2 {i : Nat} {d : D} {ds : List D} (h : ds.length < 16777216) : appR2 i d (some (.ow (.lst ds))) e = .ok (.fz .non) (e.set i (.ow (.lst (ds ++ [d])))) := by unfold appR2; simp only [if_pos h]
theorem S_app3 {i : Nat} {c : Ex} : appR0 i (.exc c e) = .exc c e := Eq.trans rfl rfl
end
end L3
end S_Si
section S_Sj
set_option maxHeartbeats 0
/-! # operators on data of known form (printed in part) -/
namespace L3
open PySem PySem.Spec PyProof.Rows L2
section
variable {b c : Bool} {i j : Int} {s t : Str} {ds es : List D} {ks : List (Key × D)} {ns : List Int} {d : D} {p : Int → Int → Bool} {neg : Bool}
theorem D_is_non_int : cIsi [.non, .ty "int"] = some (.fz (.bl false)) := by simp [cIsi, dataTy, tyNm, isTy]
theorem D_is_non_bool : cIsi [.non, .ty "bool"] = some (.fz (.bl false)) := by simp [cIsi, dataTy, tyNm, isTy]
theorem D_is_non_str : cIsi [.non, .ty "str"] = some (.fz (.bl false)) := by simp [cIsi, dataTy, tyNm, isTy]
theorem D_is_non_list : cIsi [.non, .ty "list"] = some (.fz (.bl false)) := by simp [cIsi, dataTy, tyNm, isTy]
theorem D_is_non_dict : cIsi [.non, .ty "dict"] = some (.fz (.bl false)) := by simp [cIsi, dataTy, tyNm, isTy]
theorem D_is_non_tuple : cIsi [.non, .ty "tuple"] = some (.fz (.bl false)) := by simp [cIsi, dataTy, tyNm, isTy]
theorem D_is_bl_int : cIsi [(.bl b), .ty "int"] = some (.fz (.bl true)) := by simp [cIsi, dataTy, tyNm, isTy]
theorem D_is_bl_bool : cIsi [(.bl b), .ty "bool"] = some (.fz (.bl true)) := by simp [cIsi, dataTy, tyNm, isTy]
theorem D_is_bl_str : cIsi [(.bl b), .ty "str"] = some (.fz (.bl false)) := by simp [cIsi, dataTy, tyNm, isTy]
theorem D_is_bl_list : cIsi [(.bl b), .ty "list"] = some (.fz (.bl false)) := by simp [cIsi, dataTy, tyNm, isTy]
theorem D_is_bl_dict : cIsi [(.bl b), .ty "dict"] = some (.fz (.bl false)) := by simp [cIsi, dataTy, tyNm, isTy]
theorem D_is_bl_tuple : cIsi [(.bl b), .ty "tuple"] = some (.fz (.bl false)) := by simp [cIsi, dataTy, tyNm, isTy]
theorem D_is_int_int : cIsi [(.int i), .ty "int"] = some (.fz (.bl true)) := by simp [cIsi, dataTy, tyNm, isTy]
theorem D_is_int_bool : cIsi [(.int i), .ty "bool"] = some (.fz (.bl false)) := by simp [cIsi, dataTy, tyNm, isTy]
theorem D_is_int_str : cIsi [(.int i), .ty "str"] = some (.fz (.bl false)) := by simp [cIsi, dataTy, tyNm, isTy]
theorem D_is_int_list : cIsi [(.int i), .ty "list"] = some (.fz (.bl false)) := by simp [cIsi, dataTy, tyNm, isTy]
theorem D_is_int_dict : cIsi [(.int i), .ty "dict"] = some (.fz (.bl false)) := by simp [cIsi, dataTy, tyNm, isTy]
theorem D_is_int_tuple : cIsi [(.int i), .ty "tuple"] = some (.fz (.bl false)) := by simp [cIsi, dataTy, tyNm, isTy]
theorem D_is_str_int : cIsi [(.str s), .ty "int"] = some (.fz (.bl false)) := by simp [cIsi, dataTy, tyNm, isTy]
theorem D_is_str_bool : cIsi [(.str s), .ty "bool"] = some (.fz (.bl false)) := by simp [cIsi, dataTy, tyNm, isTy]
theorem D_is_str_str : cIsi [(.str s), .ty "str"] = some (.fz (.bl true)) := by simp [cIsi, dataTy, tyNm, isTy]
theorem D_is_str_list : cIsi [(.str s), .ty "list"] = some (.fz (.bl false)) := by simp [cIsi, dataTy, tyNm, isTy]
theorem D_is_str_dict : cIsi [(.str s), .ty "dict"] = some (.fz (.bl false)) := by simp [cIsi, dataTy, tyNm, isTy]
theorem D_is_str_tuple : cIsi [(.str s), .ty "tuple"] = some (.fz (.bl false)) := by simp [cIsi, dataTy, tyNm, isTy]
theorem D_is_lst_int : cIsi [(.lst ds), .ty "int"] = some (.fz (.bl false)) := by simp [cIsi, dataTy, tyNm, isTy]
theorem D_is_lst_bool : cIsi [(.lst ds), .ty "bool"] = some (.fz (.bl false)) := by simp [cIsi, dataTy, tyNm, isTy]
theorem D_is_lst_str : cIsi [(.lst ds), .ty "str"] = some (.fz (.bl false)) := by simp [cIsi, dataTy, tyNm, isTy]
theorem D_is_lst_list : cIsi [(.lst ds), .ty "list"] = some (.fz (.bl true)) := by simp [cIsi, dataTy, tyNm, isTy]
theorem D_is_lst_dict : cIsi [(.lst ds), .ty "dict"] = some (.fz (.bl false)) := by simp [cIsi, dataTy, tyNm, isTy]
theorem D_is_lst_tuple : cIsi [(.lst ds), .ty "tuple"] = some (.fz (.bl false)) := by simp [cIsi, dataTy, tyNm, isTy]
theorem D_is_tup_int : cIsi [(.tup ds), .ty "int"] = some (.fz (.bl false)) := by simp [cIsi, dataTy, tyNm, isTy]
theorem D_is_tup_bool : cIsi [(.tup ds), .ty "bool"] = some (.fz (.bl false)) := by simp [cIsi, dataTy, tyNm, isTy]
theorem D_is_tup_str : cIsi [(.tup ds), .ty "str"] = some (.fz (.bl false)) := by simp [cIsi, dataTy, tyNm, isTy]
theorem D_is_tup_list : cIsi [(.tup ds), .ty "list"] = some (.fz (.bl false)) := by simp [cIsi, dataTy, tyNm, isTy]
theorem D_is_tup_dict : cIsi [(.tup ds), .ty "dict"] = some (.fz (.bl false)) := by simp [cIsi, dataTy, tyNm, isTy]
theorem D_is_tup_tuple : cIsi [(.tup ds), .ty "tuple"] = some (.fz (.bl true)) := by simp [cIsi, dataTy, tyNm, isTy]
theorem D_is_dic_int : cIsi [(.dic ks), .ty "int"] = some (.fz (.bl false)) := by simp [cIsi, dataTy, tyNm, isTy]
theorem D_is_dic_bool : cIsi [(.dic ks), .ty "bool"] = some (.fz (.bl false)) := by simp [cIsi, dataTy, tyNm, isTy]
theorem D_is_dic_str : cIsi [(.dic ks), .ty "str"] = some (.fz (.bl false)) := by simp [cIsi, dataTy, tyNm, isTy]
theorem D_is_dic_list : cIsi [(.dic ks), .ty "list"] = some (.fz (.bl false)) := by simp [cIsi, dataTy, tyNm, isTy]
theorem D_is_dic_dict : cIsi [(.dic ks), .ty "dict"] = some (.fz (.bl true)) := by simp [cIsi, dataTy, tyNm, isTy]
theorem D_is_dic_tuple : cIsi [(.dic ks), .ty "tuple"] = some (.fz (.bl false)) := by simp [cIsi, dataTy, tyNm, isTy]
theorem D_is_scr_int : cIsi [(.scr ns), .ty "int"] = some (.fz (.bl false)) := by simp [cIsi, dataTy, tyNm, isTy]
theorem D_is_scr_bool : cIsi [(.scr ns), .ty "bool"] = some (.fz (.bl false)) := by simp [cIsi, dataTy, tyNm, isTy]
theorem D_is_scr_str : cIsi [(.scr ns), .ty "str"] = some (.fz (.bl false)) := by simp [cIsi, dataTy, tyNm, isTy]
theorem D_is_scr_list : cIsi [(.scr ns), .ty "list"] = some (.fz (.bl true)) := by simp [cIsi, dataTy, tyNm, isTy]
theorem D_is_scr_dict : cIsi [(.scr ns), .ty "dict"] = some (.fz (.bl false)) := by simp [cIsi, dataTy, tyNm, isTy]
theorem D_is_scr_tuple : cIsi [(.scr ns), .ty "tuple"] = some (.fz (.bl false)) := by simp [cIsi, dataTy, tyNm, isTy]
theorem D_addI : addD (.int i) (.int j) = some (.fz (.int (i + j))) := Eq.trans rfl rfl
theorem D_subI : subD (.int i) (.int j) = some (.fz (.int (i - j))) := Eq.trans rfl rfl
theorem D_negI : negD (.int i) = some (.fz (.int (-i))) := Eq.trans rfl rfl
theorem D_cmp : cmpD p (.int i) (.int j) = some (.fz (.bl (p i j))) := Eq.trans rfl rfl
theorem D_isN_non : isND neg .non .non = some (.fz (.bl (!neg))) := by cases neg <;> rfl
theorem D_isN_bl : isND neg (.bl b) .non = some (.fz (.bl (neg))) := by cases neg <;> rfl
theorem D_isN_int : isND neg (.int i) .non = some (.fz (.bl (neg))) := by cases neg <;> rfl
theorem D_isN_str : isND neg (.str s) .non = some (.fz (.bl (neg))) := by cases neg <;> rfl
theorem D_isN_lst : isND neg (.lst ds) .non = some (.fz (.bl (neg))) := by cases neg <;> rfl
theorem D_isN_tup : isND neg (.tup ds) .non = some (.fz (.bl (neg))) := by cases neg <;> rfl
theorem D_isN_dic : isND neg (.dic ks) .non = some (.fz (.bl (neg))) := by cases neg <;> rfl
theorem D_isN_scr : isND neg (.scr ns) .non = some (.fz (.bl (neg))) := by cases neg <;> rfl
theorem D_lenL : cLen [.lst ds] = some (.fz (.int ds.length)) := Eq.trans rfl rfl
theorem D_lenT : cLen [.tup ds] = some (.fz (.int ds.length)) := Eq.trans rfl rfl
theorem D_lenR : cLen [.scr ns] = some (.fz (.int ns.length)) := Eq.trans rfl rfl
theorem D_lenK : cLen [.dic ks] = some (.fz (.int ks.length)) := Eq.trans rfl rfl
theorem D_eqII : eqD (.int i) (.int j) = some (.fz (.bl (i == j))) := by simp [eqD, depLe, eqO]
theorem D_eqSS : eqD (.str s) (.str t) = some (.fz (.bl (s == t))) := by simp [eqD, depLe, eqO]
theorem D_eqBB : eqD (.bl b) (.bl c) = some (.fz (.bl (b == c))) := by simp [eqD, depLe, eqO]
theorem D_eq_non_bl : eqD .non (.bl b) = some (.fz (.bl false)) := by simp [eqD, depLe, eqO]
theorem D_eq_non_int : eqD .non (.int i) = some (.fz (.bl false)) := by simp [eqD, depLe, eqO]
theorem D_eq_non_str : eqD .non (.str s) = some (.fz (.bl false)) := by simp [eqD, depLe, eqO]
theorem D_eq_non_lst : eqD .non (.lst es) = some (.fz (.bl false)) := by simp [eqD, depLe, eqO]
theorem D_eq_non_tup : eqD .non (.tup es) = some (.fz (.bl false)) := by simp [eqD, depLe, eqO]
theorem D_eq_bl_non : eqD (.bl b) .non = some (.fz (.bl false)) := by simp [eqD, depLe, eqO]
theorem D_eq_bl_str : eqD (.bl b) (.str s) = some (.fz (.bl false)) := by simp [eqD, depLe, eqO]
theorem D_eq_bl_lst : eqD (.bl b) (.lst es) = some (.fz (.bl false)) := by simp [eqD, depLe, eqO]
theorem D_eq_bl_tup : eqD (.bl b) (.tup es) = some (.fz (.bl false)) := by simp [eqD, depLe, eqO]
theorem D_eq_int_non : eqD (.int i) .non = some (.fz (.bl false)) := by simp [eqD, depLe, eqO]
theorem D_eq_int_str : eqD (.int i) (.str s) = some (.fz (.bl false)) := by simp [eqD, depLe, eqO]
theorem D_eq_int_lst : eqD (.int i) (.lst es) = some (.fz (.bl false)) := by simp [eqD, depLe, eqO]
theorem D_eq_int_tup : eqD (.int i) (.tup es) = some (.fz (.bl false)) := by simp [eqD, depLe, eqO]
theorem D_eq_str_non : eqD (.str s) .non = some (.fz (.bl false)) := by simp [eqD, depLe, eqO]
theorem D_eq_str_bl : eqD (.str s) (.bl b) = some (.fz (.bl false)) := by simp [eqD, depLe, eqO]
theorem D_eq_str_int : eqD (.str s) (.int i) = some (.fz (.bl false)) := by simp [eqD, depLe, eqO]
theorem D_eq_str_lst : eqD (.str s) (.lst es) = some (.fz (.bl false)) := by simp [eqD, depLe, eqO]
theorem D_eq_str_tup : eqD (.str s) (.tup es) = some (.fz (.bl false)) := by simp [eqD, depLe, eqO]
theorem D_neSS : neD (.str s) (.str t) = some (.fz (.bl (!(s == t)))) := by simp [neD, depLe, neO, eqO]
theorem D_neII : neD (.int i) (.int j) = some (.fz (.bl (!(i == j)))) := by simp [neD, depLe, neO, eqO]
theorem D_ixL : ixD (.lst ds) (.int i) = (L2.atI ds i).map .fz := Eq.trans rfl rfl
theorem D_ixT : ixD (.tup ds) (.int i) = (L2.atI ds i).map .fz := Eq.trans rfl rfl
theorem D_ixR : ixD (.scr ns) (.int i) = (L2.atI ns i).map fun n => .fz (.int n) := Eq.trans rfl rfl
theorem D_ixKI : ixD (.dic ks) (.int i) = (gV ks (Sum.inl i)).map .fz := Eq.trans rfl rfl
theorem D_ixKS : ixD (.dic ks) (.str s) = (gV ks (Sum.inr s)).map .fz := Eq.trans rfl rfl
theorem D_slL : ∀ {lo hi : Option Int}, slD (.lst ds) lo hi = some (.ow (.lst (cutD ds lo hi))) := Eq.trans rfl rfl
theorem D_slT : ∀ {lo hi : Option Int}, slD (.tup ds) lo hi = some (.fz (.tup (cutD ds lo hi))) := Eq.trans rfl rfl
theorem D_addS (h : s.length + t.length ≤ 16777216) : addD (.str s) (.str t) = some (.fz (.str (s ++ t))) := by simp [addD, h]
theorem D_addL (h : ds.length + es.length ≤ 16777216) : addD (.lst ds) (.lst es) = some (.ow (.lst (ds ++ es))) := by simp [addD, h]
theorem D_addT (h : ds.length + es.length ≤ 16777216) : addD (.tup ds) (.tup es) = some (.fz (.tup (ds ++ es))) := by simp [addD, h]
theorem D_lenS (h : s.length ≤ 16777216) : cLen [.str s] = some (.fz (.int s.length)) := by simp [cLen, h]
theorem at_nat {α : Type} {xs : List α} {n : Nat} {v : α} (h : xs[n]? = some v) : L2.atI xs (n : Int) = some v := L2.atI_nat h
theorem D_ixL0 {a0 : D} {r : List D} : ixD (.lst (a0 :: r)) (.int 0) = some (.fz a0) := congrArg (Option.map Vl.fz) (at_nat (n := 0) rfl)
theorem D_ixT0 {a0 : D} {r : List D} : ixD (.tup (a0 :: r)) (.int 0) = some (.fz a0) := congrArg (Option.map Vl.fz) (at_nat (n := 0) rfl)
theorem D_ixL1 {a0 a1 : D} {r : List D} : ixD (.lst (a0 :: a1 :: r)) (.int 1) = some (.fz a1) := congrArg (Option.map Vl.fz) (at_nat (n := 1) rfl)
theorem D_ixT1 {a0 a1 : D} {r : List D} : ixD (.tup (a0 :: a1 :: r)) (.int 1) = some (.fz a1) := congrArg (Option.map Vl.fz) (at_nat (n := 1) rfl)
theorem D_ixL2 {a0 a1 a2 : D} {r : List D} : ixD (.lst (a0 :: a1 :: a2 :: r)) (.int 2) = some (.fz a2) := congrArg (Option.map Vl.fz) (at_nat (n := 2) rfl)
theorem D_ixT2 {a0 a1 a2 : D} {r : List D} : ixD (.tup (a0 :: a1 :: a2 :: r)) (.int 2) = some (.fz a2) := congrArg (Option.map Vl.fz) (at_nat (n := 2) rfl)
theorem D_ixL3 {a0 a1 a2 a3 : D} {r : List D} : ixD (.lst (a0 :: a1 :: a2 :: a3 :: r)) (.int 3) = some (.fz a3) := congrArg (Option.map Vl.fz) (at_nat (n := 3) rfl)
theorem D_ixT3 {a0 a1 a2 a3 : D} {r : List D} : ixD (.tup (a0 :: a1 :: a2 :: a3 :: r)) (.int 3) = some (.fz a3) := congrArg (Option.map Vl.fz) (at_nat (n := 3) rfl)
theorem D_ixL4 {a0 a1 a2 a3 a4 : D} {r : List D} : ixD (.lst (a0 :: a1 :: a2 :: a3 :: a4 :: r)) (.int 4) = some (.fz a4) := congrArg (Option.map Vl.fz) (at_nat (n := 4) rfl)
theorem D_ixT4 {a0 a1 a2 a3 a4 : D} {r : List D} : ixD (.tup (a0 :: a1 :: a2 :: a3 :: a4 :: r)) (.int 4) = some (.fz a4) := congrArg (Option.map Vl.fz) (at_nat (n := 4) rfl)
theorem D_ixL5 {a0 a1 a2 a3 a4 a5 : D} {r : List D} : ixD (.lst (a0 :: a1 :: a2 :: a3 :: a4 :: a5 :: r)) (.int 5) = some (.fz a5) := congrArg (Option.map Vl.fz) (at_nat (n := 5) rfl)
theorem D_ixT5 {a0 a1 a2 a3 a4 a5 : D} {r : List D} : ixD (.tup (a0 :: a1 :: a2 :: a3 :: a4 :: a5 :: r)) (.int 5) = some (.fz a5) := congrArg (Option.map Vl.fz) (at_nat (n := 5) rfl)
theorem D_ixL6 {a0 a1 a2 a3 a4 a5 a6 : D} {r : List D} : ixD (.lst (a0 :: a1 :: a2 :: a3 :: a4 :: a5 :: a6 :: r)) (.int 6) = some (.fz a6) := congrArg (Option.map Vl.fz) (at_nat (n := 6) rfl)
theorem D_ixT6 {a0 a1 a2 a3 a4 a5 a6 : D} {r : List D} : ixD (.tup (a0 :: a1 :: a2 :: a3 :: a4 :: a5 :: a6 :: r)) (.int 6) = some (.fz a6) := congrArg (Option.map Vl.fz) (at_nat (n := 6) rfl)
theorem D_ixL7 {a0 a1 a2 a3 a4 a5 a6 a7 : D} {r : List D} : ixD (.lst (a0 :: a1 :: a2 :: a3 :: a4 :: a5 :: a6 :: a7 :: r)) (.int 7) = some (.fz a7) := congrArg (Option.map Vl.fz) (at_nat (n := 7) rfl)
theorem D_ixT7 {a0 a1 a2 a3 a4 a5 a6 a7 : D} {r : List D} : ixD (.tup (a0 :: a1 :: a2 :: a3 :: a4 :: a5 :: a6 :: a7 :: r)) (.int 7) = some (.fz a7) := congrArg (Option.map Vl.fz) (at_nat (n := 7) rfl)
/-! calls of defs that change what they are handed -/
def callRo (op : List Nat) (n : Nat) (g : FnD) (o : Out (List Vl)) : Out Vl := match o with
  | .ok xs e => callE op n g xs e
  | .exc c e => .exc c e
  | .stk => .stk
theorem S_callo {a : Nat} {op : List Nat} {n : Nat} {g : FnD} {m : M (List Vl)} {e : En} : dCall (a :: op) n g m e = callRo (a :: op) n g (m e) := by
  unfold dCall callRo
  cases q : m e with
  | ok x e1 => rw [mB_ok q]
  | exc c e1 => unfold mB; rw [q]
  | stk => unfold mB; rw [q]
def fzN3 (x : Vl) (o : Out (List Vl)) : Out (List Vl) := match o with
  | .ok ys e => .ok (x :: ys) e
  | .exc c e => .exc c e
  | .stk => .stk
def fzN2 (op : List Nat) (i : Nat) (o : Out D) (xs : List Vl) : Out (List Vl) := match o with
  | .ok d e => fzN3 (.fz d) (frzN op i xs e)
  | .exc c e => .exc c e
  | .stk => .stk
def fzN1 (op : List Nat) (i : Nat) (b : Bool) (x : Vl) (xs : List Vl) (e : En) : Out (List Vl) := match b with
  | true => fzN3 x (frzN op (i + 1) xs e)
  | false => fzN2 op (i + 1) (frz x e) xs
theorem S_fzN0 {op : List Nat} {i : Nat} {e : En} : frzN op i [] e = .ok [] e := Eq.trans rfl rfl
theorem S_fzN1 {op : List Nat} {i : Nat} {x : Vl} {xs : List Vl} {e : En} : frzN op i (x :: xs) e = fzN1 op i (decide (i ∈ op)) x xs e := by
  rw [frzN]
  by_cases h : i ∈ op
  · rw [if_pos h, decide_eq_true h]
    show _ = fzN3 x (frzN op (i + 1) xs e)
    unfold fzN3 mB
    cases frzN op (i + 1) xs e <;> rfl
  · rw [if_neg h, decide_eq_false h]
    show _ = fzN2 op (i + 1) (frz x e) xs
    unfold fzN2
    cases q : frz x e with
    | ok d e1 =>
      rw [mB_ok q]
      show _ = fzN3 (.fz d) (frzN op (i + 1) xs e1)
      unfold fzN3 mB
      cases frzN op (i + 1) xs e1 <;> rfl
    | exc c e1 => unfold mB; rw [q]
    | stk => unfold mB; rw [q]
theorem S_fzN2 {op : List Nat} {i : Nat} {x : Vl} {xs : List Vl} {e : En} : fzN1 op i true x xs e = fzN3 x (frzN op (i + 1) xs e) := Eq.trans rfl rfl
theorem S_fzN3 {op : List Nat} {i : Nat} {x : Vl} {xs : List Vl} {e : En} : fzN1 op i false x xs e = fzN2 op (i + 1) (frz x e) xs := Eq.trans rfl rfl
theorem S_fzN4 {op : List Nat} {i : Nat} {d : D} {xs : List Vl} {e : En} : fzN2 op i (.ok d e) xs = fzN3 (.fz d) (frzN op i xs e) := Eq.trans rfl rfl
theorem S_fzN5 {x : Vl} {ys : List Vl} {e : En} : fzN3 x (.ok ys e) = .ok (x :: ys) e := Eq.trans rfl rfl
def callE1 (n : Nat) (g : FnD) (o : Out (List Vl)) : Out Vl := match o with
  | .ok ys e => if (plIx ys).Nodup ∧ ys.length = n then (match g (ys.map (entOf e)) with
    | .ok x es => .ok x (putE ys es e)
    | .exc c es => .exc c (putE ys es e)
    | .stk => .stk) else .stk
  | .exc c e => .exc c e
  | .stk => .stk
def callE2 (ys : List Vl) (o : Out Vl) (e : En) : Out Vl := match o with
  | .ok x es => .ok x (putE ys es e)
  | .exc c es => .exc c (putE ys es e)
  | .stk => .stk
theorem S_callE {op : List Nat} {n : Nat} {g : FnD} {xs : List Vl} {e : En} : callE op n g xs e = callE1 n g (frzN op 0 xs e) := by
  unfold callE callE1 mB
  cases frzN op 0 xs e <;> rfl
theorem S_callo1 {op : List Nat} {n : Nat} {g : FnD} {xs : List Vl} {e : En} : callRo op n g (.ok xs e) = callE op n g xs e := Eq.trans rfl rfl
theorem S_callo2 {op : List Nat} {n : Nat} {g : FnD} {c : Ex} {e : En} : callRo op n g (.exc c e) = .exc c e := Eq.trans rfl rfl
theorem S_callE1 {n : Nat} {g : FnD} {ys : List Vl} {e : En} (h : (plIx ys).Nodup) (h2 : ys.length = n) : callE1 n g (.ok ys e) = callE2 ys (g (ys.map (entOf e))) e := by
  unfold callE1 callE2
  simp only [if_pos (And.intro h h2)]
theorem S_callE2 {ys : List Vl} {x : Vl} {es e : En} : callE2 ys (.ok x es) e = .ok x (putE ys es e) := Eq.trans rfl rfl
theorem S_callE3 {ys : List Vl} {c : Ex} {es e : En} : callE2 ys (.exc c es) e = .exc c (putE ys es e) := Eq.trans rfl rfl
theorem S_ent1 {d : D} {e : En} : entOf e (.fz d) = .fz d := Eq.trans rfl rfl
theorem S_ent2 {d : D} {e : En} : entOf e (.ow d) = .ow d := Eq.trans rfl rfl
theorem S_ent3 {i : Nat} {e : En} : entOf e (.pl i) = (e[i]?).getD .no := by
  show e.getD i .no = _
  rw [List.getD_eq_getElem?_getD]
theorem S_ent4 {x : Ent} : (some x : Option Ent).getD .no = x := Eq.trans rfl rfl
theorem S_putE0 {es e : En} : putE [] es e = e := by cases es <;> rfl
theorem S_putE1 {i : Nat} {xs : List Vl} {x : Ent} {es e : En} : putE (.pl i :: xs) (x :: es) e = putE xs es (e.set i x) := Eq.trans rfl rfl
theorem S_putE2 {d : D} {xs : List Vl} {x : Ent} {es e : En} : putE (.fz d :: xs) (x :: es) e = putE xs es e := Eq.trans rfl rfl
theorem S_putE3 {d : D} {xs : List Vl} {x : Ent} {es e : En} : putE (.ow d :: xs) (x :: es) e = putE xs es e := Eq.trans rfl rfl
theorem S_plx0 : plIx [] = [] := Eq.trans rfl rfl
theorem S_plx1 {i : Nat} {xs : List Vl} : plIx (.pl i :: xs) = i :: plIx xs := Eq.trans rfl rfl
theorem S_plx2 {d : D} {xs : List Vl} : plIx (.fz d :: xs) = plIx xs := Eq.trans rfl rfl
theorem S_plx3 {d : D} {xs : List Vl} : plIx (.ow d :: xs) = plIx xs := Eq.trans rfl rfl
theorem S_nd1 {i : Nat} : [i].Nodup := by simp
theorem S_nd2 {i j : Nat} (h : (i == j) = false) : [i, j].Nodup := by
  have : i ≠ j := by simpa using h
  simp [this]
theorem S_nd3 {i j k : Nat} (h1 : (i == j) = false) (h2 : (i == k) = false) (h3 : (j == k) = false) : [i, j, k].Nodup := by
  have h1' : i ≠ j := by simpa using h1
  have h2' : i ≠ k := by simpa using h2
  have h3' : j ≠ k := by simpa using h3
  simp [h1', h2', h3']
theorem S_in_1_0 : decide (0 ∈ ([1] : List Nat)) = false := rfl
theorem S_in_1_1 : decide (1 ∈ ([1] : List Nat)) = true := rfl
theorem S_in_1_2 : decide (2 ∈ ([1] : List Nat)) = false := rfl
theorem S_in_1_3 : decide (3 ∈ ([1] : List Nat)) = false := rfl
theorem S_in_1_4 : decide (4 ∈ ([1] : List Nat)) = false := rfl
theorem S_in_1_5 : decide (5 ∈ ([1] : List Nat)) = false := rfl
theorem S_in_12_0 : decide (0 ∈ ([1, 2] : List Nat)) = false := rfl
theorem S_in_12_1 : decide (1 ∈ ([1, 2] : List Nat)) = true := rfl
theorem S_in_12_2 : decide (2 ∈ ([1, 2] : List Nat)) = true := rfl
theorem S_in_12_3 : decide (3 ∈ ([1, 2] : List Nat)) = false := rfl
theorem S_in_12_4 : decide (4 ∈ ([1, 2] : List Nat)) = false := rfl
theorem S_in_12_5 : decide (5 ∈ ([1, 2] : List Nat)) = false := rfl
theorem S_in_14_0 : decide (0 ∈ ([1, 4] : List Nat)) = false := rfl
theorem S_in_14_1 : decide (1 ∈ ([1, 4] : List Nat)) = true := rfl
theorem S_in_14_2 : decide (2 ∈ ([1, 4] : List Nat)) = false := rfl
theorem S_in_14_3 : decide (3 ∈ ([1, 4] : List Nat)) = false := rfl
theorem S_in_14_4 : decide (4 ∈ ([1, 4] : List Nat)) = true := rfl
theorem S_in_14_5 : decide (5 ∈ ([1, 4] : List Nat)) = false := rfl
theorem S_in_123_0 : decide (0 ∈ ([1, 2, 3] : List Nat)) = false := rfl
theorem S_in_123_1 : decide (1 ∈ ([1, 2, 3] : List Nat)) = true := rfl
theorem S_in_123_2 : decide (2 ∈ ([1, 2, 3] : List Nat)) = true := rfl
theorem S_in_123_3 : decide (3 ∈ ([1, 2, 3] : List Nat)) = true := rfl
theorem S_in_123_4 : decide (4 ∈ ([1, 2, 3] : List Nat)) = false := rfl
theorem S_in_123_5 : decide (5 ∈ ([1, 2, 3] : List Nat)) = false := rfl
theorem S_in_13_0 : decide (0 ∈ ([1, 3] : List Nat)) = false := rfl
theorem S_in_13_1 : decide (1 ∈ ([1, 3] : List Nat)) = true := rfl
theorem S_in_13_2 : decide (2 ∈ ([1, 3] : List Nat)) = false := rfl
theorem S_in_13_3 : decide (3 ∈ ([1, 3] : List Nat)) = true := rfl
theorem S_in_13_4 : decide (4 ∈ ([1, 3] : List Nat)) = false := rfl
theorem S_in_13_5 : decide (5 ∈ ([1, 3] : List Nat)) = false := rfl
/-! try -/
def tryR (cs : List Ex) (i j : Nat) (o : Out Fl) : Out Fl := match o with
  | .ok f e' => .ok f e'
  | .exc c e' => if c ∈ cs ∧ i < e'.length then .ok .nx (((e'.set i (.fz (.exn c))).set j (.fz (.exn c))).set i .no) else .stk
  | .stk => .stk
theorem S_try {cs : List Ex} {i j : Nat} {mb : M Fl} {e : En} : dTry cs i j mb e = tryR cs i j (mb e) := Eq.trans rfl rfl
theorem S_try1 {cs : List Ex} {i j : Nat} {f : Fl} {e : En} : tryR cs i j (.ok f e) = .ok f e := Eq.trans rfl rfl
theorem S_try2 {cs : List Ex} {i j : Nat} {c : Ex} {e : En} (h : c ∈ cs) (h2 : i < e.length) : tryR cs i j (.exc c e) = .ok .nx (((e.set i (.fz (.exn c))).set j (.fz (.exn c))).set i .no) := by
  unfold tryR
  simp only [if_pos (And.intro h h2)]
theorem D_isN_exn {c : Ex} : isND neg (.exn c) .non = some (.fz (.bl neg)) := by cases neg <;> rfl
theorem D_mulL {k : Nat} (h : ds.length * k ≤ 16777216) (h2 : k < 9223372036854775808) : mulD (.lst ds) (.int (k : Int)) = some (.ow (.lst (List.replicate k ds).flatten)) := by
  unfold mulD
  have e : (k : Int).toNat = k := Int.toNat_natCast k
  simp only [e]
  rw [if_pos ⟨by omega, by omega, h⟩]
/-! a dict written -/
def dispR2 (ks : List Key) (o : Out (List D)) : Out Vl := match o with
  | .ok ds e => if ds.length = ks.length ∧ ks.length ≤ 15 then .ok (.ow (.dic (mergeD [] (ks.zip ds)))) e else .stk
  | .exc c e => .exc c e
  | .stk => .stk
def dispR (ks : List Key) (o : Out (List Vl)) : Out Vl := match o with
  | .ok xs e => dispR2 ks (frzs xs e)
  | .exc c e => .exc c e
  | .stk => .stk
theorem S_disp {ks : List Key} {n : M (List Vl)} {e : En} : dDisp ks n e = dispR ks (n e) := by
  unfold dDisp dispR
  cases q : n e with
  | exc c e1 => unfold mB; rw [q]
  | stk => unfold mB; rw [q]
  | ok xs e1 =>
    rw [mB_ok q]
    show _ = dispR2 ks (frzs xs e1)
    unfold dispR2
    cases q2 : frzs xs e1 with
    | exc c e2 => unfold mB; rw [q2]
    | stk => unfold mB; rw [q2]
    | ok ds e2 =>
      rw [mB_ok q2]
      by_cases h : ds.length = ks.length ∧ ks.length ≤ 15
      · simp only [if_pos h]; rfl
      · simp only [if_neg h]
theorem S_disp1 {ks : List Key} {xs : List Vl} {e : En} : dispR ks (.ok xs e) = dispR2 ks (frzs xs e) := Eq.trans rfl rfl
theorem S_disp2 {ks : List Key} {ds : List D} {e : En} (h : ds.length = ks.length) (h2 : ks.length ≤ 15) : dispR2 ks (.ok ds e) = .ok (.ow (.dic (mergeD [] (ks.zip ds)))) e := by
  unfold dispR2
  simp only [if_pos (And.intro h h2)]
/-- a op b op c -/
def chR4 (g : D → D → Option Vl) (y : Vl) (o : Option Vl) (k : M Vl) (e : En) : Out Vl := match o with
  | some (.fz (.bl true)) => opR g (.ok y e) k
  | some (.fz (.bl false)) => .ok (.fz (.bl false)) e
  | _ => .stk
def chR3 (f g : D → D → Option Vl) (y : Vl) (o u : Option D) (k : M Vl) (e : En) : Out Vl := match o with
  | some a => (match u with
    | some b => chR4 g y (f a b) k e
    | none => .stk)
  | none => .stk
def chR2 (f g : D → D → Option Vl) (x : Vl) (o : Out Vl) (k : M Vl) : Out Vl := match o with
  | .ok y e => chR3 f g y (peek e x) (peek e y) k e
  | .exc c e => .exc c e
  | .stk => .stk
def chR (f g : D → D → Option Vl) (o : Out Vl) (n k : M Vl) : Out Vl := match o with
  | .ok x e => chR2 f g x (n e) k
  | .exc c e => .exc c e
  | .stk => .stk
theorem S_ch {f g : D → D → Option Vl} {m n k : M Vl} {e : En} : dChain f g m n k e = chR f g (m e) n k := by
  unfold dChain chR
  cases q : m e with
  | exc c e1 => unfold mB; rw [q]
  | stk => unfold mB; rw [q]
  | ok x e1 =>
    rw [mB_ok q]
    show _ = chR2 f g x (n e1) k
    unfold chR2
    cases q2 : n e1 with
    | exc c e1 => unfold mB; rw [q2]
    | stk => unfold mB; rw [q2]
    | ok y e2 =>
      rw [mB_ok q2]
      show _ = chR3 f g y (peek e2 x) (peek e2 y) k e2
      unfold chR3
      cases h1 : peek e2 x with
      | none => unfold mB pk; rw [h1]
      | some a =>
        rw [mB_ok (show pk x e2 = .ok a e2 by unfold pk; rw [h1])]
        cases h2 : peek e2 y with
        | none => unfold mB pk; rw [h2]
        | some b =>
          rw [mB_ok (show pk y e2 = .ok b e2 by unfold pk; rw [h2])]
          show _ = chR4 g y (f a b) k e2
          unfold chR4
          cases f a b with
          | none => rfl
          | some v =>
            cases v with
            | fz d =>
              cases d with
              | bl t =>
                cases t with
                | true => rfl
                | false => rfl
              | _ => rfl
            | _ => rfl
theorem S_ch1 {f g : D → D → Option Vl} {x : Vl} {n k : M Vl} {e : En} : chR f g (.ok x e) n k = chR2 f g x (n e) k := Eq.trans rfl rfl
theorem S_ch2 {f g : D → D → Option Vl} {x y : Vl} {k : M Vl} {e : En} : chR2 f g x (.ok y e) k = chR3 f g y (peek e x) (peek e y) k e := Eq.trans rfl rfl
theorem S_ch3 {f g : D → D → Option Vl} {y : Vl} {a b : D} {k : M Vl} {e : En} : chR3 f g y (some a) (some b) k e = chR4 g y (f a b) k e := Eq.trans rfl rfl
theorem S_ch4 {g : D → D → Option Vl} {y : Vl} {k : M Vl} {e : En} : chR4 g y (some (.fz (.bl true))) k e = opR g (.ok y e) k := Eq.trans rfl rfl
theorem S_ch5 {g : D → D → Option Vl} {y : Vl} {k : M Vl} {e : En} : chR4 g y (some (.fz (.bl false))) k e = .ok (.fz (.bl false)) e := Eq.trans rfl rfl
end
/-- all of them -/
theorem SIM : type_of% (And.intro (And.intro (And.intro (And.intro (And.intro (And.intro (And.intro (And.intro (@S_disp) (@S_disp1)) (And.intro (@S_disp2) (And.intro (@S_callo) (@S_fzN0)))) (And.intro (And.intro (@S_fzN1) (@S_fzN2)) (And.intro (@S_fzN3) (And.intro (@S_fzN4) (@S_fzN5))))) (And.intro (And.intro (And.intro (@S_callE) (@S_callo1)) (And.intro (@S_callo2) (And.intro (@S_callE1) (@S_callE2)))) (And.intro (And.intro (@S_callE3) (@S_ent1)) (And.intro (@S_ent2) (And.intro (@S_ent3) (@S_ent4)))))) (And.intro (And.intro (And.intro (And.intro (@S_putE0) (@S_putE1)) (And.intro (@S_putE2) (And.intro (@S_putE3) (@S_plx0)))) (And.intro (And.intro (@S_plx1) (@S_plx2)) (And.intro (@S_plx3) (And.intro (@S_nd1) (@S_nd2))))) (And.intro (And.intro (And.intro (@S_nd3) (@S_in_1_0)) (And.intro (@S_in_1_1) (And.intro (@S_in_1_2) (@S_in_1_3)))) (And.intro (And.intro (@S_in_1_4) (@S_in_1_5)) (And.intro (@S_in_12_0) (And.intro (@S_in_12_1) (@S_in_12_2))))))) (And.intro (And.intro (And.intro (And.intro (And.intro (@S_in_12_3) (@S_in_12_4)) (And.intro (@S_in_12_5) (And.intro (@S_in_14_0) (@S_in_14_1)))) (And.intro (And.intro (@S_in_14_2) (@S_in_14_3)) (And.intro (@S_in_14_4) (And.intro (@S_in_14_5) (@S_in_123_0))))) (And.intro (And.intro (And.intro (@S_in_123_1) (@S_in_123_2)) (And.intro (@S_in_123_3) (And.intro (@S_in_123_4) (@S_in_123_5)))) (And.intro (And.intro (@S_in_13_0) (@S_in_13_1)) (And.intro (@S_in_13_2) (And.intro (@S_in_13_3) (@S_in_13_4)))))) (And.intro (And.intro (And.intro (And.intro (@S_in_13_5) (@S_try)) (And.intro (@S_try1) (And.intro (@D_isN_exn) (@S_C)))) (And.intro (And.intro (@S_and) (@S_andV)) (And.intro (@S_app0) (And.intro (@S_app1) (@S_app2))))) (And.intro (And.intro (And.intro (@S_app3) (@S_asg)) (And.intro (@S_asg1) (And.intro (@S_asg2) (@S_asg3)))) (And.intro (And.intro (@S_asg4) (@S_asg5)) (And.intro (@S_asg6) (And.intro (@S_bool) (@S_bool1)))))))) (And.intro (And.intro (And.intro (And.intro (And.intro (And.intro (@S_bool2) (@S_bool3)) (And.intro (@S_call) (And.intro (@S_call1) (@S_call2)))) (And.intro (And.intro (@S_call3) (@S_call4)) (And.intro (@S_call5) (And.intro (@S_cb) (@S_cb1))))) (And.intro (And.intro (And.intro (@S_cb2) (@S_cb3)) (And.intro (@S_cons) (And.intro (@S_cons1) (@S_cons2)))) (And.intro (And.intro (@S_cons3) (@S_cons4)) (And.intro (@S_drop) (And.intro (@S_drop1) (@S_drop2)))))) (And.intro (And.intro (And.intro (And.intro (@S_el) (@S_el1)) (And.intro (@S_fz1) (And.intro (@S_fz2) (@S_fz3)))) (And.intro (And.intro (@S_fz4) (@S_fz5)) (And.intro (@S_fzs0) (And.intro (@S_fzs1) (@S_fzs2))))) (And.intro (And.intro (And.intro (@S_fzs3) (@S_if)) (And.intro (@S_if1) (And.intro (@S_if2) (@S_if3)))) (And.intro (And.intro (@S_ifs) (@S_it)) (And.intro (@S_it1) (And.intro (@S_it2) (@S_itL))))))) (And.intro (And.intro (And.intro (And.intro (And.intro (@S_itS) (@S_itT)) (And.intro (@S_kL) (And.intro (@S_kT) (@S_lift)))) (And.intro (And.intro (@S_lst) (@S_mk0)) (And.intro (@S_mk1) (And.intro (@S_mk2) (@S_newK))))) (And.intro (And.intro (And.intro (@S_newT) (@S_next)) (And.intro (@S_nil) (And.intro (@S_not) (@S_not1)))) (And.intro (And.intro (@S_not2) (@S_notV)) (And.intro (@S_notV1) (And.intro (@S_nox) (@S_nox1)))))) (And.intro (And.intro (And.intro (And.intro (@S_op) (@S_op1)) (And.intro (@S_op2) (And.intro (@S_op3) (@S_op4)))) (And.intro (And.intro (@S_op5) (@S_or)) (And.intro (@S_orV) (And.intro (@S_part) (@S_part1))))) (And.intro (And.intro (And.intro (@S_part2) (@S_pk1)) (And.intro (@S_pk2) (And.intro (@S_pk3) (@S_pk4)))) (And.intro (And.intro (@S_pk5) (@S_pks0)) (And.intro (@S_pks1) (And.intro (@S_pks2) (@S_raise))))))))) (And.intro (And.intro (And.intro (And.intro (And.intro (And.intro (And.intro (@S_ret) (@S_rt)) (And.intro (@S_rt1) (And.intro (@S_rt2) (@S_rt3)))) (And.intro (And.intro (@S_rt4) (@S_rt5)) (And.intro (@S_rt6) (And.intro (@S_run) (@S_run1))))) (And.intro (And.intro (And.intro (@S_run2) (@S_run3)) (And.intro (@S_seq) (And.intro (@S_seq1) (@S_seq2)))) (And.intro (And.intro (@S_seq3) (@S_seq4)) (And.intro (@S_seq5) (And.intro (@S_sl) (@S_sl1)))))) (And.intro (And.intro (And.intro (And.intro (@S_sl2) (@S_sl3)) (And.intro (@S_sl4) (And.intro (@S_tru) (@S_tru1)))) (And.intro (And.intro (@S_tru2) (@S_tru3)) (And.intro (@S_truB) (And.intro (@S_truL) (@S_truT))))) (And.intro (And.intro (And.intro (@S_tup) (@S_un)) (And.intro (@S_un1) (And.intro (@S_un2) (@S_un3)))) (And.intro (And.intro (@S_unp) (@S_unp1)) (And.intro (@S_unp2) (And.intro (@S_unp3) (@S_unp4))))))) (And.intro (And.intro (And.intro (And.intro (And.intro (@S_var) (@S_var1)) (And.intro (@S_var2) (And.intro (@S_ch) (@S_ch1)))) (And.intro (And.intro (@S_ch2) (@S_ch3)) (And.intro (@S_ch4) (And.intro (@S_ch5) (@D_is_non_int))))) (And.intro (And.intro (And.intro (@D_is_non_bool) (@D_is_non_str)) (And.intro (@D_is_non_list) (And.intro (@D_is_non_dict) (@D_is_non_tuple)))) (And.intro (And.intro (@D_is_bl_int) (@D_is_bl_bool)) (And.intro (@D_is_bl_str) (And.intro (@D_is_bl_list) (@D_is_bl_dict)))))) (And.intro (And.intro (And.intro (And.intro (@D_is_bl_tuple) (@D_is_int_int)) (And.intro (@D_is_int_bool) (And.intro (@D_is_int_str) (@D_is_int_list)))) (And.intro (And.intro (@D_is_int_dict) (@D_is_int_tuple)) (And.intro (@D_is_str_int) (And.intro (@D_is_str_bool) (@D_is_str_str))))) (And.intro (And.intro (And.intro (@D_is_str_list) (@D_is_str_dict)) (And.intro (@D_is_str_tuple) (And.intro (@D_is_lst_int) (@D_is_lst_bool)))) (And.intro (And.intro (@D_is_lst_str) (@D_is_lst_list)) (And.intro (@D_is_lst_dict) (And.intro (@D_is_lst_tuple) (@D_is_tup_int)))))))) (And.intro (And.intro (And.intro (And.intro (And.intro (And.intro (@D_is_tup_bool) (@D_is_tup_str)) (And.intro (@D_is_tup_list) (And.intro (@D_is_tup_dict) (@D_is_tup_tuple)))) (And.intro (And.intro (@D_is_dic_int) (@D_is_dic_bool)) (And.intro (@D_is_dic_str) (And.intro (@D_is_dic_list) (@D_is_dic_dict))))) (And.intro (And.intro (And.intro (@D_is_dic_tuple) (@D_is_scr_int)) (And.intro (@D_is_scr_bool) (And.intro (@D_is_scr_str) (@D_is_scr_list)))) (And.intro (And.intro (@D_is_scr_dict) (@D_is_scr_tuple)) (And.intro (@D_addI) (And.intro (@D_subI) (@D_negI)))))) (And.intro (And.intro (And.intro (And.intro (@D_cmp) (@D_isN_non)) (And.intro (@D_isN_bl) (And.intro (@D_isN_int) (@D_isN_str)))) (And.intro (And.intro (@D_isN_lst) (@D_isN_tup)) (And.intro (@D_isN_dic) (And.intro (@D_isN_scr) (@D_lenL))))) (And.intro (And.intro (And.intro (@D_lenT) (@D_lenR)) (And.intro (@D_lenK) (And.intro (@D_eqII) (@D_eqSS)))) (And.intro (And.intro (@D_eqBB) (@D_eq_non_bl)) (And.intro (@D_eq_non_int) (And.intro (@D_eq_non_str) (@D_eq_non_lst))))))) (And.intro (And.intro (And.intro (And.intro (And.intro (@D_eq_non_tup) (@D_eq_bl_non)) (And.intro (@D_eq_bl_str) (And.intro (@D_eq_bl_lst) (@D_eq_bl_tup)))) (And.intro (And.intro (@D_eq_int_non) (@D_eq_int_str)) (And.intro (@D_eq_int_lst) (And.intro (@D_eq_int_tup) (@D_eq_str_non))))) (And.intro (And.intro (And.intro (@D_eq_str_bl) (@D_eq_str_int)) (And.intro (@D_eq_str_lst) (And.intro (@D_eq_str_tup) (@D_neSS)))) (And.intro (And.intro (@D_neII) (@D_ixL0)) (And.intro (@D_ixT0) (And.intro (@D_ixL1) (@D_ixT1)))))) (And.intro (And.intro (And.intro (And.intro (@D_ixL2) (@D_ixT2)) (And.intro (@D_ixL3) (And.intro (@D_ixT3) (@D_ixL4)))) (And.intro (And.intro (@D_ixT4) (@D_ixL5)) (And.intro (@D_ixT5) (And.intro (@D_ixL6) (@D_ixT6))))) (And.intro (And.intro (And.intro (@D_ixL7) (@D_ixT7)) (And.intro (@D_ixR) (And.intro (@D_ixKI) (@D_ixKS)))) (And.intro (And.intro (@D_slL) (And.intro (@D_slT) (@D_addS))) (And.intro (@D_addL) (And.intro (@D_addT) (@D_lenS)))))))))) := And.intro (And.intro (And.intro (And.intro (And.intro (And.intro (And.intro (And.intro (@S_disp) (@S_disp1)) (And.intro (@S_disp2) (And.intro (@S_callo) (@S_fzN0)))) (And.intro (And.intro (@S_fzN1) (@S_fzN2)) (And.intro (@S_fzN3) (And.intro (@S_fzN4) (@S_fzN5))))) (And.intro (And.intro (And.intro (@S_callE) (@S_callo1)) (And.intro (@S_callo2) (And.intro (@S_callE1) (@S_callE2)))) (And.intro (And.intro (@S_callE3) (@S_ent1)) (And.intro (@S_ent2) (And.intro (@S_ent3) (@S_ent4)))))) (And.intro (And.intro (And.intro (And.intro (@S_putE0) (@S_putE1)) (And.intro (@S_putE2) (And.intro (@S_putE3) (@S_plx0)))) (And.intro (And.intro (@S_plx1) (@S_plx2)) (And.intro (@S_plx3) (And.intro (@S_nd1) (@S_nd2))))) (And.intro (And.intro (And.intro (@S_nd3) (@S_in_1_0)) (And.intro (@S_in_1_1) (And.intro (@S_in_1_2) (@S_in_1_3)))) (And.intro (And.intro (@S_in_1_4) (@S_in_1_5)) (And.intro (@S_in_12_0) (And.intro (@S_in_12_1) (@S_in_12_2))))))) (And.intro (And.intro (And.intro (And.intro (And.intro (@S_in_12_3) (@S_in_12_4)) (And.intro (@S_in_12_5) (And.intro (@S_in_14_0) (@S_in_14_1)))) (And.intro (And.intro (@S_in_14_2) (@S_in_14_3)) (And.intro (@S_in_14_4) (And.intro (@S_in_14_5) (@S_in_123_0))))) (And.intro (And.intro (And.intro (@S_in_123_1) (@S_in_123_2)) (And.intro (@S_in_123_3) (And.intro (@S_in_123_4) (@S_in_123_5)))) (And.intro (And.intro (@S_in_13_0) (@S_in_13_1)) (And.intro (@S_in_13_2) (And.intro (@S_in_13_3) (@S_in_13_4)))))) (And.intro (And.intro (And.intro (And.intro (@S_in_13_5) (@S_try)) (And.intro (@S_try1) (And.intro (@D_isN_exn) (@S_C)))) (And.intro (And.intro (@S_and) (@S_andV)) (And.intro (@S_app0) (And.intro (@S_app1) (@S_app2))))) (And.intro (And.intro (And.intro (@S_app3) (@S_asg)) (And.intro (@S_asg1) (And.intro (@S_asg2) (@S_asg3)))) (And.intro (And.intro (@S_asg4) (@S_asg5)) (And.intro (@S_asg6) (And.intro (@S_bool) (@S_bool1)))))))) (And.intro (And.intro (And.intro (And.intro (And.intro (And.intro (@S_bool2) (@S_bool3)) (And.intro (@S_call) (And.intro (@S_call1) (@S_call2)))) (And.intro (And.intro (@S_call3) (@S_call4)) (And.intro (@S_call5) (And.intro (@S_cb) (@S_cb1))))) (And.intro (And.intro (And.intro (@S_cb2) (@S_cb3)) (And.intro (@S_cons) (And.intro (@S_cons1) (@S_cons2)))) (And.intro (And.intro (@S_cons3) (@S_cons4)) (And.intro (@S_drop) (And.intro (@S_drop1) (@S_drop2)))))) (And.intro (And.intro (And.intro (And.intro (@S_el) (@S_el1)) (And.intro (@S_fz1) (And.intro (@S_fz2) (@S_fz3)))) (And.intro (And.intro (@S_fz4) (@S_fz5)) (And.intro (@S_fzs0) (And.intro (@S_fzs1) (@S_fzs2))))) (And.intro (And.intro (And.intro (@S_fzs3) (@S_if)) (And.intro (@S_if1) (And.intro (@S_if2) (@S_if3)))) (And.intro (And.intro (@S_ifs) (@S_it)) (And.intro (@S_it1) (And.intro (@S_it2) (@S_itL))))))) (And.intro (And.intro (And.intro (And.intro (And.intro (@S_itS) (@S_itT)) (And.intro (@S_kL) (And.intro (@S_kT) (@S_lift)))) (And.intro (And.intro (@S_lst) (@S_mk0)) (And.intro (@S_mk1) (And.intro (@S_mk2) (@S_newK))))) (And.intro (And.intro (And.intro (@S_newT) (@S_next)) (And.intro (@S_nil) (And.intro (@S_not) (@S_not1)))) (And.intro (And.intro (@S_not2) (@S_notV)) (And.intro (@S_notV1) (And.intro (@S_nox) (@S_nox1)))))) (And.intro (And.intro (And.intro (And.intro (@S_op) (@S_op1)) (And.intro (@S_op2) (And.intro (@S_op3) (@S_op4)))) (And.intro (And.intro (@S_op5) (@S_or)) (And.intro (@S_orV) (And.intro (@S_part) (@S_part1))))) (And.intro (And.intro (And.intro (@S_part2) (@S_pk1)) (And.intro (@S_pk2) (And.intro (@S_pk3) (@S_pk4)))) (And.intro (And.intro (@S_pk5) (@S_pks0)) (And.intro (@S_pks1) (And.intro (@S_pks2) (@S_raise))))))))) (And.intro (And.intro (And.intro (And.intro (And.intro (And.intro (And.intro (@S_ret) (@S_rt)) (And.intro (@S_rt1) (And.intro (@S_rt2) (@S_rt3)))) (And.intro (And.intro (@S_rt4) (@S_rt5)) (And.intro (@S_rt6) (And.intro (@S_run) (@S_run1))))) (And.intro (And.intro (And.intro (@S_run2) (@S_run3)) (And.intro (@S_seq) (And.intro (@S_seq1) (@S_seq2)))) (And.intro (And.intro (@S_seq3) (@S_seq4)) (And.intro (@S_seq5) (And.intro (@S_sl) (@S_sl1)))))) (And.intro (And.intro (And.intro (And.intro (@S_sl2) (@S_sl3)) (And.intro (@S_sl4) (And.intro (@S_tru) (@S_tru1)))) (And.intro (And.intro (@S_tru2) (@S_tru3)) (And.intro (@S_truB) (And.intro (@S_truL) (@S_truT))))) (And.intro (And.intro (And.intro (@S_tup) (@S_un)) (And.intro (@S_un1) (And.intro (@S_un2) (@S_un3)))) (And.intro (And.intro (@S_unp) (@S_unp1)) (And.intro (@S_unp2) (And.intro (@S_unp3) (@S_unp4))))))) (And.intro (And.intro (And.intro (And.intro (And.intro (@S_var) (@S_var1)) (And.intro (@S_var2) (And.intro (@S_ch) (@S_ch1)))) (And.intro (And.intro (@S_ch2) (@S_ch3)) (And.intro (@S_ch4) (And.intro (@S_ch5) (@D_is_non_int))))) (And.intro (And.intro (And.intro (@D_is_non_bool) (@D_is_non_str)) (And.intro (@D_is_non_list) (And.intro (@D_is_non_dict) (@D_is_non_tuple)))) (And.intro (And.intro (@D_is_bl_int) (@D_is_bl_bool)) (And.intro (@D_is_bl_str) (And.intro (@D_is_bl_list) (@D_is_bl_dict)))))) (And.intro (And.intro (And.intro (And.intro (@D_is_bl_tuple) (@D_is_int_int)) (And.intro (@D_is_int_bool) (And.intro (@D_is_int_str) (@D_is_int_list)))) (And.intro (And.intro (@D_is_int_dict) (@D_is_int_tuple)) (And.intro (@D_is_str_int) (And.intro (@D_is_str_bool) (@D_is_str_str))))) (And.intro (And.intro (And.intro (@D_is_str_list) (@D_is_str_dict)) (And.intro (@D_is_str_tuple) (And.intro (@D_is_lst_int) (@D_is_lst_bool)))) (And.intro (And.intro (@D_is_lst_str) (@D_is_lst_list)) (And.intro (@D_is_lst_dict) (And.intro (@D_is_lst_tuple) (@D_is_tup_int)))))))) (And.intro (And.intro (And.intro (And.intro (And.intro (And.intro (@D_is_tup_bool) (@D_is_tup_str)) (And.intro (@D_is_tup_list) (And.intro (@D_is_tup_dict) (@D_is_tup_tuple)))) (And.intro (And.intro (@D_is_dic_int) (@D_is_dic_bool)) (And.intro (@D_is_dic_str) (And.intro (@D_is_dic_list) (@D_is_dic_dict))))) (And.intro (And.intro (And.intro (@D_is_dic_tuple) (@D_is_scr_int)) (And.intro (@D_is_scr_bool) (And.intro (@D_is_scr_str) (@D_is_scr_list)))) (And.intro (And.intro (@D_is_scr_dict) (@D_is_scr_tuple)) (And.intro (@D_addI) (And.intro (@D_subI) (@D_negI)))))) (And.intro (And.intro (And.intro (And.intro (@D_cmp) (@D_isN_non)) (And.intro (@D_isN_bl) (And.intro (@D_isN_int) (@D_isN_str)))) (And.intro (And.intro (@D_isN_lst) (@D_isN_tup)) (And.intro (@D_isN_dic) (And.intro (@D_isN_scr) (@D_lenL))))) (And.intro (And.intro (And.intro (@D_lenT) (@D_lenR)) (And.intro (@D_lenK) (And.intro (@D_eqII) (@D_eqSS)))) (And.intro (And.intro (@D_eqBB) (@D_eq_non_bl)) (And.intro (@D_eq_non_int) (And.intro (@D_eq_non_str) (@D_eq_non_lst))))))) (And.intro (And.intro (And.intro (And.intro (And.intro (@D_eq_non_tup) (@D_eq_bl_non)) (And.intro (@D_eq_bl_str) (And.intro (@D_eq_bl_lst) (@D_eq_bl_tup)))) (And.intro (And.intro (@D_eq_int_non) (@D_eq_int_str)) (And.intro (@D_eq_int_lst) (And.intro (@D_eq_int_tup) (@D_eq_str_non))))) (And.intro (And.intro (And.intro (@D_eq_str_bl) (@D_eq_str_int)) (And.intro (@D_eq_str_lst) (And.intro (@D_eq_str_tup) (@D_neSS)))) (And.intro (And.intro (@D_neII) (@D_ixL0)) (And.intro (@D_ixT0) (And.intro (@D_ixL1) (@D_ixT1)))))) (And.intro (And.intro (And.intro (And.intro (@D_ixL2) (@D_ixT2)) (And.intro (@D_ixL3) (And.intro (@D_ixT3) (@D_ixL4)))) (And.intro (And.intro (@D_ixT4) (@D_ixL5)) (And.intro (@D_ixT5) (And.intro (@D_ixL6) (@D_ixT6))))) (And.intro (And.intro (And.intro (@D_ixL7) (@D_ixT7)) (And.intro (@D_ixR) (And.intro (@D_ixKI) (@D_ixKS)))) (And.intro (And.intro (@D_slL) (And.intro (@D_slT) (@D_addS))) (And.intro (@D_addL) (And.intro (@D_addT) (@D_lenS)))))))))
end L3
end S_Sj
section S_Pp
set_option maxHeartbeats 0
/-! # what is no worth -/
namespace LP
open PySem PySem.Spec PyProof.Rows L2 L3
--BEGIN
theorem is_plain_bl {n : Nat} (hn : 2 ≤ n) (b : Bool) : G_is_plain n [.fz (.bl b)] = .ok (.fz (.bl false)) [.fz (.bl b)] := by
  obtain ⟨k, rfl, hk⟩ := up1 hn
  have h2 := is_word_no hk (d := .bl b) rfl rfl
  obtain ⟨j, rfl, _⟩ := up1 hk
  have h1 : G_is_whole (j + 1) [.fz (.bl b), .fz (.int (-1000000)), .fz (.int 1000000)] = .ok (.fz (.bl false)) [.fz (.bl b), .fz (.int (-1000000)), .fz (.int 1000000)] := by
    simp only [G_is_whole, m_is_whole, SIM, List.map_cons, List.map_nil, List.length_cons, List.length_nil, List.append_eq, List.nil_append, List.cons_append, List.replicate, Nat.reduceSub, Nat.reduceAdd, Nat.reduceLeDiff, Nat.reduceLT, List.getElem?_cons_zero, List.getElem?_cons_succ, List.set_cons_zero, List.set_cons_succ, Bool.not_true, Bool.not_false, decide_true, decide_false, Int.reduceSub, Int.reduceAdd, Int.reduceNeg, Bool.false_bne, Bool.bne_false, Bool.true_bne, Nat.le_refl, Nat.zero_le, Nat.reduceEqDiff, List.isEmpty_cons, List.isEmpty_nil, reduceCtorEq, List.zip_cons_cons, List.zip_nil_left, List.length_map, Nat.reduceBEq, Nat.reduceEqDiff]
  simp only [G_is_plain, m_is_plain, h1, h2, SIM, List.map_cons, List.map_nil, List.length_cons, List.length_nil, List.append_eq, List.nil_append, List.cons_append, List.replicate, Nat.reduceSub, Nat.reduceAdd, Nat.reduceLeDiff, Nat.reduceLT, List.getElem?_cons_zero, List.getElem?_cons_succ, List.set_cons_zero, List.set_cons_succ, Bool.not_true, Bool.not_false, decide_true, decide_false, Int.reduceSub, Int.reduceAdd, Int.reduceNeg, Bool.false_bne, Bool.bne_false, Bool.true_bne, Nat.le_refl, Nat.zero_le, Nat.reduceEqDiff, List.isEmpty_cons, List.isEmpty_nil, reduceCtorEq, List.zip_cons_cons, List.zip_nil_left, List.length_map, Nat.reduceBEq, Nat.reduceEqDiff]
theorem is_plain_all {n : Nat} (hn : 2 ≤ n) {d : D} (hd : dataTy d = true) (hs : ∀ s, d = .str s → s.length ≤ 16777216) : G_is_plain n [.fz d] = .ok (.fz (.bl (plainB d))) [.fz d] := by
  cases d with
  | bl b => exact is_plain_bl hn b
  | _ => exact is_plain_ok hn hd hs fun b z => nomatch z
def keyR : Key → Bool
  | .inr s => decide (s.length ≤ 16777216)
  | .inl _ => true
/-- data that may be looked at, n deep -/
def rdD : Nat → D → Bool
  | _, .non => true
  | _, .bl _ => true
  | _, .int _ => true
  | _, .str s => decide (s.length ≤ 16777216)
  | _, .tup _ => true
  | 0, .lst _ => true
  | 0, .dic _ => true
  | n + 1, .lst ds => decide (ds.length ≤ 16777216) && ds.all (rdD n)
  | n + 1, .dic ks => decide (ks.length ≤ 16777216) && decide ((ks.map (·.1)).Nodup) && ks.all fun p => keyR p.1 && rdD n p.2
  | _, _ => false
theorem rd_data {n : Nat} {d : D} (h : rdD n d = true) : dataTy d = true ∧ ∀ s, d = .str s → s.length ≤ 16777216 := by
  cases d with
  | str s => exact ⟨rfl, fun s' e => by cases e; cases n <;> exact of_decide_eq_true h⟩
  | dit _ => cases n <;> cases h
  | ty _ => cases n <;> cases h
  | exn _ => cases n <;> cases h
  | cl _ => cases n <;> cases h
  | ptr _ => cases n <;> cases h
  | _ => exact ⟨rfl, fun s' e => (by cases e)⟩
def oi : Option Nat → D
  | some c => .int (c : Int)
  | none => .non
def sumO : List (Option Nat) → Option Nat
  | [] => some 0
  | none :: _ => none
  | some c :: r => (sumO r).map (c + ·)
/-- how many worths; none, if there is what is none -/
def partsF : Nat → D → Option Nat
  | _, .int i => if okI i = true then some 1 else none
  | _, .str s => if okS s = true then some 1 else none
  | n + 1, .lst ds => if ds.length ≤ 60 then (sumO (ds.map (partsF n))).map (1 + ·) else none
  | n + 1, .dic ks => if ks.all (fun p => okK p.1) = true ∧ ks.length ≤ 60 then (sumO (ks.map fun p => partsF n p.2)).map (1 + ·) else none
  | _, _ => none
theorem oi_flat : ∀ l : List (Option Nat), (l.map oi).all flatD = true
  | [] => rfl
  | none :: r => by rw [List.map_cons, List.all_cons, oi_flat r]; rfl
  | some c :: r => by rw [List.map_cons, List.all_cons, oi_flat r]; rfl
theorem oi_non : ∀ l : List (Option Nat), ((l.map oi).any fun y => eqO y .non == some true) = decide (sumO l = none)
  | [] => rfl
  | none :: r => by simp [oi, eqO, sumO]
  | some c :: r => by
    have := oi_non r
    simp [oi, eqO, sumO] at this ⊢
    exact this
theorem oi_in (l : List (Option Nat)) : inD false .non (.lst (l.map oi)) = some (.fz (.bl (decide (sumO l = none)))) := by
  have h1 := oi_flat l
  have h2 := oi_non l
  simp only [inD, h1, h2, flatD]; simp
theorem oi_ints : ∀ {l : List (Option Nat)} {c : Nat}, sumO l = some c → ∃ is, intsOf (l.map oi) = some is ∧ is.sum = (c : Int)
  | [], c, h => by cases h; exact ⟨[], rfl, rfl⟩
  | none :: r, c, h => by cases h
  | some x :: r, c, h => by
    unfold sumO at h
    cases q : sumO r with
    | none => rw [q] at h; cases h
    | some y =>
      rw [q] at h
      cases h
      obtain ⟨is, h1, h2⟩ := oi_ints q
      exact ⟨(x : Int) :: is, by simp [oi, intsOf, h1], by simp [h2]⟩
theorem oi_sum {l : List (Option Nat)} {c : Nat} (h : sumO l = some c) : cSum [.lst (l.map oi)] = some (.fz (.int (c : Int))) := by
  obtain ⟨is, h1, h2⟩ := oi_ints h
  simp only [cSum, h1, Option.map_some, h2]
theorem all_keys (f : Key × D → Bool) : ∀ ks : List (Key × D), cAll [.lst (ks.map fun p => .bl (f p))] = some (.fz (.bl (ks.all f))) := by
  intro ks
  have : ∀ ks : List (Key × D), blsOf (ks.map fun p => D.bl (f p)) = some (ks.map f) := by
    intro ks
    induction ks with
    | nil => rfl
    | cons a r ih => simp only [List.map_cons, blsOf, ih]
  simp [cAll, this, List.all_map, Function.comp_def]
theorem parts_all : ∀ (m n : Nat) (d : D), m + 3 ≤ n → rdD m d = true → G_parts_of n [.fz d, .fz (.int m)] = .ok (.fz (oi (partsF m d))) [.fz d, .fz (.int m)] := by
  intro m
  induction m with
  | zero =>
    intro n d hn hw
    obtain ⟨k, rfl, hn'⟩ := up1 (m := 2) (by omega)
    obtain ⟨h1, h2⟩ := rd_data hw
    have hp := is_plain_all hn' h1 h2
    have e0 : (((0 : Nat) : Int) == 0) = true := rfl
    cases d with
    | int i => cases e : okI i <;> simp only [G_parts_of, m_parts_of, SIM, List.map_cons, List.map_nil, List.length_cons, List.length_nil, List.append_eq, List.nil_append, List.cons_append, List.replicate, Nat.reduceSub, Nat.reduceAdd, Nat.reduceLeDiff, Nat.reduceLT, List.getElem?_cons_zero, List.getElem?_cons_succ, List.set_cons_zero, List.set_cons_succ, Bool.not_true, Bool.not_false, decide_true, decide_false, Int.reduceSub, Int.reduceAdd, Int.reduceNeg, Bool.false_bne, Bool.bne_false, Bool.true_bne, Nat.le_refl, Nat.zero_le, Nat.reduceEqDiff, List.isEmpty_cons, List.isEmpty_nil, reduceCtorEq, List.zip_cons_cons, List.zip_nil_left, List.length_map, Nat.reduceBEq, Nat.reduceEqDiff, hp, plainB, e] <;> simp [partsF, oi, e]
    | str i => cases e : okS i <;> simp only [G_parts_of, m_parts_of, SIM, List.map_cons, List.map_nil, List.length_cons, List.length_nil, List.append_eq, List.nil_append, List.cons_append, List.replicate, Nat.reduceSub, Nat.reduceAdd, Nat.reduceLeDiff, Nat.reduceLT, List.getElem?_cons_zero, List.getElem?_cons_succ, List.set_cons_zero, List.set_cons_succ, Bool.not_true, Bool.not_false, decide_true, decide_false, Int.reduceSub, Int.reduceAdd, Int.reduceNeg, Bool.false_bne, Bool.bne_false, Bool.true_bne, Nat.le_refl, Nat.zero_le, Nat.reduceEqDiff, List.isEmpty_cons, List.isEmpty_nil, reduceCtorEq, List.zip_cons_cons, List.zip_nil_left, List.length_map, Nat.reduceBEq, Nat.reduceEqDiff, hp, plainB, e] <;> simp [partsF, oi, e]
    | lst _ => simp only [G_parts_of, m_parts_of, SIM, List.map_cons, List.map_nil, List.length_cons, List.length_nil, List.append_eq, List.nil_append, List.cons_append, List.replicate, Nat.reduceSub, Nat.reduceAdd, Nat.reduceLeDiff, Nat.reduceLT, List.getElem?_cons_zero, List.getElem?_cons_succ, List.set_cons_zero, List.set_cons_succ, Bool.not_true, Bool.not_false, decide_true, decide_false, Int.reduceSub, Int.reduceAdd, Int.reduceNeg, Bool.false_bne, Bool.bne_false, Bool.true_bne, Nat.le_refl, Nat.zero_le, Nat.reduceEqDiff, List.isEmpty_cons, List.isEmpty_nil, reduceCtorEq, List.zip_cons_cons, List.zip_nil_left, List.length_map, Nat.reduceBEq, Nat.reduceEqDiff, hp, plainB, e0] <;> simp [partsF, oi]
    | dic _ => simp only [G_parts_of, m_parts_of, SIM, List.map_cons, List.map_nil, List.length_cons, List.length_nil, List.append_eq, List.nil_append, List.cons_append, List.replicate, Nat.reduceSub, Nat.reduceAdd, Nat.reduceLeDiff, Nat.reduceLT, List.getElem?_cons_zero, List.getElem?_cons_succ, List.set_cons_zero, List.set_cons_succ, Bool.not_true, Bool.not_false, decide_true, decide_false, Int.reduceSub, Int.reduceAdd, Int.reduceNeg, Bool.false_bne, Bool.bne_false, Bool.true_bne, Nat.le_refl, Nat.zero_le, Nat.reduceEqDiff, List.isEmpty_cons, List.isEmpty_nil, reduceCtorEq, List.zip_cons_cons, List.zip_nil_left, List.length_map, Nat.reduceBEq, Nat.reduceEqDiff, hp, plainB, e0] <;> simp [partsF, oi]
    | non => simp only [G_parts_of, m_parts_of, SIM, List.map_cons, List.map_nil, List.length_cons, List.length_nil, List.append_eq, List.nil_append, List.cons_append, List.replicate, Nat.reduceSub, Nat.reduceAdd, Nat.reduceLeDiff, Nat.reduceLT, List.getElem?_cons_zero, List.getElem?_cons_succ, List.set_cons_zero, List.set_cons_succ, Bool.not_true, Bool.not_false, decide_true, decide_false, Int.reduceSub, Int.reduceAdd, Int.reduceNeg, Bool.false_bne, Bool.bne_false, Bool.true_bne, Nat.le_refl, Nat.zero_le, Nat.reduceEqDiff, List.isEmpty_cons, List.isEmpty_nil, reduceCtorEq, List.zip_cons_cons, List.zip_nil_left, List.length_map, Nat.reduceBEq, Nat.reduceEqDiff, hp, plainB, e0] <;> simp [partsF, oi]
    | bl _ => simp only [G_parts_of, m_parts_of, SIM, List.map_cons, List.map_nil, List.length_cons, List.length_nil, List.append_eq, List.nil_append, List.cons_append, List.replicate, Nat.reduceSub, Nat.reduceAdd, Nat.reduceLeDiff, Nat.reduceLT, List.getElem?_cons_zero, List.getElem?_cons_succ, List.set_cons_zero, List.set_cons_succ, Bool.not_true, Bool.not_false, decide_true, decide_false, Int.reduceSub, Int.reduceAdd, Int.reduceNeg, Bool.false_bne, Bool.bne_false, Bool.true_bne, Nat.le_refl, Nat.zero_le, Nat.reduceEqDiff, List.isEmpty_cons, List.isEmpty_nil, reduceCtorEq, List.zip_cons_cons, List.zip_nil_left, List.length_map, Nat.reduceBEq, Nat.reduceEqDiff, hp, plainB, e0] <;> simp [partsF, oi]
    | tup _ => simp only [G_parts_of, m_parts_of, SIM, List.map_cons, List.map_nil, List.length_cons, List.length_nil, List.append_eq, List.nil_append, List.cons_append, List.replicate, Nat.reduceSub, Nat.reduceAdd, Nat.reduceLeDiff, Nat.reduceLT, List.getElem?_cons_zero, List.getElem?_cons_succ, List.set_cons_zero, List.set_cons_succ, Bool.not_true, Bool.not_false, decide_true, decide_false, Int.reduceSub, Int.reduceAdd, Int.reduceNeg, Bool.false_bne, Bool.bne_false, Bool.true_bne, Nat.le_refl, Nat.zero_le, Nat.reduceEqDiff, List.isEmpty_cons, List.isEmpty_nil, reduceCtorEq, List.zip_cons_cons, List.zip_nil_left, List.length_map, Nat.reduceBEq, Nat.reduceEqDiff, hp, plainB, e0] <;> simp [partsF, oi]
    | _ => cases hw
  | succ m ih =>
    intro n d hn hw
    obtain ⟨k, rfl, hn'⟩ := up1 (m := m + 3) (by omega)
    obtain ⟨h1, h2⟩ := rd_data hw
    have hp := is_plain_all (n := k) (by omega) h1 h2
    have hkd : (((m + 1 : Nat) : Int) == 0) = false := by simp; omega
    have hkd' : ((m + 1 : Nat) : Int) - 1 = (m : Int) := by omega
    cases d with
    | lst ds =>
      obtain ⟨hl, hw'⟩ : ds.length ≤ 16777216 ∧ ∀ d ∈ ds, rdD m d = true := by simpa [rdD] using hw
      have q3 : Q_parts_of_3 (G_is_plain k) (G_is_word k) (G_parts_of k) [.fz (.lst ds), .fz (.int ((m + 1 : Nat) : Int)), .no, .fz (.lst ds), .no, .no] = .ok (.ow (.lst (ds.map fun d => oi (partsF m d)))) [.fz (.lst ds), .fz (.int ((m + 1 : Nat) : Int)), .no, .fz (.lst ds), .no, .no] := by
        refine lc_map (fun d => oi (partsF m d)) (ei := [.fz (.lst ds), .fz (.int ((m + 1 : Nat) : Int)), .no, .fz (.lst ds), .no, .no]) (by simp [dIt, itemsOf, runD, dSeq, dIfS, dRet, retv, dAsg, stv, dVar, dC, dOp, dUn, dCB, dCall, callE, frzN, entOf, plIx, putE, mB, L3.ret, pk, peek, pks, peeks, lft, frz, frzs, dCons, dNil, dAndV, dOrV, dNotV, dAnd, dOr, dNot, dIf, dBool, dTru, truD, dChain, cIsi, tyNm, isTy, dataTy, tysOf, anyTy, cLen, cmpD, addD, subD, dNext, backE, dLst, dTup, dDrop]) (by omega) fun c hcd => ?_
        have h4 := ih k c (by omega) (hw' c hcd)
        refine ⟨[.fz (.lst ds), .fz (.int ((m + 1 : Nat) : Int)), .no, .fz (.lst ds), .no, .fz c], [.fz (.lst ds), .fz (.int ((m + 1 : Nat) : Int)), .no, .fz (.lst ds), .no, .fz c], by simp [gtN, wipeE], ?_, by simp [wipeE]⟩
        simp only [SIM, List.map_cons, List.map_nil, List.length_cons, List.length_nil, List.append_eq, List.nil_append, List.cons_append, List.replicate, Nat.reduceSub, Nat.reduceAdd, Nat.reduceLeDiff, Nat.reduceLT, List.getElem?_cons_zero, List.getElem?_cons_succ, List.set_cons_zero, List.set_cons_succ, Bool.not_true, Bool.not_false, decide_true, decide_false, Int.reduceSub, Int.reduceAdd, Int.reduceNeg, Bool.false_bne, Bool.bne_false, Bool.true_bne, Nat.le_refl, Nat.zero_le, Nat.reduceEqDiff, List.isEmpty_cons, List.isEmpty_nil, reduceCtorEq, List.zip_cons_cons, List.zip_nil_left, List.length_map, Nat.reduceBEq, Nat.reduceEqDiff, hkd', h4]
      by_cases h60 : (60 : Int) < ds.length
      · have e : ¬ ds.length ≤ 60 := by omega
        simp only [G_parts_of, m_parts_of, SIM, List.map_cons, List.map_nil, List.length_cons, List.length_nil, List.append_eq, List.nil_append, List.cons_append, List.replicate, Nat.reduceSub, Nat.reduceAdd, Nat.reduceLeDiff, Nat.reduceLT, List.getElem?_cons_zero, List.getElem?_cons_succ, List.set_cons_zero, List.set_cons_succ, Bool.not_true, Bool.not_false, decide_true, decide_false, Int.reduceSub, Int.reduceAdd, Int.reduceNeg, Bool.false_bne, Bool.bne_false, Bool.true_bne, Nat.le_refl, Nat.zero_le, Nat.reduceEqDiff, List.isEmpty_cons, List.isEmpty_nil, reduceCtorEq, List.zip_cons_cons, List.zip_nil_left, List.length_map, Nat.reduceBEq, Nat.reduceEqDiff, hp, plainB, hkd, h60, e] <;> simp [partsF, e, oi]
      · have e : ds.length ≤ 60 := by omega
        have e1 := oi_in (ds.map (partsF m))
        rw [List.map_map] at e1
        simp only [Function.comp_def] at e1
        cases q : sumO (ds.map (partsF m)) with
        | none =>
          rw [q] at e1
          simp only [G_parts_of, m_parts_of, SIM, List.map_cons, List.map_nil, List.length_cons, List.length_nil, List.append_eq, List.nil_append, List.cons_append, List.replicate, Nat.reduceSub, Nat.reduceAdd, Nat.reduceLeDiff, Nat.reduceLT, List.getElem?_cons_zero, List.getElem?_cons_succ, List.set_cons_zero, List.set_cons_succ, Bool.not_true, Bool.not_false, decide_true, decide_false, Int.reduceSub, Int.reduceAdd, Int.reduceNeg, Bool.false_bne, Bool.bne_false, Bool.true_bne, Nat.le_refl, Nat.zero_le, Nat.reduceEqDiff, List.isEmpty_cons, List.isEmpty_nil, reduceCtorEq, List.zip_cons_cons, List.zip_nil_left, List.length_map, Nat.reduceBEq, Nat.reduceEqDiff, hp, plainB, hkd, h60, e, q3, e1, q] <;> simp [partsF, e, oi, q]
        | some c =>
          have e2 := oi_sum q
          rw [List.map_map] at e2
          simp only [Function.comp_def] at e2
          rw [q] at e1
          simp only [G_parts_of, m_parts_of, SIM, List.map_cons, List.map_nil, List.length_cons, List.length_nil, List.append_eq, List.nil_append, List.cons_append, List.replicate, Nat.reduceSub, Nat.reduceAdd, Nat.reduceLeDiff, Nat.reduceLT, List.getElem?_cons_zero, List.getElem?_cons_succ, List.set_cons_zero, List.set_cons_succ, Bool.not_true, Bool.not_false, decide_true, decide_false, Int.reduceSub, Int.reduceAdd, Int.reduceNeg, Bool.false_bne, Bool.bne_false, Bool.true_bne, Nat.le_refl, Nat.zero_le, Nat.reduceEqDiff, List.isEmpty_cons, List.isEmpty_nil, reduceCtorEq, List.zip_cons_cons, List.zip_nil_left, List.length_map, Nat.reduceBEq, Nat.reduceEqDiff, hp, plainB, hkd, h60, e, q3, e1, e2, q] <;> simp [partsF, e, oi, q]
    | dic ks =>
      obtain ⟨⟨hl, nd⟩, hw'⟩ : (ks.length ≤ 16777216 ∧ (ks.map (·.1)).Nodup) ∧ ∀ p ∈ ks, keyR p.1 = true ∧ rdD m p.2 = true := by
        have hw2 : (decide (ks.length ≤ 16777216) && decide ((ks.map (·.1)).Nodup) && ks.all fun p => keyR p.1 && rdD m p.2) = true := hw
        simp only [Bool.and_eq_true, decide_eq_true_eq, List.all_eq_true] at hw2
        exact hw2
      have q1 : Q_parts_of_1 (G_is_plain k) (G_is_word k) (G_parts_of k) [.fz (.dic ks), .fz (.int ((m + 1 : Nat) : Int)), .no, .no, .no, .no] = .ok (.ow (.lst (ks.map fun p => .bl (okK p.1)))) [.fz (.dic ks), .fz (.int ((m + 1 : Nat) : Int)), .no, .no, .no, .no] := by
        refine lcK_map (fun p => .bl (okK p.1)) rfl (by omega) (fun p hp => ?_) nd
        refine ⟨[.fz (.dic ks), .fz (.int ((m + 1 : Nat) : Int)), .fz (kD p.1), .no, .no, .no], [.fz (.dic ks), .fz (.int ((m + 1 : Nat) : Int)), .fz (kD p.1), .no, .no, .no], by simp [gtN, wipeE], ?_, by simp [wipeE]⟩
        have hk := (hw' p hp).1
        cases e : p.1 with
        | inl i =>
          have h4 := is_word_no (n := k) (by omega) (d := .int i) rfl rfl
          simp only [SIM, List.map_cons, List.map_nil, List.length_cons, List.length_nil, List.append_eq, List.nil_append, List.cons_append, List.replicate, Nat.reduceSub, Nat.reduceAdd, Nat.reduceLeDiff, Nat.reduceLT, List.getElem?_cons_zero, List.getElem?_cons_succ, List.set_cons_zero, List.set_cons_succ, Bool.not_true, Bool.not_false, decide_true, decide_false, Int.reduceSub, Int.reduceAdd, Int.reduceNeg, Bool.false_bne, Bool.bne_false, Bool.true_bne, Nat.le_refl, Nat.zero_le, Nat.reduceEqDiff, List.isEmpty_cons, List.isEmpty_nil, reduceCtorEq, List.zip_cons_cons, List.zip_nil_left, List.length_map, Nat.reduceBEq, Nat.reduceEqDiff, h4, kD, okK]
        | inr s =>
          rw [e] at hk
          have h4 := is_word_str (n := k) (by omega) s (of_decide_eq_true hk)
          simp only [SIM, List.map_cons, List.map_nil, List.length_cons, List.length_nil, List.append_eq, List.nil_append, List.cons_append, List.replicate, Nat.reduceSub, Nat.reduceAdd, Nat.reduceLeDiff, Nat.reduceLT, List.getElem?_cons_zero, List.getElem?_cons_succ, List.set_cons_zero, List.set_cons_succ, Bool.not_true, Bool.not_false, decide_true, decide_false, Int.reduceSub, Int.reduceAdd, Int.reduceNeg, Bool.false_bne, Bool.bne_false, Bool.true_bne, Nat.le_refl, Nat.zero_le, Nat.reduceEqDiff, List.isEmpty_cons, List.isEmpty_nil, reduceCtorEq, List.zip_cons_cons, List.zip_nil_left, List.length_map, Nat.reduceBEq, Nat.reduceEqDiff, h4, kD, okK]
      by_cases hak : ks.all (fun p => okK p.1) = true
      · have q2 : Q_parts_of_2 (G_is_plain k) (G_is_word k) (G_parts_of k) [.fz (.dic ks), .fz (.int ((m + 1 : Nat) : Int)), .no, .no, .no, .no] = .ok (.ow (.lst (ks.map fun p => p.2))) [.fz (.dic ks), .fz (.int ((m + 1 : Nat) : Int)), .no, .no, .no, .no] := by
          refine lcK_map (fun p => p.2) rfl (by omega) (fun p hp => ?_) nd
          obtain ⟨s, e, hs⟩ := okK_str (List.all_eq_true.mp hak p hp)
          have h5 : gV ks (Sum.inr s) = some p.2 := gV_of nd (by rw [← e]; exact hp)
          refine ⟨[.fz (.dic ks), .fz (.int ((m + 1 : Nat) : Int)), .fz (.str s), .no, .no, .no], [.fz (.dic ks), .fz (.int ((m + 1 : Nat) : Int)), .fz (.str s), .no, .no, .no], by simp [gtN, wipeE, e, kD], ?_, by simp [wipeE]⟩
          simp only [SIM, List.map_cons, List.map_nil, List.length_cons, List.length_nil, List.append_eq, List.nil_append, List.cons_append, List.replicate, Nat.reduceSub, Nat.reduceAdd, Nat.reduceLeDiff, Nat.reduceLT, List.getElem?_cons_zero, List.getElem?_cons_succ, List.set_cons_zero, List.set_cons_succ, Bool.not_true, Bool.not_false, decide_true, decide_false, Int.reduceSub, Int.reduceAdd, Int.reduceNeg, Bool.false_bne, Bool.bne_false, Bool.true_bne, Nat.le_refl, Nat.zero_le, Nat.reduceEqDiff, List.isEmpty_cons, List.isEmpty_nil, reduceCtorEq, List.zip_cons_cons, List.zip_nil_left, List.length_map, Nat.reduceBEq, Nat.reduceEqDiff, h5, Option.map_some]
        have q3 : Q_parts_of_3 (G_is_plain k) (G_is_word k) (G_parts_of k) [.fz (.dic ks), .fz (.int ((m + 1 : Nat) : Int)), .no, .ow (.lst (ks.map fun p => p.2)), .no, .no] = .ok (.ow (.lst ((ks.map fun p => p.2).map fun d => oi (partsF m d)))) [.fz (.dic ks), .fz (.int ((m + 1 : Nat) : Int)), .no, .fz (.lst (ks.map fun p => p.2)), .no, .no] := by
          refine lc_map (ds := ks.map fun p => p.2) (fun d => oi (partsF m d)) (ei := [.fz (.dic ks), .fz (.int ((m + 1 : Nat) : Int)), .no, .fz (.lst (ks.map fun p => p.2)), .no, .no]) rfl (by rw [List.length_map]; omega) fun c hcd => ?_
          obtain ⟨p, hp, rfl⟩ := List.mem_map.mp hcd
          have h4 := ih k p.2 (by omega) (hw' p hp).2
          refine ⟨[.fz (.dic ks), .fz (.int ((m + 1 : Nat) : Int)), .no, .fz (.lst (ks.map fun p => p.2)), .no, .fz p.2], [.fz (.dic ks), .fz (.int ((m + 1 : Nat) : Int)), .no, .fz (.lst (ks.map fun p => p.2)), .no, .fz p.2], by simp [gtN, wipeE], ?_, by simp [wipeE]⟩
          simp only [SIM, List.map_cons, List.map_nil, List.length_cons, List.length_nil, List.append_eq, List.nil_append, List.cons_append, List.replicate, Nat.reduceSub, Nat.reduceAdd, Nat.reduceLeDiff, Nat.reduceLT, List.getElem?_cons_zero, List.getElem?_cons_succ, List.set_cons_zero, List.set_cons_succ, Bool.not_true, Bool.not_false, decide_true, decide_false, Int.reduceSub, Int.reduceAdd, Int.reduceNeg, Bool.false_bne, Bool.bne_false, Bool.true_bne, Nat.le_refl, Nat.zero_le, Nat.reduceEqDiff, List.isEmpty_cons, List.isEmpty_nil, reduceCtorEq, List.zip_cons_cons, List.zip_nil_left, List.length_map, Nat.reduceBEq, Nat.reduceEqDiff, hkd', h4]
        have e3 := all_keys (fun p => okK p.1) ks
        rw [hak] at e3
        rw [List.map_map] at q3
        simp only [Function.comp_def] at q3
        by_cases h60 : (60 : Int) < ks.length
        · have e : ¬ ks.length ≤ 60 := by omega
          simp only [G_parts_of, m_parts_of, SIM, List.map_cons, List.map_nil, List.length_cons, List.length_nil, List.append_eq, List.nil_append, List.cons_append, List.replicate, Nat.reduceSub, Nat.reduceAdd, Nat.reduceLeDiff, Nat.reduceLT, List.getElem?_cons_zero, List.getElem?_cons_succ, List.set_cons_zero, List.set_cons_succ, Bool.not_true, Bool.not_false, decide_true, decide_false, Int.reduceSub, Int.reduceAdd, Int.reduceNeg, Bool.false_bne, Bool.bne_false, Bool.true_bne, Nat.le_refl, Nat.zero_le, Nat.reduceEqDiff, List.isEmpty_cons, List.isEmpty_nil, reduceCtorEq, List.zip_cons_cons, List.zip_nil_left, List.length_map, Nat.reduceBEq, Nat.reduceEqDiff, hp, plainB, hkd, h60, e, q1, q2, e3] <;> simp [partsF, e, oi]
        · have e : ks.length ≤ 60 := by omega
          have e1 := oi_in (ks.map fun p => partsF m p.2)
          rw [List.map_map] at e1
          simp only [Function.comp_def] at e1
          cases q : sumO (ks.map fun p => partsF m p.2) with
          | none =>
            rw [q] at e1
            simp only [partsF, if_pos (And.intro hak e), q, Option.map_none]
            simp only [G_parts_of, m_parts_of, SIM, List.map_cons, List.map_nil, List.length_cons, List.length_nil, List.append_eq, List.nil_append, List.cons_append, List.replicate, Nat.reduceSub, Nat.reduceAdd, Nat.reduceLeDiff, Nat.reduceLT, List.getElem?_cons_zero, List.getElem?_cons_succ, List.set_cons_zero, List.set_cons_succ, Bool.not_true, Bool.not_false, decide_true, decide_false, Int.reduceSub, Int.reduceAdd, Int.reduceNeg, Bool.false_bne, Bool.bne_false, Bool.true_bne, Nat.le_refl, Nat.zero_le, Nat.reduceEqDiff, List.isEmpty_cons, List.isEmpty_nil, reduceCtorEq, List.zip_cons_cons, List.zip_nil_left, List.length_map, Nat.reduceBEq, Nat.reduceEqDiff, hp, plainB, hkd, h60, q1, q2, q3, e3, e1, q] <;> simp [oi, q, partsF]
          | some c =>
            have e2 := oi_sum q
            rw [List.map_map] at e2
            simp only [Function.comp_def] at e2
            rw [q] at e1
            simp only [partsF, if_pos (And.intro hak e), q, Option.map_some]
            simp only [G_parts_of, m_parts_of, SIM, List.map_cons, List.map_nil, List.length_cons, List.length_nil, List.append_eq, List.nil_append, List.cons_append, List.replicate, Nat.reduceSub, Nat.reduceAdd, Nat.reduceLeDiff, Nat.reduceLT, List.getElem?_cons_zero, List.getElem?_cons_succ, List.set_cons_zero, List.set_cons_succ, Bool.not_true, Bool.not_false, decide_true, decide_false, Int.reduceSub, Int.reduceAdd, Int.reduceNeg, Bool.false_bne, Bool.bne_false, Bool.true_bne, Nat.le_refl, Nat.zero_le, Nat.reduceEqDiff, List.isEmpty_cons, List.isEmpty_nil, reduceCtorEq, List.zip_cons_cons, List.zip_nil_left, List.length_map, Nat.reduceBEq, Nat.reduceEqDiff, hp, plainB, hkd, h60, q1, q2, q3, e3, e1, e2, q] <;> simp [oi, q, partsF]
      · have hak' : ks.all (fun p => okK p.1) = false := by simpa using hak
        have e3 := all_keys (fun p => okK p.1) ks
        rw [hak'] at e3
        simp only [partsF, if_neg (fun z => hak z.1 : ¬ (ks.all (fun p => okK p.1) = true ∧ ks.length ≤ 60))]
        simp only [G_parts_of, m_parts_of, SIM, List.map_cons, List.map_nil, List.length_cons, List.length_nil, List.append_eq, List.nil_append, List.cons_append, List.replicate, Nat.reduceSub, Nat.reduceAdd, Nat.reduceLeDiff, Nat.reduceLT, List.getElem?_cons_zero, List.getElem?_cons_succ, List.set_cons_zero, List.set_cons_succ, Bool.not_true, Bool.not_false, decide_true, decide_false, Int.reduceSub, Int.reduceAdd, Int.reduceNeg, Bool.false_bne, Bool.bne_false, Bool.true_bne, Nat.le_refl, Nat.zero_le, Nat.reduceEqDiff, List.isEmpty_cons, List.isEmpty_nil, reduceCtorEq, List.zip_cons_cons, List.zip_nil_left, List.length_map, Nat.reduceBEq, Nat.reduceEqDiff, hp, plainB, hkd, q1, e3] <;> simp [oi, partsF]
    | int i => cases e : okI i <;> simp only [G_parts_of, m_parts_of, SIM, List.map_cons, List.map_nil, List.length_cons, List.length_nil, List.append_eq, List.nil_append, List.cons_append, List.replicate, Nat.reduceSub, Nat.reduceAdd, Nat.reduceLeDiff, Nat.reduceLT, List.getElem?_cons_zero, List.getElem?_cons_succ, List.set_cons_zero, List.set_cons_succ, Bool.not_true, Bool.not_false, decide_true, decide_false, Int.reduceSub, Int.reduceAdd, Int.reduceNeg, Bool.false_bne, Bool.bne_false, Bool.true_bne, Nat.le_refl, Nat.zero_le, Nat.reduceEqDiff, List.isEmpty_cons, List.isEmpty_nil, reduceCtorEq, List.zip_cons_cons, List.zip_nil_left, List.length_map, Nat.reduceBEq, Nat.reduceEqDiff, hp, plainB, e] <;> simp [partsF, oi, e]
    | str i => cases e : okS i <;> simp only [G_parts_of, m_parts_of, SIM, List.map_cons, List.map_nil, List.length_cons, List.length_nil, List.append_eq, List.nil_append, List.cons_append, List.replicate, Nat.reduceSub, Nat.reduceAdd, Nat.reduceLeDiff, Nat.reduceLT, List.getElem?_cons_zero, List.getElem?_cons_succ, List.set_cons_zero, List.set_cons_succ, Bool.not_true, Bool.not_false, decide_true, decide_false, Int.reduceSub, Int.reduceAdd, Int.reduceNeg, Bool.false_bne, Bool.bne_false, Bool.true_bne, Nat.le_refl, Nat.zero_le, Nat.reduceEqDiff, List.isEmpty_cons, List.isEmpty_nil, reduceCtorEq, List.zip_cons_cons, List.zip_nil_left, List.length_map, Nat.reduceBEq, Nat.reduceEqDiff, hp, plainB, e] <;> simp [partsF, oi, e]
    | non => simp only [G_parts_of, m_parts_of, SIM, List.map_cons, List.map_nil, List.length_cons, List.length_nil, List.append_eq, List.nil_append, List.cons_append, List.replicate, Nat.reduceSub, Nat.reduceAdd, Nat.reduceLeDiff, Nat.reduceLT, List.getElem?_cons_zero, List.getElem?_cons_succ, List.set_cons_zero, List.set_cons_succ, Bool.not_true, Bool.not_false, decide_true, decide_false, Int.reduceSub, Int.reduceAdd, Int.reduceNeg, Bool.false_bne, Bool.bne_false, Bool.true_bne, Nat.le_refl, Nat.zero_le, Nat.reduceEqDiff, List.isEmpty_cons, List.isEmpty_nil, reduceCtorEq, List.zip_cons_cons, List.zip_nil_left, List.length_map, Nat.reduceBEq, Nat.reduceEqDiff, hp, plainB] <;> simp [partsF, oi]
    | bl _ => simp only [G_parts_of, m_parts_of, SIM, List.map_cons, List.map_nil, List.length_cons, List.length_nil, List.append_eq, List.nil_append, List.cons_append, List.replicate, Nat.reduceSub, Nat.reduceAdd, Nat.reduceLeDiff, Nat.reduceLT, List.getElem?_cons_zero, List.getElem?_cons_succ, List.set_cons_zero, List.set_cons_succ, Bool.not_true, Bool.not_false, decide_true, decide_false, Int.reduceSub, Int.reduceAdd, Int.reduceNeg, Bool.false_bne, Bool.bne_false, Bool.true_bne, Nat.le_refl, Nat.zero_le, Nat.reduceEqDiff, List.isEmpty_cons, List.isEmpty_nil, reduceCtorEq, List.zip_cons_cons, List.zip_nil_left, List.length_map, Nat.reduceBEq, Nat.reduceEqDiff, hp, plainB] <;> simp [partsF, oi]
    | tup _ => simp only [G_parts_of, m_parts_of, SIM, List.map_cons, List.map_nil, List.length_cons, List.length_nil, List.append_eq, List.nil_append, List.cons_append, List.replicate, Nat.reduceSub, Nat.reduceAdd, Nat.reduceLeDiff, Nat.reduceLT, List.getElem?_cons_zero, List.getElem?_cons_succ, List.set_cons_zero, List.set_cons_succ, Bool.not_true, Bool.not_false, decide_true, decide_false, Int.reduceSub, Int.reduceAdd, Int.reduceNeg, Bool.false_bne, Bool.bne_false, Bool.true_bne, Nat.le_refl, Nat.zero_le, Nat.reduceEqDiff, List.isEmpty_cons, List.isEmpty_nil, reduceCtorEq, List.zip_cons_cons, List.zip_nil_left, List.length_map, Nat.reduceBEq, Nat.reduceEqDiff, hp, plainB] <;> simp [partsF, oi]
    | _ => cases hw
/-- whether it is a worth -/
def isW (d : D) : Bool := match partsF 6 d with
  | some c => decide (c ≤ 60)
  | none => false
theorem look_all {n : Nat} {d : D} (hn : 10 ≤ n) (hr : rdD 6 d = true) : G_look_worth n [.fz d] = if isW d = true then .ok (.fz .non) [.fz d] else .exc .worth [.fz d] := by
  obtain ⟨k, rfl, hn'⟩ := up1 (m := 9) (by omega)
  have h : G_parts_of k [.fz d, .fz (.int 6)] = .ok (.fz (oi (partsF 6 d))) [.fz d, .fz (.int 6)] := parts_all 6 k d (by omega) hr
  unfold isW
  cases q : partsF 6 d with
  | none =>
    rw [q] at h
    simp only [G_look_worth, m_look_worth, SIM, List.map_cons, List.map_nil, List.length_cons, List.length_nil, List.append_eq, List.nil_append, List.cons_append, List.replicate, Nat.reduceSub, Nat.reduceAdd, Nat.reduceLeDiff, Nat.reduceLT, List.getElem?_cons_zero, List.getElem?_cons_succ, List.set_cons_zero, List.set_cons_succ, Bool.not_true, Bool.not_false, decide_true, decide_false, Int.reduceSub, Int.reduceAdd, Int.reduceNeg, Bool.false_bne, Bool.bne_false, Bool.true_bne, Nat.le_refl, Nat.zero_le, Nat.reduceEqDiff, List.isEmpty_cons, List.isEmpty_nil, reduceCtorEq, List.zip_cons_cons, List.zip_nil_left, List.length_map, Nat.reduceBEq, Nat.reduceEqDiff, h, oi]; simp
  | some c =>
    rw [q] at h
    by_cases hc : (60 : Int) < c
    · have e : ¬ c ≤ 60 := by omega
      simp only [G_look_worth, m_look_worth, SIM, List.map_cons, List.map_nil, List.length_cons, List.length_nil, List.append_eq, List.nil_append, List.cons_append, List.replicate, Nat.reduceSub, Nat.reduceAdd, Nat.reduceLeDiff, Nat.reduceLT, List.getElem?_cons_zero, List.getElem?_cons_succ, List.set_cons_zero, List.set_cons_succ, Bool.not_true, Bool.not_false, decide_true, decide_false, Int.reduceSub, Int.reduceAdd, Int.reduceNeg, Bool.false_bne, Bool.bne_false, Bool.true_bne, Nat.le_refl, Nat.zero_le, Nat.reduceEqDiff, List.isEmpty_cons, List.isEmpty_nil, reduceCtorEq, List.zip_cons_cons, List.zip_nil_left, List.length_map, Nat.reduceBEq, Nat.reduceEqDiff, h, oi, hc, e]; simp
    · have e : c ≤ 60 := by omega
      simp only [G_look_worth, m_look_worth, SIM, List.map_cons, List.map_nil, List.length_cons, List.length_nil, List.append_eq, List.nil_append, List.cons_append, List.replicate, Nat.reduceSub, Nat.reduceAdd, Nat.reduceLeDiff, Nat.reduceLT, List.getElem?_cons_zero, List.getElem?_cons_succ, List.set_cons_zero, List.set_cons_succ, Bool.not_true, Bool.not_false, decide_true, decide_false, Int.reduceSub, Int.reduceAdd, Int.reduceNeg, Bool.false_bne, Bool.bne_false, Bool.true_bne, Nat.le_refl, Nat.zero_le, Nat.reduceEqDiff, List.isEmpty_cons, List.isEmpty_nil, reduceCtorEq, List.zip_cons_cons, List.zip_nil_left, List.length_map, Nat.reduceBEq, Nat.reduceEqDiff, h, oi, hc, e]; simp
theorem sumO_le : ∀ {l : List (Option Nat)} {c : Nat}, sumO l = some c → ∀ x ∈ l, ∃ y, x = some y
  | [], _, _, x, h => by cases h
  | none :: r, _, h, _, _ => by cases h
  | some z :: r, c, h, x, hx => by
    unfold sumO at h
    cases q : sumO r with
    | none => rw [q] at h; cases h
    | some y =>
      rcases List.mem_cons.mp hx with e | e
      · exact ⟨z, e⟩
      · exact sumO_le q x e
theorem sumO_map {α : Type} (f : α → Option Nat) (g : α → Nat) : ∀ {l : List α} {c : Nat}, sumO (l.map f) = some c → (∀ x ∈ l, ∀ y, f x = some y → y = g x) → c = (l.map g).sum
  | [], c, h, _ => by cases h; rfl
  | a :: l, c, h, k => by
    rw [List.map_cons] at h
    cases q : f a with
    | none => rw [q] at h; cases h
    | some z =>
      rw [q] at h
      unfold sumO at h
      cases q2 : sumO (l.map f) with
      | none => rw [q2] at h; cases h
      | some y =>
        rw [q2] at h
        cases h
        rw [List.map_cons, List.sum_cons, ← k a List.mem_cons_self z q, ← sumO_map f g q2 fun x hx => k x (List.mem_cons_of_mem _ hx)]
theorem parts_is : ∀ {m : Nat} {d : D} {c : Nat}, rdD m d = true → partsF m d = some c → okW m d = true ∧ c = cntW d
  | m, .int i, c, _, h => by
    have h' : (if okI i = true then some 1 else none) = some c := by cases m <;> exact h
    by_cases e : okI i = true
    · rw [if_pos e] at h'; cases h'
      exact ⟨by cases m <;> exact e, rfl⟩
    · rw [if_neg e] at h'; cases h'
  | m, .str i, c, _, h => by
    have h' : (if okS i = true then some 1 else none) = some c := by cases m <;> exact h
    by_cases e : okS i = true
    · rw [if_pos e] at h'; cases h'
      exact ⟨by cases m <;> exact e, rfl⟩
    · rw [if_neg e] at h'; cases h'
  | m + 1, .lst ds, c, hr, h => by
    obtain ⟨hl, hw'⟩ : ds.length ≤ 16777216 ∧ ∀ d ∈ ds, rdD m d = true := by simpa [rdD] using hr
    unfold partsF at h
    split at h
    · obtain ⟨y, hy, rfl⟩ := Option.map_eq_some_iff.mp h
      have k : ∀ d ∈ ds, ∀ z, partsF m d = some z → okW m d = true ∧ z = cntW d := fun d hd z hz => parts_is (hw' d hd) hz
      refine ⟨okW_lst.mpr fun d hd => ?_, ?_⟩
      · obtain ⟨z, hz⟩ := sumO_le hy (partsF m d) (List.mem_map.mpr ⟨d, hd, rfl⟩)
        exact (k d hd z hz).1
      · show 1 + y = 1 + cnts ds
        rw [cnts_map, sumO_map (partsF m) cntW hy fun d hd z hz => (k d hd z hz).2]
    · cases h
  | m + 1, .dic ks, c, hr, h => by
    obtain ⟨⟨hl, nd⟩, hw'⟩ : (ks.length ≤ 16777216 ∧ (ks.map (·.1)).Nodup) ∧ ∀ p ∈ ks, keyR p.1 = true ∧ rdD m p.2 = true := by
      have hw2 : (decide (ks.length ≤ 16777216) && decide ((ks.map (·.1)).Nodup) && ks.all fun p => keyR p.1 && rdD m p.2) = true := hr
      simp only [Bool.and_eq_true, decide_eq_true_eq, List.all_eq_true] at hw2
      exact hw2
    unfold partsF at h
    split at h
    · rename_i hc
      obtain ⟨y, hy, rfl⟩ := Option.map_eq_some_iff.mp h
      have k : ∀ p ∈ ks, ∀ z, partsF m p.2 = some z → okW m p.2 = true ∧ z = cntW p.2 := fun p hp z hz => parts_is (hw' p hp).2 hz
      refine ⟨okW_dic.mpr ⟨fun p hp => ?_, nd⟩, ?_⟩
      · obtain ⟨z, hz⟩ := sumO_le hy (partsF m p.2) (List.mem_map.mpr ⟨p, hp, rfl⟩)
        exact ⟨List.all_eq_true.mp hc.1 p hp, (k p hp z hz).1⟩
      · show 1 + y = 1 + cntk ks
        rw [cntk_map, sumO_map (fun p => partsF m p.2) (fun p => cntW p.2) hy fun p hp z hz => (k p hp z hz).2]
    · cases h
  | 0, .lst _, _, _, h => by cases h
  | 0, .dic _, _, _, h => by cases h
  | 0, .non, _, _, h => by cases h
  | 0, .bl _, _, _, h => by cases h
  | 0, .tup _, _, _, h => by cases h
  | 0, .dit _, _, _, h => by cases h
  | 0, .scr _, _, _, h => by cases h
  | 0, .ty _, _, _, h => by cases h
  | 0, .exn _, _, _, h => by cases h
  | 0, .cl _, _, _, h => by cases h
  | 0, .ptr _, _, _, h => by cases h
  | m + 1, .non, _, _, h => by cases h
  | m + 1, .bl _, _, _, h => by cases h
  | m + 1, .tup _, _, _, h => by cases h
  | m + 1, .dit _, _, _, h => by cases h
  | m + 1, .scr _, _, _, h => by cases h
  | m + 1, .ty _, _, _, h => by cases h
  | m + 1, .exn _, _, _, h => by cases h
  | m + 1, .cl _, _, _, h => by cases h
  | m + 1, .ptr _, _, _, h => by cases h
theorem isW_is {d : D} (hr : rdD 6 d = true) (h : isW d = true) : okW 6 d = true ∧ cntW d ≤ 60 := by
  unfold isW at h
  cases q : partsF 6 d with
  | none => rw [q] at h; cases h
  | some c =>
    rw [q] at h
    obtain ⟨h1, h2⟩ := parts_is hr q
    exact ⟨h1, by rw [← h2]; exact of_decide_eq_true h⟩
theorem look_bad {n : Nat} {d : D} (hn : 10 ≤ n) (hr : rdD 6 d = true) (hb : ¬ (okW 6 d = true ∧ cntW d ≤ 60)) : G_look_worth n [.fz d] = .exc .worth [.fz d] := by
  rw [look_all hn hr, if_neg fun z => hb (isW_is hr z)]
end LP
end S_Pp
section S_Pr
set_option maxHeartbeats 0
/-! # asks -/
namespace LP
open PySem PySem.Spec PyProof.Rows L2 L3
--BEGIN
/-! ### steps -/
def sE (a b : D) : Bool := match eqO a b with
  | some c => c
  | none => false
theorem flat1 {d : D} (h : flatStep d = true) : (∃ i, d = .int i) ∨ ∃ s, d = .str s := by
  cases d with
  | int i => exact .inl ⟨i, rfl⟩
  | str s => exact .inr ⟨s, rfl⟩
  | _ => cases h
theorem sE_iff {a b : D} (ha : flatStep a = true) (hb : flatStep b = true) : sE a b = true ↔ a = b := by
  obtain ⟨c, h1, h2⟩ := step_eq ha hb
  unfold sE; rw [h1]; exact h2
theorem eqD_flat {a b : D} (ha : flatStep a = true) (hb : flatStep b = true) : eqD a b = some (.fz (.bl (sE a b))) := by
  obtain ⟨c, h1, h2⟩ := step_eq ha hb
  unfold eqD sE
  rw [if_pos (by rcases flat1 ha with ⟨i, rfl⟩ | ⟨i, rfl⟩ <;> rfl), h1]
theorem ne_nil {p : List D} (h : ∀ s ∈ p, flatStep s = true) : neD (.tup p) (.tup []) = some (.fz (.bl (!p.isEmpty))) := by
  obtain ⟨c, h1, h2⟩ := tup_ne (p := p) (q := []) h fun s hs => nomatch hs
  rw [h1]
  cases c with
  | true => have := h2.mp rfl; cases p <;> first | rfl | exact (this rfl).elim
  | false => cases p with
    | nil => rfl
    | cons a r => exact absurd (h2.mpr (by simp)) Bool.false_ne_true
theorem any_bls {α : Type} (f : α → Bool) : ∀ l : List α, cAny [.lst (l.map fun p => .bl (f p))] = some (.fz (.bl (l.any f))) := by
  intro l
  have : ∀ l : List α, blsOf (l.map fun p => D.bl (f p)) = some (l.map f) := by
    intro l
    induction l with
    | nil => rfl
    | cons a r ih => simp only [List.map_cons, blsOf, ih]
  simp [cAny, this, List.any_map, Function.comp_def]
theorem all_bls {α : Type} (f : α → Bool) : ∀ l : List α, cAll [.lst (l.map fun p => .bl (f p))] = some (.fz (.bl (l.all f))) := by
  intro l
  have : ∀ l : List α, blsOf (l.map fun p => D.bl (f p)) = some (l.map f) := by
    intro l
    induction l with
    | nil => rfl
    | cons a r ih => simp only [List.map_cons, blsOf, ih]
  simp [cAll, this, List.all_map, Function.comp_def]
/-! ### what an ask fits -/
def fitsF : List D → List D → Bool
  | [], p => p.isEmpty
  | s :: r, p => if sE s (.str "**") = true then (List.range (p.length + 1)).any fun k => fitsF r (p.drop k) else !p.isEmpty && ((sE s (.str "*") || sE s (p.headD .non)) && fitsF r p.tail)
theorem drop_flat {p : List D} (h : ∀ s ∈ p, flatStep s = true) (k : Nat) : ∀ s ∈ p.drop k, flatStep s = true := fun s hs => h s (List.mem_of_mem_drop hs)
theorem fits_ok : ∀ (ask p : List D) (n : Nat), ask.length + 1 ≤ n → (∀ s ∈ ask, flatStep s = true) → (∀ s ∈ p, flatStep s = true) → p.length ≤ 1000 → G_fits n [.fz (.tup p), .fz (.tup ask)] = .ok (.fz (.bl (fitsF ask p))) [.fz (.tup p), .fz (.tup ask)] := by
  intro ask
  induction ask with
  | nil =>
    intro p n hn ha hp hl
    obtain ⟨k, rfl, _⟩ := up1 (m := 0) hn
    have e1 := eq_nil hp
    have e2 : eqD (.tup []) (.tup []) = some (.fz (.bl true)) := rfl
    simp only [G_fits, m_fits, SIM, List.map_cons, List.map_nil, List.length_cons, List.length_nil, List.append_eq, List.nil_append, List.cons_append, List.replicate, Nat.reduceSub, Nat.reduceAdd, Nat.reduceLeDiff, Nat.reduceLT, List.getElem?_cons_zero, List.getElem?_cons_succ, List.set_cons_zero, List.set_cons_succ, Bool.not_true, Bool.not_false, decide_true, decide_false, Int.reduceSub, Int.reduceAdd, Int.reduceNeg, Bool.false_bne, Bool.bne_false, Bool.true_bne, Nat.le_refl, Nat.zero_le, Nat.reduceEqDiff, List.isEmpty_cons, List.isEmpty_nil, reduceCtorEq, List.zip_cons_cons, List.zip_nil_left, List.length_map, Nat.reduceBEq, Nat.reduceEqDiff, e1, e2, fitsF]
  | cons s r ih =>
    intro p n hn ha hp hl
    obtain ⟨k, rfl, hk⟩ := up1 (m := r.length + 1) (by simpa using hn)
    have hs := ha s List.mem_cons_self
    have hr : ∀ t ∈ r, flatStep t = true := fun t ht => ha t (List.mem_cons_of_mem _ ht)
    have e1 := eq_nil ha
    have e2 : eqD s (.str "**") = some (.fz (.bl (sE s (.str "**")))) := eqD_flat hs rfl
    have e3 : eqD s (.str "*") = some (.fz (.bl (sE s (.str "*")))) := eqD_flat hs rfl
    have e4 := ne_nil hp
    have hx : ixD (.tup (s :: r)) (.int 0) = some (.fz s) := head_ix
    by_cases hq : sE s (.str "**") = true
    · have q1 : Q_fits_1 (G_fits k) [.fz (.tup p), .fz (.tup (s :: r)), .no] = .ok (.ow (.lst ((List.range (p.length + 1)).map fun j => .bl (fitsF r (p.drop j))))) [.fz (.tup p), .fz (.tup (s :: r)), .no] := by
        have key := lc_map (vs := [2]) (tgt := gtN 2) (me := dCall [] 2 (G_fits k) (dCons (dSl (dVar 0) (dPart (dVar 2)) (L3.ret none)) (dCons (dSl (dVar 1) (dPart (dC (.int 1))) (L3.ret none)) dNil))) (mi := dRg1 (dCons (dOp addD (dCB cLen (dCons (dVar 0) dNil)) (dC (.int 1))) dNil)) (ds := rgD 0 (p.length + 1)) (fun d => match d with | .int j => .bl (fitsF r (p.drop j.toNat)) | d => d) (e := [.fz (.tup p), .fz (.tup (s :: r)), .no]) (ei := [.fz (.tup p), .fz (.tup (s :: r)), .no])
          (rg1_ok (x := .fz (.int (((p.length + 1 : Nat) : Int)))) (by simp only [SIM, List.map_cons, List.map_nil, List.length_cons, List.length_nil, List.append_eq, List.nil_append, List.cons_append, List.replicate, Nat.reduceSub, Nat.reduceAdd, Nat.reduceLeDiff, Nat.reduceLT, List.getElem?_cons_zero, List.getElem?_cons_succ, List.set_cons_zero, List.set_cons_succ, Bool.not_true, Bool.not_false, decide_true, decide_false, Int.reduceSub, Int.reduceAdd, Int.reduceNeg, Bool.false_bne, Bool.bne_false, Bool.true_bne, Nat.le_refl, Nat.zero_le, Nat.reduceEqDiff, List.isEmpty_cons, List.isEmpty_nil, reduceCtorEq, List.zip_cons_cons, List.zip_nil_left, List.length_map, Nat.reduceBEq, Nat.reduceEqDiff, Int.natCast_add, Int.cast_ofNat_Int]) rfl (by omega)) (by rw [rgD, List.length_map, List.length_range]; omega) fun c hc => by
            obtain ⟨j, hj, rfl⟩ := List.mem_map.mp hc
            have h3 := ih (p.drop j) k (by omega) hr (drop_flat hp j) (by simp; omega)
            have e0 : (0 : Int) + (j : Int) = (j : Int) := Int.zero_add _
            rw [e0]
            refine ⟨[.fz (.tup p), .fz (.tup (s :: r)), .fz (.int (j : Int))], [.fz (.tup p), .fz (.tup (s :: r)), .fz (.int (j : Int))], rfl, ?_, rfl⟩
            have c1 : L3.cutD p (some (j : Int)) none = p.drop j := cut_rest p j
            have c2 : L3.cutD (s :: r) (some 1) none = r := cut_tail s r
            simp only [SIM, List.map_cons, List.map_nil, List.length_cons, List.length_nil, List.append_eq, List.nil_append, List.cons_append, List.replicate, Nat.reduceSub, Nat.reduceAdd, Nat.reduceLeDiff, Nat.reduceLT, List.getElem?_cons_zero, List.getElem?_cons_succ, List.set_cons_zero, List.set_cons_succ, Bool.not_true, Bool.not_false, decide_true, decide_false, Int.reduceSub, Int.reduceAdd, Int.reduceNeg, Bool.false_bne, Bool.bne_false, Bool.true_bne, Nat.le_refl, Nat.zero_le, Nat.reduceEqDiff, List.isEmpty_cons, List.isEmpty_nil, reduceCtorEq, List.zip_cons_cons, List.zip_nil_left, List.length_map, Nat.reduceBEq, Nat.reduceEqDiff, c1, c2, h3, Int.toNat_natCast]
        have e : (rgD 0 (p.length + 1)).map (fun d => match d with | .int j => .bl (fitsF r (p.drop j.toNat)) | d => d) = (List.range (p.length + 1)).map fun j => D.bl (fitsF r (p.drop j)) := by
          unfold rgD
          rw [List.map_map]
          refine List.map_congr_left fun j _ => ?_
          show D.bl (fitsF r (p.drop ((0 : Int) + (j : Int)).toNat)) = _
          rw [Int.zero_add, Int.toNat_natCast]
        rw [e] at key
        exact key
      have e5 := any_bls (fun j => fitsF r (p.drop j)) (List.range (p.length + 1))
      rw [hq] at e2
      rw [show fitsF (s :: r) p = (List.range (p.length + 1)).any fun j => fitsF r (p.drop j) by rw [fitsF, if_pos hq]]
      generalize (List.range (p.length + 1)).any (fun j => fitsF r (p.drop j)) = b at *
      generalize (List.range (p.length + 1)).map (fun j => D.bl (fitsF r (p.drop j))) = l at *
      simp only [G_fits, m_fits, SIM, List.map_cons, List.map_nil, List.length_cons, List.length_nil, List.append_eq, List.nil_append, List.cons_append, List.replicate, Nat.reduceSub, Nat.reduceAdd, Nat.reduceLeDiff, Nat.reduceLT, List.getElem?_cons_zero, List.getElem?_cons_succ, List.set_cons_zero, List.set_cons_succ, Bool.not_true, Bool.not_false, decide_true, decide_false, Int.reduceSub, Int.reduceAdd, Int.reduceNeg, Bool.false_bne, Bool.bne_false, Bool.true_bne, Nat.le_refl, Nat.zero_le, Nat.reduceEqDiff, List.isEmpty_cons, List.isEmpty_nil, reduceCtorEq, List.zip_cons_cons, List.zip_nil_left, List.length_map, Nat.reduceBEq, Nat.reduceEqDiff, e1, hx, e2, q1, e5]
    · have hq' : sE s (.str "**") = false := by simpa using hq
      cases p with
      | nil => simp only [G_fits, m_fits, SIM, List.map_cons, List.map_nil, List.length_cons, List.length_nil, List.append_eq, List.nil_append, List.cons_append, List.replicate, Nat.reduceSub, Nat.reduceAdd, Nat.reduceLeDiff, Nat.reduceLT, List.getElem?_cons_zero, List.getElem?_cons_succ, List.set_cons_zero, List.set_cons_succ, Bool.not_true, Bool.not_false, decide_true, decide_false, Int.reduceSub, Int.reduceAdd, Int.reduceNeg, Bool.false_bne, Bool.bne_false, Bool.true_bne, Nat.le_refl, Nat.zero_le, Nat.reduceEqDiff, List.isEmpty_cons, List.isEmpty_nil, reduceCtorEq, List.zip_cons_cons, List.zip_nil_left, List.length_map, Nat.reduceBEq, Nat.reduceEqDiff, e1, hx, e2, e4, hq', fitsF, Bool.false_and, if_false, Bool.false_eq_true]
      | cons a p =>
        have hpa := hp a List.mem_cons_self
        have e6 : eqD s a = some (.fz (.bl (sE s a))) := eqD_flat hs hpa
        have hx2 : ixD (.tup (a :: p)) (.int 0) = some (.fz a) := head_ix
        have h3 := ih p k (by omega) hr (fun t ht => hp t (List.mem_cons_of_mem _ ht)) (by simp at hl; omega)
        have c1 : L3.cutD (a :: p) (some 1) none = p := cut_tail a p
        have c2 : L3.cutD (s :: r) (some 1) none = r := cut_tail s r
        cases f1 : sE s (.str "*") with
        | true =>
          rw [f1] at e3
          simp only [G_fits, m_fits, SIM, List.map_cons, List.map_nil, List.length_cons, List.length_nil, List.append_eq, List.nil_append, List.cons_append, List.replicate, Nat.reduceSub, Nat.reduceAdd, Nat.reduceLeDiff, Nat.reduceLT, List.getElem?_cons_zero, List.getElem?_cons_succ, List.set_cons_zero, List.set_cons_succ, Bool.not_true, Bool.not_false, decide_true, decide_false, Int.reduceSub, Int.reduceAdd, Int.reduceNeg, Bool.false_bne, Bool.bne_false, Bool.true_bne, Nat.le_refl, Nat.zero_le, Nat.reduceEqDiff, List.isEmpty_cons, List.isEmpty_nil, reduceCtorEq, List.zip_cons_cons, List.zip_nil_left, List.length_map, Nat.reduceBEq, Nat.reduceEqDiff, e1, hx, hx2, e2, e3, e4, e6, hq', h3, c1, c2]
          simp only [fitsF, hq', f1, Bool.true_or, Bool.true_and, List.isEmpty_cons, Bool.not_false, List.tail_cons, Bool.false_eq_true, if_false]
        | false =>
          rw [f1] at e3
          cases f2 : sE s a with
          | true =>
            rw [f2] at e6
            simp only [G_fits, m_fits, SIM, List.map_cons, List.map_nil, List.length_cons, List.length_nil, List.append_eq, List.nil_append, List.cons_append, List.replicate, Nat.reduceSub, Nat.reduceAdd, Nat.reduceLeDiff, Nat.reduceLT, List.getElem?_cons_zero, List.getElem?_cons_succ, List.set_cons_zero, List.set_cons_succ, Bool.not_true, Bool.not_false, decide_true, decide_false, Int.reduceSub, Int.reduceAdd, Int.reduceNeg, Bool.false_bne, Bool.bne_false, Bool.true_bne, Nat.le_refl, Nat.zero_le, Nat.reduceEqDiff, List.isEmpty_cons, List.isEmpty_nil, reduceCtorEq, List.zip_cons_cons, List.zip_nil_left, List.length_map, Nat.reduceBEq, Nat.reduceEqDiff, e1, hx, hx2, e2, e3, e4, e6, hq', h3, c1, c2]
            simp only [fitsF, hq', f1, f2, Bool.false_or, Bool.true_and, List.isEmpty_cons, Bool.not_false, List.tail_cons, List.headD_cons, Bool.false_eq_true, if_false]
          | false =>
            rw [f2] at e6
            simp only [G_fits, m_fits, SIM, List.map_cons, List.map_nil, List.length_cons, List.length_nil, List.append_eq, List.nil_append, List.cons_append, List.replicate, Nat.reduceSub, Nat.reduceAdd, Nat.reduceLeDiff, Nat.reduceLT, List.getElem?_cons_zero, List.getElem?_cons_succ, List.set_cons_zero, List.set_cons_succ, Bool.not_true, Bool.not_false, decide_true, decide_false, Int.reduceSub, Int.reduceAdd, Int.reduceNeg, Bool.false_bne, Bool.bne_false, Bool.true_bne, Nat.le_refl, Nat.zero_le, Nat.reduceEqDiff, List.isEmpty_cons, List.isEmpty_nil, reduceCtorEq, List.zip_cons_cons, List.zip_nil_left, List.length_map, Nat.reduceBEq, Nat.reduceEqDiff, e1, hx, hx2, e2, e3, e4, e6, hq', h3, c1, c2]
            simp only [fitsF, hq', f1, f2, Bool.false_or, Bool.false_and, Bool.and_false, List.isEmpty_cons, Bool.not_false, List.tail_cons, List.headD_cons, Bool.false_eq_true, if_false]
/-! ### asked -/
theorem filt_map {α β : Type} (f : α → Bool) (g : α → β) : ∀ l : List α, l.flatMap (fun a => if f a = true then [g a] else []) = (l.filter f).map g
  | [] => rfl
  | a :: l => by
    rw [List.flatMap_cons, filt_map f g l]
    cases h : f a with
    | true => rw [List.filter_cons_of_pos h]; rfl
    | false => rw [List.filter_cons_of_neg (by rw [h]; exact Bool.false_ne_true)]; rfl
theorem asked_ok {n m : Nat} {W : D} {ask : List D} (hn : 9 ≤ n) (hw : okW m W = true) (hm : m ≤ 6) (hc : cntW W ≤ 1000) (ha : ∀ s ∈ ask, flatStep s = true) (hl : ask.length ≤ 6) :
    G_asked n [.fz W, .fz (.tup ask)] = .ok (.ow (.lst (((rowsF m W).filter fun r => fitsF ask r.1).map fun r => .tup r.1))) [.fz W, .fz (.tup ask)] := by
  obtain ⟨k, rfl, hk⟩ := up1 (m := 8) hn
  have hp := all_paths_ok m k W (by omega) hw hc
  have q1 : Q_asked_1 (G_fits k) (G_all_paths k) [.fz W, .fz (.tup ask), .no] = .ok (.ow (.lst (((rowsF m W).filter fun r => fitsF ask r.1).map fun r => .tup r.1))) [.fz W, .fz (.tup ask), .no] := by
    have key := lc_gen (vs := [2]) (tgt := gtN 2) (mt := dTru (dCall [] 2 (G_fits k) (dCons (dVar 2) (dCons (dVar 1) dNil)))) (me := dVar 2) (mi := dIt (dCall [] 1 (G_all_paths k) (dCons (dVar 0) dNil))) (fun d => match d with | .tup p => if fitsF ask p = true then [.tup p] else [] | d => [d]) (e := [.fz W, .fz (.tup ask), .no]) (ei := [.fz W, .fz (.tup ask), .no]) (ds := (rowsF m W).map fun r => .tup r.1)
      (by simp only [SIM, List.map_cons, List.map_nil, List.length_cons, List.length_nil, List.append_eq, List.nil_append, List.cons_append, List.replicate, Nat.reduceSub, Nat.reduceAdd, Nat.reduceLeDiff, Nat.reduceLT, List.getElem?_cons_zero, List.getElem?_cons_succ, List.set_cons_zero, List.set_cons_succ, Bool.not_true, Bool.not_false, decide_true, decide_false, Int.reduceSub, Int.reduceAdd, Int.reduceNeg, Bool.false_bne, Bool.bne_false, Bool.true_bne, Nat.le_refl, Nat.zero_le, Nat.reduceEqDiff, List.isEmpty_cons, List.isEmpty_nil, reduceCtorEq, List.zip_cons_cons, List.zip_nil_left, List.length_map, Nat.reduceBEq, Nat.reduceEqDiff, hp]) (by rw [List.length_map, rows_len hw]; omega) fun c hc' => by
        obtain ⟨⟨p, x⟩, hr, rfl⟩ := List.mem_map.mp hc'
        have hld := rows_led hw hr
        have hpl := led_len hld
        have hf := fits_ok ask p k (by omega) ha (led_flat hld) (by omega)
        refine ⟨[.fz W, .fz (.tup ask), .fz (.tup p)], fitsF ask p, [.fz W, .fz (.tup ask), .fz (.tup p)], rfl, by simp only [SIM, List.map_cons, List.map_nil, List.length_cons, List.length_nil, List.append_eq, List.nil_append, List.cons_append, List.replicate, Nat.reduceSub, Nat.reduceAdd, Nat.reduceLeDiff, Nat.reduceLT, List.getElem?_cons_zero, List.getElem?_cons_succ, List.set_cons_zero, List.set_cons_succ, Bool.not_true, Bool.not_false, decide_true, decide_false, Int.reduceSub, Int.reduceAdd, Int.reduceNeg, Bool.false_bne, Bool.bne_false, Bool.true_bne, Nat.le_refl, Nat.zero_le, Nat.reduceEqDiff, List.isEmpty_cons, List.isEmpty_nil, reduceCtorEq, List.zip_cons_cons, List.zip_nil_left, List.length_map, Nat.reduceBEq, Nat.reduceEqDiff, hf], fun z => ⟨.tup p, [.fz W, .fz (.tup ask), .fz (.tup p)], by simp only [SIM, List.map_cons, List.map_nil, List.length_cons, List.length_nil, List.append_eq, List.nil_append, List.cons_append, List.replicate, Nat.reduceSub, Nat.reduceAdd, Nat.reduceLeDiff, Nat.reduceLT, List.getElem?_cons_zero, List.getElem?_cons_succ, List.set_cons_zero, List.set_cons_succ, Bool.not_true, Bool.not_false, decide_true, decide_false, Int.reduceSub, Int.reduceAdd, Int.reduceNeg, Bool.false_bne, Bool.bne_false, Bool.true_bne, Nat.le_refl, Nat.zero_le, Nat.reduceEqDiff, List.isEmpty_cons, List.isEmpty_nil, reduceCtorEq, List.zip_cons_cons, List.zip_nil_left, List.length_map, Nat.reduceBEq, Nat.reduceEqDiff], rfl, by simp only [z, if_true]⟩, fun z => ⟨rfl, by simp only [z, Bool.false_eq_true, if_false]⟩⟩
    rw [List.flatMap_map] at key
    have e : (rowsF m W).flatMap (fun a => (fun d => match d with | D.tup p => if fitsF ask p = true then [D.tup p] else [] | d => [d]) (D.tup a.1)) = ((rowsF m W).filter fun r => fitsF ask r.1).map fun r => .tup r.1 := filt_map (fun (r : List D × D) => fitsF ask r.1) (fun (r : List D × D) => D.tup r.1) _
    rw [e] at key
    exact key
  simp only [G_asked, m_asked, SIM, List.map_cons, List.map_nil, List.length_cons, List.length_nil, List.append_eq, List.nil_append, List.cons_append, List.replicate, Nat.reduceSub, Nat.reduceAdd, Nat.reduceLeDiff, Nat.reduceLT, List.getElem?_cons_zero, List.getElem?_cons_succ, List.set_cons_zero, List.set_cons_succ, Bool.not_true, Bool.not_false, decide_true, decide_false, Int.reduceSub, Int.reduceAdd, Int.reduceNeg, Bool.false_bne, Bool.bne_false, Bool.true_bne, Nat.le_refl, Nat.zero_le, Nat.reduceEqDiff, List.isEmpty_cons, List.isEmpty_nil, reduceCtorEq, List.zip_cons_cons, List.zip_nil_left, List.length_map, Nat.reduceBEq, Nat.reduceEqDiff, q1]
/-! ### what is an ask -/
def stepOk : D → Bool
  | .str s => decide (s = "*") || decide (s = "**") || okS s
  | .int i => decide (0 ≤ i) && decide (i ≤ 60)
  | _ => false
/-- a step that may be looked at -/
def stepR (d : D) : Bool := dataTy d && match d with
  | .str s => decide (s.length ≤ 16777216)
  | _ => true
theorem is_step_ok {n : Nat} (hn : 2 ≤ n) {d : D} (hd : stepR d = true) : G_is_step n [.fz d] = .ok (.fz (.bl (stepOk d))) [.fz d] := by
  obtain ⟨k, rfl, hk⟩ := up1 (m := 1) hn
  have hno : ∀ d : D, dataTy d = true → (∀ b, d ≠ .bl b) → isInt d = false → G_is_whole k [.fz d, .fz (.int 0), .fz (.int 60)] = .ok (.fz (.bl false)) [.fz d, .fz (.int 0), .fz (.int 60)] := fun d h1 h2 h3 => is_whole_no hk h1 h2 h3 0 60
  cases d with
  | str s =>
    have hl : s.length ≤ 16777216 := by
      have : (dataTy (.str s) && decide (s.length ≤ 16777216)) = true := hd
      exact of_decide_eq_true (Bool.and_eq_true_iff.mp this).2
    have h1 := is_word_str hk s hl
    have e : inD false (.str s) (.tup [.str "*", .str "**"]) = some (.fz (.bl (decide (s = "*") || decide (s = "**")))) := by
      have h2 : ("*" == s) = decide (s = "*") := by
        by_cases h : s = "*"
        · subst h; rfl
        · rw [decide_eq_false h]; exact beq_eq_false_iff_ne.mpr fun z => h z.symm
      have h3 : ("**" == s) = decide (s = "**") := by
        by_cases h : s = "**"
        · subst h; rfl
        · rw [decide_eq_false h]; exact beq_eq_false_iff_ne.mpr fun z => h z.symm
      simp only [inD, flatD, List.all_cons, List.all_nil, Bool.and_true, Bool.and_self, if_true, List.any_cons, List.any_nil, eqO, h2, h3, Bool.or_false]
      simp
    cases q : (decide (s = "*") || decide (s = "**")) with
    | true => rw [q] at e; simp only [G_is_step, m_is_step, SIM, List.map_cons, List.map_nil, List.length_cons, List.length_nil, List.append_eq, List.nil_append, List.cons_append, List.replicate, Nat.reduceSub, Nat.reduceAdd, Nat.reduceLeDiff, Nat.reduceLT, List.getElem?_cons_zero, List.getElem?_cons_succ, List.set_cons_zero, List.set_cons_succ, Bool.not_true, Bool.not_false, decide_true, decide_false, Int.reduceSub, Int.reduceAdd, Int.reduceNeg, Bool.false_bne, Bool.bne_false, Bool.true_bne, Nat.le_refl, Nat.zero_le, Nat.reduceEqDiff, List.isEmpty_cons, List.isEmpty_nil, reduceCtorEq, List.zip_cons_cons, List.zip_nil_left, List.length_map, Nat.reduceBEq, Nat.reduceEqDiff, e, stepOk, q, Bool.true_or]
    | false => rw [q] at e; simp only [G_is_step, m_is_step, SIM, List.map_cons, List.map_nil, List.length_cons, List.length_nil, List.append_eq, List.nil_append, List.cons_append, List.replicate, Nat.reduceSub, Nat.reduceAdd, Nat.reduceLeDiff, Nat.reduceLT, List.getElem?_cons_zero, List.getElem?_cons_succ, List.set_cons_zero, List.set_cons_succ, Bool.not_true, Bool.not_false, decide_true, decide_false, Int.reduceSub, Int.reduceAdd, Int.reduceNeg, Bool.false_bne, Bool.bne_false, Bool.true_bne, Nat.le_refl, Nat.zero_le, Nat.reduceEqDiff, List.isEmpty_cons, List.isEmpty_nil, reduceCtorEq, List.zip_cons_cons, List.zip_nil_left, List.length_map, Nat.reduceBEq, Nat.reduceEqDiff, e, h1, stepOk, q, Bool.false_or]
  | int i =>
    have h1 := is_whole_int hk i 0 60
    simp only [G_is_step, m_is_step, SIM, List.map_cons, List.map_nil, List.length_cons, List.length_nil, List.append_eq, List.nil_append, List.cons_append, List.replicate, Nat.reduceSub, Nat.reduceAdd, Nat.reduceLeDiff, Nat.reduceLT, List.getElem?_cons_zero, List.getElem?_cons_succ, List.set_cons_zero, List.set_cons_succ, Bool.not_true, Bool.not_false, decide_true, decide_false, Int.reduceSub, Int.reduceAdd, Int.reduceNeg, Bool.false_bne, Bool.bne_false, Bool.true_bne, Nat.le_refl, Nat.zero_le, Nat.reduceEqDiff, List.isEmpty_cons, List.isEmpty_nil, reduceCtorEq, List.zip_cons_cons, List.zip_nil_left, List.length_map, Nat.reduceBEq, Nat.reduceEqDiff, h1, stepOk]
  | bl b =>
    obtain ⟨j, rfl, _⟩ := up1 (m := 0) hk
    simp only [G_is_step, m_is_step, G_is_whole, m_is_whole, SIM, List.map_cons, List.map_nil, List.length_cons, List.length_nil, List.append_eq, List.nil_append, List.cons_append, List.replicate, Nat.reduceSub, Nat.reduceAdd, Nat.reduceLeDiff, Nat.reduceLT, List.getElem?_cons_zero, List.getElem?_cons_succ, List.set_cons_zero, List.set_cons_succ, Bool.not_true, Bool.not_false, decide_true, decide_false, Int.reduceSub, Int.reduceAdd, Int.reduceNeg, Bool.false_bne, Bool.bne_false, Bool.true_bne, Nat.le_refl, Nat.zero_le, Nat.reduceEqDiff, List.isEmpty_cons, List.isEmpty_nil, reduceCtorEq, List.zip_cons_cons, List.zip_nil_left, List.length_map, Nat.reduceBEq, Nat.reduceEqDiff, stepOk]
  | non =>
    have h1 := hno .non rfl (fun b z => nomatch z) rfl
    simp only [G_is_step, m_is_step, SIM, List.map_cons, List.map_nil, List.length_cons, List.length_nil, List.append_eq, List.nil_append, List.cons_append, List.replicate, Nat.reduceSub, Nat.reduceAdd, Nat.reduceLeDiff, Nat.reduceLT, List.getElem?_cons_zero, List.getElem?_cons_succ, List.set_cons_zero, List.set_cons_succ, Bool.not_true, Bool.not_false, decide_true, decide_false, Int.reduceSub, Int.reduceAdd, Int.reduceNeg, Bool.false_bne, Bool.bne_false, Bool.true_bne, Nat.le_refl, Nat.zero_le, Nat.reduceEqDiff, List.isEmpty_cons, List.isEmpty_nil, reduceCtorEq, List.zip_cons_cons, List.zip_nil_left, List.length_map, Nat.reduceBEq, Nat.reduceEqDiff, h1, stepOk]
  | lst ds =>
    have h1 := hno (.lst ds) rfl (fun b z => nomatch z) rfl
    simp only [G_is_step, m_is_step, SIM, List.map_cons, List.map_nil, List.length_cons, List.length_nil, List.append_eq, List.nil_append, List.cons_append, List.replicate, Nat.reduceSub, Nat.reduceAdd, Nat.reduceLeDiff, Nat.reduceLT, List.getElem?_cons_zero, List.getElem?_cons_succ, List.set_cons_zero, List.set_cons_succ, Bool.not_true, Bool.not_false, decide_true, decide_false, Int.reduceSub, Int.reduceAdd, Int.reduceNeg, Bool.false_bne, Bool.bne_false, Bool.true_bne, Nat.le_refl, Nat.zero_le, Nat.reduceEqDiff, List.isEmpty_cons, List.isEmpty_nil, reduceCtorEq, List.zip_cons_cons, List.zip_nil_left, List.length_map, Nat.reduceBEq, Nat.reduceEqDiff, h1, stepOk]
  | tup ds =>
    have h1 := hno (.tup ds) rfl (fun b z => nomatch z) rfl
    simp only [G_is_step, m_is_step, SIM, List.map_cons, List.map_nil, List.length_cons, List.length_nil, List.append_eq, List.nil_append, List.cons_append, List.replicate, Nat.reduceSub, Nat.reduceAdd, Nat.reduceLeDiff, Nat.reduceLT, List.getElem?_cons_zero, List.getElem?_cons_succ, List.set_cons_zero, List.set_cons_succ, Bool.not_true, Bool.not_false, decide_true, decide_false, Int.reduceSub, Int.reduceAdd, Int.reduceNeg, Bool.false_bne, Bool.bne_false, Bool.true_bne, Nat.le_refl, Nat.zero_le, Nat.reduceEqDiff, List.isEmpty_cons, List.isEmpty_nil, reduceCtorEq, List.zip_cons_cons, List.zip_nil_left, List.length_map, Nat.reduceBEq, Nat.reduceEqDiff, h1, stepOk]
  | dic ds =>
    have h1 := hno (.dic ds) rfl (fun b z => nomatch z) rfl
    simp only [G_is_step, m_is_step, SIM, List.map_cons, List.map_nil, List.length_cons, List.length_nil, List.append_eq, List.nil_append, List.cons_append, List.replicate, Nat.reduceSub, Nat.reduceAdd, Nat.reduceLeDiff, Nat.reduceLT, List.getElem?_cons_zero, List.getElem?_cons_succ, List.set_cons_zero, List.set_cons_succ, Bool.not_true, Bool.not_false, decide_true, decide_false, Int.reduceSub, Int.reduceAdd, Int.reduceNeg, Bool.false_bne, Bool.bne_false, Bool.true_bne, Nat.le_refl, Nat.zero_le, Nat.reduceEqDiff, List.isEmpty_cons, List.isEmpty_nil, reduceCtorEq, List.zip_cons_cons, List.zip_nil_left, List.length_map, Nat.reduceBEq, Nat.reduceEqDiff, h1, stepOk]
  | scr ds =>
    have h1 := hno (.scr ds) rfl (fun b z => nomatch z) rfl
    simp only [G_is_step, m_is_step, SIM, List.map_cons, List.map_nil, List.length_cons, List.length_nil, List.append_eq, List.nil_append, List.cons_append, List.replicate, Nat.reduceSub, Nat.reduceAdd, Nat.reduceLeDiff, Nat.reduceLT, List.getElem?_cons_zero, List.getElem?_cons_succ, List.set_cons_zero, List.set_cons_succ, Bool.not_true, Bool.not_false, decide_true, decide_false, Int.reduceSub, Int.reduceAdd, Int.reduceNeg, Bool.false_bne, Bool.bne_false, Bool.true_bne, Nat.le_refl, Nat.zero_le, Nat.reduceEqDiff, List.isEmpty_cons, List.isEmpty_nil, reduceCtorEq, List.zip_cons_cons, List.zip_nil_left, List.length_map, Nat.reduceBEq, Nat.reduceEqDiff, h1, stepOk]
  | _ => cases hd
def askOk : D → Bool
  | .tup ss => decide (ss.length ≤ 6) && ss.all stepOk
  | _ => false
/-- an ask that may be looked at -/
def askR : D → Bool
  | .tup ss => decide (ss.length ≤ 1000) && ss.all stepR
  | d => dataTy d
theorem look_ask_ok {n : Nat} (hn : 3 ≤ n) {d : D} (hd : askR d = true) : G_look_ask n [.fz d] = if askOk d = true then .ok (.fz .non) [.fz d] else .exc .ask [.fz d] := by
  obtain ⟨k, rfl, hk⟩ := up1 (m := 2) hn
  cases d with
  | tup ss =>
    obtain ⟨hl, hr⟩ : ss.length ≤ 1000 ∧ ∀ s ∈ ss, stepR s = true := by
      have : (decide (ss.length ≤ 1000) && ss.all stepR) = true := hd
      simpa using this
    have q1 : Q_look_ask_1 (G_is_step k) [.fz (.tup ss), .no] = .ok (.ow (.lst (ss.map fun s => .bl (stepOk s)))) [.fz (.tup ss), .no] := by
      refine lc_map (fun s => .bl (stepOk s)) (ei := [.fz (.tup ss), .no]) (by simp only [SIM, List.map_cons, List.map_nil, List.length_cons, List.length_nil, List.append_eq, List.nil_append, List.cons_append, List.replicate, Nat.reduceSub, Nat.reduceAdd, Nat.reduceLeDiff, Nat.reduceLT, List.getElem?_cons_zero, List.getElem?_cons_succ, List.set_cons_zero, List.set_cons_succ, Bool.not_true, Bool.not_false, decide_true, decide_false, Int.reduceSub, Int.reduceAdd, Int.reduceNeg, Bool.false_bne, Bool.bne_false, Bool.true_bne, Nat.le_refl, Nat.zero_le, Nat.reduceEqDiff, List.isEmpty_cons, List.isEmpty_nil, reduceCtorEq, List.zip_cons_cons, List.zip_nil_left, List.length_map, Nat.reduceBEq, Nat.reduceEqDiff]) (by omega) fun c hc => ?_
      have h1 := is_step_ok hk (hr c hc)
      exact ⟨[.fz (.tup ss), .fz c], [.fz (.tup ss), .fz c], rfl, by simp only [SIM, List.map_cons, List.map_nil, List.length_cons, List.length_nil, List.append_eq, List.nil_append, List.cons_append, List.replicate, Nat.reduceSub, Nat.reduceAdd, Nat.reduceLeDiff, Nat.reduceLT, List.getElem?_cons_zero, List.getElem?_cons_succ, List.set_cons_zero, List.set_cons_succ, Bool.not_true, Bool.not_false, decide_true, decide_false, Int.reduceSub, Int.reduceAdd, Int.reduceNeg, Bool.false_bne, Bool.bne_false, Bool.true_bne, Nat.le_refl, Nat.zero_le, Nat.reduceEqDiff, List.isEmpty_cons, List.isEmpty_nil, reduceCtorEq, List.zip_cons_cons, List.zip_nil_left, List.length_map, Nat.reduceBEq, Nat.reduceEqDiff, h1], rfl⟩
    have e := all_bls stepOk ss
    by_cases h6 : ss.length ≤ 6
    · have h6' : ¬ (6 : Int) < ss.length := by omega
      cases q : ss.all stepOk with
      | true => rw [q] at e; simp only [G_look_ask, m_look_ask, SIM, List.map_cons, List.map_nil, List.length_cons, List.length_nil, List.append_eq, List.nil_append, List.cons_append, List.replicate, Nat.reduceSub, Nat.reduceAdd, Nat.reduceLeDiff, Nat.reduceLT, List.getElem?_cons_zero, List.getElem?_cons_succ, List.set_cons_zero, List.set_cons_succ, Bool.not_true, Bool.not_false, decide_true, decide_false, Int.reduceSub, Int.reduceAdd, Int.reduceNeg, Bool.false_bne, Bool.bne_false, Bool.true_bne, Nat.le_refl, Nat.zero_le, Nat.reduceEqDiff, List.isEmpty_cons, List.isEmpty_nil, reduceCtorEq, List.zip_cons_cons, List.zip_nil_left, List.length_map, Nat.reduceBEq, Nat.reduceEqDiff, h6', q1, e, askOk, h6, q, Bool.and_self, if_true]
      | false => rw [q] at e; simp only [G_look_ask, m_look_ask, SIM, List.map_cons, List.map_nil, List.length_cons, List.length_nil, List.append_eq, List.nil_append, List.cons_append, List.replicate, Nat.reduceSub, Nat.reduceAdd, Nat.reduceLeDiff, Nat.reduceLT, List.getElem?_cons_zero, List.getElem?_cons_succ, List.set_cons_zero, List.set_cons_succ, Bool.not_true, Bool.not_false, decide_true, decide_false, Int.reduceSub, Int.reduceAdd, Int.reduceNeg, Bool.false_bne, Bool.bne_false, Bool.true_bne, Nat.le_refl, Nat.zero_le, Nat.reduceEqDiff, List.isEmpty_cons, List.isEmpty_nil, reduceCtorEq, List.zip_cons_cons, List.zip_nil_left, List.length_map, Nat.reduceBEq, Nat.reduceEqDiff, h6', q1, e, askOk, h6, q, Bool.and_false, Bool.false_eq_true, if_false]
    · have h6' : (6 : Int) < ss.length := by omega
      simp only [G_look_ask, m_look_ask, SIM, List.map_cons, List.map_nil, List.length_cons, List.length_nil, List.append_eq, List.nil_append, List.cons_append, List.replicate, Nat.reduceSub, Nat.reduceAdd, Nat.reduceLeDiff, Nat.reduceLT, List.getElem?_cons_zero, List.getElem?_cons_succ, List.set_cons_zero, List.set_cons_succ, Bool.not_true, Bool.not_false, decide_true, decide_false, Int.reduceSub, Int.reduceAdd, Int.reduceNeg, Bool.false_bne, Bool.bne_false, Bool.true_bne, Nat.le_refl, Nat.zero_le, Nat.reduceEqDiff, List.isEmpty_cons, List.isEmpty_nil, reduceCtorEq, List.zip_cons_cons, List.zip_nil_left, List.length_map, Nat.reduceBEq, Nat.reduceEqDiff, h6', askOk, h6, Bool.false_and, Bool.false_eq_true, if_false]
  | str s => simp only [G_look_ask, m_look_ask, SIM, List.map_cons, List.map_nil, List.length_cons, List.length_nil, List.append_eq, List.nil_append, List.cons_append, List.replicate, Nat.reduceSub, Nat.reduceAdd, Nat.reduceLeDiff, Nat.reduceLT, List.getElem?_cons_zero, List.getElem?_cons_succ, List.set_cons_zero, List.set_cons_succ, Bool.not_true, Bool.not_false, decide_true, decide_false, Int.reduceSub, Int.reduceAdd, Int.reduceNeg, Bool.false_bne, Bool.bne_false, Bool.true_bne, Nat.le_refl, Nat.zero_le, Nat.reduceEqDiff, List.isEmpty_cons, List.isEmpty_nil, reduceCtorEq, List.zip_cons_cons, List.zip_nil_left, List.length_map, Nat.reduceBEq, Nat.reduceEqDiff, askOk, Bool.false_eq_true, if_false]
  | int s => simp only [G_look_ask, m_look_ask, SIM, List.map_cons, List.map_nil, List.length_cons, List.length_nil, List.append_eq, List.nil_append, List.cons_append, List.replicate, Nat.reduceSub, Nat.reduceAdd, Nat.reduceLeDiff, Nat.reduceLT, List.getElem?_cons_zero, List.getElem?_cons_succ, List.set_cons_zero, List.set_cons_succ, Bool.not_true, Bool.not_false, decide_true, decide_false, Int.reduceSub, Int.reduceAdd, Int.reduceNeg, Bool.false_bne, Bool.bne_false, Bool.true_bne, Nat.le_refl, Nat.zero_le, Nat.reduceEqDiff, List.isEmpty_cons, List.isEmpty_nil, reduceCtorEq, List.zip_cons_cons, List.zip_nil_left, List.length_map, Nat.reduceBEq, Nat.reduceEqDiff, askOk, Bool.false_eq_true, if_false]
  | bl s => simp only [G_look_ask, m_look_ask, SIM, List.map_cons, List.map_nil, List.length_cons, List.length_nil, List.append_eq, List.nil_append, List.cons_append, List.replicate, Nat.reduceSub, Nat.reduceAdd, Nat.reduceLeDiff, Nat.reduceLT, List.getElem?_cons_zero, List.getElem?_cons_succ, List.set_cons_zero, List.set_cons_succ, Bool.not_true, Bool.not_false, decide_true, decide_false, Int.reduceSub, Int.reduceAdd, Int.reduceNeg, Bool.false_bne, Bool.bne_false, Bool.true_bne, Nat.le_refl, Nat.zero_le, Nat.reduceEqDiff, List.isEmpty_cons, List.isEmpty_nil, reduceCtorEq, List.zip_cons_cons, List.zip_nil_left, List.length_map, Nat.reduceBEq, Nat.reduceEqDiff, askOk, Bool.false_eq_true, if_false]
  | non => simp only [G_look_ask, m_look_ask, SIM, List.map_cons, List.map_nil, List.length_cons, List.length_nil, List.append_eq, List.nil_append, List.cons_append, List.replicate, Nat.reduceSub, Nat.reduceAdd, Nat.reduceLeDiff, Nat.reduceLT, List.getElem?_cons_zero, List.getElem?_cons_succ, List.set_cons_zero, List.set_cons_succ, Bool.not_true, Bool.not_false, decide_true, decide_false, Int.reduceSub, Int.reduceAdd, Int.reduceNeg, Bool.false_bne, Bool.bne_false, Bool.true_bne, Nat.le_refl, Nat.zero_le, Nat.reduceEqDiff, List.isEmpty_cons, List.isEmpty_nil, reduceCtorEq, List.zip_cons_cons, List.zip_nil_left, List.length_map, Nat.reduceBEq, Nat.reduceEqDiff, askOk, Bool.false_eq_true, if_false]
  | lst s => simp only [G_look_ask, m_look_ask, SIM, List.map_cons, List.map_nil, List.length_cons, List.length_nil, List.append_eq, List.nil_append, List.cons_append, List.replicate, Nat.reduceSub, Nat.reduceAdd, Nat.reduceLeDiff, Nat.reduceLT, List.getElem?_cons_zero, List.getElem?_cons_succ, List.set_cons_zero, List.set_cons_succ, Bool.not_true, Bool.not_false, decide_true, decide_false, Int.reduceSub, Int.reduceAdd, Int.reduceNeg, Bool.false_bne, Bool.bne_false, Bool.true_bne, Nat.le_refl, Nat.zero_le, Nat.reduceEqDiff, List.isEmpty_cons, List.isEmpty_nil, reduceCtorEq, List.zip_cons_cons, List.zip_nil_left, List.length_map, Nat.reduceBEq, Nat.reduceEqDiff, askOk, Bool.false_eq_true, if_false]
  | dic s => simp only [G_look_ask, m_look_ask, SIM, List.map_cons, List.map_nil, List.length_cons, List.length_nil, List.append_eq, List.nil_append, List.cons_append, List.replicate, Nat.reduceSub, Nat.reduceAdd, Nat.reduceLeDiff, Nat.reduceLT, List.getElem?_cons_zero, List.getElem?_cons_succ, List.set_cons_zero, List.set_cons_succ, Bool.not_true, Bool.not_false, decide_true, decide_false, Int.reduceSub, Int.reduceAdd, Int.reduceNeg, Bool.false_bne, Bool.bne_false, Bool.true_bne, Nat.le_refl, Nat.zero_le, Nat.reduceEqDiff, List.isEmpty_cons, List.isEmpty_nil, reduceCtorEq, List.zip_cons_cons, List.zip_nil_left, List.length_map, Nat.reduceBEq, Nat.reduceEqDiff, askOk, Bool.false_eq_true, if_false]
  | scr s => simp only [G_look_ask, m_look_ask, SIM, List.map_cons, List.map_nil, List.length_cons, List.length_nil, List.append_eq, List.nil_append, List.cons_append, List.replicate, Nat.reduceSub, Nat.reduceAdd, Nat.reduceLeDiff, Nat.reduceLT, List.getElem?_cons_zero, List.getElem?_cons_succ, List.set_cons_zero, List.set_cons_succ, Bool.not_true, Bool.not_false, decide_true, decide_false, Int.reduceSub, Int.reduceAdd, Int.reduceNeg, Bool.false_bne, Bool.bne_false, Bool.true_bne, Nat.le_refl, Nat.zero_le, Nat.reduceEqDiff, List.isEmpty_cons, List.isEmpty_nil, reduceCtorEq, List.zip_cons_cons, List.zip_nil_left, List.length_map, Nat.reduceBEq, Nat.reduceEqDiff, askOk, Bool.false_eq_true, if_false]
  | _ => cases hd
theorem step_flat {d : D} (h : stepOk d = true) : flatStep d = true := by
  cases d <;> first | rfl | cases h
theorem sought_ok {n m : Nat} {W : D} {ask : List D} (hn : 11 ≤ n) (hw : okW m W = true) (hm : m ≤ 6) (hc : cntW W ≤ 60) (ha : askR (.tup ask) = true) (hk : askOk (.tup ask) = true) :
    G_sought n [.fz W, .fz (.tup ask)] = .ok (.ow (.lst (((rowsF m W).filter fun r => fitsF ask r.1).map fun r => .tup r.1))) [.fz W, .fz (.tup ask)] := by
  obtain ⟨k, rfl, hk'⟩ := up1 (m := 10) hn
  obtain ⟨hl, hs⟩ : ask.length ≤ 6 ∧ ∀ s ∈ ask, stepOk s = true := by
    have : (decide (ask.length ≤ 6) && ask.all stepOk) = true := hk
    simpa using this
  have h1 := look_ok (n := k) (by omega) hw hm hc
  have h2 := look_ask_ok (n := k) (by omega) ha
  rw [if_pos hk] at h2
  have h3 := asked_ok (n := k) (by omega) hw hm (by omega) (fun s h => step_flat (hs s h)) hl
  simp only [G_sought, m_sought, SIM, List.map_cons, List.map_nil, List.length_cons, List.length_nil, List.append_eq, List.nil_append, List.cons_append, List.replicate, Nat.reduceSub, Nat.reduceAdd, Nat.reduceLeDiff, Nat.reduceLT, List.getElem?_cons_zero, List.getElem?_cons_succ, List.set_cons_zero, List.set_cons_succ, Bool.not_true, Bool.not_false, decide_true, decide_false, Int.reduceSub, Int.reduceAdd, Int.reduceNeg, Bool.false_bne, Bool.bne_false, Bool.true_bne, Nat.le_refl, Nat.zero_le, Nat.reduceEqDiff, List.isEmpty_cons, List.isEmpty_nil, reduceCtorEq, List.zip_cons_cons, List.zip_nil_left, List.length_map, Nat.reduceBEq, Nat.reduceEqDiff, h1, h2, h3]
theorem sought_bad {n : Nat} {W a : D} (hn : 11 ≤ n) (hr : rdD 6 W = true) (hb : isW W = false) : G_sought n [.fz W, .fz a] = .exc .worth [.fz W, .fz a] := by
  obtain ⟨k, rfl, hk'⟩ := up1 (m := 10) hn
  have h1 := look_all (n := k) (by omega) hr
  rw [hb, if_neg Bool.false_ne_true] at h1
  simp only [G_sought, m_sought, SIM, List.map_cons, List.map_nil, List.length_cons, List.length_nil, List.append_eq, List.nil_append, List.cons_append, List.replicate, Nat.reduceSub, Nat.reduceAdd, Nat.reduceLeDiff, Nat.reduceLT, List.getElem?_cons_zero, List.getElem?_cons_succ, List.set_cons_zero, List.set_cons_succ, Bool.not_true, Bool.not_false, decide_true, decide_false, Int.reduceSub, Int.reduceAdd, Int.reduceNeg, Bool.false_bne, Bool.bne_false, Bool.true_bne, Nat.le_refl, Nat.zero_le, Nat.reduceEqDiff, List.isEmpty_cons, List.isEmpty_nil, reduceCtorEq, List.zip_cons_cons, List.zip_nil_left, List.length_map, Nat.reduceBEq, Nat.reduceEqDiff, h1]
theorem sought_ask {n m : Nat} {W a : D} (hn : 11 ≤ n) (hw : okW m W = true) (hm : m ≤ 6) (hc : cntW W ≤ 60) (ha : askR a = true) (hk : askOk a = false) : G_sought n [.fz W, .fz a] = .exc .ask [.fz W, .fz a] := by
  obtain ⟨k, rfl, hk'⟩ := up1 (m := 10) hn
  have h1 := look_ok (n := k) (by omega) hw hm hc
  have h2 := look_ask_ok (n := k) (by omega) ha
  rw [hk, if_neg Bool.false_ne_true] at h2
  simp only [G_sought, m_sought, SIM, List.map_cons, List.map_nil, List.length_cons, List.length_nil, List.append_eq, List.nil_append, List.cons_append, List.replicate, Nat.reduceSub, Nat.reduceAdd, Nat.reduceLeDiff, Nat.reduceLT, List.getElem?_cons_zero, List.getElem?_cons_succ, List.set_cons_zero, List.set_cons_succ, Bool.not_true, Bool.not_false, decide_true, decide_false, Int.reduceSub, Int.reduceAdd, Int.reduceNeg, Bool.false_bne, Bool.bne_false, Bool.true_bne, Nat.le_refl, Nat.zero_le, Nat.reduceEqDiff, List.isEmpty_cons, List.isEmpty_nil, reduceCtorEq, List.zip_cons_cons, List.zip_nil_left, List.length_map, Nat.reduceBEq, Nat.reduceEqDiff, h1, h2]
theorem replaced_bad {n : Nat} {W a b : D} (hn : 11 ≤ n) (hr : rdD 6 W = true) (hb : isW W = false) : G_replaced n [.fz W, .fz a, .fz b] = .exc .worth [.fz W, .fz a, .fz b] := by
  obtain ⟨k, rfl, hk'⟩ := up1 (m := 10) hn
  have h1 := look_all (n := k) (by omega) hr
  rw [hb, if_neg Bool.false_ne_true] at h1
  simp only [G_replaced, m_replaced, SIM, List.map_cons, List.map_nil, List.length_cons, List.length_nil, List.append_eq, List.nil_append, List.cons_append, List.replicate, Nat.reduceSub, Nat.reduceAdd, Nat.reduceLeDiff, Nat.reduceLT, List.getElem?_cons_zero, List.getElem?_cons_succ, List.set_cons_zero, List.set_cons_succ, Bool.not_true, Bool.not_false, decide_true, decide_false, Int.reduceSub, Int.reduceAdd, Int.reduceNeg, Bool.false_bne, Bool.bne_false, Bool.true_bne, Nat.le_refl, Nat.zero_le, Nat.reduceEqDiff, List.isEmpty_cons, List.isEmpty_nil, reduceCtorEq, List.zip_cons_cons, List.zip_nil_left, List.length_map, Nat.reduceBEq, Nat.reduceEqDiff, h1]
theorem replaced_ask {n m : Nat} {W a b : D} (hn : 11 ≤ n) (hw : okW m W = true) (hm : m ≤ 6) (hc : cntW W ≤ 60) (ha : askR a = true) (hk : askOk a = false) : G_replaced n [.fz W, .fz a, .fz b] = .exc .ask [.fz W, .fz a, .fz b] := by
  obtain ⟨k, rfl, hk'⟩ := up1 (m := 10) hn
  have h1 := look_ok (n := k) (by omega) hw hm hc
  have h2 := look_ask_ok (n := k) (by omega) ha
  rw [hk, if_neg Bool.false_ne_true] at h2
  simp only [G_replaced, m_replaced, SIM, List.map_cons, List.map_nil, List.length_cons, List.length_nil, List.append_eq, List.nil_append, List.cons_append, List.replicate, Nat.reduceSub, Nat.reduceAdd, Nat.reduceLeDiff, Nat.reduceLT, List.getElem?_cons_zero, List.getElem?_cons_succ, List.set_cons_zero, List.set_cons_succ, Bool.not_true, Bool.not_false, decide_true, decide_false, Int.reduceSub, Int.reduceAdd, Int.reduceNeg, Bool.false_bne, Bool.bne_false, Bool.true_bne, Nat.le_refl, Nat.zero_le, Nat.reduceEqDiff, List.isEmpty_cons, List.isEmpty_nil, reduceCtorEq, List.zip_cons_cons, List.zip_nil_left, List.length_map, Nat.reduceBEq, Nat.reduceEqDiff, h1, h2]
theorem replaced_new {n m : Nat} {W a b : D} (hn : 11 ≤ n) (hw : okW m W = true) (hm : m ≤ 6) (hc : cntW W ≤ 60) (ha : askR a = true) (hk : askOk a = true) (hr : rdD 6 b = true) (hb : isW b = false) : G_replaced n [.fz W, .fz a, .fz b] = .exc .worth [.fz W, .fz a, .fz b] := by
  obtain ⟨k, rfl, hk'⟩ := up1 (m := 10) hn
  have h1 := look_ok (n := k) (by omega) hw hm hc
  have h2 := look_ask_ok (n := k) (by omega) ha
  rw [if_pos hk] at h2
  have h3 := look_all (n := k) (by omega) hr
  rw [hb, if_neg Bool.false_ne_true] at h3
  simp only [G_replaced, m_replaced, SIM, List.map_cons, List.map_nil, List.length_cons, List.length_nil, List.append_eq, List.nil_append, List.cons_append, List.replicate, Nat.reduceSub, Nat.reduceAdd, Nat.reduceLeDiff, Nat.reduceLT, List.getElem?_cons_zero, List.getElem?_cons_succ, List.set_cons_zero, List.set_cons_succ, Bool.not_true, Bool.not_false, decide_true, decide_false, Int.reduceSub, Int.reduceAdd, Int.reduceNeg, Bool.false_bne, Bool.bne_false, Bool.true_bne, Nat.le_refl, Nat.zero_le, Nat.reduceEqDiff, List.isEmpty_cons, List.isEmpty_nil, reduceCtorEq, List.zip_cons_cons, List.zip_nil_left, List.length_map, Nat.reduceBEq, Nat.reduceEqDiff, h1, h2, h3]
/-! ### refusals told -/
def exW : Ex → Str
  | .worth => "worth" | .text => "text" | .path => "path" | .choice => "choice" | .many => "many" | .deeds => "deeds" | .name => "name" | .ask => "ask"
theorem refusal_ok {n : Nat} (hn : 1 ≤ n) (c : Ex) : G__law_refusal n [.fz (.exn c)] = .ok (.fz (.tup [.str "refused", .str (exW c)])) [.fz (.exn c)] := by
  obtain ⟨k, rfl, _⟩ := up1 (m := 0) hn
  cases c <;> rfl
end LP
end S_Pr
section S_Ps
set_option maxHeartbeats 0
/-! # replaced: outermost ones -/
namespace LP
open PySem PySem.Spec PyProof.Rows L2 L3
--BEGIN
/-- each ahead of those within it, those within it right behind it -/
def PreO : List (List D) → Prop
  | [] => True
  | q :: r => (∀ p ∈ r, ¬ p <+: q) ∧ (∃ A B, r = A ++ B ∧ (∀ a ∈ A, q <+: a) ∧ ∀ b ∈ B, ¬ q <+: b) ∧ PreO r
theorem PreO.app : ∀ {a b : List (List D)}, PreO a → PreO b → (∀ x ∈ a, ∀ y ∈ b, ¬ x <+: y ∧ ¬ y <+: x) → PreO (a ++ b)
  | [], b, _, hb, _ => hb
  | q :: r, b, ⟨h1, ⟨A, B, e, hA, hB⟩, h3⟩, hb, hx => by
    refine ⟨fun p hp => ?_, ⟨A, B ++ b, by show r ++ b = _; rw [e, List.append_assoc], hA, fun y hy => ?_⟩, PreO.app h3 hb fun x hx' y hy => hx x (List.mem_cons_of_mem _ hx') y hy⟩
    · rcases List.mem_append.mp hp with z | z
      · exact h1 p z
      · exact (hx q List.mem_cons_self p z).2
    · rcases List.mem_append.mp hy with z | z
      · exact hB y z
      · exact (hx q List.mem_cons_self y z).1
theorem PreO.map (s : D) : ∀ {a : List (List D)}, PreO a → PreO (a.map (s :: ·))
  | [], _ => trivial
  | q :: r, ⟨h1, ⟨A, B, e, hA, hB⟩, h3⟩ => by
    have k : ∀ x y : List D, (s :: x <+: s :: y) ↔ x <+: y := fun x y => by simp [List.cons_prefix_cons]
    refine ⟨fun p hp => ?_, ⟨A.map (s :: ·), B.map (s :: ·), by rw [e, List.map_append], fun a ha => ?_, fun b hb => ?_⟩, PreO.map s h3⟩
    · obtain ⟨p', hp', rfl⟩ := List.mem_map.mp hp
      exact fun z => h1 p' hp' ((k _ _).mp z)
    · obtain ⟨p', hp', rfl⟩ := List.mem_map.mp ha
      exact (k _ _).mpr (hA p' hp')
    · obtain ⟨p', hp', rfl⟩ := List.mem_map.mp hb
      exact fun z => hB p' hp' ((k _ _).mp z)
theorem PreO.filter (f : List D → Bool) : ∀ {a : List (List D)}, PreO a → PreO (a.filter f)
  | [], _ => trivial
  | q :: r, ⟨h1, ⟨A, B, e, hA, hB⟩, h3⟩ => by
    by_cases hq : f q = true
    · rw [List.filter_cons_of_pos hq]
      exact ⟨fun p hp => h1 p ((List.mem_filter.mp hp).1), ⟨A.filter f, B.filter f, by rw [e, List.filter_append], fun a ha => hA a ((List.mem_filter.mp ha).1), fun b hb => hB b ((List.mem_filter.mp hb).1)⟩, PreO.filter f h3⟩
    · rw [List.filter_cons_of_neg hq]
      exact PreO.filter f h3
theorem kids_nd {n : Nat} {d : D} (h : okW n d = true) : ((kids d).map (·.1)).Nodup := by
  cases d with
  | lst ds =>
    have : ∀ (ds : List D) (i : Nat), ((enP i ds).map (·.1)).Nodup ∧ ∀ s ∈ (enP i ds).map (·.1), ∃ j : Nat, s = .int (j : Int) ∧ i ≤ j := by
      intro ds
      induction ds with
      | nil => intro i; exact ⟨List.nodup_nil, fun s hs => nomatch hs⟩
      | cons d r ih =>
        intro i
        obtain ⟨h1, h2⟩ := ih (i + 1)
        refine ⟨List.nodup_cons.mpr ⟨fun z => ?_, h1⟩, fun s hs => ?_⟩
        · obtain ⟨j, e, hj⟩ := h2 _ z
          have e' : (i : Int) = (j : Int) := by injection e
          omega
        · rcases List.mem_cons.mp hs with z | z
          · exact ⟨i, z, Nat.le_refl _⟩
          · obtain ⟨j, e, hj⟩ := h2 s z
            exact ⟨j, e, by omega⟩
    exact (this ds 0).1
  | dic ks =>
    cases n with
    | zero => cases h
    | succ n =>
      have nd := (okW_dic.mp h).2
      show ((ks.map fun p => (kD p.1, p.2)).map (·.1)).Nodup
      rw [List.map_map]
      have e : ks.map ((·.1) ∘ fun p : Key × D => (kD p.1, p.2)) = (ks.map (·.1)).map kD := by rw [List.map_map]; rfl
      rw [e]
      refine List.Pairwise.map kD (fun a b hab z => hab ?_) nd
      cases a <;> cases b <;> first | (cases z; rfl) | cases z
  | _ => exact List.nodup_nil
theorem pre_kids (f : D × D → List (List D)) (hf : ∀ q, PreO (f q)) : ∀ {l : List (D × D)}, (l.map (·.1)).Nodup → PreO (l.flatMap fun q => (f q).map (q.1 :: ·))
  | [], _ => trivial
  | q :: r, nd => by
    have nd' := List.nodup_cons.mp (show (q.1 :: r.map (·.1)).Nodup from nd)
    rw [List.flatMap_cons]
    refine PreO.app (PreO.map q.1 (hf q)) (pre_kids f hf nd'.2) fun x hx y hy => ?_
    obtain ⟨x', _, rfl⟩ := List.mem_map.mp hx
    obtain ⟨q2, hq2, hy2⟩ := List.mem_flatMap.mp hy
    obtain ⟨y', _, rfl⟩ := List.mem_map.mp hy2
    have hne : q.1 ≠ q2.1 := fun z => nd'.1 (by rw [z]; exact List.mem_map.mpr ⟨q2, hq2, rfl⟩)
    exact ⟨fun z => hne (List.cons_prefix_cons.mp z).1, fun z => hne (List.cons_prefix_cons.mp z).1.symm⟩
theorem rows_pre : ∀ {n m : Nat} {d : D}, okW m d = true → PreO ((rowsF n d).map (·.1))
  | 0, m, d, _ => ⟨fun p hp => (by cases hp), ⟨[], [], rfl, fun a ha => (by cases ha), fun a ha => (by cases ha)⟩, trivial⟩
  | n + 1, m, d, h => by
    have e : ((rowsF (n + 1) d).map (·.1)) = [] :: ((kids d).flatMap fun q => ((rowsF n q.2).map (·.1)).map (q.1 :: ·)) := by
      show [] :: (((kids d).flatMap _).map _) = _
      rw [List.map_flatMap]
      congr 1
      refine congrArg (fun g => (kids d).flatMap g) (funext fun q => ?_)
      rw [List.map_map, List.map_map]; rfl
    rw [e]
    have hk : ∀ l : List (D × D), (∀ q ∈ l, q ∈ kids d) → (l.map (·.1)).Nodup → PreO (l.flatMap fun q => ((rowsF n q.2).map (·.1)).map (q.1 :: ·)) := by
      intro l
      induction l with
      | nil => intro _ _; exact trivial
      | cons q r ih =>
        intro hl nd
        have nd' := List.nodup_cons.mp (show (q.1 :: r.map (·.1)).Nodup from nd)
        obtain ⟨m', rfl, hc⟩ := kid_ok h (kid_of h (s := q.1) (c := q.2) (hl q List.mem_cons_self))
        rw [List.flatMap_cons]
        refine PreO.app (PreO.map q.1 (rows_pre hc)) (ih (fun x hx => hl x (List.mem_cons_of_mem _ hx)) nd'.2) fun x hx y hy => ?_
        obtain ⟨x', _, rfl⟩ := List.mem_map.mp hx
        obtain ⟨q2, hq2, hy2⟩ := List.mem_flatMap.mp hy
        obtain ⟨y', _, rfl⟩ := List.mem_map.mp hy2
        have hne : q.1 ≠ q2.1 := fun z => nd'.1 (by rw [z]; exact List.mem_map.mpr ⟨q2, hq2, rfl⟩)
        exact ⟨fun z => hne (List.cons_prefix_cons.mp z).1, fun z => hne (List.cons_prefix_cons.mp z).1.symm⟩
    refine ⟨fun p hp z => ?_, ⟨_, [], by rw [List.append_nil], fun a _ => List.nil_prefix, fun b hb => nomatch hb⟩, hk _ (fun q hq => hq) (kids_nd h)⟩
    obtain ⟨q, hq, hp2⟩ := List.mem_flatMap.mp hp
    obtain ⟨p', _, rfl⟩ := List.mem_map.mp hp2
    exact absurd (List.prefix_nil.mp z) (by simp)
/-- whether q is ahead in p -/
def pfx : List D → List D → Bool
  | [], _ => true
  | a :: q, b :: p => sE a b && pfx q p
  | _ :: _, [] => false
theorem pfx_iff : ∀ {q p : List D}, (∀ s ∈ q, flatStep s = true) → (∀ s ∈ p, flatStep s = true) → (pfx q p = true ↔ q <+: p)
  | [], p, _, _ => by simp [pfx]
  | a :: q, [], _, _ => by simp [pfx]
  | a :: q, b :: p, hq, hp => by
    unfold pfx
    rw [Bool.and_eq_true, sE_iff (hq a List.mem_cons_self) (hp b List.mem_cons_self), pfx_iff (fun s hs => hq s (List.mem_cons_of_mem _ hs)) fun s hs => hp s (List.mem_cons_of_mem _ hs), List.cons_prefix_cons]
theorem pfx_take : ∀ {q p : List D}, (∀ s ∈ q, flatStep s = true) → (∀ s ∈ p, flatStep s = true) → (p.take q.length = q ↔ pfx q p = true) := fun {q p} hq hp => by
  rw [pfx_iff hq hp]
  constructor
  · intro h; rw [← h]; exact List.take_prefix _ _
  · intro h; exact (List.prefix_iff_eq_take.mp h).symm
theorem ne_pfx {q p : List D} (hq : ∀ s ∈ q, flatStep s = true) (hp : ∀ s ∈ p, flatStep s = true) : neD (.tup (p.take q.length)) (.tup q) = some (.fz (.bl (!pfx q p))) := by
  obtain ⟨c, h1, h2⟩ := tup_ne (p := p.take q.length) (q := q) (fun s hs => hp s (List.mem_of_mem_take hs)) hq
  rw [h1]
  have h3 := pfx_take hq hp
  cases c with
  | true =>
    have : ¬ pfx q p = true := fun z => h2.mp rfl (h3.mpr z)
    rw [Bool.eq_false_iff.mpr this]; rfl
  | false =>
    have : pfx q p = true := by
      refine h3.mp (Classical.byContradiction fun z => ?_)
      exact absurd (h2.mpr z) Bool.false_ne_true
    rw [this]; rfl
theorem eq_pfx {q p : List D} (hq : ∀ s ∈ q, flatStep s = true) (hp : ∀ s ∈ p, flatStep s = true) : eqD (.tup (p.take q.length)) (.tup q) = some (.fz (.bl (pfx q p))) := by
  have hp' : ∀ s ∈ p.take q.length, flatStep s = true := fun s hs => hp s (List.mem_of_mem_take hs)
  obtain ⟨c, h1, h2⟩ := tup_eq hp' hq
  have h3 := pfx_take hq hp
  unfold eqD
  rw [if_pos (flat_dep hp'), h1]
  have e : c = pfx q p := by
    cases c with
    | true => exact (h3.mp (h2.mp rfl)).symm
    | false =>
      refine (Bool.eq_false_iff.mpr fun z => ?_).symm
      exact absurd (h2.mpr (h3.mpr z)) Bool.false_ne_true
  rw [e]
/-- what the program's loop takes -/
def outL : Option (List D) → List (List D) → List (List D)
  | _, [] => []
  | none, p :: r => p :: outL (some p) r
  | some q, p :: r => if pfx q p = true then outL (some q) r else p :: outL (some p) r
/-- outermost, as a law asks it -/
def outer (due : List (List D)) : List (List D) := due.filter fun p => (due.filter fun q => decide (q.length < p.length) && pfx q p).isEmpty
def Flats (l : List (List D)) : Prop := ∀ p ∈ l, ∀ s ∈ p, flatStep s = true
theorem out_skip : ∀ {q : List D} {A B : List (List D)}, (∀ a ∈ A, pfx q a = true) → (∀ b ∈ B, pfx q b = false) → outL (some q) (A ++ B) = outL none B
  | q, [], [], _, _ => rfl
  | q, [], b :: B, _, hB => by
    show (if pfx q b = true then outL (some q) B else b :: outL (some b) B) = b :: outL (some b) B
    rw [hB b List.mem_cons_self, if_neg Bool.false_ne_true]
  | q, a :: A, B, hA, hB => by
    show (if pfx q a = true then outL (some q) (A ++ B) else _) = _
    rw [hA a List.mem_cons_self, if_pos rfl]
    exact out_skip (fun x hx => hA x (List.mem_cons_of_mem _ hx)) hB
theorem PreO.tail : ∀ {A B : List (List D)}, PreO (A ++ B) → PreO B
  | [], _, h => h
  | _ :: A, _, ⟨_, _, h⟩ => PreO.tail (A := A) h
theorem outer_eq : ∀ (n : Nat) {due : List (List D)}, due.length ≤ n → PreO due → Flats due → outL none due = outer due
  | _, [], _, _, _ => rfl
  | n + 1, q :: r, hn, ⟨h1, ⟨A, B, e, hA, hB⟩, h3⟩, hf => by
    subst e
    have fq := hf q List.mem_cons_self
    have fA : ∀ a ∈ A, ∀ s ∈ a, flatStep s = true := fun a ha => hf a (List.mem_cons_of_mem _ (List.mem_append_left _ ha))
    have fB : ∀ b ∈ B, ∀ s ∈ b, flatStep s = true := fun b hb => hf b (List.mem_cons_of_mem _ (List.mem_append_right _ hb))
    have pA : ∀ a ∈ A, pfx q a = true := fun a ha => (pfx_iff fq (fA a ha)).mpr (hA a ha)
    have pB : ∀ b ∈ B, pfx q b = false := fun b hb => Bool.eq_false_iff.mpr fun z => hB b hb ((pfx_iff fq (fB b hb)).mp z)
    have hl : B.length ≤ n := by simp at hn; omega
    show q :: outL (some q) (A ++ B) = _
    rw [out_skip pA pB, outer_eq n hl (PreO.tail h3) fB]
    have lt_of : ∀ a ∈ A, q.length < a.length := fun a ha => by
      have h := hA a ha
      have hle := h.length_le
      have hne : ¬ q.length = a.length := fun z => by
        have : q = a := h.eq_of_length z
        exact h1 a (List.mem_append_left _ ha) (by rw [this]; exact List.prefix_refl _)
      omega
    have kq : (((q :: (A ++ B)).filter fun x => decide (x.length < q.length) && pfx x q).isEmpty) = true := by
      rw [List.isEmpty_iff, List.filter_eq_nil_iff]
      intro x hx z
      rw [Bool.and_eq_true, decide_eq_true_eq] at z
      rcases List.mem_cons.mp hx with y | y
      · subst y; omega
      · exact h1 x y ((pfx_iff (hf x (List.mem_cons_of_mem _ y)) fq).mp z.2)
    have kA : ∀ a ∈ A, (((q :: (A ++ B)).filter fun x => decide (x.length < a.length) && pfx x a).isEmpty) = false := fun a ha => by
      rw [List.filter_cons_of_pos (by rw [pA a ha, decide_eq_true (lt_of a ha)]; rfl)]; rfl
    have kB : ∀ b ∈ B, (((q :: (A ++ B)).filter fun x => decide (x.length < b.length) && pfx x b).isEmpty) = ((B.filter fun x => decide (x.length < b.length) && pfx x b).isEmpty) := fun b hb => by
      rw [List.filter_cons_of_neg (by rw [pB b hb]; simp), List.filter_append]
      have : (A.filter fun x => decide (x.length < b.length) && pfx x b) = [] := by
        rw [List.filter_eq_nil_iff]
        intro a ha z
        rw [Bool.and_eq_true] at z
        have z2 := (pfx_iff (fA a ha) (fB b hb)).mp z.2
        exact hB b hb ((hA a ha).trans z2)
      rw [this, List.nil_append]
    show q :: outer B = (q :: (A ++ B)).filter fun p => ((q :: (A ++ B)).filter fun x => decide (x.length < p.length) && pfx x p).isEmpty
    rw [List.filter_cons_of_pos (p := fun p => ((q :: (A ++ B)).filter fun x => decide (x.length < p.length) && pfx x p).isEmpty) kq, List.filter_append]
    have eA : (A.filter fun p => ((q :: (A ++ B)).filter fun x => decide (x.length < p.length) && pfx x p).isEmpty) = [] := by
      rw [List.filter_eq_nil_iff]
      intro a ha z
      rw [kA a ha] at z; cases z
    rw [eA, List.nil_append]
    unfold outer
    congr 1
    exact (List.filter_congr fun b hb => (kB b hb)).symm
/-- outermost ones stand apart -/
theorem outer_apart : ∀ (n : Nat) {due : List (List D)}, due.length ≤ n → PreO due → Flats due → (outL none due).Pairwise apart ∧ ∀ p ∈ outL none due, p ∈ due
  | _, [], _, _, _ => ⟨List.Pairwise.nil, fun p hp => nomatch hp⟩
  | n + 1, q :: r, hn, ⟨h1, ⟨A, B, e, hA, hB⟩, h3⟩, hf => by
    subst e
    have fq := hf q List.mem_cons_self
    have fA : ∀ a ∈ A, ∀ s ∈ a, flatStep s = true := fun a ha => hf a (List.mem_cons_of_mem _ (List.mem_append_left _ ha))
    have fB : ∀ b ∈ B, ∀ s ∈ b, flatStep s = true := fun b hb => hf b (List.mem_cons_of_mem _ (List.mem_append_right _ hb))
    have pA : ∀ a ∈ A, pfx q a = true := fun a ha => (pfx_iff fq (fA a ha)).mpr (hA a ha)
    have pB : ∀ b ∈ B, pfx q b = false := fun b hb => Bool.eq_false_iff.mpr fun z => hB b hb ((pfx_iff fq (fB b hb)).mp z)
    have hl : B.length ≤ n := by simp at hn; omega
    obtain ⟨i1, i2⟩ := outer_apart n hl (PreO.tail h3) fB
    have e : outL none (q :: (A ++ B)) = q :: outL none B := by
      show q :: outL (some q) (A ++ B) = _
      rw [out_skip pA pB]
    rw [e]
    refine ⟨List.pairwise_cons.mpr ⟨fun b hb => ?_, i1⟩, fun p hp => ?_⟩
    · have hbB := i2 b hb
      refine apart_of (fun z => hB b hbB ?_) fun z => h1 b (List.mem_append_right _ hbB) ?_
      · rw [← z]; exact List.take_prefix _ _
      · rw [← z]; exact List.take_prefix _ _
    · rcases List.mem_cons.mp hp with z | z
      · rw [z]; exact List.mem_cons_self
      · exact List.mem_cons_of_mem _ (List.mem_append_right _ (i2 p z))
/-! ### the loop -/
def putsF (W e : D) (l : List (List D)) : D := l.foldl (fun f p => putF f p e) W
theorem rd_ok : ∀ {m n : Nat} {d : D}, okW m d = true → cntW d ≤ 16777216 → rdD n d = true
  | m, n, .int _, _, _ => by cases n <;> rfl
  | m, n, .str s, h, _ => by
    have h' : okS s = true := by cases m <;> exact h
    have := okS_len h'
    cases n <;> exact decide_eq_true this
  | m + 1, 0, .lst _, _, _ => rfl
  | m + 1, 0, .dic _, _, _ => rfl
  | m + 1, n + 1, .lst ds, h, hc => by
    have h' := okW_lst.mp h
    have hc' : 1 + cnts ds ≤ 16777216 := hc
    have hl := cnts_len ds
    show (decide (ds.length ≤ 16777216) && ds.all (rdD n)) = true
    rw [decide_eq_true (by omega), Bool.true_and, List.all_eq_true]
    exact fun d hd => rd_ok (h' d hd) (by have := cnts_mem hd; omega)
  | m + 1, n + 1, .dic ks, h, hc => by
    obtain ⟨h', nd⟩ := okW_dic.mp h
    have hc' : 1 + cntk ks ≤ 16777216 := hc
    have hl := cntk_len ks
    show (decide (ks.length ≤ 16777216) && decide ((ks.map (·.1)).Nodup) && ks.all fun p => keyR p.1 && rdD n p.2) = true
    rw [decide_eq_true (by omega), decide_eq_true nd, Bool.true_and, Bool.true_and, List.all_eq_true]
    intro p hp
    obtain ⟨s, e, hs⟩ := okK_str (h' p hp).1
    rw [e, rd_ok (h' p hp).2 (by have := cntk_mem hp; omega)]
    show (decide (s.length ≤ 16777216) && true) = true
    rw [decide_eq_true (okS_len hs)]; rfl
  | 0, _, .lst _, h, _ => by cases h
  | 0, _, .dic _, h, _ => by cases h
  | 0, _, .non, h, _ => by cases h
  | 0, _, .bl _, h, _ => by cases h
  | 0, _, .tup _, h, _ => by cases h
  | 0, _, .dit _, h, _ => by cases h
  | 0, _, .scr _, h, _ => by cases h
  | 0, _, .ty _, h, _ => by cases h
  | 0, _, .exn _, h, _ => by cases h
  | 0, _, .cl _, h, _ => by cases h
  | 0, _, .ptr _, h, _ => by cases h
  | m + 1, _, .non, h, _ => by cases h
  | m + 1, _, .bl _, h, _ => by cases h
  | m + 1, _, .tup _, h, _ => by cases h
  | m + 1, _, .dit _, h, _ => by cases h
  | m + 1, _, .scr _, h, _ => by cases h
  | m + 1, _, .ty _, h, _ => by cases h
  | m + 1, _, .exn _, h, _ => by cases h
  | m + 1, _, .cl _, h, _ => by cases h
  | m + 1, _, .ptr _, h, _ => by cases h
theorem isW_of {m : Nat} {d : D} (h : okW m d = true) (hm : m ≤ 6) (hc : cntW d ≤ 60) : isW d = true := by
  have h1 := look_ok (n := 10) (Nat.le_refl _) h hm hc
  have h2 := look_all (n := 10) (Nat.le_refl _) (rd_ok (n := 6) h (by omega))
  cases q : isW d with
  | true => rfl
  | false =>
    rw [q, if_neg Bool.false_ne_true, h1] at h2
    cases h2
def cpE : D → Ent
  | .lst ds => .ow (.lst ds)
  | .dic ks => .ow (.dic ks)
  | d => .fz d
theorem asg_cp {i : Nat} {d : D} {e : En} : asgR i (.ok (cpV d) e) = .ok .nx (e.set i (cpE d)) := by cases d <;> rfl
theorem var_cp {i : Nat} {d : D} {e : En} : varR i (some (cpE d)) e = .ok (.pl i) e := by cases d <;> rfl
theorem frz_cpE {i : Nat} {d : D} {e : En} (h : e[i]? = some (cpE d)) : frzR i (some (cpE d)) e = .ok d (e.set i (.fz d)) := by
  cases d <;> first
    | rfl
    | exact congrArg (Out.ok _) (set_get h).symm
def optT : Option (List D) → D
  | some p => .tup p
  | none => .non
theorem for_nil {fg : List Nat} {tgt : D → En → Option En} {mb : M Fl} {e : En} : forL fg tgt mb [] e = .ok .nx (forget fg e) := rfl
theorem for_nx {fg : List Nat} {tgt : D → En → Option En} {mb : M Fl} {d : D} {ds : List D} {e e1 e2 : En} (h1 : tgt d (forget fg e) = some e1) (h2 : mb e1 = .ok .nx e2) : forL fg tgt mb (d :: ds) e = forL fg tgt mb ds e2 := by
  rw [forL]; simp only [h1]; rw [mB_ok h2]
theorem for_ct {fg : List Nat} {tgt : D → En → Option En} {mb : M Fl} {d : D} {ds : List D} {e e1 e2 : En} (h1 : tgt d (forget fg e) = some e1) (h2 : mb e1 = .ok .ct e2) : forL fg tgt mb (d :: ds) e = forL fg tgt mb ds e2 := by
  rw [forL]; simp only [h1]; rw [mB_ok h2]
theorem for_rt {fg : List Nat} {tgt : D → En → Option En} {mb : M Fl} {d : D} {ds : List D} {e e1 e2 : En} {x : Vl} (h1 : tgt d (forget fg e) = some e1) (h2 : mb e1 = .ok (.rt x) e2) : forL fg tgt mb (d :: ds) e = .ok (.rt x) e2 := by
  rw [forL]; simp only [h1]; rw [mB_ok h2]; rfl
theorem for_exc {fg : List Nat} {tgt : D → En → Option En} {mb : M Fl} {d : D} {ds : List D} {e e1 e2 : En} {c : Ex} (h1 : tgt d (forget fg e) = some e1) (h2 : mb e1 = .exc c e2) : forL fg tgt mb (d :: ds) e = .exc c e2 := by
  rw [forL]; simp only [h1]; unfold mB; rw [h2]
theorem for_go {fg : List Nat} {mi : M (List D)} {tgt : D → En → Option En} {mb : M Fl} {e e1 : En} {ds : List D} (h : mi e = .ok ds e1) : dFor fg mi tgt mb e = forL fg tgt mb ds e1 := by unfold dFor; rw [mB_ok h]
/-- each path leads somewhere, in its turn -/
def turns (new : D) : D → List (List D) → Prop
  | _, [] => True
  | f, p :: r => (∃ x, ledF f p = some x) ∧ turns new (putF f p new) r
theorem turns_of (new : D) : ∀ {l : List (List D)} {f : D}, l.Pairwise apart → (∀ p ∈ l, ∃ x, ledF f p = some x) → turns new f l
  | [], _, _, _ => trivial
  | p :: r, f, h, k => by
    obtain ⟨h1, h2⟩ := List.pairwise_cons.mp h
    obtain ⟨x, hx⟩ := k p List.mem_cons_self
    refine ⟨⟨x, hx⟩, turns_of new h2 fun q hq => ?_⟩
    obtain ⟨y, hy⟩ := k q (List.mem_cons_of_mem _ hq)
    exact ⟨y, led_put_off (h1 q hq) hx hy⟩
abbrev rBody (k : Nat) : M Fl := dIfS (dOr (dBool (dOp (isND false) (dVar 4) (dC .non))) (dBool (dOp neD (dSl (dVar 5) (L3.ret none) (dPart (dCB cLen (dCons (dVar 4) dNil)))) (dVar 4)))) (dSeq (dAsg 3 (dCall [] 3 (G_changed_at k) (dCons (dVar 3) (dCons (dVar 5) (dCons (dVar 2) dNil)))))
  (dAsg 4 (dVar 5))) dNext
theorem repl_turn {k md me : Nat} {W A new f : D} {p : List D} (l : Option (List D)) {x : D} (hk : md + me + 3 ≤ k) (hf : okW md f = true) (hn : okW me new = true) (hc : cntW f ≤ 1000) (hcn : cntW new ≤ 1000) (hl : ledF f p = some x) (hg : ∀ q, l = some q → (∀ s ∈ q, flatStep s = true) ∧ pfx q p = false) :
    rBody k [.fz W, .fz A, .fz new, cpE f, .fz (optT l), .fz (.tup p)] = .ok .nx [.fz W, .fz A, .fz new, cpE (putF f p new), .fz (.tup p), .fz (.tup p)] := by
  have h1 := changed_ok p md me k f new x hk hf hn hc hcn hl
  have fp := led_flat hl
  have hfz : frzR 3 (some (cpE f)) [.fz W, .fz A, .fz new, cpE f, .fz (optT l), .fz (.tup p)] = .ok f [.fz W, .fz A, .fz new, .fz f, .fz (optT l), .fz (.tup p)] := frz_cpE rfl
  cases l with
  | none =>
    simp only [optT] at hfz ⊢
    simp only [SIM, List.map_cons, List.map_nil, List.length_cons, List.length_nil, List.append_eq, List.nil_append, List.cons_append, List.replicate, Nat.reduceSub, Nat.reduceAdd, Nat.reduceLeDiff, Nat.reduceLT, List.getElem?_cons_zero, List.getElem?_cons_succ, List.set_cons_zero, List.set_cons_succ, Bool.not_true, Bool.not_false, decide_true, decide_false, Int.reduceSub, Int.reduceAdd, Int.reduceNeg, Bool.false_bne, Bool.bne_false, Bool.true_bne, Nat.le_refl, Nat.zero_le, Nat.reduceEqDiff, List.isEmpty_cons, List.isEmpty_nil, reduceCtorEq, List.zip_cons_cons, List.zip_nil_left, List.length_map, Nat.reduceBEq, Nat.reduceEqDiff, var_cp, hfz, h1, asg_cp]
  | some q =>
    obtain ⟨fq, hq⟩ := hg q rfl
    have e := ne_pfx fq fp
    rw [hq] at e
    have c := cut_head p q.length
    simp only [optT] at hfz ⊢
    simp only [SIM, List.map_cons, List.map_nil, List.length_cons, List.length_nil, List.append_eq, List.nil_append, List.cons_append, List.replicate, Nat.reduceSub, Nat.reduceAdd, Nat.reduceLeDiff, Nat.reduceLT, List.getElem?_cons_zero, List.getElem?_cons_succ, List.set_cons_zero, List.set_cons_succ, Bool.not_true, Bool.not_false, decide_true, decide_false, Int.reduceSub, Int.reduceAdd, Int.reduceNeg, Bool.false_bne, Bool.bne_false, Bool.true_bne, Nat.le_refl, Nat.zero_le, Nat.reduceEqDiff, List.isEmpty_cons, List.isEmpty_nil, reduceCtorEq, List.zip_cons_cons, List.zip_nil_left, List.length_map, Nat.reduceBEq, Nat.reduceEqDiff, c, e, var_cp, hfz, h1, asg_cp]
theorem repl_skip {k : Nat} {W A new f : D} {p q : List D} (fq : ∀ s ∈ q, flatStep s = true) (fp : ∀ s ∈ p, flatStep s = true) (hq : pfx q p = true) :
    rBody k [.fz W, .fz A, .fz new, cpE f, .fz (.tup q), .fz (.tup p)] = .ok .nx [.fz W, .fz A, .fz new, cpE f, .fz (.tup q), .fz (.tup p)] := by
  have e := ne_pfx fq fp
  rw [hq] at e
  have c := cut_head p q.length
  simp only [SIM, List.map_cons, List.map_nil, List.length_cons, List.length_nil, List.append_eq, List.nil_append, List.cons_append, List.replicate, Nat.reduceSub, Nat.reduceAdd, Nat.reduceLeDiff, Nat.reduceLT, List.getElem?_cons_zero, List.getElem?_cons_succ, List.set_cons_zero, List.set_cons_succ, Bool.not_true, Bool.not_false, decide_true, decide_false, Int.reduceSub, Int.reduceAdd, Int.reduceNeg, Bool.false_bne, Bool.bne_false, Bool.true_bne, Nat.le_refl, Nat.zero_le, Nat.reduceEqDiff, List.isEmpty_cons, List.isEmpty_nil, reduceCtorEq, List.zip_cons_cons, List.zip_nil_left, List.length_map, Nat.reduceBEq, Nat.reduceEqDiff, c, e]
theorem repl_loop {k md me : Nat} {W A new : D} (hk : md + me + 3 ≤ k) (hn : okW me new = true) (hcn : cntW new ≤ 1000) : ∀ (L : List (List D)) (l : Option (List D)) (f : D) (e5 : Ent), okW md f = true → (∀ p ∈ L, p.length + me ≤ md) → cntW f + (outL l L).length * cntW new ≤ 1000 → turns new f (outL l L) → Flats L → (∀ q, l = some q → ∀ s ∈ q, flatStep s = true) →
    ∃ l', forL [5] (gtN 5) (rBody k) (L.map .tup) [.fz W, .fz A, .fz new, cpE f, .fz (optT l), e5] = .ok .nx [.fz W, .fz A, .fz new, cpE (putsF f new (outL l L)), .fz (optT l'), .no] ∧ okW md (putsF f new (outL l L)) = true ∧ cntW (putsF f new (outL l L)) ≤ cntW f + (outL l L).length * cntW new
  | [], l, f, e5, hf, _, _, _, _, _ => ⟨l, by cases l <;> rfl, by cases l <;> exact hf, by cases l <;> exact Nat.le_add_right _ _⟩
  | p :: L, l, f, e5, hf, hp, hc, ht, hfl, hql => by
    have fp := hfl p List.mem_cons_self
    have step : outL l (p :: L) = p :: outL (some p) L → (∀ q, l = some q → (∀ s ∈ q, flatStep s = true) ∧ pfx q p = false) → ∃ l', forL [5] (gtN 5) (rBody k) ((p :: L).map .tup) [.fz W, .fz A, .fz new, cpE f, .fz (optT l), e5] = .ok .nx [.fz W, .fz A, .fz new, cpE (putsF f new (outL l (p :: L))), .fz (optT l'), .no] ∧ okW md (putsF f new (outL l (p :: L))) = true ∧ cntW (putsF f new (outL l (p :: L))) ≤ cntW f + (outL l (p :: L)).length * cntW new := fun eo hg => by
      rw [eo] at hc ht ⊢
      obtain ⟨⟨x, hx⟩, ht'⟩ := ht
      have hc' : cntW f + ((outL (some p) L).length + 1) * cntW new ≤ 1000 := hc
      rw [Nat.succ_mul] at hc'
      have h1 := repl_turn (W := W) (A := A) l hk hf hn (by omega) hcn hx hg
      have hput := put_ok hf hn hx
      rw [Nat.max_eq_left (hp p List.mem_cons_self)] at hput
      have hcp := put_cnt (e := new) hx
      obtain ⟨l', i1, i2, i3⟩ := repl_loop hk hn hcn L (some p) (putF f p new) (.fz (.tup p)) hput (fun q hq => hp q (List.mem_cons_of_mem _ hq)) (by omega) ht' (fun q hq => hfl q (List.mem_cons_of_mem _ hq)) fun q e => by cases e; exact fp
      refine ⟨l', ?_, i2, ?_⟩
      · rw [List.map_cons, for_nx (e1 := [.fz W, .fz A, .fz new, cpE f, .fz (optT l), .fz (.tup p)]) rfl h1]
        exact i1
      · show cntW (putsF (putF f p new) new (outL (some p) L)) ≤ cntW f + ((outL (some p) L).length + 1) * cntW new
        rw [Nat.succ_mul]; omega
    cases l with
    | none => exact step rfl fun q e => nomatch e
    | some q =>
      have fq := hql q rfl
      cases hq : pfx q p with
      | false =>
        have eo : outL (some q) (p :: L) = p :: outL (some p) L := by
          show (if pfx q p = true then _ else _) = _
          rw [hq, if_neg Bool.false_ne_true]
        exact step eo fun q' e => by cases e; exact ⟨fq, hq⟩
      | true =>
        have eo : outL (some q) (p :: L) = outL (some q) L := by
          show (if pfx q p = true then _ else _) = _
          rw [hq, if_pos rfl]
        rw [eo] at hc ht ⊢
        have h1 := repl_skip (k := k) (W := W) (A := A) (new := new) (f := f) fq fp hq
        obtain ⟨l', i1, i2, i3⟩ := repl_loop hk hn hcn L (some q) f (.fz (.tup p)) hf (fun q hq => hp q (List.mem_cons_of_mem _ hq)) hc ht (fun q hq => hfl q (List.mem_cons_of_mem _ hq)) hql
        refine ⟨l', ?_, i2, i3⟩
        rw [List.map_cons, for_nx (e1 := [.fz W, .fz A, .fz new, cpE f, .fz (.tup q), .fz (.tup p)]) rfl h1]
        exact i1
/-- the paths that an ask fits -/
def dueF (m : Nat) (W : D) (ask : List D) : List (List D) := ((rowsF m W).filter fun r => fitsF ask r.1).map (·.1)
theorem due_pre {m : Nat} {W : D} {ask : List D} (hw : okW m W = true) : PreO (dueF m W ask) ∧ Flats (dueF m W ask) ∧ (∀ p ∈ dueF m W ask, ∃ x, ledF W p = some x) ∧ ∀ p ∈ dueF m W ask, p.length ≤ m := by
  have e : dueF m W ask = ((rowsF m W).map (·.1)).filter (fitsF ask) := by
    unfold dueF
    rw [List.filter_map]; rfl
  have hl : ∀ p ∈ dueF m W ask, ∃ x, ledF W p = some x := fun p hp => by
    obtain ⟨r, hr, rfl⟩ := List.mem_map.mp hp
    exact ⟨r.2, rows_led hw (List.mem_filter.mp hr).1⟩
  refine ⟨by rw [e]; exact (rows_pre hw).filter _, fun p hp => ?_, hl, fun p hp => ?_⟩
  · obtain ⟨x, hx⟩ := hl p hp
    exact led_flat hx
  · obtain ⟨x, hx⟩ := hl p hp
    obtain ⟨k, e, _⟩ := led_dp hw hx
    omega
/-- W with new at all outermost places that an ask fits -/
def replF (m : Nat) (W : D) (ask : List D) (new : D) : D := putsF W new (outL none (dueF m W ask))
theorem out_len : ∀ (L : List (List D)) (l : Option (List D)), (outL l L).length ≤ L.length
  | [], l => by cases l <;> exact Nat.le_refl _
  | p :: L, none => Nat.succ_le_succ (out_len L (some p))
  | p :: L, some q => by
    show (if pfx q p = true then outL (some q) L else p :: outL (some p) L).length ≤ _
    split
    · exact Nat.le_succ_of_le (out_len L (some q))
    · exact Nat.succ_le_succ (out_len L (some p))
theorem replaced_all {n m me : Nat} {W new : D} {ask : List D} (hn : 13 + 2 * me ≤ n) (hw : okW m W = true) (hm : m ≤ 6) (hc : cntW W ≤ 60) (ha : askR (.tup ask) = true) (hk : askOk (.tup ask) = true) (hnew : okW me new = true) (hme : me ≤ 6) (hcn : cntW new ≤ 60) (hcc : cntW W + (outL none (dueF m W ask)).length * cntW new ≤ 1000) :
    (G_replaced n [.fz W, .fz (.tup ask), .fz new] = if isW (replF m W ask new) = true then .ok (.fz (replF m W ask new)) [.fz W, .fz (.tup ask), .fz new] else .exc .worth [.fz W, .fz (.tup ask), .fz new]) ∧ okW (m + me) (replF m W ask new) = true ∧ cntW (replF m W ask new) ≤ cntW W + (outL none (dueF m W ask)).length * cntW new := by
  obtain ⟨k, rfl, hk'⟩ := up1 (n := n) (m := 12 + 2 * me) (by omega)
  obtain ⟨hl6, hs⟩ : ask.length ≤ 6 ∧ ∀ s ∈ ask, stepOk s = true := by
    have : (decide (ask.length ≤ 6) && ask.all stepOk) = true := hk
    simpa using this
  have h1 := look_ok (n := k) (by omega) hw hm hc
  have h2 := look_ask_ok (n := k) (by omega) ha
  rw [if_pos hk] at h2
  have h3 := look_ok (n := k) (by omega) hnew hme hcn
  have h4 := asked_ok (n := k) (by omega) hw hm (by omega) (fun s h => step_flat (hs s h)) hl6
  have h5 := copied_ok m k W (by omega) hw (by omega)
  obtain ⟨p1, p2, p3, p4⟩ := due_pre (ask := ask) hw
  obtain ⟨o1, o2⟩ := outer_apart _ (Nat.le_refl _) p1 p2
  have hw' : okW (m + me) W = true := okW_mono hw (by omega)
  obtain ⟨l', i1, i2, i3⟩ := repl_loop (k := k) (md := m + me) (me := me) (W := W) (A := .tup ask) (new := new) (by omega) hnew (by omega) (dueF m W ask) none W .no hw' (fun p hp => by have := p4 p hp; omega) hcc (turns_of new o1 fun p hp => p3 p (o2 p hp)) p2 fun q e => nomatch e
  refine ⟨?_, i2, i3⟩
  have i2' : okW (m + me) (replF m W ask new) = true := i2
  have h6 := look_all (n := k) (d := replF m W ask new) (by omega) (rd_ok i2' (by show cntW (putsF _ _ _) ≤ _; omega))
  have q1 : Q_replaced_1 (G_look_worth k) (G_look_ask k) (G_copied k) (G_changed_at k) (G_asked k) [.fz W, .fz (.tup ask), .fz new, cpE W, .fz .non, .no] = .ok .nx [.fz W, .fz (.tup ask), .fz new, cpE (replF m W ask new), .fz (optT l'), .no] := by
    have e : (((rowsF m W).filter fun r => fitsF ask r.1).map fun r => D.tup r.1) = (dueF m W ask).map .tup := by
      unfold dueF; rw [List.map_map]; rfl
    rw [e] at h4
    refine (for_go (e1 := [.fz W, .fz (.tup ask), .fz new, cpE W, .fz .non, .no]) (ds := (dueF m W ask).map .tup) (by simp only [SIM, List.map_cons, List.map_nil, List.length_cons, List.length_nil, List.append_eq, List.nil_append, List.cons_append, List.replicate, Nat.reduceSub, Nat.reduceAdd, Nat.reduceLeDiff, Nat.reduceLT, List.getElem?_cons_zero, List.getElem?_cons_succ, List.set_cons_zero, List.set_cons_succ, Bool.not_true, Bool.not_false, decide_true, decide_false, Int.reduceSub, Int.reduceAdd, Int.reduceNeg, Bool.false_bne, Bool.bne_false, Bool.true_bne, Nat.le_refl, Nat.zero_le, Nat.reduceEqDiff, List.isEmpty_cons, List.isEmpty_nil, reduceCtorEq, List.zip_cons_cons, List.zip_nil_left, List.length_map, Nat.reduceBEq, Nat.reduceEqDiff, h4])).trans i1
  have hfz : frzR 3 (some (cpE (replF m W ask new))) [.fz W, .fz (.tup ask), .fz new, cpE (replF m W ask new), .fz (optT l'), .no] = .ok (replF m W ask new) [.fz W, .fz (.tup ask), .fz new, .fz (replF m W ask new), .fz (optT l'), .no] := frz_cpE rfl
  cases hi : isW (replF m W ask new) with
  | true =>
    rw [hi, if_pos rfl] at h6
    simp only [G_replaced, m_replaced, SIM, List.map_cons, List.map_nil, List.length_cons, List.length_nil, List.append_eq, List.nil_append, List.cons_append, List.replicate, Nat.reduceSub, Nat.reduceAdd, Nat.reduceLeDiff, Nat.reduceLT, List.getElem?_cons_zero, List.getElem?_cons_succ, List.set_cons_zero, List.set_cons_succ, Bool.not_true, Bool.not_false, decide_true, decide_false, Int.reduceSub, Int.reduceAdd, Int.reduceNeg, Bool.false_bne, Bool.bne_false, Bool.true_bne, Nat.le_refl, Nat.zero_le, Nat.reduceEqDiff, List.isEmpty_cons, List.isEmpty_nil, reduceCtorEq, List.zip_cons_cons, List.zip_nil_left, List.length_map, Nat.reduceBEq, Nat.reduceEqDiff, h1, h2, h3, h5, asg_cp, q1, var_cp, hfz, h6, if_true]
  | false =>
    rw [hi, if_neg Bool.false_ne_true] at h6
    simp only [G_replaced, m_replaced, SIM, List.map_cons, List.map_nil, List.length_cons, List.length_nil, List.append_eq, List.nil_append, List.cons_append, List.replicate, Nat.reduceSub, Nat.reduceAdd, Nat.reduceLeDiff, Nat.reduceLT, List.getElem?_cons_zero, List.getElem?_cons_succ, List.set_cons_zero, List.set_cons_succ, Bool.not_true, Bool.not_false, decide_true, decide_false, Int.reduceSub, Int.reduceAdd, Int.reduceNeg, Bool.false_bne, Bool.bne_false, Bool.true_bne, Nat.le_refl, Nat.zero_le, Nat.reduceEqDiff, List.isEmpty_cons, List.isEmpty_nil, reduceCtorEq, List.zip_cons_cons, List.zip_nil_left, List.length_map, Nat.reduceBEq, Nat.reduceEqDiff, h1, h2, h3, h5, asg_cp, q1, var_cp, hfz, h6, Bool.false_eq_true, if_false]
/-! ### == of worths -/
theorem eqO_self : ∀ {n : Nat} {d : D}, okW n d = true → eqO d d = some true
  | n, .int i, _ => by simp [eqO]
  | n, .str s, _ => by simp [eqO]
  | n + 1, .lst ds, h => by
    have h' := okW_lst.mp h
    have k : ∀ l : List D, (∀ d ∈ l, d ∈ ds) → eqOs l l = some true := by
      intro l
      induction l with
      | nil => intro _; rfl
      | cons d r ih =>
        intro hl
        have h1 := eqO_self (h' d (hl d List.mem_cons_self))
        simp only [eqOs, h1, ih fun x hx => hl x (List.mem_cons_of_mem _ hx)]; rfl
    unfold eqO
    rw [if_pos rfl, k ds fun d hd => hd]
  | n + 1, .dic ks, h => by
    obtain ⟨h', nd⟩ := okW_dic.mp h
    have k : ∀ l : List (Key × D), (∀ d ∈ l, d ∈ ks) → eqOk l ks = some true := by
      intro l
      induction l with
      | nil => intro _; rfl
      | cons d r ih =>
        intro hl
        obtain ⟨kk, x⟩ := d
        have hx := hl (kk, x) List.mem_cons_self
        have h1 := eqO_self (h' _ hx).2
        have h2 := gV_of nd hx
        simp only [eqOk, h2, h1, ih fun y hy => hl y (List.mem_cons_of_mem _ hy)]; rfl
    simp only [eqO, k ks fun d hd => hd]; simp
  | 0, .lst _, h => by cases h
  | 0, .dic _, h => by cases h
  | 0, .non, h => by cases h
  | 0, .bl _, h => by cases h
  | 0, .tup _, h => by cases h
  | 0, .dit _, h => by cases h
  | 0, .scr _, h => by cases h
  | 0, .ty _, h => by cases h
  | 0, .exn _, h => by cases h
  | 0, .cl _, h => by cases h
  | 0, .ptr _, h => by cases h
  | n + 1, .non, h => by cases h
  | n + 1, .bl _, h => by cases h
  | n + 1, .tup _, h => by cases h
  | n + 1, .dit _, h => by cases h
  | n + 1, .scr _, h => by cases h
  | n + 1, .ty _, h => by cases h
  | n + 1, .exn _, h => by cases h
  | n + 1, .cl _, h => by cases h
  | n + 1, .ptr _, h => by cases h
theorem dep_self : ∀ {n m : Nat} {d : D}, okW n d = true → n ≤ m → depLe m d = true
  | n, m, .int i, _, _ => by cases m <;> rfl
  | n, m, .str i, _, _ => by cases m <;> rfl
  | n + 1, m + 1, .lst ds, h, hm => by
    have h' := okW_lst.mp h
    show ds.all (depLe m) = true
    exact List.all_eq_true.mpr fun d hd => dep_self (h' d hd) (by omega)
  | n + 1, m + 1, .dic ks, h, hm => by
    obtain ⟨h', nd⟩ := okW_dic.mp h
    show (ks.all fun p => depLe m p.2) = true
    exact List.all_eq_true.mpr fun d hd => dep_self (h' d hd).2 (by omega)
  | n + 1, 0, _, _, hm => by omega
  | 0, _, .lst _, h, _ => by cases h
  | 0, _, .dic _, h, _ => by cases h
  | 0, _, .non, h, _ => by cases h
  | 0, _, .bl _, h, _ => by cases h
  | 0, _, .tup _, h, _ => by cases h
  | 0, _, .dit _, h, _ => by cases h
  | 0, _, .scr _, h, _ => by cases h
  | 0, _, .ty _, h, _ => by cases h
  | 0, _, .exn _, h, _ => by cases h
  | 0, _, .cl _, h, _ => by cases h
  | 0, _, .ptr _, h, _ => by cases h
  | n + 1, _, .non, h, _ => by cases h
  | n + 1, _, .bl _, h, _ => by cases h
  | n + 1, _, .tup _, h, _ => by cases h
  | n + 1, _, .dit _, h, _ => by cases h
  | n + 1, _, .scr _, h, _ => by cases h
  | n + 1, _, .ty _, h, _ => by cases h
  | n + 1, _, .exn _, h, _ => by cases h
  | n + 1, _, .cl _, h, _ => by cases h
  | n + 1, _, .ptr _, h, _ => by cases h
/-- ("found", W) == ("found", W) -/
theorem found_eq {m : Nat} {W : D} (h : okW m W = true) (hm : m ≤ 50) : eqD (.tup [.str "found", W]) (.tup [.str "found", W]) = some (.fz (.bl true)) := by
  have h1 := eqO_self h
  have h2 := dep_self (m := 59) h (by omega)
  have e : eqO (.str "found") (.str "found") = some true := rfl
  have h3 : depLe 60 (.tup [.str "found", W]) = true := by
    show (depLe 59 (.str "found") && (depLe 59 W && true)) = true
    rw [h2]; rfl
  unfold eqD
  rw [if_pos h3]
  simp only [eqO, eqOs, e, h1]; rfl
end LP
end S_Ps
section S_K62b
set_option maxHeartbeats 0
namespace K62
open PySem PySem.Spec PyProof.Rows L2 L3 LP
--BEGIN
abbrev allX : List Ex := [.worth, .text, .path, .choice, .many, .deeds, .name, .ask]
theorem all_in (c : Ex) : c ∈ allX := by cases c <;> decide
theorem told_fz {k : Nat} {a b d : D} {es : En} (h : G__law_one k [.fz a, .fz b] = .ok (.fz d) es) : G__law_told (k + 1) [.fz a, .fz b] = .ok (.fz (.tup [.str "found", d])) [.fz a, .fz b] := by
  simp only [G__law_told, m__law_told, SIM, List.map_cons, List.map_nil, List.length_cons, List.length_nil, List.append_eq, List.nil_append, List.cons_append, List.replicate, Nat.reduceSub, Nat.reduceAdd, Nat.reduceLeDiff, Nat.reduceLT, List.getElem?_cons_zero, List.getElem?_cons_succ, List.set_cons_zero, List.set_cons_succ, Bool.not_true, Bool.not_false, decide_true, decide_false, Int.reduceSub, Int.reduceAdd, Int.reduceNeg, Bool.false_bne, Bool.bne_false, Bool.true_bne, Nat.le_refl, Nat.zero_le, Nat.reduceEqDiff, List.isEmpty_cons, List.isEmpty_nil, reduceCtorEq, List.zip_cons_cons, List.zip_nil_left, List.length_map, Nat.reduceBEq, Nat.reduceEqDiff, h]
theorem told_ow {k : Nat} {a b d : D} {es : En} (h : G__law_one k [.fz a, .fz b] = .ok (.ow d) es) : G__law_told (k + 1) [.fz a, .fz b] = .ok (.fz (.tup [.str "found", d])) [.fz a, .fz b] := by
  simp only [G__law_told, m__law_told, SIM, List.map_cons, List.map_nil, List.length_cons, List.length_nil, List.append_eq, List.nil_append, List.cons_append, List.replicate, Nat.reduceSub, Nat.reduceAdd, Nat.reduceLeDiff, Nat.reduceLT, List.getElem?_cons_zero, List.getElem?_cons_succ, List.set_cons_zero, List.set_cons_succ, Bool.not_true, Bool.not_false, decide_true, decide_false, Int.reduceSub, Int.reduceAdd, Int.reduceNeg, Bool.false_bne, Bool.bne_false, Bool.true_bne, Nat.le_refl, Nat.zero_le, Nat.reduceEqDiff, List.isEmpty_cons, List.isEmpty_nil, reduceCtorEq, List.zip_cons_cons, List.zip_nil_left, List.length_map, Nat.reduceBEq, Nat.reduceEqDiff, h]
theorem told_exc {k : Nat} {a b : D} {c : Ex} {es : En} (hk : 1 ≤ k) (h : G__law_one k [.fz a, .fz b] = .exc c es) : G__law_told (k + 1) [.fz a, .fz b] = .ok (.fz (.tup [.str "refused", .str (exW c)])) [.fz a, .fz b] := by
  have h2 := refusal_ok hk c
  have h3 : c ∈ ([.worth, .text, .path, .choice, .many, .deeds, .name, .ask] : List Ex) := all_in c
  simp only [G__law_told, m__law_told, SIM, List.map_cons, List.map_nil, List.length_cons, List.length_nil, List.append_eq, List.nil_append, List.cons_append, List.replicate, Nat.reduceSub, Nat.reduceAdd, Nat.reduceLeDiff, Nat.reduceLT, List.getElem?_cons_zero, List.getElem?_cons_succ, List.set_cons_zero, List.set_cons_succ, Bool.not_true, Bool.not_false, decide_true, decide_false, Int.reduceSub, Int.reduceAdd, Int.reduceNeg, Bool.false_bne, Bool.bne_false, Bool.true_bne, Nat.le_refl, Nat.zero_le, Nat.reduceEqDiff, List.isEmpty_cons, List.isEmpty_nil, reduceCtorEq, List.zip_cons_cons, List.zip_nil_left, List.length_map, Nat.reduceBEq, Nat.reduceEqDiff, h, S_try2 h3, h2]
theorem one0 {k : Nat} {a b x : D} {r : List D} {es : En} (h : G_sought k [.fz a, .fz b] = .ok (.ow x) es) : G__law_one (k + 1) [.fz (.int 0), .fz (.lst (a :: b :: r))] = .ok (.ow x) [.fz (.int 0), .fz (.lst (a :: b :: r))] := by
  simp only [G__law_one, m__law_one, SIM, List.map_cons, List.map_nil, List.length_cons, List.length_nil, List.append_eq, List.nil_append, List.cons_append, List.replicate, Nat.reduceSub, Nat.reduceAdd, Nat.reduceLeDiff, Nat.reduceLT, List.getElem?_cons_zero, List.getElem?_cons_succ, List.set_cons_zero, List.set_cons_succ, Bool.not_true, Bool.not_false, decide_true, decide_false, Int.reduceSub, Int.reduceAdd, Int.reduceNeg, Bool.false_bne, Bool.bne_false, Bool.true_bne, Nat.le_refl, Nat.zero_le, Nat.reduceEqDiff, List.isEmpty_cons, List.isEmpty_nil, reduceCtorEq, List.zip_cons_cons, List.zip_nil_left, List.length_map, Nat.reduceBEq, Nat.reduceEqDiff, h, BEq.rfl]
theorem one0x {k : Nat} {a b : D} {r : List D} {c : Ex} {es : En} (h : G_sought k [.fz a, .fz b] = .exc c es) : G__law_one (k + 1) [.fz (.int 0), .fz (.lst (a :: b :: r))] = .exc c [.fz (.int 0), .fz (.lst (a :: b :: r))] := by
  simp only [G__law_one, m__law_one, SIM, List.map_cons, List.map_nil, List.length_cons, List.length_nil, List.append_eq, List.nil_append, List.cons_append, List.replicate, Nat.reduceSub, Nat.reduceAdd, Nat.reduceLeDiff, Nat.reduceLT, List.getElem?_cons_zero, List.getElem?_cons_succ, List.set_cons_zero, List.set_cons_succ, Bool.not_true, Bool.not_false, decide_true, decide_false, Int.reduceSub, Int.reduceAdd, Int.reduceNeg, Bool.false_bne, Bool.bne_false, Bool.true_bne, Nat.le_refl, Nat.zero_le, Nat.reduceEqDiff, List.isEmpty_cons, List.isEmpty_nil, reduceCtorEq, List.zip_cons_cons, List.zip_nil_left, List.length_map, Nat.reduceBEq, Nat.reduceEqDiff, h, BEq.rfl]
theorem one1 {k : Nat} {a b d x : D} {r : List D} {es : En} (h : G_replaced k [.fz a, .fz b, .fz d] = .ok (.fz x) es) : G__law_one (k + 1) [.fz (.int 1), .fz (.lst (a :: b :: d :: r))] = .ok (.fz x) [.fz (.int 1), .fz (.lst (a :: b :: d :: r))] := by
  have e : ((1 : Int) == 0) = false := rfl
  simp only [G__law_one, m__law_one, SIM, List.map_cons, List.map_nil, List.length_cons, List.length_nil, List.append_eq, List.nil_append, List.cons_append, List.replicate, Nat.reduceSub, Nat.reduceAdd, Nat.reduceLeDiff, Nat.reduceLT, List.getElem?_cons_zero, List.getElem?_cons_succ, List.set_cons_zero, List.set_cons_succ, Bool.not_true, Bool.not_false, decide_true, decide_false, Int.reduceSub, Int.reduceAdd, Int.reduceNeg, Bool.false_bne, Bool.bne_false, Bool.true_bne, Nat.le_refl, Nat.zero_le, Nat.reduceEqDiff, List.isEmpty_cons, List.isEmpty_nil, reduceCtorEq, List.zip_cons_cons, List.zip_nil_left, List.length_map, Nat.reduceBEq, Nat.reduceEqDiff, h, e]
theorem one1x {k : Nat} {a b d : D} {r : List D} {c : Ex} {es : En} (h : G_replaced k [.fz a, .fz b, .fz d] = .exc c es) : G__law_one (k + 1) [.fz (.int 1), .fz (.lst (a :: b :: d :: r))] = .exc c [.fz (.int 1), .fz (.lst (a :: b :: d :: r))] := by
  have e : ((1 : Int) == 0) = false := rfl
  simp only [G__law_one, m__law_one, SIM, List.map_cons, List.map_nil, List.length_cons, List.length_nil, List.append_eq, List.nil_append, List.cons_append, List.replicate, Nat.reduceSub, Nat.reduceAdd, Nat.reduceLeDiff, Nat.reduceLT, List.getElem?_cons_zero, List.getElem?_cons_succ, List.set_cons_zero, List.set_cons_succ, Bool.not_true, Bool.not_false, decide_true, decide_false, Int.reduceSub, Int.reduceAdd, Int.reduceNeg, Bool.false_bne, Bool.bne_false, Bool.true_bne, Nat.le_refl, Nat.zero_le, Nat.reduceEqDiff, List.isEmpty_cons, List.isEmpty_nil, reduceCtorEq, List.zip_cons_cons, List.zip_nil_left, List.length_map, Nat.reduceBEq, Nat.reduceEqDiff, h, e]
abbrev rfd (s : Str) : D := .tup [.str "refused", .str s]
def bads : List D := [.bl true, .non, .str "", .lst [.non], .dic [(Sum.inr "A", .int 1)]]
def odds : List D := [.str "***", .str "", .str "A", .int (-1), .int 61, .non, .bl true, .tup [.str "a"], .str "abcdefghijklm", .str "a*", .str "* "]
theorem bad_is {x : D} (h : x ∈ bads) : rdD 6 x = true ∧ isW x = false := by
  simp only [bads, List.mem_cons, List.not_mem_nil, or_false] at h
  rcases h with rfl | rfl | rfl | rfl | rfl <;> exact ⟨by decide +kernel, by decide +kernel⟩
theorem odd_is {x : D} (h : x ∈ odds) : stepR x = true ∧ stepOk x = false := by
  simp only [odds, List.mem_cons, List.not_mem_nil, or_false] at h
  rcases h with rfl | rfl | rfl | rfl | rfl | rfl | rfl | rfl | rfl | rfl | rfl <;> exact ⟨by decide +kernel, by decide +kernel⟩
theorem wrong_is {a b : List D} {x : D} (h : x ∈ odds) (ha : a.length ≤ 10) (hb : b.length ≤ 10) (h1 : ∀ s ∈ a, stepR s = true) (h2 : ∀ s ∈ b, stepR s = true) : askR (.tup (a ++ [x] ++ b)) = true ∧ askOk (.tup (a ++ [x] ++ b)) = false := by
  obtain ⟨o1, o2⟩ := odd_is h
  refine ⟨?_, ?_⟩
  · show (decide ((a ++ [x] ++ b).length ≤ 1000) && (a ++ [x] ++ b).all stepR) = true
    rw [decide_eq_true (by simp; omega), Bool.true_and, List.all_eq_true]
    intro s hs
    rcases List.mem_append.mp hs with z | z
    · rcases List.mem_append.mp z with y | y
      · exact h1 s y
      · rw [List.mem_singleton.mp y]; exact o1
    · exact h2 s z
  · show (decide ((a ++ [x] ++ b).length ≤ 6) && (a ++ [x] ++ b).all stepOk) = false
    have : (a ++ [x] ++ b).all stepOk = false := by
      rw [List.all_eq_false]
      exact ⟨x, by simp, by rw [o2]; simp⟩
    rw [this, Bool.and_false]
def Z30 : D := .lst (List.replicate 30 (.int 0))
def Z28 : D := .lst (List.replicate 28 (.int 0))
def l12 : D := .lst [.int 1, .int 2]
theorem told30 {n : Nat} (hn : 18 ≤ n) : G__law_told n [.fz (.int 1), .fz (.lst [l12, .tup [.str "*"], Z30])] = .ok (.fz (rfd "worth")) [.fz (.int 1), .fz (.lst [l12, .tup [.str "*"], Z30])] := by
  obtain ⟨k, rfl, hk⟩ := up1 (m := 17) hn
  obtain ⟨j, rfl, hj⟩ := up1 (m := 16) hk
  obtain ⟨h, _⟩ := replaced_all (n := j) (m := 1) (me := 1) (W := l12) (new := Z30) (ask := [.str "*"]) (by omega) (by decide +kernel) (by omega) (by decide +kernel) (by decide +kernel) (by decide +kernel) (by decide +kernel) (by omega) (by decide +kernel) (by decide +kernel)
  rw [if_neg (by decide +kernel)] at h
  exact told_exc (c := .worth) (by omega) (one1x h)
theorem told28 {n : Nat} (hn : 18 ≤ n) : ∃ d, G__law_told n [.fz (.int 1), .fz (.lst [l12, .tup [.str "*"], Z28])] = .ok (.fz (.tup [.str "found", d])) [.fz (.int 1), .fz (.lst [l12, .tup [.str "*"], Z28])] := by
  obtain ⟨k, rfl, hk⟩ := up1 (m := 17) hn
  obtain ⟨j, rfl, hj⟩ := up1 (m := 16) hk
  obtain ⟨h, _⟩ := replaced_all (n := j) (m := 1) (me := 1) (W := l12) (new := Z28) (ask := [.str "*"]) (by omega) (by decide +kernel) (by omega) (by decide +kernel) (by decide +kernel) (by decide +kernel) (by decide +kernel) (by omega) (by decide +kernel) (by decide +kernel)
  rw [if_pos (by decide +kernel)] at h
  exact ⟨_, told_fz (one1 h)⟩
theorem none60 {m : Nat} {W : D} (hw : okW m W = true) (hc : cntW W ≤ 60) : dueF m W [.int 60] = [] := by
  unfold dueF
  have : (rowsF m W).filter (fun r => fitsF [.int 60] r.1) = [] := by
    rw [List.filter_eq_nil_iff]
    intro r hr z
    obtain ⟨p, x⟩ := r
    have hl := rows_led hw hr
    have hf := led_flat hl
    have e : sE (.int 60) (.str "**") = false := rfl
    have e2 : sE (.int 60) (.str "*") = false := rfl
    simp only [fitsF, e, e2, Bool.false_eq_true, if_false, Bool.false_or, Bool.and_eq_true] at z
    obtain ⟨z1, z2, z3⟩ := z
    cases p with
    | nil => cases z1
    | cons s p =>
      cases p with
      | cons _ _ => cases z3
      | nil =>
        have hs := (sE_iff (a := .int 60) rfl (hf s List.mem_cons_self)).mp z2
        subst hs
        rcases led_cons hl with ⟨ds, i, c, rfl, e3, hi, hc2, _⟩ | ⟨ks, k, c, rfl, e3, _⟩
        · injection e3 with e4
          subst e4
          have := (List.getElem?_eq_some_iff.mp hc2).1
          have h2 := cnts_len ds
          have hc3 : 1 + cnts ds ≤ 60 := hc
          have : (60 : Int).toNat = 60 := rfl
          omega
        · cases e3
  rw [this]; rfl
theorem sought_told {n : Nat} (hn : 18 ≤ n) {W : D} (hw : okW 6 W = true) (hc : cntW W ≤ 60) {ask : List D} (ha : askR (.tup ask) = true) (hk : askOk (.tup ask) = true) : ∃ d, G__law_told n [.fz (.int 0), .fz (.lst [W, .tup ask])] = .ok (.fz (.tup [.str "found", d])) [.fz (.int 0), .fz (.lst [W, .tup ask])] := by
  obtain ⟨k, rfl, _⟩ := up1 (m := 17) hn
  obtain ⟨j, rfl, hj⟩ := up1 (n := k) (m := 16) (by omega)
  exact ⟨_, told_ow (one0 (sought_ok (n := j) (by omega) hw (Nat.le_refl _) hc ha hk))⟩
theorem two_ne (s : Str) (h : (s == s) = true) : neD (.lst [rfd s, rfd s]) (.lst [rfd s, rfd s]) = some (.fz (.bl false)) := by
  have e : eqO (rfd s) (rfd s) = some true := by simp [eqO, eqOs]
  unfold neD
  rw [if_pos (show depLe 60 _ = true from rfl)]
  simp [neO, eqO, eqOs]
theorem one_ne (s : Str) : neD (rfd s) (rfd s) = some (.fz (.bl false)) := by
  unfold neD
  rw [if_pos (show depLe 60 _ = true from rfl)]
  simp [neO, eqO, eqOs]
theorem mul2 (d : D) : mulD (.lst [d]) (.int 2) = some (.ow (.lst [d, d])) := D_mulL (k := 2) (by simp) (by omega)
theorem mul3 (d : D) : mulD (.lst [d]) (.int 3) = some (.ow (.lst [d, d, d])) := D_mulL (k := 3) (by simp) (by omega)
theorem mul30 : mulD (.lst [.int 0]) (.int 30) = some (.ow Z30) := D_mulL (k := 30) (by simp) (by omega)
theorem mul28 : mulD (.lst [.int 0]) (.int 28) = some (.ow Z28) := D_mulL (k := 28) (by simp) (by omega)
theorem mulT (d : D) {r : Int} (h0 : 0 ≤ r) (h1 : r ≤ 10) : ∃ l : List D, mulD (.tup [d]) (.int r) = some (.fz (.tup l)) ∧ l.length ≤ 10 ∧ ∀ s ∈ l, s = d := by
  refine ⟨(List.replicate r.toNat [d]).flatten, ?_, ?_, fun s hs => ?_⟩
  · unfold mulD
    simp only [List.length_cons, List.length_nil]
    rw [if_pos ⟨h0, by omega, by omega⟩]
  · rw [PyProof.Rows.lm_len_rep_flat]; simp; omega
  · obtain ⟨l, hl, hs'⟩ := List.mem_flatten.mp hs
    rw [(List.mem_replicate.mp hl).2] at hs'
    exact List.mem_singleton.mp hs'
theorem law_ok {n : Nat} (hn : 40 ≤ n) (ns : List Int) : G_law n [.fz (.scr ns)] = .ok (.fz (.bl true)) [.fz (.scr ns)] := by
  obtain ⟨k, rfl, hk⟩ := up1 hn
  have eB : gB 3 = 6760 := rfl
  obtain ⟨W, T1, hgood, ⟨⟨hW22, _⟩, hW55, hW6⟩, hT1⟩ := good_ok (n := k) (by omega) ns [] (by simp; omega)
  have hw : okW 6 W = true := okW_of hW22 (by omega)
  have hT1' : T1.length ≤ 20280 := by simp at hT1; omega
  obtain ⟨bad, T2, hp1, hbad, hT2⟩ := pick_ok (n := k) (by omega) ns T1 (by omega) bads (by simp [bads]) (X := .ow (.lst bads)) (.inr rfl)
  obtain ⟨r1, hd1, r1a, r1b⟩ := draw_ok (n := k) (by omega) ns T2 (by omega) 3 (by decide)
  obtain ⟨odd, T3, hp2, hodd, hT3⟩ := pick_ok (n := k) (by omega) ns (T2 ++ [.int 0]) (by simp; omega) odds (by simp [odds]) (X := .ow (.lst odds)) (.inr rfl)
  obtain ⟨r2, hd2, r2a, r2b⟩ := draw_ok (n := k) (by omega) ns T3 (by simp at hT3; omega) 3 (by decide)
  obtain ⟨l1, hm1, hl1, hs1⟩ := mulT (.str "*") r1a (by omega)
  obtain ⟨l2, hm2, hl2, hs2⟩ := mulT (.str "a") r2a (by omega)
  obtain ⟨w1, w2⟩ := wrong_is (a := l1) (b := l2) hodd hl1 hl2 (fun s hs => by rw [hs1 s hs]; decide +kernel) (fun s hs => by rw [hs2 s hs]; decide +kernel)
  generalize hwr : D.tup (l1 ++ [odd] ++ l2) = wrong at w1 w2
  have hwr' : D.tup (l1 ++ ([odd] ++ l2)) = wrong := by rw [← hwr, List.append_assoc]
  have t7 : mulD (.tup [.str "*"]) (.int 7) = some (.fz (.tup [.str "*", .str "*", .str "*", .str "*", .str "*", .str "*", .str "*"])) := rfl
  obtain ⟨ask, T4, hp3, hask, hT4⟩ := pick_ok (n := k) (by omega) ns (T3 ++ [.int 0]) (by simp at hT3 ⊢; omega) [wrong, wrong, wrong, .tup [.str "*", .str "*", .str "*", .str "*", .str "*", .str "*", .str "*"], .lst [.str "*"], .non, .str "*", .int 0] (by simp) (X := .ow (.lst [wrong, wrong, wrong, .tup [.str "*", .str "*", .str "*", .str "*", .str "*", .str "*", .str "*"], .lst [.str "*"], .non, .str "*", .int 0])) (.inr rfl)
  have hask' : askR ask = true ∧ askOk ask = false := by
    simp only [List.mem_cons, List.not_mem_nil, or_false] at hask
    rcases hask with rfl | rfl | rfl | rfl | rfl | rfl | rfl | rfl
    · exact ⟨w1, w2⟩
    · exact ⟨w1, w2⟩
    · exact ⟨w1, w2⟩
    all_goals exact ⟨by decide +kernel, by decide +kernel⟩
  obtain ⟨a1, a2⟩ := hask'
  obtain ⟨b1, b2⟩ := bad_is hbad
  obtain ⟨j, rfl, hj⟩ := up1 (n := k) (m := 38) (by omega)
  obtain ⟨i, rfl, hi⟩ := up1 (n := j) (m := 37) (by omega)
  have t1 := told_exc (k := i + 1) (c := .worth) (by omega) (one0x (k := i) (r := []) (sought_bad (n := i) (W := bad) (a := ask) (by omega) b1 b2))
  have t2 := told_exc (k := i + 1) (c := .worth) (by omega) (one1x (k := i) (r := []) (replaced_bad (n := i) (W := bad) (a := ask) (b := bad) (by omega) b1 b2))
  have t3 := told_exc (k := i + 1) (c := .ask) (by omega) (one0x (k := i) (r := []) (sought_ask (n := i) (W := W) (a := ask) (by omega) hw (Nat.le_refl _) (by omega) a1 a2))
  have t4 := told_exc (k := i + 1) (c := .ask) (by omega) (one1x (k := i) (r := []) (replaced_ask (n := i) (W := W) (a := ask) (b := bad) (by omega) hw (Nat.le_refl _) (by omega) a1 a2))
  have t5 := told_exc (k := i + 1) (c := .worth) (by omega) (one1x (k := i) (r := []) (replaced_new (n := i) (W := W) (a := .tup [.int 60]) (b := bad) (by omega) hw (Nat.le_refl _) (by omega) (by decide +kernel) (by decide +kernel) b1 b2))
  have t6 := told30 (n := i + 1 + 1) (by omega)
  obtain ⟨d28, t28⟩ := told28 (n := i + 1 + 1) (by omega)
  have t9 : G__law_told (i + 1 + 1) [.fz (.int 1), .fz (.lst [W, .tup [.int 60], .int 1])] = .ok (.fz (.tup [.str "found", W])) [.fz (.int 1), .fz (.lst [W, .tup [.int 60], .int 1])] := by
    have e : dueF 6 W [.int 60] = [] := none60 hw (by omega)
    obtain ⟨h, _⟩ := replaced_all (n := i) (m := 6) (me := 1) (W := W) (new := .int 1) (ask := [.int 60]) (by omega) hw (Nat.le_refl _) (by omega) (by decide +kernel) (by decide +kernel) (by decide +kernel) (by omega) (by decide +kernel) (by rw [e]; simp [outL]; omega)
    have e2 : replF 6 W [.int 60] (.int 1) = W := by unfold replF; rw [e]; rfl
    rw [e2, if_pos (isW_of hw (Nat.le_refl _) (by omega))] at h
    exact told_fz (one1 h)
  have q1 : ∀ e8, Q_law_1 (G__law_good (i + 1 + 1)) (G__law_pick (i + 1 + 1)) (G__law_draw (i + 1 + 1)) (G__law_told (i + 1 + 1)) [.fz (.scr ns), .ow (.lst T4), .fz W, .fz bad, .ow (.lst odds), .fz (.int r1), .fz wrong, .fz ask, e8, .no, .no] = .ok (.ow (.lst [.str "found", .str "found", .str "found"])) [.fz (.scr ns), .ow (.lst T4), .fz W, .fz bad, .ow (.lst odds), .fz (.int r1), .fz wrong, .fz ask, e8, .no, .no] := fun e8 => by
    have m6 : mulD (.tup [.str "**"]) (.int 6) = some (.fz (.tup [.str "**", .str "**", .str "**", .str "**", .str "**", .str "**"])) := rfl
    have key := lc_map (vs := [10]) (tgt := gtN 10) (me := dOp ixD (dCall [] 2 (G__law_told (i + 1 + 1)) (dCons (dC (.int 0)) (dCons (dLst (dCons (dVar 2) (dCons (dVar 10) dNil))) dNil))) (dC (.int 0))) (mi := dIt (dTup (dCons (dOp mulD (dTup (dCons (dC (.str "**")) dNil)) (dC (.int 6))) (dCons (dTup (dCons (dC (.int 0)) (dCons (dC (.str "abcdefghijkl")) (dCons (dC (.int 60)) (dCons (dC (.str "*")) (dCons (dC (.str "**")) (dCons (dC (.str "a")) dNil))))))) (dCons (dTup dNil) dNil))))) (fun _ => .str "found") (ds := [.tup [.str "**", .str "**", .str "**", .str "**", .str "**", .str "**"], .tup [.int 0, .str "abcdefghijkl", .int 60, .str "*", .str "**", .str "a"], .tup []])
      (e := [.fz (.scr ns), .ow (.lst T4), .fz W, .fz bad, .ow (.lst odds), .fz (.int r1), .fz wrong, .fz ask, e8, .no, .no]) (ei := [.fz (.scr ns), .ow (.lst T4), .fz W, .fz bad, .ow (.lst odds), .fz (.int r1), .fz wrong, .fz ask, e8, .no, .no]) (by simp only [SIM, List.map_cons, List.map_nil, List.length_cons, List.length_nil, List.append_eq, List.nil_append, List.cons_append, List.replicate, Nat.reduceSub, Nat.reduceAdd, Nat.reduceLeDiff, Nat.reduceLT, List.getElem?_cons_zero, List.getElem?_cons_succ, List.set_cons_zero, List.set_cons_succ, Bool.not_true, Bool.not_false, decide_true, decide_false, Int.reduceSub, Int.reduceAdd, Int.reduceNeg, Bool.false_bne, Bool.bne_false, Bool.true_bne, Nat.le_refl, Nat.zero_le, Nat.reduceEqDiff, List.isEmpty_cons, List.isEmpty_nil, reduceCtorEq, List.zip_cons_cons, List.zip_nil_left, List.length_map, Nat.reduceBEq, Nat.reduceEqDiff, m6]) (by simp) fun c hc => by
        have hc' : ∃ a, c = .tup a ∧ askR (.tup a) = true ∧ askOk (.tup a) = true := by
          simp only [List.mem_cons, List.not_mem_nil, or_false] at hc
          rcases hc with rfl | rfl | rfl <;> exact ⟨_, rfl, by decide +kernel, by decide +kernel⟩
        obtain ⟨a, rfl, h1, h2⟩ := hc'
        obtain ⟨d, hd⟩ := sought_told (n := i + 1 + 1) (by omega) hw (by omega) h1 h2
        refine ⟨[.fz (.scr ns), .ow (.lst T4), .fz W, .fz bad, .ow (.lst odds), .fz (.int r1), .fz wrong, .fz ask, e8, .no, .fz (.tup a)], [.fz (.scr ns), .ow (.lst T4), .fz W, .fz bad, .ow (.lst odds), .fz (.int r1), .fz wrong, .fz ask, e8, .no, .fz (.tup a)], rfl, ?_, rfl⟩
        simp only [SIM, List.map_cons, List.map_nil, List.length_cons, List.length_nil, List.append_eq, List.nil_append, List.cons_append, List.replicate, Nat.reduceSub, Nat.reduceAdd, Nat.reduceLeDiff, Nat.reduceLT, List.getElem?_cons_zero, List.getElem?_cons_succ, List.set_cons_zero, List.set_cons_succ, Bool.not_true, Bool.not_false, decide_true, decide_false, Int.reduceSub, Int.reduceAdd, Int.reduceNeg, Bool.false_bne, Bool.bne_false, Bool.true_bne, Nat.le_refl, Nat.zero_le, Nat.reduceEqDiff, List.isEmpty_cons, List.isEmpty_nil, reduceCtorEq, List.zip_cons_cons, List.zip_nil_left, List.length_map, Nat.reduceBEq, Nat.reduceEqDiff, hd]
    exact key
  have md : mergeD [] [((Sum.inr "A" : Key), D.int 1)] = [((Sum.inr "A" : Key), D.int 1)] := rfl
  have hb : D.lst [] = D.lst [] := rfl
  have add1 : addD (.tup l1) (.tup [odd]) = some (.fz (.tup (l1 ++ [odd]))) := D_addT (by simp; omega)
  have add2 : addD (.tup (l1 ++ [odd])) (.tup l2) = some (.fz wrong) := by rw [D_addT (by simp; omega), hwr]
  have n1 := two_ne "worth" (by simp)
  have n2 := two_ne "ask" (by simp)
  have n3 := one_ne "worth"
  have n4 : neD (.str "found") (.str "found") = some (.fz (.bl false)) := rfl
  have n5 : eqD (.lst [.str "found", .str "found", .str "found"]) (.lst [.str "found", .str "found", .str "found"]) = some (.fz (.bl true)) := rfl
  have n6 := found_eq hw (by omega)
  have hp1' := hp1
  have hp2' := hp2
  simp only [bads] at hp1
  simp only [odds] at hp2 q1
  simp only [rfd, exW, l12] at *
  simp only [G_law, m_law, SIM, List.map_cons, List.map_nil, List.length_cons, List.length_nil, List.append_eq, List.nil_append, List.cons_append, List.replicate, Nat.reduceSub, Nat.reduceAdd, Nat.reduceLeDiff, Nat.reduceLT, List.getElem?_cons_zero, List.getElem?_cons_succ, List.set_cons_zero, List.set_cons_succ, Bool.not_true, Bool.not_false, decide_true, decide_false, Int.reduceSub, Int.reduceAdd, Int.reduceNeg, Bool.false_bne, Bool.bne_false, Bool.true_bne, Nat.le_refl, Nat.zero_le, Nat.reduceEqDiff, List.isEmpty_cons, List.isEmpty_nil, reduceCtorEq, List.zip_cons_cons, List.zip_nil_left, List.length_map, Nat.reduceBEq, Nat.reduceEqDiff, hgood, md, hp1, hd1, hp2, hd2, hm1, hm2, add1, add2, t7, hp3, t1, t2, t3, t4, t5, t6, t28, t9, mul2, mul3, mul30, mul28, n1, n2, n3, n4, n5, n6, q1]
end K62
end S_K62b
section S_K62z
set_option maxHeartbeats 0
namespace K62
open PySem PySem.Spec PyProof.Rows L2 L3 LP
theorem facts {K : Fg} {h : Heap} {mg : Str → Option Value} (X : K.In h) (G : h.Ns mainGlobals mg) (c : SaysX fa fn (exB exs) K) : Nonempty (Fx K mg) := by
  have c0 := c.d
  obtain ⟨fd0, F0⟩ := c0.def_ 0 (d := d_is_whole) rfl
  obtain ⟨fd1, F1⟩ := c0.def_ 1 (d := d_is_word) rfl
  obtain ⟨fd2, F2⟩ := c0.def_ 2 (d := d_is_plain) rfl
  obtain ⟨fd3, F3⟩ := c0.def_ 3 (d := d_parts_of) rfl
  obtain ⟨fd4, F4⟩ := c0.def_ 4 (d := d_look_worth) rfl
  obtain ⟨fd5, F5⟩ := c0.def_ 5 (d := d_copied) rfl
  obtain ⟨fd6, F6⟩ := c0.def_ 6 (d := d_inside) rfl
  obtain ⟨fd7, F7⟩ := c0.def_ 7 (d := d_all_paths) rfl
  obtain ⟨fd8, F8⟩ := c0.def_ 8 (d := d_changed_at) rfl
  obtain ⟨fd9, F9⟩ := c0.def_ 9 (d := d_is_step) rfl
  obtain ⟨fd10, F10⟩ := c0.def_ 10 (d := d_look_ask) rfl
  obtain ⟨fd11, F11⟩ := c0.def_ 11 (d := d_fits) rfl
  obtain ⟨fd12, F12⟩ := c0.def_ 12 (d := d_asked) rfl
  obtain ⟨fd13, F13⟩ := c0.def_ 13 (d := d_sought) rfl
  obtain ⟨fd14, F14⟩ := c0.def_ 14 (d := d_replaced) rfl
  obtain ⟨fd15, F15⟩ := c0.def_ 15 (d := d__law_cell) rfl
  obtain ⟨fd16, F16⟩ := c0.def_ 16 (d := d__law_mix) rfl
  obtain ⟨fd17, F17⟩ := c0.def_ 17 (d := d__law_draw) rfl
  obtain ⟨fd18, F18⟩ := c0.def_ 18 (d := d__law_pick) rfl
  obtain ⟨fd19, F19⟩ := c0.def_ 19 (d := d__law_refusal) rfl
  obtain ⟨fd20, F20⟩ := c0.def_ 20 (d := d__law_word) rfl
  obtain ⟨fd21, F21⟩ := c0.def_ 21 (d := d__law_plain_one) rfl
  obtain ⟨fd22, F22⟩ := c0.def_ 22 (d := d__law_worth) rfl
  obtain ⟨fd23, F23⟩ := c0.def_ 23 (d := d__law_anew) rfl
  obtain ⟨fd24, F24⟩ := c0.def_ 24 (d := d__law_count) rfl
  obtain ⟨fd25, F25⟩ := c0.def_ 25 (d := d__law_good) rfl
  obtain ⟨fd26, F26⟩ := c0.def_ 26 (d := d__law_one) rfl
  obtain ⟨fd27, F27⟩ := c0.def_ 27 (d := d__law_told) rfl
  obtain ⟨fd28, F28⟩ := c0.def_ 28 (d := d_law) rfl
  exact ⟨{
    fd_is_whole := fd0,
    F_is_whole := F0,
    B_is_whole := F0.bindsN fun _ _ _ _ _ _ us hl => match us, hl with | [_, _, _], _ => rfl,
    g_is_whole := He.glo_ok X G (c0.fact 0 (f := .glo "is_whole") rfl),
    fd_is_word := fd1,
    F_is_word := F1,
    B_is_word := F1.bindsN fun _ _ _ _ _ _ us hl => match us, hl with | [_], _ => rfl,
    g_is_word := He.glo_ok X G (c0.fact 1 (f := .glo "is_word") rfl),
    fd_is_plain := fd2,
    F_is_plain := F2,
    B_is_plain := F2.bindsN fun _ _ _ _ _ _ us hl => match us, hl with | [_], _ => rfl,
    g_is_plain := He.glo_ok X G (c0.fact 2 (f := .glo "is_plain") rfl),
    fd_parts_of := fd3,
    F_parts_of := F3,
    B_parts_of := F3.bindsN fun _ _ _ _ _ _ us hl => match us, hl with | [_, _], _ => rfl,
    g_parts_of := He.glo_ok X G (c0.fact 3 (f := .glo "parts_of") rfl),
    fd_look_worth := fd4,
    F_look_worth := F4,
    B_look_worth := F4.bindsN fun _ _ _ _ _ _ us hl => match us, hl with | [_], _ => rfl,
    g_look_worth := He.glo_ok X G (c0.fact 4 (f := .glo "look_worth") rfl),
    fd_copied := fd5,
    F_copied := F5,
    B_copied := F5.bindsN fun _ _ _ _ _ _ us hl => match us, hl with | [_], _ => rfl,
    g_copied := He.glo_ok X G (c0.fact 5 (f := .glo "copied") rfl),
    fd_inside := fd6,
    F_inside := F6,
    B_inside := F6.bindsN fun _ _ _ _ _ _ us hl => match us, hl with | [_], _ => rfl,
    g_inside := He.glo_ok X G (c0.fact 6 (f := .glo "inside") rfl),
    fd_all_paths := fd7,
    F_all_paths := F7,
    B_all_paths := F7.bindsN fun _ _ _ _ _ _ us hl => match us, hl with | [_], _ => rfl,
    g_all_paths := He.glo_ok X G (c0.fact 7 (f := .glo "all_paths") rfl),
    fd_changed_at := fd8,
    F_changed_at := F8,
    B_changed_at := F8.bindsN fun _ _ _ _ _ _ us hl => match us, hl with | [_, _, _], _ => rfl,
    g_changed_at := He.glo_ok X G (c0.fact 8 (f := .glo "changed_at") rfl),
    fd_is_step := fd9,
    F_is_step := F9,
    B_is_step := F9.bindsN fun _ _ _ _ _ _ us hl => match us, hl with | [_], _ => rfl,
    g_is_step := He.glo_ok X G (c0.fact 9 (f := .glo "is_step") rfl),
    fd_look_ask := fd10,
    F_look_ask := F10,
    B_look_ask := F10.bindsN fun _ _ _ _ _ _ us hl => match us, hl with | [_], _ => rfl,
    g_look_ask := He.glo_ok X G (c0.fact 10 (f := .glo "look_ask") rfl),
    fd_fits := fd11,
    F_fits := F11,
    B_fits := F11.bindsN fun _ _ _ _ _ _ us hl => match us, hl with | [_, _], _ => rfl,
    g_fits := He.glo_ok X G (c0.fact 11 (f := .glo "fits") rfl),
    fd_asked := fd12,
    F_asked := F12,
    B_asked := F12.bindsN fun _ _ _ _ _ _ us hl => match us, hl with | [_, _], _ => rfl,
    g_asked := He.glo_ok X G (c0.fact 12 (f := .glo "asked") rfl),
    fd_sought := fd13,
    F_sought := F13,
    B_sought := F13.bindsN fun _ _ _ _ _ _ us hl => match us, hl with | [_, _], _ => rfl,
    g_sought := He.glo_ok X G (c0.fact 13 (f := .glo "sought") rfl),
    fd_replaced := fd14,
    F_replaced := F14,
    B_replaced := F14.bindsN fun _ _ _ _ _ _ us hl => match us, hl with | [_, _, _], _ => rfl,
    g_replaced := He.glo_ok X G (c0.fact 14 (f := .glo "replaced") rfl),
    fd__law_cell := fd15,
    F__law_cell := F15,
    B__law_cell := F15.bindsN fun _ _ _ _ _ _ us hl => match us, hl with | [_, _], _ => rfl,
    g__law_cell := He.glo_ok X G (c0.fact 15 (f := .glo "_law_cell") rfl),
    fd__law_mix := fd16,
    F__law_mix := F16,
    B__law_mix := F16.bindsN fun _ _ _ _ _ _ us hl => match us, hl with | [_, _], _ => rfl,
    g__law_mix := He.glo_ok X G (c0.fact 16 (f := .glo "_law_mix") rfl),
    fd__law_draw := fd17,
    F__law_draw := F17,
    B__law_draw := F17.bindsN fun _ _ _ _ _ _ us hl => match us, hl with | [_, _, _], _ => rfl,
    g__law_draw := He.glo_ok X G (c0.fact 17 (f := .glo "_law_draw") rfl),
    fd__law_pick := fd18,
    F__law_pick := F18,
    B__law_pick := F18.bindsN fun _ _ _ _ _ _ us hl => match us, hl with | [_, _, _], _ => rfl,
    g__law_pick := He.glo_ok X G (c0.fact 18 (f := .glo "_law_pick") rfl),
    fd__law_refusal := fd19,
    F__law_refusal := F19,
    B__law_refusal := F19.bindsN fun _ _ _ _ _ _ us hl => match us, hl with | [_], _ => rfl,
    g__law_refusal := He.glo_ok X G (c0.fact 19 (f := .glo "_law_refusal") rfl),
    fd__law_word := fd20,
    F__law_word := F20,
    B__law_word := F20.bindsN fun _ _ _ _ _ _ us hl => match us, hl with | [_, _], _ => rfl,
    g__law_word := He.glo_ok X G (c0.fact 20 (f := .glo "_law_word") rfl),
    fd__law_plain_one := fd21,
    F__law_plain_one := F21,
    B__law_plain_one := F21.bindsN fun _ _ _ _ _ _ us hl => match us, hl with | [_, _], _ => rfl,
    g__law_plain_one := He.glo_ok X G (c0.fact 21 (f := .glo "_law_plain_one") rfl),
    fd__law_worth := fd22,
    F__law_worth := F22,
    B__law_worth := F22.bindsN fun _ _ _ _ _ _ us hl => match us, hl with | [_, _, _, _, _], _ => rfl,
    g__law_worth := He.glo_ok X G (c0.fact 22 (f := .glo "_law_worth") rfl),
    fd__law_anew := fd23,
    F__law_anew := F23,
    B__law_anew := F23.bindsN fun _ _ _ _ _ _ us hl => match us, hl with | [_], _ => rfl,
    g__law_anew := He.glo_ok X G (c0.fact 23 (f := .glo "_law_anew") rfl),
    fd__law_count := fd24,
    F__law_count := F24,
    B__law_count := F24.bindsN fun _ _ _ _ _ _ us hl => match us, hl with | [_], _ => rfl,
    g__law_count := He.glo_ok X G (c0.fact 24 (f := .glo "_law_count") rfl),
    fd__law_good := fd25,
    F__law_good := F25,
    B__law_good := F25.bindsN fun _ _ _ _ _ _ us hl => match us, hl with | [_, _, _, _], _ => rfl,
    g__law_good := He.glo_ok X G (c0.fact 25 (f := .glo "_law_good") rfl),
    fd__law_one := fd26,
    F__law_one := F26,
    B__law_one := F26.bindsN fun _ _ _ _ _ _ us hl => match us, hl with | [_, _], _ => rfl,
    g__law_one := He.glo_ok X G (c0.fact 26 (f := .glo "_law_one") rfl),
    fd__law_told := fd27,
    F__law_told := F27,
    B__law_told := F27.bindsN fun _ _ _ _ _ _ us hl => match us, hl with | [_, _], _ => rfl,
    g__law_told := He.glo_ok X G (c0.fact 27 (f := .glo "_law_told") rfl),
    fd_law := fd28,
    F_law := F28,
    B_law := F28.bindsN fun _ _ _ _ _ _ us hl => match us, hl with | [_], _ => rfl,
    g_law := He.glo_ok X G (c0.fact 28 (f := .glo "law") rfl),
    g_DashError := He.glo_ok X G (c0.fact 29 (f := .glo "DashError") rfl),
    xf := (exB_ok c.e).1,
    tf := (exB_ok c.e).2,
    b_ValueError := He.free_ok X G (c0.fact 55 (f := .free "ValueError") rfl),
    b_all := He.free_ok X G (c0.fact 56 (f := .free "all") rfl),
    b_any := He.free_ok X G (c0.fact 57 (f := .free "any") rfl),
    b_bool := He.free_ok X G (c0.fact 58 (f := .free "bool") rfl),
    b_dict := He.free_ok X G (c0.fact 59 (f := .free "dict") rfl),
    b_int := He.free_ok X G (c0.fact 60 (f := .free "int") rfl),
    b_isinstance := He.free_ok X G (c0.fact 61 (f := .free "isinstance") rfl),
    b_len := He.free_ok X G (c0.fact 62 (f := .free "len") rfl),
    b_list := He.free_ok X G (c0.fact 63 (f := .free "list") rfl),
    b_max := He.free_ok X G (c0.fact 64 (f := .free "max") rfl),
    b_range := He.free_ok X G (c0.fact 65 (f := .free "range") rfl),
    b_str := He.free_ok X G (c0.fact 66 (f := .free "str") rfl),
    b_sum := He.free_ok X G (c0.fact 67 (f := .free "sum") rfl),
    b_tuple := He.free_ok X G (c0.fact 68 (f := .free "tuple") rfl),
    c_SMALL := He.str_ok X G (c0.fact 47 (f := .str "SMALL" "abcdefghijklmnopqrstuvwxyz") rfl),
    c_MOST_WORD := He.int_ok X G (c0.fact 48 (f := .int "MOST_WORD" 12) rfl),
    c_MOST_NUMBER := He.int_ok X G (c0.fact 49 (f := .int "MOST_NUMBER" 1000000) rfl),
    c_MOST_PARTS := He.int_ok X G (c0.fact 50 (f := .int "MOST_PARTS" 60) rfl),
    c_MOST_DEEP := He.int_ok X G (c0.fact 51 (f := .int "MOST_DEEP" 6) rfl),
    c_ONE := He.str_ok X G (c0.fact 52 (f := .str "ONE" "*") rfl),
    c_ANY := He.str_ok X G (c0.fact 53 (f := .str "ANY" "**") rfl),
    c_MOST_STEPS := He.int_ok X G (c0.fact 54 (f := .int "MOST_STEPS" 6) rfl),
    x_BadWorth := by
      obtain ⟨e1, e2, e3, e4⟩ := He.exc_ok (c0.fact 32 (f := .exc "BadWorth") rfl)
      exact ⟨e1, He.glo_ok X G (c0.fact 31 (f := .glo "BadWorth") rfl), e2, e3, e4⟩,
    x_BadText := by
      obtain ⟨e1, e2, e3, e4⟩ := He.exc_ok (c0.fact 34 (f := .exc "BadText") rfl)
      exact ⟨e1, He.glo_ok X G (c0.fact 33 (f := .glo "BadText") rfl), e2, e3, e4⟩,
    x_BadPath := by
      obtain ⟨e1, e2, e3, e4⟩ := He.exc_ok (c0.fact 36 (f := .exc "BadPath") rfl)
      exact ⟨e1, He.glo_ok X G (c0.fact 35 (f := .glo "BadPath") rfl), e2, e3, e4⟩,
    x_BadChoice := by
      obtain ⟨e1, e2, e3, e4⟩ := He.exc_ok (c0.fact 38 (f := .exc "BadChoice") rfl)
      exact ⟨e1, He.glo_ok X G (c0.fact 37 (f := .glo "BadChoice") rfl), e2, e3, e4⟩,
    x_TooMany := by
      obtain ⟨e1, e2, e3, e4⟩ := He.exc_ok (c0.fact 40 (f := .exc "TooMany") rfl)
      exact ⟨e1, He.glo_ok X G (c0.fact 39 (f := .glo "TooMany") rfl), e2, e3, e4⟩,
    x_BadDeeds := by
      obtain ⟨e1, e2, e3, e4⟩ := He.exc_ok (c0.fact 42 (f := .exc "BadDeeds") rfl)
      exact ⟨e1, He.glo_ok X G (c0.fact 41 (f := .glo "BadDeeds") rfl), e2, e3, e4⟩,
    x_NoName := by
      obtain ⟨e1, e2, e3, e4⟩ := He.exc_ok (c0.fact 44 (f := .exc "NoName") rfl)
      exact ⟨e1, He.glo_ok X G (c0.fact 43 (f := .glo "NoName") rfl), e2, e3, e4⟩,
    x_BadAsk := by
      obtain ⟨e1, e2, e3, e4⟩ := He.exc_ok (c0.fact 46 (f := .exc "BadAsk") rfl)
      exact ⟨e1, He.glo_ok X G (c0.fact 45 (f := .glo "BadAsk") rfl), e2, e3, e4⟩
  }⟩
/-- a law's end, where an exception may fly inside -/
theorem walk_X {l : PySem.W.OpenLaw} {n k : Nat} {q : Program} {loose : List Str} {XP : (Str → Option Value) → Heap → Prop} {YP : World → Heap → Prop} {d : DefRec} {x : Str}
    (hn : l.most = some n) (hn2 : n ≤ sizeLine) (hdf : d.params.defaults = []) (hr : Room k callerA)
    (F : ∀ (w : World) (mg : Str → Option Value) (fa : Addr) (h : Heap), YP w h → h.Ns mainGlobals mg → mg d.name = some (.ref fa) →
      ∃ (K : PySem.W.Frag) (fd : FuncData) (sp : Sp), K.In h ∧ (∀ (s : Shared) (u : Value), BindsTo s fd ⟨[u], []⟩ [(x, u)]) ∧
        (∀ (H : Hp) (a : Addr) (ns : List Int), ns.length ≤ n → Only H → SqL K H a (ns.map V.int) → sp [.ref a] H (fun v _ => v = .bl true) fun _ _ _ => False) ∧
        ∀ base : Heap, K.In base → base.Ns mainGlobals mg → FnOk l.prog w K mg base (L2.CX l.prog w) k fa fd [x] sp) :
    PySem.W.WalkO q loose XP YP l.row.toRowW d [] (fun f vs => PySem.call f vs) := by
  refine Att.attach_call hn hdf fun w s₀ s₁ mg mb fa o pm cd doc a vs ns G Y ho hd hcd hmg hobj hints hlen hg => ?_
  obtain ⟨K, fd, sp, KX, hb, hsp, hF⟩ := F w mg fa _ Y G.T.g hmg
  exact law_call KX G.T.g G.T.b G.T.builtins G.T.nolimit hg hobj hints (Nat.le_trans hlen hn2) hr hF hb (fun H hO hS => hsp H a ns hlen hO hS) fun H e s' z => by
    obtain ⟨_, _, _, _, _, _, _, _, _, _, _, _, h⟩ := z
    exact h
theorem at_script {P : Program} {w : World} {K : Fg} (H : Hp) (a : Addr) (ns : List Int) (hl : ns.length ≤ 63) (hS : SqL K H a (ns.map V.int)) : spD K (clsU K) [] 1 (G_law 45) [.ref a] H (fun v _ => v = .bl true) fun _ _ _ => False := by
  refine ⟨H, [.fz (.scr ns)], rfl, ⟨⟨⟨.ref a, rfl, a, rfl, hS⟩, trivial⟩, by simp [ownA, slotA], fun _ _ h => .inl h⟩, ?_, ?_⟩
  · intro i d h
    rcases i with _ | i <;> simp at h
  · rw [law_ok (by decide) ns]
    intro F' H' v _ hv
    exact hv
end K62
open PySem PySem.W PySem.Calls PyProof.Rows
theorem PySem.Challenge.cw_dashlines_k62_refused_asks_holds : PySem.Challenge.rw_dashlines_k62_refused_asks.Holds := by
  w_on; o_law
  refine HandSHeadRun.head_any (r := OpenLaw.row PySem.Challenge.rw_dashlines_k62_refused_asks) (q := view (OpenLaw.row PySem.Challenge.rw_dashlines_k62_refused_asks).prog [49]) (H := K62.hk) (ob := K62.ob) (M := 6000) (loose := K62.loose) (d := HandSHeadRun.topDef (OpenLaw.row PySem.Challenge.rw_dashlines_k62_refused_asks).prog 49) (kwd := []) K62.ob_eq
    (by kernel_rfl) (fun s => by kernel_rfl) K62.run (by kernel_rfl) (by kernel_rfl) (by kernel_rfl) (by rfl) (by first | assumption | decide +kernel) (by decide +kernel) ⟨rfl, rfl, rfl, rfl, rfl, by decide +kernel⟩ ?hw ?hc
  case hw => w_witness2
  case hc =>
    refine K62.walk_X (l := PySem.Challenge.rw_dashlines_k62_refused_asks) (n := 63) (k := 45) (x := "_law_script") rfl (by decide) (by kernel_rfl) ⟨rfl, by decide, by decide⟩ ?F
    intro w mg fa h Y G hmg0
    obtain ⟨K, KX, c⟩ := Y
    have hmg : mg ("law" : PySem.Str) = some (.ref fa) := by
      have e : (HandSHeadRun.topDef (OpenLaw.row PySem.Challenge.rw_dashlines_k62_refused_asks).prog 49).name = ("law" : PySem.Str) := by kernel_rfl
      rw [← e]
      exact hmg0
    obtain ⟨x⟩ := K62.facts KX G c
    have e := hmg.symm.trans x.g_law
    cases e
    have b := L2.FunD.bindsA (ps := ["_law_script"]) x.F_law fun _ _ _ _ _ _ us hl => match us, hl with | [_], _ => rfl
    exact ⟨K, x.fd_law, L3.spD K (L3.clsU K) [] 1 (K62.G_law 45), KX, fun s v => b s [v] rfl, fun H a ns hl _ hS => K62.at_script (P := (PySem.Challenge.rw_dashlines_k62_refused_asks).prog) (w := w) H a ns hl hS, fun base _ _ => K62.ok_law x 45⟩
end S_K62z
