import PyProof.Rows.All
import Wide.All
import OpenK.AllK
import Wide.FinOn
import HandS.ForMost
import HandS.ForExc
import HandS.Wide
import HandS.Flow
import HandS.CallSlots
import HandS.Defaults
import HandS.IsInst
import HandS.Deep
import HandS.RaiseMore
import HandS.More
import HandS.TupAny
import HandS.DictComp
import HandS.Finally
import HandS.Rev
import HandS.Text
import HandS.MakeKwOnly
import KE.OsGo
import KE.KStateDown
import HandS.Ends
import HandS.Words
import HandS.WordsExc
import HandS.Head0
import HandS.Head1
import HandS.Head2
import HandS.HeadEnd
import HandS.HeadHook1
import HandS.HeadHook2
import HandS.Keys
import PySem.Challenge.RW_dozehall_k01_numbers_put
set_option Elab.async false
set_option linter.all false
set_option maxRecDepth 100000
set_option maxHeartbeats 4000001
section
/-! Doz1: pure data, the store, the refinement judgements. -/
namespace Doz
open PySem L2
/-- pure data: tuples and frozen lists by value; loc n: the n-th mutable thing; sta a: a thing of the written part -/
inductive D where
  | non | bl (b : Bool) | int (i : Int) | str (x : Str) | tup (ds : List D) | lst (ds : List D) | loc (n : Nat) | sta (a : Addr) | ty (n : String)
inductive Cell where
  | lst (ds : List D) | dK (kds : List (Key × D)) | dT (kds : List (List Key × D)) | ins (C : Addr) (fs : List (Str × D)) | dead
structure Mem where
  cells : List Cell
  lk : List Nat := []
abbrev DEnv := List (Option D)
inductive Res (α : Type) where
  | ok (a : α) (μ : Mem) | err (C : Addr) (w : D) (μ : Mem) | bad
def Res.bind {α β : Type} (r : Res α) (k : α → Mem → Res β) : Res β := match r with
  | .ok a μ => k a μ
  | .err C w μ => .err C w μ
  | .bad => .bad
abbrev MX (α : Type) := DEnv → Mem → Res α
abbrev ME := MX D
inductive SRes where
  | nx (δ : DEnv) (μ : Mem) | rt (d : D) (μ : Mem) | bk (δ : DEnv) (μ : Mem) | ct (δ : DEnv) (μ : Mem) | err (C : Addr) (w : D) (δ : DEnv) (μ : Mem) | bad
abbrev MS := DEnv → Mem → SRes
/-! ### relations -/
/-- a tuple, a list that never changes -/
def PT (K : PySem.W.Frag) (H : Hp) (a : Addr) (xs : List V) : Prop := H a = some (.tup xs) ∨
    ∃ (o : Obj) (its : Array Value) (n : Nat), K.lookup a = some o ∧ o.cls = .type "tuple" ∧ o.data = .seq its n ∧ its.size ≤ sizeLine ∧ Vals xs its.toList
def StL (K : PySem.W.Frag) (a : Addr) (xs : List V) : Prop := ∃ (its : List Value) (n : Nat), K.lookup a = some { cls := .type "list", data := .seq its.toArray n } ∧ its.length ≤ sizeLine ∧ Vals xs its
def PL (K : PySem.W.Frag) (H : Hp) (a : Addr) (xs : List V) : Prop := (∃ o, H a = some (.frz o (.lst xs))) ∨ StL K a xs
/-- a list that can be read -/
def LsR (K : PySem.W.Frag) (H : Hp) (a : Addr) (xs : List V) : Prop := Rd H a (.lst xs) ∨ StL K a xs
theorem PT.sq {K : PySem.W.Frag} {H : Hp} {a : Addr} {xs : List V} (h : PT K H a xs) : SqT K H a xs := h.elim (fun h => .inl (.inl h)) .inr
theorem LsR.sq {K : PySem.W.Frag} {H : Hp} {a : Addr} {xs : List V} (h : LsR K H a xs) : SqL K H a xs := h.elim .inl fun ⟨its, n, h, hz, r⟩ => .inr ⟨_, its.toArray, n, h, rfl, rfl, rfl, by simpa using hz, by simpa using r⟩
theorem PL.ls {K : PySem.W.Frag} {H : Hp} {a : Addr} {xs : List V} (h : PL K H a xs) : LsR K H a xs := h.elim (fun h => .inl (.inr h)) .inr
mutual
def DV (K : PySem.W.Frag) (ρ : List Addr) (H : Hp) : D → V → Prop
  | .non, v => v = .non
  | .bl b, v => v = .bl b
  | .int i, v => v = .int i
  | .str x, v => v = .str x
  | .tup ds, v => ∃ a vs, v = .ref a ∧ PT K H a vs ∧ DVs K ρ H ds vs
  | .lst ds, v => ∃ a vs, v = .ref a ∧ PL K H a vs ∧ DVs K ρ H ds vs
  | .loc n, v => ∃ a, ρ[n]? = some a ∧ v = .ref a
  | .sta a, v => v = .ref a
  | .ty n, v => v = .ty n
def DVs (K : PySem.W.Frag) (ρ : List Addr) (H : Hp) : List D → List V → Prop
  | [], vs => vs = []
  | d :: ds, vs => ∃ v r, vs = v :: r ∧ DV K ρ H d v ∧ DVs K ρ H ds r
end
/-- what never changes is kept -/
structure Fz0 (H H' : Hp) : Prop where
  tups : ∀ b xs, H b = some (.tup xs) → H' b = some (.tup xs)
  frzs : ∀ b o u, H b = some (.frz o u) → H' b = some (.frz o u)
/-- and what is not ours is kept; what becomes ours is new -/
structure Fz (ρ ρ' : List Addr) (H H' : Hp) : Prop extends Fz0 H H' where
  fr : ∀ b, b ∈ ρ' → b ∉ ρ → H b = none
  keep : ∀ b o, b ∉ ρ → H b = some o → H' b = some o
  dom : ∀ b, H' b = none → H b = none
instance {ρ ρ' : List Addr} {H H' : Hp} : CoeOut (Fz ρ ρ' H H') (Fz0 H H') := ⟨Fz.toFz0⟩
theorem Fz0.refl (H : Hp) : Fz0 H H := ⟨fun _ _ h => h, fun _ _ _ h => h⟩
theorem Fz0.trans {H H1 H2 : Hp} (a : Fz0 H H1) (b : Fz0 H1 H2) : Fz0 H H2 := ⟨fun c xs h => b.tups c xs (a.tups c xs h), fun c o xs h => b.frzs c o xs (a.frzs c o xs h)⟩
theorem Fz0.new {H : Hp} {p : Addr} {o : HO} (h : H p = none) : Fz0 H (upd H p o) :=
  ⟨fun b xs e => by rw [upd_ne (ne_of_none e h)]; exact e, fun b ob xs e => by rw [upd_ne (ne_of_none e h)]; exact e⟩
theorem Fz0.mut {H : Hp} {p : Addr} {o u : HO} (h : H p = some u) (h1 : ∀ xs, u ≠ .tup xs) (h2 : ∀ ob w, u ≠ .frz ob w) : Fz0 H (upd H p o) :=
  ⟨fun b xs e => by rw [upd_ne (ne_of e h (Ne.symm (h1 xs)))]; exact e, fun b ob xs e => by rw [upd_ne (ne_of e h (Ne.symm (h2 ob xs)))]; exact e⟩
theorem upd_dom {H : Hp} {p b : Addr} {o : HO} (h : upd H p o b = none) : H b = none := by
  by_cases e : b = p
  · subst e; rw [upd_same] at h; cases h
  · rwa [upd_ne e] at h
theorem Fz.refl {ρ : List Addr} (H : Hp) : Fz ρ ρ H H := ⟨Fz0.refl H, fun _ h n => absurd h n, fun _ _ _ h => h, fun _ h => h⟩
theorem Fz.trans {ρ ρ1 ρ2 : List Addr} {H H1 H2 : Hp} (a : Fz ρ ρ1 H H1) (b : Fz ρ1 ρ2 H1 H2) : Fz ρ ρ2 H H2 :=
  ⟨a.toFz0.trans b.toFz0, fun c h n => by
    by_cases m : c ∈ ρ1
    · exact a.fr c m n
    · exact a.dom c (b.fr c h m), fun c o n h => by
    refine b.keep c o (fun m => ?_) (a.keep c o n h)
    exact (nomatch ((a.fr c m n).symm.trans h)), fun c h => a.dom c (b.dom c h)⟩
theorem Fz.new {ρ : List Addr} {H : Hp} {p : Addr} {o : HO} (h : H p = none) : Fz ρ ρ H (upd H p o) :=
  ⟨Fz0.new h, fun _ h n => absurd h n, fun b _ _ e => by rw [upd_ne (ne_of_none e h)]; exact e, fun _ => upd_dom⟩
theorem Fz.newA {ρ : List Addr} {H : Hp} {p : Addr} {o : HO} (h : H p = none) : Fz ρ (ρ ++ [p]) H (upd H p o) :=
  ⟨Fz0.new h, fun b hb n => by
    rcases List.mem_append.mp hb with hb | hb
    · exact absurd hb n
    · rw [List.mem_singleton.mp hb]; exact h, fun b _ _ e => by rw [upd_ne (ne_of_none e h)]; exact e, fun _ => upd_dom⟩
/-- a mutable thing of ours is written -/
theorem Fz.mut {ρ : List Addr} {H : Hp} {p : Addr} {o u : HO} {n : Nat} (hr : ρ[n]? = some p) (h : H p = some u) (h1 : ∀ xs, u ≠ .tup xs) (h2 : ∀ ob w, u ≠ .frz ob w) : Fz ρ ρ H (upd H p o) :=
  ⟨Fz0.mut h h1 h2, fun _ h n => absurd h n, fun b _ n e => by
    rw [upd_ne (fun z => n (by rw [z]; exact List.mem_of_getElem? hr))]; exact e, fun _ => upd_dom⟩
/-- a thing laid since is changed -/
theorem Fz.late {ρ ρ' : List Addr} {H H' : Hp} {p : Addr} {o : HO} (f : Fz ρ ρ' H H') (hp : H p = none) : Fz ρ ρ' H (upd H' p o) :=
  ⟨⟨fun b xs e => by rw [upd_ne (ne_of_none e hp)]; exact f.tups b xs e, fun b ob xs e => by rw [upd_ne (ne_of_none e hp)]; exact f.frzs b ob xs e⟩, f.fr,
    fun b ob n e => by rw [upd_ne (ne_of_none e hp)]; exact f.keep b ob n e, fun _ h => f.dom _ (upd_dom h)⟩
/-- a thing laid since becomes ours -/
theorem Fz.lateA {ρ ρ' : List Addr} {H H' : Hp} {p : Addr} (f : Fz ρ ρ' H H') (hp : H p = none) : Fz ρ (ρ' ++ [p]) H H' :=
  ⟨f.toFz0, fun b hb n => by
    rcases List.mem_append.mp hb with hb | hb
    · exact f.fr b hb n
    · rw [List.mem_singleton.mp hb]; exact hp, f.keep, f.dom⟩
theorem PT.mono {K : PySem.W.Frag} {H H' : Hp} {a : Addr} {xs : List V} (f : Fz0 H H') (h : PT K H a xs) : PT K H' a xs := h.elim (fun h => .inl (f.tups a xs h)) .inr
theorem PL.mono {K : PySem.W.Frag} {H H' : Hp} {a : Addr} {xs : List V} (f : Fz0 H H') (h : PL K H a xs) : PL K H' a xs := h.elim (fun ⟨o, h⟩ => .inl ⟨o, f.frzs a o _ h⟩) .inr
def Pre (ρ ρ' : List Addr) : Prop := ∀ (n : Nat) a, ρ[n]? = some a → ρ'[n]? = some a
theorem Pre.refl (ρ : List Addr) : Pre ρ ρ := fun _ _ h => h
theorem Pre.trans {a b c : List Addr} (x : Pre a b) (y : Pre b c) : Pre a c := fun n v h => y n v (x n v h)
theorem Pre.app (ρ l : List Addr) : Pre ρ (ρ ++ l) := fun n a h => by
  rw [List.getElem?_append_left (List.getElem?_eq_some_iff.mp h).1]; exact h
mutual
theorem DV.mono0 {K : PySem.W.Frag} {ρ ρ' : List Addr} {H H' : Hp} (p : Pre ρ ρ') (f : Fz0 H H') : ∀ (d : D) (v : V), DV K ρ H d v → DV K ρ' H' d v
  | .non, _, h => by simpa only [DV] using h
  | .bl _, _, h => by simpa only [DV] using h
  | .int _, _, h => by simpa only [DV] using h
  | .str _, _, h => by simpa only [DV] using h
  | .tup ds, _, h => by
    simp only [DV] at h ⊢
    obtain ⟨a, vs, e, h1, h2⟩ := h
    exact ⟨a, vs, e, h1.mono f, DVs.mono0 p f ds vs h2⟩
  | .lst ds, _, h => by
    simp only [DV] at h ⊢
    obtain ⟨a, vs, e, h1, h2⟩ := h
    exact ⟨a, vs, e, h1.mono f, DVs.mono0 p f ds vs h2⟩
  | .loc n, _, h => by
    simp only [DV] at h ⊢
    obtain ⟨a, h1, h2⟩ := h
    exact ⟨a, p n a h1, h2⟩
  | .sta _, _, h => by simpa only [DV] using h
  | .ty _, _, h => by simpa only [DV] using h
theorem DVs.mono0 {K : PySem.W.Frag} {ρ ρ' : List Addr} {H H' : Hp} (p : Pre ρ ρ') (f : Fz0 H H') : ∀ (ds : List D) (vs : List V), DVs K ρ H ds vs → DVs K ρ' H' ds vs
  | [], _, h => by simpa only [DVs] using h
  | d :: ds, _, h => by
    simp only [DVs] at h ⊢
    obtain ⟨v, r, e, h1, h2⟩ := h
    exact ⟨v, r, e, DV.mono0 p f d v h1, DVs.mono0 p f ds r h2⟩
end
theorem DV.mono {K : PySem.W.Frag} {ρ ρ' : List Addr} {H H' : Hp} (p : Pre ρ ρ') (f : Fz ρ ρ' H H') (d : D) (v : V) (h : DV K ρ H d v) : DV K ρ' H' d v := DV.mono0 p f.toFz0 d v h
theorem DVs.mono {K : PySem.W.Frag} {ρ ρ' : List Addr} {H H' : Hp} (p : Pre ρ ρ') (f : Fz ρ ρ' H H') (d : List D) (v : List V) (h : DVs K ρ H d v) : DVs K ρ' H' d v := DVs.mono0 p f.toFz0 d v h
abbrev KDs {κ : Type} (K : PySem.W.Frag) (ρ : List Addr) (H : Hp) : List (κ × D) → List (κ × V) → Prop := Paired fun p q => p.1 = q.1 ∧ DV K ρ H p.2 q.2
theorem KDs.mono0 {κ : Type} {K : PySem.W.Frag} {ρ ρ' : List Addr} {H H' : Hp} (p : Pre ρ ρ') (f : Fz0 H H') {a : List (κ × D)} {b : List (κ × V)} (h : KDs K ρ H a b) : KDs K ρ' H' a b :=
  Paired.mapP h fun _ _ z => ⟨z.1, DV.mono0 p f _ _ z.2⟩
theorem KDs.mono {κ : Type} {K : PySem.W.Frag} {ρ ρ' : List Addr} {H H' : Hp} (p : Pre ρ ρ') (f : Fz ρ ρ' H H') {a : List (κ × D)} {b : List (κ × V)} (h : KDs K ρ H a b) : KDs K ρ' H' a b := h.mono0 p f.toFz0
/-- plain, or locked while a loop walks it -/
def Lk (H : Hp) (a : Addr) (l : Bool) (u : HO) : Prop := if l = true then ∃ o, H a = some (.frz o u) else H a = some u
def CellR (K : PySem.W.Frag) (ρ : List Addr) (H : Hp) (l : Bool) (a : Addr) : Cell → Prop
  | .lst ds => ∃ vs, H a = some (.lst vs) ∧ DVs K ρ H ds vs
  | .dK kds => ∃ kvs, Lk H a l (.dK kvs) ∧ KDs K ρ H kds kvs
  | .dT kds => ∃ kvs, Lk H a l (.dT kvs) ∧ KDs K ρ H kds kvs
  | .ins C fs => ∃ dx vs, H a = some (.ins C dx vs) ∧ KDs K ρ H fs vs ∧ Cls K C ∧ (∀ p ∈ fs, NoAttr K C p.1) ∧ fs.length ≤ 1000
  | .dead => ∃ o, H a = some o ∧ ∀ fs, o ≠ .xd fs
def Mem.lkd (μ : Mem) (n : Nat) : Bool := μ.lk.contains n
structure Rel (K : PySem.W.Frag) (ρ : List Addr) (μ : Mem) (H : Hp) : Prop where
  len : ρ.length = μ.cells.length
  nd : ρ.Nodup
  cell : ∀ (n : Nat) a c, ρ[n]? = some a → μ.cells[n]? = some c → CellR K ρ H (μ.lkd n) a c
  lkb : ∀ n ∈ μ.lk, n < μ.cells.length
/-- a held exception: its slot, where it lies, its class, its own dict, what it tells -/
structure HX where
  i : Nat
  a : Addr
  C : Addr
  dd : Addr
  w : D
structure EnvR (K : PySem.W.Frag) (ρ : List Addr) (H : Hp) (hx : Option HX) (δ : DEnv) (σ : St) : Prop where
  len : δ.length = σ.length
  get : ∀ (i : Nat) d, δ[i]? = some (some d) → ∃ v, σ[i]? = some (some v) ∧ DV K ρ H d v
  exn : ∀ q, hx = some q → σ[q.i]? = some (some (.ref q.a)) ∧ q.dd ∉ ρ ∧ ∃ v, H q.dd = some (.xd [(("what" : Str), v)]) ∧ DV K ρ H q.w v
theorem EnvR.mono {K : PySem.W.Frag} {ρ ρ' : List Addr} {H H' : Hp} {hx : Option HX} {δ : DEnv} {σ : St} (p : Pre ρ ρ') (f : Fz ρ ρ' H H') (e : EnvR K ρ H hx δ σ) : EnvR K ρ' H' hx δ σ :=
  ⟨e.len, fun i d h => let ⟨v, h1, h2⟩ := e.get i d h; ⟨v, h1, h2.mono p f⟩, fun q h => by
    obtain ⟨h1, h2, v, h3, h4⟩ := e.exn q h
    exact ⟨h1, fun z => (nomatch (f.fr _ z h2).symm.trans h3), v, f.keep _ _ h2 h3, h4.mono p f⟩⟩
/-! ### refinement -/
abbrev TX (β : Type) := St → Hp → (β → Hp → Prop) → Prop
abbrev Rl (α β : Type) := List Addr → Hp → α → β → Prop
/-- relations that stay -/
def Stay {α β : Type} (R : Rl α β) : Prop := ∀ ρ ρ' H H' a b, Pre ρ ρ' → Fz ρ ρ' H H' → R ρ H a b → R ρ' H' a b
/-- what a raised exception must meet -/
def XOk (K : PySem.W.Frag) (ρ : List Addr) (H : Hp) (C : Addr) (w : D) (μ : Mem) (E : XK) : Prop :=
  ∀ ρ' H' dd v, Pre ρ ρ' → Fz ρ ρ' H H' → Rel K ρ' μ H' → H' dd = some (.xd [(("what" : Str), v)]) → DV K ρ' H' w v → E (.ref C) (some dd) H'
def Okr {α β : Type} (K : PySem.W.Frag) (R : Rl α β) (ρ : List Addr) (H : Hp) (r : Res α) (Q : β → Hp → Prop) (E : XK) : Prop := match r with
  | .ok a μ => ∀ ρ' H' b, Pre ρ ρ' → Fz ρ ρ' H H' → Rel K ρ' μ H' → R ρ' H' a b → Q b H'
  | .err C w μ => XOk K ρ H C w μ E
  | .bad => False
def Ref {α β : Type} (K : PySem.W.Frag) (hx : Option HX) (W : WX) (R : Rl α β) (t : TX β) (m : MX α) : Prop :=
  ∀ ρ μ δ σ H (Q : β → Hp → Prop), Rel K ρ μ H → EnvR K ρ H hx δ σ → Okr K R ρ H (m δ μ) Q (fun c d H' => W c d σ H') → t σ H Q
theorem XOk.mono {K : PySem.W.Frag} {ρ ρ1 : List Addr} {H H1 : Hp} {C : Addr} {w : D} {μ : Mem} {E : XK} (p : Pre ρ ρ1) (f : Fz ρ ρ1 H H1) (h : XOk K ρ H C w μ E) : XOk K ρ1 H1 C w μ E :=
  fun ρ' H' dd v p' f' r e dv => h ρ' H' dd v (p.trans p') (f.trans f') r e dv
theorem Okr.mono {α β : Type} {K : PySem.W.Frag} {R : Rl α β} {ρ ρ1 : List Addr} {H H1 : Hp} {r : Res α} {Q : β → Hp → Prop} {E : XK} (p : Pre ρ ρ1) (f : Fz ρ ρ1 H H1) (h : Okr K R ρ H r Q E) : Okr K R ρ1 H1 r Q E := by
  cases r with
  | ok a μ => exact fun ρ' H' b p' f' r rb => h ρ' H' b (p.trans p') (f.trans f') r rb
  | err C w μ => exact XOk.mono p f h
  | bad => exact h
def bindM {α γ : Type} (m : MX α) (mk : α → MX γ) : MX γ := fun δ μ => (m δ μ).bind fun a μ1 => mk a δ μ1
/-- one behind another -/
theorem Ref.bind {α β γ ζ : Type} {K : PySem.W.Frag} {hx : Option HX} {W : WX} {R : Rl α β} {R' : Rl γ ζ} {t : TX β} {m : MX α} {k : β → St → Hp → (ζ → Hp → Prop) → Prop} {mk : α → MX γ} (h : Ref K hx W R t m)
    (hk : ∀ a ρ μ δ σ H b (Q : ζ → Hp → Prop), Rel K ρ μ H → EnvR K ρ H hx δ σ → R ρ H a b → Okr K R' ρ H (mk a δ μ) Q (fun c d H' => W c d σ H') → k b σ H Q) :
    Ref K hx W R' (fun σ H Q => t σ H fun b H1 => k b σ H1 Q) (bindM m mk) := by
  intro ρ μ δ σ H Q rel env ok
  unfold bindM at ok
  refine h ρ μ δ σ H _ rel env ?_
  cases e : m δ μ with
  | ok a μ1 =>
    rw [e] at ok
    intro ρ' H' b p f rel' rb
    exact hk a ρ' μ1 δ σ H' b Q rel' (env.mono p f) rb (Okr.mono p f ok)
  | err C w μ1 => rw [e] at ok; exact ok
  | bad => rw [e] at ok; exact ok
theorem Okr.bind {α β γ ζ : Type} {K : PySem.W.Frag} {R : Rl α β} {R' : Rl γ ζ} {ρ : List Addr} {H : Hp} {r : Res α} {k : α → Mem → Res γ} {Q : ζ → Hp → Prop} {P : β → Hp → Prop} {E : XK} (h : Okr K R' ρ H (r.bind k) Q E)
    (hk : ∀ a μ1 ρ1 H1 b, Pre ρ ρ1 → Fz ρ ρ1 H H1 → Rel K ρ1 μ1 H1 → R ρ1 H1 a b → Okr K R' ρ1 H1 (k a μ1) Q E → P b H1) : Okr K R ρ H r P E := by
  cases r with
  | ok a μ1 => exact fun ρ1 H1 b p f rel rb => hk a μ1 ρ1 H1 b p f rel rb (Okr.mono p f h)
  | err C w μ1 => exact h
  | bad => exact h
/-- the answer at once -/
theorem Okr.now {α β : Type} {K : PySem.W.Frag} {R : Rl α β} {ρ : List Addr} {H : Hp} {a : α} {μ : Mem} {b : β} {Q : β → Hp → Prop} {E : XK} (h : Okr K R ρ H (.ok a μ) Q E) (r : Rel K ρ μ H) (rb : R ρ H a b) : Q b H :=
  h ρ H b (Pre.refl _) (Fz.refl _) r rb
theorem Okr.go {α β : Type} {K : PySem.W.Frag} {R : Rl α β} {ρ ρ' : List Addr} {H H' : Hp} {a : α} {μ : Mem} {b : β} {Q : β → Hp → Prop} {E : XK} (h : Okr K R ρ H (.ok a μ) Q E) (p : Pre ρ ρ') (f : Fz ρ ρ' H H') (r : Rel K ρ' μ H') (rb : R ρ' H' a b) : Q b H' :=
  h ρ' H' b p f r rb
/-! ### the store -/
section
variable {K : PySem.W.Frag} {ρ ρ' : List Addr} {μ : Mem} {H H' : Hp} {a p : Addr} {n : Nat} {c : Cell}
theorem CellR.at_ {l : Bool} (h : CellR K ρ H l a c) : ∃ o, H a = some o := by
  cases c with
  | lst ds => obtain ⟨vs, h, _⟩ := h; exact ⟨_, h⟩
  | dK kds =>
    obtain ⟨vs, h, _⟩ := h
    unfold Lk at h
    split at h
    · obtain ⟨o, h⟩ := h; exact ⟨_, h⟩
    · exact ⟨_, h⟩
  | dT kds =>
    obtain ⟨vs, h, _⟩ := h
    unfold Lk at h
    split at h
    · obtain ⟨o, h⟩ := h; exact ⟨_, h⟩
    · exact ⟨_, h⟩
  | ins C fs => obtain ⟨dx, vs, h, _⟩ := h; exact ⟨_, h⟩
  | dead => exact ⟨_, h.choose_spec.1⟩
/-- the same thing stands there, the rest is kept -/
theorem CellR.mono0 {l : Bool} (p : Pre ρ ρ') (f : Fz0 H H') (e : H' a = H a) (h : CellR K ρ H l a c) : CellR K ρ' H' l a c := by
  cases c with
  | lst ds => obtain ⟨vs, h, r⟩ := h; exact ⟨vs, e.trans h, r.mono0 p f⟩
  | dK kds =>
    obtain ⟨vs, h, r⟩ := h
    exact ⟨vs, by unfold Lk at h ⊢; rw [e]; exact h, r.mono0 p f⟩
  | dT kds =>
    obtain ⟨vs, h, r⟩ := h
    exact ⟨vs, by unfold Lk at h ⊢; rw [e]; exact h, r.mono0 p f⟩
  | ins C fs => obtain ⟨dx, vs, h, r, q⟩ := h; exact ⟨dx, vs, e.trans h, r.mono0 p f, q⟩
  | dead => obtain ⟨o, h, z⟩ := h; exact ⟨o, e.trans h, z⟩
theorem Rel.has (r : Rel K ρ μ H) (h : μ.cells[n]? = some c) : ∃ a, ρ[n]? = some a ∧ CellR K ρ H (μ.lkd n) a c := by
  have hl := (List.getElem?_eq_some_iff.mp h).1
  rw [← r.len] at hl
  exact ⟨ρ[n], List.getElem?_eq_getElem hl, r.cell n _ c (List.getElem?_eq_getElem hl) h⟩
theorem Rel.at_ (r : Rel K ρ μ H) (h : ρ[n]? = some a) : ∃ c, μ.cells[n]? = some c ∧ CellR K ρ H (μ.lkd n) a c := by
  have hl := (List.getElem?_eq_some_iff.mp h).1
  rw [r.len] at hl
  exact ⟨_, List.getElem?_eq_getElem hl, r.cell n a _ h (List.getElem?_eq_getElem hl)⟩
theorem Rel.ne_new (r : Rel K ρ μ H) (hn : H p = none) (h : ρ[n]? = some a) : a ≠ p := by
  obtain ⟨c, _, q⟩ := r.at_ h
  obtain ⟨o, e⟩ := q.at_
  exact ne_of_none e hn
/-- a thing that is not ours is laid -/
theorem Rel.alloc {o : HO} (r : Rel K ρ μ H) (hn : H p = none) : Rel K ρ μ (upd H p o) :=
  ⟨r.len, r.nd, fun n a c h1 h2 => (r.cell n a c h1 h2).mono0 (Pre.refl _) (Fz0.new hn) (upd_ne (r.ne_new hn h1)), r.lkb⟩
/-- a thing that is not ours is changed -/
theorem Rel.other {o : HO} (r : Rel K ρ μ H) (hp : p ∉ ρ) (f : Fz0 H (upd H p o)) : Rel K ρ μ (upd H p o) :=
  ⟨r.len, r.nd, fun n a c h1 h2 => (r.cell n a c h1 h2).mono0 (Pre.refl _) f (upd_ne fun z => hp (z ▸ List.mem_of_getElem? h1)), r.lkb⟩
theorem Rel.fresh (r : Rel K ρ μ H) (hn : H p = none) : p ∉ ρ := fun hm => by
  obtain ⟨n, hn'⟩ := List.getElem?_of_mem hm
  exact r.ne_new hn hn' rfl
def Mem.push (μ : Mem) (c : Cell) : Mem := { μ with cells := μ.cells ++ [c] }
def Mem.set (μ : Mem) (n : Nat) (c : Cell) : Mem := { μ with cells := μ.cells.set n c }
theorem Rel.unlk (r : Rel K ρ μ H) : μ.lkd μ.cells.length = false := by
  unfold Mem.lkd
  cases e : μ.lk.contains μ.cells.length with
  | false => rfl
  | true => exact absurd (r.lkb _ (List.contains_iff_mem.mp e)) (Nat.lt_irrefl _)
/-- a thing that stands there becomes ours -/
theorem Rel.adopt (r : Rel K ρ μ H) (hp : p ∉ ρ) (hc : CellR K (ρ ++ [p]) H false p c) : Rel K (ρ ++ [p]) (μ.push c) H := by
  refine ⟨by simp [Mem.push, r.len], ?_, fun n a c' h1 h2 => ?_, fun n hn => ?_⟩
  · rw [List.nodup_append]
    exact ⟨r.nd, by simp, fun x hx y hy => by
      have : y = p := by simpa using hy
      subst this
      exact fun z => hp (z ▸ hx)⟩
  · by_cases hlt : n < ρ.length
    · rw [List.getElem?_append_left hlt] at h1
      have h2' : μ.cells[n]? = some c' := by
        have : (μ.cells ++ [c])[n]? = some c' := h2
        rwa [List.getElem?_append_left (r.len ▸ hlt)] at this
      exact (r.cell n a c' h1 h2').mono0 (Pre.app _ _) (Fz0.refl _) rfl
    · have e : n = ρ.length := by
        have := (List.getElem?_eq_some_iff.mp h1).1
        simp at this
        omega
      subst e
      have ea : a = p := by simpa using h1.symm
      have ec : c' = c := by
        have : (μ.cells ++ [c])[ρ.length]? = some c' := h2
        rw [r.len] at this
        simpa using this.symm
      subst ea ec
      have z : (μ.push c').lkd ρ.length = false := by rw [r.len]; exact r.unlk
      rw [z]
      exact hc
  · have := r.lkb n hn
    simp only [Mem.push, List.length_append, List.length_singleton]
    omega
/-- a new mutable thing -/
theorem Rel.new {o : HO} (r : Rel K ρ μ H) (hn : H p = none) (hc : CellR K (ρ ++ [p]) (upd H p o) false p c) : Rel K (ρ ++ [p]) (μ.push c) (upd H p o) :=
  (r.alloc hn).adopt (r.fresh hn) hc
/-- a mutable thing is written -/
theorem Rel.write {o u : HO} (r : Rel K ρ μ H) (h : ρ[n]? = some a) (hu : H a = some u) (h1 : ∀ xs, u ≠ .tup xs) (h2 : ∀ ob w, u ≠ .frz ob w) (hc : CellR K ρ (upd H a o) (μ.lkd n) a c) : Rel K ρ (μ.set n c) (upd H a o) := by
  have f : Fz0 H (upd H a o) := Fz0.mut hu h1 h2
  refine ⟨by simp [Mem.set, r.len], r.nd, fun m b c' e1 e2 => ?_, fun m hm => by simpa [Mem.set] using r.lkb m hm⟩
  by_cases hm : m = n
  · subst hm
    rw [h] at e1
    have : a = b := Option.some.inj e1
    subst this
    have e2' : (μ.cells.set m c)[m]? = some c' := e2
    have hlt : m < μ.cells.length := r.len ▸ (List.getElem?_eq_some_iff.mp h).1
    rw [List.getElem?_set_self hlt] at e2'
    have : c = c' := Option.some.inj e2'
    subst this
    exact hc
  · have e2' : (μ.cells.set n c)[m]? = some c' := e2
    rw [List.getElem?_set_ne (Ne.symm hm)] at e2'
    have ne : b ≠ a := fun z => hm (by
      subst z
      obtain ⟨l1, e3⟩ := List.getElem?_eq_some_iff.mp e1
      obtain ⟨l2, e4⟩ := List.getElem?_eq_some_iff.mp h
      exact (List.getElem_inj r.nd).mp (e3.trans e4.symm))
    exact (r.cell m b c' e1 e2').mono0 (Pre.refl _) f (upd_ne ne)
theorem CellR.noxd {l : Bool} {fs : List (Str × V)} (h : CellR K ρ H l a c) : H a ≠ some (.xd fs) := fun z => by
  cases c with
  | lst ds => obtain ⟨vs, h, _⟩ := h; rw [h] at z; cases z
  | dK kds =>
    obtain ⟨vs, h, _⟩ := h
    unfold Lk at h
    split at h
    · obtain ⟨o, h⟩ := h; rw [h] at z; cases z
    · rw [h] at z; cases z
  | dT kds =>
    obtain ⟨vs, h, _⟩ := h
    unfold Lk at h
    split at h
    · obtain ⟨o, h⟩ := h; rw [h] at z; cases z
    · rw [h] at z; cases z
  | ins C gs => obtain ⟨dx, vs, h, _⟩ := h; rw [h] at z; cases z
  | dead => obtain ⟨o, h, k⟩ := h; rw [h] at z; exact k fs (Option.some.inj z)
theorem Rel.noxd {fs : List (Str × V)} (r : Rel K ρ μ H) (h : H p = some (.xd fs)) : p ∉ ρ := fun hm => by
  obtain ⟨n, hn'⟩ := List.getElem?_of_mem hm
  obtain ⟨c, _, q⟩ := r.at_ hn'
  exact q.noxd h
end
end Doz
end
section
/-! Doz2: expressions. -/
namespace Doz
open PySem L2
theorem stay_DV {K : PySem.W.Frag} : Stay (DV K) := fun _ _ _ _ a b p f h => DV.mono p f a b h
def RB : Rl Bool V := fun _ _ b v => v = V.bl b
def RT' : Rl Bool Bool := fun _ _ a b => a = b
theorem Ref.two {α1 β1 α2 β2 γ ζ : Type} {K : PySem.W.Frag} {hx : Option HX} {W : WX} {R1 : Rl α1 β1} {R2 : Rl α2 β2} {R' : Rl γ ζ} {t1 : TX β1} {t2 : TX β2} {m1 : MX α1} {m2 : MX α2} {k : β1 → β2 → St → Hp → (ζ → Hp → Prop) → Prop}
    {f : α1 → α2 → MX γ} (s1 : Stay R1) (h1 : Ref K hx W R1 t1 m1) (h2 : Ref K hx W R2 t2 m2)
    (hk : ∀ a1 a2 ρ μ δ σ H b1 b2 (Q : ζ → Hp → Prop), Rel K ρ μ H → EnvR K ρ H hx δ σ → R1 ρ H a1 b1 → R2 ρ H a2 b2 → Okr K R' ρ H (f a1 a2 δ μ) Q (fun c d H' => W c d σ H') → k b1 b2 σ H Q) :
    Ref K hx W R' (fun σ H Q => t1 σ H fun b1 H1 => t2 σ H1 fun b2 H2 => k b1 b2 σ H2 Q) (bindM m1 fun a1 => bindM m2 fun a2 => f a1 a2) := by
  intro ρ μ δ σ H Q rel env ok
  refine h1 ρ μ δ σ H _ rel env ?_
  unfold bindM at ok
  cases e : m1 δ μ with
  | err C w μ1 => rw [e] at ok; exact ok
  | bad => rw [e] at ok; exact ok
  | ok a1 μ1 =>
    rw [e] at ok
    intro ρ1 H1 b1 p1 f1 rel1 rb1
    refine h2 ρ1 μ1 δ σ H1 _ rel1 (env.mono p1 f1) ?_
    have ok1 : Okr K R' ρ H ((m2 δ μ1).bind fun a2 μ2 => f a1 a2 δ μ2) Q (fun c d H' => W c d σ H') := ok
    cases e2 : m2 δ μ1 with
    | err C w μ2 => rw [e2] at ok1; exact Okr.mono (r := Res.err C w μ2) p1 f1 ok1
    | bad => rw [e2] at ok1; exact ok1
    | ok a2 μ2 =>
      rw [e2] at ok1
      intro ρ2 H2 b2 p2 f2 rel2 rb2
      exact hk a1 a2 ρ2 μ2 δ σ H2 b1 b2 Q rel2 ((env.mono p1 f1).mono p2 f2) (s1 _ _ _ _ _ _ p2 f2 rb1) rb2 (Okr.mono (p1.trans p2) (f1.trans f2) ok1)
/-! ### judgements -/
structure RE (X : Cx) (hx : Option HX) (W : WX) (e : Expr) (m : ME) : Prop where
  ex : ∃ t : TE, PE X e t ∧ Ref X.K hx W (DV X.K) t m
structure RT (X : Cx) (hx : Option HX) (W : WX) (e : Expr) (m : MX Bool) : Prop where
  ex : ∃ t : TT, L2.PT X e t ∧ Ref X.K hx W RT' t m
structure RW (X : Cx) (hx : Option HX) (W : WX) (e : Expr) (m : MX Bool) : Prop where
  ex : ∃ t : TT, PW X e t ∧ Ref X.K hx W RT' t m
structure RA (X : Cx) (hx : Option HX) (W : WX) (es : List Expr) (m : MX (List D)) : Prop where
  ex : ∃ t : TA, PA X es t ∧ Ref X.K hx W (DVs X.K) t m
theorem RW.rt {X : Cx} {hx : Option HX} {W : WX} {e : Expr} {m : MX Bool} (h : RW X hx W e m) : RT X hx W e m := let ⟨t, p, r⟩ := h.ex; ⟨⟨t, p.pt, r⟩⟩
theorem stay_DVs {K : PySem.W.Frag} : Stay (DVs K) := fun _ _ _ _ a b p f h => DVs.mono p f a b h
/-! ### names, constants -/
def mvar (i : Nat) : ME := fun δ μ => match δ[i]? with
  | some (some d) => .ok d μ
  | _ => .bad
def mC (d : D) : ME := fun _ μ => .ok d μ
section
variable {X : Cx} {hx : Option HX} {W : WX} {pos : Pos}
theorem ref_var {K : PySem.W.Frag} (i : Nat) : Ref K hx W (DV K) (tVar i) (mvar i) := by
  intro ρ μ δ σ H Q rel env ok
  unfold mvar at ok
  split at ok
  · rename_i d e
    obtain ⟨v, e1, dv⟩ := env.get i d e
    exact ⟨v, e1, ok.now rel dv⟩
  · exact ok.elim
theorem re_var (i : Nat) {x : Str} (hN : X.N[i]? = some x := by rfl) (hv : Vis X.env.scope x := by first | exact Or.inl rfl | exact Or.inr (Or.inl rfl) | exact Or.inr (Or.inr rfl)) (hd : (x == ("__debug__" : Str)) = false := by decide)
    (hcd : (x == ("__classdict__" : Str)) = false := by decide) : RE X hx W (.Name x pos) (mvar i) := ⟨⟨_, pe_var hN hv hd hcd, ref_var i⟩⟩
theorem ref_c {K : PySem.W.Frag} {d : D} {v : V} (h : ∀ ρ H, DV K ρ H d v) : Ref K hx W (DV K) (tC v) (mC d) := fun ρ μ δ σ H Q rel env ok => Okr.now ok rel (h ρ H)
theorem re_int {i : Int} {j : Nat} : RE X hx W (.Constant (.int i) j pos) (mC (.int i)) := ⟨⟨_, pe_int, ref_c fun _ _ => by simp only [DV]⟩⟩
theorem re_bl {b : Bool} {j : Nat} : RE X hx W (.Constant (.bool b) j pos) (mC (.bl b)) := ⟨⟨_, pe_bl, ref_c fun _ _ => by simp only [DV]⟩⟩
theorem re_non {j : Nat} : RE X hx W (.Constant .none j pos) (mC .non) := ⟨⟨_, pe_non, ref_c fun _ _ => by simp only [DV]⟩⟩
theorem re_str {x : Str} {j : Nat} : RE X hx W (.Constant (.str x) j pos) (mC (.str x)) := ⟨⟨_, pe_str, ref_c fun _ _ => by simp only [DV]⟩⟩
/-- a module's constant -/
theorem re_glob {x : Str} {u : Value} {d : D} {v : V} (hm : X.mg x = some u) (r : RelV v u) (h : ∀ ρ H, DV X.K ρ H d v) (hg : Gl X x := by rfl) (hd : (x == ("__debug__" : Str)) = false := by decide) : RE X hx W (.Name x pos) (mC d) := ⟨⟨_, pe_glob hg hm r hd, ref_c h⟩⟩
theorem re_globR {x : Str} {a : Addr} (hm : X.mg x = some (.ref a)) (hg : Gl X x := by rfl) (hd : (x == ("__debug__" : Str)) = false := by decide) : RE X hx W (.Name x pos) (mC (.sta a)) :=
  re_glob (v := .ref a) hm rfl (fun _ _ => by simp only [DV]) hg hd
theorem re_globI {x : Str} {i : Int} (hm : ∃ t, X.mg x = some (.int i t)) (hg : Gl X x := by rfl) (hd : (x == ("__debug__" : Str)) = false := by decide) : RE X hx W (.Name x pos) (mC (.int i)) :=
  let ⟨t, hm⟩ := hm
  re_glob (v := .int i) hm ⟨t, rfl⟩ (fun _ _ => by simp only [DV]) hg hd
theorem re_globS {x z : Str} (hm : ∃ t, X.mg x = some (.str z t)) (hg : Gl X x := by rfl) (hd : (x == ("__debug__" : Str)) = false := by decide) : RE X hx W (.Name x pos) (mC (.str z)) :=
  let ⟨t, hm⟩ := hm
  re_glob (v := .str z) hm ⟨t, rfl⟩ (fun _ _ => by simp only [DV]) hg hd
/-- a built-in class as a value -/
theorem re_bltT {x : Str} {T : String} (hm : X.mg x = none) (hv : bootBuiltins x = some (.type T)) (hg : Gl X x := by rfl) (hn : x ≠ "__name__" := by decide) (hd : (x == ("__debug__" : Str)) = false := by decide) : RE X hx W (.Name x pos) (mC (.ty T)) :=
  ⟨⟨_, pe_bltn (v := .ty T) hg hm hv rfl hn hd, ref_c fun _ _ => by simp only [DV]⟩⟩
/-! ### operators -/
def OpM (K : PySem.W.Frag) (r : R2) (f : D → D → Mem → Res D) : Prop :=
  ∀ d e ρ μ H x y (Q : VK) (E : XK), Rel K ρ μ H → DV K ρ H d x → DV K ρ H e y → Okr K (DV K) ρ H (f d e μ) Q E → r x y H Q
def CmpM (K : PySem.W.Frag) (r : R2) (c : D → D → Mem → Res Bool) : Prop :=
  ∀ d e ρ μ H x y (Q : VK) (E : XK), Rel K ρ μ H → DV K ρ H d x → DV K ρ H e y → Okr K RB ρ H (c d e μ) Q E → r x y H Q
def mop (f : D → D → Mem → Res D) (a b : ME) : ME := bindM a fun x => bindM b fun y => fun _ μ => f x y μ
def mcmp (c : D → D → Mem → Res Bool) (a b : ME) : MX Bool := bindM a fun x => bindM b fun y => fun _ μ => c x y μ
def mbl (m : MX Bool) : ME := bindM m fun b => fun _ μ => .ok (.bl b) μ
variable {a b c : Expr} {ma mb mc : ME}
theorem re_op {op : Operator} {r : R2} {f : D → D → Mem → Res D} (ho : OpR X (binaryOp op) r) (om : OpM X.K r f) (ha : RE X hx W a ma) (hb : RE X hx W b mb) : RE X hx W (.BinOp a op b pos) (mop f ma mb) := by
  obtain ⟨ta, pa, ra⟩ := ha.ex
  obtain ⟨tb, pb, rb⟩ := hb.ex
  exact ⟨⟨_, pe_op ho pa pb, Ref.two stay_DV ra rb fun d e ρ μ δ σ H x y Q rel env dx dy ok => om d e ρ μ H x y Q _ rel dx dy ok⟩⟩
theorem okr_bl {K : PySem.W.Frag} {ρ : List Addr} {H : Hp} {r : Res Bool} {Q : VK} {E : XK} (h : Okr K (DV K) ρ H (r.bind fun b μ => .ok (.bl b) μ) Q E) : Okr K RB ρ H r Q E := by
  cases r with
  | ok b μ => exact fun ρ' H' v p f rel rb => h ρ' H' v p f rel (by simpa only [DV, RB] using rb)
  | err C w μ => exact h
  | bad => exact h
theorem okr_tt {K : PySem.W.Frag} {ρ : List Addr} {H : Hp} {r : Res Bool} {Q : Bool → Hp → Prop} {E : XK} (h : Okr K RT' ρ H r Q E) : Okr K RB ρ H r (fun x H' => ∃ k, x = .bl k ∧ Q k H') E := by
  cases r with
  | ok b μ => exact fun ρ' H' v p f rel rb => ⟨b, rb, h ρ' H' b p f rel rfl⟩
  | err C w μ => exact h
  | bad => exact h
/-- comparisons: as a value, as a test -/
theorem re_cmp {op : CmpOp} {r : R2} {c : D → D → Mem → Res Bool} (ho : OpR X (compareOp op) r) (om : CmpM X.K r c) (ha : RE X hx W a ma) (hb : RE X hx W b mb) (hm : behindInMarks op b = false := by first | exact nomark _ | rfl) :
    RE X hx W (.Compare a [op] [b] pos) (mbl (mcmp c ma mb)) := by
  obtain ⟨ta, pa, ra⟩ := ha.ex
  obtain ⟨tb, pb, rb⟩ := hb.ex
  refine ⟨⟨_, pe_cmpR ho pa pb hm, ?_⟩⟩
  have h := Ref.two (R' := DV X.K) (f := fun x y => fun _ μ => (c x y μ).bind fun b μ => .ok (D.bl b) μ) (k := fun x y _ H Q => r x y H Q) stay_DV ra rb fun d e ρ μ δ σ H x y Q rel env dx dy ok => om d e ρ μ H x y Q _ rel dx dy (okr_bl ok)
  intro ρ μ δ σ H Q rel env ok
  refine h ρ μ δ σ H Q rel env ?_
  unfold mbl mcmp bindM at ok
  unfold bindM
  revert ok
  cases ma δ μ with
  | err C w μ1 => exact id
  | bad => exact id
  | ok x μ1 =>
    show Okr _ _ _ _ (((mb δ μ1).bind fun y μ2 => c x y μ2).bind _) _ _ → Okr _ _ _ _ ((mb δ μ1).bind _) _ _
    cases mb δ μ1 with
    | err C w μ2 => exact id
    | bad => exact id
    | ok y μ2 => exact id
theorem rt_cmp {op : CmpOp} {r : R2} {c : D → D → Mem → Res Bool} (ho : OpR X (compareOp op) r) (om : CmpM X.K r c) (ha : RE X hx W a ma) (hb : RE X hx W b mb) (hm : behindInMarks op b = false := by first | exact nomark _ | rfl) :
    RT X hx W (.Compare a [op] [b] pos) (mcmp c ma mb) := by
  obtain ⟨ta, pa, ra⟩ := ha.ex
  obtain ⟨tb, pb, rb⟩ := hb.ex
  exact ⟨⟨_, pt_cmpR ho pa pb hm, Ref.two stay_DV ra rb fun d e ρ μ δ σ H x y Q rel env dx dy ok => om d e ρ μ H x y _ _ rel dx dy (okr_tt ok)⟩⟩
/-! ### tests -/
/-- an expression whose value is a bool, as a test -/
def masB (m : ME) : MX Bool := bindM m fun d => fun _ μ => match d with
  | .bl b => .ok b μ
  | _ => .bad
theorem rt_val {e : Expr} {m : ME} (h : RE X hx W e m) (he : ∀ whole, isTrue e X.env whole = (do let v ← whole; standAt e.pos; holding [v] (truthy v)) := by intro _; rfl) : RT X hx W e (masB m) := by
  obtain ⟨t, p, r⟩ := h.ex
  refine ⟨⟨_, pt_val p he, fun ρ0 μ0 δ σ H0 Q rel0 env0 ok0 => r ρ0 μ0 δ σ H0 _ rel0 env0 (Okr.bind ok0 fun d μ ρ H v pr fz rel dv ok => ?_)⟩⟩
  cases d with
  | bl b =>
    have : v = V.bl b := by simpa only [DV] using dv
    exact ⟨b, this, ok.now rel rfl⟩
  | _ => exact ok.elim
def mand (a b : MX Bool) : MX Bool := bindM a fun x => if x = true then b else fun _ μ => .ok false μ
def mor (a b : MX Bool) : MX Bool := bindM a fun x => if x = true then fun _ μ => .ok true μ else b
def mnot (a : MX Bool) : MX Bool := bindM a fun x => fun _ μ => .ok (!x) μ
variable {rest : List Expr} {pa pb : MX Bool}
theorem rw_and1 (ha : RT X hx W a pa) : RW X hx W (.BoolOp .And [a] pos) pa := let ⟨t, p, r⟩ := ha.ex; ⟨⟨t, pw_and1 p, r⟩⟩
theorem rw_or1 (ha : RT X hx W a pa) : RW X hx W (.BoolOp .Or [a] pos) pa := let ⟨t, p, r⟩ := ha.ex; ⟨⟨t, pw_or1 p, r⟩⟩
theorem ref_and {K : PySem.W.Frag} {ta tb : TT} (ra : Ref K hx W RT' ta pa) (rb : Ref K hx W RT' tb pb) : Ref K hx W RT' (tAnd ta tb) (mand pa pb) :=
  fun ρ0 μ0 δ σ H0 Q rel0 env0 ok0 => ra ρ0 μ0 δ σ H0 _ rel0 env0 (Okr.bind ok0 fun x μ ρ H y pr fz rel e ok => by
    have env := env0.mono pr fz
    have e' : x = y := e
    subst e'
    cases x with
    | true => exact iteT (rb ρ μ δ σ H Q rel env ok)
    | false => exact iteF (Okr.now (b := false) ok rel rfl))
theorem ref_or {K : PySem.W.Frag} {ta tb : TT} (ra : Ref K hx W RT' ta pa) (rb : Ref K hx W RT' tb pb) : Ref K hx W RT' (tOr ta tb) (mor pa pb) :=
  fun ρ0 μ0 δ σ H0 Q rel0 env0 ok0 => ra ρ0 μ0 δ σ H0 _ rel0 env0 (Okr.bind ok0 fun x μ ρ H y pr fz rel e ok => by
    have env := env0.mono pr fz
    have e' : x = y := e
    subst e'
    cases x with
    | true => exact iteT (Okr.now (b := true) ok rel rfl)
    | false => exact iteF (rb ρ μ δ σ H Q rel env ok))
theorem rw_and (ha : RT X hx W a pa) (hb : RW X hx W (.BoolOp .And (b :: rest) pos) pb) : RW X hx W (.BoolOp .And (a :: b :: rest) pos) (mand pa pb) := by
  obtain ⟨ta, p, ra⟩ := ha.ex
  obtain ⟨tb, q, rb⟩ := hb.ex
  exact ⟨⟨_, pw_and p q, ref_and ra rb⟩⟩
theorem rw_or (ha : RT X hx W a pa) (hb : RW X hx W (.BoolOp .Or (b :: rest) pos) pb) : RW X hx W (.BoolOp .Or (a :: b :: rest) pos) (mor pa pb) := by
  obtain ⟨ta, p, ra⟩ := ha.ex
  obtain ⟨tb, q, rb⟩ := hb.ex
  exact ⟨⟨_, pw_or p q, ref_or ra rb⟩⟩
theorem rt_not (ha : RT X hx W a pa) : RT X hx W (.UnaryOp .Not a pos) (mnot pa) := by
  obtain ⟨ta, p, ra⟩ := ha.ex
  refine ⟨⟨_, pt_not p, fun ρ0 μ0 δ σ H0 Q rel0 env0 ok0 => ra ρ0 μ0 δ σ H0 _ rel0 env0 (Okr.bind ok0 fun x μ ρ H y pr fz rel e ok => ?_)⟩⟩
  have env := env0.mono pr fz
  have e' : x = y := e
  subst e'
  exact Okr.now (b := !x) ok rel rfl
/-- a test's bool as a value (and, or, not, of bools) -/
theorem re_one {op : BoolOp} (h : RE X hx W a ma) : RE X hx W (.BoolOp op [a] pos) ma := let ⟨t, p, r⟩ := h.ex; ⟨⟨t, pe_one p, r⟩⟩
def mandV (a b : ME) : ME := bindM a fun x => match x with
  | .bl true => b
  | .bl false => fun _ μ => .ok (.bl false) μ
  | _ => fun _ _ => .bad
def morV (a b : ME) : ME := bindM a fun x => match x with
  | .bl true => fun _ μ => .ok (.bl true) μ
  | .bl false => b
  | _ => fun _ _ => .bad
def mnotV (a : ME) : ME := bindM a fun x => match x with
  | .bl c => fun _ μ => .ok (.bl (!c)) μ
  | _ => fun _ _ => .bad
theorem re_and (ha : RE X hx W a ma) (hb : RE X hx W (.BoolOp .And (b :: rest) pos) mb) : RE X hx W (.BoolOp .And (a :: b :: rest) pos) (mandV ma mb) := by
  obtain ⟨ta, p, ra⟩ := ha.ex
  obtain ⟨tb, q, rb⟩ := hb.ex
  refine ⟨⟨_, pe_and p q, fun ρ0 μ0 δ σ H0 Q rel0 env0 ok0 => ra ρ0 μ0 δ σ H0 _ rel0 env0 (Okr.bind ok0 fun x μ ρ H y pr fz rel e ok => ?_)⟩⟩
  have env := env0.mono pr fz
  cases x with
  | bl k =>
    have e' : y = V.bl k := by simpa only [DV] using e
    refine ⟨k, e', ?_⟩
    cases k with
    | true => exact iteT (rb ρ μ δ σ H Q rel env ok)
    | false => exact iteF (Okr.now (b := V.bl false) ok rel (by simp only [DV]))
  | _ => exact ok.elim
theorem re_or (ha : RE X hx W a ma) (hb : RE X hx W (.BoolOp .Or (b :: rest) pos) mb) : RE X hx W (.BoolOp .Or (a :: b :: rest) pos) (morV ma mb) := by
  obtain ⟨ta, p, ra⟩ := ha.ex
  obtain ⟨tb, q, rb⟩ := hb.ex
  refine ⟨⟨_, pe_or p q, fun ρ0 μ0 δ σ H0 Q rel0 env0 ok0 => ra ρ0 μ0 δ σ H0 _ rel0 env0 (Okr.bind ok0 fun x μ ρ H y pr fz rel e ok => ?_)⟩⟩
  have env := env0.mono pr fz
  cases x with
  | bl k =>
    have e' : y = V.bl k := by simpa only [DV] using e
    refine ⟨k, e', ?_⟩
    cases k with
    | true => exact iteT (Okr.now (b := V.bl true) ok rel (by simp only [DV]))
    | false => exact iteF (rb ρ μ δ σ H Q rel env ok)
  | _ => exact ok.elim
theorem re_not (ha : RE X hx W a ma) : RE X hx W (.UnaryOp .Not a pos) (mnotV ma) := by
  obtain ⟨ta, p, ra⟩ := ha.ex
  refine ⟨⟨_, pe_not p, fun ρ0 μ0 δ σ H0 Q rel0 env0 ok0 => ra ρ0 μ0 δ σ H0 _ rel0 env0 (Okr.bind ok0 fun x μ ρ H y pr fz rel e ok => ?_)⟩⟩
  have env := env0.mono pr fz
  cases x with
  | bl k =>
    have e' : y = V.bl k := by simpa only [DV] using e
    exact ⟨k, e', Okr.now (b := V.bl !k) ok rel (by simp only [DV])⟩
  | _ => exact ok.elim
def mif (t : MX Bool) (a b : ME) : ME := bindM t fun x => if x = true then a else b
theorem re_if {t : Expr} {mt : MX Bool} (ht : RT X hx W t mt) (ha : RE X hx W a ma) (hb : RE X hx W b mb) : RE X hx W (.IfExp t a b pos) (mif mt ma mb) := by
  obtain ⟨tt, p0, r0⟩ := ht.ex
  obtain ⟨ta, p, ra⟩ := ha.ex
  obtain ⟨tb, q, rb⟩ := hb.ex
  refine ⟨⟨_, pe_ifExp p0 p q, fun ρ0 μ0 δ σ H0 Q rel0 env0 ok0 => r0 ρ0 μ0 δ σ H0 _ rel0 env0 (Okr.bind ok0 fun x μ ρ H y pr fz rel e ok => ?_)⟩⟩
  have env := env0.mono pr fz
  have e' : x = y := e
  subst e'
  cases x with
  | true => exact iteT (ra ρ μ δ σ H Q rel env ok)
  | false => exact iteF (rb ρ μ δ σ H Q rel env ok)
/-! ### arguments -/
def mnil : MX (List D) := fun _ μ => .ok [] μ
def mcons (a : ME) (r : MX (List D)) : MX (List D) := bindM a fun x => bindM r fun xs => fun _ μ => .ok (x :: xs) μ
theorem ra_nil : RA X hx W [] mnil := ⟨⟨_, pa_nil, fun ρ μ δ σ H Q rel env ok => Okr.now (b := ([] : List V)) ok rel (by simp only [DVs])⟩⟩
theorem ra_cons {es : List Expr} {mr : MX (List D)} (ha : RE X hx W a ma) (hr : RA X hx W es mr) (hs : starEach (a :: es) X.env = (false, eval a X.env) :: starEach es X.env := by rfl) : RA X hx W (a :: es) (mcons ma mr) := by
  obtain ⟨ta, p, ra⟩ := ha.ex
  obtain ⟨tr, q, rr⟩ := hr.ex
  exact ⟨⟨_, pa_cons p q hs, Ref.two stay_DV ra rr fun d ds ρ μ δ σ H x xs Q rel env dx dxs ok => Okr.now (b := x :: xs) ok rel (by simp only [DVs]; exact ⟨x, xs, rfl, dx, dxs⟩)⟩⟩
end
end Doz
end
section
/-! Doz3: operators, sequences, dicts. -/
namespace Doz
open PySem L2
/-! ### lists of data -/
theorem DVs.length {K : PySem.W.Frag} {ρ : List Addr} {H : Hp} : ∀ {ds : List D} {vs : List V}, DVs K ρ H ds vs → ds.length = vs.length
  | [], vs, h => by simp only [DVs] at h; subst h; rfl
  | d :: ds, vs, h => by
    simp only [DVs] at h
    obtain ⟨v, r, rfl, _, h⟩ := h
    simp [DVs.length h]
theorem DVs.nil {K : PySem.W.Frag} {ρ : List Addr} {H : Hp} : DVs K ρ H [] [] := by simp only [DVs]
theorem DVs.cons {K : PySem.W.Frag} {ρ : List Addr} {H : Hp} {d : D} {v : V} {ds : List D} {vs : List V} (h : DV K ρ H d v) (hs : DVs K ρ H ds vs) : DVs K ρ H (d :: ds) (v :: vs) := by
  simp only [DVs]; exact ⟨v, vs, rfl, h, hs⟩
theorem DVs.app {K : PySem.W.Frag} {ρ : List Addr} {H : Hp} : ∀ {ds es : List D} {vs us : List V}, DVs K ρ H ds vs → DVs K ρ H es us → DVs K ρ H (ds ++ es) (vs ++ us)
  | [], es, vs, us, h, h' => by simp only [DVs] at h; subst h; exact h'
  | d :: ds, es, vs, us, h, h' => by
    simp only [DVs] at h
    obtain ⟨v, r, rfl, h1, h⟩ := h
    exact .cons h1 (DVs.app h h')
theorem DVs.get {K : PySem.W.Frag} {ρ : List Addr} {H : Hp} : ∀ {ds : List D} {vs : List V} {i : Nat} {d : D}, DVs K ρ H ds vs → ds[i]? = some d → ∃ v, vs[i]? = some v ∧ DV K ρ H d v
  | [], vs, i, d, h, e => by simp at e
  | d' :: ds, vs, i, d, h, e => by
    simp only [DVs] at h
    obtain ⟨v, r, rfl, h1, h⟩ := h
    cases i with
    | zero => simp at e; subst e; exact ⟨v, rfl, h1⟩
    | succ i => simpa using DVs.get (i := i) h (by simpa using e)
theorem DVs.getv {K : PySem.W.Frag} {ρ : List Addr} {H : Hp} : ∀ {ds : List D} {vs : List V} {i : Nat} {v : V}, DVs K ρ H ds vs → vs[i]? = some v → ∃ d, ds[i]? = some d ∧ DV K ρ H d v
  | [], vs, i, v, h, e => by simp only [DVs] at h; subst h; simp at e
  | d' :: ds, vs, i, v, h, e => by
    simp only [DVs] at h
    obtain ⟨v', r, rfl, h1, h⟩ := h
    cases i with
    | zero => simp at e; subst e; exact ⟨d', rfl, h1⟩
    | succ i => simpa using DVs.getv (i := i) h (by simpa using e)
theorem DVs.take {K : PySem.W.Frag} {ρ : List Addr} {H : Hp} : ∀ {ds : List D} {vs : List V} (n : Nat), DVs K ρ H ds vs → DVs K ρ H (ds.take n) (vs.take n)
  | [], vs, n, h => by simp only [DVs] at h; subst h; simp [DVs]
  | d :: ds, vs, n, h => by
    simp only [DVs] at h
    obtain ⟨v, r, rfl, h1, h⟩ := h
    cases n with
    | zero => simp [DVs]
    | succ n => exact .cons h1 (DVs.take n h)
theorem DVs.drop {K : PySem.W.Frag} {ρ : List Addr} {H : Hp} : ∀ {ds : List D} {vs : List V} (n : Nat), DVs K ρ H ds vs → DVs K ρ H (ds.drop n) (vs.drop n)
  | [], vs, n, h => by simp only [DVs] at h; subst h; simp [DVs]
  | d :: ds, vs, n, h => by
    have h0 := h
    simp only [DVs] at h
    obtain ⟨v, r, rfl, h1, h⟩ := h
    cases n with
    | zero => exact h0
    | succ n => exact DVs.drop n h
theorem DVs.set {K : PySem.W.Frag} {ρ : List Addr} {H : Hp} {d : D} {v : V} (hd : DV K ρ H d v) : ∀ {ds : List D} {vs : List V} (n : Nat), DVs K ρ H ds vs → DVs K ρ H (ds.set n d) (vs.set n v)
  | [], vs, n, h => by simp only [DVs] at h; subst h; simp [DVs]
  | d' :: ds, vs, n, h => by
    simp only [DVs] at h
    obtain ⟨v', r, rfl, h1, h⟩ := h
    cases n with
    | zero => exact .cons hd h
    | succ n => exact .cons h1 (DVs.set hd n h)
theorem DVs.reverse {K : PySem.W.Frag} {ρ : List Addr} {H : Hp} : ∀ {ds : List D} {vs : List V}, DVs K ρ H ds vs → DVs K ρ H ds.reverse vs.reverse
  | [], vs, h => by simp only [DVs] at h; subst h; simp [DVs]
  | d :: ds, vs, h => by
    simp only [DVs] at h
    obtain ⟨v, r, rfl, h1, h⟩ := h
    simp only [List.reverse_cons]
    exact DVs.app (DVs.reverse h) (.cons h1 .nil)
/-! ### what stands behind a datum -/
def lstOf (μ : Mem) : D → Option (List D)
  | .lst ds => some ds
  | .loc n => match μ.cells[n]? with
    | some (.lst ds) => some ds
    | _ => none
  | _ => none
section
variable {K : PySem.W.Frag} {ρ : List Addr} {μ : Mem} {H : Hp} {d : D} {v : V} {ds : List D}
theorem lstOf_ok (rel : Rel K ρ μ H) (dv : DV K ρ H d v) (h : lstOf μ d = some ds) : ∃ a vs, v = .ref a ∧ LsR K H a vs ∧ DVs K ρ H ds vs := by
  cases d with
  | lst es =>
    have e : es = ds := by simpa [lstOf] using h
    subst e
    simp only [DV] at dv
    obtain ⟨a, vs, e, h1, h2⟩ := dv
    exact ⟨a, vs, e, h1.ls, h2⟩
  | loc n =>
    simp only [DV] at dv
    obtain ⟨a, h1, e⟩ := dv
    simp only [lstOf] at h
    split at h
    · rename_i es hc
      have := Option.some.inj h
      subst this
      obtain ⟨vs, h2, h3⟩ := rel.cell n a _ h1 hc
      exact ⟨a, vs, e, .inl (.inl h2), h3⟩
    · cases h
  | _ => simp [lstOf] at h
theorem rd_sq {a : Addr} {vs : List V} (h : LsR K H a vs) : SqL K H a vs := h.sq
theorem tup_ok {ds : List D} (dv : DV K ρ H (.tup ds) v) : ∃ a vs, v = .ref a ∧ PT K H a vs ∧ DVs K ρ H ds vs := by simpa only [DV] using dv
theorem int_ok {i : Int} (dv : DV K ρ H (.int i) v) : v = .int i := by simpa only [DV] using dv
theorem str_ok {i : Str} (dv : DV K ρ H (.str i) v) : v = .str i := by simpa only [DV] using dv
theorem bl_ok {i : Bool} (dv : DV K ρ H (.bl i) v) : v = .bl i := by simpa only [DV] using dv
theorem non_ok (dv : DV K ρ H .non v) : v = .non := by simpa only [DV] using dv
theorem dv_int {i : Int} : DV K ρ H (.int i) (.int i) := by simp only [DV]
theorem dv_str {i : Str} : DV K ρ H (.str i) (.str i) := by simp only [DV]
theorem dv_bl {i : Bool} : DV K ρ H (.bl i) (.bl i) := by simp only [DV]
theorem dv_non : DV K ρ H .non .non := by simp only [DV]
end
/-! ### freezing -/
def Frzn (Q : VK) : VK := fun v H' => Q v H' ∨ ∃ a xs, v = .ref a ∧ H' a = some (.lst xs) ∧ ∀ o, Q v (upd H' a (.frz o (.lst xs)))
def tFzo (t : TE) : TE := fun σ H Q => t σ H (Frzn Q)
theorem pe_fzo {X : Cx} {e : Expr} {t : TE} (h : PE X e t) : PE X e (tFzo t) := by
  refine ⟨fun pins s σ H Q I hw => thn (h.run pins s σ H _ I hw) fun u s1 ⟨v, H1, I1, r, q⟩ => ?_⟩
  rcases q with q | ⟨a, xs, rfl, ha, q⟩
  · exact ⟨v, H1, I1, r, q⟩
  · obtain ⟨o, I2⟩ := I1.lock ha trivial
    exact ⟨_, _, I2, r, q o⟩
/-- a new list, ours alone -/
def NL (K : PySem.W.Frag) (U : Addr → Prop) : Rl (List D) V := fun ρ H ds v => ∃ p vs, v = .ref p ∧ U p ∧ H p = some (.lst vs) ∧ p ∉ ρ ∧ DVs K ρ H ds vs
def OkN (K : PySem.W.Frag) (ρ : List Addr) (H : Hp) (r : Res (List D)) (Q : VK) (E : XK) : Prop := Okr K (NL K fun p => H p = none) ρ H r Q E
theorem OkN.mono {K : PySem.W.Frag} {ρ ρ1 : List Addr} {H H1 : Hp} {r : Res (List D)} {Q : VK} {E : XK} (p : Pre ρ ρ1) (f : Fz ρ ρ1 H H1) (h : OkN K ρ H r Q E) : OkN K ρ1 H1 r Q E := by
  have h1 : Okr K (NL K fun p => H p = none) ρ1 H1 r Q E := Okr.mono p f h
  cases r with
  | ok a μ => exact fun ρ' H' b p' f' r ⟨q, vs, e, u, x⟩ => h1 ρ' H' b p' f' r ⟨q, vs, e, f.dom q u, x⟩
  | err C w μ => exact h1
  | bad => exact h1
def RefN (K : PySem.W.Frag) (hx : Option HX) (W : WX) (t : TE) (m : MX (List D)) : Prop :=
  ∀ ρ μ δ σ H (Q : VK), Rel K ρ μ H → EnvR K ρ H hx δ σ → OkN K ρ H (m δ μ) Q (fun c d H' => W c d σ H') → t σ H Q
structure RN (X : Cx) (hx : Option HX) (W : WX) (e : Expr) (m : MX (List D)) : Prop where
  ex : ∃ t : TE, PE X e t ∧ RefN X.K hx W t m
theorem RefN.bind {α β : Type} {K : PySem.W.Frag} {hx : Option HX} {W : WX} {R : Rl α β} {t : TX β} {m : MX α} {k : β → St → Hp → VK → Prop} {mk : α → MX (List D)} (h : Ref K hx W R t m)
    (hk : ∀ a ρ μ δ σ H b (Q : VK), Rel K ρ μ H → EnvR K ρ H hx δ σ → R ρ H a b → OkN K ρ H (mk a δ μ) Q (fun c d H' => W c d σ H') → k b σ H Q) :
    RefN K hx W (fun σ H Q => t σ H fun b H1 => k b σ H1 Q) (bindM m mk) := by
  intro ρ μ δ σ H Q rel env ok
  unfold bindM at ok
  refine h ρ μ δ σ H _ rel env ?_
  cases e : m δ μ with
  | ok a μ1 =>
    rw [e] at ok
    intro ρ' H' b p f rel' rb
    exact hk a ρ' μ1 δ σ H' b Q rel' (env.mono p f) rb (OkN.mono p f ok)
  | err C w μ1 => rw [e] at ok; exact ok
  | bad => rw [e] at ok; exact ok
theorem RefN.two {α1 β1 α2 β2 : Type} {K : PySem.W.Frag} {hx : Option HX} {W : WX} {R1 : Rl α1 β1} {R2 : Rl α2 β2} {t1 : TX β1} {t2 : TX β2} {m1 : MX α1} {m2 : MX α2} {k : β1 → β2 → St → Hp → VK → Prop}
    {f : α1 → α2 → MX (List D)} (s1 : Stay R1) (h1 : Ref K hx W R1 t1 m1) (h2 : Ref K hx W R2 t2 m2)
    (hk : ∀ a1 a2 ρ μ δ σ H b1 b2 (Q : VK), Rel K ρ μ H → EnvR K ρ H hx δ σ → R1 ρ H a1 b1 → R2 ρ H a2 b2 → OkN K ρ H (f a1 a2 δ μ) Q (fun c d H' => W c d σ H') → k b1 b2 σ H Q) :
    RefN K hx W (fun σ H Q => t1 σ H fun b1 H1 => t2 σ H1 fun b2 H2 => k b1 b2 σ H2 Q) (bindM m1 fun a1 => bindM m2 fun a2 => f a1 a2) := by
  refine RefN.bind (k := fun b1 σ H1 Q => t2 σ H1 fun b2 H2 => k b1 b2 σ H2 Q) h1 fun a1 ρ μ δ σ H b1 Q rel env r1 ok => ?_
  refine h2 ρ μ δ σ H _ rel env ?_
  unfold bindM at ok
  cases e : m2 δ μ with
  | ok a μ1 =>
    rw [e] at ok
    intro ρ' H' b p f rel' rb
    exact hk a1 a ρ' μ1 δ σ H' b1 b Q rel' (env.mono p f) (s1 _ _ _ _ _ _ p f r1) rb (OkN.mono p f ok)
  | err C w μ1 => rw [e] at ok; exact ok
  | bad => rw [e] at ok; exact ok
theorem OkN.bind {α β : Type} {K : PySem.W.Frag} {R : Rl α β} {ρ : List Addr} {H : Hp} {r : Res α} {k : α → Mem → Res (List D)} {Q : VK} {P : β → Hp → Prop} {E : XK} (h : OkN K ρ H (r.bind k) Q E)
    (hk : ∀ a μ1 ρ1 H1 b, Pre ρ ρ1 → Fz ρ ρ1 H H1 → Rel K ρ1 μ1 H1 → R ρ1 H1 a b → OkN K ρ1 H1 (k a μ1) Q E → P b H1) : Okr K R ρ H r P E := by
  cases r with
  | ok a μ1 => exact fun ρ1 H1 b p f rel rb => hk a μ1 ρ1 H1 b p f rel rb (OkN.mono p f h)
  | err C w μ1 => exact h
  | bad => exact h
theorem OkN.new {K : PySem.W.Frag} {ρ : List Addr} {μ : Mem} {H : Hp} {Q : VK} {E : XK} {ds : List D} {vs : List V} {p : Addr} (rel : Rel K ρ μ H) (hp : H p = none) (hd : DVs K ρ H ds vs) (ok : OkN K ρ H (.ok ds μ) Q E) : Q (.ref p) (upd H p (.lst vs)) :=
  Okr.go (R := NL K fun p => H p = none) ok (Pre.refl _) (Fz.new hp) (rel.alloc hp) ⟨p, vs, rfl, hp, upd_same, rel.fresh hp, hd.mono0 (Pre.refl _) (Fz0.new hp)⟩
def mfz (m : MX (List D)) : ME := bindM m fun ds => fun _ μ => .ok (.lst ds) μ
def mlc (m : MX (List D)) : ME := bindM m fun ds => fun _ μ => .ok (.loc μ.cells.length) (μ.push (.lst ds))
section
variable {X : Cx} {hx : Option HX} {W : WX} {e : Expr} {m : MX (List D)}
theorem Fz0.frz {H : Hp} {p : Addr} {vs : List V} {o : Obj} (h : H p = some (.lst vs)) : Fz0 H (upd H p (.frz o (.lst vs))) := Fz0.mut h (fun _ => HO.noConfusion) (fun _ _ => HO.noConfusion)
theorem dv_frz {K : PySem.W.Frag} {ρ : List Addr} {H : Hp} {p : Addr} {vs : List V} {o : Obj} {ds : List D} (h : H p = some (.lst vs)) (hd : DVs K ρ H ds vs) : DV K ρ (upd H p (.frz o (.lst vs))) (.lst ds) (.ref p) := by
  simp only [DV]
  exact ⟨p, vs, rfl, .inl ⟨o, upd_same⟩, hd.mono0 (Pre.refl _) (Fz0.frz h)⟩
theorem re_fz (h : RN X hx W e m) : RE X hx W e (mfz m) := by
  obtain ⟨t, p, r⟩ := h.ex
  refine ⟨⟨_, pe_fzo p, fun ρ0 μ0 δ σ H0 Q rel0 env0 ok0 => r ρ0 μ0 δ σ H0 _ rel0 env0 ?_⟩⟩
  unfold mfz bindM at ok0
  cases e : m δ μ0 with
  | err C w μ1 => rw [e] at ok0; exact ok0
  | bad => rw [e] at ok0; exact ok0
  | ok ds μ1 =>
    rw [e] at ok0
    rintro ρ H v pr fz rel ⟨q, vs, rfl, hu, hq, hn, hd⟩
    exact .inr ⟨q, vs, rfl, hq, fun o => ok0 ρ _ _ pr (fz.late hu) (rel.other hn (Fz0.frz hq)) (dv_frz hq hd)⟩
theorem dv_last {K : PySem.W.Frag} {ρ : List Addr} {μ : Mem} {H H' : Hp} {p : Addr} (rel : Rel K ρ μ H) : DV K (ρ ++ [p]) H' (.loc μ.cells.length) (.ref p) := by
  simp only [DV]
  exact ⟨p, by rw [← rel.len]; simp, rfl⟩
theorem re_lc (h : RN X hx W e m) : RE X hx W e (mlc m) := by
  obtain ⟨t, p, r⟩ := h.ex
  refine ⟨⟨_, p, fun ρ0 μ0 δ σ H0 Q rel0 env0 ok0 => r ρ0 μ0 δ σ H0 _ rel0 env0 ?_⟩⟩
  unfold mlc bindM at ok0
  cases e : m δ μ0 with
  | err C w μ1 => rw [e] at ok0; exact ok0
  | bad => rw [e] at ok0; exact ok0
  | ok ds μ1 =>
    rw [e] at ok0
    rintro ρ H v pr fz rel ⟨q, vs, rfl, hu, hq, hn, hd⟩
    exact ok0 _ _ _ (pr.trans (Pre.app _ _)) (fz.lateA hu) (rel.adopt hn ⟨vs, hq, hd.mono0 (Pre.app _ _) (Fz0.refl _)⟩) (dv_last rel)
end
/-! ### + of ints, texts, tuples, lists -/
/-- list + list, either may be frozen -/
def rCatR (K : PySem.W.Frag) : R2 := fun x y H Q => ∃ l b xs zs, x = .ref l ∧ y = .ref b ∧ LsR K H l xs ∧ LsR K H b zs ∧ xs.length + zs.length ≤ sizeLine ∧ ∀ p, H p = none → Q (.ref p) (upd H p (.lst (xs ++ zs)))
theorem Inv.lstR {X : Cx} {pins : List (Addr × Obj)} {σ : St} {H : Hp} {s : Shared} {l : Addr} {xs : List V} (I : L2.Inv X pins σ H s) (hH : LsR X.K H l xs) : xs.length ≤ sizeLine ∧ ∃ (its : List Value) (n : Nat), Vals xs its ∧ xs.length = its.length ∧ s.heap.get? l = some { cls := .type "list", data := .seq its.toArray n } := by
  rcases hH with hH | ⟨its, n, hk, hz, r⟩
  · obtain ⟨z, its, n, r, e⟩ := hH.ok I.hok
    exact ⟨z, its, n, r, r.length, e⟩
  · exact ⟨by rw [r.length]; exact hz, its, n, r, r.length, I.kIn l _ hk⟩
theorem op_catR {X : Cx} : OpR X (binaryOp .Add) (rCatR X.K) := by
  intro pins s σ H x y v u Q I rx ry h
  obtain ⟨l, b, xs, zs, rfl, rfl, hH, hB, hz, q⟩ := h
  cases rx
  cases ry
  obtain ⟨z, its, n, r, hl, e⟩ := Inv.lstR I hH
  obtain ⟨z2, its2, n2, r2, hl2, e2⟩ := Inv.lstR I hB
  refine PySem.P.add_list e e2 ?_ (by rw [List.size_toArray, List.size_toArray]; omega)
  have ea : its.toArray ++ its2.toArray = (its ++ its2).toArray := by simp
  rw [ea]
  exact ⟨.ref _, _, I.lnew (t' := s.toks) (r.append r2) (by rw [List.length_append]; omega), rfl, q _ I.fresh⟩
def rAddU (K : PySem.W.Frag) : R2 := fun x y H Q => (rI0 fun i j => V.int (i + j)) x y H Q ∨ (∃ i j, x = .str i ∧ y = .str j ∧ i.length + j.length ≤ sizeLine ∧ Q (.str (i ++ j)) H) ∨ rCatA K x y H Q ∨ rCatR K x y H Q
theorem op_addU {X : Cx} : OpR X (binaryOp .Add) (rAddU X.K) := op_add.or (op_add_str.or (op_catA.or op_catR))
def catL (μ : Mem) (d e : D) : Option (List D) := (lstOf μ d).bind fun xs => (lstOf μ e).bind fun ys => if xs.length + ys.length ≤ sizeLine then some (xs ++ ys) else none
def fAdd (d e : D) (μ : Mem) : Res D := match d, e with
  | .int i, .int j => .ok (.int (i + j)) μ
  | .str i, .str j => if i.length + j.length ≤ sizeLine then .ok (.str (i ++ j)) μ else .bad
  | .tup xs, .tup ys => if xs.length + ys.length ≤ sizeLine then .ok (.tup (xs ++ ys)) μ else .bad
  | d, e => match catL μ d e with
    | some zs => .ok (.lst zs) μ
    | none => .bad
def OpF (K : PySem.W.Frag) (r : R2) (f : D → D → Mem → Res D) : Prop :=
  ∀ d e ρ μ H x y (Q : VK) (E : XK), Rel K ρ μ H → DV K ρ H d x → DV K ρ H e y → Okr K (DV K) ρ H (f d e μ) Q E → r x y H (Frzn Q)
theorem re_opF {X : Cx} {hx : Option HX} {W : WX} {pos : Pos} {a b : Expr} {ma mb : ME} {op : Operator} {r : R2} {f : D → D → Mem → Res D} (ho : OpR X (binaryOp op) r) (om : OpF X.K r f) (ha : RE X hx W a ma) (hb : RE X hx W b mb) : RE X hx W (.BinOp a op b pos) (mop f ma mb) := by
  obtain ⟨ta, pa, ra⟩ := ha.ex
  obtain ⟨tb, pb, rb⟩ := hb.ex
  exact ⟨⟨_, pe_fzo (pe_op ho pa pb), Ref.two (k := fun x y σ H Q => r x y H (Frzn Q)) stay_DV ra rb fun d e ρ μ δ σ H x y Q rel env dx dy ok => om d e ρ μ H x y Q _ rel dx dy ok⟩⟩
theorem okr_new {K : PySem.W.Frag} {ρ : List Addr} {μ : Mem} {H : Hp} {Q : VK} {E : XK} {ds : List D} {vs : List V} {p : Addr} (rel : Rel K ρ μ H) (hp : H p = none) (hd : DVs K ρ H ds vs) (ok : Okr K (DV K) ρ H (.ok (.lst ds) μ) Q E) : Frzn Q (.ref p) (upd H p (.lst vs)) := by
  refine .inr ⟨p, vs, rfl, upd_same, fun o => ?_⟩
  have f1 : Fz ρ ρ H (upd H p (.lst vs)) := Fz.new hp
  have f2 := Fz0.frz (o := o) (upd_same (H := H) (a := p) (o := .lst vs))
  exact ok.go (Pre.refl _) (f1.late hp) ((rel.alloc hp).other (rel.fresh hp) f2) (dv_frz upd_same (hd.mono (Pre.refl _) f1))
theorem okr_tup {K : PySem.W.Frag} {ρ : List Addr} {μ : Mem} {H : Hp} {Q : VK} {E : XK} {ds : List D} {vs : List V} {p : Addr} (rel : Rel K ρ μ H) (hp : H p = none) (hd : DVs K ρ H ds vs) (ok : Okr K (DV K) ρ H (.ok (.tup ds) μ) Q E) : Q (.ref p) (upd H p (.tup vs)) :=
  ok.go (Pre.refl _) (Fz.new hp) (rel.alloc hp) (by simp only [DV]; exact ⟨p, vs, rfl, .inl upd_same, hd.mono0 (Pre.refl _) (Fz0.new hp)⟩)
theorem catL_ok {K : PySem.W.Frag} {ρ : List Addr} {μ : Mem} {H : Hp} {d e : D} {x y : V} {zs : List D} (rel : Rel K ρ μ H) (dx : DV K ρ H d x) (dy : DV K ρ H e y) (h : catL μ d e = some zs) :
    ∃ l b xs ys, x = .ref l ∧ y = .ref b ∧ LsR K H l xs ∧ LsR K H b ys ∧ xs.length + ys.length ≤ sizeLine ∧ DVs K ρ H zs (xs ++ ys) := by
  unfold catL at h
  cases h1 : lstOf μ d with
  | none => rw [h1] at h; cases h
  | some us =>
    cases h2 : lstOf μ e with
    | none => rw [h1, h2] at h; cases h
    | some ws =>
      rw [h1, h2] at h
      simp only [Option.bind_some] at h
      split at h
      · rename_i hl
        have e3 := Option.some.inj h
        subst e3
        obtain ⟨l, xs, r1, r2, r3⟩ := lstOf_ok rel dx h1
        obtain ⟨b, ys, q1, q2, q3⟩ := lstOf_ok rel dy h2
        exact ⟨l, b, xs, ys, r1, q1, r2, q2, by rw [← r3.length, ← q3.length]; exact hl, r3.app q3⟩
      · cases h
theorem opF_add {K : PySem.W.Frag} : OpF K (rAddU K) fAdd := by
  intro d e ρ μ H x y Q E rel dx dy ok
  unfold fAdd at ok
  split at ok
  · exact .inl ⟨_, _, int_ok dx, int_ok dy, .inl (ok.now rel dv_int)⟩
  · split at ok
    · rename_i h
      exact .inr (.inl ⟨_, _, str_ok dx, str_ok dy, h, .inl (ok.now rel dv_str)⟩)
    · exact ok.elim
  · split at ok
    · rename_i xs ys h1
      obtain ⟨a, vs, e1, e2, e3⟩ := tup_ok dx
      obtain ⟨b, us, q1, q2, q3⟩ := tup_ok dy
      have nil : ∀ {ds : List D} {ws : List V}, DVs K ρ H ds ws → ws = [] → ds = [] := fun h z => by
        have := h.length
        rw [z] at this
        exact List.length_eq_zero_iff.mp this
      refine .inr (.inr (.inl ⟨a, b, vs, us, e1, q1, e2.sq, q2.sq, by rw [← e3.length, ← q3.length]; exact h1, fun z => ?_, fun _ z => ?_, fun _ z p hp => ?_⟩))
      · have e4 := nil e3 z
        subst e4
        rw [List.nil_append] at ok
        rw [← q1]
        exact .inl (ok.now rel dy)
      · have e4 := nil q3 z
        subst e4
        rw [List.append_nil] at ok
        rw [← e1]
        exact .inl (ok.now rel dx)
      · exact .inl (okr_tup rel hp (e3.app q3) ok)
    · exact ok.elim
  · split at ok
    · rename_i zs hz
      obtain ⟨l, b, xs, ys, r1, q1, r2, q2, h4, h5⟩ := catL_ok rel dx dy hz
      exact .inr (.inr (.inr ⟨l, b, xs, ys, r1, q1, r2, q2, h4, fun p hp => okr_new rel hp h5 ok⟩))
    · exact ok.elim
section
variable {X : Cx} {hx : Option HX} {W : WX} {pos : Pos} {a b : Expr} {ma mb : ME}
theorem re_add (ha : RE X hx W a ma) (hb : RE X hx W b mb) : RE X hx W (.BinOp a .Add b pos) (mop fAdd ma mb) := re_opF op_addU opF_add ha hb
/-- list + list as a new mutable list -/
def mcatN (a b : ME) : MX (List D) := bindM a fun x => bindM b fun y => fun _ μ => match catL μ x y with
  | some zs => .ok zs μ
  | none => .bad
theorem rn_add (ha : RE X hx W a ma) (hb : RE X hx W b mb) : RN X hx W (.BinOp a .Add b pos) (mcatN ma mb) := by
  obtain ⟨ta, pa, ra⟩ := ha.ex
  obtain ⟨tb, pb, rb⟩ := hb.ex
  refine ⟨⟨_, pe_op op_catR pa pb, RefN.two stay_DV ra rb fun d e ρ μ δ σ H x y Q rel env dx dy ok => ?_⟩⟩
  split at ok
  · rename_i zs hz
    obtain ⟨l, b, xs, ys, r1, q1, r2, q2, h4, h5⟩ := catL_ok rel dx dy hz
    exact ⟨l, b, xs, ys, r1, q1, r2, q2, h4, fun p hp => OkN.new rel hp h5 ok⟩
  · exact ok.elim
/-! ### ints -/
def fInt (C : Int → Int → Prop) [∀ i j, Decidable (C i j)] (g : Int → Int → Int) (d e : D) (μ : Mem) : Res D := match d, e with
  | .int i, .int j => if C i j then .ok (.int (g i j)) μ else .bad
  | _, _ => .bad
theorem opM_int {K : PySem.W.Frag} {C C' : Int → Int → Prop} [∀ i j, Decidable (C' i j)] {g : Int → Int → Int} (h : ∀ i j, C' i j → C i j) : OpM K (rI C fun i j => .int (g i j)) (fInt C' g) := by
  intro d e ρ μ H x y Q E rel dx dy ok
  unfold fInt at ok
  split at ok
  · split at ok
    · rename_i hc
      exact ⟨_, _, int_ok dx, int_ok dy, h _ _ hc, ok.now rel dv_int⟩
    · exact ok.elim
  · exact ok.elim
def fSub (d e : D) (μ : Mem) : Res D := match d, e with
  | .int i, .int j => .ok (.int (i - j)) μ
  | _, _ => .bad
theorem re_sub (ha : RE X hx W a ma) (hb : RE X hx W b mb) : RE X hx W (.BinOp a .Sub b pos) (mop fSub ma mb) :=
  re_op op_sub (fun d e ρ μ H x y Q E rel dx dy ok => by
    unfold fSub at ok
    split at ok
    · exact ⟨_, _, int_ok dx, int_ok dy, ok.now rel dv_int⟩
    · exact ok.elim) ha hb
def fMod (d e : D) (μ : Mem) : Res D := fInt (fun _ j => 0 < j) (fun i j => i % j) d e μ
def fDiv (d e : D) (μ : Mem) : Res D := fInt (fun _ j => 0 < j ∧ j.natAbs.log2 < 9000) (fun i j => i / j) d e μ
def fMul (d e : D) (μ : Mem) : Res D := fInt (fun i j => i.natAbs.log2 + j.natAbs.log2 < 1000000) (fun i j => i * j) d e μ
def fPow (d e : D) (μ : Mem) : Res D := fInt (fun i j => 0 ≤ j ∧ j ≤ 1000000 ∧ i.natAbs < 2 ^ 64) (fun i j => i ^ j.toNat) d e μ
theorem re_mod (ha : RE X hx W a ma) (hb : RE X hx W b mb) : RE X hx W (.BinOp a .Mod b pos) (mop fMod ma mb) := re_op op_mod (opM_int fun _ _ h => h) ha hb
theorem re_div (ha : RE X hx W a ma) (hb : RE X hx W b mb) : RE X hx W (.BinOp a .FloorDiv b pos) (mop fDiv ma mb) := re_op op_fdivW (opM_int fun _ _ h => h) ha hb
theorem re_mul (ha : RE X hx W a ma) (hb : RE X hx W b mb) : RE X hx W (.BinOp a .Mult b pos) (mop fMul ma mb) := re_op op_mulW (opM_int fun _ _ h => h) ha hb
theorem re_pow (ha : RE X hx W a ma) (hb : RE X hx W b mb) : RE X hx W (.BinOp a .Pow b pos) (mop fPow ma mb) := re_op op_pow (opM_int fun _ _ h => h) ha hb
def fAnd (d e : D) (μ : Mem) : Res D := match d, e with
  | .int i, .int j => .ok (.int (Builtin.bitAnd i j)) μ
  | _, _ => .bad
theorem re_band (ha : RE X hx W a ma) (hb : RE X hx W b mb) : RE X hx W (.BinOp a .BitAnd b pos) (mop fAnd ma mb) :=
  re_op op_and (fun d e ρ μ H x y Q E rel dx dy ok => by
    unfold fAnd at ok
    split at ok
    · exact ⟨_, _, int_ok dx, int_ok dy, ok.now rel dv_int⟩
    · exact ok.elim) ha hb
def mneg (a : ME) : ME := bindM a fun x => match x with
  | .int i => fun _ μ => .ok (.int (-i)) μ
  | _ => fun _ _ => .bad
theorem re_neg (ha : RE X hx W a ma) : RE X hx W (.UnaryOp .USub a pos) (mneg ma) := by
  obtain ⟨ta, p, ra⟩ := ha.ex
  refine ⟨⟨_, pe_un un_neg p, fun ρ0 μ0 δ σ H0 Q rel0 env0 ok0 => ra ρ0 μ0 δ σ H0 _ rel0 env0 (Okr.bind ok0 fun x μ ρ H y pr fz rel e ok => ?_)⟩⟩
  cases x with
  | int i => exact ⟨i, int_ok e, ok.now rel dv_int⟩
  | _ => exact ok.elim
/-! ### comparisons of ints -/
def cInt (p : Int → Int → Bool) (d e : D) (μ : Mem) : Res Bool := match d, e with
  | .int i, .int j => .ok (p i j) μ
  | _, _ => .bad
theorem cmpM_int {K : PySem.W.Frag} {p : Int → Int → Bool} : CmpM K (rI0 fun i j => .bl (p i j)) (cInt p) := by
  intro d e ρ μ H x y Q E rel dx dy ok
  unfold cInt at ok
  split at ok
  · exact ⟨_, _, int_ok dx, int_ok dy, ok.now rel rfl⟩
  · exact ok.elim
def cLt := cInt fun i j => decide (i < j)
def cLe := cInt fun i j => decide (i ≤ j)
def cGt := cInt fun i j => decide (j < i)
def cGe := cInt fun i j => decide (j ≤ i)
theorem cm_lt {K : PySem.W.Frag} : CmpM K (rI0 fun i j => .bl (decide (i < j))) cLt := cmpM_int
theorem cm_le {K : PySem.W.Frag} : CmpM K (rI0 fun i j => .bl (decide (i ≤ j))) cLe := cmpM_int
theorem cm_gt {K : PySem.W.Frag} : CmpM K (rI0 fun i j => .bl (decide (j < i))) cGt := cmpM_int
theorem cm_ge {K : PySem.W.Frag} : CmpM K (rI0 fun i j => .bl (decide (j ≤ i))) cGe := cmpM_int
def D.isNon : D → Bool
  | .non => true
  | _ => false
def cIs (d e : D) (μ : Mem) : Res Bool := match e with
  | .non => .ok d.isNon μ
  | _ => .bad
def cIsNot (d e : D) (μ : Mem) : Res Bool := match e with
  | .non => .ok (!d.isNon) μ
  | _ => .bad
theorem isNon_ok {K : PySem.W.Frag} {ρ : List Addr} {H : Hp} {d : D} {x : V} (dx : DV K ρ H d x) : decide (x = V.non) = d.isNon := by
  cases d <;> simp only [DV] at dx <;> first
    | (subst dx; simp [D.isNon]; done)
    | (obtain ⟨_, _, rfl, _⟩ := dx; simp [D.isNon]; done)
    | (obtain ⟨_, _, rfl⟩ := dx; simp [D.isNon]; done)
theorem cm_is {K : PySem.W.Frag} : CmpM K (fun x y H Q => y = .non ∧ Q (.bl (decide (x = .non))) H) cIs := by
  intro d e ρ μ H x y Q E rel dx dy ok
  unfold cIs at ok
  split at ok
  · exact ⟨non_ok dy, by rw [isNon_ok dx]; exact ok.now rel rfl⟩
  · exact ok.elim
theorem cm_isNot {K : PySem.W.Frag} : CmpM K (fun x y H Q => y = .non ∧ Q (.bl (!decide (x = .non))) H) cIsNot := by
  intro d e ρ μ H x y Q E rel dx dy ok
  unfold cIsNot at ok
  split at ok
  · exact ⟨non_ok dy, by rw [isNon_ok dx]; exact ok.now rel rfl⟩
  · exact ok.elim
end
end Doz
end
section
/-! Doz4: ==, in, subscripts, slices, displays. -/
namespace Doz
open PySem L2
/-! ### == -/
mutual
def D.eqv : D → D → Bool
  | .non, .non => true
  | .bl a, .bl b => a == b
  | .bl a, .int j => (if a then 1 else 0) == j
  | .int i, .bl b => i == (if b then 1 else 0)
  | .int i, .int j => i == j
  | .str x, .str y => x == y
  | .lst xs, .lst ys => D.eqvs xs ys
  | .tup xs, .tup ys => D.eqvs xs ys
  | _, _ => false
def D.eqvs : List D → List D → Bool
  | [], [] => true
  | x :: xs, y :: ys => D.eqv x y && D.eqvs xs ys
  | [], _ :: _ => false
  | _ :: _, [] => false
end
/-- no loc within -/
def rsv (μ : Mem) : Nat → D → Option D
  | 0, _ => none
  | f + 1, d => match d with
    | .tup ds => (ds.mapM (rsv μ f)).map D.tup
    | .lst ds => (ds.mapM (rsv μ f)).map D.lst
    | .loc n => match μ.cells[n]? with
      | some (.lst ds) => (ds.mapM (rsv μ f)).map D.lst
      | _ => none
    | .sta _ => none
    | .ty _ => none
    | d => some d
mutual
def toPy : D → PyData
  | .non => .none
  | .bl b => .bool b
  | .int i => .int i
  | .str x => .str x
  | .tup ds => .tuple (toPys ds)
  | .lst ds => .list (toPys ds)
  | _ => .none
def toPys : List D → List PyData
  | [] => []
  | d :: ds => toPy d :: toPys ds
end
mutual
/-- plain data: no loc, no thing of the text -/
def D.pure : D → Bool
  | .tup ds => D.pures ds
  | .lst ds => D.pures ds
  | .loc _ => false
  | .sta _ => false
  | .ty _ => false
  | _ => true
def D.pures : List D → Bool
  | [] => true
  | d :: ds => D.pure d && D.pures ds
end
mutual
theorem eqv_py : ∀ (a b : D), a.pure = true → b.pure = true → PyData.eqv (toPy a) (toPy b) = D.eqv a b
  | .non, b, _, hb => by cases b <;> simp_all [toPy, PyData.eqv, D.eqv, D.pure]
  | .bl x, b, _, hb => by cases b <;> simp_all [toPy, PyData.eqv, D.eqv, D.pure]
  | .int x, b, _, hb => by cases b <;> simp_all [toPy, PyData.eqv, D.eqv, D.pure]
  | .str x, b, _, hb => by cases b <;> simp_all [toPy, PyData.eqv, D.eqv, D.pure]
  | .tup xs, b, ha, hb => by
    cases b with
    | tup ys => simp only [toPy, PyData.eqv, D.eqv]; exact eqvs_py xs ys (by simpa [D.pure] using ha) (by simpa [D.pure] using hb)
    | _ => simp_all [toPy, PyData.eqv, D.eqv, D.pure]
  | .lst xs, b, ha, hb => by
    cases b with
    | lst ys => simp only [toPy, PyData.eqv, D.eqv]; exact eqvs_py xs ys (by simpa [D.pure] using ha) (by simpa [D.pure] using hb)
    | _ => simp_all [toPy, PyData.eqv, D.eqv, D.pure]
  | .loc _, _, ha, _ => by simp [D.pure] at ha
  | .sta _, _, ha, _ => by simp [D.pure] at ha
  | .ty _, _, ha, _ => by simp [D.pure] at ha
theorem eqvs_py : ∀ (a b : List D), D.pures a = true → D.pures b = true → PyData.eqvAll (toPys a) (toPys b) = D.eqvs a b
  | [], b, _, _ => by cases b <;> simp [toPys, PyData.eqvAll, D.eqvs]
  | x :: xs, b, ha, hb => by
    cases b with
    | nil => simp [toPys, PyData.eqvAll, D.eqvs]
    | cons y ys =>
      simp only [D.pures, Bool.and_eq_true] at ha hb
      simp only [toPys, PyData.eqvAll, D.eqvs]
      rw [eqv_py x y ha.1 hb.1, eqvs_py xs ys ha.2 hb.2]
end
mutual
theorem D.eqv_refl : ∀ a : D, a.pure = true → D.eqv a a = true
  | .non, _ => by simp [D.eqv]
  | .bl x, _ => by simp [D.eqv]
  | .int x, _ => by simp [D.eqv]
  | .str x, _ => by simp [D.eqv]
  | .tup xs, h => by simp only [D.eqv]; exact D.eqvs_refl xs (by simpa [D.pure] using h)
  | .lst xs, h => by simp only [D.eqv]; exact D.eqvs_refl xs (by simpa [D.pure] using h)
  | .loc _, h => by simp [D.pure] at h
  | .sta _, h => by simp [D.pure] at h
  | .ty _, h => by simp [D.pure] at h
theorem D.eqvs_refl : ∀ a : List D, D.pures a = true → D.eqvs a a = true
  | [], _ => by simp [D.eqvs]
  | x :: xs, h => by
    simp only [D.pures, Bool.and_eq_true] at h
    simp [D.eqvs, D.eqv_refl x h.1, D.eqvs_refl xs h.2]
end
theorem mapM_cons_some {α β : Type} {f : α → Option β} {x : α} {xs : List α} {zs : List β} (h : (x :: xs).mapM f = some zs) : ∃ y ys, f x = some y ∧ xs.mapM f = some ys ∧ zs = y :: ys := by
  rw [List.mapM_cons] at h
  cases h1 : f x with
  | none => rw [h1] at h; cases h
  | some y =>
    cases h2 : xs.mapM f with
    | none => rw [h1, h2] at h; cases h
    | some ys =>
      rw [h1, h2] at h
      exact ⟨y, ys, rfl, rfl, (Option.some.inj h).symm⟩
theorem rsvs_pure {μ : Mem} {f : Nat} (ih : ∀ d p, rsv μ f d = some p → p.pure = true) : ∀ {ds ps : List D}, ds.mapM (rsv μ f) = some ps → D.pures ps = true
  | [], ps, h => by
    have : ps = [] := by simpa using h.symm
    subst this; simp [D.pures]
  | d :: ds, ps, h => by
    obtain ⟨y, ys, h1, h2, rfl⟩ := mapM_cons_some h
    simp [D.pures, ih d y h1, rsvs_pure ih h2]
theorem rsv_pure {μ : Mem} : ∀ (f : Nat) (d p : D), rsv μ f d = some p → p.pure = true
  | 0, d, p, h => by simp [rsv] at h
  | f + 1, d, p, h => by
    have lst : ∀ {ds : List D}, (ds.mapM (rsv μ f)).map D.lst = some p → p.pure = true := fun {ds} h => by
      obtain ⟨ps, h1, rfl⟩ := Option.map_eq_some_iff.mp h
      simpa [D.pure] using rsvs_pure (rsv_pure f) h1
    cases d with
    | tup ds =>
      simp only [rsv] at h
      obtain ⟨ps, h1, rfl⟩ := Option.map_eq_some_iff.mp h
      simpa [D.pure] using rsvs_pure (rsv_pure f) h1
    | lst ds => simp only [rsv] at h; exact lst h
    | loc n =>
      simp only [rsv] at h
      split at h
      · exact lst h
      · cases h
    | sta _ => simp [rsv] at h
    | ty _ => simp [rsv] at h
    | non => simp [rsv] at h; subst h; rfl
    | bl _ => simp [rsv] at h; subst h; rfl
    | int _ => simp [rsv] at h; subst h; rfl
    | str _ => simp [rsv] at h; subst h; rfl
section
variable {K : PySem.W.Frag} {ρ : List Addr} {μ : Mem} {H : Hp}
theorem rsvs_dp {f : Nat} (ih : ∀ d p v, rsv μ f d = some p → DV K ρ H d v → Dp K H v (toPy p)) : ∀ {ds ps : List D} {vs : List V}, ds.mapM (rsv μ f) = some ps → DVs K ρ H ds vs → DpAll K H vs (toPys ps)
  | [], ps, vs, h, dv => by
    have : ps = [] := by simpa using h.symm
    subst this
    simp only [DVs] at dv
    subst dv
    exact .nil
  | d :: ds, ps, vs, h, dv => by
    obtain ⟨y, ys, h1, h2, rfl⟩ := mapM_cons_some h
    simp only [DVs] at dv
    obtain ⟨v, r, rfl, d1, d2⟩ := dv
    simp only [toPys]
    exact .cons (ih d y v h1 d1) (rsvs_dp ih h2 d2)
theorem rsv_dp (rel : Rel K ρ μ H) : ∀ (f : Nat) (d p : D) (v : V), rsv μ f d = some p → DV K ρ H d v → Dp K H v (toPy p)
  | 0, d, p, v, h, _ => by simp [rsv] at h
  | f + 1, d, p, v, h, dv => by
    cases d with
    | tup ds =>
      simp only [rsv] at h
      obtain ⟨ps, h1, rfl⟩ := Option.map_eq_some_iff.mp h
      obtain ⟨a, vs, rfl, h2, h3⟩ := tup_ok dv
      simp only [toPy]
      exact .tup h2.sq (rsvs_dp (rsv_dp rel f) h1 h3)
    | lst ds =>
      simp only [rsv] at h
      obtain ⟨ps, h1, rfl⟩ := Option.map_eq_some_iff.mp h
      obtain ⟨a, vs, rfl, h2, h3⟩ := lstOf_ok rel dv (ds := ds) rfl
      simp only [toPy]
      exact .lst (rd_sq h2) (rsvs_dp (rsv_dp rel f) h1 h3)
    | loc n =>
      simp only [rsv] at h
      split at h
      · rename_i ds hc
        obtain ⟨ps, h1, rfl⟩ := Option.map_eq_some_iff.mp h
        obtain ⟨a, vs, rfl, h2, h3⟩ := lstOf_ok rel dv (ds := ds) (by simp [lstOf, hc])
        simp only [toPy]
        exact .lst (rd_sq h2) (rsvs_dp (rsv_dp rel f) h1 h3)
      · cases h
    | sta _ => simp [rsv] at h
    | ty _ => simp [rsv] at h
    | non => simp [rsv] at h; subst h; rw [non_ok dv]; exact .non
    | bl _ => simp [rsv] at h; subst h; rw [bl_ok dv]; exact .bl _
    | int _ => simp [rsv] at h; subst h; rw [int_ok dv]; exact .int _
    | str _ => simp [rsv] at h; subst h; rw [str_ok dv]; exact .str _
end
def D.sc : D → Bool
  | .non => true
  | .bl _ => true
  | .int _ => true
  | .str _ => true
  | _ => false
def D.fits (d : D) : Bool := SeqAt.shaped (toPy d)
def cEq (d e : D) (μ : Mem) : Res Bool :=
  if (d.sc && e.sc) = true then .ok (D.eqv d e) μ else match rsv μ 8 d, rsv μ 8 e with
    | some p, some q => if (p.fits && q.fits) = true then .ok (D.eqv p q) μ else .bad
    | _, _ => .bad
def cNe (d e : D) (μ : Mem) : Res Bool := (cEq d e μ).bind fun b μ => .ok (!b) μ
def rEqU (K : PySem.W.Frag) : R2 := fun x y H Q => rEq x y H Q ∨ rEqD K x y H Q
def rNeU (K : PySem.W.Frag) : R2 := fun x y H Q => rNe x y H Q ∨ rNeD K x y H Q
theorem op_eqU {X : Cx} (hu : X.A.units + 64 < cLine) : OpR X (compareOp .Eq) (rEqU X.K) := op_eq.or (op_eqD hu)
theorem op_neU {X : Cx} (hu : X.A.units + 64 < cLine) : OpR X (compareOp .NotEq) (rNeU X.K) := op_ne.or (op_neD hu)
theorem eq_core {K : PySem.W.Frag} {ρ : List Addr} {μ : Mem} {H : Hp} {d e : D} {x y : V} {b : Bool} {μ' : Mem} (rel : Rel K ρ μ H) (dx : DV K ρ H d x) (dy : DV K ρ H e y) (h : cEq d e μ = .ok b μ') :
    μ' = μ ∧ ((scal x y = true ∧ decide (x = y) = b) ∨ ∃ p q, Dp K H x p ∧ Dp K H y q ∧ SeqAt.shaped p = true ∧ SeqAt.shaped q = true ∧ PyData.eqv p q = b) := by
  unfold cEq at h
  split at h
  · rename_i hs
    have h' : D.eqv d e = b ∧ μ = μ' := by simpa using h
    obtain ⟨rfl, rfl⟩ := h'
    refine ⟨rfl, ?_⟩
    cases d <;> cases e <;> simp [D.sc] at hs
    all_goals
      first
        | rw [non_ok dx]
        | rw [bl_ok dx]
        | rw [int_ok dx]
        | rw [str_ok dx]
    all_goals
      first
        | rw [non_ok dy]
        | rw [bl_ok dy]
        | rw [int_ok dy]
        | rw [str_ok dy]
    all_goals first
      | (refine .inl ⟨rfl, ?_⟩; simp [D.eqv]; done)
      | (refine .inl ⟨rfl, ?_⟩; rw [Bool.eq_iff_iff]; simp [D.eqv]; done)
      | exact .inr ⟨_, _, .bl _, .int _, by rfl, by rfl, by simp [D.eqv, PyData.eqv]⟩
      | exact .inr ⟨_, _, .int _, .bl _, by rfl, by rfl, by simp [D.eqv, PyData.eqv]⟩
  · split at h
    · rename_i p q hp hq
      split at h
      · rename_i hf
        simp only [Bool.and_eq_true] at hf
        have h' : D.eqv p q = b ∧ μ = μ' := by simpa using h
        obtain ⟨rfl, rfl⟩ := h'
        exact ⟨rfl, .inr ⟨_, _, rsv_dp rel 8 d p x hp dx, rsv_dp rel 8 e q y hq dy, hf.1, hf.2, eqv_py p q (rsv_pure 8 d p hp) (rsv_pure 8 e q hq)⟩⟩
      · cases h
    · cases h
theorem cEq_noerr {d e : D} {μ : Mem} {C : Addr} {w : D} {μ' : Mem} : cEq d e μ ≠ .err C w μ' := by
  unfold cEq
  split
  · exact fun h => nomatch h
  · split
    · split <;> exact fun h => nomatch h
    · exact fun h => nomatch h
theorem cm_eq {K : PySem.W.Frag} : CmpM K (rEqU K) cEq := by
  intro d e ρ μ H x y Q E rel dx dy ok
  cases h : cEq d e μ with
  | ok b μ' =>
    rw [h] at ok
    obtain ⟨rfl, hc⟩ := eq_core rel dx dy h
    have q := ok.now rel (b := V.bl b) rfl
    rcases hc with ⟨h1, h2⟩ | ⟨p, q', h1, h2, h3, h4, h5⟩
    · exact .inl ⟨h1, by rw [h2]; exact q⟩
    · exact .inr ⟨p, q', h1, h2, h3, h4, by rw [h5]; exact q⟩
  | err C w μ' => exact absurd h cEq_noerr
  | bad => rw [h] at ok; exact ok.elim
theorem cm_ne {K : PySem.W.Frag} : CmpM K (rNeU K) cNe := by
  intro d e ρ μ H x y Q E rel dx dy ok
  unfold cNe at ok
  cases h : cEq d e μ with
  | ok b μ' =>
    rw [h] at ok
    obtain ⟨rfl, hc⟩ := eq_core rel dx dy h
    have q := Okr.now (b := V.bl !b) ok rel rfl
    rcases hc with ⟨h1, h2⟩ | ⟨p, q', h1, h2, h3, h4, h5⟩
    · exact .inl ⟨h1, by rw [h2]; exact q⟩
    · exact .inr ⟨p, q', h1, h2, h3, h4, by rw [h5]; exact q⟩
  | err C w μ' => exact absurd h cEq_noerr
  | bad => rw [h] at ok; exact ok.elim
/-! ### dicts as tables -/
section
variable {κ : Type} [DecidableEq κ]
def kget (kvs : List (κ × D)) (k : κ) : Option D := (kvs.find? fun kv => decide (kv.1 = k)).map (·.2)
def kput (kvs : List (κ × D)) (k : κ) (v : D) : List (κ × D) :=
  if (kvs.any fun kv => decide (kv.1 = k)) = true then kvs.map (fun kv => if kv.1 = k then (kv.1, v) else kv) else kvs ++ [(k, v)]
def kdrop (kvs : List (κ × D)) (k : κ) : List (κ × D) := kvs.filter fun kv => decide (kv.1 ≠ k)
variable {K : PySem.W.Frag} {ρ : List Addr} {H : Hp}
theorem KDs.any {k : κ} : ∀ {a : List (κ × D)} {b : List (κ × V)}, KDs K ρ H a b → (b.any fun kv => decide (kv.1 = k)) = a.any fun kv => decide (kv.1 = k)
  | _, _, .nil => rfl
  | _, _, .cons r t => by
    simp only [List.any_cons]
    rw [KDs.any t, r.1]
theorem KDs.val {k : κ} : ∀ {a : List (κ × D)} {b : List (κ × V)}, KDs K ρ H a b → (∀ d, kget a k = some d → ∃ v, valV b k = some v ∧ DV K ρ H d v) ∧ (kget a k = none → valV b k = none)
  | _, _, .nil => ⟨fun _ h => by simp [kget] at h, fun _ => rfl⟩
  | p :: a, q :: b, .cons r t => by
    by_cases h : p.1 = k
    · have e1 : kget (p :: a) k = some p.2 := by simp [kget, List.find?_cons, h]
      have e2 : valV (q :: b) k = some q.2 := valV_pos (r.1 ▸ h)
      refine ⟨fun d e => ?_, fun e => by rw [e1] at e; cases e⟩
      rw [e1] at e
      exact ⟨q.2, e2, (Option.some.inj e) ▸ r.2⟩
    · have e1 : kget (p :: a) k = kget a k := by simp [kget, List.find?_cons, h]
      have e2 : valV (q :: b) k = valV b k := valV_neg (r.1 ▸ h)
      rw [e1, e2]
      exact KDs.val t
theorem KDs.app {a c : List (κ × D)} {b e : List (κ × V)} (h : KDs K ρ H a b) (h' : KDs K ρ H c e) : KDs K ρ H (a ++ c) (b ++ e) := by
  induction h with
  | nil => exact h'
  | cons r t ih => exact .cons r ih
theorem KDs.put {k : κ} {d : D} {v : V} (hd : DV K ρ H d v) {a : List (κ × D)} {b : List (κ × V)} (h : KDs K ρ H a b) : KDs K ρ H (kput a k d) (putK b k v) := by
  unfold kput putK
  rw [KDs.any h]
  split
  · have all : ∀ {a : List (κ × D)} {b : List (κ × V)}, KDs K ρ H a b → KDs K ρ H (a.map fun kv => if kv.1 = k then (kv.1, d) else kv) (b.map fun kv => if kv.1 = k then (kv.1, v) else kv) := fun h => by
      induction h with
      | nil => exact .nil
      | @cons p q _ _ r t ih =>
        refine .cons ?_ ih
        dsimp only
        rw [← r.1]
        split
        · exact ⟨rfl, hd⟩
        · exact r
    exact all h
  · exact h.app (.cons ⟨rfl, hd⟩ .nil)
theorem KDs.drop {k : κ} {a : List (κ × D)} {b : List (κ × V)} (h : KDs K ρ H a b) : KDs K ρ H (kdrop a k) (dropK b k) := by
  unfold kdrop dropK
  induction h with
  | nil => exact .nil
  | @cons p q _ _ r t ih =>
    simp only [List.filter_cons]
    rw [← r.1]
    split
    · exact .cons r ih
    · exact ih
theorem KDs.length {a : List (κ × D)} {b : List (κ × V)} (h : KDs K ρ H a b) : a.length = b.length := Paired.length h
end
/-- a key -/
def keyOf : D → Option Key
  | .int i => some (.inl i)
  | .str x => some (.inr x)
  | _ => none
theorem keyOf_ok {K : PySem.W.Frag} {ρ : List Addr} {H : Hp} {d : D} {v : V} {k : Key} (h : keyOf d = some k) (dv : DV K ρ H d v) : v = kV k := by
  cases d with
  | int i => simp [keyOf] at h; subst h; exact int_ok dv
  | str x => simp [keyOf] at h; subst h; exact str_ok dv
  | _ => simp [keyOf] at h
def dictOf (μ : Mem) : D → Option (List (Key × D))
  | .loc n => match μ.cells[n]? with
    | some (.dK kds) => some kds
    | _ => none
  | _ => none
theorem lk_rd {H : Hp} {a : Addr} {l : Bool} {u : HO} (h : Lk H a l u) : Rd H a u := by
  unfold Lk at h
  split at h
  · exact .inr h
  · exact .inl h
theorem dictOf_ok {K : PySem.W.Frag} {ρ : List Addr} {μ : Mem} {H : Hp} {d : D} {v : V} {kds : List (Key × D)} (rel : Rel K ρ μ H) (dv : DV K ρ H d v) (h : dictOf μ d = some kds) :
    ∃ n a kvs, d = .loc n ∧ ρ[n]? = some a ∧ v = .ref a ∧ μ.cells[n]? = some (.dK kds) ∧ Lk H a (μ.lkd n) (.dK kvs) ∧ KDs K ρ H kds kvs := by
  cases d with
  | loc n =>
    simp only [DV] at dv
    obtain ⟨a, h1, e⟩ := dv
    simp only [dictOf] at h
    split at h
    · rename_i es hc
      have := Option.some.inj h
      subst this
      obtain ⟨kvs, h2, h3⟩ := rel.cell n a _ h1 hc
      exact ⟨n, a, kvs, rfl, h1, e, hc, h2, h3⟩
    · cases h
  | _ => simp [dictOf] at h
/-- d[k], k in d: what is there -/
def dfind (μ : Mem) (d k : D) : Option (Option D) := (dictOf μ d).bind fun kds => (keyOf k).map fun k => kget kds k
theorem dfind_ok {K : PySem.W.Frag} {ρ : List Addr} {μ : Mem} {H : Hp} {d k : D} {x y : V} {o : Option D} (rel : Rel K ρ μ H) (dx : DV K ρ H d x) (dy : DV K ρ H k y) (h : dfind μ d k = some o) :
    ∃ a ov, x = .ref a ∧ DGet H a y ov ∧ (∀ r, o = some r → ∃ v, ov = some v ∧ DV K ρ H r v) ∧ (o = none → ov = none) := by
  unfold dfind at h
  cases h1 : dictOf μ d with
  | none => rw [h1] at h; cases h
  | some kds =>
    rw [h1] at h
    obtain ⟨key, h2, h3⟩ := Option.map_eq_some_iff.mp h
    obtain ⟨n, a, kvs, rfl, r1, rfl, r2, r3, r4⟩ := dictOf_ok rel dx h1
    refine ⟨a, valV kvs key, rfl, .inl ⟨kvs, key, lk_rd r3, keyOf_ok h2 dy, rfl⟩, fun r e => ?_, fun e => ?_⟩
    · exact (KDs.val r4).1 r (h3.trans e)
    · exact (KDs.val r4).2 (h3.trans e)
/-! ### in -/
abbrev Hu (X : Cx) : Prop := X.A.units + 100 < cLine
theorem Hu.h1 {X : Cx} (h : Hu X) : X.A.units + 1 < cLine := Nat.lt_of_le_of_lt (by omega) h
theorem Hu.h64 {X : Cx} (h : Hu X) : X.A.units + 64 < cLine := Nat.lt_of_le_of_lt (by omega) h
theorem Hu.h65 {X : Cx} (h : Hu X) : X.A.units + 65 < cLine := Nat.lt_of_le_of_lt (by omega) h
theorem Hu.of {X : Cx} {k : Nat} (h : Room k X.A) : Hu X := by have := h.un; unfold Hu; omega
def rInDict : R2 := fun y x H Q => ∃ a o, x = .ref a ∧ DGet H a y o ∧ Q (.bl o.isSome) H
def rNotInDict : R2 := fun y x H Q => ∃ a o, x = .ref a ∧ DGet H a y o ∧ Q (.bl (!o.isSome)) H
theorem op_inDict {X : Cx} (hu : Hu X) : OpR X (compareOp .In) rInDict := by
  intro pins s σ H x y v u Q I rx ry h
  obtain ⟨a, o, rfl, g, q⟩ := h
  cases ry
  exact d_in hu.h1 I g rx fun s3 I3 => ⟨.bl o.isSome, H, I3, rfl, q⟩
theorem op_notInDict {X : Cx} (hu : Hu X) : OpR X (compareOp .NotIn) rNotInDict := by
  intro pins s σ H x y v u Q I rx ry h
  obtain ⟨a, o, rfl, g, q⟩ := h
  cases ry
  exact d_notIn hu.h1 I g rx fun s3 I3 => ⟨.bl (!o.isSome), H, I3, rfl, q⟩
def rInStr : R2 := fun x y H Q => ∃ i j, x = .str i ∧ y = .str j ∧ Q (.bl (!(Builtin.Str.occurrences j i 0 j.length 1).isEmpty)) H
def rNotInStr : R2 := fun x y H Q => ∃ i j, x = .str i ∧ y = .str j ∧ Q (.bl (!(!(Builtin.Str.occurrences j i 0 j.length 1).isEmpty))) H
def rInSign : R2 := fun x y H Q => ∃ (c : Nat) (z : Str), x = .str ⟨#[c]⟩ ∧ y = .str z ∧ Q (.bl (decide (c ∈ z.cps.toList))) H
def rNotInSign : R2 := fun x y H Q => ∃ (c : Nat) (z : Str), x = .str ⟨#[c]⟩ ∧ y = .str z ∧ Q (.bl (!decide (c ∈ z.cps.toList))) H
def rInU (K : PySem.W.Frag) : R2 := fun x y H Q => rIn K false x y H Q ∨ rInD K x y H Q ∨ rInDict x y H Q ∨ rInSign x y H Q
def rNotInU (K : PySem.W.Frag) : R2 := fun x y H Q => rIn K true x y H Q ∨ rNotInD K x y H Q ∨ rNotInDict x y H Q ∨ rNotInSign x y H Q
theorem op_inU {X : Cx} (hu : Hu X) : OpR X (compareOp .In) (rInU X.K) := op_in_seq.or ((op_inD hu.h65).or ((op_inDict hu).or op_in_sign))
theorem op_notInU {X : Cx} (hu : Hu X) : OpR X (compareOp .NotIn) (rNotInU X.K) := op_notIn_seq.or ((op_notInD hu.h65).or ((op_notInDict hu).or op_notIn_sign))
/-- is the sign c in the text -/
def signIn : D → D → Option Bool
  | .str x, .str z => if x.cps.size = 1 then some (decide (x.cps.getD 0 0 ∈ z.cps.toList)) else none
  | _, _ => none
def seqOf (μ : Mem) : D → Option (List D)
  | .tup ds => some ds
  | d => lstOf μ d
def cIn (d e : D) (μ : Mem) : Res Bool := match signIn d e with
  | some b => .ok b μ
  | none => match dfind μ e d with
    | some o => .ok o.isSome μ
    | none => match seqOf μ e with
      | none => .bad
      | some ds => if (d.sc && ds.all D.sc) = true then .ok (ds.any fun z => D.eqv z d) μ else match rsv μ 8 d, rsv μ 8 e with
        | some p, some (.lst qs) => if (p.fits && (D.lst qs).fits) = true then .ok (qs.any fun z => D.eqv z p) μ else .bad
        | _, _ => .bad
def cNotIn (d e : D) (μ : Mem) : Res Bool := (cIn d e μ).bind fun b μ => .ok (!b) μ
theorem sc_flat {K : PySem.W.Frag} {ρ : List Addr} {H : Hp} {d : D} {v : V} (h : d.sc = true) (dv : DV K ρ H d v) : flatV v = true := by
  cases d <;> simp [D.sc] at h
  · rw [non_ok dv]; rfl
  · rw [bl_ok dv]; rfl
  · rw [int_ok dv]; rfl
  · rw [str_ok dv]; rfl
theorem sc_eqV {K : PySem.W.Frag} {ρ : List Addr} {H : Hp} {d e : D} {v u : V} (h : d.sc = true) (h' : e.sc = true) (dv : DV K ρ H d v) (du : DV K ρ H e u) : eqV v u = D.eqv d e := by
  cases d <;> simp [D.sc] at h <;> cases e <;> simp [D.sc] at h'
  all_goals
    first
      | rw [non_ok dv]
      | rw [bl_ok dv]
      | rw [int_ok dv]
      | rw [str_ok dv]
  all_goals
    first
      | rw [non_ok du]
      | rw [bl_ok du]
      | rw [int_ok du]
      | rw [str_ok du]
  all_goals simp [eqV, D.eqv]
theorem scs_flat {K : PySem.W.Frag} {ρ : List Addr} {H : Hp} : ∀ {ds : List D} {vs : List V}, ds.all D.sc = true → DVs K ρ H ds vs → vs.all flatV = true
  | [], vs, _, h => by simp only [DVs] at h; subst h; rfl
  | d :: ds, vs, hs, h => by
    simp only [DVs] at h
    obtain ⟨v, r, rfl, h1, h2⟩ := h
    simp only [List.all_cons, Bool.and_eq_true] at hs ⊢
    exact ⟨sc_flat hs.1 h1, scs_flat hs.2 h2⟩
theorem scs_in {K : PySem.W.Frag} {ρ : List Addr} {H : Hp} {d : D} {v : V} (hd : d.sc = true) (dv : DV K ρ H d v) : ∀ {ds : List D} {vs : List V}, ds.all D.sc = true → DVs K ρ H ds vs → inV v vs = ds.any fun z => D.eqv z d
  | [], vs, _, h => by simp only [DVs] at h; subst h; rfl
  | e :: ds, vs, hs, h => by
    simp only [DVs] at h
    obtain ⟨u, r, rfl, h1, h2⟩ := h
    simp only [List.all_cons, Bool.and_eq_true] at hs
    have ih := scs_in hd dv hs.2 h2
    unfold inV at ih ⊢
    simp only [List.any_cons]
    rw [sc_eqV hs.1 hd h1 dv, ih]
theorem pures_any {p : D} (hp : p.pure = true) : ∀ {qs : List D}, D.pures qs = true → ((toPys qs).any fun z => PyData.eqv z (toPy p)) = qs.any fun z => D.eqv z p
  | [], _ => rfl
  | q :: qs, h => by
    simp only [D.pures, Bool.and_eq_true] at h
    simp only [toPys, List.any_cons]
    rw [eqv_py q p h.1 hp, pures_any hp h.2]
theorem seqOf_ok {K : PySem.W.Frag} {ρ : List Addr} {μ : Mem} {H : Hp} {d : D} {v : V} {ds : List D} (rel : Rel K ρ μ H) (dv : DV K ρ H d v) (h : seqOf μ d = some ds) : ∃ a vs, v = .ref a ∧ (SqL K H a vs ∨ SqT K H a vs) ∧ DVs K ρ H ds vs := by
  cases d with
  | tup es =>
    have : es = ds := by simpa [seqOf] using h
    subst this
    obtain ⟨a, vs, e, h1, h2⟩ := tup_ok dv
    exact ⟨a, vs, e, .inr h1.sq, h2⟩
  | _ =>
    obtain ⟨a, vs, e, h1, h2⟩ := lstOf_ok rel dv h
    exact ⟨a, vs, e, .inl (rd_sq h1), h2⟩
theorem in_core {K : PySem.W.Frag} {ρ : List Addr} {μ : Mem} {H : Hp} {d e : D} {x y : V} {b : Bool} {μ' : Mem} (rel : Rel K ρ μ H) (dx : DV K ρ H d x) (dy : DV K ρ H e y) (h : cIn d e μ = .ok b μ') (Q : VK) :
    μ' = μ ∧ (Q (.bl b) H → rInU K x y H Q) ∧ (Q (.bl !b) H → rNotInU K x y H Q) := by
  unfold cIn at h
  split at h
  · rename_i b' hs
    have h' : b' = b ∧ μ = μ' := by simpa using h
    obtain ⟨rfl, rfl⟩ := h'
    have : ∃ (c : Nat) (z : Str), x = .str ⟨#[c]⟩ ∧ y = .str z ∧ decide (c ∈ z.cps.toList) = b' := by
      unfold signIn at hs
      split at hs
      · rename_i x' z'
        split at hs
        · rename_i h1
          obtain ⟨⟨l⟩⟩ := x'
          match l, h1 with
          | [c], _ =>
            refine ⟨c, z', str_ok dx, str_ok dy, ?_⟩
            simpa using hs
        · cases hs
      · cases hs
    obtain ⟨c, z, h1, h2, h3⟩ := this
    exact ⟨rfl, fun q => .inr (.inr (.inr ⟨c, z, h1, h2, by rw [h3]; exact q⟩)), fun q => .inr (.inr (.inr ⟨c, z, h1, h2, by rw [h3]; exact q⟩))⟩
  · split at h
    · rename_i o ho
      have h' : o.isSome = b ∧ μ = μ' := by simpa using h
      obtain ⟨rfl, rfl⟩ := h'
      obtain ⟨a, ov, h1, h2, h3, h4⟩ := dfind_ok rel dy dx ho
      have e : ov.isSome = o.isSome := by
        cases o with
        | none => rw [h4 rfl]; rfl
        | some r => obtain ⟨v, hv, _⟩ := h3 r rfl; rw [hv]; rfl
      exact ⟨rfl, fun q => .inr (.inr (.inl ⟨a, ov, h1, h2, by rw [e]; exact q⟩)), fun q => .inr (.inr (.inl ⟨a, ov, h1, h2, by rw [e]; exact q⟩))⟩
    · split at h
      · cases h
      · rename_i ds hq
        split at h
        · rename_i hs
          simp only [Bool.and_eq_true] at hs
          have h' : (ds.any fun z => D.eqv z d) = b ∧ μ = μ' := by simpa using h
          obtain ⟨hb, rfl⟩ := h'
          obtain ⟨a, vs, h1, h2, h3⟩ := seqOf_ok rel dy hq
          have ib : inV x vs = b := (scs_in hs.1 dx hs.2 h3).trans hb
          refine ⟨rfl, fun q => .inl ⟨a, vs, h1, h2, sc_flat hs.1 dx, scs_flat hs.2 h3, ?_⟩, fun q => .inl ⟨a, vs, h1, h2, sc_flat hs.1 dx, scs_flat hs.2 h3, ?_⟩⟩
          · simp only [Bool.false_eq_true, if_false]; rw [ib]; exact q
          · simp only [if_true]; rw [ib]; exact q
        · split at h
          · rename_i p qs hp hqs
            split at h
            · rename_i hf
              simp only [Bool.and_eq_true] at hf
              have h' : (qs.any fun z => D.eqv z p) = b ∧ μ = μ' := by simpa using h
              obtain ⟨hb, rfl⟩ := h'
              have h1 := rsv_dp rel 8 d p x hp dx
              have h2 := rsv_dp rel 8 e _ y hqs dy
              have pq : D.pures qs = true := by simpa [D.pure] using rsv_pure 8 e _ hqs
              have e2 := (pures_any (rsv_pure 8 d p hp) pq).trans hb
              simp only [toPy] at h2
              have hf2 : SeqAt.shaped (.list (toPys qs)) = true := by
                have := hf.2
                unfold D.fits at this
                simpa only [toPy] using this
              exact ⟨rfl, fun q => .inr (.inl ⟨_, _, h1, h2, hf.1, hf2, by rw [e2]; exact q⟩), fun q => .inr (.inl ⟨_, _, h1, h2, hf.1, hf2, by rw [e2]; exact q⟩)⟩
            · cases h
          · cases h
theorem cIn_noerr {d e : D} {μ : Mem} {C : Addr} {w : D} {μ' : Mem} : cIn d e μ ≠ .err C w μ' := by
  unfold cIn
  repeat (first | split | exact fun h => nomatch h)
theorem cm_in {K : PySem.W.Frag} : CmpM K (rInU K) cIn := by
  intro d e ρ μ H x y Q E rel dx dy ok
  cases h : cIn d e μ with
  | ok b μ' =>
    rw [h] at ok
    obtain ⟨rfl, hc, _⟩ := in_core rel dx dy h Q
    exact hc (ok.now rel rfl)
  | err C w μ' => exact absurd h cIn_noerr
  | bad => rw [h] at ok; exact ok.elim
theorem cm_notIn {K : PySem.W.Frag} : CmpM K (rNotInU K) cNotIn := by
  intro d e ρ μ H x y Q E rel dx dy ok
  unfold cNotIn at ok
  cases h : cIn d e μ with
  | ok b μ' =>
    rw [h] at ok
    obtain ⟨rfl, _, hc⟩ := in_core rel dx dy h Q
    exact hc (Okr.now (b := V.bl !b) ok rel rfl)
  | err C w μ' => exact absurd h cIn_noerr
  | bad => rw [h] at ok; exact ok.elim
/-! ### subscripts -/
def rIxDict : R2 := fun x y H Q => ∃ a v, x = .ref a ∧ DGet H a y (some v) ∧ Q v H
theorem ix_dict {X : Cx} (hu : Hu X) : IxR X rIxDict := by
  intro value slice pins s σ H x y v u Q I rx ry h hs
  obtain ⟨a, r, rfl, g, q⟩ := h
  cases rx
  exact PyProof.Rows.tail_any (dict_typeIs I g) PySem.F.slot_dict_getitem.lookup (d_getItem hu.h1 I g ry fun w' s3 I3 rw' => ⟨r, H, I3, rw', q⟩) hs
def rIxU (K : PySem.W.Frag) : R2 := fun x y H Q => rIx K x y H Q ∨ rIxDict x y H Q
theorem ix_U {X : Cx} (hu : Hu X) : IxR X (rIxU X.K) := ix_seq.or (ix_dict hu)
def fIx (d e : D) (μ : Mem) : Res D := match dfind μ d e with
  | some (some r) => .ok r μ
  | some none => .bad
  | none => match e with
    | .int i => match d with
      | .str x => if x.length ≤ sizeLine then match atI x.cps.toList i with
          | some c => .ok (.str ⟨#[c]⟩) μ
          | none => .bad
        else .bad
      | d => match (seqOf μ d).bind fun ds => atI ds i with
        | some r => .ok r μ
        | none => .bad
    | _ => .bad
theorem atI_DVs {K : PySem.W.Frag} {ρ : List Addr} {H : Hp} {ds : List D} {vs : List V} {i : Int} {r : D} (h : DVs K ρ H ds vs) (e : atI ds i = some r) : ∃ v, atI vs i = some v ∧ DV K ρ H r v := by
  unfold atI at e ⊢
  rw [← h.length]
  cases q : ixN ds.length i with
  | none => rw [q] at e; cases e
  | some j =>
    rw [q] at e
    exact h.get e
theorem opM_ix {K : PySem.W.Frag} : OpM K (rIxU K) fIx := by
  intro d e ρ μ H x y Q E rel dx dy ok
  unfold fIx at ok
  split at ok
  · rename_i r hr
    obtain ⟨a, ov, h1, h2, h3, _⟩ := dfind_ok rel dx dy hr
    obtain ⟨v, rfl, dv⟩ := h3 r rfl
    exact .inr ⟨a, v, h1, h2, ok.now rel dv⟩
  · exact ok.elim
  · split at ok
    · rename_i i _
      split at ok
      · rename_i z _
        split at ok
        · rename_i hz
          split at ok
          · rename_i c hc
            exact .inl (.inr (.inr ⟨z, i, c, str_ok dx, int_ok dy, hz, hc, ok.now rel dv_str⟩))
          · exact ok.elim
        · exact ok.elim
      · split at ok
        · rename_i r hr
          obtain ⟨ds, h1, h2⟩ := Option.bind_eq_some_iff.mp hr
          obtain ⟨a, vs, e1, e2, e3⟩ := seqOf_ok rel dx h1
          obtain ⟨v, e4, dv⟩ := atI_DVs e3 h2
          rcases e2 with e2 | e2
          · exact .inl (.inl ⟨a, vs, i, v, e1, int_ok dy, e2, e4, ok.now rel dv⟩)
          · exact .inl (.inr (.inl ⟨a, vs, i, v, e1, int_ok dy, e2, e4, ok.now rel dv⟩))
        · exact ok.elim
    · exact ok.elim
section
variable {X : Cx} {hx : Option HX} {W : WX} {pos : Pos} {a b : Expr} {ma mb : ME}
theorem re_ix (hu : Hu X) (ha : RE X hx W a ma) (hb : RE X hx W b mb) (hs : PlainIx b := by exact fun _ _ => rfl) : RE X hx W (.Subscript a b pos) (mop fIx ma mb) := by
  obtain ⟨ta, pa, ra⟩ := ha.ex
  obtain ⟨tb, pb, rb⟩ := hb.ex
  exact ⟨⟨_, pe_ix (ix_U hu) pa pb hs, Ref.two stay_DV ra rb fun d e ρ μ δ σ H x y Q rel env dx dy ok => opM_ix d e ρ μ H x y Q _ rel dx dy ok⟩⟩
end
end Doz
end
section
/-! Doz5: displays, slices, built-ins, fields. -/
namespace Doz
open PySem L2
/-! ### displays -/
def mtup (m : MX (List D)) : ME := bindM m fun ds => fun _ μ => if ds.length ≤ sizeLine then .ok (.tup ds) μ else .bad
def mlst (m : MX (List D)) : MX (List D) := bindM m fun ds => fun _ μ => if ds.length ≤ sizeLine then .ok ds μ else .bad
section
variable {X : Cx} {hx : Option HX} {W : WX} {pos : Pos} {es : List Expr} {m : MX (List D)}
theorem re_tup {k : Nat} (h : RA X hx W es m) : RE X hx W (.Tuple es k pos) (mtup m) := by
  obtain ⟨t, p, r⟩ := h.ex
  refine ⟨⟨_, pe_tup p, fun ρ0 μ0 δ σ H0 Q rel0 env0 ok0 => r ρ0 μ0 δ σ H0 _ rel0 env0 (Okr.bind ok0 fun ds μ ρ H vs pr fz rel dv ok => ?_)⟩⟩
  dsimp only at ok
  split at ok
  · rename_i hl
    exact ⟨by rw [← dv.length]; exact hl, fun q hq => okr_tup rel hq dv ok⟩
  · exact ok.elim
theorem rn_lst (h : RA X hx W es m) : RN X hx W (.List es pos) (mlst m) := by
  obtain ⟨t, p, r⟩ := h.ex
  refine ⟨⟨_, pe_lst p, fun ρ0 μ0 δ σ H0 Q rel0 env0 ok0 => r ρ0 μ0 δ σ H0 _ rel0 env0 (OkN.bind ok0 fun ds μ ρ H vs pr fz rel dv ok => ?_)⟩⟩
  dsimp only at ok
  split at ok
  · rename_i hl
    exact ⟨by rw [← dv.length]; exact hl, fun q hq => OkN.new rel hq dv ok⟩
  · exact ok.elim
end
/-! ### slices -/
def cutD {α : Type} (xs : List α) (lo hi : Option Int) : List α := (xs.drop (HT.sIx xs.length 0 lo)).take (HT.sIx xs.length xs.length hi - HT.sIx xs.length 0 lo)
theorem cutD_DVs {K : PySem.W.Frag} {ρ : List Addr} {H : Hp} {ds : List D} {vs : List V} (lo hi : Option Int) (h : DVs K ρ H ds vs) : DVs K ρ H (cutD ds lo hi) (cutV vs lo hi) := by
  unfold cutD cutV
  rw [← h.length]
  exact (h.drop _).take _
structure RO (X : Cx) (hx : Option HX) (W : WX) (e : Option Expr) (m : MX (Option Int)) : Prop where
  ex : ∃ t : TO, PO X e t ∧ Ref X.K hx W (fun _ _ a b => a = b) t m
def mpart (m : ME) : MX (Option Int) := bindM m fun d => fun _ μ => match d with
  | .int i => .ok (some i) μ
  | _ => .bad
def mnopart : MX (Option Int) := fun _ μ => .ok none μ
theorem ro_none {X : Cx} {hx : Option HX} {W : WX} : RO X hx W none mnopart := ⟨⟨_, po_none, fun ρ μ δ σ H Q rel env ok => Okr.now (b := (none : Option Int)) ok rel rfl⟩⟩
theorem ro_some {X : Cx} {hx : Option HX} {W : WX} {e : Expr} {m : ME} (h : RE X hx W e m) : RO X hx W (some e) (mpart m) := by
  obtain ⟨t, p, r⟩ := h.ex
  refine ⟨⟨_, po_some p, fun ρ0 μ0 δ σ H0 Q rel0 env0 ok0 => r ρ0 μ0 δ σ H0 _ rel0 env0 (Okr.bind ok0 fun d μ ρ H v pr fz rel dv ok => ?_)⟩⟩
  cases d with
  | int i => exact ⟨i, int_ok dv, Okr.now (b := some i) ok rel rfl⟩
  | _ => exact ok.elim
def rSlU (K : PySem.W.Frag) : V → Option Int → Option Int → Hp → VK → Prop := fun x lo hi H Q => rSlL K x lo hi H Q ∨ rSlA K x lo hi H Q ∨ rSlS x lo hi H Q
theorem sl_U {X : Cx} : SlR X (rSlU X.K) := sl_list.or (sl_tupA.or sl_str)
def fSl (x : D) (lo hi : Option Int) (μ : Mem) : Res D := match x with
  | .str z => if z.length ≤ sizeLine then .ok (.str (cutS z lo hi)) μ else .bad
  | .tup ds => .ok (.tup (cutD ds lo hi)) μ
  | d => match lstOf μ d with
    | some ds => .ok (.lst (cutD ds lo hi)) μ
    | none => .bad
def mslice (f : D → Option Int → Option Int → Mem → Res D) (a : ME) (l u : MX (Option Int)) : ME := bindM a fun x => bindM l fun lo => bindM u fun hi => fun _ μ => f x lo hi μ
theorem Ref.three {α1 β1 α2 β2 α3 β3 γ ζ : Type} {K : PySem.W.Frag} {hx : Option HX} {W : WX} {R1 : Rl α1 β1} {R2 : Rl α2 β2} {R3 : Rl α3 β3} {R' : Rl γ ζ} {t1 : TX β1} {t2 : TX β2} {t3 : TX β3} {m1 : MX α1} {m2 : MX α2} {m3 : MX α3}
    {k : β1 → β2 → β3 → St → Hp → (ζ → Hp → Prop) → Prop} {f : α1 → α2 → α3 → MX γ} (s1 : Stay R1) (s2 : Stay R2) (h1 : Ref K hx W R1 t1 m1) (h2 : Ref K hx W R2 t2 m2) (h3 : Ref K hx W R3 t3 m3)
    (hk : ∀ a1 a2 a3 ρ μ δ σ H b1 b2 b3 (Q : ζ → Hp → Prop), Rel K ρ μ H → EnvR K ρ H hx δ σ → R1 ρ H a1 b1 → R2 ρ H a2 b2 → R3 ρ H a3 b3 → Okr K R' ρ H (f a1 a2 a3 δ μ) Q (fun c d H' => W c d σ H') → k b1 b2 b3 σ H Q) :
    Ref K hx W R' (fun σ H Q => t1 σ H fun b1 H1 => t2 σ H1 fun b2 H2 => t3 σ H2 fun b3 H3 => k b1 b2 b3 σ H3 Q) (bindM m1 fun a1 => bindM m2 fun a2 => bindM m3 fun a3 => f a1 a2 a3) := by
  intro ρ0 μ0 δ σ H0 Q rel0 env0 ok0
  refine h1 ρ0 μ0 δ σ H0 _ rel0 env0 (Okr.bind ok0 fun a1 μ1 ρ1 H1 b1 p1 f1 rel1 r1 ok1 => ?_)
  refine h2 ρ1 μ1 δ σ H1 _ rel1 (env0.mono p1 f1) (Okr.bind ok1 fun a2 μ2 ρ2 H2 b2 p2 f2 rel2 r2 ok2 => ?_)
  refine h3 ρ2 μ2 δ σ H2 _ rel2 ((env0.mono p1 f1).mono p2 f2) (Okr.bind ok2 fun a3 μ3 ρ3 H3 b3 p3 f3 rel3 r3 ok3 => ?_)
  exact hk a1 a2 a3 ρ3 μ3 δ σ H3 b1 b2 b3 Q rel3 (((env0.mono p1 f1).mono p2 f2).mono p3 f3) (s1 _ _ _ _ _ _ (p2.trans p3) (f2.trans f3) r1) (s2 _ _ _ _ _ _ p3 f3 r2) r3 ok3
theorem RefN.three {α1 β1 α2 β2 α3 β3 : Type} {K : PySem.W.Frag} {hx : Option HX} {W : WX} {R1 : Rl α1 β1} {R2 : Rl α2 β2} {R3 : Rl α3 β3} {t1 : TX β1} {t2 : TX β2} {t3 : TX β3} {m1 : MX α1} {m2 : MX α2} {m3 : MX α3}
    {k : β1 → β2 → β3 → St → Hp → VK → Prop} {f : α1 → α2 → α3 → MX (List D)} (s1 : Stay R1) (s2 : Stay R2) (h1 : Ref K hx W R1 t1 m1) (h2 : Ref K hx W R2 t2 m2) (h3 : Ref K hx W R3 t3 m3)
    (hk : ∀ a1 a2 a3 ρ μ δ σ H b1 b2 b3 (Q : VK), Rel K ρ μ H → EnvR K ρ H hx δ σ → R1 ρ H a1 b1 → R2 ρ H a2 b2 → R3 ρ H a3 b3 → OkN K ρ H (f a1 a2 a3 δ μ) Q (fun c d H' => W c d σ H') → k b1 b2 b3 σ H Q) :
    RefN K hx W (fun σ H Q => t1 σ H fun b1 H1 => t2 σ H1 fun b2 H2 => t3 σ H2 fun b3 H3 => k b1 b2 b3 σ H3 Q) (bindM m1 fun a1 => bindM m2 fun a2 => bindM m3 fun a3 => f a1 a2 a3) := by
  intro ρ0 μ0 δ σ H0 Q rel0 env0 ok0
  refine h1 ρ0 μ0 δ σ H0 _ rel0 env0 (OkN.bind ok0 fun a1 μ1 ρ1 H1 b1 p1 f1 rel1 r1 ok1 => ?_)
  refine h2 ρ1 μ1 δ σ H1 _ rel1 (env0.mono p1 f1) (OkN.bind ok1 fun a2 μ2 ρ2 H2 b2 p2 f2 rel2 r2 ok2 => ?_)
  refine h3 ρ2 μ2 δ σ H2 _ rel2 ((env0.mono p1 f1).mono p2 f2) (OkN.bind ok2 fun a3 μ3 ρ3 H3 b3 p3 f3 rel3 r3 ok3 => ?_)
  exact hk a1 a2 a3 ρ3 μ3 δ σ H3 b1 b2 b3 Q rel3 (((env0.mono p1 f1).mono p2 f2).mono p3 f3) (s1 _ _ _ _ _ _ (p2.trans p3) (f2.trans f3) r1) (s2 _ _ _ _ _ _ p3 f3 r2) r3 ok3
theorem stay_eq {α : Type} : Stay (fun (_ : List Addr) (_ : Hp) (a b : α) => a = b) := fun _ _ _ _ _ _ _ _ h => h
section
variable {X : Cx} {hx : Option HX} {W : WX} {pos p2 : Pos} {a : Expr} {lo hi : Option Expr} {ma : ME} {ml mu : MX (Option Int)}
theorem re_slice (ha : RE X hx W a ma) (hl : RO X hx W lo ml) (hh : RO X hx W hi mu) : RE X hx W (.Subscript a (.Slice lo hi none p2) pos) (mslice fSl ma ml mu) := by
  obtain ⟨ta, pa, ra⟩ := ha.ex
  obtain ⟨tl, pl, rl⟩ := hl.ex
  obtain ⟨th, ph, rh⟩ := hh.ex
  refine ⟨⟨_, pe_fzo (pe_slice sl_U pa pl ph), Ref.three (k := fun x l u σ H Q => rSlU X.K x l u H (Frzn Q)) stay_DV stay_eq ra rl rh fun d l u ρ μ δ σ H x l' u' Q rel env dx el eu ok => ?_⟩⟩
  subst el eu
  unfold fSl at ok
  split at ok
  · split at ok
    · rename_i hz
      exact .inr (.inr ⟨_, str_ok dx, hz, .inl (ok.now rel dv_str)⟩)
    · exact ok.elim
  · obtain ⟨b, vs, e1, e2, e3⟩ := tup_ok dx
    refine .inr (.inl ⟨b, vs, e1, e2.sq, fun hw => ?_, fun hw p hp => .inl (okr_tup rel hp (cutD_DVs l u e3) ok)⟩)
    rename_i ds
    have e : cutD ds l u = ds := by
      unfold cutD
      rw [e3.length, hw.1, hw.2]
      simp [← e3.length]
    rw [e] at ok
    rw [← e1]
    exact .inl (ok.now rel dx)
  · split at ok
    · rename_i ds hd
      obtain ⟨b, vs, e1, e2, e3⟩ := lstOf_ok rel dx hd
      exact .inl ⟨b, vs, e1, rd_sq e2, fun p hp => okr_new rel hp (cutD_DVs l u e3) ok⟩
    · exact ok.elim
/-- a slice of a list as a new mutable list -/
def msliceN (a : ME) (l u : MX (Option Int)) : MX (List D) := bindM a fun x => bindM l fun lo => bindM u fun hi => fun _ μ => match lstOf μ x with
  | some ds => .ok (cutD ds lo hi) μ
  | none => .bad
theorem rn_slice (ha : RE X hx W a ma) (hl : RO X hx W lo ml) (hh : RO X hx W hi mu) : RN X hx W (.Subscript a (.Slice lo hi none p2) pos) (msliceN ma ml mu) := by
  obtain ⟨ta, pa, ra⟩ := ha.ex
  obtain ⟨tl, pl, rl⟩ := hl.ex
  obtain ⟨th, ph, rh⟩ := hh.ex
  refine ⟨⟨_, pe_slice sl_list pa pl ph, RefN.three (k := fun x l u σ H Q => rSlL X.K x l u H Q) stay_DV stay_eq ra rl rh fun d l u ρ μ δ σ H x l' u' Q rel env dx el eu ok => ?_⟩⟩
  subst el eu
  split at ok
  · rename_i ds hd
    obtain ⟨b, vs, e1, e2, e3⟩ := lstOf_ok rel dx hd
    exact ⟨b, vs, e1, rd_sq e2, fun p hp => OkN.new rel hp (cutD_DVs l u e3) ok⟩
  · exact ok.elim
end
/-! ### built-in functions and types by name -/
def CallF (K : PySem.W.Frag) (r : List V → Hp → VK → Prop) (f : List D → Mem → Res D) : Prop :=
  ∀ ds ρ μ H xs (Q : VK) (E : XK), Rel K ρ μ H → DVs K ρ H ds xs → Okr K (DV K) ρ H (f ds μ) Q E → r xs H (Frzn Q)
def CallN (K : PySem.W.Frag) (r : List V → Hp → VK → Prop) (f : List D → Mem → Res (List D)) : Prop :=
  ∀ ds ρ μ H xs (Q : VK) (E : XK), Rel K ρ μ H → DVs K ρ H ds xs → OkN K ρ H (f ds μ) Q E → r xs H Q
def mcall {α : Type} (f : List D → Mem → Res α) (m : MX (List D)) : MX α := bindM m fun ds => fun _ μ => f ds μ
section
variable {X : Cx} {hx : Option HX} {W : WX} {x : Str} {p pos : Pos} {e : Expr} {es : List Expr} {m : MX (List D)} {id T : String} {r : List V → Hp → VK → Prop}
theorem re_callB {f : List D → Mem → Res D} (hc : CallR X (.builtin id) r) (cf : CallF X.K r f) (hm : X.mg x = none) (hv : bootBuiltins x = some (.builtin id)) (ha : RA X hx W (e :: es) m) (hg : Gl X x := by rfl) (hn : x ≠ "__name__" := by decide) (hdb : (x == ("__debug__" : Str)) = false := by decide)
    (he : starEach (e :: es) X.env = (false, eval e X.env) :: starEach es X.env := by rfl) (hpl : (backTo pos (starEach es X.env)).any (·.1) = false := by rfl) : RE X hx W (.Call (.Name x p) (e :: es) [] pos) (mcall f m) := by
  obtain ⟨t, pt, rt⟩ := ha.ex
  exact ⟨⟨_, pe_fzo (pe_callB hc hg hm hv pt hn hdb he hpl), fun ρ0 μ0 δ σ H0 Q rel0 env0 ok0 => rt ρ0 μ0 δ σ H0 _ rel0 env0 (Okr.bind ok0 fun ds μ ρ H vs pr fz rel dv ok => cf ds ρ μ H vs Q _ rel dv ok)⟩⟩
theorem re_callT {f : List D → Mem → Res D} (hc : CallR X (.type T) r) (cf : CallF X.K r f) (hm : X.mg x = none) (hv : bootBuiltins x = some (.type T)) (ha : RA X hx W (e :: es) m) (hg : Gl X x := by rfl) (hn : x ≠ "__name__" := by decide) (hdb : (x == ("__debug__" : Str)) = false := by decide)
    (he : starEach (e :: es) X.env = (false, eval e X.env) :: starEach es X.env := by rfl) (hpl : (backTo pos (starEach es X.env)).any (·.1) = false := by rfl) : RE X hx W (.Call (.Name x p) (e :: es) [] pos) (mcall f m) := by
  obtain ⟨t, pt, rt⟩ := ha.ex
  exact ⟨⟨_, pe_fzo (pe_callTy hc hg hm hv pt hn hdb he hpl), fun ρ0 μ0 δ σ H0 Q rel0 env0 ok0 => rt ρ0 μ0 δ σ H0 _ rel0 env0 (Okr.bind ok0 fun ds μ ρ H vs pr fz rel dv ok => cf ds ρ μ H vs Q _ rel dv ok)⟩⟩
theorem rn_callB {f : List D → Mem → Res (List D)} (hc : CallR X (.builtin id) r) (cf : CallN X.K r f) (hm : X.mg x = none) (hv : bootBuiltins x = some (.builtin id)) (ha : RA X hx W (e :: es) m) (hg : Gl X x := by rfl) (hn : x ≠ "__name__" := by decide) (hdb : (x == ("__debug__" : Str)) = false := by decide)
    (he : starEach (e :: es) X.env = (false, eval e X.env) :: starEach es X.env := by rfl) (hpl : (backTo pos (starEach es X.env)).any (·.1) = false := by rfl) : RN X hx W (.Call (.Name x p) (e :: es) [] pos) (mcall f m) := by
  obtain ⟨t, pt, rt⟩ := ha.ex
  exact ⟨⟨_, pe_callB hc hg hm hv pt hn hdb he hpl, fun ρ0 μ0 δ σ H0 Q rel0 env0 ok0 => rt ρ0 μ0 δ σ H0 _ rel0 env0 (OkN.bind ok0 fun ds μ ρ H vs pr fz rel dv ok => cf ds ρ μ H vs Q _ rel dv ok)⟩⟩
theorem rn_callT {f : List D → Mem → Res (List D)} (hc : CallR X (.type T) r) (cf : CallN X.K r f) (hm : X.mg x = none) (hv : bootBuiltins x = some (.type T)) (ha : RA X hx W (e :: es) m) (hg : Gl X x := by rfl) (hn : x ≠ "__name__" := by decide) (hdb : (x == ("__debug__" : Str)) = false := by decide)
    (he : starEach (e :: es) X.env = (false, eval e X.env) :: starEach es X.env := by rfl) (hpl : (backTo pos (starEach es X.env)).any (·.1) = false := by rfl) : RN X hx W (.Call (.Name x p) (e :: es) [] pos) (mcall f m) := by
  obtain ⟨t, pt, rt⟩ := ha.ex
  exact ⟨⟨_, pe_callTy hc hg hm hv pt hn hdb he hpl, fun ρ0 μ0 δ σ H0 Q rel0 env0 ok0 => rt ρ0 μ0 δ σ H0 _ rel0 env0 (OkN.bind ok0 fun ds μ ρ H vs pr fz rel dv ok => cf ds ρ μ H vs Q _ rel dv ok)⟩⟩
end
section
variable {K : PySem.W.Frag} {ρ : List Addr} {H : Hp}
theorem DVs.one {d : D} {xs : List V} (h : DVs K ρ H [d] xs) : ∃ v, xs = [v] ∧ DV K ρ H d v := by
  simp only [DVs] at h
  obtain ⟨v, r, rfl, h1, rfl⟩ := h
  exact ⟨v, rfl, h1⟩
theorem DVs.two {d e : D} {xs : List V} (h : DVs K ρ H [d, e] xs) : ∃ v u, xs = [v, u] ∧ DV K ρ H d v ∧ DV K ρ H e u := by
  simp only [DVs] at h
  obtain ⟨v, r, rfl, h1, u, r2, rfl, h2, rfl⟩ := h
  exact ⟨v, u, rfl, h1, h2⟩
end
/-! len -/
def fLen (ds : List D) (μ : Mem) : Res D := match ds with
  | [.str z] => if z.length ≤ sizeLine then .ok (.int z.length) μ else .bad
  | [d] => match seqOf μ d with
    | some xs => .ok (.int xs.length) μ
    | none => match dictOf μ d with
      | some kds => .ok (.int kds.length) μ
      | none => .bad
  | _ => .bad
theorem call_lenDR {X : Cx} : CallR X (.builtin "len") (fun xs H Q => ∃ a kvs, xs = [V.ref a] ∧ Rd H a (.dK kvs) ∧ Q (.int kvs.length) H) := by
  intro pins s σ H xs us Q I r h
  obtain ⟨a, kvs, rfl, hd, q⟩ := h
  obtain ⟨u, rfl, ru⟩ := vals1 r
  cases ru
  exact d_len I hd fun t s' I' => ⟨.int kvs.length, H, I', ⟨t, rfl⟩, q⟩
def rLenU (K : PySem.W.Frag) : List V → Hp → VK → Prop := fun xs H Q => (∃ x n, xs = [x] ∧ LenV K x H n ∧ Q (.int (n : Nat)) H) ∨ ∃ a kvs, xs = [V.ref a] ∧ Rd H a (.dK kvs) ∧ Q (.int kvs.length) H
theorem call_lenU {X : Cx} : CallR X (.builtin "len") (rLenU X.K) := call_len.or call_lenDR
theorem cf_len {K : PySem.W.Frag} : CallF K (rLenU K) fLen := by
  intro ds ρ μ H xs Q E rel dv ok
  unfold fLen at ok
  split at ok
  · split at ok
    · rename_i hz
      obtain ⟨v, rfl, h⟩ := dv.one
      exact .inl ⟨_, _, rfl, by rw [str_ok h]; exact ⟨hz, rfl⟩, .inl (ok.now rel dv_int)⟩
    · exact ok.elim
  · obtain ⟨v, rfl, h⟩ := dv.one
    split at ok
    · rename_i xs hx
      obtain ⟨a, vs, rfl, e2, e3⟩ := seqOf_ok rel h hx
      refine .inl ⟨_, vs.length, rfl, ?_, .inl (by rw [← e3.length]; exact ok.now rel dv_int)⟩
      rcases e2 with e2 | e2
      · exact .inl ⟨vs, e2, rfl⟩
      · exact .inr ⟨vs, e2, rfl⟩
    · split at ok
      · rename_i kds hk
        obtain ⟨n, a, kvs, _, _, rfl, _, r3, r4⟩ := dictOf_ok rel h hk
        exact .inr ⟨a, kvs, rfl, lk_rd r3, .inl (by rw [← KDs.length r4]; exact ok.now rel dv_int)⟩
      · exact ok.elim
  · exact ok.elim
/-! int, str, abs, min, max -/
def fIntC (ds : List D) (μ : Mem) : Res D := match ds with
  | [.int i] => .ok (.int i) μ
  | [.bl k] => .ok (.int (if k then 1 else 0)) μ
  | [.str a] => match PySem.intText? a with
    | some n => if a.length ≤ 640 then .ok (.int n) μ else .bad
    | none => .bad
  | _ => .bad
def rIntU : List V → Hp → VK → Prop := fun xs H Q => ((∃ i, xs = [.int i] ∧ Q (.int i) H) ∨ ∃ k, xs = [.bl k] ∧ Q (.int (if k then 1 else 0)) H) ∨ ∃ a n, xs = [.str a] ∧ PySem.intText? a = some n ∧ a.length ≤ 640 ∧ Q (.int n) H
theorem call_intU {X : Cx} : CallR X (.type "int") rIntU := call_int1.or call_int_str
theorem cf_int {K : PySem.W.Frag} : CallF K rIntU fIntC := by
  intro ds ρ μ H xs Q E rel dv ok
  unfold fIntC at ok
  split at ok
  · obtain ⟨v, rfl, h⟩ := dv.one
    exact .inl (.inl ⟨_, by rw [int_ok h], .inl (ok.now rel dv_int)⟩)
  · obtain ⟨v, rfl, h⟩ := dv.one
    exact .inl (.inr ⟨_, by rw [bl_ok h], .inl (ok.now rel dv_int)⟩)
  · obtain ⟨v, rfl, h⟩ := dv.one
    split at ok
    · rename_i n hn
      split at ok
      · rename_i hl
        exact .inr ⟨_, n, by rw [str_ok h], hn, hl, .inl (ok.now rel dv_int)⟩
      · exact ok.elim
    · exact ok.elim
  · exact ok.elim
def fStrC (ds : List D) (μ : Mem) : Res D := match ds with
  | [.int i] => if i.natAbs.log2 < 1920 then .ok (.str (toString i)) μ else .bad
  | [.str a] => .ok (.str a) μ
  | _ => .bad
def rStrU : List V → Hp → VK → Prop := fun xs H Q => (∃ i, xs = [.int i] ∧ i.natAbs.log2 < 1920 ∧ Q (.str (toString i)) H) ∨ ∃ a, xs = [.str a] ∧ Q (.str a) H
theorem call_strU {X : Cx} : CallR X (.type "str") rStrU := call_str_int.or SkE.call_str_str
theorem cf_str {K : PySem.W.Frag} : CallF K rStrU fStrC := by
  intro ds ρ μ H xs Q E rel dv ok
  unfold fStrC at ok
  split at ok
  · obtain ⟨v, rfl, h⟩ := dv.one
    split at ok
    · rename_i hl
      exact .inl ⟨_, by rw [int_ok h], hl, .inl (ok.now rel dv_str)⟩
    · exact ok.elim
  · obtain ⟨v, rfl, h⟩ := dv.one
    exact .inr ⟨_, by rw [str_ok h], .inl (ok.now rel dv_str)⟩
  · exact ok.elim
def fMax (ds : List D) (μ : Mem) : Res D := match ds with
  | [.int i, .int j] => .ok (.int (if j > i then j else i)) μ
  | _ => .bad
def fMin (ds : List D) (μ : Mem) : Res D := match ds with
  | [.int i, .int j] => .ok (.int (if j < i then j else i)) μ
  | _ => .bad
def fAbs (ds : List D) (μ : Mem) : Res D := match ds with
  | [.int i] => .ok (.int (if i < 0 then -i else i)) μ
  | _ => .bad
theorem cf_max {K : PySem.W.Frag} : CallF K (fun xs H Q => ∃ i j, xs = [.int i, .int j] ∧ Q (.int (if j > i then j else i)) H) fMax := by
  intro ds ρ μ H xs Q E rel dv ok
  unfold fMax at ok
  split at ok
  · obtain ⟨v, u, rfl, h1, h2⟩ := dv.two
    exact ⟨_, _, by rw [int_ok h1, int_ok h2], .inl (ok.now rel dv_int)⟩
  · exact ok.elim
theorem cf_min {K : PySem.W.Frag} : CallF K (fun xs H Q => ∃ i j, xs = [.int i, .int j] ∧ Q (.int (if j < i then j else i)) H) fMin := by
  intro ds ρ μ H xs Q E rel dv ok
  unfold fMin at ok
  split at ok
  · obtain ⟨v, u, rfl, h1, h2⟩ := dv.two
    exact ⟨_, _, by rw [int_ok h1, int_ok h2], .inl (ok.now rel dv_int)⟩
  · exact ok.elim
theorem cf_abs {K : PySem.W.Frag} : CallF K (fun xs H Q => ∃ i, xs = [.int i] ∧ Q (.int (if i < 0 then -i else i)) H) fAbs := by
  intro ds ρ μ H xs Q E rel dv ok
  unfold fAbs at ok
  split at ok
  · obtain ⟨v, rfl, h⟩ := dv.one
    exact ⟨_, by rw [int_ok h], .inl (ok.now rel dv_int)⟩
  · exact ok.elim
/-! list(..), tuple(..) -/
def keyD : Key → D
  | .inl i => .int i
  | .inr x => .str x
def fListN (ds : List D) (μ : Mem) : Res (List D) := match ds with
  | [d] => match seqOf μ d with
    | some xs => .ok xs μ
    | none => match dictOf μ d with
      | some kds => .ok (kds.map fun k => keyD k.1) μ
      | none => .bad
  | _ => .bad
def rListU (K : PySem.W.Frag) : List V → Hp → VK → Prop := fun xs H Q => (∃ p ys, xs = [.ref p] ∧ (SqL K H p ys ∨ SqT K H p ys) ∧ ∀ l, H l = none → Q (.ref l) (upd H l (.lst ys))) ∨ ∃ (a : Addr) (kvs : List (Key × V)), xs = [.ref a] ∧ Rd H a (.dK kvs) ∧ ∀ p, H p = none → Q (.ref p) (upd H p (.lst (kvs.map fun kv => kV kv.1)))
theorem call_listU {X : Cx} (hc : X.calm = true) : CallR X (.type "list") (rListU X.K) := call_list_of.or (call_listD hc)
theorem dv_key {K : PySem.W.Frag} {ρ : List Addr} {H : Hp} (k : Key) : DV K ρ H (keyD k) (kV k) := by
  cases k with
  | inl i => exact dv_int
  | inr x => exact dv_str
theorem dvs_keys {K : PySem.W.Frag} {ρ : List Addr} {H : Hp} : ∀ {a : List (Key × D)} {b : List (Key × V)}, KDs K ρ H a b → DVs K ρ H (a.map fun k => keyD k.1) (b.map fun k => kV k.1)
  | _, _, .nil => .nil
  | _, _, .cons r t => .cons (by dsimp only; rw [← r.1]; exact dv_key _) (dvs_keys t)
theorem cn_list {K : PySem.W.Frag} : CallN K (rListU K) fListN := by
  intro ds ρ μ H xs Q E rel dv ok
  unfold fListN at ok
  split at ok
  · obtain ⟨v, rfl, h⟩ := dv.one
    split at ok
    · rename_i ys hy
      obtain ⟨a, vs, rfl, e2, e3⟩ := seqOf_ok rel h hy
      exact .inl ⟨a, vs, rfl, e2, fun p hp => OkN.new rel hp e3 ok⟩
    · split at ok
      · rename_i kds hk
        obtain ⟨n, a, kvs, _, _, rfl, _, r3, r4⟩ := dictOf_ok rel h hk
        exact .inr ⟨a, kvs, rfl, lk_rd r3, fun p hp => OkN.new rel hp (dvs_keys r4) ok⟩
      · exact ok.elim
  · exact ok.elim
def fTuple (ds : List D) (μ : Mem) : Res D := match ds with
  | [d] => match seqOf μ d with
    | some xs => .ok (.tup xs) μ
    | none => .bad
  | _ => .bad
theorem cf_tuple {K : PySem.W.Frag} : CallF K (fun xs H Q => ∃ p ys, xs = [.ref p] ∧ ((SqL K H p ys ∧ ∀ l, H l = none → Q (.ref l) (upd H l (.tup ys))) ∨ (SqT K H p ys ∧ Q (.ref p) H))) fTuple := by
  intro ds ρ μ H xs Q E rel dv ok
  unfold fTuple at ok
  split at ok
  · rename_i d
    obtain ⟨v, rfl, h⟩ := dv.one
    split at ok
    · rename_i ys hy
      cases d with
      | tup es =>
        have : es = ys := by simpa [seqOf] using hy
        subst this
        obtain ⟨a, vs, rfl, e2, e3⟩ := tup_ok h
        exact ⟨a, vs, rfl, .inr ⟨e2.sq, .inl (ok.now rel h)⟩⟩
      | _ =>
        obtain ⟨a, vs, rfl, e2, e3⟩ := lstOf_ok rel h hy
        exact ⟨a, vs, rfl, .inl ⟨rd_sq e2, fun p hp => .inl (okr_tup rel hp e3 ok)⟩⟩
    · exact ok.elim
  · exact ok.elim
/-! dict(d): a copy -/
def fDict (ds : List D) (μ : Mem) : Res D := match ds with
  | [d] => match dictOf μ d with
    | some kds => .ok (.loc μ.cells.length) (μ.push (.dK kds))
    | none => .bad
  | _ => .bad
theorem cf_dict {K : PySem.W.Frag} : CallF K (fun xs H Q => ∃ (a : Addr) (kvs : List (Key × V)), xs = [.ref a] ∧ Rd H a (.dK kvs) ∧ ∀ p, H p = none → Q (.ref p) (upd H p (.dK kvs))) fDict := by
  intro ds ρ μ H xs Q E rel dv ok
  unfold fDict at ok
  split at ok
  · obtain ⟨v, rfl, h⟩ := dv.one
    split at ok
    · rename_i kds hk
      obtain ⟨n, a, kvs, _, _, rfl, _, r3, r4⟩ := dictOf_ok rel h hk
      refine ⟨a, kvs, rfl, lk_rd r3, fun p hp => .inl ?_⟩
      exact ok.go (Pre.app _ _) (Fz.newA hp) (rel.new hp ⟨kvs, by unfold Lk; rw [if_neg Bool.false_ne_true]; exact upd_same, r4.mono (Pre.app _ _) (Fz.newA hp)⟩) (dv_last rel)
    · exact ok.elim
  · exact ok.elim
/-! all(..), any(..) of bools -/
def blsOf : List D → Option (List Bool)
  | [] => some []
  | .bl b :: r => (blsOf r).map (b :: ·)
  | _ :: _ => none
theorem blsOf_ok {K : PySem.W.Frag} {ρ : List Addr} {H : Hp} : ∀ {ds : List D} {vs : List V} {bs : List Bool}, DVs K ρ H ds vs → blsOf ds = some bs → vs = bs.map V.bl
  | [], vs, bs, h, e => by
    simp only [DVs] at h
    have : bs = [] := by simpa [blsOf] using e.symm
    subst h this
    rfl
  | d :: ds, vs, bs, h, e => by
    simp only [DVs] at h
    obtain ⟨v, r, rfl, h1, h2⟩ := h
    cases d with
    | bl b =>
      simp only [blsOf] at e
      obtain ⟨cs, e1, rfl⟩ := Option.map_eq_some_iff.mp e
      rw [bl_ok h1, blsOf_ok h2 e1]
      rfl
    | _ => simp [blsOf] at e
def fAll (g : List Bool → Bool) (ds : List D) (μ : Mem) : Res D := match ds with
  | [d] => match (lstOf μ d).bind blsOf with
    | some bs => .ok (.bl (g bs)) μ
    | none => .bad
  | _ => .bad
theorem cf_all {K : PySem.W.Frag} : CallF K (rAll K) (fAll fun bs => bs.all id) := by
  intro ds ρ μ H xs Q E rel dv ok
  unfold fAll at ok
  split at ok
  · obtain ⟨v, rfl, h⟩ := dv.one
    split at ok
    · rename_i bs hb
      obtain ⟨es, h1, h2⟩ := Option.bind_eq_some_iff.mp hb
      obtain ⟨a, vs, rfl, e2, e3⟩ := lstOf_ok rel h h1
      have := blsOf_ok e3 h2
      subst this
      exact ⟨a, bs, rfl, rd_sq e2, .inl (ok.now rel dv_bl)⟩
    · exact ok.elim
  · exact ok.elim
/-! isinstance(x, T), T a built-in type -/
def tyName (μ : Mem) : D → Option String
  | .non => some "NoneType"
  | .bl _ => some "bool"
  | .int _ => some "int"
  | .str _ => some "str"
  | .tup _ => some "tuple"
  | .lst _ => some "list"
  | .loc n => match μ.cells[n]? with
    | some (.lst _) => some "list"
    | some (.dK _) => some "dict"
    | _ => none
  | _ => none
def tyOK : List String := ["NoneType", "bool", "int", "str", "tuple", "list", "dict"]
def isiB (a b : String) : Bool := a == b || (a == "bool" && b == "int")
theorem kitB_all : (tyOK.all fun a => tyOK.all fun b => b == "NoneType" || decide (kitB a b = some (isiB a b))) = true := by decide +kernel
def fIsi (ds : List D) (μ : Mem) : Res D := match ds with
  | [d, .ty n] => match tyName μ d with
    | some t => if (tyOK.contains t && tyOK.contains n && n != "NoneType") = true then .ok (.bl (isiB t n)) μ else .bad
    | none => .bad
  | _ => .bad
theorem cf_isi {K : PySem.W.Frag} : CallF K (rIsi K) fIsi := by
  intro ds ρ μ H xs Q E rel dv ok
  unfold fIsi at ok
  split at ok
  · rename_i d n
    obtain ⟨v, u, rfl, h1, h2⟩ := dv.two
    have hu : u = V.ty n := by simpa only [DV] using h2
    subst hu
    split at ok
    · rename_i t ht
      split at ok
      · rename_i hc
        simp only [Bool.and_eq_true, bne_iff_ne, List.contains_iff_mem] at hc
        obtain ⟨⟨c1, c2⟩, c3⟩ := hc
        have k1 := List.all_eq_true.mp (List.all_eq_true.mp kitB_all t c1) n c2
        have c4 : (n == "NoneType") = false := beq_eq_false_iff_ne.mpr c3
        rw [c4, Bool.false_or] at k1
        have k2 := of_decide_eq_true k1
        refine ⟨v, .ty n, .type t, .type n, isiB t n, rfl, .ty n, ?_, kit_ty k2, .inl (ok.now rel dv_bl)⟩
        cases d with
        | non => rw [non_ok h1]; cases ht; exact .base .non
        | bl _ => rw [bl_ok h1]; cases ht; exact .base (.bl _)
        | int _ => rw [int_ok h1]; cases ht; exact .base (.int _)
        | str _ => rw [str_ok h1]; cases ht; exact .base (.str _)
        | tup _ =>
          cases ht
          obtain ⟨a, vs, rfl, e2, _⟩ := tup_ok h1
          rcases e2 with e2 | ⟨o, its, n, q1, q2, q3, _⟩
          · exact .base (.tup e2)
          · exact .kTuple q1 q2
        | lst _ =>
          cases ht
          simp only [DV] at h1
          obtain ⟨a, vs, rfl, ⟨o, e2⟩ | ⟨its, m, e2, _⟩, _⟩ := h1
          · exact .base (.frz e2)
          · exact .kList e2 rfl
        | loc m =>
          simp only [DV] at h1
          obtain ⟨a, e1, rfl⟩ := h1
          simp only [tyName] at ht
          split at ht
          · rename_i es hm
            cases ht
            obtain ⟨vs, e2, _⟩ := rel.cell m a _ e1 hm
            exact .base (.lst e2)
          · rename_i es hm
            cases ht
            obtain ⟨vs, e2, _⟩ := rel.cell m a _ e1 hm
            unfold Lk at e2
            split at e2
            · obtain ⟨o, e2⟩ := e2; exact .fDict e2
            · exact .base (.dK e2)
          · cases ht
        | _ => cases ht
      · exact ok.elim
    · exact ok.elim
  · exact ok.elim
end Doz
end
section
/-! Doz6: statements, targets, loops, fields. -/
namespace Doz
open PySem L2
/-! ### statements -/
def OkS (K : PySem.W.Frag) (hx : Option HX) (W : WX) (ρ : List Addr) (H : Hp) (r : SRes) (Dn : Ends) : Prop := match r with
  | .nx δ μ => ∀ ρ' H' σ, Pre ρ ρ' → Fz ρ ρ' H H' → Rel K ρ' μ H' → EnvR K ρ' H' hx δ σ → Dn.nx σ H'
  | .rt d μ => ∀ ρ' H' v, Pre ρ ρ' → Fz ρ ρ' H H' → Rel K ρ' μ H' → DV K ρ' H' d v → Dn.rt v H'
  | .bk δ μ => ∀ ρ' H' σ, Pre ρ ρ' → Fz ρ ρ' H H' → Rel K ρ' μ H' → EnvR K ρ' H' hx δ σ → Dn.bk σ H'
  | .ct δ μ => ∀ ρ' H' σ, Pre ρ ρ' → Fz ρ ρ' H H' → Rel K ρ' μ H' → EnvR K ρ' H' hx δ σ → Dn.ct σ H'
  | .err C w δ μ => ∀ ρ1 H1 σ dd v, Pre ρ ρ1 → Fz ρ ρ1 H H1 → Rel K ρ1 μ H1 → EnvR K ρ1 H1 hx δ σ → H1 dd = some (.xd [(("what" : Str), v)]) → DV K ρ1 H1 w v → W (.ref C) (some dd) σ H1
  | .bad => False
def RefS (K : PySem.W.Frag) (hx : Option HX) (W : WX) (t : TS) (ms : MS) : Prop :=
  ∀ ρ μ δ σ H (Dn : Ends), Rel K ρ μ H → EnvR K ρ H hx δ σ → OkS K hx W ρ H (ms δ μ) Dn → t Dn σ H
structure RS (X : Cx) (hx : Option HX) (W : WX) (st : Stmt) (ms : MS) : Prop where
  ex : ∃ t : TS, PS X st t ∧ RefS X.K hx W t ms
structure RSs (X : Cx) (hx : Option HX) (W : WX) (sts : List Stmt) (ms : MS) : Prop where
  ex : ∃ t : TS, PSs X sts t ∧ RefS X.K hx W t ms
theorem OkS.mono {K : PySem.W.Frag} {hx : Option HX} {W : WX} {ρ ρ1 : List Addr} {H H1 : Hp} {r : SRes} {Dn : Ends} (p : Pre ρ ρ1) (f : Fz ρ ρ1 H H1) (h : OkS K hx W ρ H r Dn) : OkS K hx W ρ1 H1 r Dn := by
  cases r with
  | nx δ μ => exact fun ρ' H' σ p' f' => h ρ' H' σ (p.trans p') (f.trans f')
  | rt d μ => exact fun ρ' H' σ p' f' => h ρ' H' σ (p.trans p') (f.trans f')
  | bk δ μ => exact fun ρ' H' σ p' f' => h ρ' H' σ (p.trans p') (f.trans f')
  | ct δ μ => exact fun ρ' H' σ p' f' => h ρ' H' σ (p.trans p') (f.trans f')
  | err C w δ μ => exact fun ρ2 H2 σ dd v p2 f2 => h ρ2 H2 σ dd v (p.trans p2) (f.trans f2)
  | bad => exact h
def mnx : MS := fun δ μ => .nx δ μ
def mseq (a b : MS) : MS := fun δ μ => match a δ μ with
  | .nx δ1 μ1 => b δ1 μ1
  | r => r
def ofE {α : Type} (m : MX α) (k : α → MS) : MS := fun δ μ => match m δ μ with
  | .ok a μ1 => k a δ μ1
  | .err C w μ1 => .err C w δ μ1
  | .bad => .bad
theorem OkS.ofE {α β : Type} {K : PySem.W.Frag} {hx : Option HX} {W : WX} {R : Rl α β} {ρ : List Addr} {H : Hp} {δ : DEnv} {σ : St} {μ : Mem} {m : MX α} {k : α → MS} {Dn : Ends} {P : β → Hp → Prop} (env : EnvR K ρ H hx δ σ) (h : OkS K hx W ρ H (ofE m k δ μ) Dn)
    (hk : ∀ a μ1 ρ1 H1 b, Pre ρ ρ1 → Fz ρ ρ1 H H1 → Rel K ρ1 μ1 H1 → R ρ1 H1 a b → OkS K hx W ρ1 H1 (k a δ μ1) Dn → P b H1) : Okr K R ρ H (m δ μ) P (fun c d H' => W c d σ H') := by
  unfold Doz.ofE at h
  cases e : m δ μ with
  | ok a μ1 =>
    rw [e] at h
    exact fun ρ1 H1 b p f rel rb => hk a μ1 ρ1 H1 b p f rel rb (OkS.mono p f h)
  | err C w μ1 =>
    rw [e] at h
    exact fun ρ1 H1 dd v p f rel hd dv => h ρ1 H1 σ dd v p f rel (env.mono p f) hd dv
  | bad => rw [e] at h; exact h
section
variable {X : Cx} {hx : Option HX} {W : WX} {st : Stmt} {rest : List Stmt} {a b : MS} {e : Expr} {m : ME} {pos : Pos}
theorem rss_nil : RSs X hx W [] mnx := ⟨⟨_, pss_nil, fun ρ μ δ σ H Dn rel env ok => ok ρ H σ (Pre.refl _) (Fz.refl _) rel env⟩⟩
theorem ref_seq {K : PySem.W.Frag} {t u : TS} (ha : RefS K hx W t a) (hb : RefS K hx W u b) : RefS K hx W (tSeq t u) (mseq a b) := by
  intro ρ μ δ σ H Dn rel env ok
  refine ha ρ μ δ σ H { Dn with nx := u Dn } rel env ?_
  unfold mseq at ok
  cases e : a δ μ with
  | nx δ1 μ1 =>
    rw [e] at ok
    exact fun ρ' H' σ' p f rel' env' => hb ρ' μ1 δ1 σ' H' Dn rel' env' (OkS.mono p f ok)
  | rt d μ1 => rw [e] at ok; exact ok
  | bk δ1 μ1 => rw [e] at ok; exact ok
  | ct δ1 μ1 => rw [e] at ok; exact ok
  | err C w δ1 μ1 => rw [e] at ok; exact ok
  | bad => rw [e] at ok; exact ok
theorem rss_cons (h1 : RS X hx W st a) (h2 : RSs X hx W rest b) : RSs X hx W (st :: rest) (mseq a b) := by
  obtain ⟨t, p, r⟩ := h1.ex
  obtain ⟨u, q, s⟩ := h2.ex
  exact ⟨⟨_, pss_cons p q, ref_seq r s⟩⟩
theorem rss_one (h1 : RS X hx W st a) : RSs X hx W [st] a := by
  obtain ⟨t, p, r⟩ := h1.ex
  exact ⟨⟨_, pss_one p, r⟩⟩
theorem rs_pass : RS X hx W (.Pass pos) mnx := ⟨⟨_, ps_pass, fun ρ μ δ σ H Dn rel env ok => ok ρ H σ (Pre.refl _) (Fz.refl _) rel env⟩⟩
def mbk : MS := fun δ μ => .bk δ μ
def mct : MS := fun δ μ => .ct δ μ
theorem rs_break : RS X hx W (.Break pos) mbk := ⟨⟨_, ps_break, fun ρ μ δ σ H Dn rel env ok => ok ρ H σ (Pre.refl _) (Fz.refl _) rel env⟩⟩
theorem rs_continue : RS X hx W (.Continue pos) mct := ⟨⟨_, ps_continue, fun ρ μ δ σ H Dn rel env ok => ok ρ H σ (Pre.refl _) (Fz.refl _) rel env⟩⟩
def mdrop (m : ME) : MS := ofE m fun _ => mnx
theorem rs_expr (h : RE X hx W e m) (hs : swapsWith e none pos.line X.env = pure false := by rfl) : RS X hx W (.Expr e pos) (mdrop m) := by
  obtain ⟨t, p, r⟩ := h.ex
  exact ⟨⟨_, ps_expr p hs, fun ρ μ δ σ H Dn rel env ok => r ρ μ δ σ H _ rel env (OkS.ofE env ok fun d μ1 ρ1 H1 v pr fz rel1 dv ok1 => ok1 ρ1 H1 σ (Pre.refl _) (Fz.refl _) rel1 (env.mono pr fz))⟩⟩
def mret (m : ME) : MS := ofE m fun d => fun _ μ => .rt d μ
theorem rs_ret (h : RE X hx W e m) : RS X hx W (.Return (some e) pos) (mret m) := by
  obtain ⟨t, p, r⟩ := h.ex
  exact ⟨⟨_, ps_ret p, fun ρ μ δ σ H Dn rel env ok => r ρ μ δ σ H _ rel env (OkS.ofE env ok fun d μ1 ρ1 H1 v pr fz rel1 dv ok1 => ok1 ρ1 H1 v (Pre.refl _) (Fz.refl _) rel1 dv)⟩⟩
def mretN : MS := fun _ μ => .rt .non μ
theorem rs_retN : RS X hx W (.Return none pos) mretN := ⟨⟨_, ps_retN, fun ρ μ δ σ H Dn rel env ok => ok ρ H .non (Pre.refl _) (Fz.refl _) rel dv_non⟩⟩
def mifS (t : MX Bool) (a b : MS) : MS := ofE t fun c => if c = true then a else b
theorem rs_if {c : Expr} {mt : MX Bool} {as bs : List Stmt} (hc : RT X hx W c mt) (ha : RSs X hx W as a) (hb : RSs X hx W bs b) : RS X hx W (.If c as bs pos) (mifS mt a b) := by
  obtain ⟨t, p, r⟩ := hc.ex
  obtain ⟨ta, pa, ra⟩ := ha.ex
  obtain ⟨tb, pb, rb⟩ := hb.ex
  refine ⟨⟨_, ps_if p pa pb, fun ρ μ δ σ H Dn rel env ok => r ρ μ δ σ H _ rel env (OkS.ofE env ok fun c μ1 ρ1 H1 v pr fz rel1 dv ok1 => ?_)⟩⟩
  have e' : c = v := dv
  subst e'
  cases c with
  | true => exact iteT (ra ρ1 μ1 δ σ H1 Dn rel1 (env.mono pr fz) ok1)
  | false => exact iteF (rb ρ1 μ1 δ σ H1 Dn rel1 (env.mono pr fz) ok1)
/-- a return that freezes the list that is handed back -/
def mretFz (m : ME) : MS := ofE m fun d => fun _ μ => match d with
  | .loc n => match μ.cells[n]? with
    | some (.lst ds) => if μ.lkd n = false then .rt (.lst ds) (μ.set n .dead) else .bad
    | _ => .bad
  | _ => .bad
theorem rs_retFz (h : RE X hx W e m) : RS X hx W (.Return (some e) pos) (mretFz m) := by
  obtain ⟨t, p, r⟩ := h.ex
  refine ⟨⟨_, ps_ret (pe_fzo p), fun ρ μ δ σ H Dn rel env ok => r ρ μ δ σ H _ rel env (OkS.ofE env ok fun d μ1 ρ1 H1 v pr fz rel1 dv ok1 => ?_)⟩⟩
  split at ok1
  · rename_i n
    split at ok1
    · rename_i ds hc
      split at ok1
      · simp only [DV] at dv
        obtain ⟨ad, h1, rfl⟩ := dv
        obtain ⟨vs, h2, h3⟩ := rel1.cell n ad _ h1 hc
        refine .inr ⟨ad, vs, rfl, h2, fun o => ?_⟩
        have f2 : Fz ρ1 ρ1 H1 _ := Fz.mut (o := .frz o (.lst vs)) h1 h2 (fun _ => HO.noConfusion) (fun _ _ => HO.noConfusion)
        refine ok1 ρ1 _ _ (Pre.refl _) f2 (rel1.write h1 h2 (fun _ => HO.noConfusion) (fun _ _ => HO.noConfusion) ⟨_, upd_same, fun _ z => nomatch z⟩) (dv_frz h2 h3)
      · exact ok1.elim
    · exact ok1.elim
  · exact ok1.elim
end
/-! ### targets -/
def OkG (K : PySem.W.Frag) (hx : Option HX) (ρ : List Addr) (H : Hp) (r : Res DEnv) (Q : St → Hp → Prop) (E : XK) : Prop := match r with
  | .ok δ μ => ∀ ρ' H' σ, Pre ρ ρ' → Fz ρ ρ' H H' → Rel K ρ' μ H' → EnvR K ρ' H' hx δ σ → Q σ H'
  | .err C w μ => XOk K ρ H C w μ E
  | .bad => False
abbrev MG := D → DEnv → Mem → Res DEnv
def RefG (K : PySem.W.Frag) (hx : Option HX) (W : WX) (g : TG) (mg : MG) : Prop :=
  ∀ ρ μ δ σ H d v (Q : St → Hp → Prop), Rel K ρ μ H → EnvR K ρ H hx δ σ → DV K ρ H d v → OkG K hx ρ H (mg d δ μ) Q (fun c d H' => W c d σ H') → g v σ H Q
structure RG (X : Cx) (hx : Option HX) (W : WX) (tg : Expr) (mg : MG) : Prop where
  ex : ∃ g : TG, PG X tg g ∧ RefG X.K hx W g mg
theorem OkG.mono {K : PySem.W.Frag} {hx : Option HX} {ρ ρ1 : List Addr} {H H1 : Hp} {r : Res DEnv} {Q : St → Hp → Prop} {E : XK} (p : Pre ρ ρ1) (f : Fz ρ ρ1 H H1) (h : OkG K hx ρ H r Q E) : OkG K hx ρ1 H1 r Q E := by
  cases r with
  | ok a μ => exact fun ρ' H' b p' f' => h ρ' H' b (p.trans p') (f.trans f')
  | err C w μ => exact XOk.mono p f h
  | bad => exact h
theorem EnvR.set {K : PySem.W.Frag} {ρ : List Addr} {H : Hp} {hx : Option HX} {δ : DEnv} {σ : St} {i : Nat} {d : D} {v : V} (e : EnvR K ρ H hx δ σ) (dv : DV K ρ H d v) (hi : ∀ q, hx = some q → i ≠ q.i) : EnvR K ρ H hx (δ.set i (some d)) (σ.set i (some v)) := by
  refine ⟨by simp [e.len], fun j d' h => ?_, fun q h => ?_⟩
  · by_cases hj : i = j
    · subst hj
      have hl : i < δ.length := by
        have := (List.getElem?_eq_some_iff.mp h).1
        simpa using this
      rw [List.getElem?_set_self hl] at h
      cases h
      exact ⟨v, List.getElem?_set_self (e.len ▸ hl), dv⟩
    · rw [List.getElem?_set_ne hj] at h
      obtain ⟨u, h1, h2⟩ := e.get j d' h
      exact ⟨u, by rw [List.getElem?_set_ne hj]; exact h1, h2⟩
  · obtain ⟨h1, h2⟩ := e.exn q h
    exact ⟨by rw [List.getElem?_set_ne (hi q h)]; exact h1, h2⟩
def gset (i : Nat) : MG := fun d δ μ => .ok (δ.set i (some d)) μ
theorem ref_name {K : PySem.W.Frag} {hx : Option HX} {W : WX} (i : Nat) (hi : ∀ q, hx = some q → i ≠ q.i) : RefG K hx W (gName i) (gset i) :=
  fun ρ μ δ σ H d v Q rel env dv ok => ok ρ H _ (Pre.refl _) (Fz.refl _) rel (env.set dv hi)
section
variable {X : Cx} {hx : Option HX} {W : WX} {e : Expr} {m : ME} {pos pos' : Pos}
theorem rg_name (i : Nat) {x : Str} (hN : X.N.Nodup) (hi : X.N[i]? = some x := by rfl) (hl : Loc X.env.scope x := by first | exact Or.inl rfl | exact Or.inr rfl) (hxi : ∀ q, hx = some q → i ≠ q.i := by intro _ h; first | (cases h; done) | (cases h; exact Nat.ne_of_beq_eq_false rfl))
    (hf : X.fn x = true ∨ X.env.scope.names.lookup x = some .local := by first | exact .inl rfl | exact .inr rfl | assumption) : RG X hx W (.Name x pos) (gset i) := ⟨⟨_, pg_name hN hi hl hf, ref_name i hxi⟩⟩
def masg (m : ME) (g : MG) : MS := ofE m fun d => fun δ μ => match g d δ μ with
  | .ok δ1 μ1 => .nx δ1 μ1
  | .err C w μ1 => .err C w δ μ1
  | .bad => .bad
theorem okg_of {K : PySem.W.Frag} {ρ : List Addr} {H : Hp} {δ : DEnv} {σ : St} {r : Res DEnv} {Dn : Ends} (env : EnvR K ρ H hx δ σ) (ok : OkS K hx W ρ H (match r with | .ok δ1 μ1 => .nx δ1 μ1 | .err C w μ1 => .err C w δ μ1 | .bad => .bad) Dn) : OkG K hx ρ H r Dn.nx (fun c d H' => W c d σ H') := by
  cases r with
  | ok δ1 μ1 => exact ok
  | err C w μ1 => exact fun ρ1 H1 dd v p f rel hd dv => ok ρ1 H1 σ dd v p f rel (env.mono p f) hd dv
  | bad => exact ok
theorem rs_set (i : Nat) {x : Str} (hN : X.N.Nodup) (he : RE X hx W e m) (hi : X.N[i]? = some x := by rfl) (hl : Loc X.env.scope x := by first | exact Or.inl rfl | exact Or.inr rfl) (hs : swapsWith e (some (.Name x pos')) pos.line X.env = pure false := by rfl) (hxi : ∀ q, hx = some q → i ≠ q.i := by intro _ h; first | (cases h; done) | (cases h; exact Nat.ne_of_beq_eq_false rfl))
    (hf : X.fn x = true ∨ X.env.scope.names.lookup x = some .local := by first | exact .inl rfl | exact .inr rfl | assumption) : RS X hx W (.Assign [.Name x pos'] e pos) (masg m (gset i)) := by
  obtain ⟨t, p, r⟩ := he.ex
  exact ⟨⟨_, ps_set hN hi hl p hs hf, fun ρ μ δ σ H Dn rel env ok => r ρ μ δ σ H _ rel env (OkS.ofE env ok fun d μ1 ρ1 H1 v pr fz rel1 dv ok1 => ref_name (W := W) i hxi ρ1 μ1 δ σ H1 d v Dn.nx rel1 (env.mono pr fz) dv (okg_of (env.mono pr fz) ok1))⟩⟩
theorem rs_asg {tg : Expr} {g : MG} (he : RE X hx W e m) (hg : RG X hx W tg g) (hs : swapsWithSole [tg] e pos.line X.env = pure false := by rfl) (hw : swappedStores [tg] e X.env = pure none := by rfl)
    (h1 : (assignEach [tg] X.env).map (·.2) = [assign tg X.env] := by rfl) : RS X hx W (.Assign [tg] e pos) (masg m g) := by
  obtain ⟨t, p, r⟩ := he.ex
  obtain ⟨tg', pg, rg⟩ := hg.ex
  exact ⟨⟨_, ps_asg p pg hs hw h1, fun ρ μ δ σ H Dn rel env ok => r ρ μ δ σ H _ rel env (OkS.ofE env ok fun d μ1 ρ1 H1 v pr fz rel1 dv ok1 => rg ρ1 μ1 δ σ H1 d v Dn.nx rel1 (env.mono pr fz) dv (okg_of (env.mono pr fz) ok1))⟩⟩
/-! tuples as targets -/
abbrev MGs := List D → DEnv → Mem → Res DEnv
def OkG0 (K : PySem.W.Frag) (hx : Option HX) (ρ : List Addr) (H : Hp) (r : Res DEnv) (Q : St → Hp → Prop) : Prop := match r with
  | .ok δ μ => ∀ ρ' H' σ, Pre ρ ρ' → Fz ρ ρ' H H' → Rel K ρ' μ H' → EnvR K ρ' H' hx δ σ → Q σ H'
  | _ => False
structure RGs (X : Cx) (hx : Option HX) (W : WX) (tgs : List Expr) (mg : MGs) : Prop where
  ex : ∃ g : TGs, PGs X tgs g ∧ ∀ ρ μ δ σ H ds vs (Q : St → Hp → Prop), Rel X.K ρ μ H → EnvR X.K ρ H hx δ σ → DVs X.K ρ H ds vs → OkG0 X.K hx ρ H (mg ds δ μ) Q → g vs σ H Q
def gnil : MGs := fun ds δ μ => match ds with
  | [] => .ok δ μ
  | _ => .bad
def gcons (g : MG) (gs : MGs) : MGs := fun ds δ μ => match ds with
  | d :: r => match g d δ μ with
    | .ok δ1 μ1 => gs r δ1 μ1
    | _ => .bad
  | [] => .bad
theorem rgs_nil : RGs X hx W [] gnil := by
  refine ⟨⟨_, pgs_nil, fun ρ μ δ σ H ds vs Q rel env dv ok => ?_⟩⟩
  unfold gnil at ok
  split at ok
  · simp only [DVs] at dv
    exact ⟨dv, ok ρ H σ (Pre.refl _) (Fz.refl _) rel env⟩
  · exact ok.elim
theorem rgs_cons {tg : Expr} {tgs : List Expr} {g : MG} {gs : MGs} (h1 : RG X hx W tg g) (h2 : RGs X hx W tgs gs) (hs : (assignEach (tg :: tgs) X.env).map (·.2) = assign tg X.env :: (assignEach tgs X.env).map (·.2) := by rfl) : RGs X hx W (tg :: tgs) (gcons g gs) := by
  obtain ⟨t, p, r⟩ := h1.ex
  obtain ⟨u, q, s⟩ := h2.ex
  refine ⟨⟨_, pgs_cons p q hs, fun ρ μ δ σ H ds vs Q rel env dv ok => ?_⟩⟩
  unfold gcons at ok
  split at ok
  · rename_i d rst
    simp only [DVs] at dv
    obtain ⟨v, vr, rfl, d1, d2⟩ := dv
    refine ⟨v, vr, rfl, r ρ μ δ σ H d v _ rel env d1 ?_⟩
    split at ok
    · rename_i δ1 μ1 e1
      rw [e1]
      intro ρ' H' σ' pr fz rel' env'
      refine s ρ' μ1 δ1 σ' H' rst vr Q rel' env' (d2.mono pr fz) ?_
      revert ok
      cases gs rst δ1 μ1 with
      | ok δ2 μ2 => exact fun ok ρ2 H2 σ2 p2 f2 => ok ρ2 H2 σ2 (pr.trans p2) (fz.trans f2)
      | err _ _ _ => exact id
      | bad => exact id
    · exact ok.elim
  · exact ok.elim
def gtup (n : Nat) (gs : MGs) : MG := fun d δ μ => match d with
  | .tup ds => if ds.length = n then match gs ds δ μ with
      | .ok δ1 μ1 => .ok δ1 μ1
      | _ => .bad
    else .bad
  | _ => .bad
theorem rg_tup {tgs : List Expr} {gs : MGs} {n k : Nat} (hc : X.calm = true) (h : RGs X hx W tgs gs) (hn : (assignEach tgs X.env).length = n := by rfl) (hst : (assignEach tgs X.env).findIdx? (·.1) = none := by rfl) : RG X hx W (.Tuple tgs k pos) (gtup n gs) := by
  obtain ⟨t, p, r⟩ := h.ex
  refine ⟨⟨_, pg_tup hc p hn hst, fun ρ μ δ σ H d v Q rel env dv ok => ?_⟩⟩
  unfold gtup at ok
  split at ok
  · split at ok
    · rename_i ds hl
      obtain ⟨a, vs, rfl, h1, h2⟩ := tup_ok dv
      refine ⟨a, vs, rfl, h1.sq, h2.length.symm.trans hl, r ρ μ δ σ H ds vs Q rel env h2 ?_⟩
      split at ok
      · rename_i e1
        rw [e1]
        exact ok
      · exact ok.elim
    · exact ok.elim
  · exact ok.elim
end
/-! ### o[i] = v -/
theorem PSet.or {X : Cx} {t t' : TSet} (h : PSet X t) (h' : PSet X t') : PSet X (fun o i v H Q => t o i v H Q ∨ t' o i v H Q) := by
  intro pins s σ H o i v ov iv u Q I ro ri rv q
  rcases q with q | q
  · exact h pins s σ H o i v ov iv u Q I ro ri rv q
  · exact h' pins s σ H o i v ov iv u Q I ro ri rv q
def rSetD : TSet := fun o i v H Q => ∃ a H', o = .ref a ∧ DPut H a i v H' ∧ Q H'
theorem set_dict {X : Cx} (hu : Hu X) : PSet X rSetD := by
  intro pins s σ H o i v ov iv u Q I ro ri rv h
  obtain ⟨a, H', rfl, g, q⟩ := h
  cases ro
  exact d_setItem hu.h1 I g ri rv fun s4 I4 => ⟨H', I4, q⟩
def setD (o i v : D) (μ : Mem) : Res Unit := match o with
  | .loc n => match μ.cells[n]? with
    | some (.lst ds) => match i with
      | .int k => match ixN ds.length k with
        | some j => .ok () (μ.set n (.lst (ds.set j v)))
        | none => .bad
      | _ => .bad
    | some (.dK kds) => match keyOf i with
      | some k => if μ.lkd n = false ∧ kds.length < sizeLine then .ok () (μ.set n (.dK (kput kds k v))) else .bad
      | none => .bad
    | _ => .bad
  | _ => .bad
def OkU (K : PySem.W.Frag) (ρ : List Addr) (H : Hp) (r : Res Unit) (Q : Hp → Prop) : Prop := match r with
  | .ok _ μ => ∀ ρ' H', Pre ρ ρ' → Fz ρ ρ' H H' → Rel K ρ' μ H' → Q H'
  | _ => False
theorem setD_ok {K : PySem.W.Frag} {ρ : List Addr} {μ : Mem} {H : Hp} {o i d : D} {x y v : V} {Q : Hp → Prop} (rel : Rel K ρ μ H) (dx : DV K ρ H o x) (dy : DV K ρ H i y) (dv : DV K ρ H d v) (ok : OkU K ρ H (setD o i d μ) Q) : rSetL x y v H Q ∨ rSetD x y v H Q := by
  unfold setD at ok
  split at ok
  · rename_i n
    simp only [DV] at dx
    obtain ⟨a, h1, rfl⟩ := dx
    split at ok
    · rename_i ds hc
      obtain ⟨vs, h2, h3⟩ := rel.cell n a _ h1 hc
      split at ok
      · rename_i k
        split at ok
        · rename_i j hj
          have f := Fz.mut (o := .lst (vs.set j v)) h1 h2 (fun _ => HO.noConfusion) (fun _ _ => HO.noConfusion)
          refine .inl ⟨a, vs, k, j, rfl, int_ok dy, h2, by rw [← h3.length]; exact hj, ?_⟩
          exact ok ρ _ (Pre.refl _) f (rel.write h1 h2 (fun _ => HO.noConfusion) (fun _ _ => HO.noConfusion) ⟨_, upd_same, (h3.set dv j).mono (Pre.refl _) f⟩)
        · exact ok.elim
      · exact ok.elim
    · rename_i kds hc
      obtain ⟨kvs, h2, h3⟩ := rel.cell n a _ h1 hc
      split at ok
      · rename_i k hk
        split at ok
        · rename_i hl
          rw [hl.1] at h2
          have h2' : H a = some (.dK kvs) := by unfold Lk at h2; rw [if_neg Bool.false_ne_true] at h2; exact h2
          have f := Fz.mut (o := .dK (putK kvs k v)) h1 h2' (fun _ => HO.noConfusion) (fun _ _ => HO.noConfusion)
          refine .inr ⟨a, _, rfl, .inl ⟨kvs, k, h2', keyOf_ok hk dy, by rw [← KDs.length h3]; exact hl.2, rfl⟩, ?_⟩
          refine ok ρ _ (Pre.refl _) f (rel.write h1 h2' (fun _ => HO.noConfusion) (fun _ _ => HO.noConfusion) ⟨_, ?_, (h3.put dv).mono (Pre.refl _) f⟩)
          rw [hl.1]
          unfold Lk
          rw [if_neg Bool.false_ne_true]
          exact upd_same
        · exact ok.elim
      · exact ok.elim
    · exact ok.elim
  · exact ok.elim
section
variable {X : Cx} {hx : Option HX} {W : WX} {pos : Pos} {o i : Expr} {mo mi : ME}
def gsub (mo mi : ME) : MG := fun d δ μ => (mo δ μ).bind fun x μ1 => (mi δ μ1).bind fun y μ2 => match setD x y d μ2 with
  | .ok _ μ3 => .ok δ μ3
  | _ => .bad
theorem rg_sub (hu : Hu X) (ho : RE X hx W o mo) (hi : RE X hx W i mi)
    (ha : ∀ v, assign (.Subscript o i pos) X.env v = (do
      let ov ← holding [v] (eval o X.env)
      let iv ← holding [v, ov] (eval i X.env)
      standAt pos
      holding [v, ov, iv] (setItem ov iv v)
      release [v, ov, iv] []) := by intro _; rfl) : RG X hx W (.Subscript o i pos) (gsub mo mi) := by
  obtain ⟨to, po, ro⟩ := ho.ex
  obtain ⟨ti, pi, ri⟩ := hi.ex
  refine ⟨⟨_, pg_sub po pi (PSet.or set_list (set_dict hu)) ha, fun ρ μ δ σ H d v Q rel env dv ok => ?_⟩⟩
  unfold gsub at ok
  have key : ∀ {α β : Type} {R : Rl α β} {r : Res α} {k : α → Mem → Res DEnv} {ρ : List Addr} {H : Hp} {P : β → Hp → Prop}, OkG X.K hx ρ H (r.bind k) Q (fun c d H' => W c d σ H') →
      (∀ a μ1 ρ1 H1 b, Pre ρ ρ1 → Fz ρ ρ1 H H1 → Rel X.K ρ1 μ1 H1 → R ρ1 H1 a b → OkG X.K hx ρ1 H1 (k a μ1) Q (fun c d H' => W c d σ H') → P b H1) → Okr X.K R ρ H r P (fun c d H' => W c d σ H') := fun {α β R r k ρ H P} h hk => by
    cases r with
    | ok a μ1 => exact fun ρ1 H1 b p f rel rb => hk a μ1 ρ1 H1 b p f rel rb (OkG.mono p f h)
    | err C w μ1 => exact h
    | bad => exact h
  refine ro ρ μ δ σ H _ rel env (key ok fun x μ1 ρ1 H1 xv p1 f1 rel1 dx ok1 => ?_)
  refine ri ρ1 μ1 δ σ H1 _ rel1 (env.mono p1 f1) (key ok1 fun y μ2 ρ2 H2 yv p2 f2 rel2 dy ok2 => ?_)
  refine setD_ok rel2 (dx.mono p2 f2) dy ((dv.mono p1 f1).mono p2 f2) ?_
  revert ok2
  cases setD x y d μ2 with
  | ok u μ3 => exact fun ok2 ρ3 H3 p3 f3 rel3 => ok2 ρ3 H3 σ p3 f3 rel3 (((env.mono p1 f1).mono p2 f2).mono p3 f3)
  | err _ _ _ => exact id
  | bad => exact id
end
/-! ### fields -/
def putFD (f : Str) (v : D) : List (Str × D) → List (Str × D)
  | [] => [(f, v)]
  | (g, x) :: r => if g = f then (g, v) :: r else (g, x) :: putFD f v r
theorem KDs.look {K : PySem.W.Frag} {ρ : List Addr} {H : Hp} {f : Str} : ∀ {a : List (Str × D)} {b : List (Str × V)}, KDs K ρ H a b → (∀ d, a.lookup f = some d → ∃ v, b.lookup f = some v ∧ DV K ρ H d v) ∧ (a.lookup f = none → b.lookup f = none)
  | _, _, .nil => ⟨fun _ h => by simp at h, fun _ => rfl⟩
  | (g, x) :: a, (g', y) :: b, .cons r t => by
    have e : g = g' := r.1
    subst e
    simp only [List.lookup_cons]
    cases h : f == g with
    | true => exact ⟨fun d e => ⟨y, rfl, (Option.some.inj e) ▸ r.2⟩, fun e => nomatch e⟩
    | false => exact KDs.look t
theorem KDs.putF {K : PySem.W.Frag} {ρ : List Addr} {H : Hp} {f : Str} {d : D} {v : V} (hd : DV K ρ H d v) : ∀ {a : List (Str × D)} {b : List (Str × V)}, KDs K ρ H a b → KDs K ρ H (putFD f d a) (L2.putF f v b)
  | _, _, .nil => .cons ⟨rfl, hd⟩ .nil
  | (g, x) :: a, (g', y) :: b, .cons r t => by
    have e : g = g' := r.1
    subst e
    simp only [putFD, L2.putF]
    split
    · exact .cons ⟨rfl, hd⟩ t
    · exact .cons r (KDs.putF hd t)
theorem putFD_old {f : Str} {d : D} : ∀ {fs : List (Str × D)} {p : Str × D}, p ∈ putFD f d fs → p.1 = f ∨ p ∈ fs
  | [], p, h => by
    have : p = (f, d) := by simpa [putFD] using h
    exact .inl (by rw [this])
  | (g, x) :: r, p, h => by
    simp only [putFD] at h
    split at h
    · rename_i e
      rcases List.mem_cons.mp h with h | h
      · exact .inl (by rw [h]; exact e)
      · exact .inr (List.mem_cons_of_mem _ h)
    · rcases List.mem_cons.mp h with h | h
      · exact .inr (by rw [h]; exact List.mem_cons_self)
      · rcases putFD_old h with h | h
        · exact .inl h
        · exact .inr (List.mem_cons_of_mem _ h)
theorem putFD_len (f : Str) (d : D) : ∀ (fs : List (Str × D)), (putFD f d fs).length ≤ fs.length + 1
  | [] => by simp [putFD]
  | (g, x) :: r => by
    simp only [putFD]
    split
    · simp
    · simp; exact putFD_len f d r
theorem lookup_memD {f : Str} {r : D} : ∀ {fs : List (Str × D)}, fs.lookup f = some r → ∃ p ∈ fs, p.1 = f
  | [], hr => by simp at hr
  | (g, x) :: t, hr => by
    simp only [List.lookup_cons] at hr
    cases h : f == g with
    | true => exact ⟨(g, x), List.mem_cons_self, (beq_iff_eq.mp h).symm⟩
    | false =>
      rw [h] at hr
      obtain ⟨p, hp, e⟩ := lookup_memD hr
      exact ⟨p, List.mem_cons_of_mem _ hp, e⟩
def fFld (f : Str) (d : D) (μ : Mem) : Res D := match d with
  | .loc n => match μ.cells[n]? with
    | some (.ins _ fs) => match fs.lookup f with
      | some r => .ok r μ
      | none => .bad
    | _ => .bad
  | _ => .bad
def mfld (f : Str) (m : ME) : ME := bindM m fun d => fun _ μ => fFld f d μ
section
variable {X : Cx} {hx : Option HX} {W : WX} {e o : Expr} {f : Str} {m mo : ME} {pos pos' : Pos}
theorem re_fld (he : RE X hx W e m) (hb : attributeBase e f X.env (eval e X.env) = eval e X.env := by rfl) : RE X hx W (.Attribute e f pos) (mfld f m) := by
  obtain ⟨t, p, r⟩ := he.ex
  refine ⟨⟨_, pe_fld p hb, fun ρ0 μ0 δ σ H0 Q rel0 env0 ok0 => r ρ0 μ0 δ σ H0 _ rel0 env0 (Okr.bind ok0 fun d μ ρ H v pr fz rel dv ok => ?_)⟩⟩
  unfold fFld at ok
  dsimp only at ok
  split at ok
  · rename_i n
    split at ok
    · rename_i C fs hc
      split at ok
      · rename_i r hr
        simp only [DV] at dv
        obtain ⟨a, h1, rfl⟩ := dv
        obtain ⟨dx, vs, h2, h3, cl, na, _⟩ := rel.cell n a _ h1 hc
        obtain ⟨v, h4, h5⟩ := (KDs.look h3).1 r hr
        have hm := lookup_memD hr
        obtain ⟨p, hp, rfl⟩ := hm
        exact ⟨a, C, dx, vs, v, rfl, h2, cl, na p hp, h4, ok.now rel h5⟩
      · exact ok.elim
    · exact ok.elim
  · exact ok.elim
/-! o.f = v: an attribute that stands there, or a new one of a class in Cs -/
def setF (Cs : List Addr) (f : Str) (o v : D) (μ : Mem) : Res Unit := match o with
  | .loc n => match μ.cells[n]? with
    | some (.ins C fs) => if ((fs.lookup f).isSome || Cs.contains C) = true ∧ fs.length < 1000 then .ok () (μ.set n (.ins C (putFD f v fs))) else .bad
    | _ => .bad
  | _ => .bad
def rSetF (K : PySem.W.Frag) (f : Str) (x y : V) (H : Hp) (Q : Hp → Prop) : Prop := ∃ a C dx fs, x = .ref a ∧ H a = some (.ins C dx fs) ∧ Cls K C ∧ NoAttr K C f ∧ fs.length < 1000 ∧ Q (upd H a (.ins C dx (L2.putF f y fs)))
theorem setF_ok {K : PySem.W.Frag} {ρ : List Addr} {μ : Mem} {H : Hp} {Cs : List Addr} {f : Str} {o d : D} {x v : V} {Q : Hp → Prop} (hn : ∀ C ∈ Cs, NoAttr K C f) (rel : Rel K ρ μ H) (dx : DV K ρ H o x) (dv : DV K ρ H d v) (ok : OkU K ρ H (setF Cs f o d μ) Q) : rSetF K f x v H Q := by
  unfold setF at ok
  split at ok
  · rename_i n
    simp only [DV] at dx
    obtain ⟨a, h1, rfl⟩ := dx
    split at ok
    · rename_i C fs hc
      obtain ⟨dx, vs, h2, h3, cl, na, hl⟩ := rel.cell n a _ h1 hc
      split at ok
      · rename_i hs
        have hna : NoAttr K C f := by
          have := hs.1
          simp only [Bool.or_eq_true, List.contains_iff_mem] at this
          rcases this with h | h
          · obtain ⟨r, hr⟩ := Option.isSome_iff_exists.mp h
            obtain ⟨p, hp, rfl⟩ := lookup_memD hr
            exact na p hp
          · exact hn C h
        have f' := Fz.mut (o := .ins C dx (L2.putF f v vs)) h1 h2 (fun _ => HO.noConfusion) (fun _ _ => HO.noConfusion)
        refine ⟨a, C, dx, vs, rfl, h2, cl, hna, by rw [← KDs.length h3]; exact hs.2, ok ρ _ (Pre.refl _) f' (rel.write h1 h2 (fun _ => HO.noConfusion) (fun _ _ => HO.noConfusion) ⟨dx, _, upd_same, (h3.putF dv).mono (Pre.refl _) f', cl, fun p hp => ?_, ?_⟩)⟩
        · rcases putFD_old hp with h | h
          · rw [h]; exact hna
          · exact na p h
        · have := putFD_len f d fs
          have := hs.2
          omega
      · exact ok.elim
    · exact ok.elim
  · exact ok.elim
def gFldT (K : PySem.W.Frag) (f : Str) (to : TE) : TG := fun v σ H Q => to σ H fun x H1 => rSetF K f x v H1 fun H2 => Q σ H2
theorem pg_fld {to : TE} (ho : PE X o to) : PG X (.Attribute o f pos) (gFldT X.K f to) := by
  refine ⟨fun pins s σ H v u Q I r h => ?_⟩
  rw [PySem.arm_assign_Attribute]
  refine wpAny_bind (wpAny_holding (thn (ho.run pins s σ H _ I h) fun ov s1 ⟨x, H1, I1, r1, a, C, dx, fs, ex, ea, c, n, l, q⟩ => ?_))
  subst ex
  obtain rfl : ov = Value.ref a := r1
  refine wpAny_bind (wpAny_standAt (wpAny_bind (wpAny_holding (setattr_ok I1 ea c n l r fun s3 I3 => ?_))))
  exact wpAny_release ⟨σ, _, I3, q⟩
def gfld (Cs : List Addr) (f : Str) (mo : ME) : MG := fun d δ μ => (mo δ μ).bind fun x μ1 => match setF Cs f x d μ1 with
  | .ok _ μ2 => .ok δ μ2
  | _ => .bad
theorem rg_fld (Cs : List Addr) (hn : ∀ C ∈ Cs, NoAttr X.K C f) (ho : RE X hx W o mo) : RG X hx W (.Attribute o f pos) (gfld Cs f mo) := by
  obtain ⟨to, po, ro⟩ := ho.ex
  refine ⟨⟨_, pg_fld po, fun ρ μ δ σ H d v Q rel env dv ok => ?_⟩⟩
  unfold gfld at ok
  refine ro ρ μ δ σ H _ rel env ?_
  revert ok
  cases mo δ μ with
  | err C w μ1 => exact id
  | bad => exact id
  | ok x μ1 =>
    intro ok ρ1 H1 xv p1 f1 rel1 dx
    refine setF_ok hn rel1 dx (dv.mono p1 f1) ?_
    have ok1 : OkG X.K hx ρ H (match setF Cs f x d μ1 with | .ok _ μ2 => .ok δ μ2 | _ => .bad) Q (fun c d H' => W c d σ H') := ok
    revert ok1
    cases setF Cs f x d μ1 with
    | ok u μ3 => exact fun ok2 ρ3 H3 p3 f3 rel3 => ok2 ρ3 H3 σ (p1.trans p3) (f1.trans f3) rel3 ((env.mono p1 f1).mono p3 f3)
    | err _ _ _ => exact id
    | bad => exact id
end
end Doz
end
section
/-! Doz7: what is walked; for, while; comprehensions. -/
namespace Doz
open PySem L2
/-! ### the same datum -/
mutual
def D.same : D → D → Bool
  | .non, .non => true
  | .bl a, .bl b => a == b
  | .int i, .int j => i == j
  | .str x, .str y => x == y
  | .lst xs, .lst ys => D.sames xs ys
  | .tup xs, .tup ys => D.sames xs ys
  | .loc n, .loc m => n == m
  | .sta n, .sta m => n == m
  | .ty n, .ty m => n == m
  | _, _ => false
def D.sames : List D → List D → Bool
  | [], [] => true
  | x :: xs, y :: ys => D.same x y && D.sames xs ys
  | _, _ => false
end
mutual
theorem D.same_eq : ∀ (a b : D), D.same a b = true → a = b
  | .non, b, h => by cases b <;> simp_all [D.same]
  | .bl x, b, h => by cases b <;> simp_all [D.same]
  | .int x, b, h => by cases b <;> simp_all [D.same]
  | .str x, b, h => by cases b <;> simp_all [D.same]
  | .tup xs, b, h => by
    cases b with
    | tup ys => rw [D.sames_eq xs ys (by simpa [D.same] using h)]
    | _ => simp [D.same] at h
  | .lst xs, b, h => by
    cases b with
    | lst ys => rw [D.sames_eq xs ys (by simpa [D.same] using h)]
    | _ => simp [D.same] at h
  | .loc _, b, h => by cases b <;> simp_all [D.same]
  | .sta _, b, h => by cases b <;> simp_all [D.same]
  | .ty _, b, h => by cases b <;> simp_all [D.same]
theorem D.sames_eq : ∀ (a b : List D), D.sames a b = true → a = b
  | [], b, h => by cases b <;> simp_all [D.sames]
  | x :: xs, b, h => by
    cases b with
    | nil => simp [D.sames] at h
    | cons y ys =>
      simp only [D.sames, Bool.and_eq_true] at h
      rw [D.same_eq x y h.1, D.sames_eq xs ys h.2]
end
mutual
theorem D.same_refl : ∀ a : D, D.same a a = true
  | .non => by simp [D.same]
  | .bl x => by simp [D.same]
  | .int x => by simp [D.same]
  | .str x => by simp [D.same]
  | .tup xs => by simp only [D.same]; exact D.sames_refl xs
  | .lst xs => by simp only [D.same]; exact D.sames_refl xs
  | .loc _ => by simp [D.same]
  | .sta _ => by simp [D.same]
  | .ty _ => by simp [D.same]
theorem D.sames_refl : ∀ a : List D, D.sames a a = true
  | [] => by simp [D.sames]
  | x :: xs => by simp [D.sames, D.same_refl x, D.sames_refl xs]
end
/-! ### iterables -/
abbrev Its0 := List D × (Mem → Bool)
def ItR (K : PySem.W.Frag) : Rl Its0 It := fun ρ0 H0 a J => ∀ ρ μ H (i : Nat), Pre ρ0 ρ → Fz ρ0 ρ H0 H → Rel K ρ μ H → a.2 μ = true →
  (∀ d, a.1[i]? = some d → J.go i H ∧ ∀ x H', J.yld i H x H' → Fz ρ ρ H H' ∧ Rel K ρ μ H' ∧ DV K ρ H' d x) ∧ (i = a.1.length → J.stop i H)
structure RI (X : Cx) (hx : Option HX) (W : WX) (tg iter : Expr) (m : MX Its0) : Prop where
  ex : ∃ wi : TI, PI X tg iter wi ∧ Ref X.K hx W (ItR X.K) wi m
theorem PI.or {X : Cx} {tg iter : Expr} {w w' : TI} (h : PI X tg iter w) (h' : PI X tg iter w') : PI X tg iter (fun σ H R => w σ H R ∨ w' σ H R) :=
  ⟨fun pins s σ H R I q => q.elim (h.run pins s σ H R I) (h'.run pins s σ H R I)⟩
def lstIs (d : D) (ds : List D) (μ : Mem) : Bool := match lstOf μ d with
  | some es => D.sames ds es
  | none => false
theorem lstIs_eq {d : D} {ds : List D} {μ : Mem} (h : lstIs d ds μ = true) : lstOf μ d = some ds := by
  unfold lstIs at h
  split at h
  · rename_i es e
    rw [D.sames_eq ds es h]; exact e
  · cases h
def signs (x : Str) : List D := x.cps.toList.map fun c => D.str ⟨#[c]⟩
def fIter (d : D) (μ : Mem) : Res Its0 := match d with
  | .str x => .ok (signs x, fun _ => true) μ
  | .tup ds => .ok (ds, fun _ => true) μ
  | .lst ds => .ok (ds, fun _ => true) μ
  | d => match lstOf μ d with
    | some ds => .ok (ds, lstIs d ds) μ
    | none => .bad
def miter (m : ME) : MX Its0 := bindM m fun d => fun _ μ => fIter d μ
section
variable {X : Cx} {hx : Option HX} {W : WX} {tg e : Expr} {m : ME}
theorem itr_list {K : PySem.W.Frag} {ρ0 : List Addr} {H0 : Hp} {d : D} {a : Addr} {ds : List D} {g : Mem → Bool} (dv : DV K ρ0 H0 d (.ref a)) (hg : ∀ μ, g μ = true → lstOf μ d = some ds) : ItR K ρ0 H0 (ds, g) (Itl K a) := by
  intro ρ μ H i p f rel gd
  obtain ⟨b, vs, e1, e2, e3⟩ := lstOf_ok rel (dv.mono p f) (hg μ gd)
  cases e1
  refine ⟨fun d hd => ?_, fun hi => ?_⟩
  · obtain ⟨v, hv, dv'⟩ := e3.get hd
    refine ⟨⟨vs, v, rd_sq e2, hv⟩, fun x H' y => ?_⟩
    obtain ⟨rfl, y⟩ := y
    have : x = v := Option.some.inj ((y vs (rd_sq e2)).symm.trans hv)
    subst this
    exact ⟨Fz.refl _, rel, dv'⟩
  · exact ⟨vs, rd_sq e2, by rw [← e3.length, hi]; exact Nat.le_refl _⟩
theorem itr_tup {K : PySem.W.Frag} {ρ0 : List Addr} {H0 : Hp} {a : Addr} {ds : List D} {g : Mem → Bool} (dv : DV K ρ0 H0 (.tup ds) (.ref a)) : ItR K ρ0 H0 (ds, g) (Itt K a) := by
  intro ρ μ H i p f rel gd
  obtain ⟨b, vs, e1, e2, e3⟩ := tup_ok (dv.mono p f)
  cases e1
  refine ⟨fun d hd => ?_, fun hi => ?_⟩
  · obtain ⟨v, hv, dv'⟩ := e3.get hd
    refine ⟨⟨vs, v, e2.sq, hv⟩, fun x H' y => ?_⟩
    obtain ⟨rfl, y⟩ := y
    have : x = v := Option.some.inj ((y vs e2.sq).symm.trans hv)
    subst this
    exact ⟨Fz.refl _, rel, dv'⟩
  · exact ⟨vs, e2.sq, by rw [← e3.length, hi]; exact Nat.le_refl _⟩
theorem itr_str {K : PySem.W.Frag} {ρ0 : List Addr} {H0 : Hp} {z : Str} {g : Mem → Bool} : ItR K ρ0 H0 (signs z, g) (Its z) := by
  intro ρ μ H i p f rel gd
  refine ⟨fun d hd => ?_, fun hi => ?_⟩
  · have hd' : (z.cps.toList.map fun c => D.str ⟨#[c]⟩)[i]? = some d := hd
    rw [List.getElem?_map] at hd'
    obtain ⟨c, hc, rfl⟩ := Option.map_eq_some_iff.mp hd'
    rw [Array.getElem?_toList] at hc
    refine ⟨(Array.getElem?_eq_some_iff.mp hc).1, fun x H' y => ?_⟩
    obtain ⟨rfl, c', hc', rfl⟩ := y
    have : c = c' := Option.some.inj (hc.symm.trans hc')
    subst this
    exact ⟨Fz.refl _, rel, dv_str⟩
  · have : i = z.cps.size := by rw [hi]; simp [signs]
    exact Nat.le_of_eq this.symm
theorem ri_seq (he : RE X hx W e m) : RI X hx W tg e (miter m) := by
  obtain ⟨t, p, r⟩ := he.ex
  refine ⟨⟨_, PI.or (pi_list p) (PI.or (pi_tup p) (pi_str p)), fun ρ0 μ0 δ σ H0 Q rel0 env0 ok0 => ?_⟩⟩
  unfold miter bindM at ok0
  have run : ∀ (P : VK), Okr X.K (DV X.K) ρ0 H0 (m δ μ0) P (fun c d H' => W c d σ H') → t σ H0 P := fun P ok => r ρ0 μ0 δ σ H0 P rel0 env0 ok
  cases em : m δ μ0 with
  | err C w μ1 =>
    rw [em] at ok0 run
    exact .inl (run _ ok0)
  | bad => rw [em] at ok0; exact ok0.elim
  | ok d μ1 =>
    rw [em] at ok0 run
    have ok1 : Okr X.K (ItR X.K) ρ0 H0 (fIter d μ1) Q (fun c d H' => W c d σ H') := ok0
    unfold fIter at ok1
    split at ok1
    · rename_i z
      refine .inr (.inr (run _ fun ρ1 H1 v pr fz rel dv => ⟨z, str_ok dv, ok1 ρ1 H1 _ pr fz rel itr_str⟩))
    · rename_i ds
      refine .inr (.inl (run _ fun ρ1 H1 v pr fz rel dv => ?_))
      obtain ⟨a, vs, rfl, e2, e3⟩ := tup_ok dv
      exact ⟨a, rfl, ⟨vs, e2.sq⟩, ok1 ρ1 H1 _ pr fz rel (itr_tup dv)⟩
    · rename_i ds
      refine .inl (run _ fun ρ1 H1 v pr fz rel dv => ?_)
      obtain ⟨a, vs, rfl, e2, e3⟩ := lstOf_ok rel dv (ds := ds) rfl
      exact ⟨a, rfl, ⟨vs, rd_sq e2⟩, ok1 ρ1 H1 _ pr fz rel (itr_list dv fun _ _ => rfl)⟩
    · split at ok1
      · rename_i ds hd
        refine .inl (run _ fun ρ1 H1 v pr fz rel dv => ?_)
        obtain ⟨a, vs, rfl, e2, e3⟩ := lstOf_ok rel dv hd
        exact ⟨a, rfl, ⟨vs, rd_sq e2⟩, ok1 ρ1 H1 _ pr fz rel (itr_list dv fun _ h => lstIs_eq h)⟩
      · exact ok1.elim
/-! range -/
def rngItems (lo : Int) (n : Nat) : List D := (List.range n).map fun i => D.int (lo + (i : Nat))
def fRng1 (ds : List D) (μ : Mem) : Res Its0 := match ds with
  | [.int j] => if -(2 ^ 62) ≤ j ∧ j < 2 ^ 62 then .ok (rngItems 0 j.toNat, fun _ => true) μ else .bad
  | _ => .bad
def fRng2 (ds : List D) (μ : Mem) : Res Its0 := match ds with
  | [.int i, .int j] => if -(2 ^ 62) ≤ i ∧ i < 2 ^ 62 ∧ -(2 ^ 62) ≤ j ∧ j < 2 ^ 62 then .ok (rngItems i (j - i).toNat, fun _ => true) μ else .bad
  | _ => .bad
theorem itr_rng {K : PySem.W.Frag} {ρ0 : List Addr} {H0 : Hp} {lo : Int} {n : Nat} {g : Mem → Bool} : ItR K ρ0 H0 (rngItems lo n, g) (Itr lo n) := by
  intro ρ μ H i p f rel gd
  refine ⟨fun d hd => ?_, fun hi => ?_⟩
  · have hd' : ((List.range n).map fun i => D.int (lo + (i : Nat)))[i]? = some d := hd
    rw [List.getElem?_map] at hd'
    obtain ⟨c, hc, rfl⟩ := Option.map_eq_some_iff.mp hd'
    obtain ⟨h1, h2⟩ := List.getElem?_eq_some_iff.mp hc
    simp at h1 h2
    subst h2
    refine ⟨h1, fun x H' y => ?_⟩
    obtain ⟨rfl, rfl⟩ := y
    exact ⟨Fz.refl _, rel, dv_int⟩
  · have : i = n := by rw [hi]; simp [rngItems]
    exact Nat.le_of_eq this.symm
theorem ri_range1 {a : Expr} {p pos : Pos} {ma : MX (List D)} (hm : X.mg "range" = none) (ha : RA X hx W [a] ma) (hg : Gl X "range" := by rfl) (hs : starEach [a] X.env = [(false, eval a X.env)] := by rfl) : RI X hx W tg (.Call (.Name "range" p) [a] [] pos) (mcall fRng1 ma) := by
  obtain ⟨t, pt, rt⟩ := ha.ex
  refine ⟨⟨_, pi_range1 hg hm pt hs, fun ρ0 μ0 δ σ H0 Q rel0 env0 ok0 => rt ρ0 μ0 δ σ H0 _ rel0 env0 (Okr.bind ok0 fun ds μ ρ H vs pr fz rel dv ok => ?_)⟩⟩
  unfold fRng1 at ok
  dsimp only at ok
  split at ok
  · split at ok
    · rename_i j h
      obtain ⟨v, rfl, h1⟩ := dv.one
      exact ⟨j, by rw [int_ok h1], h.1, h.2, ok ρ H _ (Pre.refl _) (Fz.refl _) rel itr_rng⟩
    · exact ok.elim
  · exact ok.elim
theorem ri_range2 {a b : Expr} {p pos : Pos} {ma : MX (List D)} (hm : X.mg "range" = none) (ha : RA X hx W [a, b] ma) (hg : Gl X "range" := by rfl) (hs : starEach [a, b] X.env = [(false, eval a X.env), (false, eval b X.env)] := by rfl) (hs2 : starEach [b] X.env = [(false, eval b X.env)] := by rfl) : RI X hx W tg (.Call (.Name "range" p) [a, b] [] pos) (mcall fRng2 ma) := by
  obtain ⟨t, pt, rt⟩ := ha.ex
  refine ⟨⟨_, pi_range2 hg hm pt hs hs2, fun ρ0 μ0 δ σ H0 Q rel0 env0 ok0 => rt ρ0 μ0 δ σ H0 _ rel0 env0 (Okr.bind ok0 fun ds μ ρ H vs pr fz rel dv ok => ?_)⟩⟩
  unfold fRng2 at ok
  dsimp only at ok
  split at ok
  · split at ok
    · rename_i i j h
      obtain ⟨v, u, rfl, h1, h2⟩ := dv.two
      exact ⟨i, j, by rw [int_ok h1, int_ok h2], h, ok ρ H _ (Pre.refl _) (Fz.refl _) rel itr_rng⟩
    · exact ok.elim
  · exact ok.elim
end
/-! ### for -/
def mloop (g : MG) (body : MS) (gd : Mem → Bool) : List D → MS
  | [], δ, μ => if gd μ = true then .nx δ μ else .bad
  | d :: ds, δ, μ => if gd μ = true then match g d δ μ with
      | .ok δ1 μ1 => match body δ1 μ1 with
        | .nx δ2 μ2 => mloop g body gd ds δ2 μ2
        | .ct δ2 μ2 => mloop g body gd ds δ2 μ2
        | .bk δ2 μ2 => .nx δ2 μ2
        | .rt d μ2 => .rt d μ2
        | .err C w δ2 μ2 => .err C w δ2 μ2
        | .bad => .bad
      | _ => .bad
    else .bad
def mfor (mi : MX Its0) (g : MG) (body : MS) : MS := ofE mi fun it => fun δ μ => mloop g body it.2 it.1 δ μ
theorem loop_ref {K : PySem.W.Frag} {hx : Option HX} {W : WX} {J : It} {g : TG} {tb : TS} {mg : MG} {mb : MS} {items : List D} {gd : Mem → Bool} {ρ0 : List Addr} {H0 : Hp} {Dn : Ends} (ij : ItR K ρ0 H0 (items, gd) J) (hg : RefG K hx W g mg) (hb : RefS K hx W tb mb)
    {ρ : List Addr} {μ : Mem} {H : Hp} {δ : DEnv} {σ : St} (p0 : Pre ρ0 ρ) (f0 : Fz ρ0 ρ H0 H) (rel : Rel K ρ μ H) (env : EnvR K ρ H hx δ σ) (ok : OkS K hx W ρ H (mloop mg mb gd items δ μ) Dn) :
    ∃ W' : Nat → Nat → St → Hp → Prop, (∃ m, W' 0 m σ H) ∧ ∀ i m σ H, W' i m σ H →
      (J.stop i H ∧ Dn.nx σ H) ∨ (J.go i H ∧ ∃ N : St → Hp → Prop, (∀ σ' H', N σ' H' → ∃ m', m' < m ∧ W' (i + 1) m' σ' H') ∧ ∀ x H', J.yld i H x H' → g x σ H' fun σ2 H2 => tb { Dn with nx := N, ct := N, bk := Dn.nx } σ2 H2) := by
  refine ⟨fun i m σ H => m = items.length - i ∧ i ≤ items.length ∧ ∃ ρ μ δ, Pre ρ0 ρ ∧ Fz ρ0 ρ H0 H ∧ Rel K ρ μ H ∧ EnvR K ρ H hx δ σ ∧ OkS K hx W ρ H (mloop mg mb gd (items.drop i) δ μ) Dn, ⟨items.length, by simp, Nat.zero_le _, ρ, μ, δ, p0, f0, rel, env, by simpa using ok⟩, ?_⟩
  rintro i m σ H ⟨rfl, hi, ρ, μ, δ, p0, f0, rel, env, ok⟩
  by_cases hlt : i < items.length
  · have e : items.drop i = items[i] :: items.drop (i + 1) := List.drop_eq_getElem_cons hlt
    rw [e] at ok
    simp only [mloop] at ok
    split at ok
    · rename_i hgd
      obtain ⟨h1, _⟩ := ij ρ μ H i p0 f0 rel hgd
      obtain ⟨hgo, hy⟩ := h1 items[i] (List.getElem?_eq_getElem hlt)
      refine .inr ⟨hgo, fun σ' H' => ∃ ρ μ δ, Pre ρ0 ρ ∧ Fz ρ0 ρ H0 H' ∧ Rel K ρ μ H' ∧ EnvR K ρ H' hx δ σ' ∧ OkS K hx W ρ H' (mloop mg mb gd (items.drop (i + 1)) δ μ) Dn, fun σ' H' h => ⟨items.length - (i + 1), by omega, rfl, hlt, h⟩, fun x H' yl => ?_⟩
      obtain ⟨fz, rel', dv⟩ := hy x H' yl
      have env' := env.mono (Pre.refl _) fz
      refine hg ρ μ δ σ H' items[i] x _ rel' env' dv ?_
      cases eg : mg items[i] δ μ with
      | err C w μ1 => rw [eg] at ok; exact ok.elim
      | bad => rw [eg] at ok; exact ok.elim
      | ok δ1 μ1 =>
        rw [eg] at ok
        intro ρ1 H1 σ1 p1 f1 rel1 env1
        refine hb ρ1 μ1 δ1 σ1 H1 _ rel1 env1 ?_
        dsimp only at ok
        have fzz := fz.trans f1
        cases eb : mb δ1 μ1 with
        | nx δ2 μ2 =>
          rw [eb] at ok
          exact fun ρ2 H2 σ2 p2 f2 rel2 env2 => ⟨ρ2, μ2, δ2, p0.trans (p1.trans p2), f0.trans (fzz.trans f2), rel2, env2, OkS.mono (p1.trans p2) (fzz.trans f2) ok⟩
        | ct δ2 μ2 =>
          rw [eb] at ok
          exact fun ρ2 H2 σ2 p2 f2 rel2 env2 => ⟨ρ2, μ2, δ2, p0.trans (p1.trans p2), f0.trans (fzz.trans f2), rel2, env2, OkS.mono (p1.trans p2) (fzz.trans f2) ok⟩
        | bk δ2 μ2 =>
          rw [eb] at ok
          exact fun ρ2 H2 σ2 p2 f2 rel2 env2 => ok ρ2 H2 σ2 (p1.trans p2) (fzz.trans f2) rel2 env2
        | rt d μ2 =>
          rw [eb] at ok
          exact fun ρ2 H2 v p2 f2 rel2 dv2 => ok ρ2 H2 v (p1.trans p2) (fzz.trans f2) rel2 dv2
        | err C w δ2 μ2 =>
          rw [eb] at ok
          exact fun ρ2 H2 σ2 dd v p2 f2 => ok ρ2 H2 σ2 dd v (p1.trans p2) (fzz.trans f2)
        | bad => rw [eb] at ok; exact ok.elim
    · exact ok.elim
  · have e : i = items.length := by omega
    subst e
    rw [List.drop_length] at ok
    simp only [mloop] at ok
    split at ok
    · rename_i hgd
      obtain ⟨_, h2⟩ := ij ρ μ H items.length p0 f0 rel hgd
      exact .inl ⟨h2 rfl, ok ρ H σ (Pre.refl _) (Fz.refl _) rel env⟩
    · exact ok.elim
section
variable {X : Cx} {hx : Option HX} {W : WX} {tg iter : Expr} {body : List Stmt} {pos : Pos} {mi : MX Its0} {mg : MG} {mb : MS}
theorem rs_for (hp : PassesOwn (model X.prog X.w) X.A X.env X.xe) (hc : X.calm = true) (hi : RI X hx W tg iter mi) (hg : RG X hx W tg mg) (hb : RSs X hx W body mb) (hs : ∀ x, foldedSetIterable iter X.env x = pure x := by intro _; rfl) : RS X hx W (.For tg iter body [] pos) (mfor mi mg mb) := by
  obtain ⟨wi, pi, ri⟩ := hi.ex
  obtain ⟨g, pg, rg⟩ := hg.ex
  obtain ⟨tb, pb, rb⟩ := hb.ex
  exact ⟨⟨_, ps_for hp hc pi pg pb hs, fun ρ μ δ σ H Dn rel env ok => ri ρ μ δ σ H _ rel env (OkS.ofE env ok fun it μ1 ρ1 H1 J pr fz rel1 ij ok1 => loop_ref ij rg rb (Pre.refl _) (Fz.refl _) rel1 (env.mono pr fz) ok1)⟩⟩
/-! ### while -/
def mwhile (t : MX Bool) (body : MS) : Nat → MS
  | 0, _, _ => .bad
  | f + 1, δ, μ => match t δ μ with
    | .ok true μ1 => match body δ μ1 with
      | .nx δ2 μ2 => mwhile t body f δ2 μ2
      | .ct δ2 μ2 => mwhile t body f δ2 μ2
      | .bk δ2 μ2 => .nx δ2 μ2
      | .rt d μ2 => .rt d μ2
      | .err C w δ2 μ2 => .err C w δ2 μ2
      | .bad => .bad
    | .ok false μ1 => .nx δ μ1
    | .err C w μ1 => .err C w δ μ1
    | .bad => .bad
theorem rs_while {c : Expr} {mt : MX Bool} (fuel : Nat) (hp : PassesOwn (model X.prog X.w) X.A X.env X.xe) (hc : RT X hx W c mt) (hb : RSs X hx W body mb) : RS X hx W (.While c body [] pos) (mwhile mt mb fuel) := by
  obtain ⟨tc, pc, rc⟩ := hc.ex
  obtain ⟨tb, pb, rb⟩ := hb.ex
  refine ⟨⟨_, ps_while hp pc pb, fun ρ μ δ σ H Dn rel env ok => ?_⟩⟩
  refine ⟨fun m σ' H' => ∃ ρ' μ' δ', Pre ρ ρ' ∧ Fz ρ ρ' H H' ∧ Rel X.K ρ' μ' H' ∧ EnvR X.K ρ' H' hx δ' σ' ∧ OkS X.K hx W ρ' H' (mwhile mt mb m δ' μ') Dn, ⟨fuel, ρ, μ, δ, Pre.refl _, Fz.refl _, rel, env, ok⟩, ?_⟩
  rintro m σ1 H1 ⟨ρ1, μ1, δ1, p1, f1, rel1, env1, ok1⟩
  cases m with
  | zero => exact ok1.elim
  | succ f =>
    simp only [mwhile] at ok1
    refine rc ρ1 μ1 δ1 σ1 H1 _ rel1 env1 ?_
    cases et : mt δ1 μ1 with
    | err C w μ2 =>
      rw [et] at ok1
      exact fun ρ2 H2 dd v p2 f2 rel2 hd dv => ok1 ρ2 H2 σ1 dd v p2 f2 rel2 (env1.mono p2 f2) hd dv
    | bad => rw [et] at ok1; exact ok1.elim
    | ok b μ2 =>
      rw [et] at ok1
      intro ρ2 H2 b' p2 f2 rel2 e
      have e' : b = b' := e
      subst e'
      cases b with
      | false => exact iteF (ok1 ρ2 H2 σ1 p2 f2 rel2 (env1.mono p2 f2))
      | true =>
        refine iteT ⟨fun σ' H' => ∃ ρ' μ' δ', Pre ρ ρ' ∧ Fz ρ ρ' H H' ∧ Rel X.K ρ' μ' H' ∧ EnvR X.K ρ' H' hx δ' σ' ∧ OkS X.K hx W ρ' H' (mwhile mt mb f δ' μ') Dn, fun σ' H' h => ⟨f, Nat.lt_succ_self _, h⟩, ?_⟩
        refine rb ρ2 μ2 δ1 σ1 H2 _ rel2 (env1.mono p2 f2) ?_
        dsimp only at ok1
        cases eb : mb δ1 μ2 with
        | nx δ2 μ3 =>
          rw [eb] at ok1
          exact fun ρ3 H3 σ3 p3 f3 rel3 env3 => ⟨ρ3, μ3, δ2, p1.trans (p2.trans p3), f1.trans (f2.trans f3), rel3, env3, OkS.mono (p2.trans p3) (f2.trans f3) ok1⟩
        | ct δ2 μ3 =>
          rw [eb] at ok1
          exact fun ρ3 H3 σ3 p3 f3 rel3 env3 => ⟨ρ3, μ3, δ2, p1.trans (p2.trans p3), f1.trans (f2.trans f3), rel3, env3, OkS.mono (p2.trans p3) (f2.trans f3) ok1⟩
        | bk δ2 μ3 =>
          rw [eb] at ok1
          exact fun ρ3 H3 σ3 p3 f3 rel3 env3 => ok1 ρ3 H3 σ3 (p2.trans p3) (f2.trans f3) rel3 env3
        | rt d μ3 =>
          rw [eb] at ok1
          exact fun ρ3 H3 v p3 f3 rel3 dv3 => ok1 ρ3 H3 v (p2.trans p3) (f2.trans f3) rel3 dv3
        | err C w δ2 μ3 =>
          rw [eb] at ok1
          exact fun ρ3 H3 σ3 dd v p3 f3 => ok1 ρ3 H3 σ3 dd v (p2.trans p3) (f2.trans f3)
        | bad => rw [eb] at ok1; exact ok1.elim
end
end Doz
end
section
/-! Doz8: comprehensions. -/
namespace Doz
open PySem L2
def wipeD (δ : DEnv) : List Nat → DEnv
  | [] => δ
  | i :: is => (wipeD δ is).set i none
theorem wipeD_length (δ : DEnv) : ∀ vs : List Nat, (wipeD δ vs).length = δ.length
  | [] => rfl
  | v :: vs => by unfold wipeD; rw [List.length_set, wipeD_length δ vs]
theorem EnvR.unset {K : PySem.W.Frag} {ρ : List Addr} {H : Hp} {δ : DEnv} {σ : St} {i : Nat} (e : EnvR K ρ H none δ σ) : EnvR K ρ H none (δ.set i none) (σ.set i none) := by
  refine ⟨by simp [e.len], fun j d' h => ?_, fun q h => by cases h⟩
  by_cases hj : i = j
  · subst hj
    have hl : i < δ.length := by
      have := (List.getElem?_eq_some_iff.mp h).1
      simpa using this
    rw [List.getElem?_set_self hl] at h
    cases h
  · rw [List.getElem?_set_ne hj] at h
    obtain ⟨u, h1, h2⟩ := e.get j d' h
    exact ⟨u, by rw [List.getElem?_set_ne hj]; exact h1, h2⟩
theorem EnvR.nox {K : PySem.W.Frag} {ρ : List Addr} {H : Hp} {hx : Option HX} {δ : DEnv} {σ : St} (e : EnvR K ρ H hx δ σ) : EnvR K ρ H none δ σ := ⟨e.len, e.get, fun _ h => by cases h⟩
theorem EnvR.wipe {K : PySem.W.Frag} {ρ : List Addr} {H : Hp} {δ : DEnv} {σ : St} (e : EnvR K ρ H none δ σ) : ∀ vs : List Nat, EnvR K ρ H none (wipeD δ vs) (L2.wipe σ vs)
  | [] => e
  | v :: vs => (EnvR.wipe e vs).unset
theorem set_wipe {σ : St} {i : Nat} {x : Option V} : ∀ {vs : List Nat}, i ∈ vs → L2.wipe (σ.set i x) vs = L2.wipe σ vs
  | v :: vs, h => by
    unfold L2.wipe
    by_cases hi : i ∈ vs
    · rw [set_wipe hi]
    · have : v = i := by
        rcases List.mem_cons.mp h with h | h
        · exact h.symm
        · exact absurd h hi
      subst this
      have key : ∀ (ws : List Nat) (τ : St), v ∉ ws → L2.wipe (τ.set v x) ws = (L2.wipe τ ws).set v x := by
        intro ws
        induction ws with
        | nil => intro τ _; rfl
        | cons w ws ih =>
          intro τ hw
          simp only [List.mem_cons, not_or] at hw
          unfold L2.wipe
          rw [ih τ hw.2, List.set_comm _ _ hw.1]
      rw [key vs σ hi, List.set_set]
theorem wipe_wipe {σ : St} {us : List Nat} : ∀ {vs : List Nat}, (∀ i ∈ vs, i ∈ us) → L2.wipe (L2.wipe σ vs) us = L2.wipe σ us
  | [], _ => rfl
  | v :: vs, h => by
    show L2.wipe ((L2.wipe σ vs).set v Option.none) us = _
    rw [set_wipe (h v List.mem_cons_self)]
    exact wipe_wipe fun i hi => h i (List.mem_cons_of_mem _ hi)
/-! ### targets in a block -/
def OkGw (K : PySem.W.Frag) (vs : List Nat) (σ0 : St) (ρ : List Addr) (H : Hp) (r : Res DEnv) (Q : St → Hp → Prop) : Prop := match r with
  | .ok δ μ => ∀ ρ' H' σ, Pre ρ ρ' → Fz ρ ρ' H H' → Rel K ρ' μ H' → EnvR K ρ' H' none δ σ → L2.wipe σ vs = L2.wipe σ0 vs → Q σ H'
  | _ => False
structure RGc (X : Cx) (scope : Scope) (vs : List Nat) (tg : Expr) (mg : MG) : Prop where
  ex : ∃ g : TG, (∀ (s : Shared) (H : Hp) (C : Addr) (cl : List (Str × Addr)) (fp : List Addr), PG (X.blk s H scope (compEnvC scope cl C X.env) fp) tg g) ∧
    ∀ ρ μ δ σ H d v (Q : St → Hp → Prop), Rel X.K ρ μ H → EnvR X.K ρ H none δ σ → DV X.K ρ H d v → OkGw X.K vs σ ρ H (mg d δ μ) Q → g v σ H Q
structure RGcs (X : Cx) (scope : Scope) (vs : List Nat) (tgs : List Expr) (mg : MGs) : Prop where
  ex : ∃ g : TGs, (∀ (s : Shared) (H : Hp) (C : Addr) (cl : List (Str × Addr)) (fp : List Addr), PGs (X.blk s H scope (compEnvC scope cl C X.env) fp) tgs g) ∧
    ∀ ρ μ δ σ H d v (Q : St → Hp → Prop), Rel X.K ρ μ H → EnvR X.K ρ H none δ σ → DVs X.K ρ H d v → OkGw X.K vs σ ρ H (mg d δ μ) Q → g v σ H Q
section
variable {X : Cx} {scope : Scope} {vs : List Nat} {pos : Pos}
theorem rgc_name (i : Nat) {x : Str} (hN : X.N.Nodup) (hm : i ∈ vs := by decide) (hi : X.N[i]? = some x := by rfl)
    (hl : ∀ (s : Shared) (H : Hp) (C : Addr) (cl : List (Str × Addr)) (fp : List Addr), Loc (X.blk s H scope (compEnvC scope cl C X.env) fp).env.scope x := by intros; first | exact Or.inl rfl | exact Or.inr rfl)
    (hf : ∀ (s : Shared) (H : Hp) (C : Addr) (cl : List (Str × Addr)) (fp : List Addr), (X.blk s H scope (compEnvC scope cl C X.env) fp).fn x = true ∨ (X.blk s H scope (compEnvC scope cl C X.env) fp).env.scope.names.lookup x = some .local := by intros; first | exact .inl rfl | exact .inr rfl) : RGc X scope vs (.Name x pos) (gset i) :=
  ⟨⟨gName i, fun s H C cl fp => pg_name hN hi (hl s H C cl fp) (hf s H C cl fp), fun ρ μ δ σ H d v Q rel env dv ok => ok ρ H _ (Pre.refl _) (Fz.refl _) rel (env.set dv fun _ h => by cases h) (set_wipe hm)⟩⟩
theorem rgcs_nil : RGcs X scope vs [] gnil := by
  refine ⟨⟨_, fun _ _ _ _ _ => pgs_nil, fun ρ μ δ σ H ds vs Q rel env dv ok => ?_⟩⟩
  unfold gnil at ok
  split at ok
  · simp only [DVs] at dv
    exact ⟨dv, ok ρ H σ (Pre.refl _) (Fz.refl _) rel env rfl⟩
  · exact ok.elim
theorem rgcs_cons {tg : Expr} {tgs : List Expr} {g : MG} {gs : MGs} (h1 : RGc X scope vs tg g) (h2 : RGcs X scope vs tgs gs)
    (hs : ∀ (s : Shared) (H : Hp) (C : Addr) (cl : List (Str × Addr)) (fp : List Addr), (assignEach (tg :: tgs) (X.blk s H scope (compEnvC scope cl C X.env) fp).env).map (·.2) = assign tg (X.blk s H scope (compEnvC scope cl C X.env) fp).env :: (assignEach tgs (X.blk s H scope (compEnvC scope cl C X.env) fp).env).map (·.2) := by intros; rfl) : RGcs X scope vs (tg :: tgs) (gcons g gs) := by
  obtain ⟨t, p, r⟩ := h1.ex
  obtain ⟨u, q, w⟩ := h2.ex
  refine ⟨⟨_, fun s H C cl fp => pgs_cons (p s H C cl fp) (q s H C cl fp) (hs s H C cl fp), fun ρ μ δ σ H ds us Q rel env dv ok => ?_⟩⟩
  unfold gcons at ok
  split at ok
  · rename_i d rst
    simp only [DVs] at dv
    obtain ⟨v, vr, rfl, d1, d2⟩ := dv
    refine ⟨v, vr, rfl, r ρ μ δ σ H d v _ rel env d1 ?_⟩
    split at ok
    · rename_i δ1 μ1 e1
      rw [e1]
      intro ρ' H' σ' pr fz rel' env' hw
      refine w ρ' μ1 δ1 σ' H' rst vr Q rel' env' (d2.mono pr fz) ?_
      revert ok
      cases gs rst δ1 μ1 with
      | ok δ2 μ2 => exact fun ok ρ2 H2 σ2 p2 f2 r2 e2 w2 => ok ρ2 H2 σ2 (pr.trans p2) (fz.trans f2) r2 e2 (w2.trans hw)
      | err _ _ _ => exact id
      | bad => exact id
    · exact ok.elim
  · exact ok.elim
theorem rgc_tup {tgs : List Expr} {gs : MGs} {n k : Nat} (hc : X.calm = true) (h : RGcs X scope vs tgs gs)
    (hn : ∀ (s : Shared) (H : Hp) (C : Addr) (cl : List (Str × Addr)) (fp : List Addr), (assignEach tgs (X.blk s H scope (compEnvC scope cl C X.env) fp).env).length = n := by intros; rfl)
    (hst : ∀ (s : Shared) (H : Hp) (C : Addr) (cl : List (Str × Addr)) (fp : List Addr), (assignEach tgs (X.blk s H scope (compEnvC scope cl C X.env) fp).env).findIdx? (·.1) = none := by intros; rfl) : RGc X scope vs (.Tuple tgs k pos) (gtup n gs) := by
  obtain ⟨t, p, r⟩ := h.ex
  refine ⟨⟨gTup X.K n t, fun s H C cl fp => pg_tup (X := X.blk s H scope (compEnvC scope cl C X.env) fp) hc (p s H C cl fp) (hn s H C cl fp) (hst s H C cl fp), fun ρ μ δ σ H d v Q rel env dv ok => ?_⟩⟩
  unfold gtup at ok
  split at ok
  · split at ok
    · rename_i ds hl
      obtain ⟨a, us, rfl, h1, h2⟩ := tup_ok dv
      refine ⟨a, us, rfl, h1.sq, h2.length.symm.trans hl, r ρ μ δ σ H ds us Q rel env h2 ?_⟩
      split at ok
      · rename_i e1
        rw [e1]
        exact ok
      · exact ok.elim
    · exact ok.elim
  · exact ok.elim
/-! ### the readings that hold in any block -/
def WF : WX := fun _ _ _ _ => False
def TmE {α β : Type} (K : PySem.W.Frag) (R : Rl α β) (m : MX α) : TX β := fun σ H Q => ∃ ρ μ δ, Rel K ρ μ H ∧ EnvR K ρ H none δ σ ∧ Okr K R ρ H (m δ μ) Q (fun _ _ _ => False)
theorem RE.pe {e : Expr} {m : ME} (h : RE X none WF e m) : PE X e (TmE X.K (DV X.K) m) := by
  obtain ⟨t, p, r⟩ := h.ex
  exact ⟨fun pins s σ H Q I ⟨ρ, μ, δ, rel, env, ok⟩ => p.run pins s σ H Q I (r ρ μ δ σ H Q rel env ok)⟩
theorem RT.pt {e : Expr} {m : MX Bool} (h : RT X none WF e m) : L2.PT X e (TmE X.K RT' m) := by
  obtain ⟨t, p, r⟩ := h.ex
  exact ⟨fun pins s σ H Q I ⟨ρ, μ, δ, rel, env, ok⟩ => p.run pins s σ H Q I (r ρ μ δ σ H Q rel env ok)⟩
structure RTs (X : Cx) (es : List Expr) (m : MX Bool) : Prop where
  p : PTs X es (TmE X.K RT' m)
def myes : MX Bool := fun _ μ => .ok true μ
theorem rts_nil : RTs X [] myes := ⟨⟨fun pins s σ H Q I ⟨ρ, μ, δ, rel, env, ok⟩ => pts_nil.run pins s σ H Q I (Okr.now (b := true) ok rel rfl)⟩⟩
theorem rts_one {e : Expr} {m : MX Bool} (h : RT X none WF e m) : RTs X [e] m := ⟨pts_one h.pt⟩
end
/-! ### [e for t in it if c] -/
def compL (g : MG) (mt : MX Bool) (me : ME) (gd : Mem → Bool) (δ : DEnv) : List D → Mem → Res (List D)
  | [], μ => if gd μ = true then .ok [] μ else .bad
  | d :: ds, μ => if gd μ = true then match g d δ μ with
      | .ok δ1 μ1 => match mt δ1 μ1 with
        | .ok true μ2 => match me δ1 μ2 with
          | .ok y μ3 => match compL g mt me gd δ ds μ3 with
            | .ok ys μ4 => .ok (y :: ys) μ4
            | _ => .bad
          | _ => .bad
        | .ok false μ2 => compL g mt me gd δ ds μ2
        | _ => .bad
      | _ => .bad
    else .bad
def mcomp (vs : List Nat) (mi : MX Its0) (g : MG) (mt : MX Bool) (me : ME) : MX (List D) := bindM mi fun it => fun δ μ => if it.1.length ≤ sizeLine then compL g mt me it.2 (wipeD δ vs) it.1 μ else .bad
def addL (ds : List D) (r : Res (List D)) : Res (List D) := match r with
  | .ok ys μ => .ok (ds ++ ys) μ
  | .err C w μ => .err C w μ
  | .bad => .bad
theorem okr_false {α β : Type} {K : PySem.W.Frag} {R : Rl α β} {ρ : List Addr} {H : Hp} {a : α} {μ : Mem} {Q : β → Hp → Prop} (h : ∀ ρ' H' b, Pre ρ ρ' → Fz ρ ρ' H H' → Rel K ρ' μ H' → R ρ' H' a b → Q b H') : Okr K R ρ H (.ok a μ) Q (fun _ _ _ => False) := h
section
variable {X : Cx} {hx : Option HX} {W : WX} {scope : Scope} {vs : List Nat} {pos : Pos} {elt tg iter : Expr} {ifs : List Expr} {mi : MX Its0} {mg : MG} {mt : MX Bool} {me : ME}
theorem comp_ref {K : PySem.W.Frag} {J : It} {g : TG} {items : List D} {gd : Mem → Bool} {ρ0 : List Addr} {H0 : Hp} {σ : St} {δ : DEnv} {μ0 : Mem} {Q : VK} {E : XK} {p : Addr} (ij : ItR K ρ0 H0 (items, gd) J) (hg : ∀ ρ μ δ σ H d v (Q : St → Hp → Prop), Rel K ρ μ H → EnvR K ρ H none δ σ → DV K ρ H d v → OkGw K vs σ ρ H (mg d δ μ) Q → g v σ H Q)
    (hl : items.length ≤ sizeLine) (hp : H0 p = none) (rel0 : Rel K ρ0 μ0 H0) (env0 : EnvR K ρ0 H0 none (wipeD δ vs) (L2.wipe σ vs)) (ok : OkN K ρ0 H0 (compL mg mt me gd (wipeD δ vs) items μ0) Q E) :
    ∃ W : Nat → Nat → Hp → Prop, (∃ m, W 0 m (upd H0 p (.lst []))) ∧ ∀ i m H, W i m H →
  (J.stop i H ∧ Q (.ref p) H) ∨ (J.go i H ∧ ∃ Nx : Hp → Prop, (∀ H', Nx H' → ∃ m', m' < m ∧ W (i + 1) m' H') ∧ ∀ x H', J.yld i H x H' → g x (L2.wipe σ vs) H' fun σ2 H2 => L2.wipe σ2 vs = L2.wipe σ vs ∧ TmE K RT' mt σ2 H2 fun b H3 =>
    if b = true then TmE K (DV K) me σ2 H3 fun y H4 => ∃ acc, H4 p = some (.lst acc) ∧ acc.length < sizeLine ∧ Nx (upd H4 p (.lst (acc ++ [y]))) else Nx H3) := by
  let St (i : Nat) (H : Hp) : Prop := ∃ ρ μ ds acc, Pre ρ0 ρ ∧ Fz ρ0 ρ H0 H ∧ Rel K ρ μ H ∧ p ∉ ρ ∧ H p = some (.lst acc) ∧ acc.length ≤ i ∧ DVs K ρ H ds acc ∧ OkN K ρ0 H0 (addL ds (compL mg mt me gd (wipeD δ vs) (items.drop i) μ)) Q E
  have wri : ∀ {i : Nat} {H : Hp} {ρ : List Addr} {μ : Mem} {ds : List D} {acc : List V} {y : V} {d : D}, Pre ρ0 ρ → Fz ρ0 ρ H0 H → Rel K ρ μ H → p ∉ ρ → H p = some (.lst acc) → acc.length ≤ i → DVs K ρ H ds acc → DV K ρ H d y → OkN K ρ0 H0 (addL (ds ++ [d]) (compL mg mt me gd (wipeD δ vs) (items.drop (i + 1)) μ)) Q E → St (i + 1) (upd H p (.lst (acc ++ [y]))) :=
    fun {i H ρ μ ds acc y d} pr fz rel hn ha hl hd dv ok => by
      have f1 : Fz0 H (upd H p (.lst (acc ++ [y]))) := Fz0.mut ha (fun _ => HO.noConfusion) (fun _ _ => HO.noConfusion)
      exact ⟨ρ, μ, ds ++ [d], acc ++ [y], pr, fz.late hp, rel.other hn f1, hn, upd_same, by simp; omega, (hd.app (.cons dv .nil)).mono0 (Pre.refl _) f1, ok⟩
  refine ⟨fun i m H => m = items.length - i ∧ i ≤ items.length ∧ St i H, ⟨items.length, by simp, Nat.zero_le _, ρ0, μ0, [], [], Pre.refl _, Fz.new hp, rel0.alloc hp, rel0.fresh hp, upd_same, by simp, .nil, ?_⟩, ?_⟩
  · rw [List.drop_zero]
    revert ok
    cases compL mg mt me gd (wipeD δ vs) items μ0 with
    | ok ys μ => exact id
    | err C w μ => exact id
    | bad => exact id
  rintro i m H ⟨rfl, hi, ρ, μ, ds, acc, pr, fz, rel, hn, ha, hle, hd, ok⟩
  by_cases hlt : i < items.length
  · have e : items.drop i = items[i] :: items.drop (i + 1) := List.drop_eq_getElem_cons hlt
    rw [e] at ok
    simp only [compL] at ok
    split at ok
    · rename_i hgd
      obtain ⟨h1, _⟩ := ij ρ μ H i pr fz rel hgd
      obtain ⟨hgo, hy⟩ := h1 items[i] (List.getElem?_eq_getElem hlt)
      refine .inr ⟨hgo, St (i + 1), fun H' h => ⟨items.length - (i + 1), by omega, rfl, hlt, h⟩, fun x H' yl => ?_⟩
      obtain ⟨fz', rel', dv⟩ := hy x H' yl
      have ha' := fz'.keep p _ hn ha
      have fz1 := fz.trans fz'
      have env' := (env0.mono pr fz1)
      have hd' := hd.mono (Pre.refl _) fz'
      refine hg ρ μ (wipeD δ vs) (L2.wipe σ vs) H' items[i] x _ rel' env' dv ?_
      split at ok
      · rename_i δ1 μ1 eg
        rw [eg]
        intro ρ1 H1 σ1 p1 f1 rel1 env1 hw
        have hn1 : p ∉ ρ1 := fun z => by
          have := f1.fr p z hn
          rw [ha'] at this
          cases this
        have ha1 := f1.keep p _ hn ha'
        refine ⟨hw.trans (wipe_wipe fun _ h => h), ρ1, μ1, δ1, rel1, env1, ?_⟩
        split at ok
        · rename_i μ2 et
          rw [et]
          refine okr_false fun ρ2 H2 b p2 f2 rel2 eb => ?_
          obtain rfl : true = b := eb
          refine iteT ⟨ρ2, μ2, δ1, rel2, env1.mono p2 f2, ?_⟩
          have hn2 : p ∉ ρ2 := fun z => by
            have := f2.fr p z hn1
            rw [ha1] at this
            cases this
          have ha2 := f2.keep p _ hn1 ha1
          split at ok
          · rename_i y μ3 ee
            rw [ee]
            refine okr_false fun ρ3 H3 b p3 f3 rel3 dy => ?_
            have hn3 : p ∉ ρ3 := fun z => by
              have := f3.fr p z hn2
              rw [ha2] at this
              cases this
            have ha3 := f3.keep p _ hn2 ha2
            refine ⟨acc, ha3, by omega, wri (((pr.trans p1).trans p2).trans p3) (((fz1.trans f1).trans f2).trans f3) rel3 hn3 ha3 hle (((hd'.mono p1 f1).mono p2 f2).mono p3 f3) dy ?_⟩
            revert ok
            cases compL mg mt me gd (wipeD δ vs) (items.drop (i + 1)) μ3 with
            | ok ys μ => intro ok; simp only [addL, List.append_assoc, List.singleton_append] at ok ⊢; exact ok
            | err C w μ => exact fun ok => ok.elim
            | bad => exact id
          · exact ok.elim
        · rename_i μ2 et
          rw [et]
          refine okr_false fun ρ2 H2 b p2 f2 rel2 eb => ?_
          obtain rfl : false = b := eb
          have hn2 : p ∉ ρ2 := fun z => by
            have := f2.fr p z hn1
            rw [ha1] at this
            cases this
          have ha2 := f2.keep p _ hn1 ha1
          exact iteF ⟨ρ2, μ2, ds, acc, (pr.trans p1).trans p2, (fz1.trans f1).trans f2, rel2, hn2, ha2, by omega, (hd'.mono p1 f1).mono p2 f2, ok⟩
        · exact ok.elim
      · exact ok.elim
    · exact ok.elim
  · have e : i = items.length := by omega
    subst e
    rw [List.drop_length] at ok
    simp only [compL] at ok
    split at ok
    · rename_i hgd
      obtain ⟨_, h2⟩ := ij ρ μ H items.length pr fz rel hgd
      simp only [addL, List.append_nil] at ok
      exact .inl ⟨h2 rfl, ok ρ H _ pr fz rel ⟨p, acc, rfl, hp, ha, hn, hd⟩⟩
    · exact ok.elim
theorem rn_lc {own : List (Str × Nat)} (hc : X.calm = true) (hN : X.N.Nodup) (hi : RI X hx W tg iter mi) (ok : BlkOk X.N X.env.scope scope own) (hg : RGc X scope (own.map (·.2)) tg mg)
    (ht : ∀ (s : Shared) (H : Hp) (C : Addr) (cl : List (Str × Addr)) (fp : List Addr), RTs (X.blk s H scope (compEnvC scope cl C X.env) fp) ifs mt)
    (he : ∀ (s : Shared) (H : Hp) (C : Addr) (cl : List (Str × Addr)) (fp : List Addr), RE (X.blk s H scope (compEnvC scope cl C X.env) fp) none WF elt me) (hs : ∀ x, foldedSetIterable iter X.env x = pure x := by intro _; rfl) :
    RN X hx W (.ListComp elt [⟨tg, iter, ifs, 0⟩] scope pos) (mcomp (own.map (·.2)) mi mg mt me) := by
  obtain ⟨wi, pi, ri⟩ := hi.ex
  obtain ⟨g, pg, rg⟩ := hg.ex
  refine ⟨⟨_, pe_lc (tt := TmE X.K RT' mt) (te := TmE X.K (DV X.K) me) hc hN pi ok pg (fun s H C cl fp => (ht s H C cl fp).p) (fun s H C cl fp => (he s H C cl fp).pe) hs, fun ρ0 μ0 δ σ H0 Q rel0 env0 ok0 => ri ρ0 μ0 δ σ H0 _ rel0 env0 (OkN.bind ok0 fun it μ1 ρ1 H1 J pr fz rel1 ij ok1 => ?_)⟩⟩
  dsimp only at ok1
  split at ok1
  · rename_i hl
    exact fun D hD => comp_ref ij rg hl hD rel1 ((env0.mono pr fz).nox.wipe _) ok1
  · exact ok1.elim
theorem ps_fz {s : Stmt} {t : TS} (h : PS X s t) : PS X s (fun Dn σ H => t { Dn with nx := fun σ' H' => Dn.nx σ' H' ∨ ∃ a xs, H' a = some (.lst xs) ∧ ∀ o, Dn.nx σ' (upd H' a (.frz o (.lst xs))) } σ H) := by
  refine ⟨fun pins s σ H Dn I hw => thn (h.run pins s σ H _ I hw) fun f s1 hq => ?_⟩
  cases f with
  | next =>
    obtain ⟨σ', H', I', q | ⟨a, xs, ha, q⟩⟩ := hq
    · exact ⟨σ', H', I', q⟩
    · obtain ⟨o, I2⟩ := I'.lock ha trivial
      exact ⟨σ', _, I2, q o⟩
  | brk => exact hq
  | cont => exact hq
  | ret u => exact hq
/-- y = [..] on one line: the list frozen or not -/
theorem rs_setLc {i : Nat} {y : Str} {py spos : Pos} {own : List (Str × Nat)} (hc : X.calm = true) (hN : X.N.Nodup) (hi : RI X hx W tg iter mi) (ok : BlkOk X.N X.env.scope scope own) (hg : RGc X scope (own.map (·.2)) tg mg)
    (ht : ∀ (s : Shared) (H : Hp) (C : Addr) (cl : List (Str × Addr)) (fp : List Addr), RTs (X.blk s H scope (compEnvC scope cl C X.env) fp) ifs mt)
    (he : ∀ (s : Shared) (H : Hp) (C : Addr) (cl : List (Str × Addr)) (fp : List Addr), RE (X.blk s H scope (compEnvC scope cl C X.env) fp) none WF elt me)
    (hxi : ∀ q, hx = some q → i ≠ q.i := by intro _ h; first | (cases h; done) | (cases h; exact Nat.ne_of_beq_eq_false rfl))
    (hy : X.N[i]? = some y := by rfl) (hyl : X.env.scope.names.lookup y = some .local := by rfl)
    (hsw : swapsWith (.ListComp elt [⟨tg, iter, ifs, 0⟩] scope pos) (some (.Name y py)) spos.line X.env = pure true := by rfl) (hs : ∀ x, foldedSetIterable iter X.env x = pure x := by intro _; rfl) :
    RS X hx W (.Assign [.Name y py] (.ListComp elt [⟨tg, iter, ifs, 0⟩] scope pos) spos) (masg (mlc (mcomp (own.map (·.2)) mi mg mt me)) (gset i)) := by
  obtain ⟨wi, pi, ri⟩ := hi.ex
  obtain ⟨g, pg, rg⟩ := hg.ex
  refine ⟨⟨_, ps_setLc (tt := TmE X.K RT' mt) (te := TmE X.K (DV X.K) me) hc hN hy hyl hsw pi ok pg (fun s H C cl fp => (ht s H C cl fp).p) (fun s H C cl fp => (he s H C cl fp).pe) hs, fun ρ0 μ0 δ σ H0 Dn rel0 env0 ok0 => ?_⟩⟩
  have rn : RefN X.K hx W (tLc wi g (TmE X.K RT' mt) (TmE X.K (DV X.K) me) (own.map (·.2))) (mcomp (own.map (·.2)) mi mg mt me) := fun ρ0 μ0 δ σ H0 Q rel0 env0 ok0 => ri ρ0 μ0 δ σ H0 _ rel0 env0 (OkN.bind ok0 fun it μ1 ρ1 H1 J pr fz rel1 ij ok1 => by
    dsimp only at ok1
    split at ok1
    · rename_i hl
      exact fun D hD => comp_ref ij rg hl hD rel1 ((env0.mono pr fz).nox.wipe _) ok1
    · exact ok1.elim)
  refine rn ρ0 μ0 δ σ H0 _ rel0 env0 ?_
  unfold masg ofE mlc bindM at ok0
  cases e : mcomp (own.map (·.2)) mi mg mt me δ μ0 with
  | err C w μ1 =>
    rw [e] at ok0
    exact fun ρ1 H1 dd v p f rel hd dv => ok0 ρ1 H1 σ dd v p f rel (env0.mono p f) hd dv
  | bad => rw [e] at ok0; exact ok0
  | ok ds μ1 =>
    rw [e] at ok0
    rintro ρ H v pr fz rel ⟨q, vs, rfl, hu, hq, hn, hd⟩
    exact ok0 _ _ _ (pr.trans (Pre.app _ _)) (fz.lateA hu) (rel.adopt hn ⟨vs, hq, hd.mono0 (Pre.app _ _) (Fz0.refl _)⟩) ((env0.mono (pr.trans (Pre.app _ _)) (fz.lateA hu)).set (dv_last rel) hxi)
/-- .. frozen -/
theorem rs_setLcF {i : Nat} {y : Str} {py spos : Pos} {own : List (Str × Nat)} (hc : X.calm = true) (hN : X.N.Nodup) (hi : RI X hx W tg iter mi) (ok : BlkOk X.N X.env.scope scope own) (hg : RGc X scope (own.map (·.2)) tg mg)
    (ht : ∀ (s : Shared) (H : Hp) (C : Addr) (cl : List (Str × Addr)) (fp : List Addr), RTs (X.blk s H scope (compEnvC scope cl C X.env) fp) ifs mt)
    (he : ∀ (s : Shared) (H : Hp) (C : Addr) (cl : List (Str × Addr)) (fp : List Addr), RE (X.blk s H scope (compEnvC scope cl C X.env) fp) none WF elt me)
    (hxi : ∀ q, hx = some q → i ≠ q.i := by intro _ h; first | (cases h; done) | (cases h; exact Nat.ne_of_beq_eq_false rfl))
    (hy : X.N[i]? = some y := by rfl) (hyl : X.env.scope.names.lookup y = some .local := by rfl)
    (hsw : swapsWith (.ListComp elt [⟨tg, iter, ifs, 0⟩] scope pos) (some (.Name y py)) spos.line X.env = pure true := by rfl) (hs : ∀ x, foldedSetIterable iter X.env x = pure x := by intro _; rfl) :
    RS X hx W (.Assign [.Name y py] (.ListComp elt [⟨tg, iter, ifs, 0⟩] scope pos) spos) (masg (mfz (mcomp (own.map (·.2)) mi mg mt me)) (gset i)) := by
  obtain ⟨wi, pi, ri⟩ := hi.ex
  obtain ⟨g, pg, rg⟩ := hg.ex
  refine ⟨⟨_, ps_fz (ps_setLc (tt := TmE X.K RT' mt) (te := TmE X.K (DV X.K) me) hc hN hy hyl hsw pi ok pg (fun s H C cl fp => (ht s H C cl fp).p) (fun s H C cl fp => (he s H C cl fp).pe) hs), fun ρ0 μ0 δ σ H0 Dn rel0 env0 ok0 => ?_⟩⟩
  have rn : RefN X.K hx W (tLc wi g (TmE X.K RT' mt) (TmE X.K (DV X.K) me) (own.map (·.2))) (mcomp (own.map (·.2)) mi mg mt me) := fun ρ0 μ0 δ σ H0 Q rel0 env0 ok0 => ri ρ0 μ0 δ σ H0 _ rel0 env0 (OkN.bind ok0 fun it μ1 ρ1 H1 J pr fz rel1 ij ok1 => by
    dsimp only at ok1
    split at ok1
    · rename_i hl
      exact fun D hD => comp_ref ij rg hl hD rel1 ((env0.mono pr fz).nox.wipe _) ok1
    · exact ok1.elim)
  refine rn ρ0 μ0 δ σ H0 _ rel0 env0 ?_
  unfold masg ofE mfz bindM at ok0
  cases e : mcomp (own.map (·.2)) mi mg mt me δ μ0 with
  | err C w μ1 =>
    rw [e] at ok0
    exact fun ρ1 H1 dd v p f rel hd dv => ok0 ρ1 H1 σ dd v p f rel (env0.mono p f) hd dv
  | bad => rw [e] at ok0; exact ok0
  | ok ds μ1 =>
    rw [e] at ok0
    rintro ρ H v pr fz rel ⟨q, vs, rfl, hu, hq, hn, hd⟩
    exact .inr ⟨q, vs, hq, fun o => ok0 _ _ _ pr (fz.late hu) (rel.other hn (Fz0.frz hq)) ((env0.mono pr (fz.late hu)).set (dv_frz hq hd) hxi)⟩
end
end Doz
end
section
/-! Doz9: methods of built-in types, dicts. -/
namespace Doz
open PySem L2
/-! ### o.m(..) of a built-in type -/
def tyS (d : D) (_ : Mem) : Bool := match d with
  | .str _ => true
  | _ => false
def tyL (d : D) (μ : Mem) : Bool := (lstOf μ d).isSome
def tyDc (d : D) (μ : Mem) : Bool := match d with
  | .loc n => match μ.cells[n]? with
    | some (.dK _) => !μ.lkd n
    | _ => false
  | _ => false
def TyOk (K : PySem.W.Frag) (T : String) (ty : D → Mem → Bool) : Prop := ∀ d ρ μ H x, Rel K ρ μ H → DV K ρ H d x → ty d μ = true → tyV K T x H
theorem tyOk_S {K : PySem.W.Frag} : TyOk K "str" tyS := by
  intro d ρ μ H x rel dv h
  cases d with
  | str z => rw [str_ok dv]; rfl
  | _ => simp [tyS] at h
theorem tyOk_L {K : PySem.W.Frag} : TyOk K "list" tyL := by
  intro d ρ μ H x rel dv h
  obtain ⟨ds, hd⟩ := Option.isSome_iff_exists.mp h
  obtain ⟨a, vs, rfl, r2, _⟩ := lstOf_ok rel dv hd
  exact .inl ⟨rfl, vs, rd_sq r2⟩
theorem tyDc_ok {K : PySem.W.Frag} {d : D} {ρ : List Addr} {μ : Mem} {H : Hp} {x : V} (rel : Rel K ρ μ H) (dv : DV K ρ H d x) (h : tyDc d μ = true) :
    ∃ n a kds kvs, d = .loc n ∧ ρ[n]? = some a ∧ x = .ref a ∧ μ.cells[n]? = some (.dK kds) ∧ μ.lkd n = false ∧ H a = some (.dK kvs) ∧ KDs K ρ H kds kvs := by
  unfold tyDc at h
  split at h
  · rename_i n
    split at h
    · rename_i kds hc
      simp only [DV] at dv
      obtain ⟨a, h1, rfl⟩ := dv
      obtain ⟨kvs, h2, h3⟩ := rel.cell n a _ h1 hc
      have hl : μ.lkd n = false := by simpa using h
      rw [hl] at h2
      unfold Lk at h2
      rw [if_neg Bool.false_ne_true] at h2
      exact ⟨n, a, kds, kvs, rfl, h1, rfl, hc, hl, h2, h3⟩
    · cases h
  · cases h
theorem tyOk_D {K : PySem.W.Frag} : TyOk K "dict" tyDc := by
  intro d ρ μ H x rel dv h
  obtain ⟨n, a, kds, kvs, rfl, _, rfl, _, _, h2, _⟩ := tyDc_ok rel dv h
  exact .inr (.inr (.inl ⟨rfl, .inl ⟨kvs, h2⟩⟩))
def MethF (K : PySem.W.Frag) (r : V → List V → Hp → VK → Prop) (f : D → List D → Mem → Res D) : Prop :=
  ∀ d ds ρ μ H x xs (Q : VK) (E : XK), Rel K ρ μ H → DV K ρ H d x → DVs K ρ H ds xs → Okr K (DV K) ρ H (f d ds μ) Q E → r x xs H (Frzn Q)
def MethN (K : PySem.W.Frag) (r : V → List V → Hp → VK → Prop) (f : D → List D → Mem → Res (List D)) : Prop :=
  ∀ d ds ρ μ H x xs (Q : VK) (E : XK), Rel K ρ μ H → DV K ρ H d x → DVs K ρ H ds xs → OkN K ρ H (f d ds μ) Q E → r x xs H Q
def mmeth {α : Type} (ty : D → Mem → Bool) (f : D → List D → Mem → Res α) (mo : ME) (ma : MX (List D)) : MX α := bindM mo fun d => fun δ μ => if ty d μ = true then (ma δ μ).bind fun ds μ1 => f d ds μ1 else .bad
section
variable {X : Cx} {hx : Option HX} {W : WX} {o e : Expr} {es : List Expr} {mo : ME} {ma : MX (List D)} {name : Str} {apos cpos : Pos} {T id : String} {ty : D → Mem → Bool} {r : V → List V → Hp → VK → Prop}
theorem re_bm0 {f : D → List D → Mem → Res D} (pa : PlainAttrs T) (slot : Slot T name id) (hty : typeOf (.builtin id) = pure (.type "method_descriptor")) (hm : MtR X id r) (tk : TyOk X.K T ty) (mf : MethF X.K r f) (ho : RE X hx W o mo)
    (hbase : attributeBase o name X.env (eval o X.env) = eval o X.env := by rfl) (hline : (apos.endLine == cpos.line) = true := by rfl) : RE X hx W (.Call (.Attribute o name apos) [] [] cpos) (mmeth ty f mo mnil) := by
  obtain ⟨to, po, ro⟩ := ho.ex
  refine ⟨⟨_, pe_fzo (pe_bm0 pa slot hty hm po hbase hline), fun ρ0 μ0 δ σ H0 Q rel0 env0 ok0 => ro ρ0 μ0 δ σ H0 _ rel0 env0 (Okr.bind ok0 fun d μ ρ H x pr fz rel dv ok => ?_)⟩⟩
  dsimp only at ok
  split at ok
  · rename_i ht
    exact ⟨tk d ρ μ H x rel dv ht, mf d [] ρ μ H x [] Q _ rel dv .nil ok⟩
  · exact ok.elim
theorem re_bm {f : D → List D → Mem → Res D} (pa : PlainAttrs T) (slot : Slot T name id) (hty : typeOf (.builtin id) = pure (.type "method_descriptor")) (hm : MtR X id r) (tk : TyOk X.K T ty) (mf : MethF X.K r f) (ho : RE X hx W o mo) (ha : RA X hx W (e :: es) ma)
    (hbase : attributeBase o name X.env (eval o X.env) = eval o X.env := by rfl)
    (hfew : ((backTo cpos (starEach (e :: es) X.env)).all (fun x => !x.1) && (backToKw cpos (keywordEach [] X.env)).all (fun x => x.1.isSome)
      && decide ((e :: es).length + ([] : List Keyword).length + (if ([] : List Keyword).isEmpty then 0 else 1) < 30)) = true := by rfl)
    (hline : (apos.endLine == cpos.line) = true := by rfl) (hs : starEach (e :: es) X.env = (false, eval e X.env) :: starEach es X.env := by rfl) (hplain : (backTo cpos (starEach es X.env)).any (·.1) = false := by rfl) :
    RE X hx W (.Call (.Attribute o name apos) (e :: es) [] cpos) (mmeth ty f mo ma) := by
  obtain ⟨to, po, ro⟩ := ho.ex
  obtain ⟨ta, pa', ra⟩ := ha.ex
  refine ⟨⟨_, pe_fzo (pe_bm pa slot hty hm po pa' hbase hfew hline hs hplain), fun ρ0 μ0 δ σ H0 Q rel0 env0 ok0 => ro ρ0 μ0 δ σ H0 _ rel0 env0 (Okr.bind ok0 fun d μ ρ H x pr fz rel dv ok => ?_)⟩⟩
  dsimp only at ok
  split at ok
  · rename_i ht
    exact ⟨tk d ρ μ H x rel dv ht, ra ρ μ δ σ H _ rel (env0.mono pr fz) (Okr.bind ok fun ds μ1 ρ1 H1 xs p1 f1 rel1 dvs ok1 => mf d ds ρ1 μ1 H1 x xs Q _ rel1 (dv.mono p1 f1) dvs ok1)⟩
  · exact ok.elim
theorem rn_bm {f : D → List D → Mem → Res (List D)} (pa : PlainAttrs T) (slot : Slot T name id) (hty : typeOf (.builtin id) = pure (.type "method_descriptor")) (hm : MtR X id r) (tk : TyOk X.K T ty) (mf : MethN X.K r f) (ho : RE X hx W o mo) (ha : RA X hx W (e :: es) ma)
    (hbase : attributeBase o name X.env (eval o X.env) = eval o X.env := by rfl)
    (hfew : ((backTo cpos (starEach (e :: es) X.env)).all (fun x => !x.1) && (backToKw cpos (keywordEach [] X.env)).all (fun x => x.1.isSome)
      && decide ((e :: es).length + ([] : List Keyword).length + (if ([] : List Keyword).isEmpty then 0 else 1) < 30)) = true := by rfl)
    (hline : (apos.endLine == cpos.line) = true := by rfl) (hs : starEach (e :: es) X.env = (false, eval e X.env) :: starEach es X.env := by rfl) (hplain : (backTo cpos (starEach es X.env)).any (·.1) = false := by rfl) :
    RN X hx W (.Call (.Attribute o name apos) (e :: es) [] cpos) (mmeth ty f mo ma) := by
  obtain ⟨to, po, ro⟩ := ho.ex
  obtain ⟨ta, pa', ra⟩ := ha.ex
  refine ⟨⟨_, pe_bm pa slot hty hm po pa' hbase hfew hline hs hplain, fun ρ0 μ0 δ σ H0 Q rel0 env0 ok0 => ro ρ0 μ0 δ σ H0 _ rel0 env0 (OkN.bind ok0 fun d μ ρ H x pr fz rel dv ok => ?_)⟩⟩
  dsimp only at ok
  split at ok
  · rename_i ht
    exact ⟨tk d ρ μ H x rel dv ht, ra ρ μ δ σ H _ rel (env0.mono pr fz) (OkN.bind ok fun ds μ1 ρ1 H1 xs p1 f1 rel1 dvs ok1 => mf d ds ρ1 μ1 H1 x xs Q _ rel1 (dv.mono p1 f1) dvs ok1)⟩
  · exact ok.elim
end
/-! ### lists -/
section
variable {K : PySem.W.Frag} {ρ : List Addr} {μ : Mem} {H : Hp}
theorem DVs.zero {xs : List V} (h : DVs K ρ H [] xs) : xs = [] := by simpa only [DVs] using h
/-- a list of ours is written -/
def lcell (μ : Mem) (d : D) : Option (Nat × List D) := match d with
  | .loc n => match μ.cells[n]? with
    | some (.lst ds) => some (n, ds)
    | _ => none
  | _ => none
theorem lcell_ok {d : D} {x : V} {n : Nat} {ds : List D} (rel : Rel K ρ μ H) (dv : DV K ρ H d x) (h : lcell μ d = some (n, ds)) : ∃ a vs, x = .ref a ∧ ρ[n]? = some a ∧ μ.cells[n]? = some (.lst ds) ∧ H a = some (.lst vs) ∧ DVs K ρ H ds vs := by
  unfold lcell at h
  split at h
  · rename_i m
    split at h
    · rename_i es hc
      obtain ⟨rfl, rfl⟩ : m = n ∧ es = ds := by simpa using h
      simp only [DV] at dv
      obtain ⟨a, h1, rfl⟩ := dv
      obtain ⟨vs, h2, h3⟩ := rel.cell m a _ h1 hc
      exact ⟨a, vs, rfl, h1, hc, h2, h3⟩
    · cases h
  · cases h
theorem lwrite {n : Nat} {a : Addr} {es : List D} {vs ws : List V} {Q : VK} {E : XK} {r : D} {v : V} (rel : Rel K ρ μ H) (h1 : ρ[n]? = some a) (h2 : H a = some (.lst vs)) (hd : DVs K ρ H es ws) (hv : DV K ρ H r v)
    (ok : Okr K (DV K) ρ H (.ok r (μ.set n (.lst es))) Q E) : Q v (upd H a (.lst ws)) := by
  have f : Fz ρ ρ H (upd H a (.lst ws)) := Fz.mut h1 h2 (fun _ => HO.noConfusion) (fun _ _ => HO.noConfusion)
  exact ok ρ _ _ (Pre.refl _) f (rel.write h1 h2 (fun _ => HO.noConfusion) (fun _ _ => HO.noConfusion) ⟨ws, upd_same, hd.mono (Pre.refl _) f⟩) (hv.mono (Pre.refl _) f)
def fAppend (d : D) (xs : List D) (μ : Mem) : Res D := match xs with
  | [y] => match lcell μ d with
    | some (n, ds) => if ds.length < sizeLine then .ok .non (μ.set n (.lst (ds ++ [y]))) else .bad
    | none => .bad
  | _ => .bad
theorem mf_append : MethF K rAppend fAppend := by
  intro d ds ρ μ H x xs Q E rel dv dvs ok
  unfold fAppend at ok
  split at ok
  · obtain ⟨y, rfl, dy⟩ := dvs.one
    split at ok
    · rename_i n es hc
      split at ok
      · rename_i hl
        obtain ⟨a, vs, rfl, h1, _, h2, h3⟩ := lcell_ok rel dv hc
        exact ⟨a, vs, y, rfl, rfl, h2, by rw [← h3.length]; exact hl, .inl (lwrite rel h1 h2 (h3.app (.cons dy .nil)) dv_non ok)⟩
      · exact ok.elim
    · exact ok.elim
  · exact ok.elim
def fReverse (d : D) (xs : List D) (μ : Mem) : Res D := match xs with
  | [] => match lcell μ d with
    | some (n, ds) => .ok .non (μ.set n (.lst ds.reverse))
    | none => .bad
  | _ => .bad
theorem mf_reverse : MethF K rReverse fReverse := by
  intro d ds ρ μ H x xs Q E rel dv dvs ok
  unfold fReverse at ok
  split at ok
  · obtain rfl := dvs.zero
    split at ok
    · rename_i n es hc
      obtain ⟨a, vs, rfl, h1, _, h2, h3⟩ := lcell_ok rel dv hc
      exact ⟨a, vs, rfl, rfl, h2, .inl (lwrite rel h1 h2 h3.reverse dv_non ok)⟩
    · exact ok.elim
  · exact ok.elim
def fLClear (d : D) (xs : List D) (μ : Mem) : Res D := match xs with
  | [] => match lcell μ d with
    | some (n, ds) => .ok .non (μ.set n (.lst []))
    | none => .bad
  | _ => .bad
theorem mf_lclear : MethF K rClear fLClear := by
  intro d ds ρ μ H x xs Q E rel dv dvs ok
  unfold fLClear at ok
  split at ok
  · obtain rfl := dvs.zero
    split at ok
    · rename_i n es hc
      obtain ⟨a, vs, rfl, h1, _, h2, h3⟩ := lcell_ok rel dv hc
      exact ⟨a, vs, rfl, rfl, h2, .inl (lwrite rel h1 h2 .nil dv_non ok)⟩
    · exact ok.elim
  · exact ok.elim
/-! ### d.clear() -/
def dcell (μ : Mem) (d : D) : Option (Nat × List (Key × D)) := match d with
  | .loc n => match μ.cells[n]? with
    | some (.dK ds) => if μ.lkd n = true then none else some (n, ds)
    | _ => none
  | _ => none
theorem dcell_ok {d : D} {x : V} {n : Nat} {ds : List (Key × D)} (rel : Rel K ρ μ H) (dv : DV K ρ H d x) (h : dcell μ d = some (n, ds)) : ∃ a vs, x = .ref a ∧ ρ[n]? = some a ∧ μ.cells[n]? = some (.dK ds) ∧ μ.lkd n = false ∧ H a = some (.dK vs) ∧ KDs K ρ H ds vs := by
  unfold dcell at h
  split at h
  · rename_i m
    split at h
    · rename_i es hc
      split at h
      · cases h
      · rename_i hl
        obtain ⟨rfl, rfl⟩ : m = n ∧ es = ds := by simpa using h
        simp only [DV] at dv
        obtain ⟨a, h1, rfl⟩ := dv
        obtain ⟨vs, h2, h3⟩ := rel.cell m a _ h1 hc
        have hl' : μ.lkd m = false := by simpa using hl
        rw [hl'] at h2
        unfold Lk at h2
        rw [if_neg Bool.false_ne_true] at h2
        exact ⟨a, vs, rfl, h1, hc, hl', h2, h3⟩
    · cases h
  · cases h
theorem dwrite {n : Nat} {a : Addr} {es : List (Key × D)} {vs ws : List (Key × V)} {Q : VK} {E : XK} {r : D} {v : V} (rel : Rel K ρ μ H) (h1 : ρ[n]? = some a) (hl : μ.lkd n = false) (h2 : H a = some (.dK vs)) (hd : KDs K ρ H es ws) (hv : DV K ρ H r v)
    (ok : Okr K (DV K) ρ H (.ok r (μ.set n (.dK es))) Q E) : Q v (upd H a (.dK ws)) := by
  have f : Fz ρ ρ H (upd H a (.dK ws)) := Fz.mut h1 h2 (fun _ => HO.noConfusion) (fun _ _ => HO.noConfusion)
  refine ok ρ _ _ (Pre.refl _) f (rel.write h1 h2 (fun _ => HO.noConfusion) (fun _ _ => HO.noConfusion) ⟨ws, ?_, hd.mono (Pre.refl _) f⟩) (hv.mono (Pre.refl _) f)
  rw [hl]
  unfold Lk
  rw [if_neg Bool.false_ne_true]
  exact upd_same
def fDClear (d : D) (xs : List D) (μ : Mem) : Res D := match xs with
  | [] => match dcell μ d with
    | some (n, _) => .ok .non (μ.set n (.dK []))
    | none => .bad
  | _ => .bad
theorem mf_dclear : MethF K rDClear fDClear := by
  intro d ds ρ μ H x xs Q E rel dv dvs ok
  unfold fDClear at ok
  split at ok
  · obtain rfl := dvs.zero
    split at ok
    · rename_i n es hc
      obtain ⟨a, vs, rfl, h1, _, hl, h2, h3⟩ := dcell_ok rel dv hc
      exact ⟨a, vs, rfl, rfl, h2, .inl (dwrite rel h1 hl h2 .nil dv_non ok)⟩
    · exact ok.elim
  · exact ok.elim
/-! ### texts -/
def strsOf : List D → Option (List Str)
  | [] => some []
  | .str x :: ds => (strsOf ds).map (x :: ·)
  | _ => none
theorem strsOf_ok : ∀ {ds : List D} {vs : List V} {ys : List Str}, DVs K ρ H ds vs → strsOf ds = some ys → vs = ys.map V.str
  | [], vs, ys, h, e => by
    simp only [strsOf, Option.some.injEq] at e
    subst e
    exact h.zero
  | d :: ds, vs, ys, h, e => by
    simp only [DVs] at h
    obtain ⟨v, r, rfl, h1, h2⟩ := h
    cases d with
    | str x =>
      simp only [strsOf, Option.map_eq_some_iff] at e
      obtain ⟨zs, e1, rfl⟩ := e
      rw [str_ok h1, strsOf_ok h2 e1]
      rfl
    | _ => simp [strsOf] at e
def rJoin (K : PySem.W.Frag) : V → List V → Hp → VK → Prop := fun x xs H Q => ∃ a p, ∃ ys : List Str, x = .str a ∧ xs = [.ref p] ∧ (SqL K H p (ys.map V.str) ∨ SqT K H p (ys.map V.str)) ∧
    (ys.map (·.length)).sum + ys.length * a.length ≤ 16777216 ∧ Q (.str (Txt.join a ys)) H
def fJoin (d : D) (xs : List D) (μ : Mem) : Res D := match d, xs with
  | .str a, [l] => match seqOf μ l with
    | some ds => match strsOf ds with
      | some ys => if (ys.map (·.length)).sum + ys.length * a.length ≤ 16777216 then .ok (.str (Txt.join a ys)) μ else .bad
      | none => .bad
    | none => .bad
  | _, _ => .bad
theorem mf_join : MethF K (rJoin K) fJoin := by
  intro d ds ρ μ H x xs Q E rel dv dvs ok
  unfold fJoin at ok
  split at ok
  · rename_i a l
    obtain ⟨y, rfl, dy⟩ := dvs.one
    split at ok
    · rename_i es hs
      split at ok
      · rename_i ys hy
        split at ok
        · rename_i hz
          obtain ⟨p, vs, rfl, hq, hd⟩ := seqOf_ok rel dy hs
          have e := strsOf_ok hd hy
          subst e
          exact ⟨a, p, ys, str_ok dv, rfl, hq, hz, .inl (ok.now rel dv_str)⟩
        · exact ok.elim
      · exact ok.elim
    · exact ok.elim
  · exact ok.elim
end
/-! ### {} -/
def mdnew : ME := fun _ μ => .ok (.loc μ.cells.length) (μ.push (.dK []))
theorem re_dnew {X : Cx} {hx : Option HX} {W : WX} {pos : Pos} : RE X hx W (.Dict [] [] pos) mdnew := by
  refine ⟨⟨_, pe_dnewK, fun ρ μ δ σ H Q rel env ok p hp => ?_⟩⟩
  exact Okr.go ok (Pre.app _ _) (Fz.newA hp) (rel.new hp ⟨[], by unfold Lk; rw [if_neg Bool.false_ne_true]; exact upd_same, .nil⟩) (dv_last rel)
/-! ### dicts compared -/
def rEqDL : R2 := fun x y H Q => ∃ a b ks ls, x = .ref a ∧ y = .ref b ∧ H a = some (.dK ks) ∧ H b = some (.dK ls) ∧ ks.length ≠ ls.length ∧ Q (.bl false) H
def rNeDL : R2 := fun x y H Q => ∃ a b ks ls, x = .ref a ∧ y = .ref b ∧ H a = some (.dK ks) ∧ H b = some (.dK ls) ∧ ks.length ≠ ls.length ∧ Q (.bl true) H
theorem op_eqDL {X : Cx} (hu : X.A.units < cLine) : OpR X (compareOp .Eq) rEqDL := by
  intro pins s σ H x y v u Q I rx ry h
  obtain ⟨a, b, ks, ls, rfl, rfl, ea, eb, hlen, q⟩ := h
  obtain rfl : v = Value.ref a := rx
  obtain rfl : u = Value.ref b := ry
  obtain ⟨_, ya, va, ra, da⟩ := (show ObjOk X.prog X.w H s.heap a (.dK ks) from I.hok a _ ea)
  obtain ⟨_, yb, vb, rb, db⟩ := (show ObjOk X.prog X.w H s.heap b (.dK ls) from I.hok b _ eb)
  have hl : va.length ≠ vb.length := by rw [← ra.length, ← rb.length]; exact hlen
  exact PySem.W.keq_eq (knd := mixKind X.prog X.w) (r := true) ya yb da db hu (fun z => absurd z hl) (fin_bl I q (by simp [hl]))
theorem op_neDL {X : Cx} (hu : X.A.units < cLine) : OpR X (compareOp .NotEq) rNeDL := by
  intro pins s σ H x y v u Q I rx ry h
  obtain ⟨a, b, ks, ls, rfl, rfl, ea, eb, hlen, q⟩ := h
  obtain rfl : v = Value.ref a := rx
  obtain rfl : u = Value.ref b := ry
  obtain ⟨_, ya, va, ra, da⟩ := (show ObjOk X.prog X.w H s.heap a (.dK ks) from I.hok a _ ea)
  obtain ⟨_, yb, vb, rb, db⟩ := (show ObjOk X.prog X.w H s.heap b (.dK ls) from I.hok b _ eb)
  have hl : va.length ≠ vb.length := by rw [← ra.length, ← rb.length]; exact hlen
  exact PySem.W.keq_ne (knd := mixKind X.prog X.w) (r := true) ya yb da db hu (fun z => absurd z hl) (fin_bl I q (by simp [hl]))
def D.flat : D → Bool
  | .non => true | .bl _ => true | .int _ => true | .str _ => true
  | _ => false
/-- the tables tell the same -/
def tabEq (ks ls : List (Key × D)) : Bool := ks.all fun p => p.2.flat && match kget ls p.1 with
  | some d => D.same p.2 d
  | none => false
def cEqA (d e : D) (μ : Mem) : Res Bool := match dcell μ d, dcell μ e with
  | some (_, ks), some (_, ls) => if ks.length = ls.length then (if tabEq ks ls = true then .ok true μ else .bad) else .ok false μ
  | _, _ => cEq d e μ
def cNeA (d e : D) (μ : Mem) : Res Bool := (cEqA d e μ).bind fun b μ => .ok (!b) μ
def rEqA (K : PySem.W.Frag) : R2 := fun x y H Q => rEqU K x y H Q ∨ rEqDA x y H Q ∨ rEqDL x y H Q
def rNeA (K : PySem.W.Frag) : R2 := fun x y H Q => rNeU K x y H Q ∨ rNeDA x y H Q ∨ rNeDL x y H Q
theorem op_eqA {X : Cx} (hu : Hu X) : OpR X (compareOp .Eq) (rEqA X.K) := (op_eqU hu.h64).or ((op_eq_dictA (Nat.lt_of_le_of_lt (by omega) hu)).or (op_eqDL (Nat.lt_of_le_of_lt (by omega) hu)))
theorem op_neA {X : Cx} (hu : Hu X) : OpR X (compareOp .NotEq) (rNeA X.K) := (op_neU hu.h64).or ((op_ne_dictA (Nat.lt_of_le_of_lt (by omega) hu)).or (op_neDL (Nat.lt_of_le_of_lt (by omega) hu)))
theorem flat_ok {K : PySem.W.Frag} {ρ : List Addr} {H : Hp} {d : D} {v u : V} (h : d.flat = true) (dv : DV K ρ H d v) (du : DV K ρ H d u) : v = u ∧ flatB v = true := by
  cases d with
  | non => rw [non_ok dv, non_ok du]; exact ⟨rfl, rfl⟩
  | bl b => rw [bl_ok dv, bl_ok du]; exact ⟨rfl, rfl⟩
  | int b => rw [int_ok dv, int_ok du]; exact ⟨rfl, rfl⟩
  | str b => rw [str_ok dv, str_ok du]; exact ⟨rfl, rfl⟩
  | _ => simp [D.flat] at h
theorem tabEq_ok {K : PySem.W.Frag} {ρ : List Addr} {H : Hp} {ks ls : List (Key × D)} {vs us : List (Key × V)} (h : tabEq ks ls = true) (hk : KDs K ρ H ks vs) (hl : KDs K ρ H ls us) : ∀ p ∈ vs, valV us p.1 = some p.2 ∧ flatB p.2 = true := by
  unfold tabEq at h
  induction hk with
  | nil => intro p hp; cases hp
  | @cons p q ps qs r t ih =>
    simp only [List.all_cons, Bool.and_eq_true] at h
    intro p' hp'
    rcases List.mem_cons.mp hp' with e | hp'
    · subst e
      obtain ⟨⟨h1, h2⟩, _⟩ := h
      split at h2
      · rename_i d hd
        have e := D.same_eq _ _ h2
        subst e
        obtain ⟨u, hu, du⟩ := (KDs.val hl).1 _ hd
        obtain ⟨rfl, hf⟩ := flat_ok h1 r.2 du
        exact ⟨by rw [← r.1]; exact hu, hf⟩
      · cases h2
    · exact ih h.2 p' hp'
theorem cmA_core {K : PySem.W.Frag} {ρ : List Addr} {μ : Mem} {H : Hp} {d e : D} {x y : V} {b : Bool} {μ' : Mem} (rel : Rel K ρ μ H) (dx : DV K ρ H d x) (dy : DV K ρ H e y) (h : cEqA d e μ = .ok b μ') :
    (cEq d e μ = .ok b μ') ∨ (μ' = μ ∧ ∃ a b' ks ls, x = .ref a ∧ y = .ref b' ∧ H a = some (.dK ks) ∧ H b' = some (.dK ls) ∧ ((b = true ∧ ks.length = ls.length ∧ ∀ p ∈ ks, valV ls p.1 = some p.2 ∧ flatB p.2 = true) ∨ (b = false ∧ ks.length ≠ ls.length))) := by
  unfold cEqA at h
  split at h
  · rename_i n1 ks n2 ls h1 h2
    obtain ⟨a, vs, rfl, _, _, _, e1, e2⟩ := dcell_ok rel dx h1
    obtain ⟨a', us, rfl, _, _, _, e3, e4⟩ := dcell_ok rel dy h2
    have l1 := KDs.length e2
    have l2 := KDs.length e4
    split at h
    · rename_i hl
      split at h
      · rename_i ht
        obtain ⟨rfl, rfl⟩ : true = b ∧ μ = μ' := by simpa using h
        exact .inr ⟨rfl, a, a', vs, us, rfl, rfl, e1, e3, .inl ⟨rfl, by omega, tabEq_ok ht e2 e4⟩⟩
      · cases h
    · rename_i hl
      obtain ⟨rfl, rfl⟩ : false = b ∧ μ = μ' := by simpa using h
      exact .inr ⟨rfl, a, a', vs, us, rfl, rfl, e1, e3, .inr ⟨rfl, by omega⟩⟩
  · exact .inl h
theorem cEqA_noerr {d e : D} {μ : Mem} {C : Addr} {w : D} {μ' : Mem} : cEqA d e μ ≠ .err C w μ' := by
  unfold cEqA
  split
  · split
    · split <;> exact fun h => nomatch h
    · exact fun h => nomatch h
  · exact cEq_noerr
theorem cm_eqA {K : PySem.W.Frag} : CmpM K (rEqA K) cEqA := by
  intro d e ρ μ H x y Q E rel dx dy ok
  cases h : cEqA d e μ with
  | ok b μ' =>
    rw [h] at ok
    rcases cmA_core rel dx dy h with h | ⟨rfl, a, b', ks, ls, rfl, rfl, e1, e2, ⟨rfl, h1, h2⟩ | ⟨rfl, h1⟩⟩
    · exact .inl (cm_eq d e ρ μ H x y Q E rel dx dy (h ▸ ok))
    · exact .inr (.inl ⟨a, b', ks, ls, rfl, rfl, e1, e2, h1, h2, ok.now rel rfl⟩)
    · exact .inr (.inr ⟨a, b', ks, ls, rfl, rfl, e1, e2, h1, ok.now rel rfl⟩)
  | err C w μ' => exact absurd h cEqA_noerr
  | bad => rw [h] at ok; exact ok.elim
theorem cm_neA {K : PySem.W.Frag} : CmpM K (rNeA K) cNeA := by
  intro d e ρ μ H x y Q E rel dx dy ok
  unfold cNeA at ok
  cases h : cEqA d e μ with
  | ok b μ' =>
    rw [h] at ok
    rcases cmA_core rel dx dy h with h | ⟨rfl, a, b', ks, ls, rfl, rfl, e1, e2, ⟨rfl, h1, h2⟩ | ⟨rfl, h1⟩⟩
    · exact .inl (cm_ne d e ρ μ H x y Q E rel dx dy (by unfold cNe; rw [h]; exact ok))
    · exact .inr (.inl ⟨a, b', ks, ls, rfl, rfl, e1, e2, h1, h2, Okr.now (b := V.bl false) ok rel rfl⟩)
    · exact .inr (.inr ⟨a, b', ks, ls, rfl, rfl, e1, e2, h1, Okr.now (b := V.bl true) ok rel rfl⟩)
  | err C w μ' => exact absurd h cEqA_noerr
  | bad => rw [h] at ok; exact ok.elim
end Doz
end
section
/-! Doz10: calls of defs, methods, classes. -/
namespace Doz
open PySem L2
open PyProof.Rows (envOfC)
abbrev Pw (X : Cx) (W : WX) : Prop := ∀ σ, PassesAt (L2.CX X.prog X.w) X σ (WE W σ)
theorem pw_takes {X : Cx} {W : WX} (tk : Takes X W) : Pw X W := fun σ => passAt tk σ
theorem pw_false {X : Cx} : Pw X WF := fun σ pins H s e s' I c => by
  obtain ⟨_, _, _, _, _, _, _, _, _, _, _, _, z⟩ := c
  exact z.elim
/-! ### what a def promises -/
abbrev MF := List D → Mem → Res D
def spM (K : PySem.W.Frag) (n : Nat) (m : MF) : Sp := fun vs H Q E => ∃ ρ μ ds, ds.length = n ∧ Rel K ρ μ H ∧ DVs K ρ H ds vs ∧ Okr K (DV K) ρ H (m ds μ) Q E
theorem spM.len {K : PySem.W.Frag} {n : Nat} {m : MF} {vs : List V} {H : Hp} {Q : VK} {E : XK} (h : spM K n m vs H Q E) : vs.length = n := by
  obtain ⟨ρ, μ, ds, hl, _, dv, _⟩ := h
  rw [← dv.length]; exact hl
/-! ### arguments -/
structure PCW (X : Cx) (es : List Expr) (kws : List Keyword) (pos : Pos) (ks : List Str) (t : TX (List V × List V)) : Prop where
  run : ∀ (pins : List (Addr × Obj)) (s : Shared) (σ : St) (H : Hp) (f : Value) (first : List Value) (Q : Value → Shared → Prop) (R : List V × List V → Hp → Prop), PySem.W.keepIn X.K f = true → Inv X pins σ H s → t σ H R →
    (∀ us ws vs zs s' H', Inv X pins σ H' s' → Vals vs us → Vals zs ws → R (vs, zs) H' → wpAny (model X.prog X.w) X.A (call f (first ++ us) (ks.zip ws)) Q X.xe s') →
    wpAny (model X.prog X.w) X.A (callWith pos f first (backTo pos (starEach es X.env)) (backToKw pos (keywordEach kws X.env))) Q X.xe s
def DV2 (K : PySem.W.Frag) : Rl (List D × List D) (List V × List V) := fun ρ H a b => DVs K ρ H a.1 b.1 ∧ DVs K ρ H a.2 b.2
structure RC (X : Cx) (hx : Option HX) (W : WX) (es : List Expr) (kws : List Keyword) (pos : Pos) (ks : List Str) (m : MX (List D × List D)) : Prop where
  ex : ∃ t, PCW X es kws pos ks t ∧ Ref X.K hx W (DV2 X.K) t m
structure RK (X : Cx) (hx : Option HX) (W : WX) (kws : List Keyword) (m : MX (List D)) : Prop where
  ex : ∃ t : TA, PK X kws t ∧ Ref X.K hx W (DVs X.K) t m
def mpos (m : MX (List D)) : MX (List D × List D) := bindM m fun ds => fun _ μ => .ok (ds, []) μ
def mkws (m : MX (List D)) : MX (List D × List D) := bindM m fun ds => fun _ μ => .ok ([], ds) μ
def mnoa : MX (List D × List D) := fun _ μ => .ok ([], []) μ
def mboth (m k : MX (List D)) : MX (List D × List D) := bindM m fun ds => bindM k fun es => fun _ μ => .ok (ds, es) μ
section
variable {X : Cx} {hx : Option HX} {W : WX} {e : Expr} {es : List Expr} {kws : List Keyword} {pos kpos : Pos} {ks : List Str} {m mk : MX (List D)} {me : ME} {nm : Option Str}
theorem rk_nil : RK X hx W [] mnil := ⟨⟨_, pk_nil, fun ρ μ δ σ H Q rel env ok => Okr.now (b := ([] : List V)) ok rel .nil⟩⟩
theorem rk_cons (ha : RE X hx W e me) (hr : RK X hx W kws m) : RK X hx W (⟨nm, e, kpos⟩ :: kws) (mcons me m) := by
  obtain ⟨te, pe, re⟩ := ha.ex
  obtain ⟨t, p, r⟩ := hr.ex
  exact ⟨⟨_, pk_cons pe p, Ref.two (k := fun x xs σ H Q => Q (x :: xs) H) stay_DV re r fun d ds ρ μ δ σ H x xs Q rel env dx dxs ok => Okr.now ok rel (.cons dx dxs)⟩⟩
theorem rc_pos (ha : RA X hx W (e :: es) m) (he : starEach (e :: es) X.env = (false, eval e X.env) :: starEach es X.env := by rfl) (hpl : (backTo pos (starEach es X.env)).any (·.1) = false := by rfl) : RC X hx W (e :: es) [] pos [] (mpos m) := by
  obtain ⟨t, p, r⟩ := ha.ex
  refine ⟨⟨fun σ H R => t σ H fun vs H1 => R (vs, []) H1, ⟨fun pins s σ H f first Q R hk I h k => ?_⟩, fun ρ0 μ0 δ σ H0 Q rel0 env0 ok0 => r ρ0 μ0 δ σ H0 _ rel0 env0 (Okr.bind ok0 fun ds μ ρ H xs pr fz rel dv ok => Okr.now (b := (xs, [])) ok rel ⟨dv, .nil⟩)⟩⟩
  exact PySem.W.callWith_K (h₀ := X.base) I.ok.mod.kin hk (thn (p.run pos pins s σ H _ I h) fun us s1 ⟨vs, H1, I1, rr, q⟩ => ⟨I1.kIn, k us [] vs [] s1 H1 I1 rr .nil q⟩) he hpl
theorem rc_nil : RC X hx W [] [] pos [] mnoa := by
  refine ⟨⟨fun σ H R => R ([], []) H, ⟨fun pins s σ H f first Q R hk I h k => ?_⟩, fun ρ0 μ0 δ σ H0 Q rel0 env0 ok0 => Okr.now (b := (([] : List V), ([] : List V))) ok0 rel0 ⟨.nil, .nil⟩⟩⟩
  exact PySem.W.callWith_K0 I.kIn hk (k [] [] [] [] s H I .nil .nil h)
theorem rc_kw (ha : RA X hx W (e :: es) m) (hkw : RK X hx W kws mk) (hall : (backToKw pos (keywordEach kws X.env)).all (·.1.isSome) = true := by rfl) (hks : (backToKw pos (keywordEach kws X.env)).filterMap (·.1) = ks := by rfl)
    (he : starEach (e :: es) X.env = (false, eval e X.env) :: starEach es X.env := by rfl)
    (hpl : ((backTo pos (starEach (e :: es) X.env)).any (·.1) || (backToKw pos (keywordEach kws X.env)).any (·.1.isNone)) = false := by rfl) : RC X hx W (e :: es) kws pos ks (mboth m mk) := by
  obtain ⟨t, p, r⟩ := ha.ex
  obtain ⟨tk, pk, rk⟩ := hkw.ex
  refine ⟨⟨fun σ H R => t σ H fun vs H1 => tk σ H1 fun zs H2 => R (vs, zs) H2, ⟨fun pins s σ H f first Q R hk I h k => ?_⟩, Ref.two (k := fun x y σ H Q => Q (x, y) H) stay_DVs r rk fun d ds ρ μ δ σ H x xs Q rel env dx dxs ok => Okr.now (b := (x, xs)) ok rel ⟨dx, dxs⟩⟩⟩
  refine PySem.W.callWith_KW (h₀ := X.base) I.ok.mod.kin hk hall (thn (p.run pos pins s σ H _ I h) fun us s1 ⟨vs, H1, I1, r, q⟩ => ?_) hpl he
  refine thn (pk.run pos pins s1 σ H1 _ I1 q) fun ws s2 ⟨zs, H2, I2, rz, q2⟩ => ⟨I2.kIn, ?_⟩
  rw [hks]
  exact k us ws vs zs s2 H2 I2 r rz q2
theorem rc_kw0 (hkw : RK X hx W kws mk) (hall : (backToKw pos (keywordEach kws X.env)).all (·.1.isSome) = true := by rfl) (hks : (backToKw pos (keywordEach kws X.env)).filterMap (·.1) = ks := by rfl)
    (hpl : ((backTo pos (starEach [] X.env)).any (·.1) || (backToKw pos (keywordEach kws X.env)).any (·.1.isNone)) = false := by rfl) : RC X hx W [] kws pos ks (mkws mk) := by
  obtain ⟨tk, pk, rk⟩ := hkw.ex
  refine ⟨⟨fun σ H R => tk σ H fun zs H2 => R ([], zs) H2, ⟨fun pins s σ H f first Q R hk I h k => ?_⟩, fun ρ0 μ0 δ σ H0 Q rel0 env0 ok0 => rk ρ0 μ0 δ σ H0 _ rel0 env0 (Okr.bind ok0 fun ds μ ρ H xs pr fz rel dv ok => Okr.now (b := ([], xs)) ok rel ⟨.nil, dv⟩)⟩⟩
  refine PySem.W.callWith_KW0 (h₀ := X.base) I.ok.mod.kin hk hall ?_ hpl
  refine thn (pk.run pos pins s σ H _ I h) fun ws s2 ⟨zs, H2, I2, rz, q2⟩ => ⟨I2.kIn, ?_⟩
  rw [hks]
  exact k [] ws [] zs s2 H2 I2 .nil rz q2
end
/-! ### binding -/
structure Bd (K : PySem.W.Frag) (fd : FuncData) (ps : List Str) (n : Nat) (ks : List Str) (gD : List D → List D → List D) : Prop where
  ex : ∃ g gV, KBn K fd ps n ks g gV ∧ ∀ ρ H ds vs es us, DVs K ρ H ds vs → DVs K ρ H es us → ds.length = n → es.length = ks.length → DVs K ρ H (gD ds es) (gV vs us) ∧ (gD ds es).length = ps.length
theorem bd_all {K : PySem.W.Frag} {fd : FuncData} {ps : List Str} {n : Nat} (hn : ps.length = n) (h : Binds K fd ps []) : Bd K fd ps n [] (fun ds _ => ds) := by
  refine ⟨⟨fun us _ => us, fun vs _ => vs, ⟨fun s us ws X l1 l2 => ?_, fun r _ => r⟩, fun ρ H ds vs es us h1 _ h2 _ => ⟨h1, h2.trans hn.symm⟩⟩⟩
  have b := h s us X (by rw [List.append_nil, l1, hn])
  rw [List.append_nil] at b
  exact b
/-! ### the callee runs -/
section
variable {X : Cx} {hx : Option HX} {W : WX} {k n : Nat} {f C : Addr} {fd : FuncData} {ps ks : List Str} {m : MF} {gD : List D → List D → List D} {x nm : Str} {p pos apos : Pos} {o : Expr} {es : List Expr} {kws : List Keyword} {ma : MX (List D × List D)} {mo : ME}
theorem run_m {pins : List (Addr × Obj)} {σ : St} {H : Hp} {s : Shared} {Q : VK} {us ws : List Value} {vs zs : List V} {ρ : List Addr} {μ : Mem} {ds ez : List D} (F : FnOk X.prog X.w X.K X.mg X.base (L2.CX X.prog X.w) k f fd ps (spM X.K ps.length m)) (hr : Room k X.A)
    (hb : Bd X.K fd ps n ks gD) (pw : PassesAt (L2.CX X.prog X.w) X σ (WE W σ)) (I : Inv X pins σ H s) (r : Vals vs us) (rz : Vals zs ws) (rel : Rel X.K ρ μ H) (hd : DVs X.K ρ H ds vs) (hz : DVs X.K ρ H ez zs) (l1 : ds.length = n) (l2 : ez.length = ks.length)
    (ok : Okr X.K (DV X.K) ρ H (m (gD ds ez) μ) Q (fun c d H' => W c d σ H')) : wpAny (model X.prog X.w) X.A (call (.ref f) us (ks.zip ws)) (EP X pins σ Q) X.xe s := by
  obtain ⟨g, gV, kb, hg⟩ := hb.ex
  obtain ⟨dv, dl⟩ := hg ρ H ds vs ez zs hd hz l1 l2
  have r2 := kb.rel r rz
  refine wpAny_call (codeAny_mono (F.run X.A X.stack s H ⟨us, ks.zip ws⟩ (g us ws) (gV vs zs) Q (WE W σ) hr I.env0 (kb.to s us ws I.kIn (by rw [← r.length, ← hd.length]; exact l1) (by rw [← rz.length, ← hz.length]; exact l2)) r2 ⟨ρ, μ, gD ds ez, dl, rel, dv, ok⟩) fun r s' hq => ?_)
  cases r with
  | error e => exact pw pins H s e s' I hq
  | ok fl =>
    cases fl with
    | ret u => exact I.after hq
    | next => exact False.elim hq
    | brk => exact False.elim hq
    | cont => exact False.elim hq
def mfn (n l : Nat) (gD : List D → List D → List D) (m : MF) (ma : MX (List D × List D)) : ME := bindM ma fun a => fun _ μ => if a.1.length = n ∧ a.2.length = l then m (gD a.1 a.2) μ else .bad
theorem re_call (F : FnOk X.prog X.w X.K X.mg X.base (L2.CX X.prog X.w) k f fd ps (spM X.K ps.length m)) (hr : Room k X.A) (hm : X.mg x = some (.ref f)) (hk : PySem.W.keepIn X.K (.ref f) = true) (hb : Bd X.K fd ps n ks gD) (pw : Pw X W)
    (ha : RC X hx W es kws pos ks ma) (hg : Gl X x := by rfl) (hdb : (x == ("__debug__" : Str)) = false := by decide) : RE X hx W (.Call (.Name x p) es kws pos) (mfn n ks.length gD m ma) := by
  obtain ⟨t, pt, rt⟩ := ha.ex
  refine ⟨⟨fun σ H Q => t σ H fun a H1 => ∃ ρ μ ds ez, Rel X.K ρ μ H1 ∧ DVs X.K ρ H1 ds a.1 ∧ DVs X.K ρ H1 ez a.2 ∧ ds.length = n ∧ ez.length = ks.length ∧ Okr X.K (DV X.K) ρ H1 (m (gD ds ez) μ) Q (fun c d H' => W c d σ H'), ⟨fun pins s σ H Q I h => ?_⟩, fun ρ0 μ0 δ σ H0 Q rel0 env0 ok0 => rt ρ0 μ0 δ σ H0 _ rel0 env0 (Okr.bind ok0 fun a μ ρ H xs pr fz rel dv ok => ?_)⟩⟩
  · refine wpAny_Call_Name_kw (ld_glob I hg hm ?_ hdb)
    refine pt.run pins s σ H (.ref f) [] _ _ hk I h fun us ws vs zs s' H' I' r rz ⟨ρ, μ, ds, ez, rel, hd, hz, l1, l2, ok⟩ => ?_
    exact run_m F hr hb (pw σ) I' r rz rel hd hz l1 l2 ok
  · dsimp only at ok
    split at ok
    · rename_i hl
      exact ⟨ρ, μ, a.1, a.2, rel, dv.1, dv.2, hl.1, hl.2, ok⟩
    · exact ok.elim
/-! ### methods -/
abbrev MM := D → List D → List D → Mem → Res D
/-- what a class must have: the method there, its promise, its binding -/
structure MOk (X : Cx) (nm : Str) (n : Nat) (ks : List Str) (C : Addr) (mm : MM) : Prop where
  ex : ∃ k f fd ps m gD, Cls X.K C ∧ Meth X.K C nm f ∧ FnOk X.prog X.w X.K X.mg X.base (L2.CX X.prog X.w) k f fd ps (spM X.K ps.length m) ∧ Room k X.A ∧ Bd X.K fd ps (n + 1) ks gD ∧ mm = fun x ds ez μ => m (gD (x :: ds) ez) μ
def insOf (μ : Mem) (d : D) : Option (Addr × List (Str × D)) := match d with
  | .loc n => match μ.cells[n]? with
    | some (.ins C fs) => some (C, fs)
    | _ => none
  | _ => none
theorem insOf_ok {K : PySem.W.Frag} {ρ : List Addr} {μ : Mem} {H : Hp} {d : D} {v : V} {C : Addr} {fs : List (Str × D)} (rel : Rel K ρ μ H) (dv : DV K ρ H d v) (h : insOf μ d = some (C, fs)) :
    ∃ a dx vs, v = .ref a ∧ H a = some (.ins C dx vs) ∧ KDs K ρ H fs vs := by
  unfold insOf at h
  split at h
  · rename_i m
    split at h
    · rename_i C' es hc
      obtain ⟨rfl, rfl⟩ : C' = C ∧ es = fs := by simpa using h
      simp only [DV] at dv
      obtain ⟨a, h1, rfl⟩ := dv
      obtain ⟨dx, vs, h2, h3, _⟩ := rel.cell m a _ h1 hc
      exact ⟨a, dx, vs, rfl, h2, h3⟩
    · cases h
  · cases h
def noFld (fs : List (Str × D)) (nm : Str) : Bool := fs.all fun p => !(p.1 == nm)
theorem noFld_ok {K : PySem.W.Frag} {ρ : List Addr} {H : Hp} {nm : Str} {fs : List (Str × D)} {vs : List (Str × V)} (h : noFld fs nm = true) (k : KDs K ρ H fs vs) : vs.lookup nm = none := by
  unfold noFld at h
  induction k with
  | nil => rfl
  | @cons p q ps qs r t ih =>
    simp only [List.all_cons, Bool.and_eq_true] at h
    rw [List.lookup_cons]
    have : (nm == q.1) = false := by
      rw [← r.1]
      have z := h.1
      simp only [Bool.not_eq_true'] at z
      exact beq_eq_false_iff_ne.mpr fun e => (beq_eq_false_iff_ne.mp z) e.symm
    rw [this]
    exact ih h.2
def mmth (nm : Str) (n l : Nat) (T : Addr → Option MM) (mo : ME) (ma : MX (List D × List D)) : ME := bindM mo fun d => fun δ μ => match insOf μ d with
  | some (C, fs) => if noFld fs nm = true then match T C with
      | some mm => (ma δ μ).bind fun a μ1 => if a.1.length = n ∧ a.2.length = l then mm d a.1 a.2 μ1 else .bad
      | none => .bad
    else .bad
  | none => .bad
theorem re_meth {pl : Sem Bool} {T : Addr → Option MM} (ho : RE X hx W o mo) (hT : ∀ C mm, T C = some mm → MOk X nm n ks C mm) (pw : Pw X W) (ha : RC X hx W es kws pos ks ma)
    (ht : eval (.Call (.Attribute o nm apos) es kws pos) X.env = (do
      let ov ← eval o X.env
      standAt apos.atName
      let (f, first) ← holding [ov] (getMethod ov nm pl)
      callWith pos f first (backTo pos (starEach es X.env)) (backToKw pos (keywordEach kws X.env))) := by rfl) : RE X hx W (.Call (.Attribute o nm apos) es kws pos) (mmth nm n ks.length T mo ma) := by
  obtain ⟨to, po, ro⟩ := ho.ex
  obtain ⟨t, pt, rt⟩ := ha.ex
  refine ⟨⟨fun σ H Q => to σ H fun x H1 => ∃ a C dx vs mm, x = .ref a ∧ H1 a = some (.ins C dx vs) ∧ vs.lookup nm = none ∧ T C = some mm ∧ t σ H1 fun ar H2 => ∃ ρ μ d ds ez, Rel X.K ρ μ H2 ∧ DV X.K ρ H2 d x ∧ DVs X.K ρ H2 ds ar.1 ∧ DVs X.K ρ H2 ez ar.2 ∧ ds.length = n ∧ ez.length = ks.length ∧ Okr X.K (DV X.K) ρ H2 (mm d ds ez μ) Q (fun c d H' => W c d σ H'),
    ⟨fun pins s σ H Q I h => ?_⟩, fun ρ0 μ0 δ σ H0 Q rel0 env0 ok0 => ro ρ0 μ0 δ σ H0 _ rel0 env0 (Okr.bind ok0 fun d μ ρ H x pr fz rel dv ok => ?_)⟩⟩
  · refine PySem.W.methodCall_KW (pl := pl) (thn (po.run pins s σ H _ I h) fun u s1 ⟨x, H1, I1, rx, a, C, dx, vs, mm, ex, ea, l, hTC, q⟩ => ?_) ht
    subst ex
    obtain rfl : u = Value.ref a := rx
    obtain ⟨k, f, fd, ps, m, gD, c, hm, F, hr, hb, rfl⟩ := (hT C mm hTC).ex
    refine getmeth_ok I1 ea c hm l ?_
    refine pt.run pins s1 σ H1 (.ref f) [.ref a] _ _ hm.kp I1 q fun us ws vs' zs s' H' I' r rz ⟨ρ, μ, d, ds, ez, rel, dv, hd, hz, l1, l2, ok⟩ => ?_
    exact run_m (us := .ref a :: us) (vs := .ref a :: vs') F hr hb (pw σ) I' (.cons rfl r) rz rel (.cons dv hd) hz (by rw [List.length_cons, l1]) l2 ok
  · dsimp only at ok
    split at ok
    · rename_i C fs hi
      split at ok
      · rename_i hn
        split at ok
        · rename_i mm hTC
          obtain ⟨a, dx, vs, rfl, h1, h2⟩ := insOf_ok rel dv hi
          refine ⟨a, C, dx, vs, mm, rfl, h1, noFld_ok hn h2, hTC, rt ρ μ δ σ H _ rel (env0.mono pr fz) (Okr.bind ok fun ar μ1 ρ1 H1 xs p1 f1 rel1 dv1 ok1 => ?_)⟩
          split at ok1
          · rename_i hl
            exact ⟨ρ1, μ1, d, ar.1, ar.2, rel1, dv.mono p1 f1, dv1.1, dv1.2, hl.1, hl.2, ok1⟩
          · exact ok1.elim
        · exact ok.elim
      · exact ok.elim
    · exact ok.elim
/-! ### classes -/
def mmk (C : Addr) (n l : Nat) (gD : List D → List D → List D) (m : MF) (ma : MX (List D × List D)) : ME := bindM ma fun a => fun _ μ => if a.1.length = n ∧ a.2.length = l then (m (gD (.loc μ.cells.length :: a.1) a.2) (μ.push (.ins C []))).bind fun d μ1 => match d with
    | .non => .ok (.loc μ.cells.length) μ1
    | _ => .bad
  else .bad
theorem re_make (M : Mk X.K C f) (c : Cls X.K C) (F : FnOk X.prog X.w X.K X.mg X.base (L2.CX X.prog X.w) k f fd ps (spM X.K ps.length m)) (hr : Room (k + 1) X.A) (hm : X.mg x = some (.ref C)) (hb : Bd X.K fd ps (n + 1) ks gD) (pw : Pw X W)
    (ha : RC X hx W es kws pos ks ma) (hg : Gl X x := by rfl) (hdb : (x == ("__debug__" : Str)) = false := by decide) : RE X hx W (.Call (.Name x p) es kws pos) (mmk C n ks.length gD m ma) := by
  obtain ⟨t, pt, rt⟩ := ha.ex
  refine ⟨⟨fun σ H Q => t σ H fun a H1 => ∃ ρ μ ds ez, Rel X.K ρ μ H1 ∧ DVs X.K ρ H1 ds a.1 ∧ DVs X.K ρ H1 ez a.2 ∧ ds.length = n ∧ ez.length = ks.length ∧ Okr X.K (DV X.K) ρ H1 ((m (gD (.loc μ.cells.length :: ds) ez) (μ.push (.ins C []))).bind fun d μ1 => match d with
    | .non => .ok (.loc μ.cells.length) μ1
    | _ => .bad) Q (fun c d H' => W c d σ H'), ⟨fun pins s σ H Q I h => ?_⟩, fun ρ0 μ0 δ σ H0 Q rel0 env0 ok0 => rt ρ0 μ0 δ σ H0 _ rel0 env0 (Okr.bind ok0 fun a μ ρ H xs pr fz rel dv ok => ?_)⟩⟩
  · refine wpAny_Call_Name_kw (ld_glob I hg hm ?_ hdb)
    refine pt.run pins s σ H (.ref C) [] _ _ M.kp I h fun us ws vs zs s H I r rz ⟨ρ, μ, ds, ez, rel, hd, hz, l1, l2, ok⟩ => ?_
    show wpAny _ _ (call (.ref C) us (ks.zip ws)) _ _ _
    have hn1 := I.hok.fresh (Nat.le_succ s.heap.objs.size)
    have hn0 := I.hok.fresh (Nat.le_refl s.heap.objs.size)
    have I2 := Inv.made (C := C) I
    have n01 : upd H s.heap.objs.size (.own (s.heap.objs.size + 1)) (s.heap.objs.size + 1) = none := by rw [upd_ne (Nat.ne_of_gt (Nat.lt_succ_self _))]; exact hn1
    have rel1 : Rel X.K ρ μ (upd H s.heap.objs.size (.own (s.heap.objs.size + 1))) := rel.alloc hn0
    have f0 : Fz ρ ρ H (upd H s.heap.objs.size (.own (s.heap.objs.size + 1))) := Fz.new hn0
    have f1 : Fz ρ (ρ ++ [s.heap.objs.size + 1]) (upd H s.heap.objs.size (.own (s.heap.objs.size + 1))) (upd (upd H s.heap.objs.size (.own (s.heap.objs.size + 1))) (s.heap.objs.size + 1) (.ins C s.heap.objs.size [])) := Fz.newA n01
    have rel2 : Rel X.K (ρ ++ [s.heap.objs.size + 1]) (μ.push (.ins C [])) (upd (upd H s.heap.objs.size (.own (s.heap.objs.size + 1))) (s.heap.objs.size + 1) (.ins C s.heap.objs.size [])) :=
      rel1.new n01 ⟨s.heap.objs.size, [], upd_same, .nil, c, fun p hp => (by cases hp), Nat.zero_le _⟩
    have f2 := f0.trans f1
    obtain ⟨g, gV, kb, hg'⟩ := hb.ex
    have hself : DV X.K (ρ ++ [s.heap.objs.size + 1]) (upd (upd H s.heap.objs.size (.own (s.heap.objs.size + 1))) (s.heap.objs.size + 1) (.ins C s.heap.objs.size [])) (.loc μ.cells.length) (.ref (s.heap.objs.size + 1)) := dv_last rel
    obtain ⟨dv, dl⟩ := hg' _ _ (.loc μ.cells.length :: ds) (.ref (s.heap.objs.size + 1) :: vs) ez zs (.cons hself (hd.mono (Pre.app _ _) f2)) (hz.mono (Pre.app _ _) f2) (by rw [List.length_cons, l1]) l2
    have r1 : Vals (V.ref (s.heap.objs.size + 1) :: vs) (Value.ref (s.heap.objs.size + 1) :: us) := .cons rfl r
    have r2 := kb.rel r1 rz
    have ok' : Okr X.K (DV X.K) (ρ ++ [s.heap.objs.size + 1]) (upd (upd H s.heap.objs.size (.own (s.heap.objs.size + 1))) (s.heap.objs.size + 1) (.ins C s.heap.objs.size [])) (m (gD (.loc μ.cells.length :: ds) ez) (μ.push (.ins C []))) (fun v H2 => v = .non ∧ Q (.ref (s.heap.objs.size + 1)) H2) (fun c d H' => W c d σ H') := by
      refine Okr.bind (Okr.mono (Pre.app _ _) f2 ok) fun d μ1 ρ1 H1 v p1 f3 rel3 dv3 ok3 => ?_
      split at ok3
      · exact ⟨non_ok dv3, Okr.now ok3 rel3 (hself.mono p1 f3)⟩
      · exact ok3.elim
    refine wpAny_call (make_map (f := f) I.kIn M.makes M.init (beq_iff_eq.mp M.fn) (codeAny_mono (F.run _ X.stack _ _ ⟨Value.ref (s.heap.objs.size + 1) :: us, ks.zip ws⟩ (g (Value.ref (s.heap.objs.size + 1) :: us) ws) _ _ (WE W σ) (hr.make C us (ks.zip ws))
      (I2.env0.make C us (ks.zip ws)) (kb.to _ (Value.ref (s.heap.objs.size + 1) :: us) ws I2.kIn (by rw [List.length_cons, ← r.length, ← hd.length, l1]) (by rw [← rz.length, ← hz.length]; exact l2)) r2 ⟨_, _, _, dl, rel2, dv, ok'⟩) fun r s' hq' => ?_))
    cases r with
    | error e => exact pw σ pins _ _ e s' I2 hq'
    | ok fl =>
      cases fl with
      | ret u =>
        obtain ⟨v, H', I3, rv, ev, q3⟩ := I2.after hq'
        subst ev
        exact ⟨rv, ⟨V.ref (s.heap.objs.size + 1), H', I3, rfl, q3⟩⟩
      | next => exact False.elim hq'
      | brk => exact False.elim hq'
      | cont => exact False.elim hq'
  · dsimp only at ok
    split at ok
    · rename_i hl
      exact ⟨ρ, μ, a.1, a.2, rel, dv.1, dv.2, hl.1, hl.2, ok⟩
    · exact ok.elim
end
/-! ### a def's body -/
def startD (n : Nat) (ds : List D) : DEnv := ds.map some ++ List.replicate (n - ds.length) none
def runB (n : Nat) (mb : MS) : MF := fun ds μ => match mb (startD n ds) μ with
  | .nx _ μ1 => .ok .non μ1
  | .rt d μ1 => .ok d μ1
  | .err C w _ μ1 => .err C w μ1
  | _ => .bad
theorem env_start {K : PySem.W.Frag} {ρ : List Addr} {H : Hp} {N : List Str} {ds : List D} {vs : List V} (h : DVs K ρ H ds vs) : EnvR K ρ H none (startD N.length ds) (L2.start N vs) := by
  have hl := h.length
  refine ⟨by simp [startD, L2.start, hl], fun i d e => ?_, fun q h => by cases h⟩
  unfold startD at e
  by_cases hi : i < ds.length
  · rw [List.getElem?_append_left (by simpa using hi), List.getElem?_map] at e
    obtain ⟨d', e1, e2⟩ := Option.map_eq_some_iff.mp e
    cases e2
    obtain ⟨v, e3, e4⟩ := h.get e1
    refine ⟨v, ?_, e4⟩
    unfold L2.start
    rw [List.getElem?_append_left (by simpa [← hl] using hi), List.getElem?_map, e3]
    rfl
  · rw [List.getElem?_append_right (by simpa using hi)] at e
    rw [List.getElem?_replicate] at e
    split at e
    · cases e
    · cases e
theorem fn_ok {P : Program} {w : World} {K : PySem.W.Frag} {mg : Str → Option Value} {base : Heap} {x qual : Str} {params : Arguments} {body : List Stmt} {scope : Scope} {dvs : List V} {kws : List (Str × V)} {f : Addr} {fd : FuncData} {N ps : List Str} {k : Nat} {mb : MS}
    (F : FunD K x qual params body scope dvs kws f fd) (S : FnScope N ps scope)
    (hbody : ∀ (cdv : Value) (A : Around) (outer : List Env) (s : Shared) (H : Hp) (E : XK) (W : WX), Room k (A.deeper (envOfC qual scope s.heap.objs.size f cdv)) → Takes (cxOf (L2.CX P w) P w K mg base N qual scope f cdv A outer s H E) W →
      PassesOwn (model P w) (A.deeper (envOfC qual scope s.heap.objs.size f cdv)) (envOfC qual scope s.heap.objs.size f cdv) (cxOf (L2.CX P w) P w K mg base N qual scope f cdv A outer s H E).xe → RSs (cxOf (L2.CX P w) P w K mg base N qual scope f cdv A outer s H E) none W body mb) :
    FnOk P w K mg base (L2.CX P w) (k + 1) f fd ps (spM K ps.length (runB N.length mb)) := by
  refine F.ok S (fun vs H Q E h => h.len) (fun cdv A outer s H vs Q E hr h => ?_)
  obtain ⟨ρ, μ, ds, hl, rel, dv, ok⟩ := h
  have tk := takes_of (X := cxOf (L2.CX P w) P w K mg base N qual scope f cdv A outer s H E) (E := E) rfl rfl rfl rfl
  have ps' := passes_of (X := cxOf (L2.CX P w) P w K mg base N qual scope f cdv A outer s H E) rfl
  obtain ⟨t, pt, rt⟩ := (hbody cdv A outer s H E (fun cls d _ H => E cls d H) hr tk ps').ex
  refine ⟨t, pt, rt ρ μ (startD N.length ds) (L2.start N vs) H _ rel (env_start dv) ?_⟩
  unfold runB at ok
  cases e : mb (startD N.length ds) μ with
  | nx δ1 μ1 => rw [e] at ok; exact fun ρ1 H1 σ1 p1 f1 rel1 _ => Okr.go (b := V.non) ok p1 f1 rel1 dv_non
  | rt d μ1 => rw [e] at ok; exact fun ρ1 H1 v p1 f1 rel1 dv1 => Okr.go ok p1 f1 rel1 dv1
  | err C w δ1 μ1 => rw [e] at ok; exact fun ρ1 H1 σ1 dd v p1 f1 rel1 _ hd dv1 => ok ρ1 H1 dd v p1 f1 rel1 hd dv1
  | bk δ1 μ1 => rw [e] at ok; exact ok.elim
  | ct δ1 μ1 => rw [e] at ok; exact ok.elim
  | bad => rw [e] at ok; exact ok.elim
end Doz
end
section
/-! Doz11: own exceptions with a field: raised, caught, read. -/
namespace PySem
namespace DozX
open PySem.W PySem.Calls PyProof.Rows PySem.HandSPX
/-! ### the text of __init__ -/
def iA (p1 p2 : Pos) : Arguments := { posonlyargs := [], args := [{ arg := "self", annotation := none, pos := p1 }, { arg := "what", annotation := none, pos := p2 }], vararg := none, kwonlyargs := [], kw_defaults := [], kwarg := none, defaults := [] }
def iB (q1 q2 q3 q4 : Pos) : List Stmt := [.Assign [.Attribute (.Name "self" q1) "what" q2] (.Name "what" q3) q4]
def iS : Scope := { kind := .function, names := [(PySem.Str.ofString "self", .local), (PySem.Str.ofString "what", .local)], isGenerator := false, isCoroutine := false, more := [] }
/-- what the written part says of an exception's class at C, and of its __init__, at fI -/
structure ExTxt (K : Frag) (C fI : Addr) : Prop where
  cls : ∃ nm q N bs bm sn sub ab col dd k0 k1 k2 k3 k5, K.lookup C = some (excClassObj nm q C N bs bm true sn sub ab col dd k0 k1 k2 k3 k5 "ValueError.__new__") ∧ refsVE bm = true
  sa : findIn K (.ref C) "__setattr__" = some (some (.builtin "object.__setattr__"))
  ga : findIn K (.ref C) "__getattribute__" = some (some (.builtin "BaseException.__getattribute__"))
  gg : findIn K (.ref C) "__getattr__" = some none
  noN : findIn K (.ref C) "what" = some none
  iC : findIn K (.ref C) "__init__" = some (some (.ref fI))
  tC : typeIn K (.ref fI) = some (.type "function")
  kC : keepIn K (.ref C) = true
  exC : subIn K (.ref C) (.type "BaseException") = some true
  tyC : typeIn K (.ref C) = some (.type "type")
  hdC : hasDictIn K C = true
  fn : ∃ (oc : Value) (od : Option Addr) (kV doc pm : Value) (an : Option Addr) (cdv ct : Value) (osl : Array (Option Value)) (p1 p2 q1 q2 q3 q4 : Pos),
    K.lookup fI = some ⟨oc, od, .func (fnOf "__init__" "DozeError.__init__" (iA p1 p2) (iB q1 q2 q3 q4) iS .none kV doc pm an cdv ct), osl⟩ ∧ codeIn K cdv "DozeError.__init__" = true
theorem one_size (v : Value) : [v].length ≤ sizeLine := by
  rw [sizeLine_eq]
  exact (by decide : 1 ≤ 16777216)
theorem ldC {M : Model} {s : Shared} {name : Str} {scope : Scope} {L a : Addr} {cd : Value} {m : Str → Option Value} {x : Str} {pos : Pos} {v : Value} {Q : Value → Shared → Prop} {A : Around} {E : Value → Shared → Prop} (hn : s.heap.Ns L m) (hv : m x = some v) (h : Q v s)
    (hk : scope.kind = .function := by rfl) (hl : (envOfC name scope L a cd).kindOf x = some .local := by rfl) (hd : (x == ("__debug__" : Str)) = false := by decide) :
    wpAny M A (eval (.Name x pos) (envOfC name scope L a cd)) Q E s := wpAny_Name (wpAny_loadName_local hk hl hn hv h) hd
/-- what __init__ leaves of a fresh exception at x -/
structure InitEnd (h h' : Heap) (x C dx t1 : Addr) (v : Value) : Prop where
  keep : ∀ b o, b ≠ x → h.get? b = some o → h'.get? b = some o
  obj : h'.get? x = some { cls := .ref C, dict := some dx, data := .fields #[.ref t1, .none, .none, .none, .bool false, .none] }
  dbig : h.objs.size ≤ dx
  dne : dx ≠ x
  ns : h'.Ns1 dx (fun y => if y = "what" then some v else none)
structure OwnMade (h h' : Heap) (e C d : Addr) (v : Value) : Prop where
  keep : ∀ b o, h.get? b = some o → h'.get? b = some o
  new : h.objs.size ≤ e
  obj : ∃ oe vs, h'.get? e = some oe ∧ oe.cls = .ref C ∧ oe.dict = some d ∧ oe.data = .fields vs ∧ vs[1]? = some .none
  dbig : h.objs.size ≤ d
  dne : d ≠ e
  ns : h'.Ns1 d (fun y => if y = "what" then some v else none)
section
variable {prog : Program} {w : World} {A : Around} {E : Value → Shared → Prop} {R : Result → Shared → Prop} {s : Shared} {K : Frag} {C fI : Addr}
theorem ex_init (T : ExTxt K C fI) {x t0 : Addr} {v : Value} (X : K.In s.heap) (hlim : s.heap.NoLimit) (hx : s.heap.get? x = some (excO C t0)) (hnx : K.lookup x = none) (hroom : A.depth < recursionLimit)
    (hq : ∀ h' tk dx, InitEnd s.heap h' x C dx t0 v → R (.ok (.ret .none)) { s with heap := h', toks := tk }) :
    codeAny (model prog w) A (.call (.ref fI) ⟨[.ref x, v], []⟩) R s := by
  obtain ⟨oc, od, kV, doc, pm, an, cdv, ct, osl, p1, p2, q1, q2, q3, q4, ho, hcd⟩ := T.fn
  obtain ⟨nm, q, N, bs, bm, sn, sub, ab, col, dd, k0, k1, k2, k3, k5, hC, hbm⟩ := T.cls
  have hcl : clsIn K C = some { name := nm, bases := bs, mro := .ref C :: bm, ns := N, qualname := q, hasDict := true, slotNames := sn, subclasses := sub, abstract := ab, collection := col, hasDel := false } := by unfold clsIn; rw [hC] <;> rfl
  refine Att.call_fn (binds := [("self", .ref x), ("what", v)]) X hlim ho hcd hroom (BindsTo.of_eq (by first | rfl | with_unfolding_all rfl)) (by first | rfl | decide | with_unfolding_all rfl) (fun s₁ IC => ?_) rfl rfl rfl
  obtain ⟨h₁, tk₁, rfl⟩ := IC.toInCall.same
  have k : ∀ b o, s.heap.get? b = some o → h₁.get? b = some o := IC.toInCall.keep
  have hn := IC.toInCall.ns
  have hxL : s.heap.objs.size ≠ x := Nat.ne_of_gt (Heap.lt_size hx)
  have X₁ : K.In h₁ := X.keeps k
  have hx₁ := k _ _ hx
  show wpAny _ _ (execs _ _) _ _ _
  refine wpAny_execs_cons (plainObj_wpAny_Assign_Attribute ?_)
  refine ldC (v := v) hn (by first | rfl | with_unfolding_all rfl | kernel_rfl) (ldC (v := .ref x) hn (by first | rfl | with_unfolding_all rfl | kernel_rfl) ?_)
  refine set_plain X₁ (ox := excO C t0) (od := none) ⟨hx₁, rfl, rfl, trivial⟩ T.sa ?_
  refine exc_osa X₁ hx₁ hcl (show refsVE (.ref C :: bm) = true from hbm) rfl T.noN (fun h₃ tk₃ dx k₃ dn dne hx₃ hn₃ => ?_)
  show wpAny _ _ (execs _ _) _ _ _
  have z : s.heap.objs.size < h₁.objs.size := hn.lt
  exact wpAny_execs_nil (hq h₃ tk₃ dx ⟨fun b o hb e => k₃ b o hb (k b o e), hx₃, Nat.le_of_lt (Nat.lt_of_lt_of_le z dn), dne, hn₃⟩)
theorem ex_made (T : ExTxt K C fI) {v : Value} (X : K.In s.heap) (hlim : s.heap.NoLimit) (hroom : A.depth + 1 < recursionLimit)
    (hq : ∀ h' tk e d, OwnMade s.heap h' e C d v → R (.ok (.ret (.ref e))) { s with heap := h', toks := tk }) :
    codeAny (model prog w) A (.call (.ref C) ⟨[v], []⟩) R s := by
  obtain ⟨nm, q, N, bs, bm, sn, sub, ab, col, dd, k0, k1, k2, k3, k5, hC, hbm⟩ := T.cls
  obtain ⟨hp, g, dr, tk, os⟩ := s
  have k : ∀ b o, hp.get? b = some o → ((hp.push (kdv_tup [v])).push (excO C hp.objs.size)).get? b = some o := fun b o e => Heap.get?_push_of_some _ (Heap.get?_push_of_some _ e)
  have hget : ((hp.push (kdv_tup [v])).push (excO C hp.objs.size)).get? (hp.objs.size + 1) = some (excO C hp.objs.size) := by heap_get
  have hnx : K.lookup (hp.objs.size + 1) = none := by
    cases e : K.lookup (hp.objs.size + 1) with
    | none => rfl
    | some o =>
      have z : hp.get? (hp.objs.size + 1) = some o := X _ _ e
      exact absurd (Nat.lt_of_succ_lt (Heap.lt_size z)) (Nat.lt_irrefl _)
  refine call_own F.excBase_ValueError (fun X => refsVE_contains X bm hbm) (X _ _ hC) (looks_findIn X T.iC) (fun self => bind_fn X self T.tC) (one_size v) ?_
  refine ex_init (s := ⟨(hp.push (kdv_tup [v])).push (excO C hp.objs.size), g, dr, tk, os⟩) T (X.keeps k) (hlim.keeps k) hget hnx ?_ fun h' tk' dx ⟨k', hx, dn, dne, hns⟩ => ?_
  · show A.depth + 1 < recursionLimit
    exact hroom
  · have old : ∀ b o, hp.get? b = some o → h'.get? b = some o := fun b o e => k' b o (Nat.ne_of_lt (Nat.lt_succ_of_lt (Heap.lt_size e))) (k b o e)
    have z : hp.objs.size + 1 + 1 ≤ dx := by
      first
        | (simpa only [Heap.size_push] using dn)
        | exact dn
        | (have q := dn; rw [Heap.size_push, Heap.size_push] at q; exact q)
    exact ⟨rfl, hq h' tk' (hp.objs.size + 1) dx ⟨old, Nat.le_succ _, ⟨_, _, hx, rfl, rfl, rfl, rfl⟩, Nat.le_trans (Nat.le_trans (Nat.le_succ _) (Nat.le_succ _)) z, dne, hns⟩⟩
end
end DozX
end PySem
namespace L2
open PySem PySem.Spec PyProof.Rows
theorem relO_what {v : V} {v' : Value} (r : RelV v v') (f : Str) : RelO (List.lookup f [(("what" : Str), v)]) (if f = "what" then some v' else none) := by
  by_cases hw : f = "what"
  · subst hw
    rw [if_pos rfl]
    have q : List.lookup ("what" : Str) [(("what" : Str), v)] = some v := by simp [List.lookup]
    rw [q]
    exact r
  · rw [if_neg hw]
    have qw : (f == ("what" : Str)) = false := by simpa using hw
    have q2 : List.lookup f [(("what" : Str), v)] = none := by simp [List.lookup, qw]
    rw [q2]
    trivial
section
variable {X : Cx} {C fI : Addr}
/-- C(e) -/
def tMkX (C : Addr) (ta : TA) : St → Hp → XK → Prop := fun σ H Q => ta σ H fun vs H1 => ∃ v, vs = [v] ∧ ∀ d, H1 d = none → Q (.ref C) (some d) (upd H1 d (.xd [(("what" : Str), v)]))
theorem pmk_X {x : Str} {a : Expr} {ta : TA} {p pos : Pos} {k : Nat} (T : PySem.DozX.ExTxt X.K C fI) (gC : X.mg x = some (.ref C)) (hr : Room k X.A) (ha : PA X [a] ta) (hg : Gl X x := by rfl) (hdb : (x == ("__debug__" : Str)) = false := by decide)
    (he : starEach (a :: []) X.env = (false, eval a X.env) :: starEach [] X.env := by rfl) (hpl : (backTo pos (starEach [] X.env)).any (·.1) = false := by rfl) :
    PMk X (.Call (.Name x p) [a] [] pos) (tMkX C ta) := by
  intro pins s σ H Q I h
  refine wpAny_Call_Name_kw (ld_glob I hg gC ?_ hdb)
  refine PySem.W.callWith_K (h₀ := X.base) I.ok.mod.kin T.kC (thn (ha.run pos pins s σ H _ I h) fun us s1 hh => ?_) he hpl
  obtain ⟨vs, H1, I1, r1, v, ev, q1⟩ := hh
  subst ev
  refine ⟨I1.kIn, ?_⟩
  cases r1 with
  | cons rv rn =>
    rename_i v' us'
    cases rn
    show wpAny _ _ (call (.ref C) [v']) _ _ _
    have hlim := I1.nolimit
    obtain ⟨hp, g, dr, tk, os⟩ := s1
    refine wpAny_call (PySem.DozX.ex_made T I1.kIn hlim (by have := hr.dp; omega) fun h' tk' e d M => ?_)
    show MkP X pins σ Q (.ref e) ⟨h', g, dr, tk', os⟩
    obtain ⟨oe, fv, hoe, hc, hd, hdat, h1⟩ := M.obj
    have hns := M.ns
    obtain ⟨G', g1, g2⟩ := restrict h' fun b => decide (b ≠ e)
    have gk : ∀ b, b ≠ e → G'.get? b = h'.get? b := fun b hb => g1 b (decide_eq_true hb)
    have ge : G'.get? e = none := g2 e (by simp)
    have old : ∀ b o, hp.get? b = some o → G'.get? b = some o := fun b o q => (gk b (Nat.ne_of_lt (Nat.lt_of_lt_of_le (Heap.lt_size q) M.new))).trans (M.keep b o q)
    have ob : ObjOk X.prog X.w (upd H1 d (.xd [(("what" : Str), v)])) G' d (.xd [(("what" : Str), v)]) :=
      ⟨_, hns.at (fun o q => (gk d M.dne).trans q), fun f => relO_what rv f⟩
    have J : Inv X pins σ (upd H1 d (.xd [(("what" : Str), v)])) ⟨G', g, dr, tk', os⟩ := I1.laid (t' := tk') old M.dbig ob
    refine ⟨e, oe, fv, ⟨G', g, dr, tk', os⟩, _, .ref C, some d, rfl, J, fun b o q => ?_, ge, hoe, ⟨hc, hd⟩, hdat, h1, ?_, rfl, I1.bare, raises_own T.exC T.tyC, q1 d (I1.hok.fresh M.dbig)⟩
    · by_cases hb : b = e
      · have q' : G'.get? b = some o := q
        rw [hb, ge] at q'; cases q'
      · exact (gk b hb).symm.trans q
    · rw [upd_ne (Ne.symm M.dne)]
      exact I1.hok.fresh M.new
/-- e.what, e the exception that the suite holds (at a; its class cls, its dict d) -/
def tWhat (C : Addr) (a : Addr) (cls : Value) (d : Option Addr) (te : TE) : TE := fun σ H Q => te σ H fun x H1 => x = .ref a ∧ cls = .ref C ∧ ∃ (dd : Addr) (v : V), d = some dd ∧ H1 dd = some (.xd [(("what" : Str), v)]) ∧ Q v H1
theorem pe_what {a : Addr} {oe : Obj} {cls : Value} {d : Option Addr} {pn : List (Addr × Obj)} {e : Expr} {te : TE} {pos : Pos} (T : PySem.DozX.ExTxt X.K C fI) (hz : Zc cls d oe) (hf : ∃ vs, oe.data = .fields vs) (he : PE (X.suite a ((a, oe) :: pn)) e te)
    (hb : attributeBase e "what" X.env (eval e X.env) = eval e X.env := by rfl) :
    PE (X.suite a ((a, oe) :: pn)) (.Attribute e "what" pos) (tWhat C a cls d te) := by
  refine ⟨fun pins s σ H Q I h => ?_⟩
  refine attr_of hb (thn (he.run pins s σ H _ I h) fun u s1 hh => ?_)
  obtain ⟨x, H1, I1, rx, ex, ec, dd, v, ed, ea, q⟩ := hh
  subst ex
  obtain rfl : u = Value.ref a := rx
  subst ec
  subst ed
  obtain ⟨ha, _⟩ := I1.pin (a, oe) (List.mem_append_left _ List.mem_cons_self)
  obtain ⟨vs, hd⟩ := hf
  have hx : ObjOk X.prog X.w H1 s1.heap dd (.xd [(("what" : Str), v)]) := I1.hok dd _ ea
  obtain ⟨mA, hns, hr⟩ := hx
  obtain ⟨od, ho, hl⟩ := lookIn_ns hns
  have l : List.lookup ("what" : Str) [(("what" : Str), v)] = some v := by simp [List.lookup]
  obtain ⟨u, hu, ru⟩ := RelO.some_of (v := v) (o := mA "what") (by rw [← l]; exact hr "what")
  have J : PySem.W.InstAt s1.heap a oe C (some od) := ⟨ha, hz.1, by unfold PySem.W.notCls; rw [hd] <;> rfl, by rw [hz.2]; exact ho⟩
  exact HandSPX.exc_get I1.kIn J T.ga T.gg T.exC (PySem.W.findObj_own T.hdC T.noN rfl (by rw [hl, hu])) (handed_of ru) ⟨v, H1, I1.tok _, ru, q⟩
end
end L2
end
section
/-! Doz12: raise, try. -/
namespace Doz
open PySem L2
open PySem.DozX (ExTxt)
def mraise (C : Addr) (ma : MX (List D)) : MS := ofE ma fun ds => fun δ μ => match ds with
  | [w] => .err C w δ μ
  | _ => .bad
section
variable {X : Cx} {hx : Option HX} {W : WX} {C fI : Addr} {k : Nat} {x : Str} {a : Expr} {ma : MX (List D)} {p pos pos2 : Pos}
theorem rs_raise (hc : X.calm = true) (T : ExTxt X.K C fI) (gC : X.mg x = some (.ref C)) (hr : Room k X.A) (tk : Takes X W) (ha : RA X hx W [a] ma) (hg : Gl X x := by rfl) (hdb : (x == ("__debug__" : Str)) = false := by decide)
    (he : starEach (a :: []) X.env = (false, eval a X.env) :: starEach [] X.env := by rfl) (hpl : (backTo pos (starEach [] X.env)).any (·.1) = false := by rfl) : RS X hx W (.Raise (some (.Call (.Name x p) [a] [] pos)) none pos2) (mraise C ma) := by
  obtain ⟨t, pt, rt⟩ := ha.ex
  refine ⟨⟨_, ps_raise hc tk (pmk_X T gC hr pt hg hdb he hpl), fun ρ μ δ σ H Dn rel env ok => rt ρ μ δ σ H _ rel env (OkS.ofE env ok fun ds μ1 ρ1 H1 vs pr fz rel1 dv ok1 => ?_)⟩⟩
  split at ok1
  · obtain ⟨v, rfl, dv1⟩ := dv.one
    refine ⟨v, rfl, fun d hd => ?_⟩
    have f : Fz ρ1 ρ1 H1 (upd H1 d (.xd [(("what" : Str), v)])) := Fz.new hd
    exact ok1 ρ1 _ σ d v (Pre.refl _) f (rel1.alloc hd) ((env.mono pr fz).mono (Pre.refl _) f) upd_same (dv1.mono (Pre.refl _) f)
  · exact ok1.elim
end
/-! ### the readings of statements that hold in any such context -/
def TmS (K : PySem.W.Frag) (hx : Option HX) (W : WX) (m : MS) : TS := fun Dn σ H => ∃ ρ μ δ, Rel K ρ μ H ∧ EnvR K ρ H hx δ σ ∧ OkS K hx W ρ H (m δ μ) Dn
theorem RSs.pss {X : Cx} {hx : Option HX} {W : WX} {body : List Stmt} {m : MS} (h : RSs X hx W body m) : PSs X body (TmS X.K hx W m) := by
  obtain ⟨t, p, r⟩ := h.ex
  exact ⟨fun pins s σ H Dn I ⟨ρ, μ, δ, rel, env, ok⟩ => p.run pins s σ H Dn I (r ρ μ δ σ H Dn rel env ok)⟩
def unS (i : Nat) : SRes → SRes
  | .nx δ μ => .nx (δ.set i none) μ
  | .bk δ μ => .bk (δ.set i none) μ
  | .ct δ μ => .ct (δ.set i none) μ
  | .rt d μ => .rt d μ
  | _ => .bad
def mtry (i : Nat) (test : Addr → Option Bool) (mb : MS) (ms : Addr → D → MS) : MS := fun δ μ => match mb δ μ with
  | .err C w δ1 μ1 => match test C with
    | some true => if i < δ1.length then unS i (ms C w (δ1.set i none) μ1) else .bad
    | some false => .err C w δ1 μ1
    | none => .bad
  | r => r
theorem EnvR.hold {K : PySem.W.Frag} {ρ : List Addr} {H : Hp} {δ : DEnv} {σ : St} {i : Nat} {a C dd : Addr} {w : D} {v : V} (e : EnvR K ρ H none δ σ) (hi : i < δ.length) (hn : dd ∉ ρ) (hd : H dd = some (.xd [(("what" : Str), v)])) (dv : DV K ρ H w v) :
    EnvR K ρ H (some ⟨i, a, C, dd, w⟩) (δ.set i none) (σ.set i (some (.ref a))) := by
  refine ⟨by simp [e.len], fun j d' h => ?_, fun q h => ?_⟩
  · by_cases hj : i = j
    · subst hj
      rw [List.getElem?_set_self hi] at h
      cases h
    · rw [List.getElem?_set_ne hj] at h
      obtain ⟨u, h1, h2⟩ := e.get j d' h
      exact ⟨u, by rw [List.getElem?_set_ne hj]; exact h1, h2⟩
  · cases h
    exact ⟨List.getElem?_set_self (e.len ▸ hi), hn, v, hd, dv⟩
section
variable {X : Cx} {W : WX} {x n : Str} {c : Value} {body suite : List Stmt} {b₀ : Stmt} {np pos pos' : Pos} {mb : MS} {ms : Addr → D → MS} {test : Addr → Option Bool}
theorem rs_try (i : Nat) (hs : X.stack = X.env :: X.outer) (hf : X.env.frame = some X.env.locals) (hN : X.N.Nodup) (hc : Names X x c) (tk : Takes X W) (hT : ∀ C b, test C = some b → PySem.W.exmOne X.K (.ref C) c = some b)
    (hb : ∀ (W : WX) (pn : List (Addr × Obj)) (xe : Value → Shared → Prop), Takes (X.tr pn xe) W → PassesOwn (model X.prog X.w) X.A X.env xe → RSs (X.tr pn xe) none W body mb)
    (hsu : ∀ (a : Addr) (oe : Obj) (C dd : Addr) (w : D) (pn : List (Addr × Obj)), test C = some true → Zc (.ref C) (some dd) oe → (∃ vs, oe.data = .fields vs) → RSs (X.suite a ((a, oe) :: pn)) (some ⟨i, a, C, dd, w⟩) WF (b₀ :: suite) (ms C w))
    (hi : X.N[i]? = some n := by rfl) (hln : X.env.kindOf n = some .local := by rfl) :
    RS X none W (.Try body [.ExceptHandler (some (.Name x np)) (some n) (b₀ :: suite) pos'] [] [] pos) (mtry i test mb ms) := by
  let ts : Addr → Value → Option Addr → TS := fun a cls d Dn σ H => ∃ C dd w, cls = .ref C ∧ d = some dd ∧ test C = some true ∧ TmS X.K (some ⟨i, a, C, dd, w⟩) WF (ms C w) Dn σ H
  refine ⟨⟨_, ps_try_as (tb := fun W => TmS X.K none W mb) (ts := ts) hs hf hN hi hln hc tk (fun W pn xe t p => (hb W pn xe t p).pss) (fun a oe cls d pn hz hv => ?_), fun ρ μ δ σ H Dn rel env ok => ⟨ρ, μ, δ, rel, env, ?_⟩⟩⟩
  · refine ⟨fun pins s σ H Dn I ⟨C, dd, w, e1, e2, ht, h⟩ => ?_⟩
    subst e1 e2
    exact (hsu a oe C dd w pn ht hz hv).pss.run pins s σ H Dn I h
  · unfold mtry at ok
    cases e : mb δ μ with
    | nx δ1 μ1 => rw [e] at ok; exact ok
    | rt d μ1 => rw [e] at ok; exact ok
    | bk δ1 μ1 => rw [e] at ok; exact ok
    | ct δ1 μ1 => rw [e] at ok; exact ok
    | bad => rw [e] at ok; exact ok
    | err C w δ1 μ1 =>
      rw [e] at ok
      dsimp only at ok
      intro ρ1 H1 σ1 dd v p1 f1 rel1 env1 hd dv
      split at ok
      · rename_i ht
        split at ok
        · rename_i hl
          refine ⟨true, hT C true ht, fun _ a ha => ⟨C, dd, w, rfl, rfl, ht, ρ1, μ1, δ1.set i none, rel1, env1.hold hl (rel1.noxd hd) hd dv, ?_⟩, fun z => nomatch z⟩
          revert ok
          cases ms C w (δ1.set i none) μ1 with
          | nx δ2 μ2 => exact fun ok ρ2 H2 σ2 p2 f2 rel2 env2 => ok ρ2 H2 _ (p1.trans p2) (f1.trans f2) rel2 env2.nox.unset
          | bk δ2 μ2 => exact fun ok ρ2 H2 σ2 p2 f2 rel2 env2 => ok ρ2 H2 _ (p1.trans p2) (f1.trans f2) rel2 env2.nox.unset
          | ct δ2 μ2 => exact fun ok ρ2 H2 σ2 p2 f2 rel2 env2 => ok ρ2 H2 _ (p1.trans p2) (f1.trans f2) rel2 env2.nox.unset
          | rt d μ2 => exact fun ok ρ2 H2 v2 p2 f2 rel2 dv2 => ok ρ2 H2 v2 (p1.trans p2) (f1.trans f2) rel2 dv2
          | err _ _ _ _ => exact fun ok => ok.elim
          | bad => exact fun ok => ok.elim
        · exact ok.elim
      · rename_i ht
        exact ⟨false, hT C false ht, (fun z => nomatch z), fun _ => ok ρ1 H1 σ1 dd v p1 f1 rel1 env1 hd dv⟩
      · exact ok.elim
/-- e.what -/
theorem re_what {i : Nat} {a C dd fI : Addr} {oe : Obj} {w : D} {pn : List (Addr × Obj)} {y : Str} {p2 : Pos} (T : ExTxt X.K C fI) (hz : Zc (.ref C) (some dd) oe) (hf : ∃ vs, oe.data = .fields vs)
    (hN : X.N[i]? = some y := by rfl) (hv : Vis X.env.scope y := by first | exact Or.inl rfl | exact Or.inr (Or.inl rfl) | exact Or.inr (Or.inr rfl)) (hd : (y == ("__debug__" : Str)) = false := by decide)
    (hcd : (y == ("__classdict__" : Str)) = false := by decide) (hb : attributeBase (.Name y p2) "what" X.env (eval (.Name y p2) X.env) = eval (.Name y p2) X.env := by rfl) :
    RE (X.suite a ((a, oe) :: pn)) (some ⟨i, a, C, dd, w⟩) W (.Attribute (.Name y p2) "what" pos) (mC w) := by
  refine ⟨⟨_, pe_what T hz hf (pe_var (X := X.suite a ((a, oe) :: pn)) (i := i) hN hv hd hcd) hb, fun ρ μ δ σ H Q rel env ok => ?_⟩⟩
  obtain ⟨h1, h2, v, h3, h4⟩ := env.exn _ rfl
  exact ⟨.ref a, h1, rfl, rfl, dd, v, rfl, h3, Okr.now ok rel h4⟩
end
end Doz
end
section
/-! Doz13: the head: facts of own exceptions; the law's end. -/
namespace PySem
namespace DozX
open PySem.W PySem.Calls PyProof.Rows PySem.HandSPX
/-- the class x of the module's names is an exception whose __init__ is DozeError's -/
def clsB (K : Frag) (C : Addr) : Bool := match K.lookup C with
  | some ⟨.type "type", _, .cls cd, sl⟩ => (match cd.mro, sl.toList with
    | .ref C' :: bm, [_, _, _, _, some (.builtin n), _] => C' == C && n == "ValueError.__new__" && !cd.hasDel && cd.hasDict && refsVE bm
    | _, _ => false)
  | _ => false
theorem clsB_ok {K : Frag} {C : Addr} (q : clsB K C = true) : ∃ nm qn N bs bm sn sub ab col dd k0 k1 k2 k3 k5, K.lookup C = some (excClassObj nm qn C N bs bm true sn sub ab col dd k0 k1 k2 k3 k5 "ValueError.__new__") ∧ refsVE bm = true := by
  unfold clsB at q
  split at q
  · rename_i dd cd sl ho
    split at q
    · rename_i C' bm k0 k1 k2 k3 n k5 hm hs
      simp only [Bool.and_eq_true, beq_iff_eq, Bool.not_eq_true'] at q
      obtain ⟨⟨⟨⟨rfl, rfl⟩, hdel⟩, hdi⟩, ht⟩ := q
      obtain ⟨nm, bs, mro, ns, qn, hd, sn, sub, ab, col, del⟩ := cd
      dsimp only at hm hdel hdi
      subst hm hdel hdi
      have hsl : sl = #[k0, k1, k2, k3, some (.builtin "ValueError.__new__"), k5] := by
        obtain ⟨l⟩ := sl
        simp only at hs
        rw [hs]
      subst hsl
      exact ⟨nm, qn, ns, bs, bm, sn, sub, ab, col, dd, k0, k1, k2, k3, k5, ho, ht⟩
    · cases q
  · cases q
def exB (K : Frag) (x : Str) : Bool :=
  clsB K (He.ga K x) && (He.eqO (findIn K (.ref (He.ga K x)) "__setattr__") (some (some (.builtin "object.__setattr__"))) && (He.eqO (findIn K (.ref (He.ga K x)) "__getattribute__") (some (some (.builtin "BaseException.__getattribute__"))) &&
    (He.eqO (findIn K (.ref (He.ga K x)) "__getattr__") (some none) && (He.eqO (findIn K (.ref (He.ga K x)) "what") (some none) && (He.eqO (findIn K (.ref (He.ga K x)) "__init__") (some (some (.ref (He.fAd K ("DozeError", some "__init__"))))) &&
      (decide (typeIn K (.ref (He.fAd K ("DozeError", some "__init__"))) = some (.type "function")) && (keepIn K (.ref (He.ga K x)) && (decide (subIn K (.ref (He.ga K x)) (.type "BaseException") = some true) &&
        (decide (typeIn K (.ref (He.ga K x)) = some (.type "type")) && hasDictIn K (He.ga K x))))))))))
theorem exB_ok {K : Frag} {x : Str} {fd : FuncData} {p1 p2 q1 q2 q3 q4 : Pos} (h : exB K x = true) (F : L2.FunD K "__init__" "DozeError.__init__" (iA p1 p2) (iB q1 q2 q3 q4) iS [] [] (He.fAd K ("DozeError", some "__init__")) fd) : ExTxt K (He.ga K x) (He.fAd K ("DozeError", some "__init__")) := by
  unfold exB at h
  simp only [Bool.and_eq_true] at h
  obtain ⟨h1, h2, h3, h4, h5, h6, h7, h8, h9, h10, h11⟩ := h
  refine ⟨clsB_ok h1, He.eqO_ok h2, He.eqO_ok h3, He.eqO_ok h4, He.eqO_ok h5, He.eqO_ok h6, of_decide_eq_true h7, h8, of_decide_eq_true h9, of_decide_eq_true h10, h11, ?_⟩
  obtain ⟨oc, od, dV, kV, doc, pm, an, cdv, ct, osl, rfl, lk, hcd, hD, _⟩ := F.ex
  rcases hD with ⟨_, rfl⟩ | ⟨e, _⟩
  · exact ⟨oc, od, kV, doc, pm, an, cdv, ct, osl, p1, p2, q1, q2, q3, q4, lk, hcd⟩
  · exact absurd rfl e
/-! ### the Hook -/
open He in
def obsX (fa : List Fa) (fn : List DefD) (xs cs : List Str) (K : Frag) : AlD := (decide (cs.map (ga K)).Nodup && ((xs.all fun x => exB K x) && ((fa.all fun f => f.ok K) && fn.all fun d => d.ok K)), fn.map fun d => fnW K d.at_)
open He in
def SaysX (fa : List Fa) (fn : List DefD) (xs cs : List Str) (K : Frag) : Prop := obsX fa fn xs cs K = valD fn
open He in
def obsXG (n : Nat) (fa : List Fa) (fn : List DefD) (xs cs : List Str) (g : Addr → Option Obj) : AlD := obsX fa fn xs cs (frG g (asD g n))
open He in
def hookX (n : Nat) (fa : List Fa) (fn : List DefD) (xs cs : List Str) : PySem.W.Hook where
  α := AlD
  obs := fun s => obsXG n fa fn xs cs s.heap.get?
  val := fun _ => valD fn
  says := fun _ h => ∃ K : Frag, K.In h ∧ SaysX fa fn xs cs K
  of := fun _ _ e => ⟨_, frG_in, e⟩
  keeps := fun _ _ _ ⟨K, hK, c⟩ k => ⟨K, PySem.W.Frag.In.keeps hK k, c⟩
open He in
theorem obsXG_eq {n : Nat} {fa : List Fa} {fn : List DefD} {xs cs : List Str} {g : Addr → Option Obj} {s : Shared} (h : ∀ a, g a = s.heap.get? a) : obsXG n fa fn xs cs g = (hookX n fa fn xs cs).obs s := by
  have e : g = s.heap.get? := funext h
  rw [e] <;> rfl
section
open He
variable {fa : List Fa} {fn : List DefD} {xs cs : List Str} {K : Frag}
theorem SaysX.one (c : SaysX fa fn xs cs K) : (decide (cs.map (ga K)).Nodup && ((xs.all fun x => exB K x) && ((fa.all fun f => f.ok K) && fn.all fun d => d.ok K))) = true := congrArg (fun z : AlD => z.1) c
theorem SaysX.says (c : SaysX fa fn xs cs K) : SaysD fa fn K := by
  have c1 := (ba (ba c.one).2).2
  have e : fn.map (fun d => fnW K d.at_) = fn.map DefD.val := congrArg (fun z : AlD => z.2) c
  unfold SaysD obsD valD
  rw [c1, e]
theorem SaysX.exc (c : SaysX fa fn xs cs K) (i : Nat) {x : Str} (h : xs[i]? = some x := by rfl) : exB K x = true := by
  have c1 := (ba (ba c.one).2).1
  exact List.all_eq_true.mp c1 x (List.mem_of_getElem? h)
theorem SaysX.unlike (c : SaysX fa fn xs cs K) : (cs.map (ga K)).Nodup := of_decide_eq_true (ba c.one).1
end
end DozX
end PySem
namespace Doz
open PySem L2
/-! ### the law's end -/
theorem walk_ofP {l : PySem.W.OpenLaw} {n k : Nat} {q : Program} {loose : List Str} {XP : (Str → Option Value) → Heap → Prop} {YP : World → Heap → Prop} {d : DefRec} {x : Str} {m : PySem.W.Frag → MF} {Gd : PySem.W.Frag → Prop}
    (hn : l.most = some n) (hn2 : n ≤ sizeLine) (hdf : d.params.defaults = []) (hr : Room k callerA)
    (F : ∀ (w : World) (mg : Str → Option Value) (fa : Addr) (h : Heap), YP w h → h.Ns mainGlobals mg → mg d.name = some (.ref fa) →
      ∃ (K : PySem.W.Frag) (fd : FuncData), K.In h ∧ Gd K ∧ (∀ (s : Shared) (u : Value), BindsTo s fd ⟨[u], []⟩ [(x, u)]) ∧ ∀ base : Heap, K.In base → base.Ns mainGlobals mg → FnOk l.prog w K mg base (L2.CX l.prog w) k fa fd [x] (spM K 1 (m K)))
    (law : ∀ K, Gd K → ∀ ns : List Int, ns.length ≤ n → ∃ μ, m K [.lst (ns.map D.int)] { cells := [] } = .ok (.bl true) μ) :
    PySem.W.WalkO q loose XP YP l.row.toRowW d [] (fun f vs => PySem.call f vs) := by
  refine Att.attach_call hn hdf fun w s₀ s₁ mg mb fa o pm cd doc a vs ns G Y ho hd hcd hmg hobj hints hlen hg => ?_
  obtain ⟨K, fd, KX, gd, hb, hF⟩ := F w mg fa _ Y G.T.g hmg
  refine law_call KX G.T.g G.T.b G.T.builtins G.T.nolimit hg hobj hints (Nat.le_trans hlen hn2) hr hF hb (fun H hO hS => ?_) fun H e s' c => ?_
  · obtain ⟨μ, e⟩ := law K gd ns hlen
    refine ⟨[], { cells := [] }, [.lst (ns.map D.int)], rfl, ⟨rfl, List.nodup_nil, fun n a c h => by simp at h, fun n h => by cases h⟩, .cons ?_ .nil, ?_⟩
    · have ds : ∀ ns : List Int, DVs K [] H (ns.map D.int) (ns.map V.int) := fun ns => by
        induction ns with
        | nil => exact .nil
        | cons i r ih => exact .cons dv_int ih
      simp only [DV]
      refine ⟨a, ns.map V.int, rfl, ?_, ds ns⟩
      rcases hS with (h | h) | ⟨ob, its, m', h1, h2, h3, h4, h5, h6⟩
      · rcases hO a with z | ⟨o', xs', z⟩
        · rw [h] at z; cases z
        · rw [h] at z; cases z
      · exact .inl h
      · have e2 : some ob = some _ := (KX a ob h1).symm.trans hobj
        cases e2
        have h4' : Data.seq vs.toArray 0 = Data.seq its m' := h4
        cases h4'
        exact .inr ⟨vs, 0, h1, by simpa using h5, by simpa using h6⟩
    · rw [e]
      exact fun ρ' H' b p f rel dv => bl_ok dv
  · obtain ⟨_, _, _, _, _, _, _, _, _, _, _, _, z⟩ := c
    exact z.elim
end Doz
end
section
/-! Doz14: chains of comparisons, several targets, fields += .., reversed, enumerate. -/
namespace Doz
open PySem L2
/-! ### a op b op' c -/
def mchain (c c' : D → D → Mem → Res Bool) (a b z : ME) : MX Bool := bindM a fun x => bindM b fun y => fun δ μ => (c x y μ).bind fun k μ1 => if k = true then (z δ μ1).bind fun w μ2 => c' y w μ2 else .ok false μ1
section
variable {X : Cx} {hx : Option HX} {W : WX} {a b c : Expr} {ma mb mc : ME} {pos : Pos}
theorem rt_chain {op op' : CmpOp} {r r' : R2} {f f' : D → D → Mem → Res Bool} (ho : OpR X (compareOp op) r) (om : CmpM X.K r f) (ho' : OpR X (compareOp op') r') (om' : CmpM X.K r' f') (ha : RE X hx W a ma) (hb : RE X hx W b mb) (hc : RE X hx W c mc)
    (hm : lastMarks [op, op'] [b, c] = false := by with_unfolding_all rfl) : RT X hx W (.Compare a [op, op'] [b, c] pos) (mchain f f' ma mb mc) := by
  obtain ⟨ta, pa, ra⟩ := ha.ex
  obtain ⟨tb, pb, rb⟩ := hb.ex
  obtain ⟨tc, pc, rc⟩ := hc.ex
  refine ⟨⟨_, pt_chain ho ho' pa pb pc hm, ?_⟩⟩
  refine Ref.two (k := fun x y σ H Q => r x y H fun z H3 => ∃ k, z = .bl k ∧ (if k = true then tc σ H3 fun w' H4 => r' y w' H4 fun x H' => ∃ k, x = V.bl k ∧ Q k H' else ∃ k, V.bl false = V.bl k ∧ Q k H3)) stay_DV ra rb fun d e ρ μ δ σ H x y Q rel env dx dy ok => ?_
  refine om d e ρ μ H x y _ _ rel dx dy (Okr.bind ok fun k μ1 ρ1 H1 v p1 f1 rel1 hv ok1 => ?_)
  have hv' : v = V.bl k := hv
  refine ⟨k, hv', ?_⟩
  cases k with
  | false => exact iteF ⟨false, rfl, Okr.now (b := false) ok1 rel1 rfl⟩
  | true =>
    refine iteT (rc ρ1 μ1 δ σ H1 _ rel1 (env.mono p1 f1) (Okr.bind ok1 fun w μ2 ρ2 H2 wv p2 f2 rel2 dw ok2 => ?_))
    exact om' e w ρ2 μ2 H2 y wv _ _ rel2 ((dy.mono p1 f1).mono p2 f2) dw (okr_tt ok2)
end
/-! ### t1 = t2 = e, t1 = t2 = t3 = e -/
def gthen (g1 g2 : MG) : MG := fun d δ μ => match g1 d δ μ with
  | .ok δ1 μ1 => match g2 d δ1 μ1 with
    | .ok δ2 μ2 => .ok δ2 μ2
    | _ => .bad
  | _ => .bad
theorem RefG.then_ {K : PySem.W.Frag} {hx : Option HX} {W : WX} {g1 g2 : TG} {m1 m2 : MG} (h1 : RefG K hx W g1 m1) (h2 : RefG K hx W g2 m2) : RefG K hx W (fun v σ H Q => g1 v σ H fun σ' H' => g2 v σ' H' Q) (gthen m1 m2) := by
  intro ρ μ δ σ H d v Q rel env dv ok
  unfold gthen at ok
  refine h1 ρ μ δ σ H d v _ rel env dv ?_
  cases e : m1 d δ μ with
  | err C w μ1 => rw [e] at ok; exact ok.elim
  | bad => rw [e] at ok; exact ok.elim
  | ok δ1 μ1 =>
    rw [e] at ok
    intro ρ1 H1 σ1 p1 f1 rel1 env1
    refine h2 ρ1 μ1 δ1 σ1 H1 d v Q rel1 env1 (dv.mono p1 f1) ?_
    dsimp only at ok
    cases e2 : m2 d δ1 μ1 with
    | err C w μ2 => rw [e2] at ok; exact ok.elim
    | bad => rw [e2] at ok; exact ok.elim
    | ok δ2 μ2 =>
      rw [e2] at ok
      exact fun ρ2 H2 σ2 p2 f2 => ok ρ2 H2 σ2 (p1.trans p2) (f1.trans f2)
section
variable {X : Cx} {hx : Option HX} {W : WX} {e t1 t2 t3 : Expr} {m : ME} {g1 g2 g3 : MG} {pos : Pos}
theorem rs_asg2 (he : RE X hx W e m) (h1 : RG X hx W t1 g1) (h2 : RG X hx W t2 g2) (ha : (assignEach [t1, t2] X.env).map (·.2) = [assign t1 X.env, assign t2 X.env] := by rfl) (hw : swappedStores [t1, t2] e X.env = pure none := by rfl) :
    RS X hx W (.Assign [t1, t2] e pos) (masg m (gthen g1 g2)) := by
  obtain ⟨t, p, r⟩ := he.ex
  obtain ⟨u1, p1, r1⟩ := h1.ex
  obtain ⟨u2, p2, r2⟩ := h2.ex
  exact ⟨⟨_, ps_asg2 p p1 p2 ha hw, fun ρ μ δ σ H Dn rel env ok => r ρ μ δ σ H _ rel env (OkS.ofE env ok fun d μ1 ρ1 H1 v pr fz rel1 dv ok1 => (r1.then_ r2) ρ1 μ1 δ σ H1 d v Dn.nx rel1 (env.mono pr fz) dv (okg_of (env.mono pr fz) ok1))⟩⟩
theorem rs_asg3 (he : RE X hx W e m) (h1 : RG X hx W t1 g1) (h2 : RG X hx W t2 g2) (h3 : RG X hx W t3 g3) (ha : (assignEach [t1, t2, t3] X.env).map (·.2) = [assign t1 X.env, assign t2 X.env, assign t3 X.env] := by rfl) (hw : swappedStores [t1, t2, t3] e X.env = pure none := by rfl) :
    RS X hx W (.Assign [t1, t2, t3] e pos) (masg m (gthen g1 (gthen g2 g3))) := by
  obtain ⟨t, p, r⟩ := he.ex
  obtain ⟨u1, p1, r1⟩ := h1.ex
  obtain ⟨u2, p2, r2⟩ := h2.ex
  obtain ⟨u3, p3, r3⟩ := h3.ex
  exact ⟨⟨_, ps_asg3 p p1 p2 p3 ha hw, fun ρ μ δ σ H Dn rel env ok => r ρ μ δ σ H _ rel env (OkS.ofE env ok fun d μ1 ρ1 H1 v pr fz rel1 dv ok1 => (r1.then_ (r2.then_ r3)) ρ1 μ1 δ σ H1 d v Dn.nx rel1 (env.mono pr fz) dv (okg_of (env.mono pr fz) ok1))⟩⟩
end
/-! ### any text at all, where the run never comes -/
theorem rs_never {X : Cx} {hx : Option HX} {W : WX} {st : Stmt} : RS X hx W st (fun _ _ => .bad) := ⟨⟨fun _ _ _ => False, ⟨fun _ _ _ _ _ _ h => h.elim⟩, fun _ _ _ _ _ _ _ _ ok => ok⟩⟩
theorem rss_never {X : Cx} {hx : Option HX} {W : WX} {st : List Stmt} : RSs X hx W st (fun _ _ => .bad) := ⟨⟨fun _ _ _ => False, ⟨fun _ _ _ _ _ _ h => h.elim⟩, fun _ _ _ _ _ _ _ _ ok => ok⟩⟩
/-! ### reversed(..) -/
def fRev (d : D) (μ : Mem) : Res Its0 := match d with
  | .tup ds => .ok (ds.reverse, fun _ => true) μ
  | .lst ds => .ok (ds.reverse, fun _ => true) μ
  | d => match lstOf μ d with
    | some ds => .ok (ds.reverse, lstIs d ds) μ
    | none => .bad
def mrev (m : ME) : MX Its0 := bindM m fun d => fun _ μ => fRev d μ
theorem rev_get {α : Type} {l : List α} {i : Nat} {x : α} (h : l.reverse[i]? = some x) : i < l.length ∧ l[l.length - 1 - i]? = some x := by
  have hi : i < l.length := by simpa using (List.getElem?_eq_some_iff.mp h).1
  rw [List.getElem?_reverse hi] at h
  exact ⟨hi, h⟩
section
variable {X : Cx} {hx : Option HX} {W : WX} {tg e : Expr} {m : ME}
theorem itr_rev {K : PySem.W.Frag} {ρ0 : List Addr} {H0 : Hp} {d : D} {a : Addr} {ds : List D} {g : Mem → Bool} (dv : DV K ρ0 H0 d (.ref a)) (hg : ∀ μ, g μ = true → lstOf μ d = some ds) : ItR K ρ0 H0 (ds.reverse, g) (Itv K a ds.length) := by
  intro ρ μ H i p f rel gd
  obtain ⟨b, vs, e1, e2, e3⟩ := lstOf_ok rel (dv.mono p f) (hg μ gd)
  cases e1
  refine ⟨fun d hd => ?_, fun hi => ?_⟩
  · obtain ⟨hi, hd⟩ := rev_get hd
    obtain ⟨v, hv, dv'⟩ := e3.get hd
    refine ⟨⟨hi, vs, v, rd_sq e2, hv⟩, fun x H' y => ?_⟩
    obtain ⟨rfl, y⟩ := y
    have : x = v := Option.some.inj ((y vs (rd_sq e2)).symm.trans hv)
    subst this
    exact ⟨Fz.refl _, rel, dv'⟩
  · show ds.length ≤ i
    rw [hi]; simp
theorem itr_revT {K : PySem.W.Frag} {ρ0 : List Addr} {H0 : Hp} {a : Addr} {ds : List D} {g : Mem → Bool} (dv : DV K ρ0 H0 (.tup ds) (.ref a)) : ItR K ρ0 H0 (ds.reverse, g) (_root_.RT.ItvT K a ds.length) := by
  intro ρ μ H i p f rel gd
  obtain ⟨b, vs, e1, e2, e3⟩ := tup_ok (dv.mono p f)
  cases e1
  refine ⟨fun d hd => ?_, fun hi => ?_⟩
  · obtain ⟨hi, hd⟩ := rev_get hd
    obtain ⟨v, hv, dv'⟩ := e3.get hd
    refine ⟨⟨hi, vs, v, e2.sq, hv⟩, fun x H' y => ?_⟩
    obtain ⟨rfl, y⟩ := y
    have : x = v := Option.some.inj ((y vs e2.sq).symm.trans hv)
    subst this
    exact ⟨Fz.refl _, rel, dv'⟩
  · show ds.length ≤ i
    rw [hi]; simp
theorem ri_rev {p pos : Pos} (hm : X.mg "reversed" = none) (he : RE X hx W e m) (hg : Gl X "reversed" := by rfl) (hs : starEach [e] X.env = (false, eval e X.env) :: starEach [] X.env := by rfl) : RI X hx W tg (.Call (.Name "reversed" p) [e] [] pos) (mrev m) := by
  obtain ⟨t, pt, r⟩ := he.ex
  refine ⟨⟨_, _root_.RT.pi_revA hg hm pt hs, fun ρ0 μ0 δ σ H0 Q rel0 env0 ok0 => r ρ0 μ0 δ σ H0 _ rel0 env0 (Okr.bind ok0 fun d μ ρ H v pr fz rel dv ok => ?_)⟩⟩
  unfold fRev at ok
  dsimp only at ok
  split at ok
  · rename_i ds
    obtain ⟨a, vs, rfl, e2, e3⟩ := tup_ok dv
    exact ⟨a, vs, rfl, .inr ⟨e2.sq, by rw [← e3.length]; exact ok ρ H _ (Pre.refl _) (Fz.refl _) rel (itr_revT dv)⟩⟩
  · rename_i ds
    obtain ⟨a, vs, rfl, e2, e3⟩ := lstOf_ok rel dv (ds := ds) rfl
    exact ⟨a, vs, rfl, .inl ⟨rd_sq e2, by rw [← e3.length]; exact ok ρ H _ (Pre.refl _) (Fz.refl _) rel (itr_rev dv fun _ _ => rfl)⟩⟩
  · split at ok
    · rename_i ds hd
      obtain ⟨a, vs, rfl, e2, e3⟩ := lstOf_ok rel dv hd
      exact ⟨a, vs, rfl, .inl ⟨rd_sq e2, by rw [← e3.length]; exact ok ρ H _ (Pre.refl _) (Fz.refl _) rel (itr_rev dv fun _ h => lstIs_eq h)⟩⟩
    · exact ok.elim
end
/-! ### enumerate(..) -/
def numbered (ds : List D) : List D := (ds.zipIdx).map fun p => D.tup [.int (p.2 : Nat), p.1]
def fEnum (ds : List D) (μ : Mem) : Res Its0 := match ds with
  | [d] => match lstOf μ d with
    | some xs => .ok (numbered xs, lstIs d xs) μ
    | none => .bad
  | _ => .bad
theorem num_get {ds : List D} {i : Nat} {d : D} (h : (numbered ds)[i]? = some d) : ∃ x, ds[i]? = some x ∧ d = .tup [.int (i : Nat), x] := by
  unfold numbered at h
  rw [List.getElem?_map, List.getElem?_zipIdx] at h
  cases e : ds[i]? with
  | none => rw [e] at h; cases h
  | some x =>
    rw [e] at h
    exact ⟨x, rfl, by simpa using h.symm⟩
theorem itr_enum {K : PySem.W.Frag} {ρ0 : List Addr} {H0 : Hp} {d : D} {a : Addr} {ds : List D} {g : Mem → Bool} (dv : DV K ρ0 H0 d (.ref a)) (hg : ∀ μ, g μ = true → lstOf μ d = some ds) : ItR K ρ0 H0 (numbered ds, g) (Ite K a) := by
  intro ρ μ H i p f rel gd
  obtain ⟨b, vs, e1, e2, e3⟩ := lstOf_ok rel (dv.mono p f) (hg μ gd)
  cases e1
  refine ⟨fun d hd => ?_, fun hi => ?_⟩
  · obtain ⟨x, hx, rfl⟩ := num_get hd
    obtain ⟨v, hv, dv'⟩ := e3.get hx
    refine ⟨⟨vs, v, rd_sq e2, hv⟩, fun x' H' y => ?_⟩
    obtain ⟨T, x1, rfl, hT, rfl, y⟩ := y
    have : x1 = v := Option.some.inj ((y vs (rd_sq e2)).symm.trans hv)
    subst this
    refine ⟨Fz.new hT, rel.alloc hT, ?_⟩
    simp only [DV]
    exact ⟨T, _, rfl, .inl upd_same, .cons dv_int (.cons (dv'.mono0 (Pre.refl _) (Fz0.new hT)) .nil)⟩
  · exact ⟨vs, rd_sq e2, by rw [← e3.length, hi]; simp [numbered]⟩
theorem ri_enum {X : Cx} {hx : Option HX} {W : WX} {e : Expr} {ma : MX (List D)} {p pos tpos : Pos} {elts : List Expr} {kk : Nat} (hm : X.mg "enumerate" = none) (ha : RA X hx W [e] ma) (hg : Gl X "enumerate" := by rfl) (hs : starEach [e] X.env = [(false, eval e X.env)] := by rfl) :
    RI X hx W (.Tuple elts kk tpos) (.Call (.Name "enumerate" p) [e] [] pos) (mcall fEnum ma) := by
  obtain ⟨t, pt, rt⟩ := ha.ex
  refine ⟨⟨_, pi_enum hg hm pt hs, fun ρ0 μ0 δ σ H0 Q rel0 env0 ok0 => rt ρ0 μ0 δ σ H0 _ rel0 env0 (Okr.bind ok0 fun ds μ ρ H vs pr fz rel dv ok => ?_)⟩⟩
  unfold fEnum at ok
  dsimp only at ok
  split at ok
  · obtain ⟨v, rfl, h1⟩ := dv.one
    split at ok
    · rename_i xs hd
      obtain ⟨a, ws, rfl, e2, e3⟩ := lstOf_ok rel h1 hd
      exact ⟨a, ws, rfl, rd_sq e2, ok ρ H _ (Pre.refl _) (Fz.refl _) rel (itr_enum h1 fun _ h => lstIs_eq h)⟩
    · exact ok.elim
  · exact ok.elim
end Doz
end
section
/-! Doz15: list(reversed(..)). -/
namespace RT
open PySem PySem.Spec PyProof.Rows L2 PySem.W
section
variable {prog : Program} {w : World} {A : Around} {E : Value → Shared → Prop} {s : Shared}
theorem extend_rev {R : Result → Shared → Prop} {it l : Addr} {items : Array Value} (hh : A.handled = none) (hit : s.heap.IsRevIter it l ((items.size : Int) - 1)) (hl : s.heap.IsList l items) (hne : l ≠ it) (hn : items.size ≤ sizeLine) (S : Addr) (res : Value) (c₀ : Nat)
    (hSi : S ≠ it) (hSl : S ≠ l) (hS : s.heap.get? S = some { cls := .type "list", data := .seq #[] c₀ })
    (hR : ∀ h' tk acc' c', (∀ b o, b ≠ S → b ≠ it → s.heap.get? b = some o → h'.get? b = some o) → h'.get? S = some { cls := .type "list", dict := none, data := .seq acc' c', slots := #[] } →
      ItemsOf (fun i v => items[items.size - 1 - i]? = some v) acc' items.size → R (.ok (.ret res)) { s with heap := h', toks := tk }) :
    wpAny (model prog w) A.in1 (Builtin.List.listExtendWith (.ref S) (.ref it) res)
      (fun fin s' => match fin with | .done f => R (.ok f) s' | .again c' => c'.quiet = true ∧ codeAny (model prog w) A c' R s') (fun e s' => R (.error e) s') s := by
  have W := (Walks.listRev (prog := prog) (w := w) (A := A.in1) hh it l hne items).toS
  have hSf : S ∉ [it, l] := by simp only [List.mem_cons, List.not_mem_nil, or_false, not_or]; exact ⟨hSi, hSl⟩
  have hT : s.TypeIs (.ref it) "list_reverseiterator" := hit.typeIs
  have h1 : Builtin.List.listSameRef (.ref S) (.ref it) = false := by simp [Builtin.List.listSameRef, hSi]
  unfold Builtin.List.listExtendWith
  refine wpAny_bind (wpAny_typeOf hT ?_)
  rw [if_neg (by rw [h1]; decide)]
  refine wpAny_bind (wpAny_pyIter_revIter hit ?_)
  refine wpAny_bind (wpAny_holding ?_)
  unfold Builtin.List.listLengthHint
  refine wpAny_bind (wpAny_specialOf hT nolen_lri ?_)
  show wpAny _ A.in1 (specialOf (Value.ref it) (Str.ofString "__length_hint__") >>= _) _ _ _
  refine wpAny_bind (wpAny_specialOf hT hint_lri ?_)
  generalize hid : ("list_reverseiterator.__length_hint__" : String) = id0
  wp_delta
  rw [show splitId id0 = some ("list_reverseiterator", "__length_hint__") from by subst hid; decide +kernel]
  subst hid
  refine wpAny_bind (wpAny_isInstance (b := true) hT (by rw [isSubtype_type]; kernel_rfl) ?_)
  refine wpAny_pure ?_
  rw [if_neg (by decide)]
  have e0 : ((items.size : Nat) : Int) - 1 - ((0 : Nat) : Int) = (items.size : Int) - 1 := by omega
  refine wpAny_pure ⟨plainId_quiet F.plain_extend_loop _, codeAny_extend_loopS W hn _ hSf _ items.size 0 _ _ _ rfl (Nat.zero_le _) ⟨Nat.zero_le _, by rw [e0]; exact hit, hl⟩ hS (ItemsOf.nil _) fun s' acc' c' hm hS' hacc => ?_⟩
  rw [Moved.eq_with hm]
  refine hR s'.heap s'.toks acc' c' (fun b o hb hb2 e => hm.heap b o (fun hmem => ?_) e) hS' hacc
  rcases List.mem_cons.mp hmem with e' | hmem
  · exact hb e'
  · exact hb2 (List.mem_singleton.mp hmem)
theorem list_init_rev {R : Result → Shared → Prop} {it l : Addr} {items : Array Value} (hh : A.handled = none) (hit : s.heap.IsRevIter it l ((items.size : Int) - 1)) (hl : s.heap.IsList l items) (hne : l ≠ it) (hn : items.size ≤ sizeLine) (S : Addr)
    (hSi : S ≠ it) (hSl : S ≠ l) (hS : s.heap.get? S = some { cls := .type "list", data := .seq #[] })
    (hR : ∀ h' tk acc' c', (∀ b o, b ≠ S → b ≠ it → s.heap.get? b = some o → h'.get? b = some o) → h'.get? S = some { cls := .type "list", dict := none, data := .seq acc' c', slots := #[] } →
      ItemsOf (fun i v => items[items.size - 1 - i]? = some v) acc' items.size → R (.ok (.ret .none)) { s with heap := h', toks := tk }) :
    wpAny (model prog w) A.in1 (Builtin.«list.__init__» ⟨[.ref S, .ref it], []⟩)
      (fun fin s' => match fin with | .done f => R (.ok f) s' | .again c' => c'.quiet = true ∧ codeAny (model prog w) A c' R s') (fun e s' => R (.error e) s') s := by
  show wpAny _ _ (do let old ← Builtin.List.listItems (.ref S); Builtin.List.listUpdate (.ref S) (fun _ => #[]); letGo old.toList.reverse; Builtin.List.listExtendWith (.ref S) (.ref it) .none) _ _ s
  refine wpAny_bind ?_
  unfold Builtin.List.listItems
  refine wpAny_bind (wpAny_seqItems hS rfl (wpAny_pure ?_))
  show wpAny _ _ (updateSeq S (fun _ => #[]) >>= fun _ => letGo (#[] : Array Value).toList.reverse >>= fun _ => Builtin.List.listExtendWith (.ref S) (.ref it) .none) _ _ s
  refine wpAny_bind (wpAny_updateSeq hS rfl ?_)
  have hS₂ := Heap.get?_update_self (Obj.mapSeq (fun _ => (#[] : Array Value))) hS rfl
  have oth : ∀ b o, b ≠ S → s.heap.get? b = some o → (s.heap.update S (Obj.mapSeq (fun _ => (#[] : Array Value)))).get? b = some o :=
    fun b o hb e => (Heap.get?_update_other _ _ (Ne.symm hb)).trans e
  refine wpAny_bind (wpAny_letGo ?_)
  refine extend_rev hh (hit.at fun o e => oth it o (Ne.symm hSi) e) (hl.at fun o e => oth l o (Ne.symm hSl) e) hne hn S .none _ hSi hSl hS₂ fun h' tk acc' c' hk hS' hacc => ?_
  exact hR h' tk acc' c' (fun b o hb hb2 e => hk b o hb hb2 (oth b o hb e)) hS' hacc
theorem call_list_rev {it l : Addr} {items : Array Value} {Q : Value → Shared → Prop} (hh : A.handled = none) (hit : s.heap.IsRevIter it l ((items.size : Int) - 1)) (hl : s.heap.IsList l items) (hne : l ≠ it) (hn : items.size ≤ sizeLine)
    (hQ : ∀ h' tk acc' c', (∀ b o, b ≠ it → s.heap.get? b = some o → h'.get? b = some o) →
      h'.get? s.heap.objs.size = some { cls := .type "list", dict := none, data := .seq acc' c', slots := #[] } → ItemsOf (fun i v => items[items.size - 1 - i]? = some v) acc' items.size → Q (.ref s.heap.objs.size) { s with heap := h', toks := tk }) :
    wpAny (model prog w) A (call (.type "list") [.ref it]) Q E s := by
  obtain ⟨oi, hoi, _⟩ := id hit
  obtain ⟨ol, hol, _⟩ := id hl
  have hSi : s.heap.objs.size ≠ it := Nat.ne_of_gt (Heap.lt_size hoi)
  have hSl : s.heap.objs.size ≠ l := Nat.ne_of_gt (Heap.lt_size hol)
  refine callType_codes (Q₁ := fun obj s₁ => obj = .ref s.heap.objs.size ∧ s₁ = { s with heap := s.heap.push { cls := .type "list", data := .seq #[] } }) F.called_list (F.typeCall_list_1 _) F.entry_list_init
    (code_list_new _ ⟨rfl, rfl⟩) fun obj s₁ h₁ => ?_
  obtain ⟨rfl, rfl⟩ := h₁
  have hS : (s.heap.push { cls := .type "list", data := .seq #[] }).get? s.heap.objs.size = some { cls := .type "list", data := .seq #[] } := Heap.get?_push_size _ rfl
  refine ⟨⟨_, hS, rfl⟩, F.args_list_init_2 _ _, list_init_rev (A := A.in1) hh (hit.at fun o e => Heap.get?_push_of_some _ e) (hl.push _) hne hn _ hSi hSl hS fun h' tk acc' c' hk hS' hacc => ?_⟩
  exact ⟨rfl, hQ h' tk acc' c' (fun b o hb e => hk b o (Nat.ne_of_lt (Heap.lt_size e)) hb (Heap.get?_push_of_some _ e)) hS' hacc⟩
end
section
variable {X : Cx}
def tLstRev (K : PySem.W.Frag) (te : TE) : TE := fun σ H Q => te σ H fun v H1 => ∃ (a : Addr) (xs : List V), v = .ref a ∧ SqL K H1 a xs ∧ ∀ q, H1 q = none → Q (.ref q) (upd H1 q (.lst xs.reverse))
theorem pe_lstRev {e : Expr} {te : TE} {p p2 pos pos2 : Pos} (hc : X.calm = true) (hg : Gl X "list") (hm : X.mg "list" = none) (hg2 : Gl X "reversed") (hm2 : X.mg "reversed" = none) (he : PE X e te)
    (hs : starEach [e] X.env = (false, eval e X.env) :: starEach [] X.env := by rfl)
    (hs2 : starEach [.Call (.Name "reversed" p2) [e] [] pos2] X.env = (false, eval (.Call (.Name "reversed" p2) [e] [] pos2) X.env) :: starEach [] X.env := by rfl) :
    PE X (.Call (.Name "list" p) [.Call (.Name "reversed" p2) [e] [] pos2] [] pos) (tLstRev X.K te) := by
  refine ⟨fun pins s σ H Q I h => ?_⟩
  refine Call_ (ld_blt I hg hm boot_list (PyProof.Rows.callWith_type1 (args_cons (Call_ (ld_blt I hg2 hm2 PyProof.Rows.boot_reversed (PyProof.Rows.callWith_type1 (args_cons (thn (he.run pins s σ H _ I h) fun u s1 ⟨v, H1, I1, r1, q1⟩ => args_nil ?_) hs) hs rfl))) hs2) hs2 rfl))
  obtain ⟨a, xs, ev, hq, q⟩ := q1
  subst ev
  obtain rfl : u = Value.ref a := r1
  obtain ⟨its, rv, p', hz⟩ := I1.list hq
  refine call_reversed_list p'.isList (args_nil ?_)
  have k0 : ∀ b o, s1.heap.get? b = some o → (s1.heap.push (revObj a ((its.toArray.size : Int) - 1))).get? b = some o := fun b o e => Heap.get?_push_of_some _ e
  have I2 : Inv X pins σ H1 { s1 with heap := s1.heap.push (revObj a ((its.toArray.size : Int) - 1)) } := I1.kept (t' := s1.toks) k0
  obtain ⟨f0, f1, f2, f3, f4, f5⟩ := I1.fpOk (H' := H1) (b := s1.heap.objs.size) (Nat.le_refl _) (I1.hok.fresh (Nat.le_refl _))
  have hl := p'.isList
  obtain ⟨ol, hol, _⟩ := id hl
  have hne : a ≠ s1.heap.objs.size := Nat.ne_of_lt (Heap.lt_size hol)
  have hn : its.toArray.size ≤ sizeLine := by rw [List.size_toArray, ← rv.length]; exact hz
  refine call_list_rev (s := { s1 with heap := s1.heap.push (revObj a ((its.toArray.size : Int) - 1)) }) (I1.ok.hd hc) ⟨_, Heap.get?_push_size _ rfl, rfl, rfl⟩ (hl.push _) hne hn fun h' tk acc c' hk hS hi => ?_
  have I3 : Inv X pins σ H1 { s1 with heap := h', toks := tk } := I2.turned (t' := tk) (fun b o hb e => hk b o hb e) f0 f1 f3 f4 f5
  have hN : (s1.heap.push (revObj a ((its.toArray.size : Int) - 1))).objs.size = s1.heap.objs.size + 1 := Heap.size_push ..
  have nq : H1 (s1.heap.objs.size + 1) = none := I1.hok.fresh (Nat.le_succ _)
  rw [hN] at hS ⊢
  have I4 : Inv X pins σ (upd H1 (s1.heap.objs.size + 1) (.lst xs.reverse)) { s1 with heap := h', toks := tk } :=
    I3.take (h' := h') (t' := tk) (fun b ob _ e => e) (I1.fpOk (Nat.le_succ _) nq) ⟨by rw [List.length_reverse]; exact hz, acc.toList, c', vals_rev rv hi, by rw [Array.toArray_toList]; exact hS⟩
  exact ⟨.ref _, _, I4, rfl, q _ nq⟩
end
end RT
namespace Doz
open PySem L2
def mrevL (m : ME) : MX (List D) := bindM m fun d => fun _ μ => match lstOf μ d with
  | some ds => .ok ds.reverse μ
  | none => .bad
theorem rn_rev {X : Cx} {hx : Option HX} {W : WX} {e : Expr} {m : ME} {p p2 pos pos2 : Pos} (hc : X.calm = true) (hm : X.mg "list" = none) (hm2 : X.mg "reversed" = none) (he : RE X hx W e m) (hg : Gl X "list" := by rfl) (hg2 : Gl X "reversed" := by rfl)
    (hs : starEach [e] X.env = (false, eval e X.env) :: starEach [] X.env := by rfl)
    (hs2 : starEach [.Call (.Name "reversed" p2) [e] [] pos2] X.env = (false, eval (.Call (.Name "reversed" p2) [e] [] pos2) X.env) :: starEach [] X.env := by rfl) :
    RN X hx W (.Call (.Name "list" p) [.Call (.Name "reversed" p2) [e] [] pos2] [] pos) (mrevL m) := by
  obtain ⟨t, pt, r⟩ := he.ex
  refine ⟨⟨_, _root_.RT.pe_lstRev hc hg hm hg2 hm2 pt hs hs2, fun ρ0 μ0 δ σ H0 Q rel0 env0 ok0 => r ρ0 μ0 δ σ H0 _ rel0 env0 (OkN.bind ok0 fun d μ ρ H v pr fz rel dv ok => ?_)⟩⟩
  dsimp only at ok
  split at ok
  · rename_i ds hd
    obtain ⟨a, vs, rfl, e2, e3⟩ := lstOf_ok rel dv hd
    exact ⟨a, vs, rfl, rd_sq e2, fun q hq => OkN.new rel hq e3.reverse ok⟩
  · exact ok.elim
end Doz
end
section
/-! Doz16: words for printed derivations. -/
namespace Doz
open PySem L2
open PySem.DozX (ExTxt)
def clsB : Stmt → List Stmt
  | .ClassDef (body := b) .. => b
  | _ => []
structure Cl where
  n_Bed : Addr
  n_Hall : Addr
  n_KeyHall : Addr
  n_World : Addr
  n_Book : Addr
  n_Built : Addr
  n_Plain : Addr
  n_Desk : Addr
  n_DozeError : Addr
  n_NoRoom : Addr
  n_Asleep : Addr
  n_Awake : Addr
  n_BadCount : Addr
  n_SameRoom : Addr
  n_TwoNames : Addr
  n_NoKey : Addr
  n_NotHolder : Addr
  n_Ring : Addr
  n_BadPlan : Addr
  n_NoMove : Addr
  n_TooMany : Addr
  n_NoName : Addr
  n_BadClient : Addr
  n_NoRow : Addr
  n_Stopped : Addr
  n_NoBack : Addr
def clOf (K : PySem.W.Frag) : Cl := ⟨He.ga K "Bed", He.ga K "Hall", He.ga K "KeyHall", He.ga K "World", He.ga K "Book", He.ga K "Built", He.ga K "Plain", He.ga K "Desk", He.ga K "DozeError", He.ga K "NoRoom", He.ga K "Asleep", He.ga K "Awake", He.ga K "BadCount", He.ga K "SameRoom", He.ga K "TwoNames", He.ga K "NoKey", He.ga K "NotHolder", He.ga K "Ring", He.ga K "BadPlan", He.ga K "NoMove", He.ga K "TooMany", He.ga K "NoName", He.ga K "BadClient", He.ga K "NoRow", He.ga K "Stopped", He.ga K "NoBack"⟩
def noSt : Stmt := .Pass ⟨0, 0, 0, 0⟩
def meth (s : Stmt) (i : Nat) : Stmt := (clsB s).getD i noSt
theorem look_mem {α : Type} : ∀ {l : List (Addr × α)} {C : Addr} {x : α}, l.lookup C = some x → (C, x) ∈ l
  | [], _, _, h => by simp at h
  | (c, y) :: r, C, x, h => by
    rw [List.lookup_cons] at h
    cases hb : C == c with
    | true =>
      rw [hb] at h
      have e1 : C = c := beq_iff_eq.mp hb
      have e2 : y = x := Option.some.inj h
      rw [e1, e2]
      exact List.mem_cons_self
    | false =>
      rw [hb] at h
      exact List.mem_cons_of_mem _ (look_mem h)
/-- tables of methods -/
theorem mt_nil {X : Cx} {nm : Str} {n : Nat} {ks : List Str} : ∀ p ∈ ([] : List (Addr × MM)), MOk X nm n ks p.1 p.2 := fun _ h => by cases h
theorem mt_cons {X : Cx} {nm : Str} {n : Nat} {ks : List Str} {C : Addr} {mm : MM} {l : List (Addr × MM)} (h : MOk X nm n ks C mm) (t : ∀ p ∈ l, MOk X nm n ks p.1 p.2) : ∀ p ∈ (C, mm) :: l, MOk X nm n ks p.1 p.2 := fun p hp => by
  rcases List.mem_cons.mp hp with e | hp
  · rw [e]; exact h
  · exact t p hp
theorem mt_of {X : Cx} {nm : Str} {n : Nat} {ks : List Str} {l : List (Addr × MM)} (t : ∀ p ∈ l, MOk X nm n ks p.1 p.2) : ∀ C mm, l.lookup C = some mm → MOk X nm n ks C mm := fun C mm h => t (C, mm) (look_mem h)
theorem mok {X : Cx} {nm : Str} {n k j : Nat} {ks : List Str} {C f : Addr} {fd : FuncData} {ps : List Str} {m : MF} {gD : List D → List D → List D} (c : Cls X.K C) (hm : Meth X.K C nm f) (F : FnOk X.prog X.w X.K X.mg X.base (L2.CX X.prog X.w) k f fd ps (spM X.K ps.length m))
    (hr : Room j X.A) (hk : k ≤ j) (hb : Bd X.K fd ps (n + 1) ks gD) : MOk X nm n ks C (fun x ds ez μ => m (gD (x :: ds) ez) μ) := ⟨⟨k, f, fd, ps, m, gD, c, hm, F, hr.mono hk, hb, rfl⟩⟩
/-- tables of exceptions -/
theorem ex_of {K : PySem.W.Frag} {c : Value} {l : List (Addr × Bool)} (t : ∀ p ∈ l, PySem.W.exmOne K (.ref p.1) c = some p.2) : ∀ C b, l.lookup C = some b → PySem.W.exmOne K (.ref C) c = some b := fun C b h => t (C, b) (look_mem h)
theorem et_nil {K : PySem.W.Frag} {c : Value} : ∀ p ∈ ([] : List (Addr × Bool)), PySem.W.exmOne K (.ref p.1) c = some p.2 := fun _ h => by cases h
theorem et_cons {K : PySem.W.Frag} {c : Value} {C : Addr} {b : Bool} {l : List (Addr × Bool)} (h : PySem.W.exmOne K (.ref C) c = some b) (t : ∀ p ∈ l, PySem.W.exmOne K (.ref p.1) c = some p.2) : ∀ p ∈ (C, b) :: l, PySem.W.exmOne K (.ref p.1) c = some p.2 := fun p hp => by
  rcases List.mem_cons.mp hp with e | hp
  · rw [e]; exact h
  · exact t p hp
theorem xt_of {K : PySem.W.Frag} {fI C : Addr} {b : Bool} {l : List (Addr × Bool)} (t : ∀ p ∈ l, ExTxt K p.1 fI) (h : l.lookup C = some b) : ExTxt K C fI := t (C, b) (look_mem h)
theorem xt_nil {K : PySem.W.Frag} {fI : Addr} : ∀ p ∈ ([] : List (Addr × Bool)), ExTxt K p.1 fI := fun _ h => by cases h
theorem xt_cons {K : PySem.W.Frag} {fI C : Addr} {b : Bool} {l : List (Addr × Bool)} (h : ExTxt K C fI) (t : ∀ p ∈ l, ExTxt K p.1 fI) : ∀ p ∈ (C, b) :: l, ExTxt K p.1 fI := fun p hp => by
  rcases List.mem_cons.mp hp with e | hp
  · rw [e]; exact h
  · exact t p hp
theorem na_nil {K : PySem.W.Frag} {f : Str} : ∀ C ∈ ([] : List Addr), NoAttr K C f := fun _ h => by cases h
theorem na_cons {K : PySem.W.Frag} {f : Str} {C : Addr} {l : List Addr} (h : NoAttr K C f) (t : ∀ C ∈ l, NoAttr K C f) : ∀ C' ∈ C :: l, NoAttr K C' f := fun C' hp => by
  rcases List.mem_cons.mp hp with e | hp
  · rw [e]; exact h
  · exact t C' hp
end Doz
end
section
/-! DozA: weakest preconditions of mirrors, run head first by simp. -/
namespace Doz
open PySem
abbrev EP := Addr → D → Mem → Prop
def noE : EP := fun _ _ _ => False
def wR {α : Type} (r : Res α) (Q : α → Mem → Prop) (E : EP) : Prop := match r with
  | .ok a μ => Q a μ
  | .err C w μ => E C w μ
  | .bad => False
def wE {α : Type} (m : MX α) (δ : DEnv) (μ : Mem) (Q : α → Mem → Prop) (E : EP) : Prop := wR (m δ μ) Q E
structure Po where
  nx : DEnv → Mem → Prop
  rt : D → Mem → Prop
  bk : DEnv → Mem → Prop
  ct : DEnv → Mem → Prop
  er : Addr → D → DEnv → Mem → Prop
def wP (r : SRes) (P : Po) : Prop := match r with
  | .nx δ μ => P.nx δ μ
  | .rt d μ => P.rt d μ
  | .bk δ μ => P.bk δ μ
  | .ct δ μ => P.ct δ μ
  | .err C w δ μ => P.er C w δ μ
  | .bad => False
def wS (m : MS) (δ : DEnv) (μ : Mem) (P : Po) : Prop := wP (m δ μ) P
def wG (g : MG) (d : D) (δ : DEnv) (μ : Mem) (Q : DEnv → Mem → Prop) (E : EP) : Prop := wR (g d δ μ) Q E
def wGs (g : MGs) (ds : List D) (δ : DEnv) (μ : Mem) (Q : DEnv → Mem → Prop) : Prop := wR (g ds δ μ) Q noE
/-- what stands in a cell -/
def wC (μ : Mem) (n : Nat) (Q : Cell → Prop) : Prop := match μ.cells[n]? with
  | some c => Q c
  | none => False
theorem wR.imp {α : Type} {r : Res α} {Q Q' : α → Mem → Prop} {E : EP} (h : wR r Q E) (k : ∀ a μ, Q a μ → Q' a μ) : wR r Q' E := by
  cases r with
  | ok a μ => exact k a μ h
  | err C w μ => exact h
  | bad => exact h
theorem wR.imp2 {α : Type} {r : Res α} {Q Q' : α → Mem → Prop} {E E' : EP} (h : wR r Q E) (k : ∀ a μ, Q a μ → Q' a μ) (e : ∀ C w μ, E C w μ → E' C w μ) : wR r Q' E' := by
  cases r with
  | ok a μ => exact k a μ h
  | err C w μ => exact e C w μ h
  | bad => exact h
theorem wR.go {α : Type} {r : Res α} {Q Q' : α → Mem → Prop} {E : EP} (h : wR r Q noE) (k : ∀ a μ, Q a μ → Q' a μ) : wR r Q' E := h.imp2 k fun _ _ _ z => z.elim
theorem wR.of {α : Type} {r : Res α} {Q : α → Mem → Prop} (h : wR r Q noE) : ∃ a μ, r = .ok a μ ∧ Q a μ := by
  cases r with
  | ok a μ => exact ⟨a, μ, rfl, h⟩
  | err C w μ => exact h.elim
  | bad => exact h.elim
theorem wP.imp {r : SRes} {P P' : Po} (h : wP r P) (k1 : ∀ δ μ, P.nx δ μ → P'.nx δ μ) (k2 : ∀ d μ, P.rt d μ → P'.rt d μ) (k3 : ∀ δ μ, P.bk δ μ → P'.bk δ μ) (k4 : ∀ δ μ, P.ct δ μ → P'.ct δ μ) (k5 : ∀ C w δ μ, P.er C w δ μ → P'.er C w δ μ) : wP r P' := by
  cases r with
  | nx δ μ => exact k1 δ μ h
  | rt d μ => exact k2 d μ h
  | bk δ μ => exact k3 δ μ h
  | ct δ μ => exact k4 δ μ h
  | err C w δ μ => exact k5 C w δ μ h
  | bad => exact h
theorem wC_of {μ : Mem} {n : Nat} {c : Cell} (h : μ.cells[n]? = some c) (Q : Cell → Prop) : wC μ n Q = Q c := by unfold wC; rw [h]
section
variable {α β : Type} {m : MX α} {δ : DEnv} {μ : Mem} {E : EP}
theorem wR_ok (a : α) (μ : Mem) (Q : α → Mem → Prop) (E : EP) : wR (.ok a μ) Q E = Q a μ := rfl
theorem wR_err (C : Addr) (w : D) (μ : Mem) (Q : α → Mem → Prop) (E : EP) : wR (.err C w μ) Q E = E C w μ := rfl
theorem wR_bad (Q : α → Mem → Prop) (E : EP) : wR .bad Q E = False := rfl
theorem wR_bind (r : Res α) (k : α → Mem → Res β) (Q : β → Mem → Prop) (E : EP) : wR (r.bind k) Q E = wR r (fun a μ => wR (k a μ) Q E) E := by cases r <;> rfl
theorem wE_bind (m : MX α) (k : α → MX β) (δ : DEnv) (μ : Mem) (Q : β → Mem → Prop) (E : EP) : wE (bindM m k) δ μ Q E = wE m δ μ (fun a μ1 => wE (k a) δ μ1 Q E) E := by
  show wR ((m δ μ).bind _) Q E = _
  rw [wR_bind]; rfl
theorem wR_ite (p : Prop) [Decidable p] (r : Res α) (Q : α → Mem → Prop) (E : EP) : wR (if p then r else .bad) Q E = (p ∧ wR r Q E) := by
  by_cases h : p
  · rw [if_pos h]; simp [h]
  · rw [if_neg h]; simp [h, wR]
theorem wP_ite (p : Prop) [Decidable p] (r : SRes) (P : Po) : wP (if p then r else .bad) P = (p ∧ wP r P) := by
  by_cases h : p
  · rw [if_pos h]; simp [h]
  · rw [if_neg h]; simp [h, wP]
theorem wE_fun (f : DEnv → Mem → Res α) (δ : DEnv) (μ : Mem) (Q : α → Mem → Prop) (E : EP) : wE (fun δ μ => f δ μ) δ μ Q E = wR (f δ μ) Q E := rfl
end
/-! ### expressions -/
section
variable (δ : DEnv) (μ : Mem) (E : EP)
theorem wE_var0 (d : D) (r : DEnv) (Q : D → Mem → Prop) : wE (mvar 0) (some d :: r) μ Q E = Q d μ := rfl
theorem wE_varS (n : Nat) (x : Option D) (r : DEnv) (Q : D → Mem → Prop) : wE (mvar (n + 1)) (x :: r) μ Q E = wE (mvar n) r μ Q E := rfl
theorem wE_C (d : D) (Q : D → Mem → Prop) : wE (mC d) δ μ Q E = Q d μ := rfl
theorem wE_op (f : D → D → Mem → Res D) (a b : ME) (Q : D → Mem → Prop) : wE (mop f a b) δ μ Q E = wE a δ μ (fun x μ1 => wE b δ μ1 (fun y μ2 => wR (f x y μ2) Q E) E) E := by
  unfold mop; rw [wE_bind]; congr; funext x μ1; rw [wE_bind]; rfl
theorem wE_cmp (f : D → D → Mem → Res Bool) (a b : ME) (Q : Bool → Mem → Prop) : wE (mcmp f a b) δ μ Q E = wE a δ μ (fun x μ1 => wE b δ μ1 (fun y μ2 => wR (f x y μ2) Q E) E) E := by
  unfold mcmp; rw [wE_bind]; congr; funext x μ1; rw [wE_bind]; rfl
theorem wE_bl (m : MX Bool) (Q : D → Mem → Prop) : wE (mbl m) δ μ Q E = wE m δ μ (fun b μ1 => Q (.bl b) μ1) E := by unfold mbl; rw [wE_bind]; rfl
def qB (d : D) (Q : Bool → Prop) : Prop := match d with
  | .bl b => Q b
  | _ => False
theorem qB_bl (b : Bool) (Q : Bool → Prop) : qB (.bl b) Q = Q b := rfl
theorem wE_asB (m : ME) (Q : Bool → Mem → Prop) : wE (masB m) δ μ Q E = wE m δ μ (fun d μ1 => qB d fun b => Q b μ1) E := by
  unfold masB; rw [wE_bind]; congr; funext d μ1; cases d <;> rfl
theorem wE_and (a b : MX Bool) (Q : Bool → Mem → Prop) : wE (mand a b) δ μ Q E = wE a δ μ (fun x μ1 => if x = true then wE b δ μ1 Q E else Q false μ1) E := by
  unfold mand; rw [wE_bind]; congr; funext x μ1; cases x <;> rfl
theorem wE_or (a b : MX Bool) (Q : Bool → Mem → Prop) : wE (mor a b) δ μ Q E = wE a δ μ (fun x μ1 => if x = true then Q true μ1 else wE b δ μ1 Q E) E := by
  unfold mor; rw [wE_bind]; congr; funext x μ1; cases x <;> rfl
theorem wE_not (a : MX Bool) (Q : Bool → Mem → Prop) : wE (mnot a) δ μ Q E = wE a δ μ (fun x μ1 => Q (!x) μ1) E := by unfold mnot; rw [wE_bind]; rfl
theorem wE_andV (a b : ME) (Q : D → Mem → Prop) : wE (mandV a b) δ μ Q E = wE a δ μ (fun x μ1 => qB x fun x => if x = true then wE b δ μ1 Q E else Q (.bl false) μ1) E := by
  unfold mandV; rw [wE_bind]; congr; funext x μ1
  cases x with
  | bl x => cases x <;> rfl
  | _ => rfl
theorem wE_orV (a b : ME) (Q : D → Mem → Prop) : wE (morV a b) δ μ Q E = wE a δ μ (fun x μ1 => qB x fun x => if x = true then Q (.bl true) μ1 else wE b δ μ1 Q E) E := by
  unfold morV; rw [wE_bind]; congr; funext x μ1
  cases x with
  | bl x => cases x <;> rfl
  | _ => rfl
theorem wE_notV (a : ME) (Q : D → Mem → Prop) : wE (mnotV a) δ μ Q E = wE a δ μ (fun x μ1 => qB x fun x => Q (.bl (!x)) μ1) E := by
  unfold mnotV; rw [wE_bind]; congr; funext x μ1
  cases x with
  | bl x => cases x <;> rfl
  | _ => rfl
theorem wE_if (t : MX Bool) (a b : ME) (Q : D → Mem → Prop) : wE (mif t a b) δ μ Q E = wE t δ μ (fun x μ1 => if x = true then wE a δ μ1 Q E else wE b δ μ1 Q E) E := by
  unfold mif; rw [wE_bind]; congr; funext x μ1; cases x <;> rfl
theorem wE_nil (Q : List D → Mem → Prop) : wE mnil δ μ Q E = Q [] μ := rfl
theorem wE_cons (a : ME) (r : MX (List D)) (Q : List D → Mem → Prop) : wE (mcons a r) δ μ Q E = wE a δ μ (fun x μ1 => wE r δ μ1 (fun xs μ2 => Q (x :: xs) μ2) E) E := by
  unfold mcons; rw [wE_bind]; congr; funext x μ1; rw [wE_bind]; rfl
theorem wE_fz (m : MX (List D)) (Q : D → Mem → Prop) : wE (mfz m) δ μ Q E = wE m δ μ (fun ds μ1 => Q (.lst ds) μ1) E := by unfold mfz; rw [wE_bind]; rfl
theorem wE_lc (m : MX (List D)) (Q : D → Mem → Prop) : wE (mlc m) δ μ Q E = wE m δ μ (fun ds μ1 => Q (.loc μ1.cells.length) (μ1.push (.lst ds))) E := by unfold mlc; rw [wE_bind]; rfl
theorem wE_tup (m : MX (List D)) (Q : D → Mem → Prop) : wE (mtup m) δ μ Q E = wE m δ μ (fun ds μ1 => ds.length ≤ sizeLine ∧ Q (.tup ds) μ1) E := by
  unfold mtup; rw [wE_bind]; congr; funext ds μ1; exact wR_ite _ _ _ _
theorem wE_lst (m : MX (List D)) (Q : List D → Mem → Prop) : wE (mlst m) δ μ Q E = wE m δ μ (fun ds μ1 => ds.length ≤ sizeLine ∧ Q ds μ1) E := by
  unfold mlst; rw [wE_bind]; congr; funext ds μ1; exact wR_ite _ _ _ _
theorem wE_call {α : Type} (f : List D → Mem → Res α) (m : MX (List D)) (Q : α → Mem → Prop) : wE (mcall f m) δ μ Q E = wE m δ μ (fun ds μ1 => wR (f ds μ1) Q E) E := by unfold mcall; rw [wE_bind]; rfl
theorem wE_nopart (Q : Option Int → Mem → Prop) : wE mnopart δ μ Q E = Q none μ := rfl
def qI (d : D) (Q : Int → Prop) : Prop := match d with
  | .int i => Q i
  | _ => False
theorem qI_int (i : Int) (Q : Int → Prop) : qI (.int i) Q = Q i := rfl
theorem wE_part (m : ME) (Q : Option Int → Mem → Prop) : wE (mpart m) δ μ Q E = wE m δ μ (fun d μ1 => qI d fun i => Q (some i) μ1) E := by
  unfold mpart; rw [wE_bind]; congr; funext d μ1; cases d <;> rfl
theorem wE_slice (f : D → Option Int → Option Int → Mem → Res D) (a : ME) (l u : MX (Option Int)) (Q : D → Mem → Prop) : wE (mslice f a l u) δ μ Q E = wE a δ μ (fun x μ1 => wE l δ μ1 (fun lo μ2 => wE u δ μ2 (fun hi μ3 => wR (f x lo hi μ3) Q E) E) E) E := by
  unfold mslice; rw [wE_bind]; congr; funext x μ1; rw [wE_bind]; congr; funext lo μ2; rw [wE_bind]; rfl
theorem wE_fld (f : Str) (m : ME) (Q : D → Mem → Prop) : wE (mfld f m) δ μ Q E = wE m δ μ (fun d μ1 => wR (fFld f d μ1) Q E) E := by unfold mfld; rw [wE_bind]; rfl
theorem wE_dnew (Q : D → Mem → Prop) : wE mdnew δ μ Q E = Q (.loc μ.cells.length) (μ.push (.dK [])) := rfl
theorem wE_iter (m : ME) (Q : Its0 → Mem → Prop) : wE (miter m) δ μ Q E = wE m δ μ (fun d μ1 => wR (fIter d μ1) Q E) E := by unfold miter; rw [wE_bind]; rfl
theorem wE_rev (m : ME) (Q : Its0 → Mem → Prop) : wE (mrev m) δ μ Q E = wE m δ μ (fun d μ1 => wR (fRev d μ1) Q E) E := by unfold mrev; rw [wE_bind]; rfl
theorem wE_pos (m : MX (List D)) (Q : List D × List D → Mem → Prop) : wE (mpos m) δ μ Q E = wE m δ μ (fun ds μ1 => Q (ds, []) μ1) E := by unfold mpos; rw [wE_bind]; rfl
theorem wE_kws (m : MX (List D)) (Q : List D × List D → Mem → Prop) : wE (mkws m) δ μ Q E = wE m δ μ (fun ds μ1 => Q ([], ds) μ1) E := by unfold mkws; rw [wE_bind]; rfl
theorem wE_noa (Q : List D × List D → Mem → Prop) : wE mnoa δ μ Q E = Q ([], []) μ := rfl
theorem wE_both (m k : MX (List D)) (Q : List D × List D → Mem → Prop) : wE (mboth m k) δ μ Q E = wE m δ μ (fun ds μ1 => wE k δ μ1 (fun es μ2 => Q (ds, es) μ2) E) E := by
  unfold mboth; rw [wE_bind]; congr; funext x μ1; rw [wE_bind]; rfl
/-- lengths told by the text -/
theorem wE_fn (n l : Nat) (gD : List D → List D → List D) (m : MF) (ma : MX (List D × List D)) (Q : D → Mem → Prop) : wE (mfn n l gD m ma) δ μ Q E = wE ma δ μ (fun a μ1 => (a.1.length = n ∧ a.2.length = l) ∧ wR (m (gD a.1 a.2) μ1) Q E) E := by
  unfold mfn; rw [wE_bind]; congr; funext a μ1; exact wR_ite _ _ _ _
def qMc (c : Cell) (nm : Str) (T : Addr → Option MM) (K : MM → Prop) : Prop := match c with
  | .ins C fs => noFld fs nm = true ∧ (match T C with | some mm => K mm | none => False)
  | _ => False
def qM (d : D) (μ : Mem) (nm : Str) (T : Addr → Option MM) (K : MM → Prop) : Prop := match d with
  | .loc n => wC μ n fun c => qMc c nm T K
  | _ => False
theorem qM_loc (n : Nat) (μ : Mem) (nm : Str) (T : Addr → Option MM) (K : MM → Prop) : qM (.loc n) μ nm T K = wC μ n fun c => qMc c nm T K := rfl
theorem wE_mth (nm : Str) (n l : Nat) (T : Addr → Option MM) (mo : ME) (ma : MX (List D × List D)) (Q : D → Mem → Prop) : wE (mmth nm n l T mo ma) δ μ Q E = wE mo δ μ (fun d μ1 => qM d μ1 nm T fun mm => wE ma δ μ1 (fun a μ2 => (a.1.length = n ∧ a.2.length = l) ∧ wR (mm d a.1 a.2 μ2) Q E) E) E := by
  unfold mmth; rw [wE_bind]; congr; funext d μ1
  show wR (match insOf μ1 d with | some (C, fs) => _ | none => _) Q E = _
  cases d with
  | loc k =>
    unfold insOf qM wC
    dsimp only
    cases μ1.cells[k]? with
    | none => rfl
    | some cc =>
      cases cc with
      | ins C fs =>
        show wR (if _ then _ else _) Q E = (_ ∧ _)
        rw [wR_ite]
        congr 1
        cases T C with
        | none => rfl
        | some mm =>
          dsimp only
          rw [wR_bind]
          show wR _ _ _ = wR _ _ _
          congr; funext a μ2; exact wR_ite _ _ _ _
      | _ => rfl
  | _ => rfl
def qN (d : D) (Q : Prop) : Prop := match d with
  | .non => Q
  | _ => False
theorem qN_non (Q : Prop) : qN .non Q = Q := rfl
theorem wE_mk (C : Addr) (n l : Nat) (gD : List D → List D → List D) (m : MF) (ma : MX (List D × List D)) (Q : D → Mem → Prop) : wE (mmk C n l gD m ma) δ μ Q E = wE ma δ μ (fun a μ1 => (a.1.length = n ∧ a.2.length = l) ∧ wR (m (gD (.loc μ1.cells.length :: a.1) a.2) (μ1.push (.ins C []))) (fun d μ2 => qN d (Q (.loc μ1.cells.length) μ2)) E) E := by
  unfold mmk; rw [wE_bind]; congr; funext a μ1; show wR (if _ then _ else _) _ _ = _
  split
  · rename_i h
    rw [wR_bind]
    simp only [h, and_self, true_and]
    congr; funext d μ2; cases d <;> rfl
  · rename_i h; simp [wR, h]
theorem wE_meth {α : Type} (ty : D → Mem → Bool) (f : D → List D → Mem → Res α) (mo : ME) (ma : MX (List D)) (Q : α → Mem → Prop) : wE (mmeth ty f mo ma) δ μ Q E = wE mo δ μ (fun d μ1 => ty d μ1 = true ∧ wE ma δ μ1 (fun ds μ2 => wR (f d ds μ2) Q E) E) E := by
  unfold mmeth; rw [wE_bind]; congr; funext d μ1; show wR (if _ then _ else _) _ _ = _
  split
  · rename_i h; simp only [h, true_and, wR_bind]; rfl
  · rename_i h; simp [wR, h]
theorem wE_neg (a : ME) (Q : D → Mem → Prop) : wE (mneg a) δ μ Q E = wE a δ μ (fun x μ1 => qI x fun i => Q (.int (-i)) μ1) E := by
  unfold mneg; rw [wE_bind]; congr; funext d μ1; cases d <;> rfl
theorem wE_chain (c c' : D → D → Mem → Res Bool) (a b z : ME) (Q : Bool → Mem → Prop) : wE (mchain c c' a b z) δ μ Q E = wE a δ μ (fun x μ1 => wE b δ μ1 (fun y μ2 => wR (c x y μ2) (fun k μ3 => if k = true then wE z δ μ3 (fun w μ4 => wR (c' y w μ4) Q E) E else Q false μ3) E) E) E := by
  unfold mchain; rw [wE_bind]; congr; funext x μ1; rw [wE_bind]; congr; funext y μ2
  show wR (Res.bind _ _) _ _ = _
  rw [wR_bind]; congr; funext k μ3
  cases k with
  | true => show wR (Res.bind _ _) _ _ = _; rw [wR_bind]; rfl
  | false => rfl
end
/-! ### statements -/
section
variable (δ : DEnv) (μ : Mem) (P : Po)
theorem wS_nx : wS mnx δ μ P = P.nx δ μ := rfl
theorem wS_bk : wS mbk δ μ P = P.bk δ μ := rfl
theorem wS_ct : wS mct δ μ P = P.ct δ μ := rfl
theorem wS_seq (a b : MS) : wS (mseq a b) δ μ P = wS a δ μ { P with nx := fun δ1 μ1 => wS b δ1 μ1 P } := by
  unfold wS mseq; cases a δ μ <;> rfl
/-- an expression's outcome told ahead -/
theorem wE_cut {α : Type} {m : MX α} {δ : DEnv} {μ : Mem} {Q : α → Mem → Prop} {E : EP} (R : α → Mem → Prop) (h1 : wE m δ μ R noE) (h2 : ∀ a μ', R a μ' → Q a μ') : wE m δ μ Q E := wR.go h1 h2
/-- what holds between two statements -/
theorem wS_cut {a b : MS} {δ : DEnv} {μ : Mem} {P : Po} (R : DEnv → Mem → Prop) (h1 : wS a δ μ { P with nx := R }) (h2 : ∀ δ' μ', R δ' μ' → wS b δ' μ' P) : wS (mseq a b) δ μ P := by
  rw [wS_seq]
  exact wP.imp h1 (fun δ' μ' h => h2 δ' μ' h) (fun _ _ h => h) (fun _ _ h => h) (fun _ _ h => h) (fun _ _ _ _ h => h)
theorem wS_ofE {α : Type} (m : MX α) (k : α → MS) : wS (ofE m k) δ μ P = wE m δ μ (fun a μ1 => wS (k a) δ μ1 P) (fun C w μ1 => P.er C w δ μ1) := by
  unfold wS ofE wE; cases m δ μ <;> rfl
theorem wS_drop (m : ME) : wS (mdrop m) δ μ P = wE m δ μ (fun _ μ1 => P.nx δ μ1) (fun C w μ1 => P.er C w δ μ1) := by unfold mdrop; rw [wS_ofE]; rfl
theorem wS_ret (m : ME) : wS (mret m) δ μ P = wE m δ μ (fun d μ1 => P.rt d μ1) (fun C w μ1 => P.er C w δ μ1) := by unfold mret; rw [wS_ofE]; rfl
theorem wS_retN : wS mretN δ μ P = P.rt .non μ := rfl
theorem wS_if (t : MX Bool) (a b : MS) : wS (mifS t a b) δ μ P = wE t δ μ (fun x μ1 => if x = true then wS a δ μ1 P else wS b δ μ1 P) (fun C w μ1 => P.er C w δ μ1) := by
  unfold mifS; rw [wS_ofE]; congr; funext x μ1; cases x <;> rfl
theorem wS_asg (m : ME) (g : MG) : wS (masg m g) δ μ P = wE m δ μ (fun d μ1 => wG g d δ μ1 P.nx (fun C w μ2 => P.er C w δ μ2)) (fun C w μ1 => P.er C w δ μ1) := by
  unfold masg; rw [wS_ofE]; congr; funext d μ1; unfold wS wG; dsimp only; cases g d δ μ1 <;> rfl
def qL (d : D) (Q : Nat → Prop) : Prop := match d with
  | .loc n => Q n
  | _ => False
theorem qL_loc (n : Nat) (Q : Nat → Prop) : qL (.loc n) Q = Q n := rfl
def qCl (c : Cell) (Q : List D → Prop) : Prop := match c with
  | .lst ds => Q ds
  | _ => False
theorem qCl_lst (ds : List D) (Q : List D → Prop) : qCl (.lst ds) Q = Q ds := rfl
theorem wS_retFz (m : ME) : wS (mretFz m) δ μ P = wE m δ μ (fun d μ1 => qL d fun n => wC μ1 n fun c => qCl c fun ds => μ1.lkd n = false ∧ P.rt (.lst ds) (μ1.set n .dead)) (fun C w μ1 => P.er C w δ μ1) := by
  unfold mretFz; rw [wS_ofE]; congr; funext d μ1
  cases d with
  | loc n =>
    show wP (match μ1.cells[n]? with | some (.lst ds) => _ | _ => _) P = wC μ1 n _
    unfold wC
    cases μ1.cells[n]? with
    | none => rfl
    | some c =>
      cases c with
      | lst ds =>
        exact wP_ite _ _ _
      | _ => rfl
  | _ => rfl
theorem wS_raise (C : Addr) (a : ME) : wS (mraise C (mcons a mnil)) δ μ P = wE a δ μ (fun w μ1 => P.er C w δ μ1) (fun C w μ1 => P.er C w δ μ1) := by
  unfold mraise; rw [wS_ofE, wE_cons]; rfl
theorem wS_for (mi : MX Its0) (g : MG) (body : MS) : wS (mfor mi g body) δ μ P = wE mi δ μ (fun it μ1 => wS (mloop g body it.2 it.1) δ μ1 P) (fun C w μ1 => P.er C w δ μ1) := by
  unfold mfor; rw [wS_ofE]
theorem wS_try (i : Nat) (test : Addr → Option Bool) (mb : MS) (ms : Addr → D → MS) : wS (mtry i test mb ms) δ μ P = wS mb δ μ { P with er := fun C w δ1 μ1 => (test C = some false ∧ P.er C w δ1 μ1) ∨ (test C = some true ∧ i < δ1.length ∧ wS (ms C w) (δ1.set i none) μ1 { nx := fun δ2 μ2 => P.nx (δ2.set i none) μ2, rt := P.rt, bk := fun δ2 μ2 => P.bk (δ2.set i none) μ2, ct := fun δ2 μ2 => P.ct (δ2.set i none) μ2, er := fun _ _ _ _ => False }) } := by
  unfold wS mtry
  cases h : mb δ μ with
  | err C w δ1 μ1 =>
    simp only [wP]
    cases ht : test C with
    | none => simp
    | some b =>
      cases b with
      | false => simp [wP]
      | true =>
        simp only [Option.some.injEq, Bool.true_eq_false, false_and, true_and, false_or]
        by_cases hi : i < δ1.length
        · rw [if_pos hi]
          cases ms C w (δ1.set i none) μ1 <;> simp [unS, wP, hi]
        · rw [if_neg hi]; simp [wP, hi]
  | _ => rfl
end
/-! ### targets -/
section
variable (δ : DEnv) (μ : Mem) (E : EP) (d : D)
theorem wG_set0 (x : Option D) (r : DEnv) (Q : DEnv → Mem → Prop) : wG (gset 0) d (x :: r) μ Q E = Q (some d :: r) μ := rfl
theorem wG_setS (n : Nat) (x : Option D) (r : DEnv) (Q : DEnv → Mem → Prop) : wG (gset (n + 1)) d (x :: r) μ Q E = wG (gset n) d r μ (fun r' μ' => Q (x :: r') μ') E := rfl
theorem wG_then (g1 g2 : MG) (Q : DEnv → Mem → Prop) : wG (gthen g1 g2) d δ μ Q E = wG g1 d δ μ (fun δ1 μ1 => wG g2 d δ1 μ1 Q noE) noE := by
  unfold wG gthen
  cases g1 d δ μ with
  | ok a μ1 => show wR (match g2 d a μ1 with | .ok δ2 μ2 => Res.ok δ2 μ2 | _ => Res.bad) Q E = wR (g2 d a μ1) Q noE; cases g2 d a μ1 <;> rfl
  | _ => rfl
theorem wG_sub (mo mi : ME) (Q : DEnv → Mem → Prop) : wG (gsub mo mi) d δ μ Q E = wE mo δ μ (fun x μ1 => wE mi δ μ1 (fun y μ2 => wR (setD x y d μ2) (fun _ μ3 => Q δ μ3) noE) E) E := by
  unfold wG gsub; rw [wR_bind]; show wR _ _ _ = wR _ _ _; congr; funext x μ1; rw [wR_bind]; show wR _ _ _ = wR _ _ _; congr; funext y μ2
  cases setD x y d μ2 <;> rfl
theorem wG_fld (Cs : List Addr) (f : Str) (mo : ME) (Q : DEnv → Mem → Prop) : wG (gfld Cs f mo) d δ μ Q E = wE mo δ μ (fun x μ1 => wR (setF Cs f x d μ1) (fun _ μ2 => Q δ μ2) noE) E := by
  unfold wG gfld; rw [wR_bind]; show wR _ _ _ = wR _ _ _; congr; funext x μ1
  cases setF Cs f x d μ1 <;> rfl
def qT (d : D) (Q : List D → Prop) : Prop := match d with
  | .tup ds => Q ds
  | _ => False
theorem qT_tup (ds : List D) (Q : List D → Prop) : qT (.tup ds) Q = Q ds := rfl
theorem wG_tup (n : Nat) (gs : MGs) (Q : DEnv → Mem → Prop) : wG (gtup n gs) d δ μ Q E = qT d fun ds => ds.length = n ∧ wGs gs ds δ μ Q := by
  unfold wG gtup
  cases d with
  | tup ds =>
    show wR (if _ then _ else _) _ _ = (_ ∧ _)
    split
    · rename_i h; simp only [h, true_and]; unfold wGs; cases gs ds δ μ <;> rfl
    · rename_i h; simp [wR, h]
  | _ => rfl
theorem wGs_nil (Q : DEnv → Mem → Prop) : wGs gnil [] δ μ Q = Q δ μ := rfl
theorem wGs_cons (g : MG) (gs : MGs) (d : D) (r : List D) (Q : DEnv → Mem → Prop) : wGs (gcons g gs) (d :: r) δ μ Q = wG g d δ μ (fun δ1 μ1 => wGs gs r δ1 μ1 Q) noE := by
  unfold wGs wG gcons; dsimp only; cases g d δ μ <;> rfl
end
/-! ### a def -/
def endB (Q : D → Mem → Prop) (E : EP) : Po := { nx := fun _ μ => Q .non μ, rt := Q, bk := fun _ _ => False, ct := fun _ _ => False, er := fun C w _ μ => E C w μ }
theorem w_run (n : Nat) (t : MS) (ds : List D) (μ : Mem) (Q : D → Mem → Prop) (E : EP) : wR (runB n t ds μ) Q E = wS t (startD n ds) μ (endB Q E) := by
  unfold runB wS; cases t (startD n ds) μ <;> rfl
theorem endB_nx (Q : D → Mem → Prop) (E : EP) : (endB Q E).nx = fun _ μ => Q .non μ := rfl
theorem endB_rt (Q : D → Mem → Prop) (E : EP) : (endB Q E).rt = Q := rfl
theorem endB_er (Q : D → Mem → Prop) (E : EP) : (endB Q E).er = fun C w _ μ => E C w μ := rfl
theorem endB_bk (Q : D → Mem → Prop) (E : EP) : (endB Q E).bk = fun _ _ => False := rfl
theorem endB_ct (Q : D → Mem → Prop) (E : EP) : (endB Q E).ct = fun _ _ => False := rfl
end Doz
end
section
/-! DozB: single operations, the store, loops. -/
namespace Doz
open PySem L2
/-! ### the store -/
section
variable {μ : Mem} {n m : Nat} {c c' : Cell}
theorem len_set : (μ.set n c).cells.length = μ.cells.length := by simp [Mem.set]
theorem len_push : (μ.push c).cells.length = μ.cells.length + 1 := by simp [Mem.push]
theorem lk_set : (μ.set n c).lk = μ.lk := rfl
theorem lk_push : (μ.push c).lk = μ.lk := rfl
theorem lkd_nil (h : μ.lk = []) : μ.lkd n = false := by unfold Mem.lkd; rw [h]; rfl
theorem lkd_set : (μ.set n c).lkd m = μ.lkd m := rfl
theorem lkd_push : (μ.push c).lkd m = μ.lkd m := rfl
theorem at_lt (h : μ.cells[n]? = some c) : n < μ.cells.length := (List.getElem?_eq_some_iff.mp h).1
theorem at_set (h : n < μ.cells.length) : (μ.set n c).cells[n]? = some c := by simp [Mem.set, h]
theorem at_setn (h : m ≠ n) : (μ.set n c).cells[m]? = μ.cells[m]? := by simp [Mem.set, Ne.symm h]
theorem at_push : (μ.push c).cells[μ.cells.length]? = some c := by simp [Mem.push]
theorem at_push2 (h : m = μ.cells.length) : (μ.push c).cells[m]? = some c := by subst h; exact at_push
theorem at_pushn (h : m < μ.cells.length) : (μ.push c).cells[m]? = μ.cells[m]? := by
  show (μ.cells ++ [c])[m]? = _
  exact List.getElem?_append_left h
theorem at_push_of (h : μ.cells[m]? = some c') : (μ.push c).cells[m]? = some c' := by rw [at_pushn (at_lt h)]; exact h
theorem at_setn_of (h : μ.cells[m]? = some c') (hn : m ≠ n) : (μ.set n c).cells[m]? = some c' := by rw [at_setn hn]; exact h
theorem set_set : (μ.set n c).set n c' = μ.set n c' := by simp [Mem.set]
theorem set_push_last : (μ.push c).set μ.cells.length c' = μ.push c' := by simp [Mem.set, Mem.push]
theorem set_push2 (h : n = μ.cells.length) : (μ.push c).set n c' = μ.push c' := by subst h; exact set_push_last
theorem set_pushn (h : n < μ.cells.length) : (μ.push c).set n c' = (μ.set n c').push c := by
  unfold Mem.set Mem.push; simp [List.set_append_left _ _ h]
theorem wC_set (h : n < μ.cells.length) (Q : Cell → Prop) : wC (μ.set n c) n Q = Q c := wC_of (at_set h) Q
theorem wC_setn (h : m ≠ n) (Q : Cell → Prop) : wC (μ.set n c) m Q = wC μ m Q := by unfold wC; rw [at_setn h]
theorem wC_push (Q : Cell → Prop) : wC (μ.push c) μ.cells.length Q = Q c := wC_of at_push Q
theorem wC_push2 (h : m = μ.cells.length) (Q : Cell → Prop) : wC (μ.push c) m Q = Q c := by subst h; exact wC_push Q
theorem wC_pushn (h : m < μ.cells.length) (Q : Cell → Prop) : wC (μ.push c) m Q = wC μ m Q := by unfold wC; rw [at_pushn h]
end
/-- what is kept: all but S -/
structure Fr (S : List Nat) (μ μ' : Mem) : Prop where
  le : μ.cells.length ≤ μ'.cells.length
  lk : μ'.lk = μ.lk
  eq : ∀ k, k ∉ S → k < μ.cells.length → μ'.cells[k]? = μ.cells[k]?
section
variable {S T : List Nat} {μ μ1 μ2 : Mem} {n k : Nat} {c : Cell}
theorem Fr.refl (S : List Nat) (μ : Mem) : Fr S μ μ := ⟨Nat.le_refl _, rfl, fun _ _ _ => rfl⟩
theorem Fr.trans (a : Fr S μ μ1) (b : Fr T μ1 μ2) (h : ∀ k ∈ T, k < μ.cells.length → k ∈ S := by intro k hk _; exact hk) : Fr S μ μ2 :=
  ⟨Nat.le_trans a.le b.le, b.lk.trans a.lk, fun k hk hl => by
    rw [b.eq k (fun z => hk (h k z hl)) (Nat.lt_of_lt_of_le hl a.le)]; exact a.eq k hk hl⟩
theorem Fr.mono (a : Fr T μ μ1) (h : ∀ k ∈ T, k < μ.cells.length → k ∈ S) : Fr S μ μ1 := ⟨a.le, a.lk, fun k hk hl => a.eq k (fun z => hk (h k z hl)) hl⟩
theorem Fr.set (n : Nat) (c : Cell) (h : n ∈ S ∨ μ.cells.length ≤ n := by simp) : Fr S μ (μ.set n c) := ⟨by rw [len_set]; exact Nat.le_refl _, rfl, fun k hk hl => at_setn fun z => by
  subst z
  rcases h with h | h
  · exact hk h
  · omega⟩
theorem Fr.push (S : List Nat) (μ : Mem) (c : Cell) : Fr S μ (μ.push c) := ⟨by rw [len_push]; omega, rfl, fun k hk hl => at_pushn hl⟩
theorem Fr.get (a : Fr S μ μ1) (h : μ.cells[k]? = some c) (hk : k ∉ S) : μ1.cells[k]? = some c := by rw [a.eq k hk (at_lt h)]; exact h
end
theorem Fr.set1 (μ : Mem) (n : Nat) (c : Cell) : Fr [n] μ (μ.set n c) := Fr.set n c (.inl (by simp))
/-! ### lengths of texts -/
theorem str_len_app (x y : Str) : (x ++ y).length = x.length + y.length := by
  show (x.cps ++ y.cps).size = _
  rw [Array.size_append]; rfl
theorem str_len_one (c : Nat) : (⟨#[c]⟩ : Str).length = 1 := rfl
theorem cut_len_le (x : Str) (lo hi : Option Int) : (cutS x lo hi).length ≤ x.length := by
  show (List.toArray _).size ≤ _
  rw [List.size_toArray, List.length_take, List.length_drop]
  have : x.cps.toList.length = x.length := by simp [Str.length]
  omega
/-! ### bounds -/
theorem log2_lt {n k : Nat} (h : n < 2 ^ k) (hk : 0 < k) : n.log2 < k := by
  by_cases h0 : n = 0
  · subst h0; simpa using hk
  · exact (Nat.log2_lt h0).mpr h
theorem lg {i : Int} {k : Nat} (h1 : -(2 ^ k : Int) < i) (h2 : i < 2 ^ k) (hk : 0 < k) : i.natAbs.log2 < k := by
  refine log2_lt ?_ hk
  have : ((2 ^ k : Nat) : Int) = (2 : Int) ^ k := by simp
  omega
def MulOk (i j : Int) : Prop := i.natAbs.log2 + j.natAbs.log2 < 1000000
def DivOk (j : Int) : Prop := 0 < j ∧ j.natAbs.log2 < 9000
def PowOk (i j : Int) : Prop := 0 ≤ j ∧ j ≤ 1000000 ∧ i.natAbs < 2 ^ 64
def StrOk (i : Int) : Prop := i.natAbs.log2 < 1920
theorem mulOk {i j : Int} (h1 : -(2 ^ 400) < i) (h2 : i < 2 ^ 400) (h3 : -(2 ^ 400) < j) (h4 : j < 2 ^ 400) : MulOk i j := by
  have a := lg h1 h2 (by decide)
  have b := lg h3 h4 (by decide)
  unfold MulOk; omega
theorem divOk {j : Int} (h1 : 0 < j) (h2 : j < 2 ^ 400) : DivOk j := ⟨h1, Nat.lt_of_lt_of_le (lg (by omega) h2 (by decide)) (by decide)⟩
theorem powOk {i j : Int} (h1 : 0 ≤ j) (h2 : j ≤ 1000000) (h3 : -(2 ^ 64) < i) (h4 : i < 2 ^ 64) : PowOk i j := ⟨h1, h2, by omega⟩
theorem strOk' {i : Int} (h1 : -(2 ^ 400) < i) (h2 : i < 2 ^ 400) : StrOk i := Nat.lt_of_lt_of_le (lg h1 h2 (by decide)) (by decide)
/-! ### single operations -/
def qO {α : Type} (o : Option α) (Q : α → Prop) : Prop := match o with
  | some a => Q a
  | none => False
theorem qO_some {α : Type} (a : α) (Q : α → Prop) : qO (some a) Q = Q a := rfl
theorem qO_of {α : Type} {o : Option α} {a : α} (h : o = some a) (Q : α → Prop) : qO o Q = Q a := by rw [h]; rfl
theorem qO_at0 {α : Type} (a : α) (r : List α) (Q : α → Prop) : qO (atI (a :: r) 0) Q = Q a := by
  have : atI (a :: r) 0 = some a := atI_nat (j := 0) rfl
  rw [this]; rfl
theorem qO_at1 {α : Type} (a b : α) (r : List α) (Q : α → Prop) : qO (atI (a :: b :: r) 1) Q = Q b := by
  have : atI (a :: b :: r) 1 = some b := atI_nat (j := 1) rfl
  rw [this]; rfl
theorem qO_at2 {α : Type} (a b c : α) (r : List α) (Q : α → Prop) : qO (atI (a :: b :: c :: r) 2) Q = Q c := by
  have : atI (a :: b :: c :: r) 2 = some c := atI_nat (j := 2) rfl
  rw [this]; rfl
theorem qO_at3 {α : Type} (a b c d : α) (r : List α) (Q : α → Prop) : qO (atI (a :: b :: c :: d :: r) 3) Q = Q d := by
  have : atI (a :: b :: c :: d :: r) 3 = some d := atI_nat (j := 3) rfl
  rw [this]; rfl
theorem qO_at4 {α : Type} (a b c d e : α) (r : List α) (Q : α → Prop) : qO (atI (a :: b :: c :: d :: e :: r) 4) Q = Q e := by
  have : atI (a :: b :: c :: d :: e :: r) 4 = some e := atI_nat (j := 4) rfl
  rw [this]; rfl
theorem qO_at5 {α : Type} (a b c d e f : α) (r : List α) (Q : α → Prop) : qO (atI (a :: b :: c :: d :: e :: f :: r) 5) Q = Q f := by
  have : atI (a :: b :: c :: d :: e :: f :: r) 5 = some f := atI_nat (j := 5) rfl
  rw [this]; rfl
theorem atI_lt {α : Type} {xs : List α} {i : Int} (h0 : 0 ≤ i) (h1 : i < xs.length) : ∃ v, atI xs i = some v ∧ xs[i.toNat]? = some v := by
  have hl : i.toNat < xs.length := by omega
  refine ⟨xs[i.toNat], ?_, List.getElem?_eq_getElem hl⟩
  have := atI_nat (xs := xs) (j := i.toNat) (List.getElem?_eq_getElem hl)
  rwa [Int.toNat_of_nonneg h0] at this
theorem atI_map {α β : Type} (f : α → β) (xs : List α) (i : Int) : atI (xs.map f) i = (atI xs i).map f := by
  unfold atI; rw [List.length_map]; cases ixN xs.length i <;> simp
theorem atI_mapI {xs : List Int} {i : Int} (h0 : 0 ≤ i) (h1 : i < xs.length) : ∃ v, atI (xs.map D.int) i = some (.int v) ∧ xs[i.toNat]? = some v := by
  obtain ⟨v, h, h'⟩ := atI_lt h0 h1
  exact ⟨v, by rw [atI_map, h]; rfl, h'⟩
section
variable (μ : Mem) (E : EP) (i j : Int) (x y : Str)
theorem w_add_int (Q : D → Mem → Prop) : wR (fAdd (.int i) (.int j) μ) Q E = Q (.int (i + j)) μ := rfl
theorem w_add_str (Q : D → Mem → Prop) : wR (fAdd (.str x) (.str y) μ) Q E = (x.length + y.length ≤ sizeLine ∧ Q (.str (x ++ y)) μ) := wR_ite _ _ _ _
theorem w_add_tup (xs ys : List D) (Q : D → Mem → Prop) : wR (fAdd (.tup xs) (.tup ys) μ) Q E = (xs.length + ys.length ≤ sizeLine ∧ Q (.tup (xs ++ ys)) μ) := wR_ite _ _ _ _
theorem w_add_lst (xs ys : List D) (Q : D → Mem → Prop) : wR (fAdd (.lst xs) (.lst ys) μ) Q E = (xs.length + ys.length ≤ sizeLine ∧ Q (.lst (xs ++ ys)) μ) := by
  show wR (match catL μ (.lst xs) (.lst ys) with | some zs => Res.ok (D.lst zs) μ | none => .bad) Q E = _
  have e : catL μ (.lst xs) (.lst ys) = if xs.length + ys.length ≤ sizeLine then some (xs ++ ys) else none := rfl
  rw [e]
  by_cases h : xs.length + ys.length ≤ sizeLine
  · rw [if_pos h]; simp [h, wR]
  · rw [if_neg h]; simp [h, wR]
theorem w_sub (Q : D → Mem → Prop) : wR (fSub (.int i) (.int j) μ) Q E = Q (.int (i - j)) μ := rfl
theorem w_mod (Q : D → Mem → Prop) : wR (fMod (.int i) (.int j) μ) Q E = (0 < j ∧ Q (.int (i % j)) μ) := wR_ite _ _ _ _
theorem w_div (Q : D → Mem → Prop) : wR (fDiv (.int i) (.int j) μ) Q E = (DivOk j ∧ Q (.int (i / j)) μ) := wR_ite _ _ _ _
theorem w_mul (Q : D → Mem → Prop) : wR (fMul (.int i) (.int j) μ) Q E = (MulOk i j ∧ Q (.int (i * j)) μ) := wR_ite _ _ _ _
theorem w_pow (Q : D → Mem → Prop) : wR (fPow (.int i) (.int j) μ) Q E = (PowOk i j ∧ Q (.int (i ^ j.toNat)) μ) := wR_ite _ _ _ _
theorem w_band (Q : D → Mem → Prop) : wR (fAnd (.int i) (.int j) μ) Q E = Q (.int (Builtin.bitAnd i j)) μ := rfl
theorem w_lt (Q : Bool → Mem → Prop) : wR (cLt (.int i) (.int j) μ) Q E = Q (decide (i < j)) μ := rfl
theorem w_le (Q : Bool → Mem → Prop) : wR (cLe (.int i) (.int j) μ) Q E = Q (decide (i ≤ j)) μ := rfl
theorem w_gt (Q : Bool → Mem → Prop) : wR (cGt (.int i) (.int j) μ) Q E = Q (decide (j < i)) μ := rfl
theorem w_ge (Q : Bool → Mem → Prop) : wR (cGe (.int i) (.int j) μ) Q E = Q (decide (j ≤ i)) μ := rfl
theorem w_is (d : D) (Q : Bool → Mem → Prop) : wR (cIs d .non μ) Q E = Q d.isNon μ := rfl
theorem w_isNot (d : D) (Q : Bool → Mem → Prop) : wR (cIsNot d .non μ) Q E = Q (!d.isNon) μ := rfl
theorem nonN : D.isNon .non = true := rfl
theorem nonI : D.isNon (.int i) = false := rfl
theorem nonS : D.isNon (.str x) = false := rfl
theorem nonT (ds : List D) : D.isNon (.tup ds) = false := rfl
theorem nonL (ds : List D) : D.isNon (.lst ds) = false := rfl
theorem nonLoc (n : Nat) : D.isNon (.loc n) = false := rfl
theorem w_eq_int (Q : Bool → Mem → Prop) : wR (cEqA (.int i) (.int j) μ) Q E = Q (i == j) μ := rfl
theorem w_ne_int (Q : Bool → Mem → Prop) : wR (cNeA (.int i) (.int j) μ) Q E = Q (!(i == j)) μ := rfl
theorem w_eq_str (Q : Bool → Mem → Prop) : wR (cEqA (.str x) (.str y) μ) Q E = Q (x == y) μ := rfl
theorem w_ne_str (Q : Bool → Mem → Prop) : wR (cNeA (.str x) (.str y) μ) Q E = Q (!(x == y)) μ := rfl
theorem w_eq_sc (d e : D) (hd : d.sc = true) (he : e.sc = true) (Q : Bool → Mem → Prop) : wR (cEqA d e μ) Q E = Q (D.eqv d e) μ := by
  cases d <;> cases e <;> first | rfl | (cases hd; done) | (cases he; done)
theorem w_ne_sc (d e : D) (hd : d.sc = true) (he : e.sc = true) (Q : Bool → Mem → Prop) : wR (cNeA d e μ) Q E = Q (!(D.eqv d e)) μ := by
  cases d <;> cases e <;> first | rfl | (cases hd; done) | (cases he; done)
/-- data that resolve -/
theorem w_eq_of {μ : Mem} {d e p q : D} (hd : dcell μ d = none ∨ dcell μ e = none) (h1 : rsv μ 8 d = some p) (h2 : rsv μ 8 e = some q) (f1 : p.fits = true) (f2 : q.fits = true) (E : EP) (Q : Bool → Mem → Prop) (h : Q (D.eqv p q) μ) : wR (cEqA d e μ) Q E := by
  have e0 : cEqA d e μ = cEq d e μ := by
    unfold cEqA
    rcases hd with hd | hd
    · rw [hd]
    · rw [hd]; cases dcell μ d <;> rfl
  rw [e0]
  unfold cEq
  split
  · rename_i hs
    simp only [Bool.and_eq_true] at hs
    have : ∀ {d p : D}, d.sc = true → rsv μ 8 d = some p → d = p := fun hs h => by
      rename_i d p
      cases d <;> first | (cases hs; done) | exact Option.some.inj h
    rw [this hs.1 h1, this hs.2 h2]; exact h
  · rw [h1, h2]; simp only [f1, f2, Bool.and_self, if_true]; exact h
theorem w_ne_of {μ : Mem} {d e p q : D} (hd : dcell μ d = none ∨ dcell μ e = none) (h1 : rsv μ 8 d = some p) (h2 : rsv μ 8 e = some q) (f1 : p.fits = true) (f2 : q.fits = true) (E : EP) (Q : Bool → Mem → Prop) (h : Q (!(D.eqv p q)) μ) : wR (cNeA d e μ) Q E := by
  unfold cNeA
  rw [wR_bind]
  exact w_eq_of hd h1 h2 f1 f2 E _ h
/-! subscripts -/
def qIx (c : Cell) (i : Int) (Q : D → Prop) : Prop := match c with
  | .lst ds => qO (atI ds i) Q
  | .dK kds => qO (kget kds (.inl i)) Q
  | _ => False
theorem qIx_lst (ds : List D) (i : Int) (Q : D → Prop) : qIx (.lst ds) i Q = qO (atI ds i) Q := rfl
theorem qIx_dK (ds : List (Key × D)) (i : Int) (Q : D → Prop) : qIx (.dK ds) i Q = qO (kget ds (.inl i)) Q := rfl
def qIxS (c : Cell) (x : Str) (Q : D → Prop) : Prop := match c with
  | .dK kds => qO (kget kds (.inr x)) Q
  | _ => False
theorem qIxS_dK (ds : List (Key × D)) (x : Str) (Q : D → Prop) : qIxS (.dK ds) x Q = qO (kget ds (.inr x)) Q := rfl
theorem w_ix_loc (n : Nat) (Q : D → Mem → Prop) : wR (fIx (.loc n) (.int i) μ) Q E = wC μ n fun c => qIx c i fun r => Q r μ := by
  unfold fIx dfind dictOf wC seqOf lstOf
  dsimp only
  cases μ.cells[n]? with
  | none => rfl
  | some c =>
    cases c with
    | lst ds => show wR (match atI ds i with | some r => _ | none => _) Q E = qO (atI ds i) _; cases atI ds i <;> rfl
    | dK ds => show wR (match some (kget ds (.inl i)) with | some (some r) => _ | some none => _ | none => _) Q E = qO (kget ds (.inl i)) _; cases kget ds (.inl i) <;> rfl
    | _ => rfl
theorem w_ix_locS (n : Nat) (Q : D → Mem → Prop) : wR (fIx (.loc n) (.str x) μ) Q E = wC μ n fun c => qIxS c x fun r => Q r μ := by
  unfold fIx dfind dictOf wC
  dsimp only
  cases μ.cells[n]? with
  | none => rfl
  | some c =>
    cases c with
    | dK ds => show wR (match some (kget ds (.inr x)) with | some (some r) => _ | some none => _ | none => _) Q E = qO (kget ds (.inr x)) _; cases kget ds (.inr x) <;> rfl
    | _ => rfl
theorem w_ix_lst (ds : List D) (Q : D → Mem → Prop) : wR (fIx (.lst ds) (.int i) μ) Q E = qO (atI ds i) fun r => Q r μ := by
  show wR (match atI ds i with | some r => _ | none => _) Q E = qO (atI ds i) _; cases atI ds i <;> rfl
theorem w_ix_tup (ds : List D) (Q : D → Mem → Prop) : wR (fIx (.tup ds) (.int i) μ) Q E = qO (atI ds i) fun r => Q r μ := by
  show wR (match atI ds i with | some r => _ | none => _) Q E = qO (atI ds i) _; cases atI ds i <;> rfl
theorem w_ix_str (Q : D → Mem → Prop) : wR (fIx (.str x) (.int i) μ) Q E = (x.length ≤ sizeLine ∧ qO (atI x.cps.toList i) fun c => Q (.str ⟨#[c]⟩) μ) := by
  refine (wR_ite _ _ _ _).trans ?_
  cases atI x.cps.toList i <;> rfl
def qLS (ds : List D) (i : Int) (v : D) (Q : List D → Prop) : Prop := qO (ixN ds.length i) fun j => Q (ds.set j v)
theorem qLS_0 (a : D) (r : List D) (v : D) (Q : List D → Prop) : qLS (a :: r) 0 v Q = Q (v :: r) := by
  unfold qLS; rw [qO_of (show ixN (a :: r).length 0 = some 0 by simp [ixN])]; rfl
theorem qLS_1 (a b : D) (r : List D) (v : D) (Q : List D → Prop) : qLS (a :: b :: r) 1 v Q = Q (a :: v :: r) := by
  unfold qLS; rw [qO_of (show ixN (a :: b :: r).length 1 = some 1 by simp [ixN]; omega)]; rfl
theorem qLS_2 (a b c : D) (r : List D) (v : D) (Q : List D → Prop) : qLS (a :: b :: c :: r) 2 v Q = Q (a :: b :: v :: r) := by
  unfold qLS; rw [qO_of (show ixN (a :: b :: c :: r).length 2 = some 2 by simp [ixN]; omega)]; rfl
theorem qLS_3 (a b c d : D) (r : List D) (v : D) (Q : List D → Prop) : qLS (a :: b :: c :: d :: r) 3 v Q = Q (a :: b :: c :: v :: r) := by
  unfold qLS; rw [qO_of (show ixN (a :: b :: c :: d :: r).length 3 = some 3 by simp [ixN]; omega)]; rfl
/-- o[i] = v -/
def qSet (c : Cell) (i : Int) (v : D) (l : Bool) (Q : Cell → Prop) : Prop := match c with
  | .lst ds => qLS ds i v fun es => Q (.lst es)
  | .dK kds => (l = false ∧ kds.length < sizeLine) ∧ Q (.dK (kput kds (.inl i) v))
  | _ => False
theorem qSet_lst (ds : List D) (i : Int) (v : D) (l : Bool) (Q : Cell → Prop) : qSet (.lst ds) i v l Q = qLS ds i v fun es => Q (.lst es) := rfl
theorem qSet_dK (kds : List (Key × D)) (i : Int) (v : D) (l : Bool) (Q : Cell → Prop) : qSet (.dK kds) i v l Q = ((l = false ∧ kds.length < sizeLine) ∧ Q (.dK (kput kds (.inl i) v))) := rfl
def qSetS (c : Cell) (x : Str) (v : D) (l : Bool) (Q : Cell → Prop) : Prop := match c with
  | .dK kds => (l = false ∧ kds.length < sizeLine) ∧ Q (.dK (kput kds (.inr x) v))
  | _ => False
theorem qSetS_dK (kds : List (Key × D)) (x : Str) (v : D) (l : Bool) (Q : Cell → Prop) : qSetS (.dK kds) x v l Q = ((l = false ∧ kds.length < sizeLine) ∧ Q (.dK (kput kds (.inr x) v))) := rfl
theorem w_setI (n : Nat) (v : D) (Q : Unit → Mem → Prop) : wR (setD (.loc n) (.int i) v μ) Q E = wC μ n fun c => qSet c i v (μ.lkd n) fun c' => Q () (μ.set n c') := by
  unfold setD wC
  dsimp only
  cases μ.cells[n]? with
  | none => rfl
  | some c =>
    cases c with
    | lst ds => show wR (match ixN ds.length i with | some j => _ | none => _) Q E = qO (ixN ds.length i) _; cases ixN ds.length i <;> rfl
    | dK ds => exact wR_ite _ _ _ _
    | _ => rfl
theorem w_setS (n : Nat) (v : D) (Q : Unit → Mem → Prop) : wR (setD (.loc n) (.str x) v μ) Q E = wC μ n fun c => qSetS c x v (μ.lkd n) fun c' => Q () (μ.set n c') := by
  unfold setD wC
  dsimp only
  cases μ.cells[n]? with
  | none => rfl
  | some c =>
    cases c with
    | dK ds => exact wR_ite _ _ _ _
    | _ => rfl
/-! fields -/
def qF (c : Cell) (f : Str) (Q : D → Prop) : Prop := match c with
  | .ins _ fs => qO (fs.lookup f) Q
  | _ => False
theorem qF_ins (C : Addr) (fs : List (Str × D)) (f : Str) (Q : D → Prop) : qF (.ins C fs) f Q = qO (fs.lookup f) Q := rfl
theorem w_fld (n : Nat) (f : Str) (Q : D → Mem → Prop) : wR (fFld f (.loc n) μ) Q E = wC μ n fun c => qF c f fun r => Q r μ := by
  unfold fFld wC
  dsimp only
  cases μ.cells[n]? with
  | none => rfl
  | some c =>
    cases c with
    | ins C fs => show wR (match fs.lookup f with | some r => _ | none => _) Q E = qO (fs.lookup f) _; cases fs.lookup f <;> rfl
    | _ => rfl
def qSF (c : Cell) (Cs : List Addr) (f : Str) (v : D) (Q : Cell → Prop) : Prop := match c with
  | .ins C fs => (((fs.lookup f).isSome || Cs.contains C) = true ∧ fs.length < 1000) ∧ Q (.ins C (putFD f v fs))
  | _ => False
theorem qSF_ins (C : Addr) (fs : List (Str × D)) (Cs : List Addr) (f : Str) (v : D) (Q : Cell → Prop) : qSF (.ins C fs) Cs f v Q = ((((fs.lookup f).isSome || Cs.contains C) = true ∧ fs.length < 1000) ∧ Q (.ins C (putFD f v fs))) := rfl
theorem w_setF (n : Nat) (Cs : List Addr) (f : Str) (v : D) (Q : Unit → Mem → Prop) : wR (setF Cs f (.loc n) v μ) Q E = wC μ n fun c => qSF c Cs f v fun c' => Q () (μ.set n c') := by
  unfold setF wC
  dsimp only
  cases μ.cells[n]? with
  | none => rfl
  | some c =>
    cases c with
    | ins C fs => exact wR_ite _ _ _ _
    | _ => rfl
/-! len, max, min, .. -/
theorem w_len_str (Q : D → Mem → Prop) : wR (fLen [.str x] μ) Q E = (x.length ≤ sizeLine ∧ Q (.int x.length) μ) := wR_ite _ _ _ _
theorem w_len_lst (ds : List D) (Q : D → Mem → Prop) : wR (fLen [.lst ds] μ) Q E = Q (.int ds.length) μ := rfl
theorem w_len_tup (ds : List D) (Q : D → Mem → Prop) : wR (fLen [.tup ds] μ) Q E = Q (.int ds.length) μ := rfl
def qLen (c : Cell) (Q : Nat → Prop) : Prop := match c with
  | .lst ds => Q ds.length
  | .dK ds => Q ds.length
  | _ => False
theorem qLen_lst (ds : List D) (Q : Nat → Prop) : qLen (.lst ds) Q = Q ds.length := rfl
theorem qLen_dK (ds : List (Key × D)) (Q : Nat → Prop) : qLen (.dK ds) Q = Q ds.length := rfl
theorem w_len_loc (n : Nat) (Q : D → Mem → Prop) : wR (fLen [.loc n] μ) Q E = wC μ n fun c => qLen c fun k => Q (.int k) μ := by
  unfold fLen seqOf lstOf dictOf wC
  dsimp only
  cases μ.cells[n]? with
  | none => rfl
  | some c => cases c <;> rfl
theorem w_max (Q : D → Mem → Prop) : wR (fMax [.int i, .int j] μ) Q E = Q (.int (max i j)) μ := by
  show Q (.int (if j > i then j else i)) μ = _
  congr 2
  split <;> omega
theorem w_min (Q : D → Mem → Prop) : wR (fMin [.int i, .int j] μ) Q E = Q (.int (min i j)) μ := by
  show Q (.int (if j < i then j else i)) μ = _
  congr 2
  split <;> omega
theorem w_int_int (Q : D → Mem → Prop) : wR (fIntC [.int i] μ) Q E = Q (.int i) μ := rfl
theorem w_int_bl (b : Bool) (Q : D → Mem → Prop) : wR (fIntC [.bl b] μ) Q E = Q (.int (if b then 1 else 0)) μ := rfl
theorem w_str_int (Q : D → Mem → Prop) : wR (fStrC [.int i] μ) Q E = (StrOk i ∧ Q (.str (toString i)) μ) := wR_ite _ _ _ _
def qDc (c : Cell) (Q : List (Key × D) → Prop) : Prop := match c with
  | .dK ds => Q ds
  | _ => False
theorem qDc_dK (ds : List (Key × D)) (Q : List (Key × D) → Prop) : qDc (.dK ds) Q = Q ds := rfl
theorem w_dict (n : Nat) (Q : D → Mem → Prop) : wR (fDict [.loc n] μ) Q E = wC μ n fun c => qDc c fun ds => Q (.loc μ.cells.length) (μ.push (.dK ds)) := by
  unfold fDict dictOf wC
  dsimp only
  cases μ.cells[n]? with
  | none => rfl
  | some c => cases c <;> rfl
theorem w_tuple_lst (ds : List D) (Q : D → Mem → Prop) : wR (fTuple [.lst ds] μ) Q E = Q (.tup ds) μ := rfl
theorem w_tuple_tup (ds : List D) (Q : D → Mem → Prop) : wR (fTuple [.tup ds] μ) Q E = Q (.tup ds) μ := rfl
theorem w_tuple_loc (n : Nat) (Q : D → Mem → Prop) : wR (fTuple [.loc n] μ) Q E = wC μ n fun c => qCl c fun ds => Q (.tup ds) μ := by
  unfold fTuple seqOf lstOf wC
  dsimp only
  cases μ.cells[n]? with
  | none => rfl
  | some c => cases c <;> rfl
theorem w_list_lst (ds : List D) (Q : List D → Mem → Prop) : wR (fListN [.lst ds] μ) Q E = Q ds μ := rfl
theorem w_list_tup (ds : List D) (Q : List D → Mem → Prop) : wR (fListN [.tup ds] μ) Q E = Q ds μ := rfl
theorem w_iter_lst (ds : List D) (Q : Its0 → Mem → Prop) : wR (fIter (.lst ds) μ) Q E = Q (ds, fun _ => true) μ := rfl
theorem w_iter_tup (ds : List D) (Q : Its0 → Mem → Prop) : wR (fIter (.tup ds) μ) Q E = Q (ds, fun _ => true) μ := rfl
theorem w_iter_str (Q : Its0 → Mem → Prop) : wR (fIter (.str x) μ) Q E = Q (signs x, fun _ => true) μ := rfl
theorem w_iter_loc (n : Nat) (Q : Its0 → Mem → Prop) : wR (fIter (.loc n) μ) Q E = wC μ n fun c => qCl c fun ds => Q (ds, lstIs (.loc n) ds) μ := by
  unfold fIter lstOf wC
  dsimp only
  cases μ.cells[n]? with
  | none => rfl
  | some c => cases c <;> rfl
theorem w_rng1 (Q : Its0 → Mem → Prop) : wR (fRng1 [.int j] μ) Q E = ((-(2 ^ 62) ≤ j ∧ j < 2 ^ 62) ∧ Q (rngItems 0 j.toNat, fun _ => true) μ) := wR_ite _ _ _ _
theorem w_rng2 (Q : Its0 → Mem → Prop) : wR (fRng2 [.int i, .int j] μ) Q E = ((-(2 ^ 62) ≤ i ∧ i < 2 ^ 62 ∧ -(2 ^ 62) ≤ j ∧ j < 2 ^ 62) ∧ Q (rngItems i (j - i).toNat, fun _ => true) μ) := wR_ite _ _ _ _
theorem w_sl_str (lo hi : Option Int) (Q : D → Mem → Prop) : wR (fSl (.str x) lo hi μ) Q E = (x.length ≤ sizeLine ∧ Q (.str (cutS x lo hi)) μ) := wR_ite _ _ _ _
theorem w_sl_tup (ds : List D) (lo hi : Option Int) (Q : D → Mem → Prop) : wR (fSl (.tup ds) lo hi μ) Q E = Q (.tup (cutD ds lo hi)) μ := rfl
theorem w_sl_lst (ds : List D) (lo hi : Option Int) (Q : D → Mem → Prop) : wR (fSl (.lst ds) lo hi μ) Q E = Q (.lst (cutD ds lo hi)) μ := rfl
theorem w_join_lst (ds : List D) (Q : D → Mem → Prop) : wR (fJoin (.str x) [.lst ds] μ) Q E = qO (strsOf ds) fun ys => (ys.map (·.length)).sum + ys.length * x.length ≤ 16777216 ∧ Q (.str (Txt.join x ys)) μ := by
  show wR (match strsOf ds with | some ys => _ | none => _) Q E = qO (strsOf ds) _
  cases strsOf ds with
  | none => rfl
  | some ys => exact wR_ite _ _ _ _
theorem w_append (n : Nat) (y : D) (Q : D → Mem → Prop) : wR (fAppend (.loc n) [y] μ) Q E = wC μ n fun c => qCl c fun ds => ds.length < sizeLine ∧ Q .non (μ.set n (.lst (ds ++ [y]))) := by
  unfold fAppend lcell wC
  dsimp only
  cases μ.cells[n]? with
  | none => rfl
  | some c => cases c <;> first | exact wR_ite _ _ _ _ | rfl
theorem w_lclear (n : Nat) (Q : D → Mem → Prop) : wR (fLClear (.loc n) [] μ) Q E = wC μ n fun c => qCl c fun ds => Q .non (μ.set n (.lst [])) := by
  unfold fLClear lcell wC
  dsimp only
  cases μ.cells[n]? with
  | none => rfl
  | some c => cases c <;> rfl
theorem tyS_str : tyS (.str x) μ = true := rfl
theorem tyL_lst (ds : List D) : tyL (.lst ds) μ = true := rfl
theorem tyL_of {μ : Mem} {n : Nat} {ds : List D} (h : μ.cells[n]? = some (.lst ds)) : tyL (.loc n) μ = true := by unfold tyL lstOf; dsimp only; rw [h]; rfl
theorem tyDc_of {μ : Mem} {n : Nat} {ds : List (Key × D)} (h : μ.cells[n]? = some (.dK ds)) (hl : μ.lkd n = false) : tyDc (.loc n) μ = true := by unfold tyDc; dsimp only; rw [h]; simp [hl]
theorem w_dclear {μ : Mem} {n : Nat} {ds : List (Key × D)} (h : μ.cells[n]? = some (.dK ds)) (hl : μ.lkd n = false) (Q : D → Mem → Prop) : wR (fDClear (.loc n) [] μ) Q E = Q .non (μ.set n (.dK [])) := by
  unfold fDClear dcell; dsimp only; rw [h]; simp [hl, wR]
theorem insOf_of {μ : Mem} {n : Nat} {C : Addr} {fs : List (Str × D)} (h : μ.cells[n]? = some (.ins C fs)) : insOf μ (.loc n) = some (C, fs) := by unfold insOf; dsimp only; rw [h]
theorem w_in_dict {μ : Mem} {n : Nat} {ds : List (Key × D)} (h : μ.cells[n]? = some (.dK ds)) {d : D} {k : Key} (hk : keyOf d = some k) (Q : Bool → Mem → Prop) : wR (cIn d (.loc n) μ) Q E = Q (kget ds k).isSome μ := by
  have e : cIn d (.loc n) μ = .ok (kget ds k).isSome μ := by
    unfold cIn
    have : signIn d (.loc n) = none := by cases d <;> rfl
    rw [this]
    have : dfind μ (.loc n) d = some (kget ds k) := by unfold dfind dictOf; dsimp only; rw [h]; simp [hk]
    rw [this]
  rw [e]; rfl
theorem w_notIn_dict {μ : Mem} {n : Nat} {ds : List (Key × D)} (h : μ.cells[n]? = some (.dK ds)) {d : D} {k : Key} (hk : keyOf d = some k) (Q : Bool → Mem → Prop) : wR (cNotIn d (.loc n) μ) Q E = Q (!(kget ds k).isSome) μ := by
  unfold cNotIn; rw [wR_bind, w_in_dict _ h hk]; rfl
end
theorem w_in_dictS {μ : Mem} {n : Nat} {ds : List (Key × D)} (h : μ.cells[n]? = some (.dK ds)) (x : Str) (Q : Bool → Mem → Prop) (E : EP) : wR (cIn (.str x) (.loc n) μ) Q E = Q (kget ds (.inr x)).isSome μ := w_in_dict E h rfl Q
theorem w_in_dictI {μ : Mem} {n : Nat} {ds : List (Key × D)} (h : μ.cells[n]? = some (.dK ds)) (i : Int) (Q : Bool → Mem → Prop) (E : EP) : wR (cIn (.int i) (.loc n) μ) Q E = Q (kget ds (.inl i)).isSome μ := w_in_dict E h rfl Q
theorem w_notIn_dictS {μ : Mem} {n : Nat} {ds : List (Key × D)} (h : μ.cells[n]? = some (.dK ds)) (x : Str) (Q : Bool → Mem → Prop) (E : EP) : wR (cNotIn (.str x) (.loc n) μ) Q E = Q (!(kget ds (.inr x)).isSome) μ := w_notIn_dict E h rfl Q
theorem w_notIn_dictI {μ : Mem} {n : Nat} {ds : List (Key × D)} (h : μ.cells[n]? = some (.dK ds)) (i : Int) (Q : Bool → Mem → Prop) (E : EP) : wR (cNotIn (.int i) (.loc n) μ) Q E = Q (!(kget ds (.inl i)).isSome) μ := w_notIn_dict E h rfl Q
theorem qMc_ins {C : Addr} {fs : List (Str × D)} {nm : Str} {T : Addr → Option MM} {K : MM → Prop} (h : noFld fs nm = true) : qMc (.ins C fs) nm T K = qO (T C) K := by
  unfold qMc; simp only [h, true_and]; cases T C <;> rfl
theorem look1 {α : Type} (C : Addr) (x : α) (r : List (Addr × α)) (K : α → Prop) : qO (List.lookup C ((C, x) :: r)) K = K x := by simp [List.lookup, qO]
theorem look2 {α : Type} {C C' : Addr} (h : C ≠ C') (x : α) (r : List (Addr × α)) (K : α → Prop) : qO (List.lookup C ((C', x) :: r)) K = qO (List.lookup C r) K := by
  rw [List.lookup_cons, beq_eq_false_iff_ne.mpr h]
/-! ### loops -/
def loopP (P : Po) (I : DEnv → Mem → Prop) : Po := { nx := I, rt := P.rt, bk := P.nx, ct := I, er := P.er }
theorem loopP_nx (P : Po) (I : DEnv → Mem → Prop) : (loopP P I).nx = I := rfl
theorem loopP_ct (P : Po) (I : DEnv → Mem → Prop) : (loopP P I).ct = I := rfl
theorem loopP_bk (P : Po) (I : DEnv → Mem → Prop) : (loopP P I).bk = P.nx := rfl
theorem loopP_rt (P : Po) (I : DEnv → Mem → Prop) : (loopP P I).rt = P.rt := rfl
theorem loopP_er (P : Po) (I : DEnv → Mem → Prop) : (loopP P I).er = P.er := rfl
theorem w_loop {g : MG} {body : MS} {gd : Mem → Bool} {P : Po} (I : List D → DEnv → Mem → Prop) (hg : ∀ ds δ μ, I ds δ μ → gd μ = true)
    (hs : ∀ d ds δ μ, I (d :: ds) δ μ → wG g d δ μ (fun δ1 μ1 => wS body δ1 μ1 (loopP P (I ds))) noE) (he : ∀ δ μ, I [] δ μ → P.nx δ μ) :
    ∀ (ds : List D) (δ : DEnv) (μ : Mem), I ds δ μ → wS (mloop g body gd ds) δ μ P
  | [], δ, μ, h => by
    unfold wS mloop; rw [wP_ite]; exact ⟨hg _ _ _ h, he δ μ h⟩
  | d :: ds, δ, μ, h => by
    unfold wS mloop; rw [wP_ite]
    refine ⟨hg _ _ _ h, ?_⟩
    have z := hs d ds δ μ h
    unfold wG at z
    cases e : g d δ μ with
    | err C w μ1 => rw [e] at z; exact z.elim
    | bad => rw [e] at z; exact z
    | ok δ1 μ1 =>
      rw [e] at z
      have z : wP (body δ1 μ1) (loopP P (I ds)) := z
      dsimp only
      cases e2 : body δ1 μ1 with
      | nx δ2 μ2 => rw [e2] at z; exact w_loop I hg hs he ds δ2 μ2 z
      | ct δ2 μ2 => rw [e2] at z; exact w_loop I hg hs he ds δ2 μ2 z
      | bk δ2 μ2 => rw [e2] at z; exact z
      | rt d2 μ2 => rw [e2] at z; exact z
      | err C w δ2 μ2 => rw [e2] at z; exact z
      | bad => rw [e2] at z; exact z
/-- items told by a list of another kind -/
theorem w_loopM {α : Type} {f : α → D} {g : MG} {body : MS} {gd : Mem → Bool} {P : Po} (I : List α → DEnv → Mem → Prop) (hg : ∀ ds δ μ, I ds δ μ → gd μ = true)
    (hs : ∀ a r δ μ, I (a :: r) δ μ → wG g (f a) δ μ (fun δ1 μ1 => wS body δ1 μ1 (loopP P (I r))) noE) (he : ∀ δ μ, I [] δ μ → P.nx δ μ)
    (xs : List α) (δ : DEnv) (μ : Mem) (h : I xs δ μ) : wS (mloop g body gd (xs.map f)) δ μ P := by
  refine w_loop (fun ds δ μ => ∃ xs : List α, ds = xs.map f ∧ I xs δ μ) (fun ds δ μ ⟨_, _, h⟩ => hg _ _ _ h) ?_ ?_ _ δ μ ⟨xs, rfl, h⟩
  · rintro d ds δ μ ⟨ys, e, h⟩
    cases ys with
    | nil => cases e
    | cons a r =>
      cases e
      have z := hs a r δ μ h
      unfold wG at z ⊢
      refine wR.imp z fun δ1 μ1 z => ?_
      refine wP.imp z ?_ ?_ ?_ ?_ ?_
      · exact fun δ μ h => ⟨r, rfl, h⟩
      · exact fun _ _ h => h
      · exact fun _ _ h => h
      · exact fun δ μ h => ⟨r, rfl, h⟩
      · exact fun _ _ _ _ h => h
  · rintro δ μ ⟨ys, e, h⟩
    cases ys with
    | nil => exact he δ μ h
    | cons a r => cases e
/-- for i in range: the invariant at the number of turns done -/
theorem w_range {g : MG} {body : MS} {P : Po} {lo : Int} {n : Nat} (I : Nat → DEnv → Mem → Prop) (δ : DEnv) (μ : Mem) (h0 : I 0 δ μ)
    (hs : ∀ i δ μ, i < n → I i δ μ → wG g (.int (lo + (i : Nat))) δ μ (fun δ1 μ1 => wS body δ1 μ1 (loopP P (I (i + 1)))) noE) (he : ∀ δ μ, I n δ μ → P.nx δ μ) :
    wS (mloop g body (fun _ => true) (rngItems lo n)) δ μ P := by
  unfold rngItems
  refine w_loopM (f := fun i : Nat => D.int (lo + (i : Nat))) (fun xs δ μ => ∃ k, k ≤ n ∧ xs = (List.range n).drop k ∧ I k δ μ) (fun _ _ _ _ => rfl) ?_ ?_ _ δ μ ⟨0, Nat.zero_le _, by simp, h0⟩
  · rintro a r δ μ ⟨k, hk, e, h⟩
    have hlt : k < n := by
      rcases Nat.lt_or_ge k n with h | h
      · exact h
      · rw [List.drop_eq_nil_of_le (by simpa using h)] at e; cases e
    rw [List.drop_eq_getElem_cons (by simpa using hlt)] at e
    simp only [List.cons.injEq, List.getElem_range] at e
    obtain ⟨rfl, rfl⟩ := e
    have z := hs a δ μ hlt h
    unfold wG at z ⊢
    refine wR.imp z fun δ1 μ1 z => wP.imp z ?_ ?_ ?_ ?_ ?_
    · exact fun δ μ h => ⟨a + 1, hlt, rfl, h⟩
    · exact fun _ _ h => h
    · exact fun _ _ h => h
    · exact fun δ μ h => ⟨a + 1, hlt, rfl, h⟩
    · exact fun _ _ _ _ h => h
  · rintro δ μ ⟨k, hk, e, h⟩
    have : k = n := by
      rcases Nat.lt_or_ge k n with h | h
      · have := congrArg List.length e
        simp at this
        omega
      · omega
    subst this
    exact he δ μ h
/-! ### comprehensions -/
/-- y for each item, the store going on -/
theorem w_comp {g : MG} {mt : MX Bool} {me : ME} {gd : Mem → Bool} {δ : DEnv} (I : List D → List D → Mem → Prop) (hg : ∀ ds ys μ, I ds ys μ → gd μ = true)
    (hs : ∀ d ds ys μ, I (d :: ds) ys μ → wG g d δ μ (fun δ1 μ1 => wE mt δ1 μ1 (fun b μ2 => if b = true then wE me δ1 μ2 (fun y μ3 => I ds (ys ++ [y]) μ3) noE else I ds ys μ2) noE) noE) :
    ∀ (ds ys : List D) (μ : Mem) (Q : List D → Mem → Prop) (E : EP), I ds ys μ → (∀ zs μ, I [] (ys ++ zs) μ → Q zs μ) → wR (compL g mt me gd δ ds μ) Q E
  | [], ys, μ, Q, E, h, hq => by
    unfold compL; rw [wR_ite]; exact ⟨hg _ _ _ h, hq [] μ (by simpa using h)⟩
  | d :: ds, ys, μ, Q, E, h, hq => by
    unfold compL; rw [wR_ite]
    refine ⟨hg _ _ _ h, ?_⟩
    have z := hs d ds ys μ h
    unfold wG at z
    cases e : g d δ μ with
    | err C w μ1 => rw [e] at z; exact z.elim
    | bad => rw [e] at z; exact z.elim
    | ok δ1 μ1 =>
      rw [e] at z
      have z : wR (mt δ1 μ1) _ noE := z
      dsimp only
      cases e1 : mt δ1 μ1 with
      | err C w μ1 => rw [e1] at z; exact z.elim
      | bad => rw [e1] at z; exact z.elim
      | ok b μ2 =>
        rw [e1] at z
        cases b with
        | false => exact w_comp I hg hs ds ys μ2 Q E z hq
        | true =>
          have z : wR (me δ1 μ2) _ noE := z
          dsimp only
          cases e2 : me δ1 μ2 with
          | err C w μ1 => rw [e2] at z; exact z.elim
          | bad => rw [e2] at z; exact z.elim
          | ok y μ3 =>
            rw [e2] at z
            dsimp only
            have ih := w_comp I hg hs ds (ys ++ [y]) μ3 (fun zs μ4 => Q (y :: zs) μ4) noE z (fun zs μ4 h4 => hq (y :: zs) μ4 (by simpa using h4))
            obtain ⟨zs, μ4, e4, q⟩ := wR.of ih
            rw [e4]; exact q
theorem wE_yes (δ : DEnv) (μ : Mem) (Q : Bool → Mem → Prop) (E : EP) : wE myes δ μ Q E = Q true μ := rfl
/-- for i in range -/
theorem w_compR {g : MG} {mt : MX Bool} {me : ME} {δ : DEnv} {μ : Mem} {lo : Int} {n : Nat} {Q : List D → Mem → Prop} {E : EP} (I : Nat → List D → Mem → Prop) (h0 : I 0 [] μ)
    (hs : ∀ i ys μ, i < n → I i ys μ → wG g (.int (lo + (i : Nat))) δ μ (fun δ1 μ1 => wE mt δ1 μ1 (fun b μ2 => if b = true then wE me δ1 μ2 (fun y μ3 => I (i + 1) (ys ++ [y]) μ3) noE else I (i + 1) ys μ2) noE) noE)
    (he : ∀ ys μ, I n ys μ → Q ys μ) : wR (compL g mt me (fun _ => true) δ (rngItems lo n) μ) Q E := by
  refine w_comp (δ := δ) (fun ds ys μ => ∃ k, k ≤ n ∧ ds = ((List.range n).drop k).map (fun i : Nat => D.int (lo + (i : Nat))) ∧ I k ys μ) (fun _ _ _ _ => rfl) ?_ _ [] μ Q E ⟨0, Nat.zero_le _, by simp [rngItems], h0⟩ ?_
  · rintro d r ys μ ⟨k, hk, e, h⟩
    have hlt : k < n := by
      rcases Nat.lt_or_ge k n with h | h
      · exact h
      · rw [List.drop_eq_nil_of_le (by simpa using h)] at e; cases e
    rw [List.drop_eq_getElem_cons (by simpa using hlt), List.map_cons] at e
    simp only [List.cons.injEq, List.getElem_range] at e
    obtain ⟨rfl, rfl⟩ := e
    have z := hs k ys μ hlt h
    unfold wG wE at z ⊢
    refine wR.imp z fun δ1 μ1 z => wR.imp z fun b μ2 z => ?_
    cases b with
    | true => exact wR.imp z fun y μ3 h => ⟨k + 1, hlt, rfl, h⟩
    | false => exact ⟨k + 1, hlt, rfl, z⟩
  · rintro zs μ ⟨k, hk, e, h⟩
    have : k = n := by
      rcases Nat.lt_or_ge k n with h | h
      · have := congrArg List.length e
        simp at this
        omega
      · omega
    subst this
    exact he zs μ (by simpa using h)
theorem wE_comp (vs : List Nat) (mi : MX Its0) (g : MG) (mt : MX Bool) (me : ME) (δ : DEnv) (μ : Mem) (E : EP) (Q : List D → Mem → Prop) : wE (mcomp vs mi g mt me) δ μ Q E = wE mi δ μ (fun it μ1 => it.1.length ≤ sizeLine ∧ wR (compL g mt me it.2 (wipeD δ vs) it.1 μ1) Q E) E := by
  unfold mcomp; rw [wE_bind]; congr; funext it μ1; exact wR_ite _ _ _ _
/-- nothing is changed by it: the list is told item by item -/
theorem w_compP {g : MG} {mt : MX Bool} {me : ME} {gd : Mem → Bool} {δ : DEnv} {μ : Mem} (f : D → Option D) (hg : gd μ = true) (ds : List D) (Q : List D → Mem → Prop) (E : EP)
    (hs : ∀ d ∈ ds, wG g d δ μ (fun δ1 μ1 => wE mt δ1 μ1 (fun b μ2 => if b = true then wE me δ1 μ2 (fun y μ3 => f d = some y ∧ μ3 = μ) noE else f d = none ∧ μ2 = μ) noE) noE)
    (hq : Q (ds.filterMap f) μ) : wR (compL g mt me gd δ ds μ) Q E := by
  refine w_comp (δ := δ) (fun rest ys μ' => μ' = μ ∧ ∃ pre, ds = pre ++ rest ∧ ys = pre.filterMap f) (fun _ _ _ h => h.1 ▸ hg) ?_ ds [] μ Q E ⟨rfl, [], rfl, rfl⟩ ?_
  · rintro d r ys μ' ⟨rfl, pre, e, rfl⟩
    have z := hs d (by rw [e]; simp)
    unfold wG wE at z ⊢
    refine wR.imp z fun δ1 μ1 z => wR.imp z fun b μ2 z => ?_
    cases b with
    | true => exact wR.imp z fun y μ3 ⟨h1, h2⟩ => ⟨h2, pre ++ [d], by simp [e], by simp [h1]⟩
    | false => exact ⟨z.2, pre ++ [d], by simp [e], by simp [z.1]⟩
  · rintro zs μ' ⟨rfl, pre, e, h⟩
    simp at e h
    rw [h, ← e]; exact hq
/-- data of a kind, none left out -/
theorem w_compMap {α : Type} {f : α → D} {g : MG} {mt : MX Bool} {me : ME} {gd : Mem → Bool} {δ : DEnv} {μ : Mem} {xs : List α} {Q : List D → Mem → Prop} {E : EP} (h : α → D) (hg : gd μ = true)
    (hs : ∀ x ∈ xs, wG g (f x) δ μ (fun δ1 μ1 => wE mt δ1 μ1 (fun b μ2 => b = true ∧ wE me δ1 μ2 (fun y μ3 => y = h x ∧ μ3 = μ) noE) noE) noE)
    (hq : Q (xs.map h) μ) : wR (compL g mt me gd δ (xs.map f) μ) Q E := by
  refine w_comp (δ := δ) (fun rest ys μ' => μ' = μ ∧ ∃ pre post, xs = pre ++ post ∧ rest = post.map f ∧ ys = pre.map h) (fun _ _ _ h => h.1 ▸ hg) ?_ _ [] μ Q E ⟨rfl, [], xs, rfl, rfl, rfl⟩ ?_
  · rintro d r ys μ' ⟨rfl, pre, post, e, e2, rfl⟩
    cases post with
    | nil => cases e2
    | cons x post =>
      cases e2
      have z := hs x (by rw [e]; simp)
      unfold wG wE at z ⊢
      refine wR.imp z fun δ1 μ1 z => wR.imp z fun b μ2 z => ?_
      obtain ⟨rfl, z⟩ := z
      refine wR.imp z fun y μ3 z => ?_
      obtain ⟨rfl, rfl⟩ := z
      exact ⟨rfl, pre ++ [x], post, by simp [e], rfl, by simp⟩
  · rintro zs μ' ⟨rfl, pre, post, e, e2, h2⟩
    cases post with
    | cons x post => cases e2
    | nil =>
      simp at e h2
      subst e h2
      exact hq
/-- .. with an if -/
theorem w_compFil {α : Type} {f : α → D} {g : MG} {mt : MX Bool} {me : ME} {gd : Mem → Bool} {δ : DEnv} {μ : Mem} {xs : List α} {Q : List D → Mem → Prop} {E : EP} (p : α → Bool) (h : α → D) (hg : gd μ = true)
    (hs : ∀ x ∈ xs, wG g (f x) δ μ (fun δ1 μ1 => wE mt δ1 μ1 (fun b μ2 => b = p x ∧ μ2 = μ ∧ (p x = true → wE me δ1 μ (fun y μ3 => y = h x ∧ μ3 = μ) noE)) noE) noE)
    (hq : Q ((xs.filter p).map h) μ) : wR (compL g mt me gd δ (xs.map f) μ) Q E := by
  refine w_comp (δ := δ) (fun rest ys μ' => μ' = μ ∧ ∃ pre post, xs = pre ++ post ∧ rest = post.map f ∧ ys = (pre.filter p).map h) (fun _ _ _ h => h.1 ▸ hg) ?_ _ [] μ Q E ⟨rfl, [], xs, rfl, rfl, rfl⟩ ?_
  · rintro d r ys μ' ⟨rfl, pre, post, e, e2, rfl⟩
    cases post with
    | nil => cases e2
    | cons x post =>
      cases e2
      have z := hs x (by rw [e]; simp)
      unfold wG wE at z ⊢
      refine wR.imp z fun δ1 μ1 z => wR.imp z fun b μ2 z => ?_
      obtain ⟨rfl, rfl, z⟩ := z
      cases hp : p x with
      | true =>
        refine wR.imp (z hp) fun y μ3 z => ?_
        obtain ⟨rfl, rfl⟩ := z
        exact ⟨rfl, pre ++ [x], post, by simp [e], rfl, by simp [hp]⟩
      | false => exact ⟨rfl, pre ++ [x], post, by simp [e], rfl, by simp [hp]⟩
  · rintro zs μ' ⟨rfl, pre, post, e, e2, h2⟩
    cases post with
    | cons x post => cases e2
    | nil =>
      simp at e h2
      subst e h2
      exact hq
theorem wE_revL (m : ME) (δ : DEnv) (μ : Mem) (Q : List D → Mem → Prop) (E : EP) : wE (mrevL m) δ μ Q E = wE m δ μ (fun d μ1 => qO (lstOf μ1 d) fun ds => Q ds.reverse μ1) E := by
  unfold mrevL; rw [wE_bind]; congr; funext d μ1
  show wR (match lstOf μ1 d with | some ds => _ | none => _) Q E = qO (lstOf μ1 d) _
  cases lstOf μ1 d <;> rfl
theorem qO_lst (μ : Mem) (ds : List D) (Q : List D → Prop) : qO (lstOf μ (.lst ds)) Q = Q ds := rfl
/-! ### isinstance, all -/
theorem isi_non_int  (μ : Mem) (Q : D → Mem → Prop) (E : EP) : wR (fIsi [.non, .ty "int"] μ) Q E = Q (.bl false) μ := by kernel_rfl
theorem isi_non_bool  (μ : Mem) (Q : D → Mem → Prop) (E : EP) : wR (fIsi [.non, .ty "bool"] μ) Q E = Q (.bl false) μ := by kernel_rfl
theorem isi_non_str  (μ : Mem) (Q : D → Mem → Prop) (E : EP) : wR (fIsi [.non, .ty "str"] μ) Q E = Q (.bl false) μ := by kernel_rfl
theorem isi_non_tuple  (μ : Mem) (Q : D → Mem → Prop) (E : EP) : wR (fIsi [.non, .ty "tuple"] μ) Q E = Q (.bl false) μ := by kernel_rfl
theorem isi_non_list  (μ : Mem) (Q : D → Mem → Prop) (E : EP) : wR (fIsi [.non, .ty "list"] μ) Q E = Q (.bl false) μ := by kernel_rfl
theorem isi_non_dict  (μ : Mem) (Q : D → Mem → Prop) (E : EP) : wR (fIsi [.non, .ty "dict"] μ) Q E = Q (.bl false) μ := by kernel_rfl
theorem isi_bl_int (b : Bool) (μ : Mem) (Q : D → Mem → Prop) (E : EP) : wR (fIsi [(.bl b), .ty "int"] μ) Q E = Q (.bl true) μ := by kernel_rfl
theorem isi_bl_bool (b : Bool) (μ : Mem) (Q : D → Mem → Prop) (E : EP) : wR (fIsi [(.bl b), .ty "bool"] μ) Q E = Q (.bl true) μ := by kernel_rfl
theorem isi_bl_str (b : Bool) (μ : Mem) (Q : D → Mem → Prop) (E : EP) : wR (fIsi [(.bl b), .ty "str"] μ) Q E = Q (.bl false) μ := by kernel_rfl
theorem isi_bl_tuple (b : Bool) (μ : Mem) (Q : D → Mem → Prop) (E : EP) : wR (fIsi [(.bl b), .ty "tuple"] μ) Q E = Q (.bl false) μ := by kernel_rfl
theorem isi_bl_list (b : Bool) (μ : Mem) (Q : D → Mem → Prop) (E : EP) : wR (fIsi [(.bl b), .ty "list"] μ) Q E = Q (.bl false) μ := by kernel_rfl
theorem isi_bl_dict (b : Bool) (μ : Mem) (Q : D → Mem → Prop) (E : EP) : wR (fIsi [(.bl b), .ty "dict"] μ) Q E = Q (.bl false) μ := by kernel_rfl
theorem isi_int_int (i : Int) (μ : Mem) (Q : D → Mem → Prop) (E : EP) : wR (fIsi [(.int i), .ty "int"] μ) Q E = Q (.bl true) μ := by kernel_rfl
theorem isi_int_bool (i : Int) (μ : Mem) (Q : D → Mem → Prop) (E : EP) : wR (fIsi [(.int i), .ty "bool"] μ) Q E = Q (.bl false) μ := by kernel_rfl
theorem isi_int_str (i : Int) (μ : Mem) (Q : D → Mem → Prop) (E : EP) : wR (fIsi [(.int i), .ty "str"] μ) Q E = Q (.bl false) μ := by kernel_rfl
theorem isi_int_tuple (i : Int) (μ : Mem) (Q : D → Mem → Prop) (E : EP) : wR (fIsi [(.int i), .ty "tuple"] μ) Q E = Q (.bl false) μ := by kernel_rfl
theorem isi_int_list (i : Int) (μ : Mem) (Q : D → Mem → Prop) (E : EP) : wR (fIsi [(.int i), .ty "list"] μ) Q E = Q (.bl false) μ := by kernel_rfl
theorem isi_int_dict (i : Int) (μ : Mem) (Q : D → Mem → Prop) (E : EP) : wR (fIsi [(.int i), .ty "dict"] μ) Q E = Q (.bl false) μ := by kernel_rfl
theorem isi_str_int (x : Str) (μ : Mem) (Q : D → Mem → Prop) (E : EP) : wR (fIsi [(.str x), .ty "int"] μ) Q E = Q (.bl false) μ := by kernel_rfl
theorem isi_str_bool (x : Str) (μ : Mem) (Q : D → Mem → Prop) (E : EP) : wR (fIsi [(.str x), .ty "bool"] μ) Q E = Q (.bl false) μ := by kernel_rfl
theorem isi_str_str (x : Str) (μ : Mem) (Q : D → Mem → Prop) (E : EP) : wR (fIsi [(.str x), .ty "str"] μ) Q E = Q (.bl true) μ := by kernel_rfl
theorem isi_str_tuple (x : Str) (μ : Mem) (Q : D → Mem → Prop) (E : EP) : wR (fIsi [(.str x), .ty "tuple"] μ) Q E = Q (.bl false) μ := by kernel_rfl
theorem isi_str_list (x : Str) (μ : Mem) (Q : D → Mem → Prop) (E : EP) : wR (fIsi [(.str x), .ty "list"] μ) Q E = Q (.bl false) μ := by kernel_rfl
theorem isi_str_dict (x : Str) (μ : Mem) (Q : D → Mem → Prop) (E : EP) : wR (fIsi [(.str x), .ty "dict"] μ) Q E = Q (.bl false) μ := by kernel_rfl
theorem isi_tup_int (ds : List D) (μ : Mem) (Q : D → Mem → Prop) (E : EP) : wR (fIsi [(.tup ds), .ty "int"] μ) Q E = Q (.bl false) μ := by kernel_rfl
theorem isi_tup_bool (ds : List D) (μ : Mem) (Q : D → Mem → Prop) (E : EP) : wR (fIsi [(.tup ds), .ty "bool"] μ) Q E = Q (.bl false) μ := by kernel_rfl
theorem isi_tup_str (ds : List D) (μ : Mem) (Q : D → Mem → Prop) (E : EP) : wR (fIsi [(.tup ds), .ty "str"] μ) Q E = Q (.bl false) μ := by kernel_rfl
theorem isi_tup_tuple (ds : List D) (μ : Mem) (Q : D → Mem → Prop) (E : EP) : wR (fIsi [(.tup ds), .ty "tuple"] μ) Q E = Q (.bl true) μ := by kernel_rfl
theorem isi_tup_list (ds : List D) (μ : Mem) (Q : D → Mem → Prop) (E : EP) : wR (fIsi [(.tup ds), .ty "list"] μ) Q E = Q (.bl false) μ := by kernel_rfl
theorem isi_tup_dict (ds : List D) (μ : Mem) (Q : D → Mem → Prop) (E : EP) : wR (fIsi [(.tup ds), .ty "dict"] μ) Q E = Q (.bl false) μ := by kernel_rfl
theorem isi_lst_int (ds : List D) (μ : Mem) (Q : D → Mem → Prop) (E : EP) : wR (fIsi [(.lst ds), .ty "int"] μ) Q E = Q (.bl false) μ := by kernel_rfl
theorem isi_lst_bool (ds : List D) (μ : Mem) (Q : D → Mem → Prop) (E : EP) : wR (fIsi [(.lst ds), .ty "bool"] μ) Q E = Q (.bl false) μ := by kernel_rfl
theorem isi_lst_str (ds : List D) (μ : Mem) (Q : D → Mem → Prop) (E : EP) : wR (fIsi [(.lst ds), .ty "str"] μ) Q E = Q (.bl false) μ := by kernel_rfl
theorem isi_lst_tuple (ds : List D) (μ : Mem) (Q : D → Mem → Prop) (E : EP) : wR (fIsi [(.lst ds), .ty "tuple"] μ) Q E = Q (.bl false) μ := by kernel_rfl
theorem isi_lst_list (ds : List D) (μ : Mem) (Q : D → Mem → Prop) (E : EP) : wR (fIsi [(.lst ds), .ty "list"] μ) Q E = Q (.bl true) μ := by kernel_rfl
theorem isi_lst_dict (ds : List D) (μ : Mem) (Q : D → Mem → Prop) (E : EP) : wR (fIsi [(.lst ds), .ty "dict"] μ) Q E = Q (.bl false) μ := by kernel_rfl
theorem w_all_lst (g : List Bool → Bool) (ds : List D) (μ : Mem) (Q : D → Mem → Prop) (E : EP) : wR (fAll g [.lst ds] μ) Q E = qO (blsOf ds) fun bs => Q (.bl (g bs)) μ := by
  show wR (match blsOf ds with | some bs => _ | none => _) Q E = qO (blsOf ds) _
  cases blsOf ds <;> rfl
theorem blsOf_map {α : Type} (p : α → Bool) : ∀ xs : List α, blsOf (xs.map fun x => .bl (p x)) = some (xs.map p)
  | [] => rfl
  | x :: xs => by simp [blsOf, blsOf_map p xs]
/-! ### plain data compared -/
def nice : Nat → D → Bool
  | 0, _ => false
  | n + 1, .tup ds => ds.all (nice n)
  | n + 1, .lst ds => ds.all (nice n)
  | _ + 1, .str x => PyData.strOk x
  | _ + 1, .loc _ => false
  | _ + 1, .sta _ => false
  | _ + 1, .ty _ => false
  | _ + 1, _ => true
theorem mapM_self {f : D → Option D} : ∀ {ds : List D}, (∀ d ∈ ds, f d = some d) → ds.mapM f = some ds
  | [], _ => rfl
  | d :: ds, h => by
    rw [List.mapM_cons, h d (by simp), mapM_self fun e he => h e (by simp [he])]; rfl
theorem rsv_nice (μ : Mem) : ∀ (n : Nat) (d : D), nice n d = true → rsv μ n d = some d
  | 0, d, h => by cases h
  | n + 1, d, h => by
    cases d with
    | tup ds =>
      have h : ds.all (nice n) = true := h
      show (ds.mapM (rsv μ n)).map D.tup = _
      rw [mapM_self fun d hd => rsv_nice μ n d (List.all_eq_true.mp h d hd)]; rfl
    | lst ds =>
      have h : ds.all (nice n) = true := h
      show (ds.mapM (rsv μ n)).map D.lst = _
      rw [mapM_self fun d hd => rsv_nice μ n d (List.all_eq_true.mp h d hd)]; rfl
    | loc _ => cases h
    | sta _ => cases h
    | ty _ => cases h
    | _ => rfl
theorem toPys_map : ∀ ds : List D, toPys ds = ds.map toPy
  | [] => rfl
  | d :: ds => by rw [toPys, toPys_map ds]; rfl
theorem lay_nice : ∀ (n : Nat) (d : D), nice n d = true → (toPy d).canLay0 = true ∧ (toPy d).depth ≤ n
  | 0, d, h => by cases h
  | n + 1, d, h => by
    have all : ∀ ds : List D, ds.all (nice n) = true → PyData.canLayAll0 (toPys ds) = true ∧ PyData.depthAll (toPys ds) ≤ n := fun ds => by
      induction ds with
      | nil => intro _; simp [toPys, PyData.canLayAll0, PyData.depthAll]
      | cons d ds ih =>
        intro h
        simp only [List.all_cons, Bool.and_eq_true] at h
        have a := lay_nice n d h.1
        have b := ih h.2
        simp only [toPys, PyData.canLayAll0, PyData.depthAll, a.1, b.1, Bool.and_self, true_and]
        omega
    cases d with
    | tup ds => have := all ds h; simp only [toPy, PyData.canLay0, PyData.depth, this.1, true_and]; omega
    | lst ds => have := all ds h; simp only [toPy, PyData.canLay0, PyData.depth, this.1, true_and]; omega
    | loc _ => cases h
    | sta _ => cases h
    | ty _ => cases h
    | str x =>
      have h : PyData.strOk x = true := h
      simp [toPy, PyData.canLay0, PyData.depth, h]
    | _ => simp [toPy, PyData.canLay0, PyData.depth]
theorem fits_nice {n : Nat} {d : D} (h : nice n d = true) (hn : n ≤ 64) : d.fits = true := by
  have := lay_nice n d h
  unfold D.fits SeqAt.shaped
  simp only [this.1, Bool.true_and, decide_eq_true_eq]
  omega
theorem dcell_nice {μ : Mem} {n : Nat} {d : D} (h : nice n d = true) : dcell μ d = none := by
  cases d with
  | loc k => cases n <;> cases h
  | _ => rfl
theorem w_eq_nice {μ : Mem} {d e : D} (hd : nice 8 d = true) (he : nice 8 e = true) (Q : Bool → Mem → Prop) (E : EP) : wR (cEqA d e μ) Q E = Q (D.eqv d e) μ := by
  refine propext ⟨fun h => ?_, fun h => w_eq_of (.inl (dcell_nice hd)) (rsv_nice μ 8 d hd) (rsv_nice μ 8 e he) (fits_nice hd (by decide)) (fits_nice he (by decide)) E Q h⟩
  have : ∃ b, cEqA d e μ = .ok b μ ∧ b = D.eqv d e := by
    have := w_eq_of (μ := μ) (.inl (dcell_nice hd)) (rsv_nice μ 8 d hd) (rsv_nice μ 8 e he) (fits_nice hd (by decide)) (fits_nice he (by decide)) noE (fun b μ' => b = D.eqv d e ∧ μ' = μ) ⟨rfl, rfl⟩
    obtain ⟨b, μ', e1, e2, rfl⟩ := wR.of this
    exact ⟨b, e1, e2⟩
  obtain ⟨b, e1, rfl⟩ := this
  rw [e1] at h; exact h
theorem w_ne_nice {μ : Mem} {d e : D} (hd : nice 8 d = true) (he : nice 8 e = true) (Q : Bool → Mem → Prop) (E : EP) : wR (cNeA d e μ) Q E = Q (!(D.eqv d e)) μ := by
  unfold cNeA; rw [wR_bind, w_eq_nice hd he]; rfl
theorem pure_nice : ∀ (n : Nat) (d : D), nice n d = true → d.pure = true
  | 0, d, h => by cases h
  | n + 1, d, h => by
    have all : ∀ ds : List D, ds.all (nice n) = true → D.pures ds = true := fun ds => by
      induction ds with
      | nil => intro _; rfl
      | cons d ds ih =>
        intro h
        simp only [List.all_cons, Bool.and_eq_true] at h
        simp only [D.pures, pure_nice n d h.1, ih h.2, Bool.and_self]
    cases d with
    | tup ds => simp only [D.pure]; exact all ds h
    | lst ds => simp only [D.pure]; exact all ds h
    | loc _ => cases h
    | sta _ => cases h
    | ty _ => cases h
    | _ => rfl
theorem eqv_nice {n : Nat} {d : D} (h : nice n d = true) : D.eqv d d = true := D.eqv_refl d (pure_nice n d h)
end Doz
end
section
namespace Doz
open PySem L2
def t_x__law_source (c : Cl) : MS := (mseq (masg (mC (.int 0)) (gset 2))
    (mseq (masg (mC (.int 0)) (gset 3))
    (mseq (mifS (mcmp cGt (mcall fLen (mcons (mvar 0) mnil)) (mC (.int 0))) (masg (mop fIx (mvar 0) (mop fMod (mvar 1) (mcall fLen (mcons (mvar 0) mnil)))) (gset 2)) mnx)
    (mseq (mifS (mand (mcmp cLt (mvar 1) (mcall fLen (mcons (mvar 0) mnil))) (mcmp cGe (mvar 2) (mop fPow (mC (.int 10)) (mC (.int 18))))) (masg (mvar 2) (gset 3)) mnx)
    (mret (mlc (mlst (mcons (mvar 3) (mcons (mop fAdd (mop fAdd (mop fMod (mvar 2) (mC (.int 2147483647))) (mop fMul (mC (.int 7919000)) (mvar 1))) (mC (.int 104729))) (mcons (mC (.int 0)) mnil))))))))))
def m_x__law_source (c : Cl) : MF := runB 4 (t_x__law_source c)
def t_x__law_draw (c : Cl) : MS := (mseq (masg (mop fAdd (mop fIx (mvar 0) (mC (.int 2))) (mC (.int 1))) (gsub (mvar 0) (mC (.int 2))))
    (mseq (mifS (mcmp cGt (mop fIx (mvar 0) (mC (.int 0))) (mC (.int 0))) (mseq (masg (mop fMod (mop fIx (mvar 0) (mC (.int 0))) (mvar 1)) (gset 3))
    (mseq (masg (mop fDiv (mop fIx (mvar 0) (mC (.int 0))) (mvar 1)) (gsub (mvar 0) (mC (.int 0))))
    (mret (mvar 3)))) mnx)
    (mseq (masg (mop fMod (mop fPow (mop fAdd (mop fIx (mvar 0) (mC (.int 1))) (mop fMul (mC (.int 7919)) (mop fIx (mvar 0) (mC (.int 2))))) (mC (.int 5))) (mC (.int 2147483647))) (gset 2))
    (mret (mop fMod (mop fDiv (mop fMod (mop fMul (mop fAdd (mvar 2) (mop fIx (mvar 0) (mC (.int 2)))) (mC (.int 40692))) (mC (.int 2147483629))) (mC (.int 16))) (mvar 1))))))
def m_x__law_draw (c : Cl) : MF := runB 4 (t_x__law_draw c)
def t_x__law_names (c : Cl) : MS := (mseq (masg (mC (.str ("abcdefghijklmnopqrstuvwxyz" : Str))) (gset 2))
    (mseq (masg (mlc (mlst mnil)) (gset 3))
    (mseq (masg (mC (.str ("" : Str))) (gset 4))
    (mseq (masg (mbl (mcmp cEqA (mfn 2 0 (fun ds _ => ds) (m_x__law_draw c) (mpos (mcons (mvar 0) (mcons (mC (.int 2)) mnil)))) (mC (.int 1)))) (gset 5))
    (mseq (mfor (mcall fRng1 (mcons (mvar 1) mnil)) (gset 6) (mseq (mifS (mor (mnot (masB (mvar 5))) (mcmp cEqA (mvar 6) (mC (.int 0)))) (masg (mmeth tyS fJoin (mC (.str ("" : Str))) (mcons (mfz (mcomp [10] (mcall fRng1 (mcons (mfn 2 0 (fun ds _ => ds) (m_x__law_draw c) (mpos (mcons (mvar 0) (mcons (mC (.int 7)) mnil)))) mnil)) (gset 10) myes (mop fIx (mvar 2) (mfn 2 0 (fun ds _ => ds) (m_x__law_draw c) (mpos (mcons (mvar 0) (mcons (mC (.int 26)) mnil))))))) mnil)) (gset 4)) mnx)
    (mseq (masg (mfn 2 0 (fun ds _ => ds) (m_x__law_draw c) (mpos (mcons (mvar 0) (mcons (mop fAdd (mcall fLen (mcons (mvar 4) mnil)) (mC (.int 1))) mnil)))) (gset 7))
    (mseq (masg (mfn 2 0 (fun ds _ => ds) (m_x__law_draw c) (mpos (mcons (mvar 0) (mcons (mC (.int 26)) mnil)))) (gset 8))
    (mseq (masg (mC (.str ("" : Str))) (gset 9))
    (mseq (mfor (mcall fRng1 (mcons (mC (.int 26)) mnil)) (gset 10) (mseq (masg (mop fAdd (mop fAdd (mslice fSl (mvar 4) mnopart (mpart (mvar 7))) (mop fIx (mvar 2) (mop fMod (mop fAdd (mvar 8) (mvar 10)) (mC (.int 26))))) (mslice fSl (mvar 4) (mpart (mvar 7)) mnopart)) (gset 11))
    (mifS (mand (mcmp cEqA (mvar 9) (mC (.str ("" : Str)))) (mcmp cNotIn (mvar 11) (mvar 3))) (masg (mvar 11) (gset 9)) mnx)))
    (mdrop (mmeth tyL fAppend (mvar 3) (mcons (mvar 9) mnil)))))))))
    (mretFz (mvar 3)))))))
def m_x__law_names (c : Cl) : MF := runB 12 (t_x__law_names c)
def t_x__law_number (c : Cl) : MS := (mseq (masg (mfn 2 0 (fun ds _ => ds) (m_x__law_draw c) (mpos (mcons (mvar 0) (mcons (mC (.int 6)) mnil)))) (gset 1))
    (mseq (mifS (mcmp cEqA (mvar 1) (mC (.int 4))) (mret (mfn 2 0 (fun ds _ => ds) (m_x__law_draw c) (mpos (mcons (mvar 0) (mcons (mop fPow (mC (.int 10)) (mC (.int 60))) mnil))))) mnx)
    (mseq (mifS (mcmp cEqA (mvar 1) (mC (.int 5))) (mret (mop fSub (mC (.int 0)) (mfn 2 0 (fun ds _ => ds) (m_x__law_draw c) (mpos (mcons (mvar 0) (mcons (mop fPow (mC (.int 10)) (mC (.int 60))) mnil)))))) mnx)
    (mret (mop fSub (mfn 2 0 (fun ds _ => ds) (m_x__law_draw c) (mpos (mcons (mvar 0) (mcons (mC (.int 4)) mnil)))) (mC (.int 1)))))))
def m_x__law_number (c : Cl) : MF := runB 2 (t_x__law_number c)
end Doz
end
section
/-! DozS1: what the laws' draws tell. -/
namespace Doz
open PySem L2
open TL (tl ext_tl tl_append)
/-- a source of draws -/
def SrcAt (μ : Mem) (n : Nat) (B : Int) : Prop := ∃ a b c : Int, μ.cells[n]? = some (.lst [.int a, .int b, .int c]) ∧ 0 ≤ b ∧ b < 2 ^ 50 ∧ 0 ≤ c ∧ c ≤ B
theorem draw_ok {c : Cl} {μ : Mem} {n : Nat} {B k : Int} (h : SrcAt μ n B) (hB : B < 2 ^ 40) (hk : 0 < k) (hk2 : k ≤ 10 ^ 60) :
    wR (m_x__law_draw c [.loc n, .int k] μ) (fun v μ' => ∃ d : Int, v = .int d ∧ 0 ≤ d ∧ d < k ∧ SrcAt μ' n (B + 1) ∧ Fr [n] μ μ') noE := by
  obtain ⟨x, y, z, hc, h0, h1, h2, h3⟩ := h
  have hl := at_lt hc
  unfold m_x__law_draw
  rw [w_run]
  show wS (t_x__law_draw c) [some (.loc n), some (.int k), none, none] μ _
  unfold t_x__law_draw
  simp -failIfUnchanged (disch := (first | (simp only [len_push, len_set]; omega) | omega | assumption)) only [↓wR_ok, ↓wR_err, ↓wE_var0, ↓wE_varS, ↓wE_C, ↓wE_op, ↓wE_cmp, ↓wE_bl, ↓qB_bl, ↓wE_asB, ↓wE_and, ↓wE_or, ↓wE_not, ↓wE_andV, ↓wE_orV, ↓wE_notV, ↓wE_if, ↓wE_nil, ↓wE_cons, ↓wE_fz, ↓wE_lc, ↓wE_tup, ↓wE_lst, ↓wE_call, ↓wE_nopart, ↓qI_int, ↓wE_part, ↓wE_slice, ↓wE_fld, ↓wE_dnew, ↓wE_iter, ↓wE_rev, ↓wE_pos, ↓wE_kws, ↓wE_noa, ↓wE_both, ↓wE_fn, ↓wE_mth, ↓qN_non, ↓wE_mk, ↓wE_meth, ↓wE_neg, ↓wE_chain, ↓wE_comp, ↓wS_nx, ↓wS_bk, ↓wS_ct, ↓wS_seq, ↓wS_drop, ↓wS_ret, ↓wS_retN, ↓wS_if, ↓wS_asg, ↓qL_loc, ↓qCl_lst, ↓wS_retFz, ↓wS_raise, ↓wS_for, ↓wS_try, ↓wG_set0, ↓wG_setS, ↓wG_then, ↓wG_sub, ↓wG_fld, ↓qT_tup, ↓wG_tup, ↓wGs_nil, ↓wGs_cons, ↓endB_nx, ↓endB_rt, ↓endB_er, ↓endB_bk, ↓endB_ct, ↓loopP_nx, ↓loopP_ct, ↓loopP_bk, ↓loopP_rt, ↓loopP_er, ↓qO_some, ↓qO_at0, ↓qO_at1, ↓qO_at2, ↓qO_at3, ↓qO_at4, ↓qO_at5, ↓w_add_int, ↓w_add_str, ↓w_add_tup, ↓w_add_lst, ↓w_sub, ↓w_mod, ↓w_div, ↓w_mul, ↓w_pow, ↓w_band, ↓w_lt, ↓w_le, ↓w_gt, ↓w_ge, ↓w_is, ↓w_isNot, ↓nonN, ↓nonI, ↓nonS, ↓nonT, ↓nonL, ↓nonLoc, ↓w_eq_int, ↓w_ne_int, ↓w_eq_str, ↓w_ne_str, ↓qIx_lst, ↓qIx_dK, ↓qIxS_dK, ↓w_ix_loc, ↓w_ix_locS, ↓w_ix_lst, ↓w_ix_tup, ↓w_ix_str, ↓qLS_0, ↓qLS_1, ↓qLS_2, ↓qLS_3, ↓qSet_lst, ↓qSet_dK, ↓qSetS_dK, ↓w_setI, ↓w_setS, ↓qF_ins, ↓w_fld, ↓qSF_ins, ↓w_setF, ↓w_len_str, ↓w_len_lst, ↓w_len_tup, ↓qLen_lst, ↓qLen_dK, ↓w_len_loc, ↓w_max, ↓w_min, ↓w_int_int, ↓w_int_bl, ↓w_str_int, ↓qDc_dK, ↓w_dict, ↓w_tuple_lst, ↓w_tuple_tup, ↓w_tuple_loc, ↓w_list_lst, ↓w_list_tup, ↓w_iter_lst, ↓w_iter_tup, ↓w_iter_str, ↓w_iter_loc, ↓w_rng1, ↓w_rng2, ↓w_sl_str, ↓w_sl_tup, ↓w_sl_lst, ↓w_append, ↓w_lclear, ↓tyS_str, ↓tyL_lst, ↓qM_loc, ↓look1, ↓wC_set, ↓wC_setn, ↓wC_push2, ↓wC_pushn, ↓wE_yes, ↓wE_revL, ↓qO_lst, ↓w_all_lst, ↓w_join_lst, ↓isi_non_int, ↓isi_non_bool, ↓isi_non_str, ↓isi_non_tuple, ↓isi_non_list, ↓isi_non_dict, ↓isi_bl_int, ↓isi_bl_bool, ↓isi_bl_str, ↓isi_bl_tuple, ↓isi_bl_list, ↓isi_bl_dict, ↓isi_int_int, ↓isi_int_bool, ↓isi_int_str, ↓isi_int_tuple, ↓isi_int_list, ↓isi_int_dict, ↓isi_str_int, ↓isi_str_bool, ↓isi_str_str, ↓isi_str_tuple, ↓isi_str_list, ↓isi_str_dict, ↓isi_tup_int, ↓isi_tup_bool, ↓isi_tup_str, ↓isi_tup_tuple, ↓isi_tup_list, ↓isi_tup_dict, ↓isi_lst_int, ↓isi_lst_bool, ↓isi_lst_str, ↓isi_lst_tuple, ↓isi_lst_list, ↓isi_lst_dict, decide_eq_true_eq, beq_iff_eq, Bool.not_eq_true', Bool.not_eq_eq_eq_not, Bool.not_true, Bool.not_false, decide_eq_false_iff_not, beq_eq_false_iff_ne, ne_eq, true_and, and_true, if_true, if_false, ite_true, ite_false, reduceIte, Bool.false_eq_true, not_false_eq_true, not_true_eq_false, Int.reduceLT, Int.reduceLE, Int.reduceToNat, Nat.reduceLT, Nat.reduceLeDiff, Int.reducePow, Nat.reduceAdd, Int.reduceAdd, Int.reduceMul, Int.reduceSub, Int.reduceNeg, Nat.reducePow, Int.reduceEq, Nat.reduceEqDiff, List.length_cons, List.length_nil, PySem.sizeLine_eq, str_len_app, str_len_one, wipeD, List.set_cons_zero, List.set_cons_succ, ↓wC_of hc, ↓wC_set hl]
  split
  · repeat refine And.intro (by (first | exact mulOk (by omega) (by omega) (by omega) (by omega) | exact divOk (by omega) (by omega) | exact powOk (by omega) (by omega) (by omega) (by omega) | exact strOk' (by omega) (by omega) | assumption | omega | decide)) ?_
    refine ⟨_, rfl, Int.emod_nonneg _ (by omega), Int.emod_lt_of_pos _ hk, ⟨_, _, _, (by rw [set_set, at_set hl]), h0, h1, by omega, by omega⟩, (Fr.set1 _ n _).trans (Fr.set1 _ n _)⟩
  · have hp : 0 ≤ (y + 7919 * (z + 1)) ^ 5 % 2147483647 := Int.emod_nonneg _ (by decide)
    have hq : (y + 7919 * (z + 1)) ^ 5 % 2147483647 < 2147483647 := Int.emod_lt_of_pos _ (by decide)
    repeat refine And.intro (by (first | exact mulOk (by omega) (by omega) (by omega) (by omega) | exact divOk (by omega) (by omega) | exact powOk (by omega) (by omega) (by omega) (by omega) | exact strOk' (by omega) (by omega) | assumption | omega | decide)) ?_
    refine ⟨_, rfl, Int.emod_nonneg _ (by omega), Int.emod_lt_of_pos _ hk, ⟨_, _, _, at_set hl, h0, h1, by omega, by omega⟩, Fr.set1 _ n _⟩
theorem source_ok {c : Cl} {μ : Mem} {ns : List Int} {k : Int} (hk : 0 ≤ k) (hk2 : k < 2 ^ 20) (hn : ns.length ≤ 63) :
    wR (m_x__law_source c [.lst (ns.map D.int), .int k] μ) (fun v μ' => v = .loc μ.cells.length ∧ SrcAt μ' μ.cells.length 0 ∧ Fr [] μ μ') noE := by
  unfold m_x__law_source
  rw [w_run]
  show wS (t_x__law_source c) [some (.lst (ns.map D.int)), some (.int k), none, none] μ _
  unfold t_x__law_source
  have fin : ∀ a b : Int, 0 ≤ b → b < 2 ^ 50 → SrcAt (μ.push (.lst [.int a, .int b, .int 0])) μ.cells.length 0 ∧ Fr [] μ (μ.push (.lst [.int a, .int b, .int 0])) := fun a b h1 h2 => ⟨⟨_, _, _, at_push, h1, h2, by omega, by omega⟩, Fr.push _ _ _⟩
  by_cases h0 : ns.length = 0
  · simp -failIfUnchanged (disch := (first | (simp only [len_push, len_set]; omega) | omega | assumption)) only [↓wR_ok, ↓wR_err, ↓wE_var0, ↓wE_varS, ↓wE_C, ↓wE_op, ↓wE_cmp, ↓wE_bl, ↓qB_bl, ↓wE_asB, ↓wE_and, ↓wE_or, ↓wE_not, ↓wE_andV, ↓wE_orV, ↓wE_notV, ↓wE_if, ↓wE_nil, ↓wE_cons, ↓wE_fz, ↓wE_lc, ↓wE_tup, ↓wE_lst, ↓wE_call, ↓wE_nopart, ↓qI_int, ↓wE_part, ↓wE_slice, ↓wE_fld, ↓wE_dnew, ↓wE_iter, ↓wE_rev, ↓wE_pos, ↓wE_kws, ↓wE_noa, ↓wE_both, ↓wE_fn, ↓wE_mth, ↓qN_non, ↓wE_mk, ↓wE_meth, ↓wE_neg, ↓wE_chain, ↓wE_comp, ↓wS_nx, ↓wS_bk, ↓wS_ct, ↓wS_seq, ↓wS_drop, ↓wS_ret, ↓wS_retN, ↓wS_if, ↓wS_asg, ↓qL_loc, ↓qCl_lst, ↓wS_retFz, ↓wS_raise, ↓wS_for, ↓wS_try, ↓wG_set0, ↓wG_setS, ↓wG_then, ↓wG_sub, ↓wG_fld, ↓qT_tup, ↓wG_tup, ↓wGs_nil, ↓wGs_cons, ↓endB_nx, ↓endB_rt, ↓endB_er, ↓endB_bk, ↓endB_ct, ↓loopP_nx, ↓loopP_ct, ↓loopP_bk, ↓loopP_rt, ↓loopP_er, ↓qO_some, ↓qO_at0, ↓qO_at1, ↓qO_at2, ↓qO_at3, ↓qO_at4, ↓qO_at5, ↓w_add_int, ↓w_add_str, ↓w_add_tup, ↓w_add_lst, ↓w_sub, ↓w_mod, ↓w_div, ↓w_mul, ↓w_pow, ↓w_band, ↓w_lt, ↓w_le, ↓w_gt, ↓w_ge, ↓w_is, ↓w_isNot, ↓nonN, ↓nonI, ↓nonS, ↓nonT, ↓nonL, ↓nonLoc, ↓w_eq_int, ↓w_ne_int, ↓w_eq_str, ↓w_ne_str, ↓qIx_lst, ↓qIx_dK, ↓qIxS_dK, ↓w_ix_loc, ↓w_ix_locS, ↓w_ix_lst, ↓w_ix_tup, ↓w_ix_str, ↓qLS_0, ↓qLS_1, ↓qLS_2, ↓qLS_3, ↓qSet_lst, ↓qSet_dK, ↓qSetS_dK, ↓w_setI, ↓w_setS, ↓qF_ins, ↓w_fld, ↓qSF_ins, ↓w_setF, ↓w_len_str, ↓w_len_lst, ↓w_len_tup, ↓qLen_lst, ↓qLen_dK, ↓w_len_loc, ↓w_max, ↓w_min, ↓w_int_int, ↓w_int_bl, ↓w_str_int, ↓qDc_dK, ↓w_dict, ↓w_tuple_lst, ↓w_tuple_tup, ↓w_tuple_loc, ↓w_list_lst, ↓w_list_tup, ↓w_iter_lst, ↓w_iter_tup, ↓w_iter_str, ↓w_iter_loc, ↓w_rng1, ↓w_rng2, ↓w_sl_str, ↓w_sl_tup, ↓w_sl_lst, ↓w_append, ↓w_lclear, ↓tyS_str, ↓tyL_lst, ↓qM_loc, ↓look1, ↓wC_set, ↓wC_setn, ↓wC_push2, ↓wC_pushn, ↓wE_yes, ↓wE_revL, ↓qO_lst, ↓w_all_lst, ↓w_join_lst, ↓isi_non_int, ↓isi_non_bool, ↓isi_non_str, ↓isi_non_tuple, ↓isi_non_list, ↓isi_non_dict, ↓isi_bl_int, ↓isi_bl_bool, ↓isi_bl_str, ↓isi_bl_tuple, ↓isi_bl_list, ↓isi_bl_dict, ↓isi_int_int, ↓isi_int_bool, ↓isi_int_str, ↓isi_int_tuple, ↓isi_int_list, ↓isi_int_dict, ↓isi_str_int, ↓isi_str_bool, ↓isi_str_str, ↓isi_str_tuple, ↓isi_str_list, ↓isi_str_dict, ↓isi_tup_int, ↓isi_tup_bool, ↓isi_tup_str, ↓isi_tup_tuple, ↓isi_tup_list, ↓isi_tup_dict, ↓isi_lst_int, ↓isi_lst_bool, ↓isi_lst_str, ↓isi_lst_tuple, ↓isi_lst_list, ↓isi_lst_dict, decide_eq_true_eq, beq_iff_eq, Bool.not_eq_true', Bool.not_eq_eq_eq_not, Bool.not_true, Bool.not_false, decide_eq_false_iff_not, beq_eq_false_iff_ne, ne_eq, true_and, and_true, if_true, if_false, ite_true, ite_false, reduceIte, Bool.false_eq_true, not_false_eq_true, not_true_eq_false, Int.reduceLT, Int.reduceLE, Int.reduceToNat, Nat.reduceLT, Nat.reduceLeDiff, Int.reducePow, Nat.reduceAdd, Int.reduceAdd, Int.reduceMul, Int.reduceSub, Int.reduceNeg, Nat.reducePow, Int.reduceEq, Nat.reduceEqDiff, List.length_cons, List.length_nil, PySem.sizeLine_eq, str_len_app, str_len_one, wipeD, List.set_cons_zero, List.set_cons_succ, List.length_map, h0]
    split
    · omega
    · split
      · omega
      · repeat refine And.intro (by (first | exact mulOk (by omega) (by omega) (by omega) (by omega) | exact divOk (by omega) (by omega) | exact powOk (by omega) (by omega) (by omega) (by omega) | exact strOk' (by omega) (by omega) | assumption | omega | decide)) ?_
        exact fin _ _ (by omega) (by omega)
  · obtain ⟨v, hv, _⟩ := atI_mapI (xs := ns) (i := k % ns.length) (Int.emod_nonneg _ (by omega)) (Int.emod_lt_of_pos _ (by omega))
    simp -failIfUnchanged (disch := (first | (simp only [len_push, len_set]; omega) | omega | assumption)) only [↓wR_ok, ↓wR_err, ↓wE_var0, ↓wE_varS, ↓wE_C, ↓wE_op, ↓wE_cmp, ↓wE_bl, ↓qB_bl, ↓wE_asB, ↓wE_and, ↓wE_or, ↓wE_not, ↓wE_andV, ↓wE_orV, ↓wE_notV, ↓wE_if, ↓wE_nil, ↓wE_cons, ↓wE_fz, ↓wE_lc, ↓wE_tup, ↓wE_lst, ↓wE_call, ↓wE_nopart, ↓qI_int, ↓wE_part, ↓wE_slice, ↓wE_fld, ↓wE_dnew, ↓wE_iter, ↓wE_rev, ↓wE_pos, ↓wE_kws, ↓wE_noa, ↓wE_both, ↓wE_fn, ↓wE_mth, ↓qN_non, ↓wE_mk, ↓wE_meth, ↓wE_neg, ↓wE_chain, ↓wE_comp, ↓wS_nx, ↓wS_bk, ↓wS_ct, ↓wS_seq, ↓wS_drop, ↓wS_ret, ↓wS_retN, ↓wS_if, ↓wS_asg, ↓qL_loc, ↓qCl_lst, ↓wS_retFz, ↓wS_raise, ↓wS_for, ↓wS_try, ↓wG_set0, ↓wG_setS, ↓wG_then, ↓wG_sub, ↓wG_fld, ↓qT_tup, ↓wG_tup, ↓wGs_nil, ↓wGs_cons, ↓endB_nx, ↓endB_rt, ↓endB_er, ↓endB_bk, ↓endB_ct, ↓loopP_nx, ↓loopP_ct, ↓loopP_bk, ↓loopP_rt, ↓loopP_er, ↓qO_some, ↓qO_at0, ↓qO_at1, ↓qO_at2, ↓qO_at3, ↓qO_at4, ↓qO_at5, ↓w_add_int, ↓w_add_str, ↓w_add_tup, ↓w_add_lst, ↓w_sub, ↓w_mod, ↓w_div, ↓w_mul, ↓w_pow, ↓w_band, ↓w_lt, ↓w_le, ↓w_gt, ↓w_ge, ↓w_is, ↓w_isNot, ↓nonN, ↓nonI, ↓nonS, ↓nonT, ↓nonL, ↓nonLoc, ↓w_eq_int, ↓w_ne_int, ↓w_eq_str, ↓w_ne_str, ↓qIx_lst, ↓qIx_dK, ↓qIxS_dK, ↓w_ix_loc, ↓w_ix_locS, ↓w_ix_lst, ↓w_ix_tup, ↓w_ix_str, ↓qLS_0, ↓qLS_1, ↓qLS_2, ↓qLS_3, ↓qSet_lst, ↓qSet_dK, ↓qSetS_dK, ↓w_setI, ↓w_setS, ↓qF_ins, ↓w_fld, ↓qSF_ins, ↓w_setF, ↓w_len_str, ↓w_len_lst, ↓w_len_tup, ↓qLen_lst, ↓qLen_dK, ↓w_len_loc, ↓w_max, ↓w_min, ↓w_int_int, ↓w_int_bl, ↓w_str_int, ↓qDc_dK, ↓w_dict, ↓w_tuple_lst, ↓w_tuple_tup, ↓w_tuple_loc, ↓w_list_lst, ↓w_list_tup, ↓w_iter_lst, ↓w_iter_tup, ↓w_iter_str, ↓w_iter_loc, ↓w_rng1, ↓w_rng2, ↓w_sl_str, ↓w_sl_tup, ↓w_sl_lst, ↓w_append, ↓w_lclear, ↓tyS_str, ↓tyL_lst, ↓qM_loc, ↓look1, ↓wC_set, ↓wC_setn, ↓wC_push2, ↓wC_pushn, ↓wE_yes, ↓wE_revL, ↓qO_lst, ↓w_all_lst, ↓w_join_lst, ↓isi_non_int, ↓isi_non_bool, ↓isi_non_str, ↓isi_non_tuple, ↓isi_non_list, ↓isi_non_dict, ↓isi_bl_int, ↓isi_bl_bool, ↓isi_bl_str, ↓isi_bl_tuple, ↓isi_bl_list, ↓isi_bl_dict, ↓isi_int_int, ↓isi_int_bool, ↓isi_int_str, ↓isi_int_tuple, ↓isi_int_list, ↓isi_int_dict, ↓isi_str_int, ↓isi_str_bool, ↓isi_str_str, ↓isi_str_tuple, ↓isi_str_list, ↓isi_str_dict, ↓isi_tup_int, ↓isi_tup_bool, ↓isi_tup_str, ↓isi_tup_tuple, ↓isi_tup_list, ↓isi_tup_dict, ↓isi_lst_int, ↓isi_lst_bool, ↓isi_lst_str, ↓isi_lst_tuple, ↓isi_lst_list, ↓isi_lst_dict, decide_eq_true_eq, beq_iff_eq, Bool.not_eq_true', Bool.not_eq_eq_eq_not, Bool.not_true, Bool.not_false, decide_eq_false_iff_not, beq_eq_false_iff_ne, ne_eq, true_and, and_true, if_true, if_false, ite_true, ite_false, reduceIte, Bool.false_eq_true, not_false_eq_true, not_true_eq_false, Int.reduceLT, Int.reduceLE, Int.reduceToNat, Nat.reduceLT, Nat.reduceLeDiff, Int.reducePow, Nat.reduceAdd, Int.reduceAdd, Int.reduceMul, Int.reduceSub, Int.reduceNeg, Nat.reducePow, Int.reduceEq, Nat.reduceEqDiff, List.length_cons, List.length_nil, PySem.sizeLine_eq, str_len_app, str_len_one, wipeD, List.set_cons_zero, List.set_cons_succ, List.length_map, ↓qO_of hv]
    have b : 0 ≤ v % 2147483647 ∧ v % 2147483647 < 2147483647 := ⟨Int.emod_nonneg _ (by decide), Int.emod_lt_of_pos _ (by decide)⟩
    split
    · repeat refine And.intro (by (first | exact mulOk (by omega) (by omega) (by omega) (by omega) | exact divOk (by omega) (by omega) | exact powOk (by omega) (by omega) (by omega) (by omega) | exact strOk' (by omega) (by omega) | assumption | omega | decide)) ?_
      split
      · repeat refine And.intro (by (first | exact mulOk (by omega) (by omega) (by omega) (by omega) | exact divOk (by omega) (by omega) | exact powOk (by omega) (by omega) (by omega) (by omega) | exact strOk' (by omega) (by omega) | assumption | omega | decide)) ?_
        split
        · repeat refine And.intro (by (first | exact mulOk (by omega) (by omega) (by omega) (by omega) | exact divOk (by omega) (by omega) | exact powOk (by omega) (by omega) (by omega) (by omega) | exact strOk' (by omega) (by omega) | assumption | omega | decide)) ?_
          exact fin _ _ (by omega) (by omega)
        · repeat refine And.intro (by (first | exact mulOk (by omega) (by omega) (by omega) (by omega) | exact divOk (by omega) (by omega) | exact powOk (by omega) (by omega) (by omega) (by omega) | exact strOk' (by omega) (by omega) | assumption | omega | decide)) ?_
          exact fin _ _ (by omega) (by omega)
      · repeat refine And.intro (by (first | exact mulOk (by omega) (by omega) (by omega) (by omega) | exact divOk (by omega) (by omega) | exact powOk (by omega) (by omega) (by omega) (by omega) | exact strOk' (by omega) (by omega) | assumption | omega | decide)) ?_
        exact fin _ _ (by omega) (by omega)
    · omega
theorem SrcAt.fr {S : List Nat} {μ μ' : Mem} {n : Nat} {B : Int} (h : SrcAt μ n B) (f : Fr S μ μ') (hn : n ∉ S) : SrcAt μ' n B := by
  obtain ⟨a, b, c, h, r⟩ := h
  exact ⟨a, b, c, f.get h hn, r⟩
theorem SrcAt.push {μ : Mem} {n : Nat} {B : Int} (h : SrcAt μ n B) (c : Cell) : SrcAt (μ.push c) n B := h.fr (Fr.push [] μ c) (by simp)
theorem SrcAt.mono {μ : Mem} {n : Nat} {B B' : Int} (h : SrcAt μ n B) (hb : B ≤ B') : SrcAt μ n B' := by
  obtain ⟨a, b, c, h, h1, h2, h3, h4⟩ := h
  exact ⟨a, b, c, h, h1, h2, h3, by omega⟩
theorem SrcAt.lt {μ : Mem} {n : Nat} {B : Int} (h : SrcAt μ n B) : n < μ.cells.length := by obtain ⟨_, _, _, h, _⟩ := h; exact at_lt h
/-! ### texts -/
theorem len_tl (x : Str) : x.length = (tl x).length := by simp [Str.length]
theorem cut_tl_lo (x : Str) (k : Nat) : tl (cutS x none (some (k : Int))) = (tl x).take k := by
  show ((tl x).drop 0).take (HT.sIx x.length x.length (some (k : Int)) - 0) = _
  rw [HT.sIx_nat, len_tl]
  simp only [List.drop_zero, Nat.sub_zero]
  rcases Nat.le_total k (tl x).length with h | h
  · rw [Nat.min_eq_left h]
  · rw [Nat.min_eq_right h, List.take_of_length_le h, List.take_of_length_le (Nat.le_refl _)]
theorem cut_tl_hi (x : Str) (k : Nat) : tl (cutS x (some (k : Int)) none) = (tl x).drop k := by
  show ((tl x).drop (HT.sIx x.length 0 (some (k : Int)))).take (x.length - HT.sIx x.length 0 (some (k : Int))) = _
  rw [HT.sIx_nat, len_tl]
  rcases Nat.le_total k (tl x).length with h | h
  · rw [Nat.min_eq_left h, List.take_of_length_le (by simp)]
  · rw [Nat.min_eq_right h, List.drop_of_length_le (Nat.le_refl _), List.drop_of_length_le h]; simp
/-- letters a to z alone -/
def Low (x : Str) : Prop := ∀ c ∈ tl x, 97 ≤ c ∧ c ≤ 122
theorem letters_tl : tl ("abcdefghijklmnopqrstuvwxyz" : Str) = (List.range 26).map (97 + ·) := by decide +kernel
theorem letters_len : ("abcdefghijklmnopqrstuvwxyz" : Str).length = 26 := by rw [len_tl, letters_tl]; simp
theorem letter_at {i : Int} (h0 : 0 ≤ i) (h1 : i < 26) : atI ("abcdefghijklmnopqrstuvwxyz" : Str).cps.toList i = some (97 + i.toNat) := by
  have e : ("abcdefghijklmnopqrstuvwxyz" : Str).cps.toList = (List.range 26).map (97 + ·) := letters_tl
  rw [e]
  obtain ⟨v, h, h'⟩ := atI_lt (xs := (List.range 26).map (97 + ·)) h0 (by simpa using h1)
  rw [h, ← h']
  rw [List.getElem?_map, List.getElem?_range (by omega)]; rfl
theorem pigeon {α : Type} [DecidableEq α] : ∀ {l r : List α}, l.Nodup → (∀ a ∈ l, a ∈ r) → l.length ≤ r.length
  | [], r, _, _ => Nat.zero_le _
  | a :: l, r, hn, hs => by
    have ha := hs a (by simp)
    have h := pigeon (l := l) (r := r.erase a) (List.nodup_cons.mp hn).2 fun b hb => by
      refine (List.mem_erase_of_ne fun e => ?_).mpr (hs b (by simp [hb]))
      subst e; exact (List.nodup_cons.mp hn).1 hb
    rw [List.length_erase_of_mem ha] at h
    have := List.length_pos_of_mem ha
    simp only [List.length_cons]; omega
theorem nodup_map_on {α β : Type} {f : α → β} : ∀ {l : List α}, (∀ x ∈ l, ∀ y ∈ l, f x = f y → x = y) → l.Nodup → (l.map f).Nodup
  | [], _, _ => List.nodup_nil
  | a :: l, hi, hn => by
    rw [List.map_cons, List.nodup_cons]
    refine ⟨fun hm => ?_, nodup_map_on (fun x hx y hy => hi x (by simp [hx]) y (by simp [hy])) (List.nodup_cons.mp hn).2⟩
    obtain ⟨b, hb, e⟩ := List.mem_map.mp hm
    have := hi b (by simp [hb]) a (by simp) e
    subst this
    exact (List.nodup_cons.mp hn).1 hb
/-- a word with one letter put in -/
def putIn (b : Str) (k : Nat) (c : Nat) : Str := cutS b none (some (k : Int)) ++ ⟨#[c]⟩ ++ cutS b (some (k : Int)) none
theorem putIn_tl (b : Str) (k c : Nat) : tl (putIn b k c) = (tl b).take k ++ c :: (tl b).drop k := by
  unfold putIn; rw [tl_append, tl_append, cut_tl_lo, cut_tl_hi]; simp [tl]
theorem putIn_inj {b : Str} {k c d : Nat} (h : putIn b k c = putIn b k d) : c = d := by
  have := congrArg tl h
  rw [putIn_tl, putIn_tl] at this
  simpa using (List.append_cancel_left this)
theorem putIn_len (b : Str) (k c : Nat) : (putIn b k c).length = b.length + 1 := by
  rw [len_tl, putIn_tl, len_tl]; simp; omega
theorem putIn_low {b : Str} {k c : Nat} (hb : Low b) (hc : 97 ≤ c ∧ c ≤ 122) : Low (putIn b k c) := by
  intro d hd
  rw [putIn_tl] at hd
  rcases List.mem_append.mp hd with hd | hd
  · exact hb d (List.mem_of_mem_take hd)
  · rcases List.mem_cons.mp hd with rfl | hd
    · exact hc
    · exact hb d (List.mem_of_mem_drop hd)
/-! ### words by letters -/
def words (xs : List Str) : List D := xs.map D.str
theorem strsOf_words : ∀ xs : List Str, strsOf (xs.map D.str) = some xs
  | [] => rfl
  | x :: xs => by simp [strsOf, strsOf_words xs]
theorem in_words {x : Str} : ∀ {ws : List Str}, ((ws.map D.str).any fun z => D.eqv z (.str x)) = decide (x ∈ ws)
  | [] => by simp
  | w :: ws => by
    rw [List.map_cons, List.any_cons, in_words]
    have : D.eqv (.str w) (.str x) = decide (x = w) := by simp [D.eqv, eq_comm, Bool.beq_eq_decide_eq]
    rw [this]; simp
theorem all_sc_words (ws : List Str) : (ws.map D.str).all D.sc = true := by simp [D.sc]
theorem w_notIn_words {μ : Mem} {n : Nat} {ws : List Str} (h : μ.cells[n]? = some (.lst (ws.map D.str))) (x : Str) (E : EP) (Q : Bool → Mem → Prop) : wR (cNotIn (.str x) (.loc n) μ) Q E = Q (!decide (x ∈ ws)) μ := by
  have e : cIn (.str x) (.loc n) μ = .ok (decide (x ∈ ws)) μ := by
    unfold cIn
    have h1 : signIn (.str x) (.loc n) = none := rfl
    have h2 : dfind μ (.loc n) (.str x) = none := by unfold dfind dictOf; dsimp only; rw [h]; rfl
    have h3 : seqOf μ (.loc n) = some (ws.map D.str) := by unfold seqOf lstOf; dsimp only; rw [h]
    rw [h1, h2]
    dsimp only
    rw [h3]
    dsimp only
    rw [all_sc_words, in_words]
    rfl
  unfold cNotIn; rw [wR_bind, e]; rfl
structure Word (w : Str) : Prop where
  pos : 1 ≤ w.length
  le : w.length ≤ 7
  low : Low w
theorem Low.ok {w : Str} (h : Low w) : PyData.strOk w = true := by
  unfold PyData.strOk
  rw [Array.all_eq_true']
  intro c hc
  have := h c (by simpa [tl] using hc)
  simp; omega
theorem Word.ok {w : Str} (h : Word w) : PyData.strOk w = true := h.low.ok
theorem join_chars (cs : List Nat) : tl (Txt.join ("" : Str) (cs.map fun c => (⟨#[c]⟩ : Str))) = cs := by
  rw [TL.join_eq, TL.tl_join]
  have e : tl ("" : Str) = [] := by decide +kernel
  rw [e]
  have : ∀ cs : List Nat, TL.joinL [] ((cs.map fun c => (⟨#[c]⟩ : Str)).map tl) = cs := fun cs => by
    induction cs with
    | nil => rfl
    | cons c r ih =>
      cases r with
      | nil => rfl
      | cons d r => show [c] ++ ([] ++ TL.joinL [] (List.map tl (List.map (fun c => (⟨#[c]⟩ : Str)) (d :: r)))) = _; rw [List.nil_append, ih]; rfl
  exact this cs
theorem low_nil : Low "" := by intro c hc; rw [show tl ("" : Str) = [] by decide +kernel] at hc; cases hc
def nmE (n : Nat) (k : Int) (p : Nat) (body : Str) (b : Bool) (x6 x7 x8 x9 x10 x11 : Option D) : DEnv := [some (.loc n), some (.int k), some (.str "abcdefghijklmnopqrstuvwxyz"), some (.loc p), some (.str body), some (.bl b), x6, x7, x8, x9, x10, x11]
theorem names_ok {c : Cl} {μ : Mem} {n : Nat} {B k : Int} (h : SrcAt μ n B) (hB : B + 1 + 9 * k < 2 ^ 40) (hB0 : 0 ≤ B) (hk : 0 ≤ k) (hk2 : k ≤ 20) (hl : μ.lk = []) :
    wR (m_x__law_names c [.loc n, .int k] μ) (fun v μ' => ∃ ws : List Str, v = .lst (ws.map D.str) ∧ (ws.length : Int) = k ∧ ws.Nodup ∧ (∀ w ∈ ws, Word w) ∧ SrcAt μ' n (B + 1 + 9 * k) ∧ Fr [n] μ μ') noE := by
  have hn : n < μ.cells.length := by obtain ⟨_, _, _, h, _⟩ := h; exact at_lt h
  unfold m_x__law_names
  rw [w_run]
  show wS (t_x__law_names c) [some (.loc n), some (.int k), none, none, none, none, none, none, none, none, none, none] μ _
  unfold t_x__law_names
  simp -failIfUnchanged (disch := (first | (simp only [len_push, len_set]; omega) | omega | assumption)) only [↓wR_ok, ↓wR_err, ↓wE_var0, ↓wE_varS, ↓wE_C, ↓wE_op, ↓wE_cmp, ↓wE_bl, ↓qB_bl, ↓wE_asB, ↓wE_and, ↓wE_or, ↓wE_not, ↓wE_andV, ↓wE_orV, ↓wE_notV, ↓wE_if, ↓wE_nil, ↓wE_cons, ↓wE_fz, ↓wE_lc, ↓wE_tup, ↓wE_lst, ↓wE_call, ↓wE_nopart, ↓qI_int, ↓wE_part, ↓wE_slice, ↓wE_fld, ↓wE_dnew, ↓wE_iter, ↓wE_rev, ↓wE_pos, ↓wE_kws, ↓wE_noa, ↓wE_both, ↓wE_fn, ↓wE_mth, ↓qN_non, ↓wE_mk, ↓wE_meth, ↓wE_neg, ↓wE_chain, ↓wE_comp, ↓wS_nx, ↓wS_bk, ↓wS_ct, ↓wS_seq, ↓wS_drop, ↓wS_ret, ↓wS_retN, ↓wS_if, ↓wS_asg, ↓qL_loc, ↓qCl_lst, ↓wS_retFz, ↓wS_raise, ↓wS_for, ↓wS_try, ↓wG_set0, ↓wG_setS, ↓wG_then, ↓wG_sub, ↓wG_fld, ↓qT_tup, ↓wG_tup, ↓wGs_nil, ↓wGs_cons, ↓endB_nx, ↓endB_rt, ↓endB_er, ↓endB_bk, ↓endB_ct, ↓loopP_nx, ↓loopP_ct, ↓loopP_bk, ↓loopP_rt, ↓loopP_er, ↓qO_some, ↓qO_at0, ↓qO_at1, ↓qO_at2, ↓qO_at3, ↓qO_at4, ↓qO_at5, ↓w_add_int, ↓w_add_str, ↓w_add_tup, ↓w_add_lst, ↓w_sub, ↓w_mod, ↓w_div, ↓w_mul, ↓w_pow, ↓w_band, ↓w_lt, ↓w_le, ↓w_gt, ↓w_ge, ↓w_is, ↓w_isNot, ↓nonN, ↓nonI, ↓nonS, ↓nonT, ↓nonL, ↓nonLoc, ↓w_eq_int, ↓w_ne_int, ↓w_eq_str, ↓w_ne_str, ↓qIx_lst, ↓qIx_dK, ↓qIxS_dK, ↓w_ix_loc, ↓w_ix_locS, ↓w_ix_lst, ↓w_ix_tup, ↓w_ix_str, ↓qLS_0, ↓qLS_1, ↓qLS_2, ↓qLS_3, ↓qSet_lst, ↓qSet_dK, ↓qSetS_dK, ↓w_setI, ↓w_setS, ↓qF_ins, ↓w_fld, ↓qSF_ins, ↓w_setF, ↓w_len_str, ↓w_len_lst, ↓w_len_tup, ↓qLen_lst, ↓qLen_dK, ↓w_len_loc, ↓w_max, ↓w_min, ↓w_int_int, ↓w_int_bl, ↓w_str_int, ↓qDc_dK, ↓w_dict, ↓w_tuple_lst, ↓w_tuple_tup, ↓w_tuple_loc, ↓w_list_lst, ↓w_list_tup, ↓w_iter_lst, ↓w_iter_tup, ↓w_iter_str, ↓w_iter_loc, ↓w_rng1, ↓w_rng2, ↓w_sl_str, ↓w_sl_tup, ↓w_sl_lst, ↓w_append, ↓w_lclear, ↓tyS_str, ↓tyL_lst, ↓qM_loc, ↓look1, ↓wC_set, ↓wC_setn, ↓wC_push2, ↓wC_pushn, ↓wE_yes, ↓wE_revL, ↓qO_lst, ↓w_all_lst, ↓w_join_lst, ↓isi_non_int, ↓isi_non_bool, ↓isi_non_str, ↓isi_non_tuple, ↓isi_non_list, ↓isi_non_dict, ↓isi_bl_int, ↓isi_bl_bool, ↓isi_bl_str, ↓isi_bl_tuple, ↓isi_bl_list, ↓isi_bl_dict, ↓isi_int_int, ↓isi_int_bool, ↓isi_int_str, ↓isi_int_tuple, ↓isi_int_list, ↓isi_int_dict, ↓isi_str_int, ↓isi_str_bool, ↓isi_str_str, ↓isi_str_tuple, ↓isi_str_list, ↓isi_str_dict, ↓isi_tup_int, ↓isi_tup_bool, ↓isi_tup_str, ↓isi_tup_tuple, ↓isi_tup_list, ↓isi_tup_dict, ↓isi_lst_int, ↓isi_lst_bool, ↓isi_lst_str, ↓isi_lst_tuple, ↓isi_lst_list, ↓isi_lst_dict, decide_eq_true_eq, beq_iff_eq, Bool.not_eq_true', Bool.not_eq_eq_eq_not, Bool.not_true, Bool.not_false, decide_eq_false_iff_not, beq_eq_false_iff_ne, ne_eq, true_and, and_true, if_true, if_false, ite_true, ite_false, reduceIte, Bool.false_eq_true, not_false_eq_true, not_true_eq_false, Int.reduceLT, Int.reduceLE, Int.reduceToNat, Nat.reduceLT, Nat.reduceLeDiff, Int.reducePow, Nat.reduceAdd, Int.reduceAdd, Int.reduceMul, Int.reduceSub, Int.reduceNeg, Nat.reducePow, Int.reduceEq, Nat.reduceEqDiff, List.length_cons, List.length_nil, PySem.sizeLine_eq, str_len_app, str_len_one, wipeD, List.set_cons_zero, List.set_cons_succ]
  refine (draw_ok (h.push _) (by omega) (by omega) (by omega)).go ?_
  rintro _ μ1 ⟨a, rfl, ha0, ha1, hs1, f1⟩
  simp -failIfUnchanged (disch := (first | (simp only [len_push, len_set]; omega) | omega | assumption)) only [↓wR_ok, ↓wR_err, ↓wE_var0, ↓wE_varS, ↓wE_C, ↓wE_op, ↓wE_cmp, ↓wE_bl, ↓qB_bl, ↓wE_asB, ↓wE_and, ↓wE_or, ↓wE_not, ↓wE_andV, ↓wE_orV, ↓wE_notV, ↓wE_if, ↓wE_nil, ↓wE_cons, ↓wE_fz, ↓wE_lc, ↓wE_tup, ↓wE_lst, ↓wE_call, ↓wE_nopart, ↓qI_int, ↓wE_part, ↓wE_slice, ↓wE_fld, ↓wE_dnew, ↓wE_iter, ↓wE_rev, ↓wE_pos, ↓wE_kws, ↓wE_noa, ↓wE_both, ↓wE_fn, ↓wE_mth, ↓qN_non, ↓wE_mk, ↓wE_meth, ↓wE_neg, ↓wE_chain, ↓wE_comp, ↓wS_nx, ↓wS_bk, ↓wS_ct, ↓wS_seq, ↓wS_drop, ↓wS_ret, ↓wS_retN, ↓wS_if, ↓wS_asg, ↓qL_loc, ↓qCl_lst, ↓wS_retFz, ↓wS_raise, ↓wS_for, ↓wS_try, ↓wG_set0, ↓wG_setS, ↓wG_then, ↓wG_sub, ↓wG_fld, ↓qT_tup, ↓wG_tup, ↓wGs_nil, ↓wGs_cons, ↓endB_nx, ↓endB_rt, ↓endB_er, ↓endB_bk, ↓endB_ct, ↓loopP_nx, ↓loopP_ct, ↓loopP_bk, ↓loopP_rt, ↓loopP_er, ↓qO_some, ↓qO_at0, ↓qO_at1, ↓qO_at2, ↓qO_at3, ↓qO_at4, ↓qO_at5, ↓w_add_int, ↓w_add_str, ↓w_add_tup, ↓w_add_lst, ↓w_sub, ↓w_mod, ↓w_div, ↓w_mul, ↓w_pow, ↓w_band, ↓w_lt, ↓w_le, ↓w_gt, ↓w_ge, ↓w_is, ↓w_isNot, ↓nonN, ↓nonI, ↓nonS, ↓nonT, ↓nonL, ↓nonLoc, ↓w_eq_int, ↓w_ne_int, ↓w_eq_str, ↓w_ne_str, ↓qIx_lst, ↓qIx_dK, ↓qIxS_dK, ↓w_ix_loc, ↓w_ix_locS, ↓w_ix_lst, ↓w_ix_tup, ↓w_ix_str, ↓qLS_0, ↓qLS_1, ↓qLS_2, ↓qLS_3, ↓qSet_lst, ↓qSet_dK, ↓qSetS_dK, ↓w_setI, ↓w_setS, ↓qF_ins, ↓w_fld, ↓qSF_ins, ↓w_setF, ↓w_len_str, ↓w_len_lst, ↓w_len_tup, ↓qLen_lst, ↓qLen_dK, ↓w_len_loc, ↓w_max, ↓w_min, ↓w_int_int, ↓w_int_bl, ↓w_str_int, ↓qDc_dK, ↓w_dict, ↓w_tuple_lst, ↓w_tuple_tup, ↓w_tuple_loc, ↓w_list_lst, ↓w_list_tup, ↓w_iter_lst, ↓w_iter_tup, ↓w_iter_str, ↓w_iter_loc, ↓w_rng1, ↓w_rng2, ↓w_sl_str, ↓w_sl_tup, ↓w_sl_lst, ↓w_append, ↓w_lclear, ↓tyS_str, ↓tyL_lst, ↓qM_loc, ↓look1, ↓wC_set, ↓wC_setn, ↓wC_push2, ↓wC_pushn, ↓wE_yes, ↓wE_revL, ↓qO_lst, ↓w_all_lst, ↓w_join_lst, ↓isi_non_int, ↓isi_non_bool, ↓isi_non_str, ↓isi_non_tuple, ↓isi_non_list, ↓isi_non_dict, ↓isi_bl_int, ↓isi_bl_bool, ↓isi_bl_str, ↓isi_bl_tuple, ↓isi_bl_list, ↓isi_bl_dict, ↓isi_int_int, ↓isi_int_bool, ↓isi_int_str, ↓isi_int_tuple, ↓isi_int_list, ↓isi_int_dict, ↓isi_str_int, ↓isi_str_bool, ↓isi_str_str, ↓isi_str_tuple, ↓isi_str_list, ↓isi_str_dict, ↓isi_tup_int, ↓isi_tup_bool, ↓isi_tup_str, ↓isi_tup_tuple, ↓isi_tup_list, ↓isi_tup_dict, ↓isi_lst_int, ↓isi_lst_bool, ↓isi_lst_str, ↓isi_lst_tuple, ↓isi_lst_list, ↓isi_lst_dict, decide_eq_true_eq, beq_iff_eq, Bool.not_eq_true', Bool.not_eq_eq_eq_not, Bool.not_true, Bool.not_false, decide_eq_false_iff_not, beq_eq_false_iff_ne, ne_eq, true_and, and_true, if_true, if_false, ite_true, ite_false, reduceIte, Bool.false_eq_true, not_false_eq_true, not_true_eq_false, Int.reduceLT, Int.reduceLE, Int.reduceToNat, Nat.reduceLT, Nat.reduceLeDiff, Int.reducePow, Nat.reduceAdd, Int.reduceAdd, Int.reduceMul, Int.reduceSub, Int.reduceNeg, Nat.reducePow, Int.reduceEq, Nat.reduceEqDiff, List.length_cons, List.length_nil, PySem.sizeLine_eq, str_len_app, str_len_one, wipeD, List.set_cons_zero, List.set_cons_succ]
  refine ⟨by omega, ?_⟩
  have p1 : μ1.cells[μ.cells.length]? = some (.lst []) := f1.get at_push (by simp; omega)
  have g1 : Fr [n] μ μ1 := (Fr.push _ _ _).trans f1
  refine w_range (fun i δ μ' => ∃ (ws : List Str) (body : Str) (x6 x7 x8 x9 x10 x11 : Option D), δ = nmE n k μ.cells.length body (a == 1) x6 x7 x8 x9 x10 x11
    ∧ ws.length = i ∧ ws.Nodup ∧ (∀ w ∈ ws, Word w) ∧ body.length ≤ 6 ∧ Low body ∧ μ'.cells[μ.cells.length]? = some (.lst (ws.map D.str)) ∧ SrcAt μ' n (B + 1 + 9 * i) ∧ Fr [n] μ μ') _ _ ?_ ?_ ?_
  · refine ⟨[], "", none, none, none, none, none, none, rfl, rfl, List.nodup_nil, fun w hw => (by cases hw), (by decide), low_nil, p1, ?_, g1⟩
    simpa using hs1
  · rintro i δ μ2 hi ⟨ws, body, x6, x7, x8, x9, x10, x11, rfl, hw1, hw2, hw3, hb1, hb2, hp, hs2, f2⟩
    simp only [nmE, ↓wG_set0, ↓wG_setS]
    refine wS_cut (fun δ' μ' => ∃ (body : Str), δ' = nmE n k μ.cells.length body (a == 1) (some (.int (0 + (i : Nat)))) x7 x8 x9 x10 x11
      ∧ body.length ≤ 6 ∧ Low body ∧ μ'.cells[μ.cells.length]? = some (.lst (ws.map D.str)) ∧ SrcAt μ' n (B + 1 + 9 * i + 7) ∧ Fr [n] μ μ') ?_ ?_
    · rw [wS_if]
      refine wE_cut (fun b μ' => μ' = μ2) (by simp -failIfUnchanged (disch := (first | (simp only [len_push, len_set]; omega) | omega | assumption)) only [↓wR_ok, ↓wR_err, ↓wE_var0, ↓wE_varS, ↓wE_C, ↓wE_op, ↓wE_cmp, ↓wE_bl, ↓qB_bl, ↓wE_asB, ↓wE_and, ↓wE_or, ↓wE_not, ↓wE_andV, ↓wE_orV, ↓wE_notV, ↓wE_if, ↓wE_nil, ↓wE_cons, ↓wE_fz, ↓wE_lc, ↓wE_tup, ↓wE_lst, ↓wE_call, ↓wE_nopart, ↓qI_int, ↓wE_part, ↓wE_slice, ↓wE_fld, ↓wE_dnew, ↓wE_iter, ↓wE_rev, ↓wE_pos, ↓wE_kws, ↓wE_noa, ↓wE_both, ↓wE_fn, ↓wE_mth, ↓qN_non, ↓wE_mk, ↓wE_meth, ↓wE_neg, ↓wE_chain, ↓wE_comp, ↓wS_nx, ↓wS_bk, ↓wS_ct, ↓wS_seq, ↓wS_drop, ↓wS_ret, ↓wS_retN, ↓wS_if, ↓wS_asg, ↓qL_loc, ↓qCl_lst, ↓wS_retFz, ↓wS_raise, ↓wS_for, ↓wS_try, ↓wG_set0, ↓wG_setS, ↓wG_then, ↓wG_sub, ↓wG_fld, ↓qT_tup, ↓wG_tup, ↓wGs_nil, ↓wGs_cons, ↓endB_nx, ↓endB_rt, ↓endB_er, ↓endB_bk, ↓endB_ct, ↓loopP_nx, ↓loopP_ct, ↓loopP_bk, ↓loopP_rt, ↓loopP_er, ↓qO_some, ↓qO_at0, ↓qO_at1, ↓qO_at2, ↓qO_at3, ↓qO_at4, ↓qO_at5, ↓w_add_int, ↓w_add_str, ↓w_add_tup, ↓w_add_lst, ↓w_sub, ↓w_mod, ↓w_div, ↓w_mul, ↓w_pow, ↓w_band, ↓w_lt, ↓w_le, ↓w_gt, ↓w_ge, ↓w_is, ↓w_isNot, ↓nonN, ↓nonI, ↓nonS, ↓nonT, ↓nonL, ↓nonLoc, ↓w_eq_int, ↓w_ne_int, ↓w_eq_str, ↓w_ne_str, ↓qIx_lst, ↓qIx_dK, ↓qIxS_dK, ↓w_ix_loc, ↓w_ix_locS, ↓w_ix_lst, ↓w_ix_tup, ↓w_ix_str, ↓qLS_0, ↓qLS_1, ↓qLS_2, ↓qLS_3, ↓qSet_lst, ↓qSet_dK, ↓qSetS_dK, ↓w_setI, ↓w_setS, ↓qF_ins, ↓w_fld, ↓qSF_ins, ↓w_setF, ↓w_len_str, ↓w_len_lst, ↓w_len_tup, ↓qLen_lst, ↓qLen_dK, ↓w_len_loc, ↓w_max, ↓w_min, ↓w_int_int, ↓w_int_bl, ↓w_str_int, ↓qDc_dK, ↓w_dict, ↓w_tuple_lst, ↓w_tuple_tup, ↓w_tuple_loc, ↓w_list_lst, ↓w_list_tup, ↓w_iter_lst, ↓w_iter_tup, ↓w_iter_str, ↓w_iter_loc, ↓w_rng1, ↓w_rng2, ↓w_sl_str, ↓w_sl_tup, ↓w_sl_lst, ↓w_append, ↓w_lclear, ↓tyS_str, ↓tyL_lst, ↓qM_loc, ↓look1, ↓wC_set, ↓wC_setn, ↓wC_push2, ↓wC_pushn, ↓wE_yes, ↓wE_revL, ↓qO_lst, ↓w_all_lst, ↓w_join_lst, ↓isi_non_int, ↓isi_non_bool, ↓isi_non_str, ↓isi_non_tuple, ↓isi_non_list, ↓isi_non_dict, ↓isi_bl_int, ↓isi_bl_bool, ↓isi_bl_str, ↓isi_bl_tuple, ↓isi_bl_list, ↓isi_bl_dict, ↓isi_int_int, ↓isi_int_bool, ↓isi_int_str, ↓isi_int_tuple, ↓isi_int_list, ↓isi_int_dict, ↓isi_str_int, ↓isi_str_bool, ↓isi_str_str, ↓isi_str_tuple, ↓isi_str_list, ↓isi_str_dict, ↓isi_tup_int, ↓isi_tup_bool, ↓isi_tup_str, ↓isi_tup_tuple, ↓isi_tup_list, ↓isi_tup_dict, ↓isi_lst_int, ↓isi_lst_bool, ↓isi_lst_str, ↓isi_lst_tuple, ↓isi_lst_list, ↓isi_lst_dict, decide_eq_true_eq, beq_iff_eq, Bool.not_eq_true', Bool.not_eq_eq_eq_not, Bool.not_true, Bool.not_false, decide_eq_false_iff_not, beq_eq_false_iff_ne, ne_eq, true_and, and_true, if_true, if_false, ite_true, ite_false, reduceIte, Bool.false_eq_true, not_false_eq_true, not_true_eq_false, Int.reduceLT, Int.reduceLE, Int.reduceToNat, Nat.reduceLT, Nat.reduceLeDiff, Int.reducePow, Nat.reduceAdd, Int.reduceAdd, Int.reduceMul, Int.reduceSub, Int.reduceNeg, Nat.reducePow, Int.reduceEq, Nat.reduceEqDiff, List.length_cons, List.length_nil, PySem.sizeLine_eq, str_len_app, str_len_one, wipeD, List.set_cons_zero, List.set_cons_succ]; split <;> trivial) ?_
      rintro b _ rfl
      cases b with
      | false =>
        simp -failIfUnchanged (disch := (first | (simp only [len_push, len_set]; omega) | omega | assumption)) only [↓wR_ok, ↓wR_err, ↓wE_var0, ↓wE_varS, ↓wE_C, ↓wE_op, ↓wE_cmp, ↓wE_bl, ↓qB_bl, ↓wE_asB, ↓wE_and, ↓wE_or, ↓wE_not, ↓wE_andV, ↓wE_orV, ↓wE_notV, ↓wE_if, ↓wE_nil, ↓wE_cons, ↓wE_fz, ↓wE_lc, ↓wE_tup, ↓wE_lst, ↓wE_call, ↓wE_nopart, ↓qI_int, ↓wE_part, ↓wE_slice, ↓wE_fld, ↓wE_dnew, ↓wE_iter, ↓wE_rev, ↓wE_pos, ↓wE_kws, ↓wE_noa, ↓wE_both, ↓wE_fn, ↓wE_mth, ↓qN_non, ↓wE_mk, ↓wE_meth, ↓wE_neg, ↓wE_chain, ↓wE_comp, ↓wS_nx, ↓wS_bk, ↓wS_ct, ↓wS_seq, ↓wS_drop, ↓wS_ret, ↓wS_retN, ↓wS_if, ↓wS_asg, ↓qL_loc, ↓qCl_lst, ↓wS_retFz, ↓wS_raise, ↓wS_for, ↓wS_try, ↓wG_set0, ↓wG_setS, ↓wG_then, ↓wG_sub, ↓wG_fld, ↓qT_tup, ↓wG_tup, ↓wGs_nil, ↓wGs_cons, ↓endB_nx, ↓endB_rt, ↓endB_er, ↓endB_bk, ↓endB_ct, ↓loopP_nx, ↓loopP_ct, ↓loopP_bk, ↓loopP_rt, ↓loopP_er, ↓qO_some, ↓qO_at0, ↓qO_at1, ↓qO_at2, ↓qO_at3, ↓qO_at4, ↓qO_at5, ↓w_add_int, ↓w_add_str, ↓w_add_tup, ↓w_add_lst, ↓w_sub, ↓w_mod, ↓w_div, ↓w_mul, ↓w_pow, ↓w_band, ↓w_lt, ↓w_le, ↓w_gt, ↓w_ge, ↓w_is, ↓w_isNot, ↓nonN, ↓nonI, ↓nonS, ↓nonT, ↓nonL, ↓nonLoc, ↓w_eq_int, ↓w_ne_int, ↓w_eq_str, ↓w_ne_str, ↓qIx_lst, ↓qIx_dK, ↓qIxS_dK, ↓w_ix_loc, ↓w_ix_locS, ↓w_ix_lst, ↓w_ix_tup, ↓w_ix_str, ↓qLS_0, ↓qLS_1, ↓qLS_2, ↓qLS_3, ↓qSet_lst, ↓qSet_dK, ↓qSetS_dK, ↓w_setI, ↓w_setS, ↓qF_ins, ↓w_fld, ↓qSF_ins, ↓w_setF, ↓w_len_str, ↓w_len_lst, ↓w_len_tup, ↓qLen_lst, ↓qLen_dK, ↓w_len_loc, ↓w_max, ↓w_min, ↓w_int_int, ↓w_int_bl, ↓w_str_int, ↓qDc_dK, ↓w_dict, ↓w_tuple_lst, ↓w_tuple_tup, ↓w_tuple_loc, ↓w_list_lst, ↓w_list_tup, ↓w_iter_lst, ↓w_iter_tup, ↓w_iter_str, ↓w_iter_loc, ↓w_rng1, ↓w_rng2, ↓w_sl_str, ↓w_sl_tup, ↓w_sl_lst, ↓w_append, ↓w_lclear, ↓tyS_str, ↓tyL_lst, ↓qM_loc, ↓look1, ↓wC_set, ↓wC_setn, ↓wC_push2, ↓wC_pushn, ↓wE_yes, ↓wE_revL, ↓qO_lst, ↓w_all_lst, ↓w_join_lst, ↓isi_non_int, ↓isi_non_bool, ↓isi_non_str, ↓isi_non_tuple, ↓isi_non_list, ↓isi_non_dict, ↓isi_bl_int, ↓isi_bl_bool, ↓isi_bl_str, ↓isi_bl_tuple, ↓isi_bl_list, ↓isi_bl_dict, ↓isi_int_int, ↓isi_int_bool, ↓isi_int_str, ↓isi_int_tuple, ↓isi_int_list, ↓isi_int_dict, ↓isi_str_int, ↓isi_str_bool, ↓isi_str_str, ↓isi_str_tuple, ↓isi_str_list, ↓isi_str_dict, ↓isi_tup_int, ↓isi_tup_bool, ↓isi_tup_str, ↓isi_tup_tuple, ↓isi_tup_list, ↓isi_tup_dict, ↓isi_lst_int, ↓isi_lst_bool, ↓isi_lst_str, ↓isi_lst_tuple, ↓isi_lst_list, ↓isi_lst_dict, decide_eq_true_eq, beq_iff_eq, Bool.not_eq_true', Bool.not_eq_eq_eq_not, Bool.not_true, Bool.not_false, decide_eq_false_iff_not, beq_eq_false_iff_ne, ne_eq, true_and, and_true, if_true, if_false, ite_true, ite_false, reduceIte, Bool.false_eq_true, not_false_eq_true, not_true_eq_false, Int.reduceLT, Int.reduceLE, Int.reduceToNat, Nat.reduceLT, Nat.reduceLeDiff, Int.reducePow, Nat.reduceAdd, Int.reduceAdd, Int.reduceMul, Int.reduceSub, Int.reduceNeg, Nat.reducePow, Int.reduceEq, Nat.reduceEqDiff, List.length_cons, List.length_nil, PySem.sizeLine_eq, str_len_app, str_len_one, wipeD, List.set_cons_zero, List.set_cons_succ]
        exact ⟨body, rfl, hb1, hb2, hp, hs2.mono (by omega), f2⟩
      | true =>
        simp -failIfUnchanged (disch := (first | (simp only [len_push, len_set]; omega) | omega | assumption)) only [↓wR_ok, ↓wR_err, ↓wE_var0, ↓wE_varS, ↓wE_C, ↓wE_op, ↓wE_cmp, ↓wE_bl, ↓qB_bl, ↓wE_asB, ↓wE_and, ↓wE_or, ↓wE_not, ↓wE_andV, ↓wE_orV, ↓wE_notV, ↓wE_if, ↓wE_nil, ↓wE_cons, ↓wE_fz, ↓wE_lc, ↓wE_tup, ↓wE_lst, ↓wE_call, ↓wE_nopart, ↓qI_int, ↓wE_part, ↓wE_slice, ↓wE_fld, ↓wE_dnew, ↓wE_iter, ↓wE_rev, ↓wE_pos, ↓wE_kws, ↓wE_noa, ↓wE_both, ↓wE_fn, ↓wE_mth, ↓qN_non, ↓wE_mk, ↓wE_meth, ↓wE_neg, ↓wE_chain, ↓wE_comp, ↓wS_nx, ↓wS_bk, ↓wS_ct, ↓wS_seq, ↓wS_drop, ↓wS_ret, ↓wS_retN, ↓wS_if, ↓wS_asg, ↓qL_loc, ↓qCl_lst, ↓wS_retFz, ↓wS_raise, ↓wS_for, ↓wS_try, ↓wG_set0, ↓wG_setS, ↓wG_then, ↓wG_sub, ↓wG_fld, ↓qT_tup, ↓wG_tup, ↓wGs_nil, ↓wGs_cons, ↓endB_nx, ↓endB_rt, ↓endB_er, ↓endB_bk, ↓endB_ct, ↓loopP_nx, ↓loopP_ct, ↓loopP_bk, ↓loopP_rt, ↓loopP_er, ↓qO_some, ↓qO_at0, ↓qO_at1, ↓qO_at2, ↓qO_at3, ↓qO_at4, ↓qO_at5, ↓w_add_int, ↓w_add_str, ↓w_add_tup, ↓w_add_lst, ↓w_sub, ↓w_mod, ↓w_div, ↓w_mul, ↓w_pow, ↓w_band, ↓w_lt, ↓w_le, ↓w_gt, ↓w_ge, ↓w_is, ↓w_isNot, ↓nonN, ↓nonI, ↓nonS, ↓nonT, ↓nonL, ↓nonLoc, ↓w_eq_int, ↓w_ne_int, ↓w_eq_str, ↓w_ne_str, ↓qIx_lst, ↓qIx_dK, ↓qIxS_dK, ↓w_ix_loc, ↓w_ix_locS, ↓w_ix_lst, ↓w_ix_tup, ↓w_ix_str, ↓qLS_0, ↓qLS_1, ↓qLS_2, ↓qLS_3, ↓qSet_lst, ↓qSet_dK, ↓qSetS_dK, ↓w_setI, ↓w_setS, ↓qF_ins, ↓w_fld, ↓qSF_ins, ↓w_setF, ↓w_len_str, ↓w_len_lst, ↓w_len_tup, ↓qLen_lst, ↓qLen_dK, ↓w_len_loc, ↓w_max, ↓w_min, ↓w_int_int, ↓w_int_bl, ↓w_str_int, ↓qDc_dK, ↓w_dict, ↓w_tuple_lst, ↓w_tuple_tup, ↓w_tuple_loc, ↓w_list_lst, ↓w_list_tup, ↓w_iter_lst, ↓w_iter_tup, ↓w_iter_str, ↓w_iter_loc, ↓w_rng1, ↓w_rng2, ↓w_sl_str, ↓w_sl_tup, ↓w_sl_lst, ↓w_append, ↓w_lclear, ↓tyS_str, ↓tyL_lst, ↓qM_loc, ↓look1, ↓wC_set, ↓wC_setn, ↓wC_push2, ↓wC_pushn, ↓wE_yes, ↓wE_revL, ↓qO_lst, ↓w_all_lst, ↓w_join_lst, ↓isi_non_int, ↓isi_non_bool, ↓isi_non_str, ↓isi_non_tuple, ↓isi_non_list, ↓isi_non_dict, ↓isi_bl_int, ↓isi_bl_bool, ↓isi_bl_str, ↓isi_bl_tuple, ↓isi_bl_list, ↓isi_bl_dict, ↓isi_int_int, ↓isi_int_bool, ↓isi_int_str, ↓isi_int_tuple, ↓isi_int_list, ↓isi_int_dict, ↓isi_str_int, ↓isi_str_bool, ↓isi_str_str, ↓isi_str_tuple, ↓isi_str_list, ↓isi_str_dict, ↓isi_tup_int, ↓isi_tup_bool, ↓isi_tup_str, ↓isi_tup_tuple, ↓isi_tup_list, ↓isi_tup_dict, ↓isi_lst_int, ↓isi_lst_bool, ↓isi_lst_str, ↓isi_lst_tuple, ↓isi_lst_list, ↓isi_lst_dict, decide_eq_true_eq, beq_iff_eq, Bool.not_eq_true', Bool.not_eq_eq_eq_not, Bool.not_true, Bool.not_false, decide_eq_false_iff_not, beq_eq_false_iff_ne, ne_eq, true_and, and_true, if_true, if_false, ite_true, ite_false, reduceIte, Bool.false_eq_true, not_false_eq_true, not_true_eq_false, Int.reduceLT, Int.reduceLE, Int.reduceToNat, Nat.reduceLT, Nat.reduceLeDiff, Int.reducePow, Nat.reduceAdd, Int.reduceAdd, Int.reduceMul, Int.reduceSub, Int.reduceNeg, Nat.reducePow, Int.reduceEq, Nat.reduceEqDiff, List.length_cons, List.length_nil, PySem.sizeLine_eq, str_len_app, str_len_one, wipeD, List.set_cons_zero, List.set_cons_succ]
        refine (draw_ok hs2 (by omega) (by omega) (by omega)).go ?_
        rintro _ μ3 ⟨d, rfl, hd0, hd1, hs3, f3⟩
        simp -failIfUnchanged (disch := (first | (simp only [len_push, len_set]; omega) | omega | assumption)) only [↓wR_ok, ↓wR_err, ↓wE_var0, ↓wE_varS, ↓wE_C, ↓wE_op, ↓wE_cmp, ↓wE_bl, ↓qB_bl, ↓wE_asB, ↓wE_and, ↓wE_or, ↓wE_not, ↓wE_andV, ↓wE_orV, ↓wE_notV, ↓wE_if, ↓wE_nil, ↓wE_cons, ↓wE_fz, ↓wE_lc, ↓wE_tup, ↓wE_lst, ↓wE_call, ↓wE_nopart, ↓qI_int, ↓wE_part, ↓wE_slice, ↓wE_fld, ↓wE_dnew, ↓wE_iter, ↓wE_rev, ↓wE_pos, ↓wE_kws, ↓wE_noa, ↓wE_both, ↓wE_fn, ↓wE_mth, ↓qN_non, ↓wE_mk, ↓wE_meth, ↓wE_neg, ↓wE_chain, ↓wE_comp, ↓wS_nx, ↓wS_bk, ↓wS_ct, ↓wS_seq, ↓wS_drop, ↓wS_ret, ↓wS_retN, ↓wS_if, ↓wS_asg, ↓qL_loc, ↓qCl_lst, ↓wS_retFz, ↓wS_raise, ↓wS_for, ↓wS_try, ↓wG_set0, ↓wG_setS, ↓wG_then, ↓wG_sub, ↓wG_fld, ↓qT_tup, ↓wG_tup, ↓wGs_nil, ↓wGs_cons, ↓endB_nx, ↓endB_rt, ↓endB_er, ↓endB_bk, ↓endB_ct, ↓loopP_nx, ↓loopP_ct, ↓loopP_bk, ↓loopP_rt, ↓loopP_er, ↓qO_some, ↓qO_at0, ↓qO_at1, ↓qO_at2, ↓qO_at3, ↓qO_at4, ↓qO_at5, ↓w_add_int, ↓w_add_str, ↓w_add_tup, ↓w_add_lst, ↓w_sub, ↓w_mod, ↓w_div, ↓w_mul, ↓w_pow, ↓w_band, ↓w_lt, ↓w_le, ↓w_gt, ↓w_ge, ↓w_is, ↓w_isNot, ↓nonN, ↓nonI, ↓nonS, ↓nonT, ↓nonL, ↓nonLoc, ↓w_eq_int, ↓w_ne_int, ↓w_eq_str, ↓w_ne_str, ↓qIx_lst, ↓qIx_dK, ↓qIxS_dK, ↓w_ix_loc, ↓w_ix_locS, ↓w_ix_lst, ↓w_ix_tup, ↓w_ix_str, ↓qLS_0, ↓qLS_1, ↓qLS_2, ↓qLS_3, ↓qSet_lst, ↓qSet_dK, ↓qSetS_dK, ↓w_setI, ↓w_setS, ↓qF_ins, ↓w_fld, ↓qSF_ins, ↓w_setF, ↓w_len_str, ↓w_len_lst, ↓w_len_tup, ↓qLen_lst, ↓qLen_dK, ↓w_len_loc, ↓w_max, ↓w_min, ↓w_int_int, ↓w_int_bl, ↓w_str_int, ↓qDc_dK, ↓w_dict, ↓w_tuple_lst, ↓w_tuple_tup, ↓w_tuple_loc, ↓w_list_lst, ↓w_list_tup, ↓w_iter_lst, ↓w_iter_tup, ↓w_iter_str, ↓w_iter_loc, ↓w_rng1, ↓w_rng2, ↓w_sl_str, ↓w_sl_tup, ↓w_sl_lst, ↓w_append, ↓w_lclear, ↓tyS_str, ↓tyL_lst, ↓qM_loc, ↓look1, ↓wC_set, ↓wC_setn, ↓wC_push2, ↓wC_pushn, ↓wE_yes, ↓wE_revL, ↓qO_lst, ↓w_all_lst, ↓w_join_lst, ↓isi_non_int, ↓isi_non_bool, ↓isi_non_str, ↓isi_non_tuple, ↓isi_non_list, ↓isi_non_dict, ↓isi_bl_int, ↓isi_bl_bool, ↓isi_bl_str, ↓isi_bl_tuple, ↓isi_bl_list, ↓isi_bl_dict, ↓isi_int_int, ↓isi_int_bool, ↓isi_int_str, ↓isi_int_tuple, ↓isi_int_list, ↓isi_int_dict, ↓isi_str_int, ↓isi_str_bool, ↓isi_str_str, ↓isi_str_tuple, ↓isi_str_list, ↓isi_str_dict, ↓isi_tup_int, ↓isi_tup_bool, ↓isi_tup_str, ↓isi_tup_tuple, ↓isi_tup_list, ↓isi_tup_dict, ↓isi_lst_int, ↓isi_lst_bool, ↓isi_lst_str, ↓isi_lst_tuple, ↓isi_lst_list, ↓isi_lst_dict, decide_eq_true_eq, beq_iff_eq, Bool.not_eq_true', Bool.not_eq_eq_eq_not, Bool.not_true, Bool.not_false, decide_eq_false_iff_not, beq_eq_false_iff_ne, ne_eq, true_and, and_true, if_true, if_false, ite_true, ite_false, reduceIte, Bool.false_eq_true, not_false_eq_true, not_true_eq_false, Int.reduceLT, Int.reduceLE, Int.reduceToNat, Nat.reduceLT, Nat.reduceLeDiff, Int.reducePow, Nat.reduceAdd, Int.reduceAdd, Int.reduceMul, Int.reduceSub, Int.reduceNeg, Nat.reducePow, Int.reduceEq, Nat.reduceEqDiff, List.length_cons, List.length_nil, PySem.sizeLine_eq, str_len_app, str_len_one, wipeD, List.set_cons_zero, List.set_cons_succ]
        refine ⟨by omega, by simp [rngItems]; omega, ?_⟩
        refine w_compR (lo := 0) (n := d.toNat) (fun j ys μ' => ∃ cs : List Nat, ys = (cs.map fun c => (⟨#[c]⟩ : Str)).map D.str ∧ cs.length = j ∧ (∀ c ∈ cs, 97 ≤ c ∧ c ≤ 122) ∧ SrcAt μ' n (B + 1 + 9 * i + 1 + j) ∧ Fr [n] μ3 μ') ?_ ?_ ?_
        · exact ⟨[], rfl, rfl, by simp, by simpa using hs3, Fr.refl _ _⟩
        · rintro j ys μ4 hj ⟨cs, rfl, hc1, hc2, hs4, f4⟩
          simp only [wipeD, List.set, ↓wR_ok, ↓wR_err, ↓wE_var0, ↓wE_varS, ↓wE_C, ↓wE_op, ↓wE_cmp, ↓wE_bl, ↓qB_bl, ↓wE_asB, ↓wE_and, ↓wE_or, ↓wE_not, ↓wE_andV, ↓wE_orV, ↓wE_notV, ↓wE_if, ↓wE_nil, ↓wE_cons, ↓wE_fz, ↓wE_lc, ↓wE_tup, ↓wE_lst, ↓wE_call, ↓wE_nopart, ↓qI_int, ↓wE_part, ↓wE_slice, ↓wE_fld, ↓wE_dnew, ↓wE_iter, ↓wE_rev, ↓wE_pos, ↓wE_kws, ↓wE_noa, ↓wE_both, ↓wE_fn, ↓wE_mth, ↓qN_non, ↓wE_mk, ↓wE_meth, ↓wE_neg, ↓wE_chain, ↓wE_comp, ↓wS_nx, ↓wS_bk, ↓wS_ct, ↓wS_seq, ↓wS_drop, ↓wS_ret, ↓wS_retN, ↓wS_if, ↓wS_asg, ↓qL_loc, ↓qCl_lst, ↓wS_retFz, ↓wS_raise, ↓wS_for, ↓wS_try, ↓wG_set0, ↓wG_setS, ↓wG_then, ↓wG_sub, ↓wG_fld, ↓qT_tup, ↓wG_tup, ↓wGs_nil, ↓wGs_cons, ↓endB_nx, ↓endB_rt, ↓endB_er, ↓endB_bk, ↓endB_ct, ↓loopP_nx, ↓loopP_ct, ↓loopP_bk, ↓loopP_rt, ↓loopP_er, ↓qO_some, ↓qO_at0, ↓qO_at1, ↓qO_at2, ↓qO_at3, ↓qO_at4, ↓qO_at5, ↓w_add_int, ↓w_add_str, ↓w_add_tup, ↓w_add_lst, ↓w_sub, ↓w_mod, ↓w_div, ↓w_mul, ↓w_pow, ↓w_band, ↓w_lt, ↓w_le, ↓w_gt, ↓w_ge, ↓w_is, ↓w_isNot, ↓nonN, ↓nonI, ↓nonS, ↓nonT, ↓nonL, ↓nonLoc, ↓w_eq_int, ↓w_ne_int, ↓w_eq_str, ↓w_ne_str, ↓qIx_lst, ↓qIx_dK, ↓qIxS_dK, ↓w_ix_loc, ↓w_ix_locS, ↓w_ix_lst, ↓w_ix_tup, ↓w_ix_str, ↓qLS_0, ↓qLS_1, ↓qLS_2, ↓qLS_3, ↓qSet_lst, ↓qSet_dK, ↓qSetS_dK, ↓w_setI, ↓w_setS, ↓qF_ins, ↓w_fld, ↓qSF_ins, ↓w_setF, ↓w_len_str, ↓w_len_lst, ↓w_len_tup, ↓qLen_lst, ↓qLen_dK, ↓w_len_loc, ↓w_max, ↓w_min, ↓w_int_int, ↓w_int_bl, ↓w_str_int, ↓qDc_dK, ↓w_dict, ↓w_tuple_lst, ↓w_tuple_tup, ↓w_tuple_loc, ↓w_list_lst, ↓w_list_tup, ↓w_iter_lst, ↓w_iter_tup, ↓w_iter_str, ↓w_iter_loc, ↓w_rng1, ↓w_rng2, ↓w_sl_str, ↓w_sl_tup, ↓w_sl_lst, ↓w_append, ↓w_lclear, ↓tyS_str, ↓tyL_lst, ↓qM_loc, ↓look1, ↓wC_set, ↓wC_setn, ↓wC_push2, ↓wC_pushn, ↓wE_yes, ↓wE_revL, ↓qO_lst, ↓w_all_lst, ↓w_join_lst, ↓isi_non_int, ↓isi_non_bool, ↓isi_non_str, ↓isi_non_tuple, ↓isi_non_list, ↓isi_non_dict, ↓isi_bl_int, ↓isi_bl_bool, ↓isi_bl_str, ↓isi_bl_tuple, ↓isi_bl_list, ↓isi_bl_dict, ↓isi_int_int, ↓isi_int_bool, ↓isi_int_str, ↓isi_int_tuple, ↓isi_int_list, ↓isi_int_dict, ↓isi_str_int, ↓isi_str_bool, ↓isi_str_str, ↓isi_str_tuple, ↓isi_str_list, ↓isi_str_dict, ↓isi_tup_int, ↓isi_tup_bool, ↓isi_tup_str, ↓isi_tup_tuple, ↓isi_tup_list, ↓isi_tup_dict, ↓isi_lst_int, ↓isi_lst_bool, ↓isi_lst_str, ↓isi_lst_tuple, ↓isi_lst_list, ↓isi_lst_dict, decide_eq_true_eq, beq_iff_eq, Bool.not_eq_true', Bool.not_eq_eq_eq_not, Bool.not_true, Bool.not_false, decide_eq_false_iff_not, beq_eq_false_iff_ne, ne_eq, true_and, and_true, if_true, if_false, ite_true, ite_false, reduceIte, Bool.false_eq_true, not_false_eq_true, not_true_eq_false, Int.reduceLT, Int.reduceLE, Int.reduceToNat, Nat.reduceLT, Nat.reduceLeDiff, Int.reducePow, Nat.reduceAdd, Int.reduceAdd, Int.reduceMul, Int.reduceSub, Int.reduceNeg, Nat.reducePow, Int.reduceEq, Nat.reduceEqDiff, List.length_cons, List.length_nil, PySem.sizeLine_eq, str_len_app, str_len_one, wipeD, List.set_cons_zero, List.set_cons_succ, ↓wE_yes]
          refine (draw_ok hs4 (by omega) (by omega) (by omega)).go ?_
          rintro _ μ5 ⟨e, rfl, he0, he1, hs5, f5⟩
          simp -failIfUnchanged (disch := (first | (simp only [len_push, len_set]; omega) | omega | assumption)) only [↓wR_ok, ↓wR_err, ↓wE_var0, ↓wE_varS, ↓wE_C, ↓wE_op, ↓wE_cmp, ↓wE_bl, ↓qB_bl, ↓wE_asB, ↓wE_and, ↓wE_or, ↓wE_not, ↓wE_andV, ↓wE_orV, ↓wE_notV, ↓wE_if, ↓wE_nil, ↓wE_cons, ↓wE_fz, ↓wE_lc, ↓wE_tup, ↓wE_lst, ↓wE_call, ↓wE_nopart, ↓qI_int, ↓wE_part, ↓wE_slice, ↓wE_fld, ↓wE_dnew, ↓wE_iter, ↓wE_rev, ↓wE_pos, ↓wE_kws, ↓wE_noa, ↓wE_both, ↓wE_fn, ↓wE_mth, ↓qN_non, ↓wE_mk, ↓wE_meth, ↓wE_neg, ↓wE_chain, ↓wE_comp, ↓wS_nx, ↓wS_bk, ↓wS_ct, ↓wS_seq, ↓wS_drop, ↓wS_ret, ↓wS_retN, ↓wS_if, ↓wS_asg, ↓qL_loc, ↓qCl_lst, ↓wS_retFz, ↓wS_raise, ↓wS_for, ↓wS_try, ↓wG_set0, ↓wG_setS, ↓wG_then, ↓wG_sub, ↓wG_fld, ↓qT_tup, ↓wG_tup, ↓wGs_nil, ↓wGs_cons, ↓endB_nx, ↓endB_rt, ↓endB_er, ↓endB_bk, ↓endB_ct, ↓loopP_nx, ↓loopP_ct, ↓loopP_bk, ↓loopP_rt, ↓loopP_er, ↓qO_some, ↓qO_at0, ↓qO_at1, ↓qO_at2, ↓qO_at3, ↓qO_at4, ↓qO_at5, ↓w_add_int, ↓w_add_str, ↓w_add_tup, ↓w_add_lst, ↓w_sub, ↓w_mod, ↓w_div, ↓w_mul, ↓w_pow, ↓w_band, ↓w_lt, ↓w_le, ↓w_gt, ↓w_ge, ↓w_is, ↓w_isNot, ↓nonN, ↓nonI, ↓nonS, ↓nonT, ↓nonL, ↓nonLoc, ↓w_eq_int, ↓w_ne_int, ↓w_eq_str, ↓w_ne_str, ↓qIx_lst, ↓qIx_dK, ↓qIxS_dK, ↓w_ix_loc, ↓w_ix_locS, ↓w_ix_lst, ↓w_ix_tup, ↓w_ix_str, ↓qLS_0, ↓qLS_1, ↓qLS_2, ↓qLS_3, ↓qSet_lst, ↓qSet_dK, ↓qSetS_dK, ↓w_setI, ↓w_setS, ↓qF_ins, ↓w_fld, ↓qSF_ins, ↓w_setF, ↓w_len_str, ↓w_len_lst, ↓w_len_tup, ↓qLen_lst, ↓qLen_dK, ↓w_len_loc, ↓w_max, ↓w_min, ↓w_int_int, ↓w_int_bl, ↓w_str_int, ↓qDc_dK, ↓w_dict, ↓w_tuple_lst, ↓w_tuple_tup, ↓w_tuple_loc, ↓w_list_lst, ↓w_list_tup, ↓w_iter_lst, ↓w_iter_tup, ↓w_iter_str, ↓w_iter_loc, ↓w_rng1, ↓w_rng2, ↓w_sl_str, ↓w_sl_tup, ↓w_sl_lst, ↓w_append, ↓w_lclear, ↓tyS_str, ↓tyL_lst, ↓qM_loc, ↓look1, ↓wC_set, ↓wC_setn, ↓wC_push2, ↓wC_pushn, ↓wE_yes, ↓wE_revL, ↓qO_lst, ↓w_all_lst, ↓w_join_lst, ↓isi_non_int, ↓isi_non_bool, ↓isi_non_str, ↓isi_non_tuple, ↓isi_non_list, ↓isi_non_dict, ↓isi_bl_int, ↓isi_bl_bool, ↓isi_bl_str, ↓isi_bl_tuple, ↓isi_bl_list, ↓isi_bl_dict, ↓isi_int_int, ↓isi_int_bool, ↓isi_int_str, ↓isi_int_tuple, ↓isi_int_list, ↓isi_int_dict, ↓isi_str_int, ↓isi_str_bool, ↓isi_str_str, ↓isi_str_tuple, ↓isi_str_list, ↓isi_str_dict, ↓isi_tup_int, ↓isi_tup_bool, ↓isi_tup_str, ↓isi_tup_tuple, ↓isi_tup_list, ↓isi_tup_dict, ↓isi_lst_int, ↓isi_lst_bool, ↓isi_lst_str, ↓isi_lst_tuple, ↓isi_lst_list, ↓isi_lst_dict, decide_eq_true_eq, beq_iff_eq, Bool.not_eq_true', Bool.not_eq_eq_eq_not, Bool.not_true, Bool.not_false, decide_eq_false_iff_not, beq_eq_false_iff_ne, ne_eq, true_and, and_true, if_true, if_false, ite_true, ite_false, reduceIte, Bool.false_eq_true, not_false_eq_true, not_true_eq_false, Int.reduceLT, Int.reduceLE, Int.reduceToNat, Nat.reduceLT, Nat.reduceLeDiff, Int.reducePow, Nat.reduceAdd, Int.reduceAdd, Int.reduceMul, Int.reduceSub, Int.reduceNeg, Nat.reducePow, Int.reduceEq, Nat.reduceEqDiff, List.length_cons, List.length_nil, PySem.sizeLine_eq, str_len_app, str_len_one, wipeD, List.set_cons_zero, List.set_cons_succ, ↓qO_of (letter_at he0 he1), letters_len]
          refine ⟨cs ++ [97 + e.toNat], by simp, by simp [hc1], ?_, hs5.mono (by omega), f4.trans f5⟩
          intro c hc
          rcases List.mem_append.mp hc with hc | hc
          · exact hc2 c hc
          · simp at hc; omega
        · rintro ys μ4 ⟨cs, rfl, hc1, hc2, hs4, f4⟩
          have hl : ((cs.map fun c => (⟨#[c]⟩ : Str)).map (·.length)).sum = cs.length := by
            clear hc1 hc2
            induction cs with
            | nil => rfl
            | cons c r ih => simp [Str.length] at ih ⊢; omega
          have ht := join_chars cs
          simp -failIfUnchanged (disch := (first | (simp only [len_push, len_set]; omega) | omega | assumption)) only [↓wR_ok, ↓wR_err, ↓wE_var0, ↓wE_varS, ↓wE_C, ↓wE_op, ↓wE_cmp, ↓wE_bl, ↓qB_bl, ↓wE_asB, ↓wE_and, ↓wE_or, ↓wE_not, ↓wE_andV, ↓wE_orV, ↓wE_notV, ↓wE_if, ↓wE_nil, ↓wE_cons, ↓wE_fz, ↓wE_lc, ↓wE_tup, ↓wE_lst, ↓wE_call, ↓wE_nopart, ↓qI_int, ↓wE_part, ↓wE_slice, ↓wE_fld, ↓wE_dnew, ↓wE_iter, ↓wE_rev, ↓wE_pos, ↓wE_kws, ↓wE_noa, ↓wE_both, ↓wE_fn, ↓wE_mth, ↓qN_non, ↓wE_mk, ↓wE_meth, ↓wE_neg, ↓wE_chain, ↓wE_comp, ↓wS_nx, ↓wS_bk, ↓wS_ct, ↓wS_seq, ↓wS_drop, ↓wS_ret, ↓wS_retN, ↓wS_if, ↓wS_asg, ↓qL_loc, ↓qCl_lst, ↓wS_retFz, ↓wS_raise, ↓wS_for, ↓wS_try, ↓wG_set0, ↓wG_setS, ↓wG_then, ↓wG_sub, ↓wG_fld, ↓qT_tup, ↓wG_tup, ↓wGs_nil, ↓wGs_cons, ↓endB_nx, ↓endB_rt, ↓endB_er, ↓endB_bk, ↓endB_ct, ↓loopP_nx, ↓loopP_ct, ↓loopP_bk, ↓loopP_rt, ↓loopP_er, ↓qO_some, ↓qO_at0, ↓qO_at1, ↓qO_at2, ↓qO_at3, ↓qO_at4, ↓qO_at5, ↓w_add_int, ↓w_add_str, ↓w_add_tup, ↓w_add_lst, ↓w_sub, ↓w_mod, ↓w_div, ↓w_mul, ↓w_pow, ↓w_band, ↓w_lt, ↓w_le, ↓w_gt, ↓w_ge, ↓w_is, ↓w_isNot, ↓nonN, ↓nonI, ↓nonS, ↓nonT, ↓nonL, ↓nonLoc, ↓w_eq_int, ↓w_ne_int, ↓w_eq_str, ↓w_ne_str, ↓qIx_lst, ↓qIx_dK, ↓qIxS_dK, ↓w_ix_loc, ↓w_ix_locS, ↓w_ix_lst, ↓w_ix_tup, ↓w_ix_str, ↓qLS_0, ↓qLS_1, ↓qLS_2, ↓qLS_3, ↓qSet_lst, ↓qSet_dK, ↓qSetS_dK, ↓w_setI, ↓w_setS, ↓qF_ins, ↓w_fld, ↓qSF_ins, ↓w_setF, ↓w_len_str, ↓w_len_lst, ↓w_len_tup, ↓qLen_lst, ↓qLen_dK, ↓w_len_loc, ↓w_max, ↓w_min, ↓w_int_int, ↓w_int_bl, ↓w_str_int, ↓qDc_dK, ↓w_dict, ↓w_tuple_lst, ↓w_tuple_tup, ↓w_tuple_loc, ↓w_list_lst, ↓w_list_tup, ↓w_iter_lst, ↓w_iter_tup, ↓w_iter_str, ↓w_iter_loc, ↓w_rng1, ↓w_rng2, ↓w_sl_str, ↓w_sl_tup, ↓w_sl_lst, ↓w_append, ↓w_lclear, ↓tyS_str, ↓tyL_lst, ↓qM_loc, ↓look1, ↓wC_set, ↓wC_setn, ↓wC_push2, ↓wC_pushn, ↓wE_yes, ↓wE_revL, ↓qO_lst, ↓w_all_lst, ↓w_join_lst, ↓isi_non_int, ↓isi_non_bool, ↓isi_non_str, ↓isi_non_tuple, ↓isi_non_list, ↓isi_non_dict, ↓isi_bl_int, ↓isi_bl_bool, ↓isi_bl_str, ↓isi_bl_tuple, ↓isi_bl_list, ↓isi_bl_dict, ↓isi_int_int, ↓isi_int_bool, ↓isi_int_str, ↓isi_int_tuple, ↓isi_int_list, ↓isi_int_dict, ↓isi_str_int, ↓isi_str_bool, ↓isi_str_str, ↓isi_str_tuple, ↓isi_str_list, ↓isi_str_dict, ↓isi_tup_int, ↓isi_tup_bool, ↓isi_tup_str, ↓isi_tup_tuple, ↓isi_tup_list, ↓isi_tup_dict, ↓isi_lst_int, ↓isi_lst_bool, ↓isi_lst_str, ↓isi_lst_tuple, ↓isi_lst_list, ↓isi_lst_dict, decide_eq_true_eq, beq_iff_eq, Bool.not_eq_true', Bool.not_eq_eq_eq_not, Bool.not_true, Bool.not_false, decide_eq_false_iff_not, beq_eq_false_iff_ne, ne_eq, true_and, and_true, if_true, if_false, ite_true, ite_false, reduceIte, Bool.false_eq_true, not_false_eq_true, not_true_eq_false, Int.reduceLT, Int.reduceLE, Int.reduceToNat, Nat.reduceLT, Nat.reduceLeDiff, Int.reducePow, Nat.reduceAdd, Int.reduceAdd, Int.reduceMul, Int.reduceSub, Int.reduceNeg, Nat.reducePow, Int.reduceEq, Nat.reduceEqDiff, List.length_cons, List.length_nil, PySem.sizeLine_eq, str_len_app, str_len_one, wipeD, List.set_cons_zero, List.set_cons_succ, ↓w_join_lst, ↓qO_of (strsOf_words _)]
          have e0 : ("" : Str).length = 0 := by decide
          refine ⟨by rw [hl, e0]; simp; omega, _, rfl, ?_, ?_, ?_, hs4.mono (by omega), f2.trans (f3.trans f4)⟩
          · rw [len_tl, ht]; omega
          · intro c hc
            rw [ht] at hc; exact hc2 c hc
          · exact f4.get (f3.get hp (by simp; omega)) (by simp; omega)
    · rintro δ' μ3 ⟨body', rfl, hb1, hb2, hp, hs3, f3⟩
      simp -failIfUnchanged (disch := (first | (simp only [len_push, len_set]; omega) | omega | assumption)) only [↓wR_ok, ↓wR_err, ↓wE_var0, ↓wE_varS, ↓wE_C, ↓wE_op, ↓wE_cmp, ↓wE_bl, ↓qB_bl, ↓wE_asB, ↓wE_and, ↓wE_or, ↓wE_not, ↓wE_andV, ↓wE_orV, ↓wE_notV, ↓wE_if, ↓wE_nil, ↓wE_cons, ↓wE_fz, ↓wE_lc, ↓wE_tup, ↓wE_lst, ↓wE_call, ↓wE_nopart, ↓qI_int, ↓wE_part, ↓wE_slice, ↓wE_fld, ↓wE_dnew, ↓wE_iter, ↓wE_rev, ↓wE_pos, ↓wE_kws, ↓wE_noa, ↓wE_both, ↓wE_fn, ↓wE_mth, ↓qN_non, ↓wE_mk, ↓wE_meth, ↓wE_neg, ↓wE_chain, ↓wE_comp, ↓wS_nx, ↓wS_bk, ↓wS_ct, ↓wS_seq, ↓wS_drop, ↓wS_ret, ↓wS_retN, ↓wS_if, ↓wS_asg, ↓qL_loc, ↓qCl_lst, ↓wS_retFz, ↓wS_raise, ↓wS_for, ↓wS_try, ↓wG_set0, ↓wG_setS, ↓wG_then, ↓wG_sub, ↓wG_fld, ↓qT_tup, ↓wG_tup, ↓wGs_nil, ↓wGs_cons, ↓endB_nx, ↓endB_rt, ↓endB_er, ↓endB_bk, ↓endB_ct, ↓loopP_nx, ↓loopP_ct, ↓loopP_bk, ↓loopP_rt, ↓loopP_er, ↓qO_some, ↓qO_at0, ↓qO_at1, ↓qO_at2, ↓qO_at3, ↓qO_at4, ↓qO_at5, ↓w_add_int, ↓w_add_str, ↓w_add_tup, ↓w_add_lst, ↓w_sub, ↓w_mod, ↓w_div, ↓w_mul, ↓w_pow, ↓w_band, ↓w_lt, ↓w_le, ↓w_gt, ↓w_ge, ↓w_is, ↓w_isNot, ↓nonN, ↓nonI, ↓nonS, ↓nonT, ↓nonL, ↓nonLoc, ↓w_eq_int, ↓w_ne_int, ↓w_eq_str, ↓w_ne_str, ↓qIx_lst, ↓qIx_dK, ↓qIxS_dK, ↓w_ix_loc, ↓w_ix_locS, ↓w_ix_lst, ↓w_ix_tup, ↓w_ix_str, ↓qLS_0, ↓qLS_1, ↓qLS_2, ↓qLS_3, ↓qSet_lst, ↓qSet_dK, ↓qSetS_dK, ↓w_setI, ↓w_setS, ↓qF_ins, ↓w_fld, ↓qSF_ins, ↓w_setF, ↓w_len_str, ↓w_len_lst, ↓w_len_tup, ↓qLen_lst, ↓qLen_dK, ↓w_len_loc, ↓w_max, ↓w_min, ↓w_int_int, ↓w_int_bl, ↓w_str_int, ↓qDc_dK, ↓w_dict, ↓w_tuple_lst, ↓w_tuple_tup, ↓w_tuple_loc, ↓w_list_lst, ↓w_list_tup, ↓w_iter_lst, ↓w_iter_tup, ↓w_iter_str, ↓w_iter_loc, ↓w_rng1, ↓w_rng2, ↓w_sl_str, ↓w_sl_tup, ↓w_sl_lst, ↓w_append, ↓w_lclear, ↓tyS_str, ↓tyL_lst, ↓qM_loc, ↓look1, ↓wC_set, ↓wC_setn, ↓wC_push2, ↓wC_pushn, ↓wE_yes, ↓wE_revL, ↓qO_lst, ↓w_all_lst, ↓w_join_lst, ↓isi_non_int, ↓isi_non_bool, ↓isi_non_str, ↓isi_non_tuple, ↓isi_non_list, ↓isi_non_dict, ↓isi_bl_int, ↓isi_bl_bool, ↓isi_bl_str, ↓isi_bl_tuple, ↓isi_bl_list, ↓isi_bl_dict, ↓isi_int_int, ↓isi_int_bool, ↓isi_int_str, ↓isi_int_tuple, ↓isi_int_list, ↓isi_int_dict, ↓isi_str_int, ↓isi_str_bool, ↓isi_str_str, ↓isi_str_tuple, ↓isi_str_list, ↓isi_str_dict, ↓isi_tup_int, ↓isi_tup_bool, ↓isi_tup_str, ↓isi_tup_tuple, ↓isi_tup_list, ↓isi_tup_dict, ↓isi_lst_int, ↓isi_lst_bool, ↓isi_lst_str, ↓isi_lst_tuple, ↓isi_lst_list, ↓isi_lst_dict, decide_eq_true_eq, beq_iff_eq, Bool.not_eq_true', Bool.not_eq_eq_eq_not, Bool.not_true, Bool.not_false, decide_eq_false_iff_not, beq_eq_false_iff_ne, ne_eq, true_and, and_true, if_true, if_false, ite_true, ite_false, reduceIte, Bool.false_eq_true, not_false_eq_true, not_true_eq_false, Int.reduceLT, Int.reduceLE, Int.reduceToNat, Nat.reduceLT, Nat.reduceLeDiff, Int.reducePow, Nat.reduceAdd, Int.reduceAdd, Int.reduceMul, Int.reduceSub, Int.reduceNeg, Nat.reducePow, Int.reduceEq, Nat.reduceEqDiff, List.length_cons, List.length_nil, PySem.sizeLine_eq, str_len_app, str_len_one, wipeD, List.set_cons_zero, List.set_cons_succ, nmE]
      refine ⟨by omega, ?_⟩
      refine (draw_ok hs3 (by omega) (by omega) (by omega)).go ?_
      rintro _ μ4 ⟨d, rfl, hd0, hd1, hs4, f4⟩
      simp -failIfUnchanged (disch := (first | (simp only [len_push, len_set]; omega) | omega | assumption)) only [↓wR_ok, ↓wR_err, ↓wE_var0, ↓wE_varS, ↓wE_C, ↓wE_op, ↓wE_cmp, ↓wE_bl, ↓qB_bl, ↓wE_asB, ↓wE_and, ↓wE_or, ↓wE_not, ↓wE_andV, ↓wE_orV, ↓wE_notV, ↓wE_if, ↓wE_nil, ↓wE_cons, ↓wE_fz, ↓wE_lc, ↓wE_tup, ↓wE_lst, ↓wE_call, ↓wE_nopart, ↓qI_int, ↓wE_part, ↓wE_slice, ↓wE_fld, ↓wE_dnew, ↓wE_iter, ↓wE_rev, ↓wE_pos, ↓wE_kws, ↓wE_noa, ↓wE_both, ↓wE_fn, ↓wE_mth, ↓qN_non, ↓wE_mk, ↓wE_meth, ↓wE_neg, ↓wE_chain, ↓wE_comp, ↓wS_nx, ↓wS_bk, ↓wS_ct, ↓wS_seq, ↓wS_drop, ↓wS_ret, ↓wS_retN, ↓wS_if, ↓wS_asg, ↓qL_loc, ↓qCl_lst, ↓wS_retFz, ↓wS_raise, ↓wS_for, ↓wS_try, ↓wG_set0, ↓wG_setS, ↓wG_then, ↓wG_sub, ↓wG_fld, ↓qT_tup, ↓wG_tup, ↓wGs_nil, ↓wGs_cons, ↓endB_nx, ↓endB_rt, ↓endB_er, ↓endB_bk, ↓endB_ct, ↓loopP_nx, ↓loopP_ct, ↓loopP_bk, ↓loopP_rt, ↓loopP_er, ↓qO_some, ↓qO_at0, ↓qO_at1, ↓qO_at2, ↓qO_at3, ↓qO_at4, ↓qO_at5, ↓w_add_int, ↓w_add_str, ↓w_add_tup, ↓w_add_lst, ↓w_sub, ↓w_mod, ↓w_div, ↓w_mul, ↓w_pow, ↓w_band, ↓w_lt, ↓w_le, ↓w_gt, ↓w_ge, ↓w_is, ↓w_isNot, ↓nonN, ↓nonI, ↓nonS, ↓nonT, ↓nonL, ↓nonLoc, ↓w_eq_int, ↓w_ne_int, ↓w_eq_str, ↓w_ne_str, ↓qIx_lst, ↓qIx_dK, ↓qIxS_dK, ↓w_ix_loc, ↓w_ix_locS, ↓w_ix_lst, ↓w_ix_tup, ↓w_ix_str, ↓qLS_0, ↓qLS_1, ↓qLS_2, ↓qLS_3, ↓qSet_lst, ↓qSet_dK, ↓qSetS_dK, ↓w_setI, ↓w_setS, ↓qF_ins, ↓w_fld, ↓qSF_ins, ↓w_setF, ↓w_len_str, ↓w_len_lst, ↓w_len_tup, ↓qLen_lst, ↓qLen_dK, ↓w_len_loc, ↓w_max, ↓w_min, ↓w_int_int, ↓w_int_bl, ↓w_str_int, ↓qDc_dK, ↓w_dict, ↓w_tuple_lst, ↓w_tuple_tup, ↓w_tuple_loc, ↓w_list_lst, ↓w_list_tup, ↓w_iter_lst, ↓w_iter_tup, ↓w_iter_str, ↓w_iter_loc, ↓w_rng1, ↓w_rng2, ↓w_sl_str, ↓w_sl_tup, ↓w_sl_lst, ↓w_append, ↓w_lclear, ↓tyS_str, ↓tyL_lst, ↓qM_loc, ↓look1, ↓wC_set, ↓wC_setn, ↓wC_push2, ↓wC_pushn, ↓wE_yes, ↓wE_revL, ↓qO_lst, ↓w_all_lst, ↓w_join_lst, ↓isi_non_int, ↓isi_non_bool, ↓isi_non_str, ↓isi_non_tuple, ↓isi_non_list, ↓isi_non_dict, ↓isi_bl_int, ↓isi_bl_bool, ↓isi_bl_str, ↓isi_bl_tuple, ↓isi_bl_list, ↓isi_bl_dict, ↓isi_int_int, ↓isi_int_bool, ↓isi_int_str, ↓isi_int_tuple, ↓isi_int_list, ↓isi_int_dict, ↓isi_str_int, ↓isi_str_bool, ↓isi_str_str, ↓isi_str_tuple, ↓isi_str_list, ↓isi_str_dict, ↓isi_tup_int, ↓isi_tup_bool, ↓isi_tup_str, ↓isi_tup_tuple, ↓isi_tup_list, ↓isi_tup_dict, ↓isi_lst_int, ↓isi_lst_bool, ↓isi_lst_str, ↓isi_lst_tuple, ↓isi_lst_list, ↓isi_lst_dict, decide_eq_true_eq, beq_iff_eq, Bool.not_eq_true', Bool.not_eq_eq_eq_not, Bool.not_true, Bool.not_false, decide_eq_false_iff_not, beq_eq_false_iff_ne, ne_eq, true_and, and_true, if_true, if_false, ite_true, ite_false, reduceIte, Bool.false_eq_true, not_false_eq_true, not_true_eq_false, Int.reduceLT, Int.reduceLE, Int.reduceToNat, Nat.reduceLT, Nat.reduceLeDiff, Int.reducePow, Nat.reduceAdd, Int.reduceAdd, Int.reduceMul, Int.reduceSub, Int.reduceNeg, Nat.reducePow, Int.reduceEq, Nat.reduceEqDiff, List.length_cons, List.length_nil, PySem.sizeLine_eq, str_len_app, str_len_one, wipeD, List.set_cons_zero, List.set_cons_succ]
      refine (draw_ok hs4 (by omega) (by omega) (by omega)).go ?_
      rintro _ μ5 ⟨e, rfl, he0, he1, hs5, f5⟩
      simp -failIfUnchanged (disch := (first | (simp only [len_push, len_set]; omega) | omega | assumption)) only [↓wR_ok, ↓wR_err, ↓wE_var0, ↓wE_varS, ↓wE_C, ↓wE_op, ↓wE_cmp, ↓wE_bl, ↓qB_bl, ↓wE_asB, ↓wE_and, ↓wE_or, ↓wE_not, ↓wE_andV, ↓wE_orV, ↓wE_notV, ↓wE_if, ↓wE_nil, ↓wE_cons, ↓wE_fz, ↓wE_lc, ↓wE_tup, ↓wE_lst, ↓wE_call, ↓wE_nopart, ↓qI_int, ↓wE_part, ↓wE_slice, ↓wE_fld, ↓wE_dnew, ↓wE_iter, ↓wE_rev, ↓wE_pos, ↓wE_kws, ↓wE_noa, ↓wE_both, ↓wE_fn, ↓wE_mth, ↓qN_non, ↓wE_mk, ↓wE_meth, ↓wE_neg, ↓wE_chain, ↓wE_comp, ↓wS_nx, ↓wS_bk, ↓wS_ct, ↓wS_seq, ↓wS_drop, ↓wS_ret, ↓wS_retN, ↓wS_if, ↓wS_asg, ↓qL_loc, ↓qCl_lst, ↓wS_retFz, ↓wS_raise, ↓wS_for, ↓wS_try, ↓wG_set0, ↓wG_setS, ↓wG_then, ↓wG_sub, ↓wG_fld, ↓qT_tup, ↓wG_tup, ↓wGs_nil, ↓wGs_cons, ↓endB_nx, ↓endB_rt, ↓endB_er, ↓endB_bk, ↓endB_ct, ↓loopP_nx, ↓loopP_ct, ↓loopP_bk, ↓loopP_rt, ↓loopP_er, ↓qO_some, ↓qO_at0, ↓qO_at1, ↓qO_at2, ↓qO_at3, ↓qO_at4, ↓qO_at5, ↓w_add_int, ↓w_add_str, ↓w_add_tup, ↓w_add_lst, ↓w_sub, ↓w_mod, ↓w_div, ↓w_mul, ↓w_pow, ↓w_band, ↓w_lt, ↓w_le, ↓w_gt, ↓w_ge, ↓w_is, ↓w_isNot, ↓nonN, ↓nonI, ↓nonS, ↓nonT, ↓nonL, ↓nonLoc, ↓w_eq_int, ↓w_ne_int, ↓w_eq_str, ↓w_ne_str, ↓qIx_lst, ↓qIx_dK, ↓qIxS_dK, ↓w_ix_loc, ↓w_ix_locS, ↓w_ix_lst, ↓w_ix_tup, ↓w_ix_str, ↓qLS_0, ↓qLS_1, ↓qLS_2, ↓qLS_3, ↓qSet_lst, ↓qSet_dK, ↓qSetS_dK, ↓w_setI, ↓w_setS, ↓qF_ins, ↓w_fld, ↓qSF_ins, ↓w_setF, ↓w_len_str, ↓w_len_lst, ↓w_len_tup, ↓qLen_lst, ↓qLen_dK, ↓w_len_loc, ↓w_max, ↓w_min, ↓w_int_int, ↓w_int_bl, ↓w_str_int, ↓qDc_dK, ↓w_dict, ↓w_tuple_lst, ↓w_tuple_tup, ↓w_tuple_loc, ↓w_list_lst, ↓w_list_tup, ↓w_iter_lst, ↓w_iter_tup, ↓w_iter_str, ↓w_iter_loc, ↓w_rng1, ↓w_rng2, ↓w_sl_str, ↓w_sl_tup, ↓w_sl_lst, ↓w_append, ↓w_lclear, ↓tyS_str, ↓tyL_lst, ↓qM_loc, ↓look1, ↓wC_set, ↓wC_setn, ↓wC_push2, ↓wC_pushn, ↓wE_yes, ↓wE_revL, ↓qO_lst, ↓w_all_lst, ↓w_join_lst, ↓isi_non_int, ↓isi_non_bool, ↓isi_non_str, ↓isi_non_tuple, ↓isi_non_list, ↓isi_non_dict, ↓isi_bl_int, ↓isi_bl_bool, ↓isi_bl_str, ↓isi_bl_tuple, ↓isi_bl_list, ↓isi_bl_dict, ↓isi_int_int, ↓isi_int_bool, ↓isi_int_str, ↓isi_int_tuple, ↓isi_int_list, ↓isi_int_dict, ↓isi_str_int, ↓isi_str_bool, ↓isi_str_str, ↓isi_str_tuple, ↓isi_str_list, ↓isi_str_dict, ↓isi_tup_int, ↓isi_tup_bool, ↓isi_tup_str, ↓isi_tup_tuple, ↓isi_tup_list, ↓isi_tup_dict, ↓isi_lst_int, ↓isi_lst_bool, ↓isi_lst_str, ↓isi_lst_tuple, ↓isi_lst_list, ↓isi_lst_dict, decide_eq_true_eq, beq_iff_eq, Bool.not_eq_true', Bool.not_eq_eq_eq_not, Bool.not_true, Bool.not_false, decide_eq_false_iff_not, beq_eq_false_iff_ne, ne_eq, true_and, and_true, if_true, if_false, ite_true, ite_false, reduceIte, Bool.false_eq_true, not_false_eq_true, not_true_eq_false, Int.reduceLT, Int.reduceLE, Int.reduceToNat, Nat.reduceLT, Nat.reduceLeDiff, Int.reducePow, Nat.reduceAdd, Int.reduceAdd, Int.reduceMul, Int.reduceSub, Int.reduceNeg, Nat.reducePow, Int.reduceEq, Nat.reduceEqDiff, List.length_cons, List.length_nil, PySem.sizeLine_eq, str_len_app, str_len_one, wipeD, List.set_cons_zero, List.set_cons_succ]
      have hp5 : μ5.cells[μ.cells.length]? = some (.lst (ws.map D.str)) := f5.get (f4.get hp (by simp; omega)) (by simp; omega)
      have g5 : Fr [n] μ μ5 := f3.trans (f4.trans f5)
      let cand : Nat → Str := fun j => putIn body' d.toNat (97 + ((e + j) % 26).toNat)
      refine w_range (fun j δ μ' => μ' = μ5 ∧ ∃ (found : Str) (x10 x11 : Option D), δ = [some (.loc n), some (.int k), some (.str "abcdefghijklmnopqrstuvwxyz"), some (.loc μ.cells.length), some (.str body'), some (.bl (a == 1)), some (.int (0 + (i : Nat))), some (.int d), some (.int e), some (.str found), x10, x11] ∧
        ((found = "" ∧ ∀ j' < j, cand j' ∈ ws) ∨ ∃ j' < 26, found = cand j' ∧ found ∉ ws)) _ _ ?_ ?_ ?_
      · exact ⟨rfl, "", _, _, rfl, .inl ⟨rfl, by simp⟩⟩
      · rintro j δ _ hj ⟨rfl, found, x10, x11, rfl, hf⟩
        have h26 : 0 ≤ (e + (0 + (j : Int))) % 26 ∧ (e + (0 + (j : Int))) % 26 < 26 := ⟨Int.emod_nonneg _ (by decide), Int.emod_lt_of_pos _ (by decide)⟩
        have ec : cutS body' none (some d) ++ ⟨#[97 + ((e + (0 + (j : Int))) % 26).toNat]⟩ ++ cutS body' (some d) none = cand j := by
          show _ = putIn body' d.toNat _
          unfold putIn
          rw [Int.toNat_of_nonneg hd0, Int.zero_add]
        have el := putIn_len body' d.toNat (97 + ((e + (0 + (j : Int))) % 26).toNat)
        simp -failIfUnchanged (disch := (first | (simp only [len_push, len_set]; omega) | omega | assumption)) only [↓wR_ok, ↓wR_err, ↓wE_var0, ↓wE_varS, ↓wE_C, ↓wE_op, ↓wE_cmp, ↓wE_bl, ↓qB_bl, ↓wE_asB, ↓wE_and, ↓wE_or, ↓wE_not, ↓wE_andV, ↓wE_orV, ↓wE_notV, ↓wE_if, ↓wE_nil, ↓wE_cons, ↓wE_fz, ↓wE_lc, ↓wE_tup, ↓wE_lst, ↓wE_call, ↓wE_nopart, ↓qI_int, ↓wE_part, ↓wE_slice, ↓wE_fld, ↓wE_dnew, ↓wE_iter, ↓wE_rev, ↓wE_pos, ↓wE_kws, ↓wE_noa, ↓wE_both, ↓wE_fn, ↓wE_mth, ↓qN_non, ↓wE_mk, ↓wE_meth, ↓wE_neg, ↓wE_chain, ↓wE_comp, ↓wS_nx, ↓wS_bk, ↓wS_ct, ↓wS_seq, ↓wS_drop, ↓wS_ret, ↓wS_retN, ↓wS_if, ↓wS_asg, ↓qL_loc, ↓qCl_lst, ↓wS_retFz, ↓wS_raise, ↓wS_for, ↓wS_try, ↓wG_set0, ↓wG_setS, ↓wG_then, ↓wG_sub, ↓wG_fld, ↓qT_tup, ↓wG_tup, ↓wGs_nil, ↓wGs_cons, ↓endB_nx, ↓endB_rt, ↓endB_er, ↓endB_bk, ↓endB_ct, ↓loopP_nx, ↓loopP_ct, ↓loopP_bk, ↓loopP_rt, ↓loopP_er, ↓qO_some, ↓qO_at0, ↓qO_at1, ↓qO_at2, ↓qO_at3, ↓qO_at4, ↓qO_at5, ↓w_add_int, ↓w_add_str, ↓w_add_tup, ↓w_add_lst, ↓w_sub, ↓w_mod, ↓w_div, ↓w_mul, ↓w_pow, ↓w_band, ↓w_lt, ↓w_le, ↓w_gt, ↓w_ge, ↓w_is, ↓w_isNot, ↓nonN, ↓nonI, ↓nonS, ↓nonT, ↓nonL, ↓nonLoc, ↓w_eq_int, ↓w_ne_int, ↓w_eq_str, ↓w_ne_str, ↓qIx_lst, ↓qIx_dK, ↓qIxS_dK, ↓w_ix_loc, ↓w_ix_locS, ↓w_ix_lst, ↓w_ix_tup, ↓w_ix_str, ↓qLS_0, ↓qLS_1, ↓qLS_2, ↓qLS_3, ↓qSet_lst, ↓qSet_dK, ↓qSetS_dK, ↓w_setI, ↓w_setS, ↓qF_ins, ↓w_fld, ↓qSF_ins, ↓w_setF, ↓w_len_str, ↓w_len_lst, ↓w_len_tup, ↓qLen_lst, ↓qLen_dK, ↓w_len_loc, ↓w_max, ↓w_min, ↓w_int_int, ↓w_int_bl, ↓w_str_int, ↓qDc_dK, ↓w_dict, ↓w_tuple_lst, ↓w_tuple_tup, ↓w_tuple_loc, ↓w_list_lst, ↓w_list_tup, ↓w_iter_lst, ↓w_iter_tup, ↓w_iter_str, ↓w_iter_loc, ↓w_rng1, ↓w_rng2, ↓w_sl_str, ↓w_sl_tup, ↓w_sl_lst, ↓w_append, ↓w_lclear, ↓tyS_str, ↓tyL_lst, ↓qM_loc, ↓look1, ↓wC_set, ↓wC_setn, ↓wC_push2, ↓wC_pushn, ↓wE_yes, ↓wE_revL, ↓qO_lst, ↓w_all_lst, ↓w_join_lst, ↓isi_non_int, ↓isi_non_bool, ↓isi_non_str, ↓isi_non_tuple, ↓isi_non_list, ↓isi_non_dict, ↓isi_bl_int, ↓isi_bl_bool, ↓isi_bl_str, ↓isi_bl_tuple, ↓isi_bl_list, ↓isi_bl_dict, ↓isi_int_int, ↓isi_int_bool, ↓isi_int_str, ↓isi_int_tuple, ↓isi_int_list, ↓isi_int_dict, ↓isi_str_int, ↓isi_str_bool, ↓isi_str_str, ↓isi_str_tuple, ↓isi_str_list, ↓isi_str_dict, ↓isi_tup_int, ↓isi_tup_bool, ↓isi_tup_str, ↓isi_tup_tuple, ↓isi_tup_list, ↓isi_tup_dict, ↓isi_lst_int, ↓isi_lst_bool, ↓isi_lst_str, ↓isi_lst_tuple, ↓isi_lst_list, ↓isi_lst_dict, decide_eq_true_eq, beq_iff_eq, Bool.not_eq_true', Bool.not_eq_eq_eq_not, Bool.not_true, Bool.not_false, decide_eq_false_iff_not, beq_eq_false_iff_ne, ne_eq, true_and, and_true, if_true, if_false, ite_true, ite_false, reduceIte, Bool.false_eq_true, not_false_eq_true, not_true_eq_false, Int.reduceLT, Int.reduceLE, Int.reduceToNat, Nat.reduceLT, Nat.reduceLeDiff, Int.reducePow, Nat.reduceAdd, Int.reduceAdd, Int.reduceMul, Int.reduceSub, Int.reduceNeg, Nat.reducePow, Int.reduceEq, Nat.reduceEqDiff, List.length_cons, List.length_nil, PySem.sizeLine_eq, str_len_app, str_len_one, wipeD, List.set_cons_zero, List.set_cons_succ, ↓qO_of (letter_at h26.1 h26.2), letters_len, ec, ↓w_notIn_words hp5]
        have l1 := cut_len_le body' none (some d)
        have l2 := cut_len_le body' (some d) none
        repeat refine And.intro (by (first | exact mulOk (by omega) (by omega) (by omega) (by omega) | exact divOk (by omega) (by omega) | exact powOk (by omega) (by omega) (by omega) (by omega) | exact strOk' (by omega) (by omega) | assumption | omega | decide)) ?_
        split
        · split
          · rename_i hj1
            exact ⟨_, _, _, rfl, .inr ⟨j, hj, rfl, hj1⟩⟩
          · rename_i hf0 hj1
            refine ⟨_, _, _, rfl, ?_⟩
            rcases hf with ⟨_, hf⟩ | hf
            · refine .inl ⟨hf0, fun j' hj' => ?_⟩
              rcases Nat.lt_or_ge j' j with h | h
              · exact hf j' h
              · have : j' = j := by omega
                subst this; exact Decidable.not_not.mp hj1
            · exact .inr hf
        · rename_i hf0
          refine ⟨_, _, _, rfl, ?_⟩
          rcases hf with ⟨h, _⟩ | hf
          · exact absurd h hf0
          · exact .inr hf
      · rintro δ _ ⟨rfl, found, x10, x11, rfl, hf⟩
        have hf : ∃ j' < 26, found = cand j' ∧ found ∉ ws := by
          rcases hf with ⟨_, hf⟩ | hf
          · exfalso
            have hnd : ((List.range 26).map cand).Nodup := by
              refine nodup_map_on ?_ List.nodup_range
              intro x hx y hy hxy
              have := putIn_inj hxy
              simp at hx hy
              omega
            have := pigeon hnd (r := ws) fun z hz => by
              obtain ⟨j, hj, rfl⟩ := List.mem_map.mp hz
              exact hf j (by simpa using hj)
            simp at this
            omega
          · exact hf
        obtain ⟨j, hj, rfl, hnot⟩ := hf
        have h26 : 0 ≤ (e + (j : Int)) % 26 ∧ (e + (j : Int)) % 26 < 26 := ⟨Int.emod_nonneg _ (by decide), Int.emod_lt_of_pos _ (by decide)⟩
        have hcl : (cand j).length = body'.length + 1 := putIn_len _ _ _
        have hlt := at_lt hp5
        simp -failIfUnchanged (disch := (first | (simp only [len_push, len_set]; omega) | omega | assumption)) only [↓wR_ok, ↓wR_err, ↓wE_var0, ↓wE_varS, ↓wE_C, ↓wE_op, ↓wE_cmp, ↓wE_bl, ↓qB_bl, ↓wE_asB, ↓wE_and, ↓wE_or, ↓wE_not, ↓wE_andV, ↓wE_orV, ↓wE_notV, ↓wE_if, ↓wE_nil, ↓wE_cons, ↓wE_fz, ↓wE_lc, ↓wE_tup, ↓wE_lst, ↓wE_call, ↓wE_nopart, ↓qI_int, ↓wE_part, ↓wE_slice, ↓wE_fld, ↓wE_dnew, ↓wE_iter, ↓wE_rev, ↓wE_pos, ↓wE_kws, ↓wE_noa, ↓wE_both, ↓wE_fn, ↓wE_mth, ↓qN_non, ↓wE_mk, ↓wE_meth, ↓wE_neg, ↓wE_chain, ↓wE_comp, ↓wS_nx, ↓wS_bk, ↓wS_ct, ↓wS_seq, ↓wS_drop, ↓wS_ret, ↓wS_retN, ↓wS_if, ↓wS_asg, ↓qL_loc, ↓qCl_lst, ↓wS_retFz, ↓wS_raise, ↓wS_for, ↓wS_try, ↓wG_set0, ↓wG_setS, ↓wG_then, ↓wG_sub, ↓wG_fld, ↓qT_tup, ↓wG_tup, ↓wGs_nil, ↓wGs_cons, ↓endB_nx, ↓endB_rt, ↓endB_er, ↓endB_bk, ↓endB_ct, ↓loopP_nx, ↓loopP_ct, ↓loopP_bk, ↓loopP_rt, ↓loopP_er, ↓qO_some, ↓qO_at0, ↓qO_at1, ↓qO_at2, ↓qO_at3, ↓qO_at4, ↓qO_at5, ↓w_add_int, ↓w_add_str, ↓w_add_tup, ↓w_add_lst, ↓w_sub, ↓w_mod, ↓w_div, ↓w_mul, ↓w_pow, ↓w_band, ↓w_lt, ↓w_le, ↓w_gt, ↓w_ge, ↓w_is, ↓w_isNot, ↓nonN, ↓nonI, ↓nonS, ↓nonT, ↓nonL, ↓nonLoc, ↓w_eq_int, ↓w_ne_int, ↓w_eq_str, ↓w_ne_str, ↓qIx_lst, ↓qIx_dK, ↓qIxS_dK, ↓w_ix_loc, ↓w_ix_locS, ↓w_ix_lst, ↓w_ix_tup, ↓w_ix_str, ↓qLS_0, ↓qLS_1, ↓qLS_2, ↓qLS_3, ↓qSet_lst, ↓qSet_dK, ↓qSetS_dK, ↓w_setI, ↓w_setS, ↓qF_ins, ↓w_fld, ↓qSF_ins, ↓w_setF, ↓w_len_str, ↓w_len_lst, ↓w_len_tup, ↓qLen_lst, ↓qLen_dK, ↓w_len_loc, ↓w_max, ↓w_min, ↓w_int_int, ↓w_int_bl, ↓w_str_int, ↓qDc_dK, ↓w_dict, ↓w_tuple_lst, ↓w_tuple_tup, ↓w_tuple_loc, ↓w_list_lst, ↓w_list_tup, ↓w_iter_lst, ↓w_iter_tup, ↓w_iter_str, ↓w_iter_loc, ↓w_rng1, ↓w_rng2, ↓w_sl_str, ↓w_sl_tup, ↓w_sl_lst, ↓w_append, ↓w_lclear, ↓tyS_str, ↓tyL_lst, ↓qM_loc, ↓look1, ↓wC_set, ↓wC_setn, ↓wC_push2, ↓wC_pushn, ↓wE_yes, ↓wE_revL, ↓qO_lst, ↓w_all_lst, ↓w_join_lst, ↓isi_non_int, ↓isi_non_bool, ↓isi_non_str, ↓isi_non_tuple, ↓isi_non_list, ↓isi_non_dict, ↓isi_bl_int, ↓isi_bl_bool, ↓isi_bl_str, ↓isi_bl_tuple, ↓isi_bl_list, ↓isi_bl_dict, ↓isi_int_int, ↓isi_int_bool, ↓isi_int_str, ↓isi_int_tuple, ↓isi_int_list, ↓isi_int_dict, ↓isi_str_int, ↓isi_str_bool, ↓isi_str_str, ↓isi_str_tuple, ↓isi_str_list, ↓isi_str_dict, ↓isi_tup_int, ↓isi_tup_bool, ↓isi_tup_str, ↓isi_tup_tuple, ↓isi_tup_list, ↓isi_tup_dict, ↓isi_lst_int, ↓isi_lst_bool, ↓isi_lst_str, ↓isi_lst_tuple, ↓isi_lst_list, ↓isi_lst_dict, decide_eq_true_eq, beq_iff_eq, Bool.not_eq_true', Bool.not_eq_eq_eq_not, Bool.not_true, Bool.not_false, decide_eq_false_iff_not, beq_eq_false_iff_ne, ne_eq, true_and, and_true, if_true, if_false, ite_true, ite_false, reduceIte, Bool.false_eq_true, not_false_eq_true, not_true_eq_false, Int.reduceLT, Int.reduceLE, Int.reduceToNat, Nat.reduceLT, Nat.reduceLeDiff, Int.reducePow, Nat.reduceAdd, Int.reduceAdd, Int.reduceMul, Int.reduceSub, Int.reduceNeg, Nat.reducePow, Int.reduceEq, Nat.reduceEqDiff, List.length_cons, List.length_nil, PySem.sizeLine_eq, str_len_app, str_len_one, wipeD, List.set_cons_zero, List.set_cons_succ, ↓wC_of hp5, tyL_of hp5, List.length_map]
        refine ⟨by omega, ws ++ [cand j], body', _, _, _, _, _, _, rfl, by simp [hw1], ?_, ?_, hb1, hb2, ?_, ?_, g5.trans (Fr.set1 _ _ _) (by intro k hk _; simp at hk; omega)⟩
        · rw [List.nodup_append]
          refine ⟨hw2, by simp, fun x hx y hy => ?_⟩
          have : y = cand j := by simpa using hy
          subst this
          exact fun z => hnot (z ▸ hx)
        · intro w hw
          rcases List.mem_append.mp hw with hw | hw
          · exact hw3 w hw
          · have : w = cand j := by simpa using hw
            subst this
            exact ⟨by omega, by omega, putIn_low hb2 (by omega)⟩
        · rw [at_set hlt, List.map_append]; rfl
        · refine (hs5.fr (Fr.set1 _ μ.cells.length _) (by simp; omega)).mono (by omega)
  · rintro δ μ2 ⟨ws, body, x6, x7, x8, x9, x10, x11, rfl, hw1, hw2, hw3, hb1, hb2, hp, hs2, f2⟩
    simp -failIfUnchanged (disch := (first | (simp only [len_push, len_set]; omega) | omega | assumption)) only [↓wR_ok, ↓wR_err, ↓wE_var0, ↓wE_varS, ↓wE_C, ↓wE_op, ↓wE_cmp, ↓wE_bl, ↓qB_bl, ↓wE_asB, ↓wE_and, ↓wE_or, ↓wE_not, ↓wE_andV, ↓wE_orV, ↓wE_notV, ↓wE_if, ↓wE_nil, ↓wE_cons, ↓wE_fz, ↓wE_lc, ↓wE_tup, ↓wE_lst, ↓wE_call, ↓wE_nopart, ↓qI_int, ↓wE_part, ↓wE_slice, ↓wE_fld, ↓wE_dnew, ↓wE_iter, ↓wE_rev, ↓wE_pos, ↓wE_kws, ↓wE_noa, ↓wE_both, ↓wE_fn, ↓wE_mth, ↓qN_non, ↓wE_mk, ↓wE_meth, ↓wE_neg, ↓wE_chain, ↓wE_comp, ↓wS_nx, ↓wS_bk, ↓wS_ct, ↓wS_seq, ↓wS_drop, ↓wS_ret, ↓wS_retN, ↓wS_if, ↓wS_asg, ↓qL_loc, ↓qCl_lst, ↓wS_retFz, ↓wS_raise, ↓wS_for, ↓wS_try, ↓wG_set0, ↓wG_setS, ↓wG_then, ↓wG_sub, ↓wG_fld, ↓qT_tup, ↓wG_tup, ↓wGs_nil, ↓wGs_cons, ↓endB_nx, ↓endB_rt, ↓endB_er, ↓endB_bk, ↓endB_ct, ↓loopP_nx, ↓loopP_ct, ↓loopP_bk, ↓loopP_rt, ↓loopP_er, ↓qO_some, ↓qO_at0, ↓qO_at1, ↓qO_at2, ↓qO_at3, ↓qO_at4, ↓qO_at5, ↓w_add_int, ↓w_add_str, ↓w_add_tup, ↓w_add_lst, ↓w_sub, ↓w_mod, ↓w_div, ↓w_mul, ↓w_pow, ↓w_band, ↓w_lt, ↓w_le, ↓w_gt, ↓w_ge, ↓w_is, ↓w_isNot, ↓nonN, ↓nonI, ↓nonS, ↓nonT, ↓nonL, ↓nonLoc, ↓w_eq_int, ↓w_ne_int, ↓w_eq_str, ↓w_ne_str, ↓qIx_lst, ↓qIx_dK, ↓qIxS_dK, ↓w_ix_loc, ↓w_ix_locS, ↓w_ix_lst, ↓w_ix_tup, ↓w_ix_str, ↓qLS_0, ↓qLS_1, ↓qLS_2, ↓qLS_3, ↓qSet_lst, ↓qSet_dK, ↓qSetS_dK, ↓w_setI, ↓w_setS, ↓qF_ins, ↓w_fld, ↓qSF_ins, ↓w_setF, ↓w_len_str, ↓w_len_lst, ↓w_len_tup, ↓qLen_lst, ↓qLen_dK, ↓w_len_loc, ↓w_max, ↓w_min, ↓w_int_int, ↓w_int_bl, ↓w_str_int, ↓qDc_dK, ↓w_dict, ↓w_tuple_lst, ↓w_tuple_tup, ↓w_tuple_loc, ↓w_list_lst, ↓w_list_tup, ↓w_iter_lst, ↓w_iter_tup, ↓w_iter_str, ↓w_iter_loc, ↓w_rng1, ↓w_rng2, ↓w_sl_str, ↓w_sl_tup, ↓w_sl_lst, ↓w_append, ↓w_lclear, ↓tyS_str, ↓tyL_lst, ↓qM_loc, ↓look1, ↓wC_set, ↓wC_setn, ↓wC_push2, ↓wC_pushn, ↓wE_yes, ↓wE_revL, ↓qO_lst, ↓w_all_lst, ↓w_join_lst, ↓isi_non_int, ↓isi_non_bool, ↓isi_non_str, ↓isi_non_tuple, ↓isi_non_list, ↓isi_non_dict, ↓isi_bl_int, ↓isi_bl_bool, ↓isi_bl_str, ↓isi_bl_tuple, ↓isi_bl_list, ↓isi_bl_dict, ↓isi_int_int, ↓isi_int_bool, ↓isi_int_str, ↓isi_int_tuple, ↓isi_int_list, ↓isi_int_dict, ↓isi_str_int, ↓isi_str_bool, ↓isi_str_str, ↓isi_str_tuple, ↓isi_str_list, ↓isi_str_dict, ↓isi_tup_int, ↓isi_tup_bool, ↓isi_tup_str, ↓isi_tup_tuple, ↓isi_tup_list, ↓isi_tup_dict, ↓isi_lst_int, ↓isi_lst_bool, ↓isi_lst_str, ↓isi_lst_tuple, ↓isi_lst_list, ↓isi_lst_dict, decide_eq_true_eq, beq_iff_eq, Bool.not_eq_true', Bool.not_eq_eq_eq_not, Bool.not_true, Bool.not_false, decide_eq_false_iff_not, beq_eq_false_iff_ne, ne_eq, true_and, and_true, if_true, if_false, ite_true, ite_false, reduceIte, Bool.false_eq_true, not_false_eq_true, not_true_eq_false, Int.reduceLT, Int.reduceLE, Int.reduceToNat, Nat.reduceLT, Nat.reduceLeDiff, Int.reducePow, Nat.reduceAdd, Int.reduceAdd, Int.reduceMul, Int.reduceSub, Int.reduceNeg, Nat.reducePow, Int.reduceEq, Nat.reduceEqDiff, List.length_cons, List.length_nil, PySem.sizeLine_eq, str_len_app, str_len_one, wipeD, List.set_cons_zero, List.set_cons_succ, nmE, ↓wC_of hp]
    refine ⟨lkd_nil (f2.lk.trans hl), ws, rfl, by omega, hw2, hw3, ?_, f2.trans (Fr.set1 _ _ _) (by intro k hk _; simp at hk; omega)⟩
    exact (hs2.fr (Fr.set1 _ μ.cells.length _) (by simp; omega)).mono (by omega)
theorem number_ok {c : Cl} {μ : Mem} {n : Nat} {B : Int} (h : SrcAt μ n B) (hB : B + 2 < 2 ^ 40) :
    wR (m_x__law_number c [.loc n] μ) (fun v μ' => ∃ d : Int, v = .int d ∧ -(10 ^ 60) < d ∧ d < 10 ^ 60 ∧ SrcAt μ' n (B + 2) ∧ Fr [n] μ μ') noE := by
  unfold m_x__law_number
  rw [w_run]
  show wS (t_x__law_number c) [some (.loc n), none] μ _
  unfold t_x__law_number
  simp -failIfUnchanged (disch := (first | (simp only [len_push, len_set]; omega) | omega | assumption)) only [↓wR_ok, ↓wR_err, ↓wE_var0, ↓wE_varS, ↓wE_C, ↓wE_op, ↓wE_cmp, ↓wE_bl, ↓qB_bl, ↓wE_asB, ↓wE_and, ↓wE_or, ↓wE_not, ↓wE_andV, ↓wE_orV, ↓wE_notV, ↓wE_if, ↓wE_nil, ↓wE_cons, ↓wE_fz, ↓wE_lc, ↓wE_tup, ↓wE_lst, ↓wE_call, ↓wE_nopart, ↓qI_int, ↓wE_part, ↓wE_slice, ↓wE_fld, ↓wE_dnew, ↓wE_iter, ↓wE_rev, ↓wE_pos, ↓wE_kws, ↓wE_noa, ↓wE_both, ↓wE_fn, ↓wE_mth, ↓qN_non, ↓wE_mk, ↓wE_meth, ↓wE_neg, ↓wE_chain, ↓wE_comp, ↓wS_nx, ↓wS_bk, ↓wS_ct, ↓wS_seq, ↓wS_drop, ↓wS_ret, ↓wS_retN, ↓wS_if, ↓wS_asg, ↓qL_loc, ↓qCl_lst, ↓wS_retFz, ↓wS_raise, ↓wS_for, ↓wS_try, ↓wG_set0, ↓wG_setS, ↓wG_then, ↓wG_sub, ↓wG_fld, ↓qT_tup, ↓wG_tup, ↓wGs_nil, ↓wGs_cons, ↓endB_nx, ↓endB_rt, ↓endB_er, ↓endB_bk, ↓endB_ct, ↓loopP_nx, ↓loopP_ct, ↓loopP_bk, ↓loopP_rt, ↓loopP_er, ↓qO_some, ↓qO_at0, ↓qO_at1, ↓qO_at2, ↓qO_at3, ↓qO_at4, ↓qO_at5, ↓w_add_int, ↓w_add_str, ↓w_add_tup, ↓w_add_lst, ↓w_sub, ↓w_mod, ↓w_div, ↓w_mul, ↓w_pow, ↓w_band, ↓w_lt, ↓w_le, ↓w_gt, ↓w_ge, ↓w_is, ↓w_isNot, ↓nonN, ↓nonI, ↓nonS, ↓nonT, ↓nonL, ↓nonLoc, ↓w_eq_int, ↓w_ne_int, ↓w_eq_str, ↓w_ne_str, ↓qIx_lst, ↓qIx_dK, ↓qIxS_dK, ↓w_ix_loc, ↓w_ix_locS, ↓w_ix_lst, ↓w_ix_tup, ↓w_ix_str, ↓qLS_0, ↓qLS_1, ↓qLS_2, ↓qLS_3, ↓qSet_lst, ↓qSet_dK, ↓qSetS_dK, ↓w_setI, ↓w_setS, ↓qF_ins, ↓w_fld, ↓qSF_ins, ↓w_setF, ↓w_len_str, ↓w_len_lst, ↓w_len_tup, ↓qLen_lst, ↓qLen_dK, ↓w_len_loc, ↓w_max, ↓w_min, ↓w_int_int, ↓w_int_bl, ↓w_str_int, ↓qDc_dK, ↓w_dict, ↓w_tuple_lst, ↓w_tuple_tup, ↓w_tuple_loc, ↓w_list_lst, ↓w_list_tup, ↓w_iter_lst, ↓w_iter_tup, ↓w_iter_str, ↓w_iter_loc, ↓w_rng1, ↓w_rng2, ↓w_sl_str, ↓w_sl_tup, ↓w_sl_lst, ↓w_append, ↓w_lclear, ↓tyS_str, ↓tyL_lst, ↓qM_loc, ↓look1, ↓wC_set, ↓wC_setn, ↓wC_push2, ↓wC_pushn, ↓wE_yes, ↓wE_revL, ↓qO_lst, ↓w_all_lst, ↓w_join_lst, ↓isi_non_int, ↓isi_non_bool, ↓isi_non_str, ↓isi_non_tuple, ↓isi_non_list, ↓isi_non_dict, ↓isi_bl_int, ↓isi_bl_bool, ↓isi_bl_str, ↓isi_bl_tuple, ↓isi_bl_list, ↓isi_bl_dict, ↓isi_int_int, ↓isi_int_bool, ↓isi_int_str, ↓isi_int_tuple, ↓isi_int_list, ↓isi_int_dict, ↓isi_str_int, ↓isi_str_bool, ↓isi_str_str, ↓isi_str_tuple, ↓isi_str_list, ↓isi_str_dict, ↓isi_tup_int, ↓isi_tup_bool, ↓isi_tup_str, ↓isi_tup_tuple, ↓isi_tup_list, ↓isi_tup_dict, ↓isi_lst_int, ↓isi_lst_bool, ↓isi_lst_str, ↓isi_lst_tuple, ↓isi_lst_list, ↓isi_lst_dict, decide_eq_true_eq, beq_iff_eq, Bool.not_eq_true', Bool.not_eq_eq_eq_not, Bool.not_true, Bool.not_false, decide_eq_false_iff_not, beq_eq_false_iff_ne, ne_eq, true_and, and_true, if_true, if_false, ite_true, ite_false, reduceIte, Bool.false_eq_true, not_false_eq_true, not_true_eq_false, Int.reduceLT, Int.reduceLE, Int.reduceToNat, Nat.reduceLT, Nat.reduceLeDiff, Int.reducePow, Nat.reduceAdd, Int.reduceAdd, Int.reduceMul, Int.reduceSub, Int.reduceNeg, Nat.reducePow, Int.reduceEq, Nat.reduceEqDiff, List.length_cons, List.length_nil, PySem.sizeLine_eq, str_len_app, str_len_one, wipeD, List.set_cons_zero, List.set_cons_succ]
  refine (draw_ok h (by omega) (by omega) (by omega)).go ?_
  rintro _ μ1 ⟨a, rfl, ha0, ha1, hs1, f1⟩
  simp -failIfUnchanged (disch := (first | (simp only [len_push, len_set]; omega) | omega | assumption)) only [↓wR_ok, ↓wR_err, ↓wE_var0, ↓wE_varS, ↓wE_C, ↓wE_op, ↓wE_cmp, ↓wE_bl, ↓qB_bl, ↓wE_asB, ↓wE_and, ↓wE_or, ↓wE_not, ↓wE_andV, ↓wE_orV, ↓wE_notV, ↓wE_if, ↓wE_nil, ↓wE_cons, ↓wE_fz, ↓wE_lc, ↓wE_tup, ↓wE_lst, ↓wE_call, ↓wE_nopart, ↓qI_int, ↓wE_part, ↓wE_slice, ↓wE_fld, ↓wE_dnew, ↓wE_iter, ↓wE_rev, ↓wE_pos, ↓wE_kws, ↓wE_noa, ↓wE_both, ↓wE_fn, ↓wE_mth, ↓qN_non, ↓wE_mk, ↓wE_meth, ↓wE_neg, ↓wE_chain, ↓wE_comp, ↓wS_nx, ↓wS_bk, ↓wS_ct, ↓wS_seq, ↓wS_drop, ↓wS_ret, ↓wS_retN, ↓wS_if, ↓wS_asg, ↓qL_loc, ↓qCl_lst, ↓wS_retFz, ↓wS_raise, ↓wS_for, ↓wS_try, ↓wG_set0, ↓wG_setS, ↓wG_then, ↓wG_sub, ↓wG_fld, ↓qT_tup, ↓wG_tup, ↓wGs_nil, ↓wGs_cons, ↓endB_nx, ↓endB_rt, ↓endB_er, ↓endB_bk, ↓endB_ct, ↓loopP_nx, ↓loopP_ct, ↓loopP_bk, ↓loopP_rt, ↓loopP_er, ↓qO_some, ↓qO_at0, ↓qO_at1, ↓qO_at2, ↓qO_at3, ↓qO_at4, ↓qO_at5, ↓w_add_int, ↓w_add_str, ↓w_add_tup, ↓w_add_lst, ↓w_sub, ↓w_mod, ↓w_div, ↓w_mul, ↓w_pow, ↓w_band, ↓w_lt, ↓w_le, ↓w_gt, ↓w_ge, ↓w_is, ↓w_isNot, ↓nonN, ↓nonI, ↓nonS, ↓nonT, ↓nonL, ↓nonLoc, ↓w_eq_int, ↓w_ne_int, ↓w_eq_str, ↓w_ne_str, ↓qIx_lst, ↓qIx_dK, ↓qIxS_dK, ↓w_ix_loc, ↓w_ix_locS, ↓w_ix_lst, ↓w_ix_tup, ↓w_ix_str, ↓qLS_0, ↓qLS_1, ↓qLS_2, ↓qLS_3, ↓qSet_lst, ↓qSet_dK, ↓qSetS_dK, ↓w_setI, ↓w_setS, ↓qF_ins, ↓w_fld, ↓qSF_ins, ↓w_setF, ↓w_len_str, ↓w_len_lst, ↓w_len_tup, ↓qLen_lst, ↓qLen_dK, ↓w_len_loc, ↓w_max, ↓w_min, ↓w_int_int, ↓w_int_bl, ↓w_str_int, ↓qDc_dK, ↓w_dict, ↓w_tuple_lst, ↓w_tuple_tup, ↓w_tuple_loc, ↓w_list_lst, ↓w_list_tup, ↓w_iter_lst, ↓w_iter_tup, ↓w_iter_str, ↓w_iter_loc, ↓w_rng1, ↓w_rng2, ↓w_sl_str, ↓w_sl_tup, ↓w_sl_lst, ↓w_append, ↓w_lclear, ↓tyS_str, ↓tyL_lst, ↓qM_loc, ↓look1, ↓wC_set, ↓wC_setn, ↓wC_push2, ↓wC_pushn, ↓wE_yes, ↓wE_revL, ↓qO_lst, ↓w_all_lst, ↓w_join_lst, ↓isi_non_int, ↓isi_non_bool, ↓isi_non_str, ↓isi_non_tuple, ↓isi_non_list, ↓isi_non_dict, ↓isi_bl_int, ↓isi_bl_bool, ↓isi_bl_str, ↓isi_bl_tuple, ↓isi_bl_list, ↓isi_bl_dict, ↓isi_int_int, ↓isi_int_bool, ↓isi_int_str, ↓isi_int_tuple, ↓isi_int_list, ↓isi_int_dict, ↓isi_str_int, ↓isi_str_bool, ↓isi_str_str, ↓isi_str_tuple, ↓isi_str_list, ↓isi_str_dict, ↓isi_tup_int, ↓isi_tup_bool, ↓isi_tup_str, ↓isi_tup_tuple, ↓isi_tup_list, ↓isi_tup_dict, ↓isi_lst_int, ↓isi_lst_bool, ↓isi_lst_str, ↓isi_lst_tuple, ↓isi_lst_list, ↓isi_lst_dict, decide_eq_true_eq, beq_iff_eq, Bool.not_eq_true', Bool.not_eq_eq_eq_not, Bool.not_true, Bool.not_false, decide_eq_false_iff_not, beq_eq_false_iff_ne, ne_eq, true_and, and_true, if_true, if_false, ite_true, ite_false, reduceIte, Bool.false_eq_true, not_false_eq_true, not_true_eq_false, Int.reduceLT, Int.reduceLE, Int.reduceToNat, Nat.reduceLT, Nat.reduceLeDiff, Int.reducePow, Nat.reduceAdd, Int.reduceAdd, Int.reduceMul, Int.reduceSub, Int.reduceNeg, Nat.reducePow, Int.reduceEq, Nat.reduceEqDiff, List.length_cons, List.length_nil, PySem.sizeLine_eq, str_len_app, str_len_one, wipeD, List.set_cons_zero, List.set_cons_succ]
  split
  · repeat refine And.intro (by (first | exact mulOk (by omega) (by omega) (by omega) (by omega) | exact divOk (by omega) (by omega) | exact powOk (by omega) (by omega) (by omega) (by omega) | exact strOk' (by omega) (by omega) | assumption | omega | decide)) ?_
    refine (draw_ok hs1 (by omega) (by omega) (by omega)).go ?_
    rintro _ μ2 ⟨b, rfl, hb0, hb1, hs2, f2⟩
    exact ⟨b, rfl, by omega, by omega, hs2.mono (by omega), f1.trans f2⟩
  · split
    · repeat refine And.intro (by (first | exact mulOk (by omega) (by omega) (by omega) (by omega) | exact divOk (by omega) (by omega) | exact powOk (by omega) (by omega) (by omega) (by omega) | exact strOk' (by omega) (by omega) | assumption | omega | decide)) ?_
      refine (draw_ok hs1 (by omega) (by omega) (by omega)).go ?_
      rintro _ μ2 ⟨b, rfl, hb0, hb1, hs2, f2⟩
      simp -failIfUnchanged (disch := (first | (simp only [len_push, len_set]; omega) | omega | assumption)) only [↓wR_ok, ↓wR_err, ↓wE_var0, ↓wE_varS, ↓wE_C, ↓wE_op, ↓wE_cmp, ↓wE_bl, ↓qB_bl, ↓wE_asB, ↓wE_and, ↓wE_or, ↓wE_not, ↓wE_andV, ↓wE_orV, ↓wE_notV, ↓wE_if, ↓wE_nil, ↓wE_cons, ↓wE_fz, ↓wE_lc, ↓wE_tup, ↓wE_lst, ↓wE_call, ↓wE_nopart, ↓qI_int, ↓wE_part, ↓wE_slice, ↓wE_fld, ↓wE_dnew, ↓wE_iter, ↓wE_rev, ↓wE_pos, ↓wE_kws, ↓wE_noa, ↓wE_both, ↓wE_fn, ↓wE_mth, ↓qN_non, ↓wE_mk, ↓wE_meth, ↓wE_neg, ↓wE_chain, ↓wE_comp, ↓wS_nx, ↓wS_bk, ↓wS_ct, ↓wS_seq, ↓wS_drop, ↓wS_ret, ↓wS_retN, ↓wS_if, ↓wS_asg, ↓qL_loc, ↓qCl_lst, ↓wS_retFz, ↓wS_raise, ↓wS_for, ↓wS_try, ↓wG_set0, ↓wG_setS, ↓wG_then, ↓wG_sub, ↓wG_fld, ↓qT_tup, ↓wG_tup, ↓wGs_nil, ↓wGs_cons, ↓endB_nx, ↓endB_rt, ↓endB_er, ↓endB_bk, ↓endB_ct, ↓loopP_nx, ↓loopP_ct, ↓loopP_bk, ↓loopP_rt, ↓loopP_er, ↓qO_some, ↓qO_at0, ↓qO_at1, ↓qO_at2, ↓qO_at3, ↓qO_at4, ↓qO_at5, ↓w_add_int, ↓w_add_str, ↓w_add_tup, ↓w_add_lst, ↓w_sub, ↓w_mod, ↓w_div, ↓w_mul, ↓w_pow, ↓w_band, ↓w_lt, ↓w_le, ↓w_gt, ↓w_ge, ↓w_is, ↓w_isNot, ↓nonN, ↓nonI, ↓nonS, ↓nonT, ↓nonL, ↓nonLoc, ↓w_eq_int, ↓w_ne_int, ↓w_eq_str, ↓w_ne_str, ↓qIx_lst, ↓qIx_dK, ↓qIxS_dK, ↓w_ix_loc, ↓w_ix_locS, ↓w_ix_lst, ↓w_ix_tup, ↓w_ix_str, ↓qLS_0, ↓qLS_1, ↓qLS_2, ↓qLS_3, ↓qSet_lst, ↓qSet_dK, ↓qSetS_dK, ↓w_setI, ↓w_setS, ↓qF_ins, ↓w_fld, ↓qSF_ins, ↓w_setF, ↓w_len_str, ↓w_len_lst, ↓w_len_tup, ↓qLen_lst, ↓qLen_dK, ↓w_len_loc, ↓w_max, ↓w_min, ↓w_int_int, ↓w_int_bl, ↓w_str_int, ↓qDc_dK, ↓w_dict, ↓w_tuple_lst, ↓w_tuple_tup, ↓w_tuple_loc, ↓w_list_lst, ↓w_list_tup, ↓w_iter_lst, ↓w_iter_tup, ↓w_iter_str, ↓w_iter_loc, ↓w_rng1, ↓w_rng2, ↓w_sl_str, ↓w_sl_tup, ↓w_sl_lst, ↓w_append, ↓w_lclear, ↓tyS_str, ↓tyL_lst, ↓qM_loc, ↓look1, ↓wC_set, ↓wC_setn, ↓wC_push2, ↓wC_pushn, ↓wE_yes, ↓wE_revL, ↓qO_lst, ↓w_all_lst, ↓w_join_lst, ↓isi_non_int, ↓isi_non_bool, ↓isi_non_str, ↓isi_non_tuple, ↓isi_non_list, ↓isi_non_dict, ↓isi_bl_int, ↓isi_bl_bool, ↓isi_bl_str, ↓isi_bl_tuple, ↓isi_bl_list, ↓isi_bl_dict, ↓isi_int_int, ↓isi_int_bool, ↓isi_int_str, ↓isi_int_tuple, ↓isi_int_list, ↓isi_int_dict, ↓isi_str_int, ↓isi_str_bool, ↓isi_str_str, ↓isi_str_tuple, ↓isi_str_list, ↓isi_str_dict, ↓isi_tup_int, ↓isi_tup_bool, ↓isi_tup_str, ↓isi_tup_tuple, ↓isi_tup_list, ↓isi_tup_dict, ↓isi_lst_int, ↓isi_lst_bool, ↓isi_lst_str, ↓isi_lst_tuple, ↓isi_lst_list, ↓isi_lst_dict, decide_eq_true_eq, beq_iff_eq, Bool.not_eq_true', Bool.not_eq_eq_eq_not, Bool.not_true, Bool.not_false, decide_eq_false_iff_not, beq_eq_false_iff_ne, ne_eq, true_and, and_true, if_true, if_false, ite_true, ite_false, reduceIte, Bool.false_eq_true, not_false_eq_true, not_true_eq_false, Int.reduceLT, Int.reduceLE, Int.reduceToNat, Nat.reduceLT, Nat.reduceLeDiff, Int.reducePow, Nat.reduceAdd, Int.reduceAdd, Int.reduceMul, Int.reduceSub, Int.reduceNeg, Nat.reducePow, Int.reduceEq, Nat.reduceEqDiff, List.length_cons, List.length_nil, PySem.sizeLine_eq, str_len_app, str_len_one, wipeD, List.set_cons_zero, List.set_cons_succ]
      exact ⟨_, rfl, by omega, by omega, hs2.mono (by omega), f1.trans f2⟩
    · refine (draw_ok hs1 (by omega) (by omega) (by omega)).go ?_
      rintro _ μ2 ⟨b, rfl, hb0, hb1, hs2, f2⟩
      simp -failIfUnchanged (disch := (first | (simp only [len_push, len_set]; omega) | omega | assumption)) only [↓wR_ok, ↓wR_err, ↓wE_var0, ↓wE_varS, ↓wE_C, ↓wE_op, ↓wE_cmp, ↓wE_bl, ↓qB_bl, ↓wE_asB, ↓wE_and, ↓wE_or, ↓wE_not, ↓wE_andV, ↓wE_orV, ↓wE_notV, ↓wE_if, ↓wE_nil, ↓wE_cons, ↓wE_fz, ↓wE_lc, ↓wE_tup, ↓wE_lst, ↓wE_call, ↓wE_nopart, ↓qI_int, ↓wE_part, ↓wE_slice, ↓wE_fld, ↓wE_dnew, ↓wE_iter, ↓wE_rev, ↓wE_pos, ↓wE_kws, ↓wE_noa, ↓wE_both, ↓wE_fn, ↓wE_mth, ↓qN_non, ↓wE_mk, ↓wE_meth, ↓wE_neg, ↓wE_chain, ↓wE_comp, ↓wS_nx, ↓wS_bk, ↓wS_ct, ↓wS_seq, ↓wS_drop, ↓wS_ret, ↓wS_retN, ↓wS_if, ↓wS_asg, ↓qL_loc, ↓qCl_lst, ↓wS_retFz, ↓wS_raise, ↓wS_for, ↓wS_try, ↓wG_set0, ↓wG_setS, ↓wG_then, ↓wG_sub, ↓wG_fld, ↓qT_tup, ↓wG_tup, ↓wGs_nil, ↓wGs_cons, ↓endB_nx, ↓endB_rt, ↓endB_er, ↓endB_bk, ↓endB_ct, ↓loopP_nx, ↓loopP_ct, ↓loopP_bk, ↓loopP_rt, ↓loopP_er, ↓qO_some, ↓qO_at0, ↓qO_at1, ↓qO_at2, ↓qO_at3, ↓qO_at4, ↓qO_at5, ↓w_add_int, ↓w_add_str, ↓w_add_tup, ↓w_add_lst, ↓w_sub, ↓w_mod, ↓w_div, ↓w_mul, ↓w_pow, ↓w_band, ↓w_lt, ↓w_le, ↓w_gt, ↓w_ge, ↓w_is, ↓w_isNot, ↓nonN, ↓nonI, ↓nonS, ↓nonT, ↓nonL, ↓nonLoc, ↓w_eq_int, ↓w_ne_int, ↓w_eq_str, ↓w_ne_str, ↓qIx_lst, ↓qIx_dK, ↓qIxS_dK, ↓w_ix_loc, ↓w_ix_locS, ↓w_ix_lst, ↓w_ix_tup, ↓w_ix_str, ↓qLS_0, ↓qLS_1, ↓qLS_2, ↓qLS_3, ↓qSet_lst, ↓qSet_dK, ↓qSetS_dK, ↓w_setI, ↓w_setS, ↓qF_ins, ↓w_fld, ↓qSF_ins, ↓w_setF, ↓w_len_str, ↓w_len_lst, ↓w_len_tup, ↓qLen_lst, ↓qLen_dK, ↓w_len_loc, ↓w_max, ↓w_min, ↓w_int_int, ↓w_int_bl, ↓w_str_int, ↓qDc_dK, ↓w_dict, ↓w_tuple_lst, ↓w_tuple_tup, ↓w_tuple_loc, ↓w_list_lst, ↓w_list_tup, ↓w_iter_lst, ↓w_iter_tup, ↓w_iter_str, ↓w_iter_loc, ↓w_rng1, ↓w_rng2, ↓w_sl_str, ↓w_sl_tup, ↓w_sl_lst, ↓w_append, ↓w_lclear, ↓tyS_str, ↓tyL_lst, ↓qM_loc, ↓look1, ↓wC_set, ↓wC_setn, ↓wC_push2, ↓wC_pushn, ↓wE_yes, ↓wE_revL, ↓qO_lst, ↓w_all_lst, ↓w_join_lst, ↓isi_non_int, ↓isi_non_bool, ↓isi_non_str, ↓isi_non_tuple, ↓isi_non_list, ↓isi_non_dict, ↓isi_bl_int, ↓isi_bl_bool, ↓isi_bl_str, ↓isi_bl_tuple, ↓isi_bl_list, ↓isi_bl_dict, ↓isi_int_int, ↓isi_int_bool, ↓isi_int_str, ↓isi_int_tuple, ↓isi_int_list, ↓isi_int_dict, ↓isi_str_int, ↓isi_str_bool, ↓isi_str_str, ↓isi_str_tuple, ↓isi_str_list, ↓isi_str_dict, ↓isi_tup_int, ↓isi_tup_bool, ↓isi_tup_str, ↓isi_tup_tuple, ↓isi_tup_list, ↓isi_tup_dict, ↓isi_lst_int, ↓isi_lst_bool, ↓isi_lst_str, ↓isi_lst_tuple, ↓isi_lst_list, ↓isi_lst_dict, decide_eq_true_eq, beq_iff_eq, Bool.not_eq_true', Bool.not_eq_eq_eq_not, Bool.not_true, Bool.not_false, decide_eq_false_iff_not, beq_eq_false_iff_ne, ne_eq, true_and, and_true, if_true, if_false, ite_true, ite_false, reduceIte, Bool.false_eq_true, not_false_eq_true, not_true_eq_false, Int.reduceLT, Int.reduceLE, Int.reduceToNat, Nat.reduceLT, Nat.reduceLeDiff, Int.reducePow, Nat.reduceAdd, Int.reduceAdd, Int.reduceMul, Int.reduceSub, Int.reduceNeg, Nat.reducePow, Int.reduceEq, Nat.reduceEqDiff, List.length_cons, List.length_nil, PySem.sizeLine_eq, str_len_app, str_len_one, wipeD, List.set_cons_zero, List.set_cons_succ]
      exact ⟨_, rfl, by omega, by omega, hs2.mono (by omega), f1.trans f2⟩
end Doz
end
section
/-! DozC: tables of plain things. -/
namespace Doz
open PySem L2
section
variable {α β γ : Type} [DecidableEq α]
def aget (l : List (α × β)) (k : α) : Option β := (l.find? fun p => decide (p.1 = k)).map (·.2)
def aput (l : List (α × β)) (k : α) (v : β) : List (α × β) := if (l.any fun p => decide (p.1 = k)) = true then l.map (fun p => if p.1 = k then (p.1, v) else p) else l ++ [(k, v)]
def adrop (l : List (α × β)) (k : α) : List (α × β) := l.filter fun p => decide (p.1 ≠ k)
def enc (f : α → Key) (g : β → D) (l : List (α × β)) : List (Key × D) := l.map fun p => (f p.1, g p.2)
variable {f : α → Key} {g : β → D} (hf : ∀ a b, f a = f b → a = b)
theorem enc_len (l : List (α × β)) : (enc f g l).length = l.length := by simp [enc]
include hf
theorem dec_inj (a b : α) : decide (f a = f b) = decide (a = b) := by
  by_cases h : a = b
  · subst h; simp
  · have : ¬ f a = f b := fun z => h (hf a b z)
    simp [h, this]
theorem enc_get (l : List (α × β)) (k : α) : kget (enc f g l) (f k) = (aget l k).map g := by
  unfold kget aget enc
  rw [List.find?_map]
  have : ((fun kv : Key × D => decide (kv.1 = f k)) ∘ fun p : α × β => (f p.1, g p.2)) = fun p => decide (p.1 = k) := by
    funext p; exact dec_inj hf p.1 k
  rw [this]
  cases l.find? fun p => decide (p.1 = k) <;> rfl
theorem enc_any (l : List (α × β)) (k : α) : ((enc f g l).any fun kv => decide (kv.1 = f k)) = l.any fun p => decide (p.1 = k) := by
  unfold enc
  rw [List.any_map]
  congr; funext p; exact dec_inj hf p.1 k
theorem enc_put (l : List (α × β)) (k : α) (v : β) : kput (enc f g l) (f k) (g v) = enc f g (aput l k v) := by
  unfold kput aput
  rw [enc_any hf]
  split
  · unfold enc
    rw [List.map_map, List.map_map]
    refine List.map_congr_left fun p _ => ?_
    show (if f p.1 = f k then (f p.1, g v) else (f p.1, g p.2)) = _
    by_cases h : p.1 = k
    · simp [h]
    · have : ¬ f p.1 = f k := fun z => h (hf _ _ z)
      simp [h, this]
  · simp [enc]
theorem enc_drop (l : List (α × β)) (k : α) : kdrop (enc f g l) (f k) = enc f g (adrop l k) := by
  unfold kdrop adrop enc
  rw [List.filter_map]
  congr
  funext p
  show decide (f p.1 ≠ f k) = decide (p.1 ≠ k)
  by_cases h : p.1 = k
  · simp [h]
  · have : ¬ f p.1 = f k := fun z => h (hf _ _ z)
    simp [h, this]
end
section
variable {α β : Type} [DecidableEq α]
theorem aget_nil (k : α) : aget ([] : List (α × β)) k = none := rfl
theorem aget_cons (p : α × β) (l : List (α × β)) (k : α) : aget (p :: l) k = if p.1 = k then some p.2 else aget l k := by
  unfold aget; rw [List.find?_cons]
  by_cases h : p.1 = k <;> simp [h]
theorem aget_some {l : List (α × β)} {k : α} {v : β} (h : aget l k = some v) : (k, v) ∈ l := by
  induction l with
  | nil => cases h
  | cons p l ih =>
    rw [aget_cons] at h
    split at h
    · rename_i e; cases h; subst e; simp
    · exact List.mem_cons_of_mem _ (ih h)
theorem aget_none {l : List (α × β)} {k : α} : aget l k = none ↔ k ∉ l.map (·.1) := by
  induction l with
  | nil => simp [aget_nil]
  | cons p l ih =>
    rw [aget_cons]
    by_cases e : p.1 = k
    · simp [e]
    · simp only [e, if_false, ih, List.map_cons, List.mem_cons, not_or]
      exact ⟨fun h => ⟨fun z => e z.symm, h⟩, fun h => h.2⟩
theorem any_mem (l : List (α × β)) (k : α) : (l.any fun p => decide (p.1 = k)) = decide (k ∈ l.map (·.1)) := by
  induction l with
  | nil => simp
  | cons p l ih =>
    rw [List.any_cons, ih]
    by_cases h : p.1 = k
    · simp [h]
    · have : ¬ k = p.1 := fun z => h z.symm
      simp only [List.map_cons, List.mem_cons, h, this, false_or, decide_false, Bool.false_or]
theorem aget_isSome (l : List (α × β)) (k : α) : (aget l k).isSome = decide (k ∈ l.map (·.1)) := by
  cases h : aget l k with
  | none => simp [aget_none.mp h]
  | some v => simp; exact ⟨v, aget_some h⟩
theorem aget_of_mem {l : List (α × β)} {k : α} {v : β} (hn : (l.map (·.1)).Nodup) (h : (k, v) ∈ l) : aget l k = some v := by
  induction l with
  | nil => cases h
  | cons p l ih =>
    rw [aget_cons]
    rw [List.map_cons, List.nodup_cons] at hn
    rcases List.mem_cons.mp h with h | h
    · subst h; simp
    · split
      · rename_i e; exfalso; apply hn.1; rw [e]; exact List.mem_map_of_mem (f := (·.1)) h
      · exact ih hn.2 h
theorem aget_app (l r : List (α × β)) (k : α) : aget (l ++ r) k = (aget l k).or (aget r k) := by
  induction l with
  | nil => simp [aget_nil]
  | cons p l ih =>
    rw [List.cons_append, aget_cons, aget_cons, ih]
    split <;> simp
theorem aget_mapv {γ : Type} (l : List (α × β)) (k : α) (g : β → γ) : aget (l.map fun p => (p.1, g p.2)) k = (aget l k).map g := by
  induction l with
  | nil => rfl
  | cons p l ih => rw [List.map_cons, aget_cons, aget_cons, ih]; split <;> simp
theorem aput_old {l : List (α × β)} {k : α} (h : k ∈ l.map (·.1)) (v : β) : aput l k v = l.map (fun p => if p.1 = k then (p.1, v) else p) := by
  unfold aput; rw [any_mem]; simp only [h, decide_true, if_true]
theorem aput_new {l : List (α × β)} {k : α} (h : k ∉ l.map (·.1)) (v : β) : aput l k v = l ++ [(k, v)] := by
  unfold aput; rw [any_mem]; simp only [h, decide_false]; rfl
theorem aput_keys_old {l : List (α × β)} {k : α} (h : k ∈ l.map (·.1)) (v : β) : (aput l k v).map (·.1) = l.map (·.1) := by
  rw [aput_old h, List.map_map]
  refine List.map_congr_left fun p _ => ?_
  show (if p.1 = k then (p.1, v) else p).1 = p.1
  split <;> rfl
theorem aput_keys_new {l : List (α × β)} {k : α} (h : k ∉ l.map (·.1)) (v : β) : (aput l k v).map (·.1) = l.map (·.1) ++ [k] := by
  rw [aput_new h]; simp
theorem aput_nodup {l : List (α × β)} {k : α} {v : β} (hn : (l.map (·.1)).Nodup) : ((aput l k v).map (·.1)).Nodup := by
  by_cases h : k ∈ l.map (·.1)
  · rw [aput_keys_old h]; exact hn
  · rw [aput_keys_new h, List.nodup_append]
    exact ⟨hn, by simp, fun a ha b hb => by
      have : b = k := by simpa using hb
      subst this; exact fun z => h (z ▸ ha)⟩
theorem aput_len (l : List (α × β)) (k : α) (v : β) : (aput l k v).length ≤ l.length + 1 := by
  by_cases h : k ∈ l.map (·.1)
  · rw [aput_old h]; simp
  · rw [aput_new h]; simp
theorem aget_put (l : List (α × β)) (k j : α) (v : β) : aget (aput l k v) j = if j = k then some v else aget l j := by
  by_cases h : k ∈ l.map (·.1)
  · rw [aput_old h]
    induction l with
    | nil => cases h
    | cons p l ih =>
      rw [List.map_cons, aget_cons, aget_cons]
      by_cases hp : p.1 = k
      · rw [if_pos hp]
        by_cases hj : j = k
        · subst hj; simp [hp]
        · have : ¬ p.1 = j := fun z => hj (z.symm.trans hp)
          simp only [this, if_false, hj]
          clear ih h
          induction l with
          | nil => rfl
          | cons q l ih2 =>
            rw [List.map_cons, aget_cons, aget_cons, ih2]
            by_cases hq : q.1 = k
            · have hq' : ¬ q.1 = j := fun z => hj (z.symm.trans hq)
              have hq2 : ¬ k = j := fun z => hj z.symm
              simp [hq, hq2]
            · simp [hq]
      · rw [if_neg hp]
        have hk : k ∈ l.map (·.1) := by
          rcases List.mem_cons.mp h with h | h
          · exact absurd h.symm hp
          · exact h
        rw [ih hk]
        by_cases hj : p.1 = j
        · have : ¬ j = k := fun z => hp (hj.trans z)
          simp [hj, this]
        · simp [hj]
  · rw [aput_new h, aget_app, aget_cons, aget_nil]
    by_cases hj : j = k
    · subst hj
      have := aget_none.mpr h
      simp [this]
    · have : ¬ k = j := fun z => hj z.symm
      simp [hj, this]
theorem aget_drop (l : List (α × β)) (k j : α) : aget (adrop l k) j = if j = k then none else aget l j := by
  induction l with
  | nil => simp [adrop, aget_nil]
  | cons p l ih =>
    unfold adrop at ih ⊢
    rw [List.filter_cons]
    by_cases hp : p.1 = k
    · simp only [hp, ne_eq, not_true_eq_false, decide_false, Bool.false_eq_true, if_false, ih, aget_cons]
      by_cases hj : j = k
      · simp [hj]
      · have : ¬ k = j := fun z => hj z.symm
        simp [hj, this]
    · simp only [hp, ne_eq, not_false_eq_true, decide_true, if_true, aget_cons, ih]
      by_cases hj : p.1 = j
      · have : ¬ j = k := fun z => hp (hj.trans z)
        simp [hj, this]
      · simp [hj]
theorem adrop_keys (l : List (α × β)) (k : α) : (adrop l k).map (·.1) = (l.map (·.1)).filter fun a => decide (a ≠ k) := by
  unfold adrop; rw [List.filter_map]; rfl
theorem adrop_nodup {l : List (α × β)} {k : α} (hn : (l.map (·.1)).Nodup) : ((adrop l k).map (·.1)).Nodup := by
  rw [adrop_keys]; exact hn.filter _
theorem adrop_len (l : List (α × β)) (k : α) : (adrop l k).length ≤ l.length := List.length_filter_le _ _
end
/-! ### two tables compared -/
theorem w_eq_tab {μ : Mem} {m n : Nat} {ks ls : List (Key × D)} (h1 : μ.cells[m]? = some (.dK ks)) (h2 : μ.cells[n]? = some (.dK ls)) (k1 : μ.lkd m = false) (k2 : μ.lkd n = false) (ht : ks.length = ls.length ∧ tabEq ks ls = true) (Q : Bool → Mem → Prop) (E : EP) : wR (cEqA (.loc m) (.loc n) μ) Q E = Q true μ := by
  have e1 : dcell μ (.loc m) = some (m, ks) := by unfold dcell; dsimp only; rw [h1]; simp [k1]
  have e2 : dcell μ (.loc n) = some (n, ls) := by unfold dcell; dsimp only; rw [h2]; simp [k2]
  unfold cEqA; rw [e1, e2]; simp [ht.1, ht.2, wR]
theorem w_ne_tab {μ : Mem} {m n : Nat} {ks ls : List (Key × D)} (h1 : μ.cells[m]? = some (.dK ks)) (h2 : μ.cells[n]? = some (.dK ls)) (k1 : μ.lkd m = false) (k2 : μ.lkd n = false) (ht : ks.length = ls.length ∧ tabEq ks ls = true) (Q : Bool → Mem → Prop) (E : EP) : wR (cNeA (.loc m) (.loc n) μ) Q E = Q false μ := by
  unfold cNeA; rw [wR_bind, w_eq_tab h1 h2 k1 k2 ht]; rfl
theorem tab_enc {α β : Type} [DecidableEq α] {f : α → Key} {g : β → D} (hf : ∀ a b, f a = f b → a = b) (hg : ∀ b, (g b).flat = true) {l : List (α × β)} (hn : (l.map (·.1)).Nodup) : (enc f g l).length = (enc f g l).length ∧ tabEq (enc f g l) (enc f g l) = true := by
  refine ⟨rfl, ?_⟩
  unfold tabEq
  rw [List.all_eq_true]
  intro p hp
  obtain ⟨q, hq, rfl⟩ := List.mem_map.mp hp
  simp only [hg, Bool.true_and]
  rw [enc_get hf, aget_of_mem hn hq]
  exact D.same_refl _
theorem tab_self {l : List (Str × Int)} (hn : (l.map (·.1)).Nodup) : (enc (Sum.inr : Str → Key) D.int l).length = (enc (Sum.inr : Str → Key) D.int l).length ∧ tabEq (enc (Sum.inr : Str → Key) D.int l) (enc (Sum.inr : Str → Key) D.int l) = true :=
  tab_enc (fun a b h => by injection h) (fun _ => rfl) hn
/-! ### keys -/
theorem inl_inj (a b : Int) (h : (Sum.inl a : Key) = Sum.inl b) : a = b := by injection h
theorem inr_inj (a b : Str) (h : (Sum.inr a : Key) = Sum.inr b) : a = b := by injection h
abbrev encI {β : Type} (g : β → D) (l : List (Int × β)) : List (Key × D) := enc (Sum.inl : Int → Key) g l
abbrev encS {β : Type} (g : β → D) (l : List (Str × β)) : List (Key × D) := enc (Sum.inr : Str → Key) g l
theorem encI_get {β : Type} (g : β → D) (l : List (Int × β)) (k : Int) : kget (encI g l) (.inl k) = (aget l k).map g := enc_get inl_inj l k
theorem encS_get {β : Type} (g : β → D) (l : List (Str × β)) (k : Str) : kget (encS g l) (.inr k) = (aget l k).map g := enc_get inr_inj l k
theorem encI_put {β : Type} (g : β → D) (l : List (Int × β)) (k : Int) (v : β) : kput (encI g l) (.inl k) (g v) = encI g (aput l k v) := enc_put inl_inj l k v
theorem encS_put {β : Type} (g : β → D) (l : List (Str × β)) (k : Str) (v : β) : kput (encS g l) (.inr k) (g v) = encS g (aput l k v) := enc_put inr_inj l k v
theorem encI_drop {β : Type} (g : β → D) (l : List (Int × β)) (k : Int) : kdrop (encI g l) (.inl k) = encI g (adrop l k) := enc_drop inl_inj l k
theorem encS_drop {β : Type} (g : β → D) (l : List (Str × β)) (k : Str) : kdrop (encS g l) (.inr k) = encS g (adrop l k) := enc_drop inr_inj l k
end Doz
end
section
namespace Doz
open PySem L2
def t_n_Halldd_initdd (c : Cl) : MS := (mseq (masg (mcall fDict (mcons (mvar 1) mnil)) (gfld [c.n_Hall] ("numbers" : Str) (mvar 0)))
    (mseq (masg mdnew (gfld [c.n_Hall] ("beds" : Str) (mvar 0)))
    (mseq (masg mdnew (gfld [c.n_Hall] ("ranks" : Str) (mvar 0)))
    (mseq (masg mdnew (gfld [c.n_Hall] ("endings" : Str) (mvar 0)))
    (mseq (masg (mC (.int 0)) (gthen (gfld [c.n_Hall] ("clock" : Str) (mvar 0)) (gthen (gfld [c.n_Hall] ("turns" : Str) (mvar 0)) (gfld [c.n_Hall] ("begun" : Str) (mvar 0)))))
    (masg (mlc (mlst mnil)) (gfld [c.n_Hall] ("entries" : Str) (mvar 0))))))))
def m_n_Halldd_initdd (c : Cl) : MF := runB 2 (t_n_Halldd_initdd c)
def t_n_Hall_look_for (c : Cl) : MS := (mifS (mcmp cNotIn (mvar 1) (mfld ("numbers" : Str) (mvar 0))) (mraise c.n_NoRoom (mcons (mvar 1) mnil)) mnx)
def m_n_Hall_look_for (c : Cl) : MF := runB 2 (t_n_Hall_look_for c)
def t_n_Hall_number (c : Cl) : MS := (mseq (mdrop (mmth ("look_for" : Str) 1 0 (fun C => List.lookup C [(c.n_Hall, fun x ds ez μ => m_n_Hall_look_for c ((fun ds _ => ds) (x :: ds) ez) μ)]) (mvar 0) (mpos (mcons (mvar 1) mnil))))
    (mret (mop fIx (mfld ("numbers" : Str) (mvar 0)) (mvar 1))))
def m_n_Hall_number (c : Cl) : MF := runB 2 (t_n_Hall_number c)
def t_n_Hall_put (c : Cl) : MS := (mseq (mdrop (mmth ("look_for" : Str) 1 0 (fun C => List.lookup C [(c.n_Hall, fun x ds ez μ => m_n_Hall_look_for c ((fun ds _ => ds) (x :: ds) ez) μ)]) (mvar 0) (mpos (mcons (mvar 1) mnil))))
    (mseq (masg (mvar 2) (gsub (mfld ("numbers" : Str) (mvar 0)) (mvar 1)))
    (mdrop (mmeth tyL fAppend (mfld ("entries" : Str) (mvar 0)) (mcons (mtup (mcons (mC (.str ("put" : Str))) (mcons (mvar 1) (mcons (mvar 2) mnil)))) mnil)))))
def m_n_Hall_put (c : Cl) : MF := runB 3 (t_n_Hall_put c)
end Doz
end
section
/-! DozH1: a hall in the store. -/
namespace Doz
open PySem L2
structure BedS where
  at_ : Nat
  place : Str
  turn : Int
  since : Int
  until_ : Option Int
  mask : Int
def oI : Option Int → D
  | none => .non
  | some i => .int i
def bedF (b : BedS) : List (Str × D) := [("place", .str b.place), ("turn", .int b.turn), ("since", .int b.since), ("until", oI b.until_), ("mask", .int b.mask)]
structure HS where
  num : List (Str × Int)
  beds : List (Int × BedS) := []
  ranks : List (Int × Int) := []
  ends : List (Int × Str) := []
  clock : Int := 0
  turns : Int := 0
  begun : Int := 0
  log : List D := []
structure HA where
  a : Nat
  aN : Nat
  aB : Nat
  aR : Nat
  aE : Nat
  aL : Nat
def HA.list (A : HA) : List Nat := [A.a, A.aN, A.aB, A.aR, A.aE, A.aL]
def foot (A : HA) (S : HS) : List Nat := A.list ++ S.beds.map fun p => p.2.at_
def hallF (A : HA) (S : HS) : List (Str × D) := [("numbers", .loc A.aN), ("beds", .loc A.aB), ("ranks", .loc A.aR), ("endings", .loc A.aE), ("clock", .int S.clock), ("turns", .int S.turns), ("begun", .int S.begun), ("entries", .loc A.aL)]
structure HallAt (c : Cl) (μ : Mem) (A : HA) (S : HS) : Prop where
  lk : μ.lk = []
  nd : (foot A S).Nodup
  hh : μ.cells[A.a]? = some (.ins c.n_Hall (hallF A S))
  hN : μ.cells[A.aN]? = some (.dK (encS D.int S.num))
  hB : μ.cells[A.aB]? = some (.dK (encI (fun b => D.loc b.at_) S.beds))
  hR : μ.cells[A.aR]? = some (.dK (encI D.int S.ranks))
  hE : μ.cells[A.aE]? = some (.dK (encI D.str S.ends))
  hL : μ.cells[A.aL]? = some (.lst S.log)
  hb : ∀ p ∈ S.beds, μ.cells[p.2.at_]? = some (.ins c.n_Bed (bedF p.2))
  nN : (S.num.map (·.1)).Nodup
  nB : (S.beds.map (·.1)).Nodup
  nR : (S.ranks.map (·.1)).Nodup
  nE : (S.ends.map (·.1)).Nodup
  lB : S.beds.length ≤ S.log.length
  lR : S.ranks.length ≤ S.log.length
  lE : S.ends.length ≤ S.log.length
/-- the hall, whole, and what it may come to own -/
structure HallTo (c : Cl) (μ : Mem) (A : HA) (S : HS) (μ' : Mem) (S' : HS) : Prop where
  h : HallAt c μ' A S'
  f : Fr (foot A S) μ μ'
  new : ∀ k ∈ foot A S', k ∈ foot A S ∨ μ.cells.length ≤ k
theorem HallAt.ne {c : Cl} {μ : Mem} {A : HA} {S : HS} (h : HallAt c μ A S) : (A.a ≠ A.aN ∧ A.a ≠ A.aB ∧ A.a ≠ A.aR ∧ A.a ≠ A.aE ∧ A.a ≠ A.aL) ∧ (A.aN ≠ A.aB ∧ A.aN ≠ A.aR ∧ A.aN ≠ A.aE ∧ A.aN ≠ A.aL) ∧ (A.aB ≠ A.aR ∧ A.aB ≠ A.aE ∧ A.aB ≠ A.aL) ∧ (A.aR ≠ A.aE ∧ A.aR ≠ A.aL) ∧ A.aE ≠ A.aL := by
  have := (List.nodup_append.mp h.nd).1
  simp [HA.list] at this
  omega
theorem HallAt.neb {c : Cl} {μ : Mem} {A : HA} {S : HS} (h : HallAt c μ A S) {p : Int × BedS} (hp : p ∈ S.beds) : p.2.at_ ≠ A.a ∧ p.2.at_ ≠ A.aN ∧ p.2.at_ ≠ A.aB ∧ p.2.at_ ≠ A.aR ∧ p.2.at_ ≠ A.aE ∧ p.2.at_ ≠ A.aL := by
  have := (List.nodup_append.mp h.nd).2.2
  have hm : p.2.at_ ∈ S.beds.map fun p => p.2.at_ := List.mem_map_of_mem (f := fun p : Int × BedS => p.2.at_) hp
  refine ⟨?_, ?_, ?_, ?_, ?_, ?_⟩ <;> exact fun z => this _ (by simp [HA.list]) _ hm z.symm
theorem mem_foot {A : HA} {S : HS} : A.a ∈ foot A S ∧ A.aN ∈ foot A S ∧ A.aB ∈ foot A S ∧ A.aR ∈ foot A S ∧ A.aE ∈ foot A S ∧ A.aL ∈ foot A S := by simp [foot, HA.list]
/-- another store in which all of the hall stands -/
theorem HallAt.fr {c : Cl} {μ μ' : Mem} {A : HA} {S : HS} {F : List Nat} (h : HallAt c μ A S) (f : Fr F μ μ') (hd : ∀ k ∈ foot A S, k ∉ F) : HallAt c μ' A S :=
  have m := mem_foot (A := A) (S := S)
  ⟨f.lk.trans h.lk, h.nd, f.get h.hh (hd _ m.1), f.get h.hN (hd _ m.2.1), f.get h.hB (hd _ m.2.2.1), f.get h.hR (hd _ m.2.2.2.1), f.get h.hE (hd _ m.2.2.2.2.1), f.get h.hL (hd _ m.2.2.2.2.2),
    fun p hp => f.get (h.hb p hp) (hd _ (by unfold foot; exact List.mem_append_right _ (List.mem_map_of_mem (f := fun p : Int × BedS => p.2.at_) hp))), h.nN, h.nB, h.nR, h.nE, h.lB, h.lR, h.lE⟩
theorem HallAt.lt {c : Cl} {μ : Mem} {A : HA} {S : HS} (h : HallAt c μ A S) {k : Nat} (hk : k ∈ foot A S) : k < μ.cells.length := by
  unfold foot at hk
  rcases List.mem_append.mp hk with hk | hk
  · simp [HA.list] at hk
    rcases hk with rfl | rfl | rfl | rfl | rfl | rfl
    · exact at_lt h.hh
    · exact at_lt h.hN
    · exact at_lt h.hB
    · exact at_lt h.hR
    · exact at_lt h.hE
    · exact at_lt h.hL
  · obtain ⟨p, hp, rfl⟩ := List.mem_map.mp hk
    exact at_lt (h.hb p hp)
/-! fields -/
section
variable (A : HA) (S : HS) (Q : D → Prop)
theorem hf_numbers : qO ((hallF A S).lookup ("numbers" : Str)) Q = Q (.loc A.aN) := by kernel_rfl
theorem hf_beds : qO ((hallF A S).lookup ("beds" : Str)) Q = Q (.loc A.aB) := by kernel_rfl
theorem hf_ranks : qO ((hallF A S).lookup ("ranks" : Str)) Q = Q (.loc A.aR) := by kernel_rfl
theorem hf_endings : qO ((hallF A S).lookup ("endings" : Str)) Q = Q (.loc A.aE) := by kernel_rfl
theorem hf_clock : qO ((hallF A S).lookup ("clock" : Str)) Q = Q (.int S.clock) := by kernel_rfl
theorem hf_turns : qO ((hallF A S).lookup ("turns" : Str)) Q = Q (.int S.turns) := by kernel_rfl
theorem hf_begun : qO ((hallF A S).lookup ("begun" : Str)) Q = Q (.int S.begun) := by kernel_rfl
theorem hf_entries : qO ((hallF A S).lookup ("entries" : Str)) Q = Q (.loc A.aL) := by kernel_rfl
end
/-! fields set by __init__ -/
theorem pfh0 (v : D) : putFD "numbers" v [] = [(("numbers" : Str), v)] := by kernel_rfl
theorem pfh1 (x0 v : D) : putFD "beds" v [(("numbers" : Str), x0)] = [(("numbers" : Str), x0), (("beds" : Str), v)] := by kernel_rfl
theorem pfh2 (x0 x1 v : D) : putFD "ranks" v [(("numbers" : Str), x0), (("beds" : Str), x1)] = [(("numbers" : Str), x0), (("beds" : Str), x1), (("ranks" : Str), v)] := by kernel_rfl
theorem pfh3 (x0 x1 x2 v : D) : putFD "endings" v [(("numbers" : Str), x0), (("beds" : Str), x1), (("ranks" : Str), x2)] = [(("numbers" : Str), x0), (("beds" : Str), x1), (("ranks" : Str), x2), (("endings" : Str), v)] := by kernel_rfl
theorem pfh4 (x0 x1 x2 x3 v : D) : putFD "clock" v [(("numbers" : Str), x0), (("beds" : Str), x1), (("ranks" : Str), x2), (("endings" : Str), x3)] = [(("numbers" : Str), x0), (("beds" : Str), x1), (("ranks" : Str), x2), (("endings" : Str), x3), (("clock" : Str), v)] := by kernel_rfl
theorem pfh5 (x0 x1 x2 x3 x4 v : D) : putFD "turns" v [(("numbers" : Str), x0), (("beds" : Str), x1), (("ranks" : Str), x2), (("endings" : Str), x3), (("clock" : Str), x4)] = [(("numbers" : Str), x0), (("beds" : Str), x1), (("ranks" : Str), x2), (("endings" : Str), x3), (("clock" : Str), x4), (("turns" : Str), v)] := by kernel_rfl
theorem pfh6 (x0 x1 x2 x3 x4 x5 v : D) : putFD "begun" v [(("numbers" : Str), x0), (("beds" : Str), x1), (("ranks" : Str), x2), (("endings" : Str), x3), (("clock" : Str), x4), (("turns" : Str), x5)] = [(("numbers" : Str), x0), (("beds" : Str), x1), (("ranks" : Str), x2), (("endings" : Str), x3), (("clock" : Str), x4), (("turns" : Str), x5), (("begun" : Str), v)] := by kernel_rfl
theorem pfh7 (x0 x1 x2 x3 x4 x5 x6 v : D) : putFD "entries" v [(("numbers" : Str), x0), (("beds" : Str), x1), (("ranks" : Str), x2), (("endings" : Str), x3), (("clock" : Str), x4), (("turns" : Str), x5), (("begun" : Str), x6)] = [(("numbers" : Str), x0), (("beds" : Str), x1), (("ranks" : Str), x2), (("endings" : Str), x3), (("clock" : Str), x4), (("turns" : Str), x5), (("begun" : Str), x6), (("entries" : Str), v)] := by kernel_rfl
theorem noFld_of {fs : List (Str × D)} {nm : Str} (l : List Str) (h : fs.map (·.1) = l) (k : (l.all fun x => !(x == nm)) = true) : noFld fs nm = true := by
  unfold noFld; subst h; rw [List.all_map] at k; exact k
def hallKeys : List Str := ["numbers", "beds", "ranks", "endings", "clock", "turns", "begun", "entries"]
theorem hall_keys (A : HA) (S : HS) : (hallF A S).map (·.1) = hallKeys := rfl
theorem hall_nofld (A : HA) (S : HS) (nm : Str) (k : (hallKeys.all fun x => !(x == nm)) = true) : noFld (hallF A S) nm = true := noFld_of _ (hall_keys A S) k
section
variable (C : Addr) (A : HA) (S : HS) (T : Addr → Option MM) (K : MM → Prop)
theorem hm_look_for : qMc (.ins C (hallF A S)) "look_for" T K = qO (T C) K := qMc_ins (hall_nofld A S _ (by decide +kernel))
theorem hm_look_awake : qMc (.ins C (hallF A S)) "look_awake" T K = qO (T C) K := qMc_ins (hall_nofld A S _ (by decide +kernel))
theorem hm_next_turn : qMc (.ins C (hallF A S)) "next_turn" T K = qO (T C) K := qMc_ins (hall_nofld A S _ (by decide +kernel))
theorem hm_lie_down : qMc (.ins C (hallF A S)) "lie_down" T K = qO (T C) K := qMc_ins (hall_nofld A S _ (by decide +kernel))
theorem hm_rise : qMc (.ins C (hallF A S)) "rise" T K = qO (T C) K := qMc_ins (hall_nofld A S _ (by decide +kernel))
theorem hm_is_over : qMc (.ins C (hallF A S)) "is_over" T K = qO (T C) K := qMc_ins (hall_nofld A S _ (by decide +kernel))
theorem hm_put : qMc (.ins C (hallF A S)) "put" T K = qO (T C) K := qMc_ins (hall_nofld A S _ (by decide +kernel))
theorem hm_sleep : qMc (.ins C (hallF A S)) "sleep" T K = qO (T C) K := qMc_ins (hall_nofld A S _ (by decide +kernel))
theorem hm_wake : qMc (.ins C (hallF A S)) "wake" T K = qO (T C) K := qMc_ins (hall_nofld A S _ (by decide +kernel))
theorem hm_move : qMc (.ins C (hallF A S)) "move" T K = qO (T C) K := qMc_ins (hall_nofld A S _ (by decide +kernel))
theorem hm_tick : qMc (.ins C (hallF A S)) "tick" T K = qO (T C) K := qMc_ins (hall_nofld A S _ (by decide +kernel))
theorem hm_lateness : qMc (.ins C (hallF A S)) "lateness" T K = qO (T C) K := qMc_ins (hall_nofld A S _ (by decide +kernel))
theorem hm_nudge : qMc (.ins C (hallF A S)) "nudge" T K = qO (T C) K := qMc_ins (hall_nofld A S _ (by decide +kernel))
theorem hm_rank : qMc (.ins C (hallF A S)) "rank" T K = qO (T C) K := qMc_ins (hall_nofld A S _ (by decide +kernel))
theorem hm_number : qMc (.ins C (hallF A S)) "number" T K = qO (T C) K := qMc_ins (hall_nofld A S _ (by decide +kernel))
theorem hm_line : qMc (.ins C (hallF A S)) "line" T K = qO (T C) K := qMc_ins (hall_nofld A S _ (by decide +kernel))
theorem hm_line_at : qMc (.ins C (hallF A S)) "line_at" T K = qO (T C) K := qMc_ins (hall_nofld A S _ (by decide +kernel))
theorem hm_order : qMc (.ins C (hallF A S)) "order" T K = qO (T C) K := qMc_ins (hall_nofld A S _ (by decide +kernel))
theorem hm_asleep : qMc (.ins C (hallF A S)) "asleep" T K = qO (T C) K := qMc_ins (hall_nofld A S _ (by decide +kernel))
theorem hm_sleeper : qMc (.ins C (hallF A S)) "sleeper" T K = qO (T C) K := qMc_ins (hall_nofld A S _ (by decide +kernel))
theorem hm_ending : qMc (.ins C (hallF A S)) "ending" T K = qO (T C) K := qMc_ins (hall_nofld A S _ (by decide +kernel))
theorem hm_standing : qMc (.ins C (hallF A S)) "standing" T K = qO (T C) K := qMc_ins (hall_nofld A S _ (by decide +kernel))
theorem hm_now : qMc (.ins C (hallF A S)) "now" T K = qO (T C) K := qMc_ins (hall_nofld A S _ (by decide +kernel))
theorem hm_log : qMc (.ins C (hallF A S)) "log" T K = qO (T C) K := qMc_ins (hall_nofld A S _ (by decide +kernel))
theorem hm_who : qMc (.ins C (hallF A S)) "who" T K = qO (T C) K := qMc_ins (hall_nofld A S _ (by decide +kernel))
theorem hm_filled : qMc (.ins C (hallF A S)) "filled" T K = qO (T C) K := qMc_ins (hall_nofld A S _ (by decide +kernel))
theorem hm_twin : qMc (.ins C (hallF A S)) "twin" T K = qO (T C) K := qMc_ins (hall_nofld A S _ (by decide +kernel))
end
/-! ### numbers -/
theorem look_for_ok {c : Cl} {μ : Mem} {A : HA} {S : HS} (h : HallAt c μ A S) (r : Str) :
    wR (m_n_Hall_look_for c [.loc A.a, .str r] μ) (fun v μ' => v = .non ∧ μ' = μ ∧ r ∈ S.num.map (·.1)) (fun C w μ' => C = c.n_NoRoom ∧ w = .str r ∧ μ' = μ ∧ r ∉ S.num.map (·.1)) := by
  unfold m_n_Hall_look_for
  rw [w_run]
  show wS (t_n_Hall_look_for c) [some (.loc A.a), some (.str r)] μ _
  unfold t_n_Hall_look_for
  simp -failIfUnchanged (disch := (first | (simp only [len_push, len_set]; omega) | omega | assumption)) only [↓wR_ok, ↓wR_err, ↓wE_var0, ↓wE_varS, ↓wE_C, ↓wE_op, ↓wE_cmp, ↓wE_bl, ↓qB_bl, ↓wE_asB, ↓wE_and, ↓wE_or, ↓wE_not, ↓wE_andV, ↓wE_orV, ↓wE_notV, ↓wE_if, ↓wE_nil, ↓wE_cons, ↓wE_fz, ↓wE_lc, ↓wE_tup, ↓wE_lst, ↓wE_call, ↓wE_nopart, ↓qI_int, ↓wE_part, ↓wE_slice, ↓wE_fld, ↓wE_dnew, ↓wE_iter, ↓wE_rev, ↓wE_pos, ↓wE_kws, ↓wE_noa, ↓wE_both, ↓wE_fn, ↓wE_mth, ↓qN_non, ↓wE_mk, ↓wE_meth, ↓wE_neg, ↓wE_chain, ↓wE_comp, ↓wS_nx, ↓wS_bk, ↓wS_ct, ↓wS_seq, ↓wS_drop, ↓wS_ret, ↓wS_retN, ↓wS_if, ↓wS_asg, ↓qL_loc, ↓qCl_lst, ↓wS_retFz, ↓wS_raise, ↓wS_for, ↓wS_try, ↓wG_set0, ↓wG_setS, ↓wG_then, ↓wG_sub, ↓wG_fld, ↓qT_tup, ↓wG_tup, ↓wGs_nil, ↓wGs_cons, ↓endB_nx, ↓endB_rt, ↓endB_er, ↓endB_bk, ↓endB_ct, ↓loopP_nx, ↓loopP_ct, ↓loopP_bk, ↓loopP_rt, ↓loopP_er, ↓qO_some, ↓qO_at0, ↓qO_at1, ↓qO_at2, ↓qO_at3, ↓qO_at4, ↓qO_at5, ↓w_add_int, ↓w_add_str, ↓w_add_tup, ↓w_add_lst, ↓w_sub, ↓w_mod, ↓w_div, ↓w_mul, ↓w_pow, ↓w_band, ↓w_lt, ↓w_le, ↓w_gt, ↓w_ge, ↓w_is, ↓w_isNot, ↓nonN, ↓nonI, ↓nonS, ↓nonT, ↓nonL, ↓nonLoc, ↓w_eq_int, ↓w_ne_int, ↓w_eq_str, ↓w_ne_str, ↓qIx_lst, ↓qIx_dK, ↓qIxS_dK, ↓w_ix_loc, ↓w_ix_locS, ↓w_ix_lst, ↓w_ix_tup, ↓w_ix_str, ↓qLS_0, ↓qLS_1, ↓qLS_2, ↓qLS_3, ↓qSet_lst, ↓qSet_dK, ↓qSetS_dK, ↓w_setI, ↓w_setS, ↓qF_ins, ↓w_fld, ↓qSF_ins, ↓w_setF, ↓w_len_str, ↓w_len_lst, ↓w_len_tup, ↓qLen_lst, ↓qLen_dK, ↓w_len_loc, ↓w_max, ↓w_min, ↓w_int_int, ↓w_int_bl, ↓w_str_int, ↓qDc_dK, ↓w_dict, ↓w_tuple_lst, ↓w_tuple_tup, ↓w_tuple_loc, ↓w_list_lst, ↓w_list_tup, ↓w_iter_lst, ↓w_iter_tup, ↓w_iter_str, ↓w_iter_loc, ↓w_rng1, ↓w_rng2, ↓w_sl_str, ↓w_sl_tup, ↓w_sl_lst, ↓w_append, ↓w_lclear, ↓tyS_str, ↓tyL_lst, ↓qM_loc, ↓look1, ↓wC_set, ↓wC_setn, ↓wC_push2, ↓wC_pushn, ↓wE_yes, ↓wE_revL, ↓qO_lst, ↓w_all_lst, ↓w_join_lst, ↓isi_non_int, ↓isi_non_bool, ↓isi_non_str, ↓isi_non_tuple, ↓isi_non_list, ↓isi_non_dict, ↓isi_bl_int, ↓isi_bl_bool, ↓isi_bl_str, ↓isi_bl_tuple, ↓isi_bl_list, ↓isi_bl_dict, ↓isi_int_int, ↓isi_int_bool, ↓isi_int_str, ↓isi_int_tuple, ↓isi_int_list, ↓isi_int_dict, ↓isi_str_int, ↓isi_str_bool, ↓isi_str_str, ↓isi_str_tuple, ↓isi_str_list, ↓isi_str_dict, ↓isi_tup_int, ↓isi_tup_bool, ↓isi_tup_str, ↓isi_tup_tuple, ↓isi_tup_list, ↓isi_tup_dict, ↓isi_lst_int, ↓isi_lst_bool, ↓isi_lst_str, ↓isi_lst_tuple, ↓isi_lst_list, ↓isi_lst_dict, decide_eq_true_eq, beq_iff_eq, Bool.not_eq_true', Bool.not_eq_eq_eq_not, Bool.not_true, Bool.not_false, decide_eq_false_iff_not, beq_eq_false_iff_ne, ne_eq, true_and, and_true, if_true, if_false, ite_true, ite_false, reduceIte, Bool.false_eq_true, not_false_eq_true, not_true_eq_false, Int.reduceLT, Int.reduceLE, Int.reduceToNat, Nat.reduceLT, Nat.reduceLeDiff, Int.reducePow, Nat.reduceAdd, Int.reduceAdd, Int.reduceMul, Int.reduceSub, Int.reduceNeg, Nat.reducePow, Int.reduceEq, Nat.reduceEqDiff, List.length_cons, List.length_nil, PySem.sizeLine_eq, str_len_app, str_len_one, wipeD, List.set_cons_zero, List.set_cons_succ, ↓wC_of h.hh, ↓hf_numbers, ↓w_notIn_dictS h.hN, encS_get, Option.isSome_map, aget_isSome]
  split
  · rename_i hr; simpa using hr
  · rename_i hr; simpa using hr
/-- r is there -/
theorem number_in {c : Cl} {μ : Mem} {A : HA} {S : HS} (h : HallAt c μ A S) {r : Str} {v : Int} (hr : aget S.num r = some v) :
    wR (m_n_Hall_number c [.loc A.a, .str r] μ) (fun d μ' => d = .int v ∧ μ' = μ) noE := by
  unfold m_n_Hall_number
  rw [w_run]
  show wS (t_n_Hall_number c) [some (.loc A.a), some (.str r)] μ _
  unfold t_n_Hall_number
  simp -failIfUnchanged (disch := (first | (simp only [len_push, len_set]; omega) | omega | assumption)) only [↓wR_ok, ↓wR_err, ↓wE_var0, ↓wE_varS, ↓wE_C, ↓wE_op, ↓wE_cmp, ↓wE_bl, ↓qB_bl, ↓wE_asB, ↓wE_and, ↓wE_or, ↓wE_not, ↓wE_andV, ↓wE_orV, ↓wE_notV, ↓wE_if, ↓wE_nil, ↓wE_cons, ↓wE_fz, ↓wE_lc, ↓wE_tup, ↓wE_lst, ↓wE_call, ↓wE_nopart, ↓qI_int, ↓wE_part, ↓wE_slice, ↓wE_fld, ↓wE_dnew, ↓wE_iter, ↓wE_rev, ↓wE_pos, ↓wE_kws, ↓wE_noa, ↓wE_both, ↓wE_fn, ↓wE_mth, ↓qN_non, ↓wE_mk, ↓wE_meth, ↓wE_neg, ↓wE_chain, ↓wE_comp, ↓wS_nx, ↓wS_bk, ↓wS_ct, ↓wS_seq, ↓wS_drop, ↓wS_ret, ↓wS_retN, ↓wS_if, ↓wS_asg, ↓qL_loc, ↓qCl_lst, ↓wS_retFz, ↓wS_raise, ↓wS_for, ↓wS_try, ↓wG_set0, ↓wG_setS, ↓wG_then, ↓wG_sub, ↓wG_fld, ↓qT_tup, ↓wG_tup, ↓wGs_nil, ↓wGs_cons, ↓endB_nx, ↓endB_rt, ↓endB_er, ↓endB_bk, ↓endB_ct, ↓loopP_nx, ↓loopP_ct, ↓loopP_bk, ↓loopP_rt, ↓loopP_er, ↓qO_some, ↓qO_at0, ↓qO_at1, ↓qO_at2, ↓qO_at3, ↓qO_at4, ↓qO_at5, ↓w_add_int, ↓w_add_str, ↓w_add_tup, ↓w_add_lst, ↓w_sub, ↓w_mod, ↓w_div, ↓w_mul, ↓w_pow, ↓w_band, ↓w_lt, ↓w_le, ↓w_gt, ↓w_ge, ↓w_is, ↓w_isNot, ↓nonN, ↓nonI, ↓nonS, ↓nonT, ↓nonL, ↓nonLoc, ↓w_eq_int, ↓w_ne_int, ↓w_eq_str, ↓w_ne_str, ↓qIx_lst, ↓qIx_dK, ↓qIxS_dK, ↓w_ix_loc, ↓w_ix_locS, ↓w_ix_lst, ↓w_ix_tup, ↓w_ix_str, ↓qLS_0, ↓qLS_1, ↓qLS_2, ↓qLS_3, ↓qSet_lst, ↓qSet_dK, ↓qSetS_dK, ↓w_setI, ↓w_setS, ↓qF_ins, ↓w_fld, ↓qSF_ins, ↓w_setF, ↓w_len_str, ↓w_len_lst, ↓w_len_tup, ↓qLen_lst, ↓qLen_dK, ↓w_len_loc, ↓w_max, ↓w_min, ↓w_int_int, ↓w_int_bl, ↓w_str_int, ↓qDc_dK, ↓w_dict, ↓w_tuple_lst, ↓w_tuple_tup, ↓w_tuple_loc, ↓w_list_lst, ↓w_list_tup, ↓w_iter_lst, ↓w_iter_tup, ↓w_iter_str, ↓w_iter_loc, ↓w_rng1, ↓w_rng2, ↓w_sl_str, ↓w_sl_tup, ↓w_sl_lst, ↓w_append, ↓w_lclear, ↓tyS_str, ↓tyL_lst, ↓qM_loc, ↓look1, ↓wC_set, ↓wC_setn, ↓wC_push2, ↓wC_pushn, ↓wE_yes, ↓wE_revL, ↓qO_lst, ↓w_all_lst, ↓w_join_lst, ↓isi_non_int, ↓isi_non_bool, ↓isi_non_str, ↓isi_non_tuple, ↓isi_non_list, ↓isi_non_dict, ↓isi_bl_int, ↓isi_bl_bool, ↓isi_bl_str, ↓isi_bl_tuple, ↓isi_bl_list, ↓isi_bl_dict, ↓isi_int_int, ↓isi_int_bool, ↓isi_int_str, ↓isi_int_tuple, ↓isi_int_list, ↓isi_int_dict, ↓isi_str_int, ↓isi_str_bool, ↓isi_str_str, ↓isi_str_tuple, ↓isi_str_list, ↓isi_str_dict, ↓isi_tup_int, ↓isi_tup_bool, ↓isi_tup_str, ↓isi_tup_tuple, ↓isi_tup_list, ↓isi_tup_dict, ↓isi_lst_int, ↓isi_lst_bool, ↓isi_lst_str, ↓isi_lst_tuple, ↓isi_lst_list, ↓isi_lst_dict, decide_eq_true_eq, beq_iff_eq, Bool.not_eq_true', Bool.not_eq_eq_eq_not, Bool.not_true, Bool.not_false, decide_eq_false_iff_not, beq_eq_false_iff_ne, ne_eq, true_and, and_true, if_true, if_false, ite_true, ite_false, reduceIte, Bool.false_eq_true, not_false_eq_true, not_true_eq_false, Int.reduceLT, Int.reduceLE, Int.reduceToNat, Nat.reduceLT, Nat.reduceLeDiff, Int.reducePow, Nat.reduceAdd, Int.reduceAdd, Int.reduceMul, Int.reduceSub, Int.reduceNeg, Nat.reducePow, Int.reduceEq, Nat.reduceEqDiff, List.length_cons, List.length_nil, PySem.sizeLine_eq, str_len_app, str_len_one, wipeD, List.set_cons_zero, List.set_cons_succ, ↓wC_of h.hh, ↓hm_look_for, ↓hm_look_awake, ↓hm_next_turn, ↓hm_lie_down, ↓hm_rise, ↓hm_is_over, ↓hm_put, ↓hm_sleep, ↓hm_wake, ↓hm_move, ↓hm_tick, ↓hm_lateness, ↓hm_nudge, ↓hm_rank, ↓hm_number, ↓hm_line, ↓hm_line_at, ↓hm_order, ↓hm_asleep, ↓hm_sleeper, ↓hm_ending, ↓hm_standing, ↓hm_now, ↓hm_log, ↓hm_who, ↓hm_filled, ↓hm_twin, ↓hf_numbers, ↓hf_beds, ↓hf_ranks, ↓hf_endings, ↓hf_clock, ↓hf_turns, ↓hf_begun, ↓hf_entries]
  refine (look_for_ok h r).imp2 ?_ ?_
  · rintro _ _ ⟨rfl, rfl, _⟩
    simp -failIfUnchanged (disch := (first | (simp only [len_push, len_set]; omega) | omega | assumption)) only [↓wR_ok, ↓wR_err, ↓wE_var0, ↓wE_varS, ↓wE_C, ↓wE_op, ↓wE_cmp, ↓wE_bl, ↓qB_bl, ↓wE_asB, ↓wE_and, ↓wE_or, ↓wE_not, ↓wE_andV, ↓wE_orV, ↓wE_notV, ↓wE_if, ↓wE_nil, ↓wE_cons, ↓wE_fz, ↓wE_lc, ↓wE_tup, ↓wE_lst, ↓wE_call, ↓wE_nopart, ↓qI_int, ↓wE_part, ↓wE_slice, ↓wE_fld, ↓wE_dnew, ↓wE_iter, ↓wE_rev, ↓wE_pos, ↓wE_kws, ↓wE_noa, ↓wE_both, ↓wE_fn, ↓wE_mth, ↓qN_non, ↓wE_mk, ↓wE_meth, ↓wE_neg, ↓wE_chain, ↓wE_comp, ↓wS_nx, ↓wS_bk, ↓wS_ct, ↓wS_seq, ↓wS_drop, ↓wS_ret, ↓wS_retN, ↓wS_if, ↓wS_asg, ↓qL_loc, ↓qCl_lst, ↓wS_retFz, ↓wS_raise, ↓wS_for, ↓wS_try, ↓wG_set0, ↓wG_setS, ↓wG_then, ↓wG_sub, ↓wG_fld, ↓qT_tup, ↓wG_tup, ↓wGs_nil, ↓wGs_cons, ↓endB_nx, ↓endB_rt, ↓endB_er, ↓endB_bk, ↓endB_ct, ↓loopP_nx, ↓loopP_ct, ↓loopP_bk, ↓loopP_rt, ↓loopP_er, ↓qO_some, ↓qO_at0, ↓qO_at1, ↓qO_at2, ↓qO_at3, ↓qO_at4, ↓qO_at5, ↓w_add_int, ↓w_add_str, ↓w_add_tup, ↓w_add_lst, ↓w_sub, ↓w_mod, ↓w_div, ↓w_mul, ↓w_pow, ↓w_band, ↓w_lt, ↓w_le, ↓w_gt, ↓w_ge, ↓w_is, ↓w_isNot, ↓nonN, ↓nonI, ↓nonS, ↓nonT, ↓nonL, ↓nonLoc, ↓w_eq_int, ↓w_ne_int, ↓w_eq_str, ↓w_ne_str, ↓qIx_lst, ↓qIx_dK, ↓qIxS_dK, ↓w_ix_loc, ↓w_ix_locS, ↓w_ix_lst, ↓w_ix_tup, ↓w_ix_str, ↓qLS_0, ↓qLS_1, ↓qLS_2, ↓qLS_3, ↓qSet_lst, ↓qSet_dK, ↓qSetS_dK, ↓w_setI, ↓w_setS, ↓qF_ins, ↓w_fld, ↓qSF_ins, ↓w_setF, ↓w_len_str, ↓w_len_lst, ↓w_len_tup, ↓qLen_lst, ↓qLen_dK, ↓w_len_loc, ↓w_max, ↓w_min, ↓w_int_int, ↓w_int_bl, ↓w_str_int, ↓qDc_dK, ↓w_dict, ↓w_tuple_lst, ↓w_tuple_tup, ↓w_tuple_loc, ↓w_list_lst, ↓w_list_tup, ↓w_iter_lst, ↓w_iter_tup, ↓w_iter_str, ↓w_iter_loc, ↓w_rng1, ↓w_rng2, ↓w_sl_str, ↓w_sl_tup, ↓w_sl_lst, ↓w_append, ↓w_lclear, ↓tyS_str, ↓tyL_lst, ↓qM_loc, ↓look1, ↓wC_set, ↓wC_setn, ↓wC_push2, ↓wC_pushn, ↓wE_yes, ↓wE_revL, ↓qO_lst, ↓w_all_lst, ↓w_join_lst, ↓isi_non_int, ↓isi_non_bool, ↓isi_non_str, ↓isi_non_tuple, ↓isi_non_list, ↓isi_non_dict, ↓isi_bl_int, ↓isi_bl_bool, ↓isi_bl_str, ↓isi_bl_tuple, ↓isi_bl_list, ↓isi_bl_dict, ↓isi_int_int, ↓isi_int_bool, ↓isi_int_str, ↓isi_int_tuple, ↓isi_int_list, ↓isi_int_dict, ↓isi_str_int, ↓isi_str_bool, ↓isi_str_str, ↓isi_str_tuple, ↓isi_str_list, ↓isi_str_dict, ↓isi_tup_int, ↓isi_tup_bool, ↓isi_tup_str, ↓isi_tup_tuple, ↓isi_tup_list, ↓isi_tup_dict, ↓isi_lst_int, ↓isi_lst_bool, ↓isi_lst_str, ↓isi_lst_tuple, ↓isi_lst_list, ↓isi_lst_dict, decide_eq_true_eq, beq_iff_eq, Bool.not_eq_true', Bool.not_eq_eq_eq_not, Bool.not_true, Bool.not_false, decide_eq_false_iff_not, beq_eq_false_iff_ne, ne_eq, true_and, and_true, if_true, if_false, ite_true, ite_false, reduceIte, Bool.false_eq_true, not_false_eq_true, not_true_eq_false, Int.reduceLT, Int.reduceLE, Int.reduceToNat, Nat.reduceLT, Nat.reduceLeDiff, Int.reducePow, Nat.reduceAdd, Int.reduceAdd, Int.reduceMul, Int.reduceSub, Int.reduceNeg, Nat.reducePow, Int.reduceEq, Nat.reduceEqDiff, List.length_cons, List.length_nil, PySem.sizeLine_eq, str_len_app, str_len_one, wipeD, List.set_cons_zero, List.set_cons_succ, ↓wC_of h.hh, ↓hf_numbers, ↓wC_of h.hN, ↓qO_of (show kget (encS D.int S.num) (.inr r) = some (.int v) by rw [encS_get, hr]; rfl)]
  · rintro _ _ _ ⟨_, _, _, hn⟩
    exact hn (List.mem_map_of_mem (f := (·.1)) (aget_some hr))
theorem number_out {c : Cl} {μ : Mem} {A : HA} {S : HS} (h : HallAt c μ A S) {r : Str} (hr : r ∉ S.num.map (·.1)) :
    wR (m_n_Hall_number c [.loc A.a, .str r] μ) (fun _ _ => False) (fun C w μ' => C = c.n_NoRoom ∧ w = .str r ∧ μ' = μ) := by
  unfold m_n_Hall_number
  rw [w_run]
  show wS (t_n_Hall_number c) [some (.loc A.a), some (.str r)] μ _
  unfold t_n_Hall_number
  simp -failIfUnchanged (disch := (first | (simp only [len_push, len_set]; omega) | omega | assumption)) only [↓wR_ok, ↓wR_err, ↓wE_var0, ↓wE_varS, ↓wE_C, ↓wE_op, ↓wE_cmp, ↓wE_bl, ↓qB_bl, ↓wE_asB, ↓wE_and, ↓wE_or, ↓wE_not, ↓wE_andV, ↓wE_orV, ↓wE_notV, ↓wE_if, ↓wE_nil, ↓wE_cons, ↓wE_fz, ↓wE_lc, ↓wE_tup, ↓wE_lst, ↓wE_call, ↓wE_nopart, ↓qI_int, ↓wE_part, ↓wE_slice, ↓wE_fld, ↓wE_dnew, ↓wE_iter, ↓wE_rev, ↓wE_pos, ↓wE_kws, ↓wE_noa, ↓wE_both, ↓wE_fn, ↓wE_mth, ↓qN_non, ↓wE_mk, ↓wE_meth, ↓wE_neg, ↓wE_chain, ↓wE_comp, ↓wS_nx, ↓wS_bk, ↓wS_ct, ↓wS_seq, ↓wS_drop, ↓wS_ret, ↓wS_retN, ↓wS_if, ↓wS_asg, ↓qL_loc, ↓qCl_lst, ↓wS_retFz, ↓wS_raise, ↓wS_for, ↓wS_try, ↓wG_set0, ↓wG_setS, ↓wG_then, ↓wG_sub, ↓wG_fld, ↓qT_tup, ↓wG_tup, ↓wGs_nil, ↓wGs_cons, ↓endB_nx, ↓endB_rt, ↓endB_er, ↓endB_bk, ↓endB_ct, ↓loopP_nx, ↓loopP_ct, ↓loopP_bk, ↓loopP_rt, ↓loopP_er, ↓qO_some, ↓qO_at0, ↓qO_at1, ↓qO_at2, ↓qO_at3, ↓qO_at4, ↓qO_at5, ↓w_add_int, ↓w_add_str, ↓w_add_tup, ↓w_add_lst, ↓w_sub, ↓w_mod, ↓w_div, ↓w_mul, ↓w_pow, ↓w_band, ↓w_lt, ↓w_le, ↓w_gt, ↓w_ge, ↓w_is, ↓w_isNot, ↓nonN, ↓nonI, ↓nonS, ↓nonT, ↓nonL, ↓nonLoc, ↓w_eq_int, ↓w_ne_int, ↓w_eq_str, ↓w_ne_str, ↓qIx_lst, ↓qIx_dK, ↓qIxS_dK, ↓w_ix_loc, ↓w_ix_locS, ↓w_ix_lst, ↓w_ix_tup, ↓w_ix_str, ↓qLS_0, ↓qLS_1, ↓qLS_2, ↓qLS_3, ↓qSet_lst, ↓qSet_dK, ↓qSetS_dK, ↓w_setI, ↓w_setS, ↓qF_ins, ↓w_fld, ↓qSF_ins, ↓w_setF, ↓w_len_str, ↓w_len_lst, ↓w_len_tup, ↓qLen_lst, ↓qLen_dK, ↓w_len_loc, ↓w_max, ↓w_min, ↓w_int_int, ↓w_int_bl, ↓w_str_int, ↓qDc_dK, ↓w_dict, ↓w_tuple_lst, ↓w_tuple_tup, ↓w_tuple_loc, ↓w_list_lst, ↓w_list_tup, ↓w_iter_lst, ↓w_iter_tup, ↓w_iter_str, ↓w_iter_loc, ↓w_rng1, ↓w_rng2, ↓w_sl_str, ↓w_sl_tup, ↓w_sl_lst, ↓w_append, ↓w_lclear, ↓tyS_str, ↓tyL_lst, ↓qM_loc, ↓look1, ↓wC_set, ↓wC_setn, ↓wC_push2, ↓wC_pushn, ↓wE_yes, ↓wE_revL, ↓qO_lst, ↓w_all_lst, ↓w_join_lst, ↓isi_non_int, ↓isi_non_bool, ↓isi_non_str, ↓isi_non_tuple, ↓isi_non_list, ↓isi_non_dict, ↓isi_bl_int, ↓isi_bl_bool, ↓isi_bl_str, ↓isi_bl_tuple, ↓isi_bl_list, ↓isi_bl_dict, ↓isi_int_int, ↓isi_int_bool, ↓isi_int_str, ↓isi_int_tuple, ↓isi_int_list, ↓isi_int_dict, ↓isi_str_int, ↓isi_str_bool, ↓isi_str_str, ↓isi_str_tuple, ↓isi_str_list, ↓isi_str_dict, ↓isi_tup_int, ↓isi_tup_bool, ↓isi_tup_str, ↓isi_tup_tuple, ↓isi_tup_list, ↓isi_tup_dict, ↓isi_lst_int, ↓isi_lst_bool, ↓isi_lst_str, ↓isi_lst_tuple, ↓isi_lst_list, ↓isi_lst_dict, decide_eq_true_eq, beq_iff_eq, Bool.not_eq_true', Bool.not_eq_eq_eq_not, Bool.not_true, Bool.not_false, decide_eq_false_iff_not, beq_eq_false_iff_ne, ne_eq, true_and, and_true, if_true, if_false, ite_true, ite_false, reduceIte, Bool.false_eq_true, not_false_eq_true, not_true_eq_false, Int.reduceLT, Int.reduceLE, Int.reduceToNat, Nat.reduceLT, Nat.reduceLeDiff, Int.reducePow, Nat.reduceAdd, Int.reduceAdd, Int.reduceMul, Int.reduceSub, Int.reduceNeg, Nat.reducePow, Int.reduceEq, Nat.reduceEqDiff, List.length_cons, List.length_nil, PySem.sizeLine_eq, str_len_app, str_len_one, wipeD, List.set_cons_zero, List.set_cons_succ, ↓wC_of h.hh, ↓hm_look_for, ↓hm_look_awake, ↓hm_next_turn, ↓hm_lie_down, ↓hm_rise, ↓hm_is_over, ↓hm_put, ↓hm_sleep, ↓hm_wake, ↓hm_move, ↓hm_tick, ↓hm_lateness, ↓hm_nudge, ↓hm_rank, ↓hm_number, ↓hm_line, ↓hm_line_at, ↓hm_order, ↓hm_asleep, ↓hm_sleeper, ↓hm_ending, ↓hm_standing, ↓hm_now, ↓hm_log, ↓hm_who, ↓hm_filled, ↓hm_twin, ↓hf_numbers, ↓hf_beds, ↓hf_ranks, ↓hf_endings, ↓hf_clock, ↓hf_turns, ↓hf_begun, ↓hf_entries]
  refine (look_for_ok h r).imp2 ?_ ?_
  · rintro _ _ ⟨_, _, hn⟩
    exact absurd hn hr
  · rintro _ _ _ ⟨rfl, rfl, rfl, _⟩
    exact ⟨rfl, rfl, rfl⟩
def HS.put (S : HS) (r : Str) (v : Int) : HS := { S with num := aput S.num r v, log := S.log ++ [.tup [.str "put", .str r, .int v]] }
theorem put_in {c : Cl} {μ : Mem} {A : HA} {S : HS} (h : HallAt c μ A S) {r : Str} {v : Int} (hr : r ∈ S.num.map (·.1)) (hl : S.log.length < 16777216) (hn : S.num.length < 16777216) :
    wR (m_n_Hall_put c [.loc A.a, .str r, .int v] μ) (fun d μ' => d = .non ∧ HallTo c μ A S μ' (S.put r v)) noE := by
  unfold m_n_Hall_put
  rw [w_run]
  show wS (t_n_Hall_put c) [some (.loc A.a), some (.str r), some (.int v)] μ _
  unfold t_n_Hall_put
  simp -failIfUnchanged (disch := (first | (simp only [len_push, len_set]; omega) | omega | assumption)) only [↓wR_ok, ↓wR_err, ↓wE_var0, ↓wE_varS, ↓wE_C, ↓wE_op, ↓wE_cmp, ↓wE_bl, ↓qB_bl, ↓wE_asB, ↓wE_and, ↓wE_or, ↓wE_not, ↓wE_andV, ↓wE_orV, ↓wE_notV, ↓wE_if, ↓wE_nil, ↓wE_cons, ↓wE_fz, ↓wE_lc, ↓wE_tup, ↓wE_lst, ↓wE_call, ↓wE_nopart, ↓qI_int, ↓wE_part, ↓wE_slice, ↓wE_fld, ↓wE_dnew, ↓wE_iter, ↓wE_rev, ↓wE_pos, ↓wE_kws, ↓wE_noa, ↓wE_both, ↓wE_fn, ↓wE_mth, ↓qN_non, ↓wE_mk, ↓wE_meth, ↓wE_neg, ↓wE_chain, ↓wE_comp, ↓wS_nx, ↓wS_bk, ↓wS_ct, ↓wS_seq, ↓wS_drop, ↓wS_ret, ↓wS_retN, ↓wS_if, ↓wS_asg, ↓qL_loc, ↓qCl_lst, ↓wS_retFz, ↓wS_raise, ↓wS_for, ↓wS_try, ↓wG_set0, ↓wG_setS, ↓wG_then, ↓wG_sub, ↓wG_fld, ↓qT_tup, ↓wG_tup, ↓wGs_nil, ↓wGs_cons, ↓endB_nx, ↓endB_rt, ↓endB_er, ↓endB_bk, ↓endB_ct, ↓loopP_nx, ↓loopP_ct, ↓loopP_bk, ↓loopP_rt, ↓loopP_er, ↓qO_some, ↓qO_at0, ↓qO_at1, ↓qO_at2, ↓qO_at3, ↓qO_at4, ↓qO_at5, ↓w_add_int, ↓w_add_str, ↓w_add_tup, ↓w_add_lst, ↓w_sub, ↓w_mod, ↓w_div, ↓w_mul, ↓w_pow, ↓w_band, ↓w_lt, ↓w_le, ↓w_gt, ↓w_ge, ↓w_is, ↓w_isNot, ↓nonN, ↓nonI, ↓nonS, ↓nonT, ↓nonL, ↓nonLoc, ↓w_eq_int, ↓w_ne_int, ↓w_eq_str, ↓w_ne_str, ↓qIx_lst, ↓qIx_dK, ↓qIxS_dK, ↓w_ix_loc, ↓w_ix_locS, ↓w_ix_lst, ↓w_ix_tup, ↓w_ix_str, ↓qLS_0, ↓qLS_1, ↓qLS_2, ↓qLS_3, ↓qSet_lst, ↓qSet_dK, ↓qSetS_dK, ↓w_setI, ↓w_setS, ↓qF_ins, ↓w_fld, ↓qSF_ins, ↓w_setF, ↓w_len_str, ↓w_len_lst, ↓w_len_tup, ↓qLen_lst, ↓qLen_dK, ↓w_len_loc, ↓w_max, ↓w_min, ↓w_int_int, ↓w_int_bl, ↓w_str_int, ↓qDc_dK, ↓w_dict, ↓w_tuple_lst, ↓w_tuple_tup, ↓w_tuple_loc, ↓w_list_lst, ↓w_list_tup, ↓w_iter_lst, ↓w_iter_tup, ↓w_iter_str, ↓w_iter_loc, ↓w_rng1, ↓w_rng2, ↓w_sl_str, ↓w_sl_tup, ↓w_sl_lst, ↓w_append, ↓w_lclear, ↓tyS_str, ↓tyL_lst, ↓qM_loc, ↓look1, ↓wC_set, ↓wC_setn, ↓wC_push2, ↓wC_pushn, ↓wE_yes, ↓wE_revL, ↓qO_lst, ↓w_all_lst, ↓w_join_lst, ↓isi_non_int, ↓isi_non_bool, ↓isi_non_str, ↓isi_non_tuple, ↓isi_non_list, ↓isi_non_dict, ↓isi_bl_int, ↓isi_bl_bool, ↓isi_bl_str, ↓isi_bl_tuple, ↓isi_bl_list, ↓isi_bl_dict, ↓isi_int_int, ↓isi_int_bool, ↓isi_int_str, ↓isi_int_tuple, ↓isi_int_list, ↓isi_int_dict, ↓isi_str_int, ↓isi_str_bool, ↓isi_str_str, ↓isi_str_tuple, ↓isi_str_list, ↓isi_str_dict, ↓isi_tup_int, ↓isi_tup_bool, ↓isi_tup_str, ↓isi_tup_tuple, ↓isi_tup_list, ↓isi_tup_dict, ↓isi_lst_int, ↓isi_lst_bool, ↓isi_lst_str, ↓isi_lst_tuple, ↓isi_lst_list, ↓isi_lst_dict, decide_eq_true_eq, beq_iff_eq, Bool.not_eq_true', Bool.not_eq_eq_eq_not, Bool.not_true, Bool.not_false, decide_eq_false_iff_not, beq_eq_false_iff_ne, ne_eq, true_and, and_true, if_true, if_false, ite_true, ite_false, reduceIte, Bool.false_eq_true, not_false_eq_true, not_true_eq_false, Int.reduceLT, Int.reduceLE, Int.reduceToNat, Nat.reduceLT, Nat.reduceLeDiff, Int.reducePow, Nat.reduceAdd, Int.reduceAdd, Int.reduceMul, Int.reduceSub, Int.reduceNeg, Nat.reducePow, Int.reduceEq, Nat.reduceEqDiff, List.length_cons, List.length_nil, PySem.sizeLine_eq, str_len_app, str_len_one, wipeD, List.set_cons_zero, List.set_cons_succ, ↓wC_of h.hh, ↓hm_look_for, ↓hm_look_awake, ↓hm_next_turn, ↓hm_lie_down, ↓hm_rise, ↓hm_is_over, ↓hm_put, ↓hm_sleep, ↓hm_wake, ↓hm_move, ↓hm_tick, ↓hm_lateness, ↓hm_nudge, ↓hm_rank, ↓hm_number, ↓hm_line, ↓hm_line_at, ↓hm_order, ↓hm_asleep, ↓hm_sleeper, ↓hm_ending, ↓hm_standing, ↓hm_now, ↓hm_log, ↓hm_who, ↓hm_filled, ↓hm_twin, ↓hf_numbers, ↓hf_beds, ↓hf_ranks, ↓hf_endings, ↓hf_clock, ↓hf_turns, ↓hf_begun, ↓hf_entries]
  refine (look_for_ok h r).imp2 ?_ (fun _ _ _ z => absurd hr z.2.2.2)
  rintro _ _ ⟨rfl, rfl, _⟩
  have ne := h.ne
  have ne1 : A.aL ≠ A.aN := by omega
  simp -failIfUnchanged (disch := (first | (simp only [len_push, len_set]; omega) | omega | assumption)) only [↓wR_ok, ↓wR_err, ↓wE_var0, ↓wE_varS, ↓wE_C, ↓wE_op, ↓wE_cmp, ↓wE_bl, ↓qB_bl, ↓wE_asB, ↓wE_and, ↓wE_or, ↓wE_not, ↓wE_andV, ↓wE_orV, ↓wE_notV, ↓wE_if, ↓wE_nil, ↓wE_cons, ↓wE_fz, ↓wE_lc, ↓wE_tup, ↓wE_lst, ↓wE_call, ↓wE_nopart, ↓qI_int, ↓wE_part, ↓wE_slice, ↓wE_fld, ↓wE_dnew, ↓wE_iter, ↓wE_rev, ↓wE_pos, ↓wE_kws, ↓wE_noa, ↓wE_both, ↓wE_fn, ↓wE_mth, ↓qN_non, ↓wE_mk, ↓wE_meth, ↓wE_neg, ↓wE_chain, ↓wE_comp, ↓wS_nx, ↓wS_bk, ↓wS_ct, ↓wS_seq, ↓wS_drop, ↓wS_ret, ↓wS_retN, ↓wS_if, ↓wS_asg, ↓qL_loc, ↓qCl_lst, ↓wS_retFz, ↓wS_raise, ↓wS_for, ↓wS_try, ↓wG_set0, ↓wG_setS, ↓wG_then, ↓wG_sub, ↓wG_fld, ↓qT_tup, ↓wG_tup, ↓wGs_nil, ↓wGs_cons, ↓endB_nx, ↓endB_rt, ↓endB_er, ↓endB_bk, ↓endB_ct, ↓loopP_nx, ↓loopP_ct, ↓loopP_bk, ↓loopP_rt, ↓loopP_er, ↓qO_some, ↓qO_at0, ↓qO_at1, ↓qO_at2, ↓qO_at3, ↓qO_at4, ↓qO_at5, ↓w_add_int, ↓w_add_str, ↓w_add_tup, ↓w_add_lst, ↓w_sub, ↓w_mod, ↓w_div, ↓w_mul, ↓w_pow, ↓w_band, ↓w_lt, ↓w_le, ↓w_gt, ↓w_ge, ↓w_is, ↓w_isNot, ↓nonN, ↓nonI, ↓nonS, ↓nonT, ↓nonL, ↓nonLoc, ↓w_eq_int, ↓w_ne_int, ↓w_eq_str, ↓w_ne_str, ↓qIx_lst, ↓qIx_dK, ↓qIxS_dK, ↓w_ix_loc, ↓w_ix_locS, ↓w_ix_lst, ↓w_ix_tup, ↓w_ix_str, ↓qLS_0, ↓qLS_1, ↓qLS_2, ↓qLS_3, ↓qSet_lst, ↓qSet_dK, ↓qSetS_dK, ↓w_setI, ↓w_setS, ↓qF_ins, ↓w_fld, ↓qSF_ins, ↓w_setF, ↓w_len_str, ↓w_len_lst, ↓w_len_tup, ↓qLen_lst, ↓qLen_dK, ↓w_len_loc, ↓w_max, ↓w_min, ↓w_int_int, ↓w_int_bl, ↓w_str_int, ↓qDc_dK, ↓w_dict, ↓w_tuple_lst, ↓w_tuple_tup, ↓w_tuple_loc, ↓w_list_lst, ↓w_list_tup, ↓w_iter_lst, ↓w_iter_tup, ↓w_iter_str, ↓w_iter_loc, ↓w_rng1, ↓w_rng2, ↓w_sl_str, ↓w_sl_tup, ↓w_sl_lst, ↓w_append, ↓w_lclear, ↓tyS_str, ↓tyL_lst, ↓qM_loc, ↓look1, ↓wC_set, ↓wC_setn, ↓wC_push2, ↓wC_pushn, ↓wE_yes, ↓wE_revL, ↓qO_lst, ↓w_all_lst, ↓w_join_lst, ↓isi_non_int, ↓isi_non_bool, ↓isi_non_str, ↓isi_non_tuple, ↓isi_non_list, ↓isi_non_dict, ↓isi_bl_int, ↓isi_bl_bool, ↓isi_bl_str, ↓isi_bl_tuple, ↓isi_bl_list, ↓isi_bl_dict, ↓isi_int_int, ↓isi_int_bool, ↓isi_int_str, ↓isi_int_tuple, ↓isi_int_list, ↓isi_int_dict, ↓isi_str_int, ↓isi_str_bool, ↓isi_str_str, ↓isi_str_tuple, ↓isi_str_list, ↓isi_str_dict, ↓isi_tup_int, ↓isi_tup_bool, ↓isi_tup_str, ↓isi_tup_tuple, ↓isi_tup_list, ↓isi_tup_dict, ↓isi_lst_int, ↓isi_lst_bool, ↓isi_lst_str, ↓isi_lst_tuple, ↓isi_lst_list, ↓isi_lst_dict, decide_eq_true_eq, beq_iff_eq, Bool.not_eq_true', Bool.not_eq_eq_eq_not, Bool.not_true, Bool.not_false, decide_eq_false_iff_not, beq_eq_false_iff_ne, ne_eq, true_and, and_true, if_true, if_false, ite_true, ite_false, reduceIte, Bool.false_eq_true, not_false_eq_true, not_true_eq_false, Int.reduceLT, Int.reduceLE, Int.reduceToNat, Nat.reduceLT, Nat.reduceLeDiff, Int.reducePow, Nat.reduceAdd, Int.reduceAdd, Int.reduceMul, Int.reduceSub, Int.reduceNeg, Nat.reducePow, Int.reduceEq, Nat.reduceEqDiff, List.length_cons, List.length_nil, PySem.sizeLine_eq, str_len_app, str_len_one, wipeD, List.set_cons_zero, List.set_cons_succ, ↓wC_of h.hh, ↓hm_look_for, ↓hm_look_awake, ↓hm_next_turn, ↓hm_lie_down, ↓hm_rise, ↓hm_is_over, ↓hm_put, ↓hm_sleep, ↓hm_wake, ↓hm_move, ↓hm_tick, ↓hm_lateness, ↓hm_nudge, ↓hm_rank, ↓hm_number, ↓hm_line, ↓hm_line_at, ↓hm_order, ↓hm_asleep, ↓hm_sleeper, ↓hm_ending, ↓hm_standing, ↓hm_now, ↓hm_log, ↓hm_who, ↓hm_filled, ↓hm_twin, ↓hf_numbers, ↓hf_beds, ↓hf_ranks, ↓hf_endings, ↓hf_clock, ↓hf_turns, ↓hf_begun, ↓hf_entries, ↓wC_of h.hN, enc_len, ↓wC_setn ne.1.1, ↓wC_setn ne1, ↓wC_of h.hL, lkd_nil h.lk, tyL_of (at_setn_of h.hL ne1)]
  repeat refine And.intro (by (first | exact mulOk (by omega) (by omega) (by omega) (by omega) | exact divOk (by omega) (by omega) | exact powOk (by omega) (by omega) (by omega) (by omega) | exact strOk' (by omega) (by omega) | assumption | omega | decide)) ?_
  have mf := mem_foot (A := A) (S := S)
  have lN := at_lt h.hN
  have lL := at_lt h.hL
  refine ⟨⟨h.lk, h.nd, at_setn_of (at_setn_of h.hh (by omega)) (by omega), ?_, at_setn_of (at_setn_of h.hB (by omega)) (by omega), at_setn_of (at_setn_of h.hR (by omega)) (by omega), at_setn_of (at_setn_of h.hE (by omega)) (by omega), at_set (by rw [len_set]; exact lL),
    fun p hp => ?_, aput_nodup h.nN, h.nB, h.nR, h.nE, ?_, ?_, ?_⟩, ?_, fun k hk => .inl hk⟩
  · rw [at_setn (by omega), at_set lN, encS_put]; rfl
  · have := h.neb hp
    exact at_setn_of (at_setn_of (h.hb p hp) (by omega)) (by omega)
  · have := h.lB; simp [HS.put]; omega
  · have := h.lR; simp [HS.put]; omega
  · have := h.lE; simp [HS.put]; omega
  · exact ((Fr.set1 _ _ _).mono (by intro k hk _; simp at hk; subst hk; exact mf.2.1)).trans (Fr.set1 _ _ _) (by intro k hk _; simp at hk; subst hk; exact mf.2.2.2.2.2)
theorem put_out {c : Cl} {μ : Mem} {A : HA} {S : HS} (h : HallAt c μ A S) {r : Str} {v : D} (hr : r ∉ S.num.map (·.1)) :
    wR (m_n_Hall_put c [.loc A.a, .str r, v] μ) (fun _ _ => False) (fun C w μ' => C = c.n_NoRoom ∧ w = .str r ∧ μ' = μ) := by
  unfold m_n_Hall_put
  rw [w_run]
  show wS (t_n_Hall_put c) [some (.loc A.a), some (.str r), some v] μ _
  unfold t_n_Hall_put
  simp -failIfUnchanged (disch := (first | (simp only [len_push, len_set]; omega) | omega | assumption)) only [↓wR_ok, ↓wR_err, ↓wE_var0, ↓wE_varS, ↓wE_C, ↓wE_op, ↓wE_cmp, ↓wE_bl, ↓qB_bl, ↓wE_asB, ↓wE_and, ↓wE_or, ↓wE_not, ↓wE_andV, ↓wE_orV, ↓wE_notV, ↓wE_if, ↓wE_nil, ↓wE_cons, ↓wE_fz, ↓wE_lc, ↓wE_tup, ↓wE_lst, ↓wE_call, ↓wE_nopart, ↓qI_int, ↓wE_part, ↓wE_slice, ↓wE_fld, ↓wE_dnew, ↓wE_iter, ↓wE_rev, ↓wE_pos, ↓wE_kws, ↓wE_noa, ↓wE_both, ↓wE_fn, ↓wE_mth, ↓qN_non, ↓wE_mk, ↓wE_meth, ↓wE_neg, ↓wE_chain, ↓wE_comp, ↓wS_nx, ↓wS_bk, ↓wS_ct, ↓wS_seq, ↓wS_drop, ↓wS_ret, ↓wS_retN, ↓wS_if, ↓wS_asg, ↓qL_loc, ↓qCl_lst, ↓wS_retFz, ↓wS_raise, ↓wS_for, ↓wS_try, ↓wG_set0, ↓wG_setS, ↓wG_then, ↓wG_sub, ↓wG_fld, ↓qT_tup, ↓wG_tup, ↓wGs_nil, ↓wGs_cons, ↓endB_nx, ↓endB_rt, ↓endB_er, ↓endB_bk, ↓endB_ct, ↓loopP_nx, ↓loopP_ct, ↓loopP_bk, ↓loopP_rt, ↓loopP_er, ↓qO_some, ↓qO_at0, ↓qO_at1, ↓qO_at2, ↓qO_at3, ↓qO_at4, ↓qO_at5, ↓w_add_int, ↓w_add_str, ↓w_add_tup, ↓w_add_lst, ↓w_sub, ↓w_mod, ↓w_div, ↓w_mul, ↓w_pow, ↓w_band, ↓w_lt, ↓w_le, ↓w_gt, ↓w_ge, ↓w_is, ↓w_isNot, ↓nonN, ↓nonI, ↓nonS, ↓nonT, ↓nonL, ↓nonLoc, ↓w_eq_int, ↓w_ne_int, ↓w_eq_str, ↓w_ne_str, ↓qIx_lst, ↓qIx_dK, ↓qIxS_dK, ↓w_ix_loc, ↓w_ix_locS, ↓w_ix_lst, ↓w_ix_tup, ↓w_ix_str, ↓qLS_0, ↓qLS_1, ↓qLS_2, ↓qLS_3, ↓qSet_lst, ↓qSet_dK, ↓qSetS_dK, ↓w_setI, ↓w_setS, ↓qF_ins, ↓w_fld, ↓qSF_ins, ↓w_setF, ↓w_len_str, ↓w_len_lst, ↓w_len_tup, ↓qLen_lst, ↓qLen_dK, ↓w_len_loc, ↓w_max, ↓w_min, ↓w_int_int, ↓w_int_bl, ↓w_str_int, ↓qDc_dK, ↓w_dict, ↓w_tuple_lst, ↓w_tuple_tup, ↓w_tuple_loc, ↓w_list_lst, ↓w_list_tup, ↓w_iter_lst, ↓w_iter_tup, ↓w_iter_str, ↓w_iter_loc, ↓w_rng1, ↓w_rng2, ↓w_sl_str, ↓w_sl_tup, ↓w_sl_lst, ↓w_append, ↓w_lclear, ↓tyS_str, ↓tyL_lst, ↓qM_loc, ↓look1, ↓wC_set, ↓wC_setn, ↓wC_push2, ↓wC_pushn, ↓wE_yes, ↓wE_revL, ↓qO_lst, ↓w_all_lst, ↓w_join_lst, ↓isi_non_int, ↓isi_non_bool, ↓isi_non_str, ↓isi_non_tuple, ↓isi_non_list, ↓isi_non_dict, ↓isi_bl_int, ↓isi_bl_bool, ↓isi_bl_str, ↓isi_bl_tuple, ↓isi_bl_list, ↓isi_bl_dict, ↓isi_int_int, ↓isi_int_bool, ↓isi_int_str, ↓isi_int_tuple, ↓isi_int_list, ↓isi_int_dict, ↓isi_str_int, ↓isi_str_bool, ↓isi_str_str, ↓isi_str_tuple, ↓isi_str_list, ↓isi_str_dict, ↓isi_tup_int, ↓isi_tup_bool, ↓isi_tup_str, ↓isi_tup_tuple, ↓isi_tup_list, ↓isi_tup_dict, ↓isi_lst_int, ↓isi_lst_bool, ↓isi_lst_str, ↓isi_lst_tuple, ↓isi_lst_list, ↓isi_lst_dict, decide_eq_true_eq, beq_iff_eq, Bool.not_eq_true', Bool.not_eq_eq_eq_not, Bool.not_true, Bool.not_false, decide_eq_false_iff_not, beq_eq_false_iff_ne, ne_eq, true_and, and_true, if_true, if_false, ite_true, ite_false, reduceIte, Bool.false_eq_true, not_false_eq_true, not_true_eq_false, Int.reduceLT, Int.reduceLE, Int.reduceToNat, Nat.reduceLT, Nat.reduceLeDiff, Int.reducePow, Nat.reduceAdd, Int.reduceAdd, Int.reduceMul, Int.reduceSub, Int.reduceNeg, Nat.reducePow, Int.reduceEq, Nat.reduceEqDiff, List.length_cons, List.length_nil, PySem.sizeLine_eq, str_len_app, str_len_one, wipeD, List.set_cons_zero, List.set_cons_succ, ↓wC_of h.hh, ↓hm_look_for, ↓hm_look_awake, ↓hm_next_turn, ↓hm_lie_down, ↓hm_rise, ↓hm_is_over, ↓hm_put, ↓hm_sleep, ↓hm_wake, ↓hm_move, ↓hm_tick, ↓hm_lateness, ↓hm_nudge, ↓hm_rank, ↓hm_number, ↓hm_line, ↓hm_line_at, ↓hm_order, ↓hm_asleep, ↓hm_sleeper, ↓hm_ending, ↓hm_standing, ↓hm_now, ↓hm_log, ↓hm_who, ↓hm_filled, ↓hm_twin, ↓hf_numbers, ↓hf_beds, ↓hf_ranks, ↓hf_endings, ↓hf_clock, ↓hf_turns, ↓hf_begun, ↓hf_entries]
  refine (look_for_ok h r).imp2 ?_ ?_
  · rintro _ _ ⟨_, _, hn⟩
    exact absurd hn hr
  · rintro _ _ _ ⟨rfl, rfl, rfl, _⟩
    exact ⟨rfl, rfl, rfl⟩
/-- Hall(rooms) -/
theorem init_ok {c : Cl} {μ : Mem} {r : Nat} {num : List (Str × Int)} (hl : μ.lk = []) (hr : μ.cells[r]? = some (.dK (encS D.int num))) (hn : (num.map (·.1)).Nodup) :
    wR (m_n_Halldd_initdd c [.loc μ.cells.length, .loc r] (μ.push (.ins c.n_Hall []))) (fun d μ' => d = .non ∧ ∃ A : HA, A.a = μ.cells.length ∧ HallAt c μ' A { num := num } ∧ Fr [] μ μ' ∧ ∀ k ∈ foot A { num := num }, μ.cells.length ≤ k) noE := by
  unfold m_n_Halldd_initdd
  rw [w_run]
  show wS (t_n_Halldd_initdd c) [some (.loc μ.cells.length), some (.loc r)] (μ.push (.ins c.n_Hall [])) _
  unfold t_n_Halldd_initdd
  have hlr := at_lt hr
  simp -failIfUnchanged (disch := (first | (simp only [len_push, len_set]; omega) | omega | assumption)) only [↓wR_ok, ↓wR_err, ↓wE_var0, ↓wE_varS, ↓wE_C, ↓wE_op, ↓wE_cmp, ↓wE_bl, ↓qB_bl, ↓wE_asB, ↓wE_and, ↓wE_or, ↓wE_not, ↓wE_andV, ↓wE_orV, ↓wE_notV, ↓wE_if, ↓wE_nil, ↓wE_cons, ↓wE_fz, ↓wE_lc, ↓wE_tup, ↓wE_lst, ↓wE_call, ↓wE_nopart, ↓qI_int, ↓wE_part, ↓wE_slice, ↓wE_fld, ↓wE_dnew, ↓wE_iter, ↓wE_rev, ↓wE_pos, ↓wE_kws, ↓wE_noa, ↓wE_both, ↓wE_fn, ↓wE_mth, ↓qN_non, ↓wE_mk, ↓wE_meth, ↓wE_neg, ↓wE_chain, ↓wE_comp, ↓wS_nx, ↓wS_bk, ↓wS_ct, ↓wS_seq, ↓wS_drop, ↓wS_ret, ↓wS_retN, ↓wS_if, ↓wS_asg, ↓qL_loc, ↓qCl_lst, ↓wS_retFz, ↓wS_raise, ↓wS_for, ↓wS_try, ↓wG_set0, ↓wG_setS, ↓wG_then, ↓wG_sub, ↓wG_fld, ↓qT_tup, ↓wG_tup, ↓wGs_nil, ↓wGs_cons, ↓endB_nx, ↓endB_rt, ↓endB_er, ↓endB_bk, ↓endB_ct, ↓loopP_nx, ↓loopP_ct, ↓loopP_bk, ↓loopP_rt, ↓loopP_er, ↓qO_some, ↓qO_at0, ↓qO_at1, ↓qO_at2, ↓qO_at3, ↓qO_at4, ↓qO_at5, ↓w_add_int, ↓w_add_str, ↓w_add_tup, ↓w_add_lst, ↓w_sub, ↓w_mod, ↓w_div, ↓w_mul, ↓w_pow, ↓w_band, ↓w_lt, ↓w_le, ↓w_gt, ↓w_ge, ↓w_is, ↓w_isNot, ↓nonN, ↓nonI, ↓nonS, ↓nonT, ↓nonL, ↓nonLoc, ↓w_eq_int, ↓w_ne_int, ↓w_eq_str, ↓w_ne_str, ↓qIx_lst, ↓qIx_dK, ↓qIxS_dK, ↓w_ix_loc, ↓w_ix_locS, ↓w_ix_lst, ↓w_ix_tup, ↓w_ix_str, ↓qLS_0, ↓qLS_1, ↓qLS_2, ↓qLS_3, ↓qSet_lst, ↓qSet_dK, ↓qSetS_dK, ↓w_setI, ↓w_setS, ↓qF_ins, ↓w_fld, ↓qSF_ins, ↓w_setF, ↓w_len_str, ↓w_len_lst, ↓w_len_tup, ↓qLen_lst, ↓qLen_dK, ↓w_len_loc, ↓w_max, ↓w_min, ↓w_int_int, ↓w_int_bl, ↓w_str_int, ↓qDc_dK, ↓w_dict, ↓w_tuple_lst, ↓w_tuple_tup, ↓w_tuple_loc, ↓w_list_lst, ↓w_list_tup, ↓w_iter_lst, ↓w_iter_tup, ↓w_iter_str, ↓w_iter_loc, ↓w_rng1, ↓w_rng2, ↓w_sl_str, ↓w_sl_tup, ↓w_sl_lst, ↓w_append, ↓w_lclear, ↓tyS_str, ↓tyL_lst, ↓qM_loc, ↓look1, ↓wC_set, ↓wC_setn, ↓wC_push2, ↓wC_pushn, ↓wE_yes, ↓wE_revL, ↓qO_lst, ↓w_all_lst, ↓w_join_lst, ↓isi_non_int, ↓isi_non_bool, ↓isi_non_str, ↓isi_non_tuple, ↓isi_non_list, ↓isi_non_dict, ↓isi_bl_int, ↓isi_bl_bool, ↓isi_bl_str, ↓isi_bl_tuple, ↓isi_bl_list, ↓isi_bl_dict, ↓isi_int_int, ↓isi_int_bool, ↓isi_int_str, ↓isi_int_tuple, ↓isi_int_list, ↓isi_int_dict, ↓isi_str_int, ↓isi_str_bool, ↓isi_str_str, ↓isi_str_tuple, ↓isi_str_list, ↓isi_str_dict, ↓isi_tup_int, ↓isi_tup_bool, ↓isi_tup_str, ↓isi_tup_tuple, ↓isi_tup_list, ↓isi_tup_dict, ↓isi_lst_int, ↓isi_lst_bool, ↓isi_lst_str, ↓isi_lst_tuple, ↓isi_lst_list, ↓isi_lst_dict, decide_eq_true_eq, beq_iff_eq, Bool.not_eq_true', Bool.not_eq_eq_eq_not, Bool.not_true, Bool.not_false, decide_eq_false_iff_not, beq_eq_false_iff_ne, ne_eq, true_and, and_true, if_true, if_false, ite_true, ite_false, reduceIte, Bool.false_eq_true, not_false_eq_true, not_true_eq_false, Int.reduceLT, Int.reduceLE, Int.reduceToNat, Nat.reduceLT, Nat.reduceLeDiff, Int.reducePow, Nat.reduceAdd, Int.reduceAdd, Int.reduceMul, Int.reduceSub, Int.reduceNeg, Nat.reducePow, Int.reduceEq, Nat.reduceEqDiff, List.length_cons, List.length_nil, PySem.sizeLine_eq, str_len_app, str_len_one, wipeD, List.set_cons_zero, List.set_cons_succ, ↓wC_of hr, pfh0, pfh1, pfh2, pfh3, pfh4, pfh5, pfh6, pfh7, len_push, len_set, set_push2, set_pushn, set_set, List.contains_cons, beq_self_eq_true, Bool.true_or, Bool.or_true]
  repeat refine And.intro (by (first | exact mulOk (by omega) (by omega) (by omega) (by omega) | exact divOk (by omega) (by omega) | exact powOk (by omega) (by omega) (by omega) (by omega) | exact strOk' (by omega) (by omega) | assumption | omega | decide)) ?_
  have q : ∀ k, μ.cells.length + k ≠ r := by omega
  refine ⟨⟨μ.cells.length, μ.cells.length + 1, μ.cells.length + 1 + 1, μ.cells.length + 1 + 1 + 1, μ.cells.length + 1 + 1 + 1 + 1, μ.cells.length + 1 + 1 + 1 + 1 + 1⟩, rfl, ⟨hl, ?_, ?_, ?_, ?_, ?_, ?_, ?_, fun p hp => (by cases hp), hn, List.nodup_nil, List.nodup_nil, List.nodup_nil, Nat.le_refl _, Nat.le_refl _, Nat.le_refl _⟩, ?_, ?_⟩
  · simp [foot, HA.list]; omega
  · exact at_push_of (at_push_of (at_push_of (at_push_of (at_push_of at_push))))
  · exact at_push_of (at_push_of (at_push_of (at_push_of (at_push2 (by simp only [len_push])))))
  · exact at_push_of (at_push_of (at_push_of (at_push2 (by simp only [len_push]))))
  · exact at_push_of (at_push_of (at_push2 (by simp only [len_push])))
  · exact at_push_of (at_push2 (by simp only [len_push]))
  · exact at_push2 (by simp only [len_push])
  · exact (Fr.push _ _ _).trans ((Fr.push [] _ _).trans ((Fr.push [] _ _).trans ((Fr.push [] _ _).trans ((Fr.push [] _ _).trans (Fr.push [] _ _)))))
  · intro k hk; simp [foot, HA.list] at hk; omega
end Doz
end
section
namespace K01
open PySem L2 Doz
open PySem.DozX (ExTxt SaysX exB_ok hookX obsXG obsXG_eq)
def top (i : Nat) : Stmt := PySem.Challenge.pw_dozehall_k01_numbers_put.main.body.getD i noSt
abbrev s_x__law_source : Stmt := top 14
abbrev s_x__law_draw : Stmt := top 15
abbrev s_x__law_names : Stmt := top 16
abbrev s_x__law_number : Stmt := top 17
abbrev s_n_Halldd_initdd : Stmt := meth (top 12) 0
abbrev s_n_DozeErrordd_initdd : Stmt := meth (top 4) 0
abbrev s_n_Hall_look_for : Stmt := meth (top 12) 1
abbrev s_n_Hall_number : Stmt := meth (top 12) 15
abbrev s_x__law_numbers_well : Stmt := top 19
abbrev s_n_Hall_put : Stmt := meth (top 12) 7
abbrev s_x__law_strange : Stmt := top 18
abbrev s_n_law : Stmt := top 20
def t_x__law_numbers_well (c : Cl) : MS := (mseq (masg (mfz (mcomp [4] (miter (mvar 2)) (gset 4) myes (mmth ("number" : Str) 1 0 (fun C => List.lookup C [(c.n_Hall, fun x ds ez μ => m_n_Hall_number c ((fun ds _ => ds) (x :: ds) ez) μ)]) (mvar 0) (mpos (mcons (mvar 4) mnil))))) (gset 3))
    (mseq (mifS (mnot (masB (mcall (fAll fun bs => bs.all id) (mcons (mfz (mcomp [5] (miter (mvar 3)) (gset 5) myes (mandV (mcall fIsi (mcons (mvar 5) (mcons (mC (.ty "int")) mnil))) (mnotV (mcall fIsi (mcons (mvar 5) (mcons (mC (.ty "bool")) mnil))))))) mnil)))) (mret (mC (.bl false))) mnx)
    (mret (mbl (mcmp cEqA (mvar 3) (mfz (mcomp [4] (miter (mvar 2)) (gset 4) myes (mop fIx (mvar 1) (mvar 4)))))))))
def m_x__law_numbers_well (c : Cl) : MF := runB 6 (t_x__law_numbers_well c)
def t_x__law_strange (c : Cl) : MS := (mseq (masg (mC .non) (gset 3))
    (mseq (mtry 4 (fun C => List.lookup C [(c.n_NoRoom, true)]) (mifS (masB (mvar 2)) (mdrop (mmth ("put" : Str) 2 0 (fun C => List.lookup C [(c.n_Hall, fun x ds ez μ => m_n_Hall_put c ((fun ds _ => ds) (x :: ds) ez) μ)]) (mvar 0) (mpos (mcons (mvar 1) (mcons (mC (.int 5)) mnil))))) (mdrop (mmth ("number" : Str) 1 0 (fun C => List.lookup C [(c.n_Hall, fun x ds ez μ => m_n_Hall_number c ((fun ds _ => ds) (x :: ds) ez) μ)]) (mvar 0) (mpos (mcons (mvar 1) mnil))))) (fun _ w => (masg (mC w) (gset 3))))
    (mret (mvar 3))))
def m_x__law_strange (c : Cl) : MF := runB 5 (t_x__law_strange c)
def t_n_law (c : Cl) : MS := (mseq (masg (mfn 2 0 (fun ds _ => ds) (m_x__law_source c) (mpos (mcons (mvar 0) (mcons (mC (.int 0)) mnil)))) (gset 1))
    (mseq (masg (mfn 2 0 (fun ds _ => ds) (m_x__law_names c) (mpos (mcons (mvar 1) (mcons (mfn 2 0 (fun ds _ => ds) (m_x__law_draw c) (mpos (mcons (mvar 1) (mcons (mC (.int 7)) mnil)))) mnil)))) (gset 2))
    (mseq (masg mdnew (gset 3))
    (mseq (mfor (miter (mvar 2)) (gset 4) (masg (mfn 1 0 (fun ds _ => ds) (m_x__law_number c) (mpos (mcons (mvar 1) mnil))) (gsub (mvar 3) (mvar 4))))
    (mseq (masg (mcall fDict (mcons (mvar 3) mnil)) (gset 5))
    (mseq (masg (mmk c.n_Hall 1 0 (fun ds _ => ds) (m_n_Halldd_initdd c) (mpos (mcons (mvar 5) mnil))) (gset 6))
    (mseq (mifS (mcmp cNeA (mvar 5) (mvar 3)) (mret (mC (.bl false))) mnx)
    (mseq (mdrop (mmeth tyDc fDClear (mvar 5) mnil))
    (mseq (mifS (mnot (masB (mfn 3 0 (fun ds _ => ds) (m_x__law_numbers_well c) (mpos (mcons (mvar 6) (mcons (mvar 3) (mcons (mvar 2) mnil))))))) (mret (mC (.bl false))) mnx)
    (mseq (mfor (mcall fRng2 (mcons (mC (.int 1)) (mcons (mcall fMax (mcons (mC (.int 7)) (mcons (mcall fMin (mcons (mcall fLen (mcons (mvar 0) mnil)) (mcons (mC (.int 63)) mnil))) mnil))) mnil))) (gset 7) (mseq (masg (mfn 2 0 (fun ds _ => ds) (m_x__law_source c) (mpos (mcons (mvar 0) (mcons (mvar 7) mnil)))) (gset 1))
    (mifS (mcmp cNeA (mvar 2) (mfz (mlst mnil))) (mseq (masg (mop fIx (mvar 2) (mfn 2 0 (fun ds _ => ds) (m_x__law_draw c) (mpos (mcons (mvar 1) (mcons (mcall fLen (mcons (mvar 2) mnil)) mnil))))) (gset 4))
    (mseq (masg (mfn 1 0 (fun ds _ => ds) (m_x__law_number c) (mpos (mcons (mvar 1) mnil))) (gset 8))
    (mseq (masg (mvar 8) (gsub (mvar 3) (mvar 4)))
    (mifS (mor (mcmp cIsNot (mmth ("put" : Str) 2 0 (fun C => List.lookup C [(c.n_Hall, fun x ds ez μ => m_n_Hall_put c ((fun ds _ => ds) (x :: ds) ez) μ)]) (mvar 6) (mpos (mcons (mvar 4) (mcons (mvar 8) mnil)))) (mC .non)) (mnot (masB (mfn 3 0 (fun ds _ => ds) (m_x__law_numbers_well c) (mpos (mcons (mvar 6) (mcons (mvar 3) (mcons (mvar 2) mnil)))))))) (mret (mC (.bl false))) mnx)))) mnx)))
    (mseq (mifS (mor (mcmp cNeA (mfn 3 0 (fun ds _ => ds) (m_x__law_strange c) (mpos (mcons (mvar 6) (mcons (mC (.str ("zzzzzzzz" : Str))) (mcons (mC (.bl true)) mnil))))) (mC (.str ("zzzzzzzz" : Str)))) (mcmp cNeA (mfn 3 0 (fun ds _ => ds) (m_x__law_strange c) (mpos (mcons (mvar 6) (mcons (mC (.str ("zzzzzzzz" : Str))) (mcons (mC (.bl false)) mnil))))) (mC (.str ("zzzzzzzz" : Str))))) (mret (mC (.bl false))) mnx)
    (mret (mfn 3 0 (fun ds _ => ds) (m_x__law_numbers_well c) (mpos (mcons (mvar 6) (mcons (mvar 3) (mcons (mfz (mrevL (mvar 2))) mnil)))))))))))))))))
def m_n_law (c : Cl) : MF := runB 9 (t_n_law c)
def d_x__law_source : He.DefD := ⟨("_law_source", none), "_law_source", "_law_source", defArgs s_x__law_source, defBody s_x__law_source, defScope s_x__law_source, [], []⟩
def d_x__law_draw : He.DefD := ⟨("_law_draw", none), "_law_draw", "_law_draw", defArgs s_x__law_draw, defBody s_x__law_draw, defScope s_x__law_draw, [], []⟩
def d_x__law_names : He.DefD := ⟨("_law_names", none), "_law_names", "_law_names", defArgs s_x__law_names, defBody s_x__law_names, defScope s_x__law_names, [], []⟩
def d_x__law_number : He.DefD := ⟨("_law_number", none), "_law_number", "_law_number", defArgs s_x__law_number, defBody s_x__law_number, defScope s_x__law_number, [], []⟩
def d_n_Halldd_initdd : He.DefD := ⟨("Hall", some "__init__"), "__init__", "Hall.__init__", defArgs s_n_Halldd_initdd, defBody s_n_Halldd_initdd, defScope s_n_Halldd_initdd, [], []⟩
def d_n_DozeErrordd_initdd : He.DefD := ⟨("DozeError", some "__init__"), "__init__", "DozeError.__init__", defArgs s_n_DozeErrordd_initdd, defBody s_n_DozeErrordd_initdd, defScope s_n_DozeErrordd_initdd, [], []⟩
def d_n_Hall_look_for : He.DefD := ⟨("Hall", some "look_for"), "look_for", "Hall.look_for", defArgs s_n_Hall_look_for, defBody s_n_Hall_look_for, defScope s_n_Hall_look_for, [], []⟩
def d_n_Hall_number : He.DefD := ⟨("Hall", some "number"), "number", "Hall.number", defArgs s_n_Hall_number, defBody s_n_Hall_number, defScope s_n_Hall_number, [], []⟩
def d_x__law_numbers_well : He.DefD := ⟨("_law_numbers_well", none), "_law_numbers_well", "_law_numbers_well", defArgs s_x__law_numbers_well, defBody s_x__law_numbers_well, defScope s_x__law_numbers_well, [], []⟩
def d_n_Hall_put : He.DefD := ⟨("Hall", some "put"), "put", "Hall.put", defArgs s_n_Hall_put, defBody s_n_Hall_put, defScope s_n_Hall_put, [], []⟩
def d_x__law_strange : He.DefD := ⟨("_law_strange", none), "_law_strange", "_law_strange", defArgs s_x__law_strange, defBody s_x__law_strange, defScope s_x__law_strange, [], []⟩
def d_n_law : He.DefD := ⟨("law", none), "law", "law", defArgs s_n_law, defBody s_n_law, defScope s_n_law, [], []⟩
def fn : List He.DefD := [d_x__law_source, d_x__law_draw, d_x__law_names, d_x__law_number, d_n_Halldd_initdd, d_n_DozeErrordd_initdd, d_n_Hall_look_for, d_n_Hall_number, d_x__law_numbers_well, d_n_Hall_put, d_x__law_strange, d_n_law]
def fa : List He.Fa := [.glo "law", .free "len", .glo "_law_source", .glo "_law_draw", .free "range", .glo "_law_names", .glo "_law_number", .free "dict", .noat "Hall" "numbers", .noat "Hall" "beds", .noat "Hall" "ranks", .noat "Hall" "endings", .noat "Hall" "clock", .noat "Hall" "turns", .noat "Hall" "begun", .noat "Hall" "entries", .glo "Hall", .mkr "Hall", .cls "Hall", .glo "NoRoom", .meth "Hall" "look_for", .meth "Hall" "number", .free "int", .free "isinstance", .free "bool", .free "all", .glo "_law_numbers_well", .free "min", .free "max", .meth "Hall" "put", .exm "NoRoom" "NoRoom" true, .glo "_law_strange", .free "list", .free "reversed"]
def xs : List Str := ["NoRoom"]
def cs : List Str := ["Hall", "NoRoom"]
section
variable {P : Program} {w : World} {K : PySem.W.Frag} {mg : Str → Option Value} {h : Heap}
theorem ex_n_NoRoom (KX : K.In h) (G : h.Ns mainGlobals mg) (cc : SaysX fa fn xs cs K) : ExTxt K (He.ga K "NoRoom") (He.fAd K ("DozeError", some "__init__")) := by
  obtain ⟨fd, F⟩ := cc.says.def_ 5 (d := d_n_DozeErrordd_initdd) rfl
  exact exB_ok (cc.exc 0 (x := "NoRoom") rfl) F
abbrev N_x__law_source : List Str := ["_law_script", "_law_k", "_law_cell", "_law_deep"]
theorem sc_x__law_source : FnScope N_x__law_source ["_law_script", "_law_k"] (defScope s_x__law_source) := ⟨rfl, rfl, rfl, by decide +kernel, rfl, by decide +kernel, by decide +kernel⟩
theorem ok_x__law_source (KX : K.In h) (G : h.Ns mainGlobals mg) (cc : SaysX fa fn xs cs K) : ∃ fd, (∀ base : Heap, FnOk P w K mg base (L2.CX P w) 2 (He.fAd K ("_law_source", none)) fd ["_law_script", "_law_k"] (spM K 2 (m_x__law_source (clOf K)))) ∧ PySem.W.keepIn K (.ref (He.fAd K ("_law_source", none))) = true ∧ Bd K fd ["_law_script", "_law_k"] 2 [] (fun ds _ => ds) := by
  obtain ⟨fd, F⟩ := cc.says.def_ 0 (d := d_x__law_source) rfl
  have f_n_len := He.free_ok KX G (cc.says.fact 1 (f := .free "len") rfl)
  refine ⟨fd, fun base => fn_ok F sc_x__law_source (fun cdv A outer s H E W hr tk po => ?_), F.kp, bd_all rfl (F.bindsN fun _ _ _ _ _ _ us hl => match us, hl with | [_, _], _ => rfl)⟩
  have hu := Hu.of (X := cxOf (L2.CX P w) P w K mg base N_x__law_source "_law_source" (defScope s_x__law_source) (He.fAd K ("_law_source", none)) cdv A outer s H E) hr
  have pw := pw_takes tk
  have nd := sc_x__law_source.nd
  exact (rss_cons (rs_set 2 nd re_int)
    (rss_cons (rs_set 3 nd re_int)
    (rss_cons (rs_if (rt_cmp op_gt cm_gt (re_callB call_lenU cf_len f_n_len PySem.boot_len (ra_cons (re_var 0) ra_nil)) re_int) (rss_one (rs_set 2 nd (re_ix hu (re_var 0) (re_mod (re_var 1) (re_callB call_lenU cf_len f_n_len PySem.boot_len (ra_cons (re_var 0) ra_nil)))))) rss_nil)
    (rss_cons (rs_if (RW.rt (rw_and (rt_cmp op_lt cm_lt (re_var 1) (re_callB call_lenU cf_len f_n_len PySem.boot_len (ra_cons (re_var 0) ra_nil))) (rw_and1 (rt_cmp op_ge cm_ge (re_var 2) (re_pow re_int re_int))))) (rss_one (rs_set 3 nd (re_var 2))) rss_nil)
    (rss_one (rs_ret (re_lc (rn_lst (ra_cons (re_var 3) (ra_cons (re_add (re_add (re_mod (re_var 2) re_int) (re_mul re_int (re_var 1))) re_int) (ra_cons re_int ra_nil)))))))))))
abbrev N_x__law_draw : List Str := ["_law_source_here", "_law_many", "_law_seed", "_law_digit"]
theorem sc_x__law_draw : FnScope N_x__law_draw ["_law_source_here", "_law_many"] (defScope s_x__law_draw) := ⟨rfl, rfl, rfl, by decide +kernel, rfl, by decide +kernel, by decide +kernel⟩
theorem ok_x__law_draw (KX : K.In h) (G : h.Ns mainGlobals mg) (cc : SaysX fa fn xs cs K) : ∃ fd, (∀ base : Heap, FnOk P w K mg base (L2.CX P w) 2 (He.fAd K ("_law_draw", none)) fd ["_law_source_here", "_law_many"] (spM K 2 (m_x__law_draw (clOf K)))) ∧ PySem.W.keepIn K (.ref (He.fAd K ("_law_draw", none))) = true ∧ Bd K fd ["_law_source_here", "_law_many"] 2 [] (fun ds _ => ds) := by
  obtain ⟨fd, F⟩ := cc.says.def_ 1 (d := d_x__law_draw) rfl
  refine ⟨fd, fun base => fn_ok F sc_x__law_draw (fun cdv A outer s H E W hr tk po => ?_), F.kp, bd_all rfl (F.bindsN fun _ _ _ _ _ _ us hl => match us, hl with | [_, _], _ => rfl)⟩
  have hu := Hu.of (X := cxOf (L2.CX P w) P w K mg base N_x__law_draw "_law_draw" (defScope s_x__law_draw) (He.fAd K ("_law_draw", none)) cdv A outer s H E) hr
  have pw := pw_takes tk
  have nd := sc_x__law_draw.nd
  exact (rss_cons (rs_asg (re_add (re_ix hu (re_var 0) re_int) re_int) (rg_sub hu (re_var 0) re_int))
    (rss_cons (rs_if (rt_cmp op_gt cm_gt (re_ix hu (re_var 0) re_int) re_int) (rss_cons (rs_set 3 nd (re_mod (re_ix hu (re_var 0) re_int) (re_var 1)))
    (rss_cons (rs_asg (re_div (re_ix hu (re_var 0) re_int) (re_var 1)) (rg_sub hu (re_var 0) re_int))
    (rss_one (rs_ret (re_var 3))))) rss_nil)
    (rss_cons (rs_set 2 nd (re_mod (re_pow (re_add (re_ix hu (re_var 0) re_int) (re_mul re_int (re_ix hu (re_var 0) re_int))) re_int) re_int))
    (rss_one (rs_ret (re_mod (re_div (re_mod (re_mul (re_add (re_var 2) (re_ix hu (re_var 0) re_int)) re_int) re_int) re_int) (re_var 1)))))))
abbrev N_x__law_names : List Str := ["_law_source_here", "_law_many", "_law_letters", "_law_made", "_law_body", "_law_alike", "_law_k", "_law_at", "_law_first", "_law_found", "_law_j", "_law_word"]
theorem sc_x__law_names : FnScope N_x__law_names ["_law_source_here", "_law_many"] (defScope s_x__law_names) := ⟨rfl, rfl, rfl, by decide +kernel, rfl, by decide +kernel, by decide +kernel⟩
theorem ok_x__law_names (KX : K.In h) (G : h.Ns mainGlobals mg) (cc : SaysX fa fn xs cs K) : ∃ fd, (∀ base : Heap, FnOk P w K mg base (L2.CX P w) 3 (He.fAd K ("_law_names", none)) fd ["_law_source_here", "_law_many"] (spM K 2 (m_x__law_names (clOf K)))) ∧ PySem.W.keepIn K (.ref (He.fAd K ("_law_names", none))) = true ∧ Bd K fd ["_law_source_here", "_law_many"] 2 [] (fun ds _ => ds) := by
  obtain ⟨fd, F⟩ := cc.says.def_ 2 (d := d_x__law_names) rfl
  obtain ⟨fd_x__law_draw, F_x__law_draw, kp_x__law_draw, b_x__law_draw_0⟩ := ok_x__law_draw (P := P) (w := w) KX G cc
  have g_x__law_draw := He.glo_ok KX G (cc.says.fact 3 (f := .glo "_law_draw") rfl)
  have f_n_range := He.free_ok KX G (cc.says.fact 4 (f := .free "range") rfl)
  have f_n_len := He.free_ok KX G (cc.says.fact 1 (f := .free "len") rfl)
  refine ⟨fd, fun base => fn_ok F sc_x__law_names (fun cdv A outer s H E W hr tk po => ?_), F.kp, bd_all rfl (F.bindsN fun _ _ _ _ _ _ us hl => match us, hl with | [_, _], _ => rfl)⟩
  have hu := Hu.of (X := cxOf (L2.CX P w) P w K mg base N_x__law_names "_law_names" (defScope s_x__law_names) (He.fAd K ("_law_names", none)) cdv A outer s H E) hr
  have pw := pw_takes tk
  have nd := sc_x__law_names.nd
  exact (rss_cons (rs_set 2 nd re_str)
    (rss_cons (rs_set 3 nd (re_lc (rn_lst ra_nil)))
    (rss_cons (rs_set 4 nd re_str)
    (rss_cons (rs_set 5 nd (re_cmp (op_eqA hu) cm_eqA (re_call (ks := []) (F_x__law_draw base) (hr.mono (by decide : 2 ≤ 2)) g_x__law_draw kp_x__law_draw b_x__law_draw_0 pw (rc_pos (ra_cons (re_var 0) (ra_cons re_int ra_nil)))) re_int))
    (rss_cons (rs_for po rfl (ri_range1 f_n_range (ra_cons (re_var 1) ra_nil)) (rg_name 6 nd) (rss_cons (rs_if (RW.rt (rw_or (rt_not (rt_val (re_var 5))) (rw_or1 (rt_cmp (op_eqA hu) cm_eqA (re_var 6) re_int)))) (rss_one (rs_set 4 nd (re_bm PySem.F.plainAttrs_str PySem.F.slot_str_join PySem.F.type_str_join mt_join tyOk_S mf_join re_str (ra_cons (re_fz (rn_lc (own := [("_law_j", 10)]) rfl nd (ri_range1 f_n_range (ra_cons (re_call (ks := []) (F_x__law_draw base) (hr.mono (by decide : 2 ≤ 2)) g_x__law_draw kp_x__law_draw b_x__law_draw_0 pw (rc_pos (ra_cons (re_var 0) (ra_cons re_int ra_nil)))) ra_nil)) (blkOk_by (N := N_x__law_names) (sc := defScope s_x__law_names) (by decide +kernel)) (rgc_name 10 nd) (fun _ _ _ _ _ => rts_nil) (fun _ _ _ _ _ => (re_ix hu (re_var 2) (re_call (ks := []) (F_x__law_draw base) (hr.mono (by decide : 2 ≤ 2)) g_x__law_draw kp_x__law_draw b_x__law_draw_0 pw_false (rc_pos (ra_cons (re_var 0) (ra_cons re_int ra_nil)))))))) ra_nil)))) rss_nil)
    (rss_cons (rs_set 7 nd (re_call (ks := []) (F_x__law_draw base) (hr.mono (by decide : 2 ≤ 2)) g_x__law_draw kp_x__law_draw b_x__law_draw_0 pw (rc_pos (ra_cons (re_var 0) (ra_cons (re_add (re_callB call_lenU cf_len f_n_len PySem.boot_len (ra_cons (re_var 4) ra_nil)) re_int) ra_nil)))))
    (rss_cons (rs_set 8 nd (re_call (ks := []) (F_x__law_draw base) (hr.mono (by decide : 2 ≤ 2)) g_x__law_draw kp_x__law_draw b_x__law_draw_0 pw (rc_pos (ra_cons (re_var 0) (ra_cons re_int ra_nil)))))
    (rss_cons (rs_set 9 nd re_str)
    (rss_cons (rs_for po rfl (ri_range1 f_n_range (ra_cons re_int ra_nil)) (rg_name 10 nd) (rss_cons (rs_set 11 nd (re_add (re_add (re_slice (re_var 4) ro_none (ro_some (re_var 7))) (re_ix hu (re_var 2) (re_mod (re_add (re_var 8) (re_var 10)) re_int))) (re_slice (re_var 4) (ro_some (re_var 7)) ro_none)))
    (rss_one (rs_if (RW.rt (rw_and (rt_cmp (op_eqA hu) cm_eqA (re_var 9) re_str) (rw_and1 (rt_cmp (op_notInU hu) cm_notIn (re_var 11) (re_var 3))))) (rss_one (rs_set 9 nd (re_var 11))) rss_nil))))
    (rss_one (rs_expr (re_bm PySem.F.plainAttrs_list PySem.F.slot_list_append PySem.F.type_list_append (mt_append) tyOk_L mf_append (re_var 3) (ra_cons (re_var 9) ra_nil))))))))))
    (rss_one (rs_retFz (re_var 3))))))))
abbrev N_x__law_number : List Str := ["_law_source_here", "_law_way"]
theorem sc_x__law_number : FnScope N_x__law_number ["_law_source_here"] (defScope s_x__law_number) := ⟨rfl, rfl, rfl, by decide +kernel, rfl, by decide +kernel, by decide +kernel⟩
theorem ok_x__law_number (KX : K.In h) (G : h.Ns mainGlobals mg) (cc : SaysX fa fn xs cs K) : ∃ fd, (∀ base : Heap, FnOk P w K mg base (L2.CX P w) 3 (He.fAd K ("_law_number", none)) fd ["_law_source_here"] (spM K 1 (m_x__law_number (clOf K)))) ∧ PySem.W.keepIn K (.ref (He.fAd K ("_law_number", none))) = true ∧ Bd K fd ["_law_source_here"] 1 [] (fun ds _ => ds) := by
  obtain ⟨fd, F⟩ := cc.says.def_ 3 (d := d_x__law_number) rfl
  obtain ⟨fd_x__law_draw, F_x__law_draw, kp_x__law_draw, b_x__law_draw_0⟩ := ok_x__law_draw (P := P) (w := w) KX G cc
  have g_x__law_draw := He.glo_ok KX G (cc.says.fact 3 (f := .glo "_law_draw") rfl)
  refine ⟨fd, fun base => fn_ok F sc_x__law_number (fun cdv A outer s H E W hr tk po => ?_), F.kp, bd_all rfl (F.bindsN fun _ _ _ _ _ _ us hl => match us, hl with | [_], _ => rfl)⟩
  have hu := Hu.of (X := cxOf (L2.CX P w) P w K mg base N_x__law_number "_law_number" (defScope s_x__law_number) (He.fAd K ("_law_number", none)) cdv A outer s H E) hr
  have pw := pw_takes tk
  have nd := sc_x__law_number.nd
  exact (rss_cons (rs_set 1 nd (re_call (ks := []) (F_x__law_draw base) (hr.mono (by decide : 2 ≤ 2)) g_x__law_draw kp_x__law_draw b_x__law_draw_0 pw (rc_pos (ra_cons (re_var 0) (ra_cons re_int ra_nil)))))
    (rss_cons (rs_if (rt_cmp (op_eqA hu) cm_eqA (re_var 1) re_int) (rss_one (rs_ret (re_call (ks := []) (F_x__law_draw base) (hr.mono (by decide : 2 ≤ 2)) g_x__law_draw kp_x__law_draw b_x__law_draw_0 pw (rc_pos (ra_cons (re_var 0) (ra_cons (re_pow re_int re_int) ra_nil)))))) rss_nil)
    (rss_cons (rs_if (rt_cmp (op_eqA hu) cm_eqA (re_var 1) re_int) (rss_one (rs_ret (re_sub re_int (re_call (ks := []) (F_x__law_draw base) (hr.mono (by decide : 2 ≤ 2)) g_x__law_draw kp_x__law_draw b_x__law_draw_0 pw (rc_pos (ra_cons (re_var 0) (ra_cons (re_pow re_int re_int) ra_nil))))))) rss_nil)
    (rss_one (rs_ret (re_sub (re_call (ks := []) (F_x__law_draw base) (hr.mono (by decide : 2 ≤ 2)) g_x__law_draw kp_x__law_draw b_x__law_draw_0 pw (rc_pos (ra_cons (re_var 0) (ra_cons re_int ra_nil)))) re_int))))))
abbrev N_n_Halldd_initdd : List Str := ["self", "rooms"]
theorem sc_n_Halldd_initdd : FnScope N_n_Halldd_initdd ["self", "rooms"] (defScope s_n_Halldd_initdd) := ⟨rfl, rfl, rfl, by decide +kernel, rfl, by decide +kernel, by decide +kernel⟩
theorem ok_n_Halldd_initdd (KX : K.In h) (G : h.Ns mainGlobals mg) (cc : SaysX fa fn xs cs K) : ∃ fd, (∀ base : Heap, FnOk P w K mg base (L2.CX P w) 2 (He.fAd K ("Hall", some "__init__")) fd ["self", "rooms"] (spM K 2 (m_n_Halldd_initdd (clOf K)))) ∧ PySem.W.keepIn K (.ref (He.fAd K ("Hall", some "__init__"))) = true ∧ Bd K fd ["self", "rooms"] 2 [] (fun ds _ => ds) := by
  obtain ⟨fd, F⟩ := cc.says.def_ 4 (d := d_n_Halldd_initdd) rfl
  have f_n_dict := He.free_ok KX G (cc.says.fact 7 (f := .free "dict") rfl)
  have n_n_Hall_n_numbers := He.noat_ok (cc.says.fact 8 (f := .noat "Hall" "numbers") rfl)
  have n_n_Hall_n_beds := He.noat_ok (cc.says.fact 9 (f := .noat "Hall" "beds") rfl)
  have n_n_Hall_n_ranks := He.noat_ok (cc.says.fact 10 (f := .noat "Hall" "ranks") rfl)
  have n_n_Hall_n_endings := He.noat_ok (cc.says.fact 11 (f := .noat "Hall" "endings") rfl)
  have n_n_Hall_n_clock := He.noat_ok (cc.says.fact 12 (f := .noat "Hall" "clock") rfl)
  have n_n_Hall_n_turns := He.noat_ok (cc.says.fact 13 (f := .noat "Hall" "turns") rfl)
  have n_n_Hall_n_begun := He.noat_ok (cc.says.fact 14 (f := .noat "Hall" "begun") rfl)
  have n_n_Hall_n_entries := He.noat_ok (cc.says.fact 15 (f := .noat "Hall" "entries") rfl)
  refine ⟨fd, fun base => fn_ok F sc_n_Halldd_initdd (fun cdv A outer s H E W hr tk po => ?_), F.kp, bd_all rfl (F.bindsN fun _ _ _ _ _ _ us hl => match us, hl with | [_, _], _ => rfl)⟩
  have hu := Hu.of (X := cxOf (L2.CX P w) P w K mg base N_n_Halldd_initdd "Hall.__init__" (defScope s_n_Halldd_initdd) (He.fAd K ("Hall", some "__init__")) cdv A outer s H E) hr
  have pw := pw_takes tk
  have nd := sc_n_Halldd_initdd.nd
  exact (rss_cons (rs_asg (re_callT call_dictD cf_dict f_n_dict PyProof.Rows.boot_dict (ra_cons (re_var 1) ra_nil)) (rg_fld [(clOf K).n_Hall] (na_cons n_n_Hall_n_numbers na_nil) (re_var 0)))
    (rss_cons (rs_asg re_dnew (rg_fld [(clOf K).n_Hall] (na_cons n_n_Hall_n_beds na_nil) (re_var 0)))
    (rss_cons (rs_asg re_dnew (rg_fld [(clOf K).n_Hall] (na_cons n_n_Hall_n_ranks na_nil) (re_var 0)))
    (rss_cons (rs_asg re_dnew (rg_fld [(clOf K).n_Hall] (na_cons n_n_Hall_n_endings na_nil) (re_var 0)))
    (rss_cons (rs_asg3 re_int (rg_fld [(clOf K).n_Hall] (na_cons n_n_Hall_n_clock na_nil) (re_var 0)) (rg_fld [(clOf K).n_Hall] (na_cons n_n_Hall_n_turns na_nil) (re_var 0)) (rg_fld [(clOf K).n_Hall] (na_cons n_n_Hall_n_begun na_nil) (re_var 0)))
    (rss_one (rs_asg (re_lc (rn_lst ra_nil)) (rg_fld [(clOf K).n_Hall] (na_cons n_n_Hall_n_entries na_nil) (re_var 0)))))))))
abbrev N_n_Hall_look_for : List Str := ["self", "room"]
theorem sc_n_Hall_look_for : FnScope N_n_Hall_look_for ["self", "room"] (defScope s_n_Hall_look_for) := ⟨rfl, rfl, rfl, by decide +kernel, rfl, by decide +kernel, by decide +kernel⟩
theorem ok_n_Hall_look_for (KX : K.In h) (G : h.Ns mainGlobals mg) (cc : SaysX fa fn xs cs K) : ∃ fd, (∀ base : Heap, FnOk P w K mg base (L2.CX P w) 2 (He.fAd K ("Hall", some "look_for")) fd ["self", "room"] (spM K 2 (m_n_Hall_look_for (clOf K)))) ∧ PySem.W.keepIn K (.ref (He.fAd K ("Hall", some "look_for"))) = true ∧ Bd K fd ["self", "room"] 2 [] (fun ds _ => ds) := by
  obtain ⟨fd, F⟩ := cc.says.def_ 6 (d := d_n_Hall_look_for) rfl
  have x_n_NoRoom := ex_n_NoRoom KX G cc
  have g_n_NoRoom := He.glo_ok KX G (cc.says.fact 19 (f := .glo "NoRoom") rfl)
  refine ⟨fd, fun base => fn_ok F sc_n_Hall_look_for (fun cdv A outer s H E W hr tk po => ?_), F.kp, bd_all rfl (F.bindsN fun _ _ _ _ _ _ us hl => match us, hl with | [_, _], _ => rfl)⟩
  have hu := Hu.of (X := cxOf (L2.CX P w) P w K mg base N_n_Hall_look_for "Hall.look_for" (defScope s_n_Hall_look_for) (He.fAd K ("Hall", some "look_for")) cdv A outer s H E) hr
  have pw := pw_takes tk
  have nd := sc_n_Hall_look_for.nd
  exact (rss_one (rs_if (rt_cmp (op_notInU hu) cm_notIn (re_var 1) (re_fld (re_var 0))) (rss_one (rs_raise rfl x_n_NoRoom g_n_NoRoom hr tk (ra_cons (re_var 1) ra_nil))) rss_nil))
abbrev N_n_Hall_number : List Str := ["self", "room"]
theorem sc_n_Hall_number : FnScope N_n_Hall_number ["self", "room"] (defScope s_n_Hall_number) := ⟨rfl, rfl, rfl, by decide +kernel, rfl, by decide +kernel, by decide +kernel⟩
theorem ok_n_Hall_number (KX : K.In h) (G : h.Ns mainGlobals mg) (cc : SaysX fa fn xs cs K) : ∃ fd, (∀ base : Heap, FnOk P w K mg base (L2.CX P w) 3 (He.fAd K ("Hall", some "number")) fd ["self", "room"] (spM K 2 (m_n_Hall_number (clOf K)))) ∧ PySem.W.keepIn K (.ref (He.fAd K ("Hall", some "number"))) = true ∧ Bd K fd ["self", "room"] 2 [] (fun ds _ => ds) := by
  obtain ⟨fd, F⟩ := cc.says.def_ 7 (d := d_n_Hall_number) rfl
  obtain ⟨fd_n_Hall_look_for, F_n_Hall_look_for, kp_n_Hall_look_for, b_n_Hall_look_for_0⟩ := ok_n_Hall_look_for (P := P) (w := w) KX G cc
  have c_n_Hall := He.cls_ok (cc.says.fact 18 (f := .cls "Hall") rfl)
  have m_n_Hall_n_look_for := He.meth_ok (cc.says.fact 20 (f := .meth "Hall" "look_for") rfl)
  refine ⟨fd, fun base => fn_ok F sc_n_Hall_number (fun cdv A outer s H E W hr tk po => ?_), F.kp, bd_all rfl (F.bindsN fun _ _ _ _ _ _ us hl => match us, hl with | [_, _], _ => rfl)⟩
  have hu := Hu.of (X := cxOf (L2.CX P w) P w K mg base N_n_Hall_number "Hall.number" (defScope s_n_Hall_number) (He.fAd K ("Hall", some "number")) cdv A outer s H E) hr
  have pw := pw_takes tk
  have nd := sc_n_Hall_number.nd
  exact (rss_cons (rs_expr (re_meth (ks := []) (re_var 0) (mt_of (mt_cons (mok (m := m_n_Hall_look_for (clOf K)) (gD := (fun ds _ => ds)) c_n_Hall m_n_Hall_n_look_for (F_n_Hall_look_for base) hr (by decide : 2 ≤ 2) b_n_Hall_look_for_0) mt_nil)) pw (rc_pos (ra_cons (re_var 1) ra_nil))))
    (rss_one (rs_ret (re_ix hu (re_fld (re_var 0)) (re_var 1)))))
abbrev N_x__law_numbers_well : List Str := ["_law_made", "_law_rooms", "_law_names_here", "_law_told", "_law_name", "_law_number_here"]
theorem sc_x__law_numbers_well : FnScope N_x__law_numbers_well ["_law_made", "_law_rooms", "_law_names_here"] (defScope s_x__law_numbers_well) := ⟨rfl, rfl, rfl, by decide +kernel, rfl, by decide +kernel, by decide +kernel⟩
theorem ok_x__law_numbers_well (KX : K.In h) (G : h.Ns mainGlobals mg) (cc : SaysX fa fn xs cs K) : ∃ fd, (∀ base : Heap, FnOk P w K mg base (L2.CX P w) 4 (He.fAd K ("_law_numbers_well", none)) fd ["_law_made", "_law_rooms", "_law_names_here"] (spM K 3 (m_x__law_numbers_well (clOf K)))) ∧ PySem.W.keepIn K (.ref (He.fAd K ("_law_numbers_well", none))) = true ∧ Bd K fd ["_law_made", "_law_rooms", "_law_names_here"] 3 [] (fun ds _ => ds) := by
  obtain ⟨fd, F⟩ := cc.says.def_ 8 (d := d_x__law_numbers_well) rfl
  obtain ⟨fd_n_Hall_number, F_n_Hall_number, kp_n_Hall_number, b_n_Hall_number_0⟩ := ok_n_Hall_number (P := P) (w := w) KX G cc
  have c_n_Hall := He.cls_ok (cc.says.fact 18 (f := .cls "Hall") rfl)
  have m_n_Hall_n_number := He.meth_ok (cc.says.fact 21 (f := .meth "Hall" "number") rfl)
  have f_n_int := He.free_ok KX G (cc.says.fact 22 (f := .free "int") rfl)
  have f_n_isinstance := He.free_ok KX G (cc.says.fact 23 (f := .free "isinstance") rfl)
  have f_n_bool := He.free_ok KX G (cc.says.fact 24 (f := .free "bool") rfl)
  have f_n_all := He.free_ok KX G (cc.says.fact 25 (f := .free "all") rfl)
  refine ⟨fd, fun base => fn_ok F sc_x__law_numbers_well (fun cdv A outer s H E W hr tk po => ?_), F.kp, bd_all rfl (F.bindsN fun _ _ _ _ _ _ us hl => match us, hl with | [_, _, _], _ => rfl)⟩
  have hu := Hu.of (X := cxOf (L2.CX P w) P w K mg base N_x__law_numbers_well "_law_numbers_well" (defScope s_x__law_numbers_well) (He.fAd K ("_law_numbers_well", none)) cdv A outer s H E) hr
  have pw := pw_takes tk
  have nd := sc_x__law_numbers_well.nd
  exact (rss_cons (rs_setLcF (i := 3) (own := [("_law_name", 4)]) rfl nd (ri_seq (re_var 2)) (blkOk_by (N := N_x__law_numbers_well) (sc := defScope s_x__law_numbers_well) (by decide +kernel)) (rgc_name 4 nd) (fun _ _ _ _ _ => rts_nil) (fun _ _ _ _ _ => (re_meth (ks := []) (re_var 0) (mt_of (mt_cons (mok (m := m_n_Hall_number (clOf K)) (gD := (fun ds _ => ds)) c_n_Hall m_n_Hall_n_number (F_n_Hall_number base) hr (by decide : 3 ≤ 3) b_n_Hall_number_0) mt_nil)) pw_false (rc_pos (ra_cons (re_var 4) ra_nil)))))
    (rss_cons (rs_if (rt_not (rt_val (re_callB (cr_all rfl) cf_all f_n_all PyProof.Rows.boot_all (ra_cons (re_fz (rn_lc (own := [("_law_number_here", 5)]) rfl nd (ri_seq (re_var 3)) (blkOk_by (N := N_x__law_numbers_well) (sc := defScope s_x__law_numbers_well) (by decide +kernel)) (rgc_name 5 nd) (fun _ _ _ _ _ => rts_nil) (fun _ _ _ _ _ => (re_and (re_callB call_isi cf_isi f_n_isinstance PyProof.Rows.boot_isinstance (ra_cons (re_var 5) (ra_cons (re_bltT f_n_int PyProof.Rows.boot_int) ra_nil))) (re_one (re_not (re_callB call_isi cf_isi f_n_isinstance PyProof.Rows.boot_isinstance (ra_cons (re_var 5) (ra_cons (re_bltT f_n_bool PyProof.Rows.boot_bool) ra_nil))))))))) ra_nil)))) (rss_one (rs_ret re_bl)) rss_nil)
    (rss_one (rs_ret (re_cmp (op_eqA hu) cm_eqA (re_var 3) (re_fz (rn_lc (own := [("_law_name", 4)]) rfl nd (ri_seq (re_var 2)) (blkOk_by (N := N_x__law_numbers_well) (sc := defScope s_x__law_numbers_well) (by decide +kernel)) (rgc_name 4 nd) (fun _ _ _ _ _ => rts_nil) (fun _ _ _ _ _ => (re_ix hu (re_var 1) (re_var 4))))))))))
abbrev N_n_Hall_put : List Str := ["self", "room", "number"]
theorem sc_n_Hall_put : FnScope N_n_Hall_put ["self", "room", "number"] (defScope s_n_Hall_put) := ⟨rfl, rfl, rfl, by decide +kernel, rfl, by decide +kernel, by decide +kernel⟩
theorem ok_n_Hall_put (KX : K.In h) (G : h.Ns mainGlobals mg) (cc : SaysX fa fn xs cs K) : ∃ fd, (∀ base : Heap, FnOk P w K mg base (L2.CX P w) 3 (He.fAd K ("Hall", some "put")) fd ["self", "room", "number"] (spM K 3 (m_n_Hall_put (clOf K)))) ∧ PySem.W.keepIn K (.ref (He.fAd K ("Hall", some "put"))) = true ∧ Bd K fd ["self", "room", "number"] 3 [] (fun ds _ => ds) := by
  obtain ⟨fd, F⟩ := cc.says.def_ 9 (d := d_n_Hall_put) rfl
  obtain ⟨fd_n_Hall_look_for, F_n_Hall_look_for, kp_n_Hall_look_for, b_n_Hall_look_for_0⟩ := ok_n_Hall_look_for (P := P) (w := w) KX G cc
  have c_n_Hall := He.cls_ok (cc.says.fact 18 (f := .cls "Hall") rfl)
  have m_n_Hall_n_look_for := He.meth_ok (cc.says.fact 20 (f := .meth "Hall" "look_for") rfl)
  refine ⟨fd, fun base => fn_ok F sc_n_Hall_put (fun cdv A outer s H E W hr tk po => ?_), F.kp, bd_all rfl (F.bindsN fun _ _ _ _ _ _ us hl => match us, hl with | [_, _, _], _ => rfl)⟩
  have hu := Hu.of (X := cxOf (L2.CX P w) P w K mg base N_n_Hall_put "Hall.put" (defScope s_n_Hall_put) (He.fAd K ("Hall", some "put")) cdv A outer s H E) hr
  have pw := pw_takes tk
  have nd := sc_n_Hall_put.nd
  exact (rss_cons (rs_expr (re_meth (ks := []) (re_var 0) (mt_of (mt_cons (mok (m := m_n_Hall_look_for (clOf K)) (gD := (fun ds _ => ds)) c_n_Hall m_n_Hall_n_look_for (F_n_Hall_look_for base) hr (by decide : 2 ≤ 2) b_n_Hall_look_for_0) mt_nil)) pw (rc_pos (ra_cons (re_var 1) ra_nil))))
    (rss_cons (rs_asg (re_var 2) (rg_sub hu (re_fld (re_var 0)) (re_var 1)))
    (rss_one (rs_expr (re_bm PySem.F.plainAttrs_list PySem.F.slot_list_append PySem.F.type_list_append (mt_append) tyOk_L mf_append (re_fld (re_var 0)) (ra_cons (re_tup (ra_cons re_str (ra_cons (re_var 1) (ra_cons (re_var 2) ra_nil)))) ra_nil))))))
abbrev N_x__law_strange : List Str := ["_law_made", "_law_word", "_law_putting", "_law_found", "e"]
theorem sc_x__law_strange : FnScope N_x__law_strange ["_law_made", "_law_word", "_law_putting"] (defScope s_x__law_strange) := ⟨rfl, rfl, rfl, by decide +kernel, rfl, by decide +kernel, by decide +kernel⟩
theorem ok_x__law_strange (KX : K.In h) (G : h.Ns mainGlobals mg) (cc : SaysX fa fn xs cs K) : ∃ fd, (∀ base : Heap, FnOk P w K mg base (L2.CX P w) 4 (He.fAd K ("_law_strange", none)) fd ["_law_made", "_law_word", "_law_putting"] (spM K 3 (m_x__law_strange (clOf K)))) ∧ PySem.W.keepIn K (.ref (He.fAd K ("_law_strange", none))) = true ∧ Bd K fd ["_law_made", "_law_word", "_law_putting"] 3 [] (fun ds _ => ds) := by
  obtain ⟨fd, F⟩ := cc.says.def_ 10 (d := d_x__law_strange) rfl
  obtain ⟨fd_n_Hall_put, F_n_Hall_put, kp_n_Hall_put, b_n_Hall_put_0⟩ := ok_n_Hall_put (P := P) (w := w) KX G cc
  obtain ⟨fd_n_Hall_number, F_n_Hall_number, kp_n_Hall_number, b_n_Hall_number_0⟩ := ok_n_Hall_number (P := P) (w := w) KX G cc
  have e_n_NoRoom_n_NoRoom := He.exm_ok (cc.says.fact 30 (f := .exm "NoRoom" "NoRoom" true) rfl)
  have x_n_NoRoom := ex_n_NoRoom KX G cc
  have g_n_NoRoom := He.glo_ok KX G (cc.says.fact 19 (f := .glo "NoRoom") rfl)
  have c_n_Hall := He.cls_ok (cc.says.fact 18 (f := .cls "Hall") rfl)
  have m_n_Hall_n_put := He.meth_ok (cc.says.fact 29 (f := .meth "Hall" "put") rfl)
  have m_n_Hall_n_number := He.meth_ok (cc.says.fact 21 (f := .meth "Hall" "number") rfl)
  refine ⟨fd, fun base => fn_ok F sc_x__law_strange (fun cdv A outer s H E W hr tk po => ?_), F.kp, bd_all rfl (F.bindsN fun _ _ _ _ _ _ us hl => match us, hl with | [_, _, _], _ => rfl)⟩
  have hu := Hu.of (X := cxOf (L2.CX P w) P w K mg base N_x__law_strange "_law_strange" (defScope s_x__law_strange) (He.fAd K ("_law_strange", none)) cdv A outer s H E) hr
  have pw := pw_takes tk
  have nd := sc_x__law_strange.nd
  exact (rss_cons (rs_set 3 nd re_non)
    (rss_cons (rs_try 4 rfl rfl nd ⟨rfl, by decide, .inl g_n_NoRoom⟩ tk (ex_of (et_cons e_n_NoRoom_n_NoRoom et_nil)) (fun _ _ _ tk2 po2 => (rss_one (rs_if (rt_val (re_var 2)) (rss_one (rs_expr (re_meth (ks := []) (re_var 0) (mt_of (mt_cons (mok (m := m_n_Hall_put (clOf K)) (gD := (fun ds _ => ds)) c_n_Hall m_n_Hall_n_put (F_n_Hall_put base) hr (by decide : 3 ≤ 3) b_n_Hall_put_0) mt_nil)) (pw_takes tk2) (rc_pos (ra_cons (re_var 1) (ra_cons re_int ra_nil)))))) (rss_one (rs_expr (re_meth (ks := []) (re_var 0) (mt_of (mt_cons (mok (m := m_n_Hall_number (clOf K)) (gD := (fun ds _ => ds)) c_n_Hall m_n_Hall_n_number (F_n_Hall_number base) hr (by decide : 3 ≤ 3) b_n_Hall_number_0) mt_nil)) (pw_takes tk2) (rc_pos (ra_cons (re_var 1) ra_nil)))))))) (fun _ _ _ _ w _ ht hz hv => have T := xt_of (xt_cons x_n_NoRoom xt_nil) ht; (rss_one (rs_set 3 nd (re_what T hz hv)))))
    (rss_one (rs_ret (re_var 3)))))
abbrev N_n_law : List Str := ["_law_script", "_law_source_here", "_law_names_here", "_law_rooms", "_law_name", "_law_handed", "_law_made", "_law_k", "_law_number_here"]
theorem sc_n_law : FnScope N_n_law ["_law_script"] (defScope s_n_law) := ⟨rfl, rfl, rfl, by decide +kernel, rfl, by decide +kernel, by decide +kernel⟩
theorem ok_n_law (KX : K.In h) (G : h.Ns mainGlobals mg) (cc : SaysX fa fn xs cs K) : ∃ fd, (∀ base : Heap, FnOk P w K mg base (L2.CX P w) 5 (He.fAd K ("law", none)) fd ["_law_script"] (spM K 1 (m_n_law (clOf K)))) ∧ PySem.W.keepIn K (.ref (He.fAd K ("law", none))) = true ∧ ∀ (s : Shared) (v : Value), BindsTo s fd ⟨[v], []⟩ [("_law_script", v)] := by
  obtain ⟨fd, F⟩ := cc.says.def_ 11 (d := d_n_law) rfl
  obtain ⟨fd_x__law_source, F_x__law_source, kp_x__law_source, b_x__law_source_0⟩ := ok_x__law_source (P := P) (w := w) KX G cc
  obtain ⟨fd_x__law_names, F_x__law_names, kp_x__law_names, b_x__law_names_0⟩ := ok_x__law_names (P := P) (w := w) KX G cc
  obtain ⟨fd_x__law_draw, F_x__law_draw, kp_x__law_draw, b_x__law_draw_0⟩ := ok_x__law_draw (P := P) (w := w) KX G cc
  obtain ⟨fd_x__law_number, F_x__law_number, kp_x__law_number, b_x__law_number_0⟩ := ok_x__law_number (P := P) (w := w) KX G cc
  obtain ⟨fd_n_Halldd_initdd, F_n_Halldd_initdd, kp_n_Halldd_initdd, b_n_Halldd_initdd_0⟩ := ok_n_Halldd_initdd (P := P) (w := w) KX G cc
  obtain ⟨fd_x__law_numbers_well, F_x__law_numbers_well, kp_x__law_numbers_well, b_x__law_numbers_well_0⟩ := ok_x__law_numbers_well (P := P) (w := w) KX G cc
  obtain ⟨fd_n_Hall_put, F_n_Hall_put, kp_n_Hall_put, b_n_Hall_put_0⟩ := ok_n_Hall_put (P := P) (w := w) KX G cc
  obtain ⟨fd_x__law_strange, F_x__law_strange, kp_x__law_strange, b_x__law_strange_0⟩ := ok_x__law_strange (P := P) (w := w) KX G cc
  have g_x__law_source := He.glo_ok KX G (cc.says.fact 2 (f := .glo "_law_source") rfl)
  have g_x__law_draw := He.glo_ok KX G (cc.says.fact 3 (f := .glo "_law_draw") rfl)
  have g_x__law_names := He.glo_ok KX G (cc.says.fact 5 (f := .glo "_law_names") rfl)
  have g_x__law_number := He.glo_ok KX G (cc.says.fact 6 (f := .glo "_law_number") rfl)
  have f_n_dict := He.free_ok KX G (cc.says.fact 7 (f := .free "dict") rfl)
  have g_n_Hall := He.glo_ok KX G (cc.says.fact 16 (f := .glo "Hall") rfl)
  have k_n_Hall := He.mkr_ok (cc.says.fact 17 (f := .mkr "Hall") rfl)
  have c_n_Hall := He.cls_ok (cc.says.fact 18 (f := .cls "Hall") rfl)
  have g_x__law_numbers_well := He.glo_ok KX G (cc.says.fact 26 (f := .glo "_law_numbers_well") rfl)
  have f_n_len := He.free_ok KX G (cc.says.fact 1 (f := .free "len") rfl)
  have f_n_min := He.free_ok KX G (cc.says.fact 27 (f := .free "min") rfl)
  have f_n_max := He.free_ok KX G (cc.says.fact 28 (f := .free "max") rfl)
  have f_n_range := He.free_ok KX G (cc.says.fact 4 (f := .free "range") rfl)
  have m_n_Hall_n_put := He.meth_ok (cc.says.fact 29 (f := .meth "Hall" "put") rfl)
  have g_x__law_strange := He.glo_ok KX G (cc.says.fact 31 (f := .glo "_law_strange") rfl)
  have f_n_list := He.free_ok KX G (cc.says.fact 32 (f := .free "list") rfl)
  have f_n_reversed := He.free_ok KX G (cc.says.fact 33 (f := .free "reversed") rfl)
  refine ⟨fd, fun base => fn_ok F sc_n_law (fun cdv A outer s H E W hr tk po => ?_), F.kp, fun s v => FunD.bindsA (ps := ["_law_script"]) F (fun _ _ _ _ _ _ us hl => match us, hl with | [_], _ => rfl) s [v] rfl⟩
  have hu := Hu.of (X := cxOf (L2.CX P w) P w K mg base N_n_law "law" (defScope s_n_law) (He.fAd K ("law", none)) cdv A outer s H E) hr
  have pw := pw_takes tk
  have nd := sc_n_law.nd
  exact (rss_cons (rs_set 1 nd (re_call (ks := []) (F_x__law_source base) (hr.mono (by decide : 2 ≤ 4)) g_x__law_source kp_x__law_source b_x__law_source_0 pw (rc_pos (ra_cons (re_var 0) (ra_cons re_int ra_nil)))))
    (rss_cons (rs_set 2 nd (re_call (ks := []) (F_x__law_names base) (hr.mono (by decide : 3 ≤ 4)) g_x__law_names kp_x__law_names b_x__law_names_0 pw (rc_pos (ra_cons (re_var 1) (ra_cons (re_call (ks := []) (F_x__law_draw base) (hr.mono (by decide : 2 ≤ 4)) g_x__law_draw kp_x__law_draw b_x__law_draw_0 pw (rc_pos (ra_cons (re_var 1) (ra_cons re_int ra_nil)))) ra_nil)))))
    (rss_cons (rs_set 3 nd re_dnew)
    (rss_cons (rs_for po rfl (ri_seq (re_var 2)) (rg_name 4 nd) (rss_one (rs_asg (re_call (ks := []) (F_x__law_number base) (hr.mono (by decide : 3 ≤ 4)) g_x__law_number kp_x__law_number b_x__law_number_0 pw (rc_pos (ra_cons (re_var 1) ra_nil))) (rg_sub hu (re_var 3) (re_var 4)))))
    (rss_cons (rs_set 5 nd (re_callT call_dictD cf_dict f_n_dict PyProof.Rows.boot_dict (ra_cons (re_var 3) ra_nil)))
    (rss_cons (rs_set 6 nd (re_make (ks := []) k_n_Hall c_n_Hall (F_n_Halldd_initdd base) (hr.mono (by decide : 2+1 ≤ 4)) g_n_Hall b_n_Halldd_initdd_0 pw (rc_pos (ra_cons (re_var 5) ra_nil))))
    (rss_cons (rs_if (rt_cmp (op_neA hu) cm_neA (re_var 5) (re_var 3)) (rss_one (rs_ret re_bl)) rss_nil)
    (rss_cons (rs_expr (re_bm0 PySem.F.plainAttrs_dict PySem.F.slot_dict_clear PySem.F.type_dict_clear mtd_clear tyOk_D mf_dclear (re_var 5)))
    (rss_cons (rs_if (rt_not (rt_val (re_call (ks := []) (F_x__law_numbers_well base) (hr.mono (by decide : 4 ≤ 4)) g_x__law_numbers_well kp_x__law_numbers_well b_x__law_numbers_well_0 pw (rc_pos (ra_cons (re_var 6) (ra_cons (re_var 3) (ra_cons (re_var 2) ra_nil))))))) (rss_one (rs_ret re_bl)) rss_nil)
    (rss_cons (rs_for po rfl (ri_range2 f_n_range (ra_cons re_int (ra_cons (re_callB (call_max2 rfl) cf_max f_n_max PyProof.Rows.boot_max (ra_cons re_int (ra_cons (re_callB (call_min2 rfl) cf_min f_n_min PyProof.Rows.boot_min (ra_cons (re_callB call_lenU cf_len f_n_len PySem.boot_len (ra_cons (re_var 0) ra_nil)) (ra_cons re_int ra_nil))) ra_nil))) ra_nil))) (rg_name 7 nd) (rss_cons (rs_set 1 nd (re_call (ks := []) (F_x__law_source base) (hr.mono (by decide : 2 ≤ 4)) g_x__law_source kp_x__law_source b_x__law_source_0 pw (rc_pos (ra_cons (re_var 0) (ra_cons (re_var 7) ra_nil)))))
    (rss_one (rs_if (rt_cmp (op_neA hu) cm_neA (re_var 2) (re_fz (rn_lst ra_nil))) (rss_cons (rs_set 4 nd (re_ix hu (re_var 2) (re_call (ks := []) (F_x__law_draw base) (hr.mono (by decide : 2 ≤ 4)) g_x__law_draw kp_x__law_draw b_x__law_draw_0 pw (rc_pos (ra_cons (re_var 1) (ra_cons (re_callB call_lenU cf_len f_n_len PySem.boot_len (ra_cons (re_var 2) ra_nil)) ra_nil))))))
    (rss_cons (rs_set 8 nd (re_call (ks := []) (F_x__law_number base) (hr.mono (by decide : 3 ≤ 4)) g_x__law_number kp_x__law_number b_x__law_number_0 pw (rc_pos (ra_cons (re_var 1) ra_nil))))
    (rss_cons (rs_asg (re_var 8) (rg_sub hu (re_var 3) (re_var 4)))
    (rss_one (rs_if (RW.rt (rw_or (rt_cmp op_notN cm_isNot (re_meth (ks := []) (re_var 6) (mt_of (mt_cons (mok (m := m_n_Hall_put (clOf K)) (gD := (fun ds _ => ds)) c_n_Hall m_n_Hall_n_put (F_n_Hall_put base) hr (by decide : 3 ≤ 4) b_n_Hall_put_0) mt_nil)) pw (rc_pos (ra_cons (re_var 4) (ra_cons (re_var 8) ra_nil)))) re_non) (rw_or1 (rt_not (rt_val (re_call (ks := []) (F_x__law_numbers_well base) (hr.mono (by decide : 4 ≤ 4)) g_x__law_numbers_well kp_x__law_numbers_well b_x__law_numbers_well_0 pw (rc_pos (ra_cons (re_var 6) (ra_cons (re_var 3) (ra_cons (re_var 2) ra_nil)))))))))) (rss_one (rs_ret re_bl)) rss_nil))))) rss_nil))))
    (rss_cons (rs_if (RW.rt (rw_or (rt_cmp (op_neA hu) cm_neA (re_call (ks := []) (F_x__law_strange base) (hr.mono (by decide : 4 ≤ 4)) g_x__law_strange kp_x__law_strange b_x__law_strange_0 pw (rc_pos (ra_cons (re_var 6) (ra_cons re_str (ra_cons re_bl ra_nil))))) re_str) (rw_or1 (rt_cmp (op_neA hu) cm_neA (re_call (ks := []) (F_x__law_strange base) (hr.mono (by decide : 4 ≤ 4)) g_x__law_strange kp_x__law_strange b_x__law_strange_0 pw (rc_pos (ra_cons (re_var 6) (ra_cons re_str (ra_cons re_bl ra_nil))))) re_str)))) (rss_one (rs_ret re_bl)) rss_nil)
    (rss_one (rs_ret (re_call (ks := []) (F_x__law_numbers_well base) (hr.mono (by decide : 4 ≤ 4)) g_x__law_numbers_well kp_x__law_numbers_well b_x__law_numbers_well_0 pw (rc_pos (ra_cons (re_var 6) (ra_cons (re_var 3) (ra_cons (re_fz (rn_rev rfl f_n_list f_n_reversed (re_var 2))) ra_nil))))))))))))))))))
end
end K01
end
section
namespace K01
open PySem L2 Doz
open PySem.DozX (ExTxt SaysX exB_ok hookX obsXG obsXG_eq)
abbrev R : PySem.W.OpenRow := PySem.W.OpenLaw.row PySem.Challenge.rw_dozehall_k01_numbers_put
abbrev hk : PySem.W.Hook := hookX 6 fa fn xs cs
def ob (s : PySem.W.SharedT) : He.AlD := obsXG 6 fa fn xs cs (HandSHeadRun.getT s)
theorem ob_eq (s : PySem.W.SharedT) : ob s = hk.obs s.abs := obsXG_eq (HandSHeadRun.getT_eq s)
def loose : List Str := ["_wall", "Bed", "DozeError", "NoRoom", "Asleep", "BadCount", "ALL", "EVERY", "look_at_counts", "Hall", "_law_source", "_law_draw", "_law_names", "_law_number", "_law_strange", "_law_numbers_well"]
theorem run (w : World) : HandSHeadRun.RunEq R (PySem.W.view R.prog [20]) hk ob 40000 loose w := by
  intro os
  kernel_rfl
def Good (K : PySem.W.Frag) : Prop := (cs.map (He.ga K)).Nodup
theorem facts {P : Program} {w : World} {K : PySem.W.Frag} {h : Heap} {mg : Str → Option Value} {f : Addr} (KX : K.In h) (G : h.Ns mainGlobals mg) (hfa : mg ("law" : Str) = some (.ref f)) (cc : SaysX fa fn xs cs K) :
    ∃ fd : FuncData, (∀ (s : Shared) (v : Value), BindsTo s fd ⟨[v], []⟩ [("_law_script", v)]) ∧ ∀ base : Heap, K.In base → base.Ns mainGlobals mg → FnOk P w K mg base (L2.CX P w) 5 f fd ["_law_script"] (spM K 1 (m_n_law (clOf K))) := by
  have e := hfa.symm.trans (He.glo_ok KX G (cc.says.fact 0 (f := .glo "law") rfl))
  cases e
  obtain ⟨fd, F, _, b⟩ := ok_n_law (P := P) (w := w) KX G cc
  exact ⟨fd, b, fun base _ _ => F base⟩
end K01
open PySem PySem.W PySem.Calls PyProof.Rows
theorem K01.holds (law : ∀ (K : PySem.W.Frag), K01.Good K → ∀ (ns : List Int), ns.length ≤ 63 → ∃ μ, K01.m_n_law (Doz.clOf K) [.lst (ns.map Doz.D.int)] { cells := [] } = .ok (.bl true) μ) : PySem.Challenge.rw_dozehall_k01_numbers_put.Holds := by
  w_on; o_law
  refine HandSHeadRun.head_any (r := OpenLaw.row PySem.Challenge.rw_dozehall_k01_numbers_put) (q := view (OpenLaw.row PySem.Challenge.rw_dozehall_k01_numbers_put).prog [20]) (H := K01.hk) (ob := K01.ob) (M := 40000) (loose := K01.loose) (d := HandSHeadRun.topDef (OpenLaw.row PySem.Challenge.rw_dozehall_k01_numbers_put).prog 20) (kwd := []) K01.ob_eq
    (by kernel_rfl) (fun s => by kernel_rfl) K01.run (by kernel_rfl) (by kernel_rfl) (by kernel_rfl) (by rfl) (by first | assumption | decide +kernel) (by decide +kernel) ⟨rfl, rfl, rfl, rfl, rfl, by decide +kernel⟩ ?hw ?hc
  case hw => w_witness2
  case hc =>
    refine Doz.walk_ofP (l := PySem.Challenge.rw_dozehall_k01_numbers_put) (n := 63) (k := 5) (x := "_law_script") (m := fun K => K01.m_n_law (Doz.clOf K)) (Gd := K01.Good) rfl (by decide) (by kernel_rfl) ⟨rfl, by decide, by decide⟩ ?F law
    intro w mg fa h Y G hmg0
    obtain ⟨K, KX, c⟩ := Y
    have hmg : mg ("law" : PySem.Str) = some (.ref fa) := by
      have e : (HandSHeadRun.topDef (OpenLaw.row PySem.Challenge.rw_dozehall_k01_numbers_put).prog 20).name = ("law" : PySem.Str) := by kernel_rfl
      rw [← e]
      exact hmg0
    obtain ⟨fd, hb, hF⟩ := K01.facts (P := (PySem.Challenge.rw_dozehall_k01_numbers_put).prog) (w := w) KX G hmg c
    exact ⟨K, fd, KX, c.unlike, hb, hF⟩
end
section
namespace K01
open PySem L2 Doz
theorem num_all {num : List (Str × Int)} {ws : List Str} (h : num.map (·.1) = ws) : ∀ w ∈ ws, ∃ v, aget num w = some v ∧ aget num w = some v := fun w hw => by
  rw [← h] at hw
  have := aget_isSome num w
  simp only [hw, decide_true] at this
  obtain ⟨v, hv⟩ := Option.isSome_iff_exists.mp this
  exact ⟨v, hv, hv⟩
theorem numbers_well_ok {c : Cl} {μ : Mem} {A : HA} {S : HS} {r : Nat} {ws : List Str} {num : List (Str × Int)} (h : HallAt c μ A S) (hr : μ.cells[r]? = some (.dK (encS D.int num))) (hw : ∀ w ∈ ws, ∃ v, aget S.num w = some v ∧ aget num w = some v) (hl : ws.length ≤ 1000) :
    wR (m_x__law_numbers_well c [.loc A.a, .loc r, .lst (ws.map D.str)] μ) (fun v μ' => v = .bl true ∧ μ' = μ) noE := by
  let f : Str → Int := fun w => (aget num w).getD 0
  have hf : ∀ w ∈ ws, aget S.num w = some (f w) ∧ aget num w = some (f w) := fun w hm => by
    obtain ⟨v, h1, h2⟩ := hw w hm
    have : f w = v := by simp [f, h2]
    rw [this]; exact ⟨h1, h2⟩
  have hn : nice 8 (.lst (ws.map fun w => D.int (f w))) = true := by
    show (ws.map fun w => D.int (f w)).all (nice 7) = true
    rw [List.all_map, List.all_eq_true]; exact fun _ _ => rfl
  unfold m_x__law_numbers_well
  rw [w_run]
  show wS (t_x__law_numbers_well c) [some (.loc A.a), some (.loc r), some (.lst (ws.map D.str)), none, none, none] μ _
  unfold t_x__law_numbers_well
  simp -failIfUnchanged (disch := (first | (simp only [len_push, len_set]; omega) | omega | assumption)) only [↓wR_ok, ↓wR_err, ↓wE_var0, ↓wE_varS, ↓wE_C, ↓wE_op, ↓wE_cmp, ↓wE_bl, ↓qB_bl, ↓wE_asB, ↓wE_and, ↓wE_or, ↓wE_not, ↓wE_andV, ↓wE_orV, ↓wE_notV, ↓wE_if, ↓wE_nil, ↓wE_cons, ↓wE_fz, ↓wE_lc, ↓wE_tup, ↓wE_lst, ↓wE_call, ↓wE_nopart, ↓qI_int, ↓wE_part, ↓wE_slice, ↓wE_fld, ↓wE_dnew, ↓wE_iter, ↓wE_rev, ↓wE_pos, ↓wE_kws, ↓wE_noa, ↓wE_both, ↓wE_fn, ↓wE_mth, ↓qN_non, ↓wE_mk, ↓wE_meth, ↓wE_neg, ↓wE_chain, ↓wE_comp, ↓wS_nx, ↓wS_bk, ↓wS_ct, ↓wS_seq, ↓wS_drop, ↓wS_ret, ↓wS_retN, ↓wS_if, ↓wS_asg, ↓qL_loc, ↓qCl_lst, ↓wS_retFz, ↓wS_raise, ↓wS_for, ↓wS_try, ↓wG_set0, ↓wG_setS, ↓wG_then, ↓wG_sub, ↓wG_fld, ↓qT_tup, ↓wG_tup, ↓wGs_nil, ↓wGs_cons, ↓endB_nx, ↓endB_rt, ↓endB_er, ↓endB_bk, ↓endB_ct, ↓loopP_nx, ↓loopP_ct, ↓loopP_bk, ↓loopP_rt, ↓loopP_er, ↓qO_some, ↓qO_at0, ↓qO_at1, ↓qO_at2, ↓qO_at3, ↓qO_at4, ↓qO_at5, ↓w_add_int, ↓w_add_str, ↓w_add_tup, ↓w_add_lst, ↓w_sub, ↓w_mod, ↓w_div, ↓w_mul, ↓w_pow, ↓w_band, ↓w_lt, ↓w_le, ↓w_gt, ↓w_ge, ↓w_is, ↓w_isNot, ↓nonN, ↓nonI, ↓nonS, ↓nonT, ↓nonL, ↓nonLoc, ↓w_eq_int, ↓w_ne_int, ↓w_eq_str, ↓w_ne_str, ↓qIx_lst, ↓qIx_dK, ↓qIxS_dK, ↓w_ix_loc, ↓w_ix_locS, ↓w_ix_lst, ↓w_ix_tup, ↓w_ix_str, ↓qLS_0, ↓qLS_1, ↓qLS_2, ↓qLS_3, ↓qSet_lst, ↓qSet_dK, ↓qSetS_dK, ↓w_setI, ↓w_setS, ↓qF_ins, ↓w_fld, ↓qSF_ins, ↓w_setF, ↓w_len_str, ↓w_len_lst, ↓w_len_tup, ↓qLen_lst, ↓qLen_dK, ↓w_len_loc, ↓w_max, ↓w_min, ↓w_int_int, ↓w_int_bl, ↓w_str_int, ↓qDc_dK, ↓w_dict, ↓w_tuple_lst, ↓w_tuple_tup, ↓w_tuple_loc, ↓w_list_lst, ↓w_list_tup, ↓w_iter_lst, ↓w_iter_tup, ↓w_iter_str, ↓w_iter_loc, ↓w_rng1, ↓w_rng2, ↓w_sl_str, ↓w_sl_tup, ↓w_sl_lst, ↓w_append, ↓w_lclear, ↓tyS_str, ↓tyL_lst, ↓qM_loc, ↓look1, ↓wC_set, ↓wC_setn, ↓wC_push2, ↓wC_pushn, ↓wE_yes, ↓wE_revL, ↓qO_lst, ↓w_all_lst, ↓w_join_lst, ↓isi_non_int, ↓isi_non_bool, ↓isi_non_str, ↓isi_non_tuple, ↓isi_non_list, ↓isi_non_dict, ↓isi_bl_int, ↓isi_bl_bool, ↓isi_bl_str, ↓isi_bl_tuple, ↓isi_bl_list, ↓isi_bl_dict, ↓isi_int_int, ↓isi_int_bool, ↓isi_int_str, ↓isi_int_tuple, ↓isi_int_list, ↓isi_int_dict, ↓isi_str_int, ↓isi_str_bool, ↓isi_str_str, ↓isi_str_tuple, ↓isi_str_list, ↓isi_str_dict, ↓isi_tup_int, ↓isi_tup_bool, ↓isi_tup_str, ↓isi_tup_tuple, ↓isi_tup_list, ↓isi_tup_dict, ↓isi_lst_int, ↓isi_lst_bool, ↓isi_lst_str, ↓isi_lst_tuple, ↓isi_lst_list, ↓isi_lst_dict, decide_eq_true_eq, beq_iff_eq, Bool.not_eq_true', Bool.not_eq_eq_eq_not, Bool.not_true, Bool.not_false, decide_eq_false_iff_not, beq_eq_false_iff_ne, ne_eq, true_and, and_true, if_true, if_false, ite_true, ite_false, reduceIte, Bool.false_eq_true, not_false_eq_true, not_true_eq_false, Int.reduceLT, Int.reduceLE, Int.reduceToNat, Nat.reduceLT, Nat.reduceLeDiff, Int.reducePow, Nat.reduceAdd, Int.reduceAdd, Int.reduceMul, Int.reduceSub, Int.reduceNeg, Nat.reducePow, Int.reduceEq, Nat.reduceEqDiff, List.length_cons, List.length_nil, PySem.sizeLine_eq, str_len_app, str_len_one, wipeD, List.set_cons_zero, List.set_cons_succ, List.length_map]
  refine ⟨by omega, ?_⟩
  refine w_compMap (fun w => D.int (f w)) rfl (fun w hm => ?_) ?_
  · simp -failIfUnchanged (disch := (first | (simp only [len_push, len_set]; omega) | omega | assumption)) only [↓wR_ok, ↓wR_err, ↓wE_var0, ↓wE_varS, ↓wE_C, ↓wE_op, ↓wE_cmp, ↓wE_bl, ↓qB_bl, ↓wE_asB, ↓wE_and, ↓wE_or, ↓wE_not, ↓wE_andV, ↓wE_orV, ↓wE_notV, ↓wE_if, ↓wE_nil, ↓wE_cons, ↓wE_fz, ↓wE_lc, ↓wE_tup, ↓wE_lst, ↓wE_call, ↓wE_nopart, ↓qI_int, ↓wE_part, ↓wE_slice, ↓wE_fld, ↓wE_dnew, ↓wE_iter, ↓wE_rev, ↓wE_pos, ↓wE_kws, ↓wE_noa, ↓wE_both, ↓wE_fn, ↓wE_mth, ↓qN_non, ↓wE_mk, ↓wE_meth, ↓wE_neg, ↓wE_chain, ↓wE_comp, ↓wS_nx, ↓wS_bk, ↓wS_ct, ↓wS_seq, ↓wS_drop, ↓wS_ret, ↓wS_retN, ↓wS_if, ↓wS_asg, ↓qL_loc, ↓qCl_lst, ↓wS_retFz, ↓wS_raise, ↓wS_for, ↓wS_try, ↓wG_set0, ↓wG_setS, ↓wG_then, ↓wG_sub, ↓wG_fld, ↓qT_tup, ↓wG_tup, ↓wGs_nil, ↓wGs_cons, ↓endB_nx, ↓endB_rt, ↓endB_er, ↓endB_bk, ↓endB_ct, ↓loopP_nx, ↓loopP_ct, ↓loopP_bk, ↓loopP_rt, ↓loopP_er, ↓qO_some, ↓qO_at0, ↓qO_at1, ↓qO_at2, ↓qO_at3, ↓qO_at4, ↓qO_at5, ↓w_add_int, ↓w_add_str, ↓w_add_tup, ↓w_add_lst, ↓w_sub, ↓w_mod, ↓w_div, ↓w_mul, ↓w_pow, ↓w_band, ↓w_lt, ↓w_le, ↓w_gt, ↓w_ge, ↓w_is, ↓w_isNot, ↓nonN, ↓nonI, ↓nonS, ↓nonT, ↓nonL, ↓nonLoc, ↓w_eq_int, ↓w_ne_int, ↓w_eq_str, ↓w_ne_str, ↓qIx_lst, ↓qIx_dK, ↓qIxS_dK, ↓w_ix_loc, ↓w_ix_locS, ↓w_ix_lst, ↓w_ix_tup, ↓w_ix_str, ↓qLS_0, ↓qLS_1, ↓qLS_2, ↓qLS_3, ↓qSet_lst, ↓qSet_dK, ↓qSetS_dK, ↓w_setI, ↓w_setS, ↓qF_ins, ↓w_fld, ↓qSF_ins, ↓w_setF, ↓w_len_str, ↓w_len_lst, ↓w_len_tup, ↓qLen_lst, ↓qLen_dK, ↓w_len_loc, ↓w_max, ↓w_min, ↓w_int_int, ↓w_int_bl, ↓w_str_int, ↓qDc_dK, ↓w_dict, ↓w_tuple_lst, ↓w_tuple_tup, ↓w_tuple_loc, ↓w_list_lst, ↓w_list_tup, ↓w_iter_lst, ↓w_iter_tup, ↓w_iter_str, ↓w_iter_loc, ↓w_rng1, ↓w_rng2, ↓w_sl_str, ↓w_sl_tup, ↓w_sl_lst, ↓w_append, ↓w_lclear, ↓tyS_str, ↓tyL_lst, ↓qM_loc, ↓look1, ↓wC_set, ↓wC_setn, ↓wC_push2, ↓wC_pushn, ↓wE_yes, ↓wE_revL, ↓qO_lst, ↓w_all_lst, ↓w_join_lst, ↓isi_non_int, ↓isi_non_bool, ↓isi_non_str, ↓isi_non_tuple, ↓isi_non_list, ↓isi_non_dict, ↓isi_bl_int, ↓isi_bl_bool, ↓isi_bl_str, ↓isi_bl_tuple, ↓isi_bl_list, ↓isi_bl_dict, ↓isi_int_int, ↓isi_int_bool, ↓isi_int_str, ↓isi_int_tuple, ↓isi_int_list, ↓isi_int_dict, ↓isi_str_int, ↓isi_str_bool, ↓isi_str_str, ↓isi_str_tuple, ↓isi_str_list, ↓isi_str_dict, ↓isi_tup_int, ↓isi_tup_bool, ↓isi_tup_str, ↓isi_tup_tuple, ↓isi_tup_list, ↓isi_tup_dict, ↓isi_lst_int, ↓isi_lst_bool, ↓isi_lst_str, ↓isi_lst_tuple, ↓isi_lst_list, ↓isi_lst_dict, decide_eq_true_eq, beq_iff_eq, Bool.not_eq_true', Bool.not_eq_eq_eq_not, Bool.not_true, Bool.not_false, decide_eq_false_iff_not, beq_eq_false_iff_ne, ne_eq, true_and, and_true, if_true, if_false, ite_true, ite_false, reduceIte, Bool.false_eq_true, not_false_eq_true, not_true_eq_false, Int.reduceLT, Int.reduceLE, Int.reduceToNat, Nat.reduceLT, Nat.reduceLeDiff, Int.reducePow, Nat.reduceAdd, Int.reduceAdd, Int.reduceMul, Int.reduceSub, Int.reduceNeg, Nat.reducePow, Int.reduceEq, Nat.reduceEqDiff, List.length_cons, List.length_nil, PySem.sizeLine_eq, str_len_app, str_len_one, wipeD, List.set_cons_zero, List.set_cons_succ, ↓wC_of h.hh, ↓hm_look_for, ↓hm_look_awake, ↓hm_next_turn, ↓hm_lie_down, ↓hm_rise, ↓hm_is_over, ↓hm_put, ↓hm_sleep, ↓hm_wake, ↓hm_move, ↓hm_tick, ↓hm_lateness, ↓hm_nudge, ↓hm_rank, ↓hm_number, ↓hm_line, ↓hm_line_at, ↓hm_order, ↓hm_asleep, ↓hm_sleeper, ↓hm_ending, ↓hm_standing, ↓hm_now, ↓hm_log, ↓hm_who, ↓hm_filled, ↓hm_twin, ↓hf_numbers, ↓hf_beds, ↓hf_ranks, ↓hf_endings, ↓hf_clock, ↓hf_turns, ↓hf_begun, ↓hf_entries]
    exact (number_in h (hf w hm).1).imp fun _ _ ⟨h1, h2⟩ => ⟨h1, h2⟩
  simp -failIfUnchanged (disch := (first | (simp only [len_push, len_set]; omega) | omega | assumption)) only [↓wR_ok, ↓wR_err, ↓wE_var0, ↓wE_varS, ↓wE_C, ↓wE_op, ↓wE_cmp, ↓wE_bl, ↓qB_bl, ↓wE_asB, ↓wE_and, ↓wE_or, ↓wE_not, ↓wE_andV, ↓wE_orV, ↓wE_notV, ↓wE_if, ↓wE_nil, ↓wE_cons, ↓wE_fz, ↓wE_lc, ↓wE_tup, ↓wE_lst, ↓wE_call, ↓wE_nopart, ↓qI_int, ↓wE_part, ↓wE_slice, ↓wE_fld, ↓wE_dnew, ↓wE_iter, ↓wE_rev, ↓wE_pos, ↓wE_kws, ↓wE_noa, ↓wE_both, ↓wE_fn, ↓wE_mth, ↓qN_non, ↓wE_mk, ↓wE_meth, ↓wE_neg, ↓wE_chain, ↓wE_comp, ↓wS_nx, ↓wS_bk, ↓wS_ct, ↓wS_seq, ↓wS_drop, ↓wS_ret, ↓wS_retN, ↓wS_if, ↓wS_asg, ↓qL_loc, ↓qCl_lst, ↓wS_retFz, ↓wS_raise, ↓wS_for, ↓wS_try, ↓wG_set0, ↓wG_setS, ↓wG_then, ↓wG_sub, ↓wG_fld, ↓qT_tup, ↓wG_tup, ↓wGs_nil, ↓wGs_cons, ↓endB_nx, ↓endB_rt, ↓endB_er, ↓endB_bk, ↓endB_ct, ↓loopP_nx, ↓loopP_ct, ↓loopP_bk, ↓loopP_rt, ↓loopP_er, ↓qO_some, ↓qO_at0, ↓qO_at1, ↓qO_at2, ↓qO_at3, ↓qO_at4, ↓qO_at5, ↓w_add_int, ↓w_add_str, ↓w_add_tup, ↓w_add_lst, ↓w_sub, ↓w_mod, ↓w_div, ↓w_mul, ↓w_pow, ↓w_band, ↓w_lt, ↓w_le, ↓w_gt, ↓w_ge, ↓w_is, ↓w_isNot, ↓nonN, ↓nonI, ↓nonS, ↓nonT, ↓nonL, ↓nonLoc, ↓w_eq_int, ↓w_ne_int, ↓w_eq_str, ↓w_ne_str, ↓qIx_lst, ↓qIx_dK, ↓qIxS_dK, ↓w_ix_loc, ↓w_ix_locS, ↓w_ix_lst, ↓w_ix_tup, ↓w_ix_str, ↓qLS_0, ↓qLS_1, ↓qLS_2, ↓qLS_3, ↓qSet_lst, ↓qSet_dK, ↓qSetS_dK, ↓w_setI, ↓w_setS, ↓qF_ins, ↓w_fld, ↓qSF_ins, ↓w_setF, ↓w_len_str, ↓w_len_lst, ↓w_len_tup, ↓qLen_lst, ↓qLen_dK, ↓w_len_loc, ↓w_max, ↓w_min, ↓w_int_int, ↓w_int_bl, ↓w_str_int, ↓qDc_dK, ↓w_dict, ↓w_tuple_lst, ↓w_tuple_tup, ↓w_tuple_loc, ↓w_list_lst, ↓w_list_tup, ↓w_iter_lst, ↓w_iter_tup, ↓w_iter_str, ↓w_iter_loc, ↓w_rng1, ↓w_rng2, ↓w_sl_str, ↓w_sl_tup, ↓w_sl_lst, ↓w_append, ↓w_lclear, ↓tyS_str, ↓tyL_lst, ↓qM_loc, ↓look1, ↓wC_set, ↓wC_setn, ↓wC_push2, ↓wC_pushn, ↓wE_yes, ↓wE_revL, ↓qO_lst, ↓w_all_lst, ↓w_join_lst, ↓isi_non_int, ↓isi_non_bool, ↓isi_non_str, ↓isi_non_tuple, ↓isi_non_list, ↓isi_non_dict, ↓isi_bl_int, ↓isi_bl_bool, ↓isi_bl_str, ↓isi_bl_tuple, ↓isi_bl_list, ↓isi_bl_dict, ↓isi_int_int, ↓isi_int_bool, ↓isi_int_str, ↓isi_int_tuple, ↓isi_int_list, ↓isi_int_dict, ↓isi_str_int, ↓isi_str_bool, ↓isi_str_str, ↓isi_str_tuple, ↓isi_str_list, ↓isi_str_dict, ↓isi_tup_int, ↓isi_tup_bool, ↓isi_tup_str, ↓isi_tup_tuple, ↓isi_tup_list, ↓isi_tup_dict, ↓isi_lst_int, ↓isi_lst_bool, ↓isi_lst_str, ↓isi_lst_tuple, ↓isi_lst_list, ↓isi_lst_dict, decide_eq_true_eq, beq_iff_eq, Bool.not_eq_true', Bool.not_eq_eq_eq_not, Bool.not_true, Bool.not_false, decide_eq_false_iff_not, beq_eq_false_iff_ne, ne_eq, true_and, and_true, if_true, if_false, ite_true, ite_false, reduceIte, Bool.false_eq_true, not_false_eq_true, not_true_eq_false, Int.reduceLT, Int.reduceLE, Int.reduceToNat, Nat.reduceLT, Nat.reduceLeDiff, Int.reducePow, Nat.reduceAdd, Int.reduceAdd, Int.reduceMul, Int.reduceSub, Int.reduceNeg, Nat.reducePow, Int.reduceEq, Nat.reduceEqDiff, List.length_cons, List.length_nil, PySem.sizeLine_eq, str_len_app, str_len_one, wipeD, List.set_cons_zero, List.set_cons_succ, List.length_map]
  refine ⟨by omega, ?_⟩
  refine w_compMap (f := fun w => D.int (f w)) (fun w => D.bl ((fun _ => true) w)) rfl (fun w hm => ?_) ?_
  · simp -failIfUnchanged (disch := (first | (simp only [len_push, len_set]; omega) | omega | assumption)) only [↓wR_ok, ↓wR_err, ↓wE_var0, ↓wE_varS, ↓wE_C, ↓wE_op, ↓wE_cmp, ↓wE_bl, ↓qB_bl, ↓wE_asB, ↓wE_and, ↓wE_or, ↓wE_not, ↓wE_andV, ↓wE_orV, ↓wE_notV, ↓wE_if, ↓wE_nil, ↓wE_cons, ↓wE_fz, ↓wE_lc, ↓wE_tup, ↓wE_lst, ↓wE_call, ↓wE_nopart, ↓qI_int, ↓wE_part, ↓wE_slice, ↓wE_fld, ↓wE_dnew, ↓wE_iter, ↓wE_rev, ↓wE_pos, ↓wE_kws, ↓wE_noa, ↓wE_both, ↓wE_fn, ↓wE_mth, ↓qN_non, ↓wE_mk, ↓wE_meth, ↓wE_neg, ↓wE_chain, ↓wE_comp, ↓wS_nx, ↓wS_bk, ↓wS_ct, ↓wS_seq, ↓wS_drop, ↓wS_ret, ↓wS_retN, ↓wS_if, ↓wS_asg, ↓qL_loc, ↓qCl_lst, ↓wS_retFz, ↓wS_raise, ↓wS_for, ↓wS_try, ↓wG_set0, ↓wG_setS, ↓wG_then, ↓wG_sub, ↓wG_fld, ↓qT_tup, ↓wG_tup, ↓wGs_nil, ↓wGs_cons, ↓endB_nx, ↓endB_rt, ↓endB_er, ↓endB_bk, ↓endB_ct, ↓loopP_nx, ↓loopP_ct, ↓loopP_bk, ↓loopP_rt, ↓loopP_er, ↓qO_some, ↓qO_at0, ↓qO_at1, ↓qO_at2, ↓qO_at3, ↓qO_at4, ↓qO_at5, ↓w_add_int, ↓w_add_str, ↓w_add_tup, ↓w_add_lst, ↓w_sub, ↓w_mod, ↓w_div, ↓w_mul, ↓w_pow, ↓w_band, ↓w_lt, ↓w_le, ↓w_gt, ↓w_ge, ↓w_is, ↓w_isNot, ↓nonN, ↓nonI, ↓nonS, ↓nonT, ↓nonL, ↓nonLoc, ↓w_eq_int, ↓w_ne_int, ↓w_eq_str, ↓w_ne_str, ↓qIx_lst, ↓qIx_dK, ↓qIxS_dK, ↓w_ix_loc, ↓w_ix_locS, ↓w_ix_lst, ↓w_ix_tup, ↓w_ix_str, ↓qLS_0, ↓qLS_1, ↓qLS_2, ↓qLS_3, ↓qSet_lst, ↓qSet_dK, ↓qSetS_dK, ↓w_setI, ↓w_setS, ↓qF_ins, ↓w_fld, ↓qSF_ins, ↓w_setF, ↓w_len_str, ↓w_len_lst, ↓w_len_tup, ↓qLen_lst, ↓qLen_dK, ↓w_len_loc, ↓w_max, ↓w_min, ↓w_int_int, ↓w_int_bl, ↓w_str_int, ↓qDc_dK, ↓w_dict, ↓w_tuple_lst, ↓w_tuple_tup, ↓w_tuple_loc, ↓w_list_lst, ↓w_list_tup, ↓w_iter_lst, ↓w_iter_tup, ↓w_iter_str, ↓w_iter_loc, ↓w_rng1, ↓w_rng2, ↓w_sl_str, ↓w_sl_tup, ↓w_sl_lst, ↓w_append, ↓w_lclear, ↓tyS_str, ↓tyL_lst, ↓qM_loc, ↓look1, ↓wC_set, ↓wC_setn, ↓wC_push2, ↓wC_pushn, ↓wE_yes, ↓wE_revL, ↓qO_lst, ↓w_all_lst, ↓w_join_lst, ↓isi_non_int, ↓isi_non_bool, ↓isi_non_str, ↓isi_non_tuple, ↓isi_non_list, ↓isi_non_dict, ↓isi_bl_int, ↓isi_bl_bool, ↓isi_bl_str, ↓isi_bl_tuple, ↓isi_bl_list, ↓isi_bl_dict, ↓isi_int_int, ↓isi_int_bool, ↓isi_int_str, ↓isi_int_tuple, ↓isi_int_list, ↓isi_int_dict, ↓isi_str_int, ↓isi_str_bool, ↓isi_str_str, ↓isi_str_tuple, ↓isi_str_list, ↓isi_str_dict, ↓isi_tup_int, ↓isi_tup_bool, ↓isi_tup_str, ↓isi_tup_tuple, ↓isi_tup_list, ↓isi_tup_dict, ↓isi_lst_int, ↓isi_lst_bool, ↓isi_lst_str, ↓isi_lst_tuple, ↓isi_lst_list, ↓isi_lst_dict, decide_eq_true_eq, beq_iff_eq, Bool.not_eq_true', Bool.not_eq_eq_eq_not, Bool.not_true, Bool.not_false, decide_eq_false_iff_not, beq_eq_false_iff_ne, ne_eq, true_and, and_true, if_true, if_false, ite_true, ite_false, reduceIte, Bool.false_eq_true, not_false_eq_true, not_true_eq_false, Int.reduceLT, Int.reduceLE, Int.reduceToNat, Nat.reduceLT, Nat.reduceLeDiff, Int.reducePow, Nat.reduceAdd, Int.reduceAdd, Int.reduceMul, Int.reduceSub, Int.reduceNeg, Nat.reducePow, Int.reduceEq, Nat.reduceEqDiff, List.length_cons, List.length_nil, PySem.sizeLine_eq, str_len_app, str_len_one, wipeD, List.set_cons_zero, List.set_cons_succ]
  have e : ∀ ws : List Str, (ws.map fun _ => true).all id = true := fun ws => by simp
  simp -failIfUnchanged (disch := (first | (simp only [len_push, len_set]; omega) | omega | assumption)) only [↓wR_ok, ↓wR_err, ↓wE_var0, ↓wE_varS, ↓wE_C, ↓wE_op, ↓wE_cmp, ↓wE_bl, ↓qB_bl, ↓wE_asB, ↓wE_and, ↓wE_or, ↓wE_not, ↓wE_andV, ↓wE_orV, ↓wE_notV, ↓wE_if, ↓wE_nil, ↓wE_cons, ↓wE_fz, ↓wE_lc, ↓wE_tup, ↓wE_lst, ↓wE_call, ↓wE_nopart, ↓qI_int, ↓wE_part, ↓wE_slice, ↓wE_fld, ↓wE_dnew, ↓wE_iter, ↓wE_rev, ↓wE_pos, ↓wE_kws, ↓wE_noa, ↓wE_both, ↓wE_fn, ↓wE_mth, ↓qN_non, ↓wE_mk, ↓wE_meth, ↓wE_neg, ↓wE_chain, ↓wE_comp, ↓wS_nx, ↓wS_bk, ↓wS_ct, ↓wS_seq, ↓wS_drop, ↓wS_ret, ↓wS_retN, ↓wS_if, ↓wS_asg, ↓qL_loc, ↓qCl_lst, ↓wS_retFz, ↓wS_raise, ↓wS_for, ↓wS_try, ↓wG_set0, ↓wG_setS, ↓wG_then, ↓wG_sub, ↓wG_fld, ↓qT_tup, ↓wG_tup, ↓wGs_nil, ↓wGs_cons, ↓endB_nx, ↓endB_rt, ↓endB_er, ↓endB_bk, ↓endB_ct, ↓loopP_nx, ↓loopP_ct, ↓loopP_bk, ↓loopP_rt, ↓loopP_er, ↓qO_some, ↓qO_at0, ↓qO_at1, ↓qO_at2, ↓qO_at3, ↓qO_at4, ↓qO_at5, ↓w_add_int, ↓w_add_str, ↓w_add_tup, ↓w_add_lst, ↓w_sub, ↓w_mod, ↓w_div, ↓w_mul, ↓w_pow, ↓w_band, ↓w_lt, ↓w_le, ↓w_gt, ↓w_ge, ↓w_is, ↓w_isNot, ↓nonN, ↓nonI, ↓nonS, ↓nonT, ↓nonL, ↓nonLoc, ↓w_eq_int, ↓w_ne_int, ↓w_eq_str, ↓w_ne_str, ↓qIx_lst, ↓qIx_dK, ↓qIxS_dK, ↓w_ix_loc, ↓w_ix_locS, ↓w_ix_lst, ↓w_ix_tup, ↓w_ix_str, ↓qLS_0, ↓qLS_1, ↓qLS_2, ↓qLS_3, ↓qSet_lst, ↓qSet_dK, ↓qSetS_dK, ↓w_setI, ↓w_setS, ↓qF_ins, ↓w_fld, ↓qSF_ins, ↓w_setF, ↓w_len_str, ↓w_len_lst, ↓w_len_tup, ↓qLen_lst, ↓qLen_dK, ↓w_len_loc, ↓w_max, ↓w_min, ↓w_int_int, ↓w_int_bl, ↓w_str_int, ↓qDc_dK, ↓w_dict, ↓w_tuple_lst, ↓w_tuple_tup, ↓w_tuple_loc, ↓w_list_lst, ↓w_list_tup, ↓w_iter_lst, ↓w_iter_tup, ↓w_iter_str, ↓w_iter_loc, ↓w_rng1, ↓w_rng2, ↓w_sl_str, ↓w_sl_tup, ↓w_sl_lst, ↓w_append, ↓w_lclear, ↓tyS_str, ↓tyL_lst, ↓qM_loc, ↓look1, ↓wC_set, ↓wC_setn, ↓wC_push2, ↓wC_pushn, ↓wE_yes, ↓wE_revL, ↓qO_lst, ↓w_all_lst, ↓w_join_lst, ↓isi_non_int, ↓isi_non_bool, ↓isi_non_str, ↓isi_non_tuple, ↓isi_non_list, ↓isi_non_dict, ↓isi_bl_int, ↓isi_bl_bool, ↓isi_bl_str, ↓isi_bl_tuple, ↓isi_bl_list, ↓isi_bl_dict, ↓isi_int_int, ↓isi_int_bool, ↓isi_int_str, ↓isi_int_tuple, ↓isi_int_list, ↓isi_int_dict, ↓isi_str_int, ↓isi_str_bool, ↓isi_str_str, ↓isi_str_tuple, ↓isi_str_list, ↓isi_str_dict, ↓isi_tup_int, ↓isi_tup_bool, ↓isi_tup_str, ↓isi_tup_tuple, ↓isi_tup_list, ↓isi_tup_dict, ↓isi_lst_int, ↓isi_lst_bool, ↓isi_lst_str, ↓isi_lst_tuple, ↓isi_lst_list, ↓isi_lst_dict, decide_eq_true_eq, beq_iff_eq, Bool.not_eq_true', Bool.not_eq_eq_eq_not, Bool.not_true, Bool.not_false, decide_eq_false_iff_not, beq_eq_false_iff_ne, ne_eq, true_and, and_true, if_true, if_false, ite_true, ite_false, reduceIte, Bool.false_eq_true, not_false_eq_true, not_true_eq_false, Int.reduceLT, Int.reduceLE, Int.reduceToNat, Nat.reduceLT, Nat.reduceLeDiff, Int.reducePow, Nat.reduceAdd, Int.reduceAdd, Int.reduceMul, Int.reduceSub, Int.reduceNeg, Nat.reducePow, Int.reduceEq, Nat.reduceEqDiff, List.length_cons, List.length_nil, PySem.sizeLine_eq, str_len_app, str_len_one, wipeD, List.set_cons_zero, List.set_cons_succ, ↓qO_of (blsOf_map (fun _ => true) ws), e, Bool.true_eq_false, List.length_map]
  refine ⟨by omega, ?_⟩
  refine w_compMap (fun w => D.int (f w)) rfl (fun w hm => ?_) ?_
  · simp -failIfUnchanged (disch := (first | (simp only [len_push, len_set]; omega) | omega | assumption)) only [↓wR_ok, ↓wR_err, ↓wE_var0, ↓wE_varS, ↓wE_C, ↓wE_op, ↓wE_cmp, ↓wE_bl, ↓qB_bl, ↓wE_asB, ↓wE_and, ↓wE_or, ↓wE_not, ↓wE_andV, ↓wE_orV, ↓wE_notV, ↓wE_if, ↓wE_nil, ↓wE_cons, ↓wE_fz, ↓wE_lc, ↓wE_tup, ↓wE_lst, ↓wE_call, ↓wE_nopart, ↓qI_int, ↓wE_part, ↓wE_slice, ↓wE_fld, ↓wE_dnew, ↓wE_iter, ↓wE_rev, ↓wE_pos, ↓wE_kws, ↓wE_noa, ↓wE_both, ↓wE_fn, ↓wE_mth, ↓qN_non, ↓wE_mk, ↓wE_meth, ↓wE_neg, ↓wE_chain, ↓wE_comp, ↓wS_nx, ↓wS_bk, ↓wS_ct, ↓wS_seq, ↓wS_drop, ↓wS_ret, ↓wS_retN, ↓wS_if, ↓wS_asg, ↓qL_loc, ↓qCl_lst, ↓wS_retFz, ↓wS_raise, ↓wS_for, ↓wS_try, ↓wG_set0, ↓wG_setS, ↓wG_then, ↓wG_sub, ↓wG_fld, ↓qT_tup, ↓wG_tup, ↓wGs_nil, ↓wGs_cons, ↓endB_nx, ↓endB_rt, ↓endB_er, ↓endB_bk, ↓endB_ct, ↓loopP_nx, ↓loopP_ct, ↓loopP_bk, ↓loopP_rt, ↓loopP_er, ↓qO_some, ↓qO_at0, ↓qO_at1, ↓qO_at2, ↓qO_at3, ↓qO_at4, ↓qO_at5, ↓w_add_int, ↓w_add_str, ↓w_add_tup, ↓w_add_lst, ↓w_sub, ↓w_mod, ↓w_div, ↓w_mul, ↓w_pow, ↓w_band, ↓w_lt, ↓w_le, ↓w_gt, ↓w_ge, ↓w_is, ↓w_isNot, ↓nonN, ↓nonI, ↓nonS, ↓nonT, ↓nonL, ↓nonLoc, ↓w_eq_int, ↓w_ne_int, ↓w_eq_str, ↓w_ne_str, ↓qIx_lst, ↓qIx_dK, ↓qIxS_dK, ↓w_ix_loc, ↓w_ix_locS, ↓w_ix_lst, ↓w_ix_tup, ↓w_ix_str, ↓qLS_0, ↓qLS_1, ↓qLS_2, ↓qLS_3, ↓qSet_lst, ↓qSet_dK, ↓qSetS_dK, ↓w_setI, ↓w_setS, ↓qF_ins, ↓w_fld, ↓qSF_ins, ↓w_setF, ↓w_len_str, ↓w_len_lst, ↓w_len_tup, ↓qLen_lst, ↓qLen_dK, ↓w_len_loc, ↓w_max, ↓w_min, ↓w_int_int, ↓w_int_bl, ↓w_str_int, ↓qDc_dK, ↓w_dict, ↓w_tuple_lst, ↓w_tuple_tup, ↓w_tuple_loc, ↓w_list_lst, ↓w_list_tup, ↓w_iter_lst, ↓w_iter_tup, ↓w_iter_str, ↓w_iter_loc, ↓w_rng1, ↓w_rng2, ↓w_sl_str, ↓w_sl_tup, ↓w_sl_lst, ↓w_append, ↓w_lclear, ↓tyS_str, ↓tyL_lst, ↓qM_loc, ↓look1, ↓wC_set, ↓wC_setn, ↓wC_push2, ↓wC_pushn, ↓wE_yes, ↓wE_revL, ↓qO_lst, ↓w_all_lst, ↓w_join_lst, ↓isi_non_int, ↓isi_non_bool, ↓isi_non_str, ↓isi_non_tuple, ↓isi_non_list, ↓isi_non_dict, ↓isi_bl_int, ↓isi_bl_bool, ↓isi_bl_str, ↓isi_bl_tuple, ↓isi_bl_list, ↓isi_bl_dict, ↓isi_int_int, ↓isi_int_bool, ↓isi_int_str, ↓isi_int_tuple, ↓isi_int_list, ↓isi_int_dict, ↓isi_str_int, ↓isi_str_bool, ↓isi_str_str, ↓isi_str_tuple, ↓isi_str_list, ↓isi_str_dict, ↓isi_tup_int, ↓isi_tup_bool, ↓isi_tup_str, ↓isi_tup_tuple, ↓isi_tup_list, ↓isi_tup_dict, ↓isi_lst_int, ↓isi_lst_bool, ↓isi_lst_str, ↓isi_lst_tuple, ↓isi_lst_list, ↓isi_lst_dict, decide_eq_true_eq, beq_iff_eq, Bool.not_eq_true', Bool.not_eq_eq_eq_not, Bool.not_true, Bool.not_false, decide_eq_false_iff_not, beq_eq_false_iff_ne, ne_eq, true_and, and_true, if_true, if_false, ite_true, ite_false, reduceIte, Bool.false_eq_true, not_false_eq_true, not_true_eq_false, Int.reduceLT, Int.reduceLE, Int.reduceToNat, Nat.reduceLT, Nat.reduceLeDiff, Int.reducePow, Nat.reduceAdd, Int.reduceAdd, Int.reduceMul, Int.reduceSub, Int.reduceNeg, Nat.reducePow, Int.reduceEq, Nat.reduceEqDiff, List.length_cons, List.length_nil, PySem.sizeLine_eq, str_len_app, str_len_one, wipeD, List.set_cons_zero, List.set_cons_succ, ↓wC_of hr, ↓qO_of (show kget (encS D.int num) (.inr w) = some (.int (f w)) by rw [encS_get, (hf w hm).2]; rfl)]
  simp -failIfUnchanged (disch := (first | (simp only [len_push, len_set]; omega) | omega | assumption)) only [↓wR_ok, ↓wR_err, ↓wE_var0, ↓wE_varS, ↓wE_C, ↓wE_op, ↓wE_cmp, ↓wE_bl, ↓qB_bl, ↓wE_asB, ↓wE_and, ↓wE_or, ↓wE_not, ↓wE_andV, ↓wE_orV, ↓wE_notV, ↓wE_if, ↓wE_nil, ↓wE_cons, ↓wE_fz, ↓wE_lc, ↓wE_tup, ↓wE_lst, ↓wE_call, ↓wE_nopart, ↓qI_int, ↓wE_part, ↓wE_slice, ↓wE_fld, ↓wE_dnew, ↓wE_iter, ↓wE_rev, ↓wE_pos, ↓wE_kws, ↓wE_noa, ↓wE_both, ↓wE_fn, ↓wE_mth, ↓qN_non, ↓wE_mk, ↓wE_meth, ↓wE_neg, ↓wE_chain, ↓wE_comp, ↓wS_nx, ↓wS_bk, ↓wS_ct, ↓wS_seq, ↓wS_drop, ↓wS_ret, ↓wS_retN, ↓wS_if, ↓wS_asg, ↓qL_loc, ↓qCl_lst, ↓wS_retFz, ↓wS_raise, ↓wS_for, ↓wS_try, ↓wG_set0, ↓wG_setS, ↓wG_then, ↓wG_sub, ↓wG_fld, ↓qT_tup, ↓wG_tup, ↓wGs_nil, ↓wGs_cons, ↓endB_nx, ↓endB_rt, ↓endB_er, ↓endB_bk, ↓endB_ct, ↓loopP_nx, ↓loopP_ct, ↓loopP_bk, ↓loopP_rt, ↓loopP_er, ↓qO_some, ↓qO_at0, ↓qO_at1, ↓qO_at2, ↓qO_at3, ↓qO_at4, ↓qO_at5, ↓w_add_int, ↓w_add_str, ↓w_add_tup, ↓w_add_lst, ↓w_sub, ↓w_mod, ↓w_div, ↓w_mul, ↓w_pow, ↓w_band, ↓w_lt, ↓w_le, ↓w_gt, ↓w_ge, ↓w_is, ↓w_isNot, ↓nonN, ↓nonI, ↓nonS, ↓nonT, ↓nonL, ↓nonLoc, ↓w_eq_int, ↓w_ne_int, ↓w_eq_str, ↓w_ne_str, ↓qIx_lst, ↓qIx_dK, ↓qIxS_dK, ↓w_ix_loc, ↓w_ix_locS, ↓w_ix_lst, ↓w_ix_tup, ↓w_ix_str, ↓qLS_0, ↓qLS_1, ↓qLS_2, ↓qLS_3, ↓qSet_lst, ↓qSet_dK, ↓qSetS_dK, ↓w_setI, ↓w_setS, ↓qF_ins, ↓w_fld, ↓qSF_ins, ↓w_setF, ↓w_len_str, ↓w_len_lst, ↓w_len_tup, ↓qLen_lst, ↓qLen_dK, ↓w_len_loc, ↓w_max, ↓w_min, ↓w_int_int, ↓w_int_bl, ↓w_str_int, ↓qDc_dK, ↓w_dict, ↓w_tuple_lst, ↓w_tuple_tup, ↓w_tuple_loc, ↓w_list_lst, ↓w_list_tup, ↓w_iter_lst, ↓w_iter_tup, ↓w_iter_str, ↓w_iter_loc, ↓w_rng1, ↓w_rng2, ↓w_sl_str, ↓w_sl_tup, ↓w_sl_lst, ↓w_append, ↓w_lclear, ↓tyS_str, ↓tyL_lst, ↓qM_loc, ↓look1, ↓wC_set, ↓wC_setn, ↓wC_push2, ↓wC_pushn, ↓wE_yes, ↓wE_revL, ↓qO_lst, ↓w_all_lst, ↓w_join_lst, ↓isi_non_int, ↓isi_non_bool, ↓isi_non_str, ↓isi_non_tuple, ↓isi_non_list, ↓isi_non_dict, ↓isi_bl_int, ↓isi_bl_bool, ↓isi_bl_str, ↓isi_bl_tuple, ↓isi_bl_list, ↓isi_bl_dict, ↓isi_int_int, ↓isi_int_bool, ↓isi_int_str, ↓isi_int_tuple, ↓isi_int_list, ↓isi_int_dict, ↓isi_str_int, ↓isi_str_bool, ↓isi_str_str, ↓isi_str_tuple, ↓isi_str_list, ↓isi_str_dict, ↓isi_tup_int, ↓isi_tup_bool, ↓isi_tup_str, ↓isi_tup_tuple, ↓isi_tup_list, ↓isi_tup_dict, ↓isi_lst_int, ↓isi_lst_bool, ↓isi_lst_str, ↓isi_lst_tuple, ↓isi_lst_list, ↓isi_lst_dict, decide_eq_true_eq, beq_iff_eq, Bool.not_eq_true', Bool.not_eq_eq_eq_not, Bool.not_true, Bool.not_false, decide_eq_false_iff_not, beq_eq_false_iff_ne, ne_eq, true_and, and_true, if_true, if_false, ite_true, ite_false, reduceIte, Bool.false_eq_true, not_false_eq_true, not_true_eq_false, Int.reduceLT, Int.reduceLE, Int.reduceToNat, Nat.reduceLT, Nat.reduceLeDiff, Int.reducePow, Nat.reduceAdd, Int.reduceAdd, Int.reduceMul, Int.reduceSub, Int.reduceNeg, Nat.reducePow, Int.reduceEq, Nat.reduceEqDiff, List.length_cons, List.length_nil, PySem.sizeLine_eq, str_len_app, str_len_one, wipeD, List.set_cons_zero, List.set_cons_succ, ↓w_eq_nice hn hn, eqv_nice hn]
theorem strange_put {c : Cl} {μ : Mem} {A : HA} {S : HS} {w : Str} (h : HallAt c μ A S) (hw : w ∉ S.num.map (·.1)) :
    wR (m_x__law_strange c [.loc A.a, .str w, .bl true] μ) (fun v μ' => v = .str w ∧ μ' = μ) noE := by
  unfold m_x__law_strange
  rw [w_run]
  show wS (t_x__law_strange c) [some (.loc A.a), some (.str w), some (.bl true), none, none] μ _
  unfold t_x__law_strange
  simp -failIfUnchanged (disch := (first | (simp only [len_push, len_set]; omega) | omega | assumption)) only [↓wR_ok, ↓wR_err, ↓wE_var0, ↓wE_varS, ↓wE_C, ↓wE_op, ↓wE_cmp, ↓wE_bl, ↓qB_bl, ↓wE_asB, ↓wE_and, ↓wE_or, ↓wE_not, ↓wE_andV, ↓wE_orV, ↓wE_notV, ↓wE_if, ↓wE_nil, ↓wE_cons, ↓wE_fz, ↓wE_lc, ↓wE_tup, ↓wE_lst, ↓wE_call, ↓wE_nopart, ↓qI_int, ↓wE_part, ↓wE_slice, ↓wE_fld, ↓wE_dnew, ↓wE_iter, ↓wE_rev, ↓wE_pos, ↓wE_kws, ↓wE_noa, ↓wE_both, ↓wE_fn, ↓wE_mth, ↓qN_non, ↓wE_mk, ↓wE_meth, ↓wE_neg, ↓wE_chain, ↓wE_comp, ↓wS_nx, ↓wS_bk, ↓wS_ct, ↓wS_seq, ↓wS_drop, ↓wS_ret, ↓wS_retN, ↓wS_if, ↓wS_asg, ↓qL_loc, ↓qCl_lst, ↓wS_retFz, ↓wS_raise, ↓wS_for, ↓wS_try, ↓wG_set0, ↓wG_setS, ↓wG_then, ↓wG_sub, ↓wG_fld, ↓qT_tup, ↓wG_tup, ↓wGs_nil, ↓wGs_cons, ↓endB_nx, ↓endB_rt, ↓endB_er, ↓endB_bk, ↓endB_ct, ↓loopP_nx, ↓loopP_ct, ↓loopP_bk, ↓loopP_rt, ↓loopP_er, ↓qO_some, ↓qO_at0, ↓qO_at1, ↓qO_at2, ↓qO_at3, ↓qO_at4, ↓qO_at5, ↓w_add_int, ↓w_add_str, ↓w_add_tup, ↓w_add_lst, ↓w_sub, ↓w_mod, ↓w_div, ↓w_mul, ↓w_pow, ↓w_band, ↓w_lt, ↓w_le, ↓w_gt, ↓w_ge, ↓w_is, ↓w_isNot, ↓nonN, ↓nonI, ↓nonS, ↓nonT, ↓nonL, ↓nonLoc, ↓w_eq_int, ↓w_ne_int, ↓w_eq_str, ↓w_ne_str, ↓qIx_lst, ↓qIx_dK, ↓qIxS_dK, ↓w_ix_loc, ↓w_ix_locS, ↓w_ix_lst, ↓w_ix_tup, ↓w_ix_str, ↓qLS_0, ↓qLS_1, ↓qLS_2, ↓qLS_3, ↓qSet_lst, ↓qSet_dK, ↓qSetS_dK, ↓w_setI, ↓w_setS, ↓qF_ins, ↓w_fld, ↓qSF_ins, ↓w_setF, ↓w_len_str, ↓w_len_lst, ↓w_len_tup, ↓qLen_lst, ↓qLen_dK, ↓w_len_loc, ↓w_max, ↓w_min, ↓w_int_int, ↓w_int_bl, ↓w_str_int, ↓qDc_dK, ↓w_dict, ↓w_tuple_lst, ↓w_tuple_tup, ↓w_tuple_loc, ↓w_list_lst, ↓w_list_tup, ↓w_iter_lst, ↓w_iter_tup, ↓w_iter_str, ↓w_iter_loc, ↓w_rng1, ↓w_rng2, ↓w_sl_str, ↓w_sl_tup, ↓w_sl_lst, ↓w_append, ↓w_lclear, ↓tyS_str, ↓tyL_lst, ↓qM_loc, ↓look1, ↓wC_set, ↓wC_setn, ↓wC_push2, ↓wC_pushn, ↓wE_yes, ↓wE_revL, ↓qO_lst, ↓w_all_lst, ↓w_join_lst, ↓isi_non_int, ↓isi_non_bool, ↓isi_non_str, ↓isi_non_tuple, ↓isi_non_list, ↓isi_non_dict, ↓isi_bl_int, ↓isi_bl_bool, ↓isi_bl_str, ↓isi_bl_tuple, ↓isi_bl_list, ↓isi_bl_dict, ↓isi_int_int, ↓isi_int_bool, ↓isi_int_str, ↓isi_int_tuple, ↓isi_int_list, ↓isi_int_dict, ↓isi_str_int, ↓isi_str_bool, ↓isi_str_str, ↓isi_str_tuple, ↓isi_str_list, ↓isi_str_dict, ↓isi_tup_int, ↓isi_tup_bool, ↓isi_tup_str, ↓isi_tup_tuple, ↓isi_tup_list, ↓isi_tup_dict, ↓isi_lst_int, ↓isi_lst_bool, ↓isi_lst_str, ↓isi_lst_tuple, ↓isi_lst_list, ↓isi_lst_dict, decide_eq_true_eq, beq_iff_eq, Bool.not_eq_true', Bool.not_eq_eq_eq_not, Bool.not_true, Bool.not_false, decide_eq_false_iff_not, beq_eq_false_iff_ne, ne_eq, true_and, and_true, if_true, if_false, ite_true, ite_false, reduceIte, Bool.false_eq_true, not_false_eq_true, not_true_eq_false, Int.reduceLT, Int.reduceLE, Int.reduceToNat, Nat.reduceLT, Nat.reduceLeDiff, Int.reducePow, Nat.reduceAdd, Int.reduceAdd, Int.reduceMul, Int.reduceSub, Int.reduceNeg, Nat.reducePow, Int.reduceEq, Nat.reduceEqDiff, List.length_cons, List.length_nil, PySem.sizeLine_eq, str_len_app, str_len_one, wipeD, List.set_cons_zero, List.set_cons_succ, ↓wC_of h.hh, ↓hm_look_for, ↓hm_look_awake, ↓hm_next_turn, ↓hm_lie_down, ↓hm_rise, ↓hm_is_over, ↓hm_put, ↓hm_sleep, ↓hm_wake, ↓hm_move, ↓hm_tick, ↓hm_lateness, ↓hm_nudge, ↓hm_rank, ↓hm_number, ↓hm_line, ↓hm_line_at, ↓hm_order, ↓hm_asleep, ↓hm_sleeper, ↓hm_ending, ↓hm_standing, ↓hm_now, ↓hm_log, ↓hm_who, ↓hm_filled, ↓hm_twin, ↓hf_numbers, ↓hf_beds, ↓hf_ranks, ↓hf_endings, ↓hf_clock, ↓hf_turns, ↓hf_begun, ↓hf_entries]
  refine (put_out h hw).imp2 (fun _ _ z => z.elim) ?_
  rintro _ _ _ ⟨rfl, rfl, rfl⟩
  refine .inr ⟨by simp [List.lookup], by simp, ?_⟩
  simp -failIfUnchanged (disch := (first | (simp only [len_push, len_set]; omega) | omega | assumption)) only [↓wR_ok, ↓wR_err, ↓wE_var0, ↓wE_varS, ↓wE_C, ↓wE_op, ↓wE_cmp, ↓wE_bl, ↓qB_bl, ↓wE_asB, ↓wE_and, ↓wE_or, ↓wE_not, ↓wE_andV, ↓wE_orV, ↓wE_notV, ↓wE_if, ↓wE_nil, ↓wE_cons, ↓wE_fz, ↓wE_lc, ↓wE_tup, ↓wE_lst, ↓wE_call, ↓wE_nopart, ↓qI_int, ↓wE_part, ↓wE_slice, ↓wE_fld, ↓wE_dnew, ↓wE_iter, ↓wE_rev, ↓wE_pos, ↓wE_kws, ↓wE_noa, ↓wE_both, ↓wE_fn, ↓wE_mth, ↓qN_non, ↓wE_mk, ↓wE_meth, ↓wE_neg, ↓wE_chain, ↓wE_comp, ↓wS_nx, ↓wS_bk, ↓wS_ct, ↓wS_seq, ↓wS_drop, ↓wS_ret, ↓wS_retN, ↓wS_if, ↓wS_asg, ↓qL_loc, ↓qCl_lst, ↓wS_retFz, ↓wS_raise, ↓wS_for, ↓wS_try, ↓wG_set0, ↓wG_setS, ↓wG_then, ↓wG_sub, ↓wG_fld, ↓qT_tup, ↓wG_tup, ↓wGs_nil, ↓wGs_cons, ↓endB_nx, ↓endB_rt, ↓endB_er, ↓endB_bk, ↓endB_ct, ↓loopP_nx, ↓loopP_ct, ↓loopP_bk, ↓loopP_rt, ↓loopP_er, ↓qO_some, ↓qO_at0, ↓qO_at1, ↓qO_at2, ↓qO_at3, ↓qO_at4, ↓qO_at5, ↓w_add_int, ↓w_add_str, ↓w_add_tup, ↓w_add_lst, ↓w_sub, ↓w_mod, ↓w_div, ↓w_mul, ↓w_pow, ↓w_band, ↓w_lt, ↓w_le, ↓w_gt, ↓w_ge, ↓w_is, ↓w_isNot, ↓nonN, ↓nonI, ↓nonS, ↓nonT, ↓nonL, ↓nonLoc, ↓w_eq_int, ↓w_ne_int, ↓w_eq_str, ↓w_ne_str, ↓qIx_lst, ↓qIx_dK, ↓qIxS_dK, ↓w_ix_loc, ↓w_ix_locS, ↓w_ix_lst, ↓w_ix_tup, ↓w_ix_str, ↓qLS_0, ↓qLS_1, ↓qLS_2, ↓qLS_3, ↓qSet_lst, ↓qSet_dK, ↓qSetS_dK, ↓w_setI, ↓w_setS, ↓qF_ins, ↓w_fld, ↓qSF_ins, ↓w_setF, ↓w_len_str, ↓w_len_lst, ↓w_len_tup, ↓qLen_lst, ↓qLen_dK, ↓w_len_loc, ↓w_max, ↓w_min, ↓w_int_int, ↓w_int_bl, ↓w_str_int, ↓qDc_dK, ↓w_dict, ↓w_tuple_lst, ↓w_tuple_tup, ↓w_tuple_loc, ↓w_list_lst, ↓w_list_tup, ↓w_iter_lst, ↓w_iter_tup, ↓w_iter_str, ↓w_iter_loc, ↓w_rng1, ↓w_rng2, ↓w_sl_str, ↓w_sl_tup, ↓w_sl_lst, ↓w_append, ↓w_lclear, ↓tyS_str, ↓tyL_lst, ↓qM_loc, ↓look1, ↓wC_set, ↓wC_setn, ↓wC_push2, ↓wC_pushn, ↓wE_yes, ↓wE_revL, ↓qO_lst, ↓w_all_lst, ↓w_join_lst, ↓isi_non_int, ↓isi_non_bool, ↓isi_non_str, ↓isi_non_tuple, ↓isi_non_list, ↓isi_non_dict, ↓isi_bl_int, ↓isi_bl_bool, ↓isi_bl_str, ↓isi_bl_tuple, ↓isi_bl_list, ↓isi_bl_dict, ↓isi_int_int, ↓isi_int_bool, ↓isi_int_str, ↓isi_int_tuple, ↓isi_int_list, ↓isi_int_dict, ↓isi_str_int, ↓isi_str_bool, ↓isi_str_str, ↓isi_str_tuple, ↓isi_str_list, ↓isi_str_dict, ↓isi_tup_int, ↓isi_tup_bool, ↓isi_tup_str, ↓isi_tup_tuple, ↓isi_tup_list, ↓isi_tup_dict, ↓isi_lst_int, ↓isi_lst_bool, ↓isi_lst_str, ↓isi_lst_tuple, ↓isi_lst_list, ↓isi_lst_dict, decide_eq_true_eq, beq_iff_eq, Bool.not_eq_true', Bool.not_eq_eq_eq_not, Bool.not_true, Bool.not_false, decide_eq_false_iff_not, beq_eq_false_iff_ne, ne_eq, true_and, and_true, if_true, if_false, ite_true, ite_false, reduceIte, Bool.false_eq_true, not_false_eq_true, not_true_eq_false, Int.reduceLT, Int.reduceLE, Int.reduceToNat, Nat.reduceLT, Nat.reduceLeDiff, Int.reducePow, Nat.reduceAdd, Int.reduceAdd, Int.reduceMul, Int.reduceSub, Int.reduceNeg, Nat.reducePow, Int.reduceEq, Nat.reduceEqDiff, List.length_cons, List.length_nil, PySem.sizeLine_eq, str_len_app, str_len_one, wipeD, List.set_cons_zero, List.set_cons_succ]
theorem strange_number {c : Cl} {μ : Mem} {A : HA} {S : HS} {w : Str} (h : HallAt c μ A S) (hw : w ∉ S.num.map (·.1)) :
    wR (m_x__law_strange c [.loc A.a, .str w, .bl false] μ) (fun v μ' => v = .str w ∧ μ' = μ) noE := by
  unfold m_x__law_strange
  rw [w_run]
  show wS (t_x__law_strange c) [some (.loc A.a), some (.str w), some (.bl false), none, none] μ _
  unfold t_x__law_strange
  simp -failIfUnchanged (disch := (first | (simp only [len_push, len_set]; omega) | omega | assumption)) only [↓wR_ok, ↓wR_err, ↓wE_var0, ↓wE_varS, ↓wE_C, ↓wE_op, ↓wE_cmp, ↓wE_bl, ↓qB_bl, ↓wE_asB, ↓wE_and, ↓wE_or, ↓wE_not, ↓wE_andV, ↓wE_orV, ↓wE_notV, ↓wE_if, ↓wE_nil, ↓wE_cons, ↓wE_fz, ↓wE_lc, ↓wE_tup, ↓wE_lst, ↓wE_call, ↓wE_nopart, ↓qI_int, ↓wE_part, ↓wE_slice, ↓wE_fld, ↓wE_dnew, ↓wE_iter, ↓wE_rev, ↓wE_pos, ↓wE_kws, ↓wE_noa, ↓wE_both, ↓wE_fn, ↓wE_mth, ↓qN_non, ↓wE_mk, ↓wE_meth, ↓wE_neg, ↓wE_chain, ↓wE_comp, ↓wS_nx, ↓wS_bk, ↓wS_ct, ↓wS_seq, ↓wS_drop, ↓wS_ret, ↓wS_retN, ↓wS_if, ↓wS_asg, ↓qL_loc, ↓qCl_lst, ↓wS_retFz, ↓wS_raise, ↓wS_for, ↓wS_try, ↓wG_set0, ↓wG_setS, ↓wG_then, ↓wG_sub, ↓wG_fld, ↓qT_tup, ↓wG_tup, ↓wGs_nil, ↓wGs_cons, ↓endB_nx, ↓endB_rt, ↓endB_er, ↓endB_bk, ↓endB_ct, ↓loopP_nx, ↓loopP_ct, ↓loopP_bk, ↓loopP_rt, ↓loopP_er, ↓qO_some, ↓qO_at0, ↓qO_at1, ↓qO_at2, ↓qO_at3, ↓qO_at4, ↓qO_at5, ↓w_add_int, ↓w_add_str, ↓w_add_tup, ↓w_add_lst, ↓w_sub, ↓w_mod, ↓w_div, ↓w_mul, ↓w_pow, ↓w_band, ↓w_lt, ↓w_le, ↓w_gt, ↓w_ge, ↓w_is, ↓w_isNot, ↓nonN, ↓nonI, ↓nonS, ↓nonT, ↓nonL, ↓nonLoc, ↓w_eq_int, ↓w_ne_int, ↓w_eq_str, ↓w_ne_str, ↓qIx_lst, ↓qIx_dK, ↓qIxS_dK, ↓w_ix_loc, ↓w_ix_locS, ↓w_ix_lst, ↓w_ix_tup, ↓w_ix_str, ↓qLS_0, ↓qLS_1, ↓qLS_2, ↓qLS_3, ↓qSet_lst, ↓qSet_dK, ↓qSetS_dK, ↓w_setI, ↓w_setS, ↓qF_ins, ↓w_fld, ↓qSF_ins, ↓w_setF, ↓w_len_str, ↓w_len_lst, ↓w_len_tup, ↓qLen_lst, ↓qLen_dK, ↓w_len_loc, ↓w_max, ↓w_min, ↓w_int_int, ↓w_int_bl, ↓w_str_int, ↓qDc_dK, ↓w_dict, ↓w_tuple_lst, ↓w_tuple_tup, ↓w_tuple_loc, ↓w_list_lst, ↓w_list_tup, ↓w_iter_lst, ↓w_iter_tup, ↓w_iter_str, ↓w_iter_loc, ↓w_rng1, ↓w_rng2, ↓w_sl_str, ↓w_sl_tup, ↓w_sl_lst, ↓w_append, ↓w_lclear, ↓tyS_str, ↓tyL_lst, ↓qM_loc, ↓look1, ↓wC_set, ↓wC_setn, ↓wC_push2, ↓wC_pushn, ↓wE_yes, ↓wE_revL, ↓qO_lst, ↓w_all_lst, ↓w_join_lst, ↓isi_non_int, ↓isi_non_bool, ↓isi_non_str, ↓isi_non_tuple, ↓isi_non_list, ↓isi_non_dict, ↓isi_bl_int, ↓isi_bl_bool, ↓isi_bl_str, ↓isi_bl_tuple, ↓isi_bl_list, ↓isi_bl_dict, ↓isi_int_int, ↓isi_int_bool, ↓isi_int_str, ↓isi_int_tuple, ↓isi_int_list, ↓isi_int_dict, ↓isi_str_int, ↓isi_str_bool, ↓isi_str_str, ↓isi_str_tuple, ↓isi_str_list, ↓isi_str_dict, ↓isi_tup_int, ↓isi_tup_bool, ↓isi_tup_str, ↓isi_tup_tuple, ↓isi_tup_list, ↓isi_tup_dict, ↓isi_lst_int, ↓isi_lst_bool, ↓isi_lst_str, ↓isi_lst_tuple, ↓isi_lst_list, ↓isi_lst_dict, decide_eq_true_eq, beq_iff_eq, Bool.not_eq_true', Bool.not_eq_eq_eq_not, Bool.not_true, Bool.not_false, decide_eq_false_iff_not, beq_eq_false_iff_ne, ne_eq, true_and, and_true, if_true, if_false, ite_true, ite_false, reduceIte, Bool.false_eq_true, not_false_eq_true, not_true_eq_false, Int.reduceLT, Int.reduceLE, Int.reduceToNat, Nat.reduceLT, Nat.reduceLeDiff, Int.reducePow, Nat.reduceAdd, Int.reduceAdd, Int.reduceMul, Int.reduceSub, Int.reduceNeg, Nat.reducePow, Int.reduceEq, Nat.reduceEqDiff, List.length_cons, List.length_nil, PySem.sizeLine_eq, str_len_app, str_len_one, wipeD, List.set_cons_zero, List.set_cons_succ, ↓wC_of h.hh, ↓hm_look_for, ↓hm_look_awake, ↓hm_next_turn, ↓hm_lie_down, ↓hm_rise, ↓hm_is_over, ↓hm_put, ↓hm_sleep, ↓hm_wake, ↓hm_move, ↓hm_tick, ↓hm_lateness, ↓hm_nudge, ↓hm_rank, ↓hm_number, ↓hm_line, ↓hm_line_at, ↓hm_order, ↓hm_asleep, ↓hm_sleeper, ↓hm_ending, ↓hm_standing, ↓hm_now, ↓hm_log, ↓hm_who, ↓hm_filled, ↓hm_twin, ↓hf_numbers, ↓hf_beds, ↓hf_ranks, ↓hf_endings, ↓hf_clock, ↓hf_turns, ↓hf_begun, ↓hf_entries]
  refine (number_out h hw).imp2 (fun _ _ z => z.elim) ?_
  rintro _ _ _ ⟨rfl, rfl, rfl⟩
  refine .inr ⟨by simp [List.lookup], by simp, ?_⟩
  simp -failIfUnchanged (disch := (first | (simp only [len_push, len_set]; omega) | omega | assumption)) only [↓wR_ok, ↓wR_err, ↓wE_var0, ↓wE_varS, ↓wE_C, ↓wE_op, ↓wE_cmp, ↓wE_bl, ↓qB_bl, ↓wE_asB, ↓wE_and, ↓wE_or, ↓wE_not, ↓wE_andV, ↓wE_orV, ↓wE_notV, ↓wE_if, ↓wE_nil, ↓wE_cons, ↓wE_fz, ↓wE_lc, ↓wE_tup, ↓wE_lst, ↓wE_call, ↓wE_nopart, ↓qI_int, ↓wE_part, ↓wE_slice, ↓wE_fld, ↓wE_dnew, ↓wE_iter, ↓wE_rev, ↓wE_pos, ↓wE_kws, ↓wE_noa, ↓wE_both, ↓wE_fn, ↓wE_mth, ↓qN_non, ↓wE_mk, ↓wE_meth, ↓wE_neg, ↓wE_chain, ↓wE_comp, ↓wS_nx, ↓wS_bk, ↓wS_ct, ↓wS_seq, ↓wS_drop, ↓wS_ret, ↓wS_retN, ↓wS_if, ↓wS_asg, ↓qL_loc, ↓qCl_lst, ↓wS_retFz, ↓wS_raise, ↓wS_for, ↓wS_try, ↓wG_set0, ↓wG_setS, ↓wG_then, ↓wG_sub, ↓wG_fld, ↓qT_tup, ↓wG_tup, ↓wGs_nil, ↓wGs_cons, ↓endB_nx, ↓endB_rt, ↓endB_er, ↓endB_bk, ↓endB_ct, ↓loopP_nx, ↓loopP_ct, ↓loopP_bk, ↓loopP_rt, ↓loopP_er, ↓qO_some, ↓qO_at0, ↓qO_at1, ↓qO_at2, ↓qO_at3, ↓qO_at4, ↓qO_at5, ↓w_add_int, ↓w_add_str, ↓w_add_tup, ↓w_add_lst, ↓w_sub, ↓w_mod, ↓w_div, ↓w_mul, ↓w_pow, ↓w_band, ↓w_lt, ↓w_le, ↓w_gt, ↓w_ge, ↓w_is, ↓w_isNot, ↓nonN, ↓nonI, ↓nonS, ↓nonT, ↓nonL, ↓nonLoc, ↓w_eq_int, ↓w_ne_int, ↓w_eq_str, ↓w_ne_str, ↓qIx_lst, ↓qIx_dK, ↓qIxS_dK, ↓w_ix_loc, ↓w_ix_locS, ↓w_ix_lst, ↓w_ix_tup, ↓w_ix_str, ↓qLS_0, ↓qLS_1, ↓qLS_2, ↓qLS_3, ↓qSet_lst, ↓qSet_dK, ↓qSetS_dK, ↓w_setI, ↓w_setS, ↓qF_ins, ↓w_fld, ↓qSF_ins, ↓w_setF, ↓w_len_str, ↓w_len_lst, ↓w_len_tup, ↓qLen_lst, ↓qLen_dK, ↓w_len_loc, ↓w_max, ↓w_min, ↓w_int_int, ↓w_int_bl, ↓w_str_int, ↓qDc_dK, ↓w_dict, ↓w_tuple_lst, ↓w_tuple_tup, ↓w_tuple_loc, ↓w_list_lst, ↓w_list_tup, ↓w_iter_lst, ↓w_iter_tup, ↓w_iter_str, ↓w_iter_loc, ↓w_rng1, ↓w_rng2, ↓w_sl_str, ↓w_sl_tup, ↓w_sl_lst, ↓w_append, ↓w_lclear, ↓tyS_str, ↓tyL_lst, ↓qM_loc, ↓look1, ↓wC_set, ↓wC_setn, ↓wC_push2, ↓wC_pushn, ↓wE_yes, ↓wE_revL, ↓qO_lst, ↓w_all_lst, ↓w_join_lst, ↓isi_non_int, ↓isi_non_bool, ↓isi_non_str, ↓isi_non_tuple, ↓isi_non_list, ↓isi_non_dict, ↓isi_bl_int, ↓isi_bl_bool, ↓isi_bl_str, ↓isi_bl_tuple, ↓isi_bl_list, ↓isi_bl_dict, ↓isi_int_int, ↓isi_int_bool, ↓isi_int_str, ↓isi_int_tuple, ↓isi_int_list, ↓isi_int_dict, ↓isi_str_int, ↓isi_str_bool, ↓isi_str_str, ↓isi_str_tuple, ↓isi_str_list, ↓isi_str_dict, ↓isi_tup_int, ↓isi_tup_bool, ↓isi_tup_str, ↓isi_tup_tuple, ↓isi_tup_list, ↓isi_tup_dict, ↓isi_lst_int, ↓isi_lst_bool, ↓isi_lst_str, ↓isi_lst_tuple, ↓isi_lst_list, ↓isi_lst_dict, decide_eq_true_eq, beq_iff_eq, Bool.not_eq_true', Bool.not_eq_eq_eq_not, Bool.not_true, Bool.not_false, decide_eq_false_iff_not, beq_eq_false_iff_ne, ne_eq, true_and, and_true, if_true, if_false, ite_true, ite_false, reduceIte, Bool.false_eq_true, not_false_eq_true, not_true_eq_false, Int.reduceLT, Int.reduceLE, Int.reduceToNat, Nat.reduceLT, Nat.reduceLeDiff, Int.reducePow, Nat.reduceAdd, Int.reduceAdd, Int.reduceMul, Int.reduceSub, Int.reduceNeg, Nat.reducePow, Int.reduceEq, Nat.reduceEqDiff, List.length_cons, List.length_nil, PySem.sizeLine_eq, str_len_app, str_len_one, wipeD, List.set_cons_zero, List.set_cons_succ]
theorem law_ok (c : Cl) (ns : List Int) (hn : ns.length ≤ 63) : wR (m_n_law c [.lst (ns.map D.int)] { cells := [] }) (fun v _ => v = .bl true) noE := by
  unfold m_n_law
  rw [w_run]
  show wS (t_n_law c) [some (.lst (ns.map D.int)), none, none, none, none, none, none, none, none] { cells := [] } _
  unfold t_n_law
  simp -failIfUnchanged (disch := (first | (simp only [len_push, len_set]; omega) | omega | assumption)) only [↓wR_ok, ↓wR_err, ↓wE_var0, ↓wE_varS, ↓wE_C, ↓wE_op, ↓wE_cmp, ↓wE_bl, ↓qB_bl, ↓wE_asB, ↓wE_and, ↓wE_or, ↓wE_not, ↓wE_andV, ↓wE_orV, ↓wE_notV, ↓wE_if, ↓wE_nil, ↓wE_cons, ↓wE_fz, ↓wE_lc, ↓wE_tup, ↓wE_lst, ↓wE_call, ↓wE_nopart, ↓qI_int, ↓wE_part, ↓wE_slice, ↓wE_fld, ↓wE_dnew, ↓wE_iter, ↓wE_rev, ↓wE_pos, ↓wE_kws, ↓wE_noa, ↓wE_both, ↓wE_fn, ↓wE_mth, ↓qN_non, ↓wE_mk, ↓wE_meth, ↓wE_neg, ↓wE_chain, ↓wE_comp, ↓wS_nx, ↓wS_bk, ↓wS_ct, ↓wS_seq, ↓wS_drop, ↓wS_ret, ↓wS_retN, ↓wS_if, ↓wS_asg, ↓qL_loc, ↓qCl_lst, ↓wS_retFz, ↓wS_raise, ↓wS_for, ↓wS_try, ↓wG_set0, ↓wG_setS, ↓wG_then, ↓wG_sub, ↓wG_fld, ↓qT_tup, ↓wG_tup, ↓wGs_nil, ↓wGs_cons, ↓endB_nx, ↓endB_rt, ↓endB_er, ↓endB_bk, ↓endB_ct, ↓loopP_nx, ↓loopP_ct, ↓loopP_bk, ↓loopP_rt, ↓loopP_er, ↓qO_some, ↓qO_at0, ↓qO_at1, ↓qO_at2, ↓qO_at3, ↓qO_at4, ↓qO_at5, ↓w_add_int, ↓w_add_str, ↓w_add_tup, ↓w_add_lst, ↓w_sub, ↓w_mod, ↓w_div, ↓w_mul, ↓w_pow, ↓w_band, ↓w_lt, ↓w_le, ↓w_gt, ↓w_ge, ↓w_is, ↓w_isNot, ↓nonN, ↓nonI, ↓nonS, ↓nonT, ↓nonL, ↓nonLoc, ↓w_eq_int, ↓w_ne_int, ↓w_eq_str, ↓w_ne_str, ↓qIx_lst, ↓qIx_dK, ↓qIxS_dK, ↓w_ix_loc, ↓w_ix_locS, ↓w_ix_lst, ↓w_ix_tup, ↓w_ix_str, ↓qLS_0, ↓qLS_1, ↓qLS_2, ↓qLS_3, ↓qSet_lst, ↓qSet_dK, ↓qSetS_dK, ↓w_setI, ↓w_setS, ↓qF_ins, ↓w_fld, ↓qSF_ins, ↓w_setF, ↓w_len_str, ↓w_len_lst, ↓w_len_tup, ↓qLen_lst, ↓qLen_dK, ↓w_len_loc, ↓w_max, ↓w_min, ↓w_int_int, ↓w_int_bl, ↓w_str_int, ↓qDc_dK, ↓w_dict, ↓w_tuple_lst, ↓w_tuple_tup, ↓w_tuple_loc, ↓w_list_lst, ↓w_list_tup, ↓w_iter_lst, ↓w_iter_tup, ↓w_iter_str, ↓w_iter_loc, ↓w_rng1, ↓w_rng2, ↓w_sl_str, ↓w_sl_tup, ↓w_sl_lst, ↓w_append, ↓w_lclear, ↓tyS_str, ↓tyL_lst, ↓qM_loc, ↓look1, ↓wC_set, ↓wC_setn, ↓wC_push2, ↓wC_pushn, ↓wE_yes, ↓wE_revL, ↓qO_lst, ↓w_all_lst, ↓w_join_lst, ↓isi_non_int, ↓isi_non_bool, ↓isi_non_str, ↓isi_non_tuple, ↓isi_non_list, ↓isi_non_dict, ↓isi_bl_int, ↓isi_bl_bool, ↓isi_bl_str, ↓isi_bl_tuple, ↓isi_bl_list, ↓isi_bl_dict, ↓isi_int_int, ↓isi_int_bool, ↓isi_int_str, ↓isi_int_tuple, ↓isi_int_list, ↓isi_int_dict, ↓isi_str_int, ↓isi_str_bool, ↓isi_str_str, ↓isi_str_tuple, ↓isi_str_list, ↓isi_str_dict, ↓isi_tup_int, ↓isi_tup_bool, ↓isi_tup_str, ↓isi_tup_tuple, ↓isi_tup_list, ↓isi_tup_dict, ↓isi_lst_int, ↓isi_lst_bool, ↓isi_lst_str, ↓isi_lst_tuple, ↓isi_lst_list, ↓isi_lst_dict, decide_eq_true_eq, beq_iff_eq, Bool.not_eq_true', Bool.not_eq_eq_eq_not, Bool.not_true, Bool.not_false, decide_eq_false_iff_not, beq_eq_false_iff_ne, ne_eq, true_and, and_true, if_true, if_false, ite_true, ite_false, reduceIte, Bool.false_eq_true, not_false_eq_true, not_true_eq_false, Int.reduceLT, Int.reduceLE, Int.reduceToNat, Nat.reduceLT, Nat.reduceLeDiff, Int.reducePow, Nat.reduceAdd, Int.reduceAdd, Int.reduceMul, Int.reduceSub, Int.reduceNeg, Nat.reducePow, Int.reduceEq, Nat.reduceEqDiff, List.length_cons, List.length_nil, PySem.sizeLine_eq, str_len_app, str_len_one, wipeD, List.set_cons_zero, List.set_cons_succ]
  refine (source_ok (by omega) (by omega) hn).go ?_
  rintro _ μ1 ⟨rfl, hs1, f1⟩
  simp -failIfUnchanged (disch := (first | (simp only [len_push, len_set]; omega) | omega | assumption)) only [↓wR_ok, ↓wR_err, ↓wE_var0, ↓wE_varS, ↓wE_C, ↓wE_op, ↓wE_cmp, ↓wE_bl, ↓qB_bl, ↓wE_asB, ↓wE_and, ↓wE_or, ↓wE_not, ↓wE_andV, ↓wE_orV, ↓wE_notV, ↓wE_if, ↓wE_nil, ↓wE_cons, ↓wE_fz, ↓wE_lc, ↓wE_tup, ↓wE_lst, ↓wE_call, ↓wE_nopart, ↓qI_int, ↓wE_part, ↓wE_slice, ↓wE_fld, ↓wE_dnew, ↓wE_iter, ↓wE_rev, ↓wE_pos, ↓wE_kws, ↓wE_noa, ↓wE_both, ↓wE_fn, ↓wE_mth, ↓qN_non, ↓wE_mk, ↓wE_meth, ↓wE_neg, ↓wE_chain, ↓wE_comp, ↓wS_nx, ↓wS_bk, ↓wS_ct, ↓wS_seq, ↓wS_drop, ↓wS_ret, ↓wS_retN, ↓wS_if, ↓wS_asg, ↓qL_loc, ↓qCl_lst, ↓wS_retFz, ↓wS_raise, ↓wS_for, ↓wS_try, ↓wG_set0, ↓wG_setS, ↓wG_then, ↓wG_sub, ↓wG_fld, ↓qT_tup, ↓wG_tup, ↓wGs_nil, ↓wGs_cons, ↓endB_nx, ↓endB_rt, ↓endB_er, ↓endB_bk, ↓endB_ct, ↓loopP_nx, ↓loopP_ct, ↓loopP_bk, ↓loopP_rt, ↓loopP_er, ↓qO_some, ↓qO_at0, ↓qO_at1, ↓qO_at2, ↓qO_at3, ↓qO_at4, ↓qO_at5, ↓w_add_int, ↓w_add_str, ↓w_add_tup, ↓w_add_lst, ↓w_sub, ↓w_mod, ↓w_div, ↓w_mul, ↓w_pow, ↓w_band, ↓w_lt, ↓w_le, ↓w_gt, ↓w_ge, ↓w_is, ↓w_isNot, ↓nonN, ↓nonI, ↓nonS, ↓nonT, ↓nonL, ↓nonLoc, ↓w_eq_int, ↓w_ne_int, ↓w_eq_str, ↓w_ne_str, ↓qIx_lst, ↓qIx_dK, ↓qIxS_dK, ↓w_ix_loc, ↓w_ix_locS, ↓w_ix_lst, ↓w_ix_tup, ↓w_ix_str, ↓qLS_0, ↓qLS_1, ↓qLS_2, ↓qLS_3, ↓qSet_lst, ↓qSet_dK, ↓qSetS_dK, ↓w_setI, ↓w_setS, ↓qF_ins, ↓w_fld, ↓qSF_ins, ↓w_setF, ↓w_len_str, ↓w_len_lst, ↓w_len_tup, ↓qLen_lst, ↓qLen_dK, ↓w_len_loc, ↓w_max, ↓w_min, ↓w_int_int, ↓w_int_bl, ↓w_str_int, ↓qDc_dK, ↓w_dict, ↓w_tuple_lst, ↓w_tuple_tup, ↓w_tuple_loc, ↓w_list_lst, ↓w_list_tup, ↓w_iter_lst, ↓w_iter_tup, ↓w_iter_str, ↓w_iter_loc, ↓w_rng1, ↓w_rng2, ↓w_sl_str, ↓w_sl_tup, ↓w_sl_lst, ↓w_append, ↓w_lclear, ↓tyS_str, ↓tyL_lst, ↓qM_loc, ↓look1, ↓wC_set, ↓wC_setn, ↓wC_push2, ↓wC_pushn, ↓wE_yes, ↓wE_revL, ↓qO_lst, ↓w_all_lst, ↓w_join_lst, ↓isi_non_int, ↓isi_non_bool, ↓isi_non_str, ↓isi_non_tuple, ↓isi_non_list, ↓isi_non_dict, ↓isi_bl_int, ↓isi_bl_bool, ↓isi_bl_str, ↓isi_bl_tuple, ↓isi_bl_list, ↓isi_bl_dict, ↓isi_int_int, ↓isi_int_bool, ↓isi_int_str, ↓isi_int_tuple, ↓isi_int_list, ↓isi_int_dict, ↓isi_str_int, ↓isi_str_bool, ↓isi_str_str, ↓isi_str_tuple, ↓isi_str_list, ↓isi_str_dict, ↓isi_tup_int, ↓isi_tup_bool, ↓isi_tup_str, ↓isi_tup_tuple, ↓isi_tup_list, ↓isi_tup_dict, ↓isi_lst_int, ↓isi_lst_bool, ↓isi_lst_str, ↓isi_lst_tuple, ↓isi_lst_list, ↓isi_lst_dict, decide_eq_true_eq, beq_iff_eq, Bool.not_eq_true', Bool.not_eq_eq_eq_not, Bool.not_true, Bool.not_false, decide_eq_false_iff_not, beq_eq_false_iff_ne, ne_eq, true_and, and_true, if_true, if_false, ite_true, ite_false, reduceIte, Bool.false_eq_true, not_false_eq_true, not_true_eq_false, Int.reduceLT, Int.reduceLE, Int.reduceToNat, Nat.reduceLT, Nat.reduceLeDiff, Int.reducePow, Nat.reduceAdd, Int.reduceAdd, Int.reduceMul, Int.reduceSub, Int.reduceNeg, Nat.reducePow, Int.reduceEq, Nat.reduceEqDiff, List.length_cons, List.length_nil, PySem.sizeLine_eq, str_len_app, str_len_one, wipeD, List.set_cons_zero, List.set_cons_succ]
  refine (draw_ok hs1 (by omega) (by omega) (by omega)).go ?_
  rintro _ μ2 ⟨k, rfl, hk0, hk1, hs2, f2⟩
  simp -failIfUnchanged (disch := (first | (simp only [len_push, len_set]; omega) | omega | assumption)) only [↓wR_ok, ↓wR_err, ↓wE_var0, ↓wE_varS, ↓wE_C, ↓wE_op, ↓wE_cmp, ↓wE_bl, ↓qB_bl, ↓wE_asB, ↓wE_and, ↓wE_or, ↓wE_not, ↓wE_andV, ↓wE_orV, ↓wE_notV, ↓wE_if, ↓wE_nil, ↓wE_cons, ↓wE_fz, ↓wE_lc, ↓wE_tup, ↓wE_lst, ↓wE_call, ↓wE_nopart, ↓qI_int, ↓wE_part, ↓wE_slice, ↓wE_fld, ↓wE_dnew, ↓wE_iter, ↓wE_rev, ↓wE_pos, ↓wE_kws, ↓wE_noa, ↓wE_both, ↓wE_fn, ↓wE_mth, ↓qN_non, ↓wE_mk, ↓wE_meth, ↓wE_neg, ↓wE_chain, ↓wE_comp, ↓wS_nx, ↓wS_bk, ↓wS_ct, ↓wS_seq, ↓wS_drop, ↓wS_ret, ↓wS_retN, ↓wS_if, ↓wS_asg, ↓qL_loc, ↓qCl_lst, ↓wS_retFz, ↓wS_raise, ↓wS_for, ↓wS_try, ↓wG_set0, ↓wG_setS, ↓wG_then, ↓wG_sub, ↓wG_fld, ↓qT_tup, ↓wG_tup, ↓wGs_nil, ↓wGs_cons, ↓endB_nx, ↓endB_rt, ↓endB_er, ↓endB_bk, ↓endB_ct, ↓loopP_nx, ↓loopP_ct, ↓loopP_bk, ↓loopP_rt, ↓loopP_er, ↓qO_some, ↓qO_at0, ↓qO_at1, ↓qO_at2, ↓qO_at3, ↓qO_at4, ↓qO_at5, ↓w_add_int, ↓w_add_str, ↓w_add_tup, ↓w_add_lst, ↓w_sub, ↓w_mod, ↓w_div, ↓w_mul, ↓w_pow, ↓w_band, ↓w_lt, ↓w_le, ↓w_gt, ↓w_ge, ↓w_is, ↓w_isNot, ↓nonN, ↓nonI, ↓nonS, ↓nonT, ↓nonL, ↓nonLoc, ↓w_eq_int, ↓w_ne_int, ↓w_eq_str, ↓w_ne_str, ↓qIx_lst, ↓qIx_dK, ↓qIxS_dK, ↓w_ix_loc, ↓w_ix_locS, ↓w_ix_lst, ↓w_ix_tup, ↓w_ix_str, ↓qLS_0, ↓qLS_1, ↓qLS_2, ↓qLS_3, ↓qSet_lst, ↓qSet_dK, ↓qSetS_dK, ↓w_setI, ↓w_setS, ↓qF_ins, ↓w_fld, ↓qSF_ins, ↓w_setF, ↓w_len_str, ↓w_len_lst, ↓w_len_tup, ↓qLen_lst, ↓qLen_dK, ↓w_len_loc, ↓w_max, ↓w_min, ↓w_int_int, ↓w_int_bl, ↓w_str_int, ↓qDc_dK, ↓w_dict, ↓w_tuple_lst, ↓w_tuple_tup, ↓w_tuple_loc, ↓w_list_lst, ↓w_list_tup, ↓w_iter_lst, ↓w_iter_tup, ↓w_iter_str, ↓w_iter_loc, ↓w_rng1, ↓w_rng2, ↓w_sl_str, ↓w_sl_tup, ↓w_sl_lst, ↓w_append, ↓w_lclear, ↓tyS_str, ↓tyL_lst, ↓qM_loc, ↓look1, ↓wC_set, ↓wC_setn, ↓wC_push2, ↓wC_pushn, ↓wE_yes, ↓wE_revL, ↓qO_lst, ↓w_all_lst, ↓w_join_lst, ↓isi_non_int, ↓isi_non_bool, ↓isi_non_str, ↓isi_non_tuple, ↓isi_non_list, ↓isi_non_dict, ↓isi_bl_int, ↓isi_bl_bool, ↓isi_bl_str, ↓isi_bl_tuple, ↓isi_bl_list, ↓isi_bl_dict, ↓isi_int_int, ↓isi_int_bool, ↓isi_int_str, ↓isi_int_tuple, ↓isi_int_list, ↓isi_int_dict, ↓isi_str_int, ↓isi_str_bool, ↓isi_str_str, ↓isi_str_tuple, ↓isi_str_list, ↓isi_str_dict, ↓isi_tup_int, ↓isi_tup_bool, ↓isi_tup_str, ↓isi_tup_tuple, ↓isi_tup_list, ↓isi_tup_dict, ↓isi_lst_int, ↓isi_lst_bool, ↓isi_lst_str, ↓isi_lst_tuple, ↓isi_lst_list, ↓isi_lst_dict, decide_eq_true_eq, beq_iff_eq, Bool.not_eq_true', Bool.not_eq_eq_eq_not, Bool.not_true, Bool.not_false, decide_eq_false_iff_not, beq_eq_false_iff_ne, ne_eq, true_and, and_true, if_true, if_false, ite_true, ite_false, reduceIte, Bool.false_eq_true, not_false_eq_true, not_true_eq_false, Int.reduceLT, Int.reduceLE, Int.reduceToNat, Nat.reduceLT, Nat.reduceLeDiff, Int.reducePow, Nat.reduceAdd, Int.reduceAdd, Int.reduceMul, Int.reduceSub, Int.reduceNeg, Nat.reducePow, Int.reduceEq, Nat.reduceEqDiff, List.length_cons, List.length_nil, PySem.sizeLine_eq, str_len_app, str_len_one, wipeD, List.set_cons_zero, List.set_cons_succ]
  have l2 : μ2.lk = [] := f2.lk.trans f1.lk
  refine (names_ok hs2 (by omega) (by omega) (by omega) (by omega) l2).go ?_
  rintro _ μ3 ⟨ws, rfl, hw1, hw2, hw3, hs3, f3⟩
  simp -failIfUnchanged (disch := (first | (simp only [len_push, len_set]; omega) | omega | assumption)) only [↓wR_ok, ↓wR_err, ↓wE_var0, ↓wE_varS, ↓wE_C, ↓wE_op, ↓wE_cmp, ↓wE_bl, ↓qB_bl, ↓wE_asB, ↓wE_and, ↓wE_or, ↓wE_not, ↓wE_andV, ↓wE_orV, ↓wE_notV, ↓wE_if, ↓wE_nil, ↓wE_cons, ↓wE_fz, ↓wE_lc, ↓wE_tup, ↓wE_lst, ↓wE_call, ↓wE_nopart, ↓qI_int, ↓wE_part, ↓wE_slice, ↓wE_fld, ↓wE_dnew, ↓wE_iter, ↓wE_rev, ↓wE_pos, ↓wE_kws, ↓wE_noa, ↓wE_both, ↓wE_fn, ↓wE_mth, ↓qN_non, ↓wE_mk, ↓wE_meth, ↓wE_neg, ↓wE_chain, ↓wE_comp, ↓wS_nx, ↓wS_bk, ↓wS_ct, ↓wS_seq, ↓wS_drop, ↓wS_ret, ↓wS_retN, ↓wS_if, ↓wS_asg, ↓qL_loc, ↓qCl_lst, ↓wS_retFz, ↓wS_raise, ↓wS_for, ↓wS_try, ↓wG_set0, ↓wG_setS, ↓wG_then, ↓wG_sub, ↓wG_fld, ↓qT_tup, ↓wG_tup, ↓wGs_nil, ↓wGs_cons, ↓endB_nx, ↓endB_rt, ↓endB_er, ↓endB_bk, ↓endB_ct, ↓loopP_nx, ↓loopP_ct, ↓loopP_bk, ↓loopP_rt, ↓loopP_er, ↓qO_some, ↓qO_at0, ↓qO_at1, ↓qO_at2, ↓qO_at3, ↓qO_at4, ↓qO_at5, ↓w_add_int, ↓w_add_str, ↓w_add_tup, ↓w_add_lst, ↓w_sub, ↓w_mod, ↓w_div, ↓w_mul, ↓w_pow, ↓w_band, ↓w_lt, ↓w_le, ↓w_gt, ↓w_ge, ↓w_is, ↓w_isNot, ↓nonN, ↓nonI, ↓nonS, ↓nonT, ↓nonL, ↓nonLoc, ↓w_eq_int, ↓w_ne_int, ↓w_eq_str, ↓w_ne_str, ↓qIx_lst, ↓qIx_dK, ↓qIxS_dK, ↓w_ix_loc, ↓w_ix_locS, ↓w_ix_lst, ↓w_ix_tup, ↓w_ix_str, ↓qLS_0, ↓qLS_1, ↓qLS_2, ↓qLS_3, ↓qSet_lst, ↓qSet_dK, ↓qSetS_dK, ↓w_setI, ↓w_setS, ↓qF_ins, ↓w_fld, ↓qSF_ins, ↓w_setF, ↓w_len_str, ↓w_len_lst, ↓w_len_tup, ↓qLen_lst, ↓qLen_dK, ↓w_len_loc, ↓w_max, ↓w_min, ↓w_int_int, ↓w_int_bl, ↓w_str_int, ↓qDc_dK, ↓w_dict, ↓w_tuple_lst, ↓w_tuple_tup, ↓w_tuple_loc, ↓w_list_lst, ↓w_list_tup, ↓w_iter_lst, ↓w_iter_tup, ↓w_iter_str, ↓w_iter_loc, ↓w_rng1, ↓w_rng2, ↓w_sl_str, ↓w_sl_tup, ↓w_sl_lst, ↓w_append, ↓w_lclear, ↓tyS_str, ↓tyL_lst, ↓qM_loc, ↓look1, ↓wC_set, ↓wC_setn, ↓wC_push2, ↓wC_pushn, ↓wE_yes, ↓wE_revL, ↓qO_lst, ↓w_all_lst, ↓w_join_lst, ↓isi_non_int, ↓isi_non_bool, ↓isi_non_str, ↓isi_non_tuple, ↓isi_non_list, ↓isi_non_dict, ↓isi_bl_int, ↓isi_bl_bool, ↓isi_bl_str, ↓isi_bl_tuple, ↓isi_bl_list, ↓isi_bl_dict, ↓isi_int_int, ↓isi_int_bool, ↓isi_int_str, ↓isi_int_tuple, ↓isi_int_list, ↓isi_int_dict, ↓isi_str_int, ↓isi_str_bool, ↓isi_str_str, ↓isi_str_tuple, ↓isi_str_list, ↓isi_str_dict, ↓isi_tup_int, ↓isi_tup_bool, ↓isi_tup_str, ↓isi_tup_tuple, ↓isi_tup_list, ↓isi_tup_dict, ↓isi_lst_int, ↓isi_lst_bool, ↓isi_lst_str, ↓isi_lst_tuple, ↓isi_lst_list, ↓isi_lst_dict, decide_eq_true_eq, beq_iff_eq, Bool.not_eq_true', Bool.not_eq_eq_eq_not, Bool.not_true, Bool.not_false, decide_eq_false_iff_not, beq_eq_false_iff_ne, ne_eq, true_and, and_true, if_true, if_false, ite_true, ite_false, reduceIte, Bool.false_eq_true, not_false_eq_true, not_true_eq_false, Int.reduceLT, Int.reduceLE, Int.reduceToNat, Nat.reduceLT, Nat.reduceLeDiff, Int.reducePow, Nat.reduceAdd, Int.reduceAdd, Int.reduceMul, Int.reduceSub, Int.reduceNeg, Nat.reducePow, Int.reduceEq, Nat.reduceEqDiff, List.length_cons, List.length_nil, PySem.sizeLine_eq, str_len_app, str_len_one, wipeD, List.set_cons_zero, List.set_cons_succ]
  have l3 : μ3.lk = [] := f3.lk.trans l2
  have hs3 : SrcAt μ3 0 _ := hs3
  have hnlt : 0 < μ3.cells.length := hs3.lt
  refine w_loopM (fun rest δ μ' => ∃ (pre : List Str) (x4 : Option D) (num : List (Str × Int)), ws = pre ++ rest ∧ δ = [some (.lst (ns.map D.int)), some (.loc 0), some (.lst (ws.map D.str)), some (.loc μ3.cells.length), x4, none, none, none, none]
    ∧ num.map (·.1) = pre ∧ μ'.cells[μ3.cells.length]? = some (.dK (encS D.int num)) ∧ SrcAt μ' 0 (100 + 2 * pre.length) ∧ μ'.lk = []) (fun _ _ _ _ => rfl) ?_ ?_ ws _ _ ⟨[], none, [], rfl, rfl, rfl, at_push, (hs3.push _).mono (by simp; omega), l3⟩
  · rintro w rest δ μ4 ⟨pre, x4, num, e, rfl, e2, hr, hs4, l4⟩
    have hlen : pre.length ≤ 6 := by have := congrArg List.length e; simp at this; omega
    simp -failIfUnchanged (disch := (first | (simp only [len_push, len_set]; omega) | omega | assumption)) only [↓wR_ok, ↓wR_err, ↓wE_var0, ↓wE_varS, ↓wE_C, ↓wE_op, ↓wE_cmp, ↓wE_bl, ↓qB_bl, ↓wE_asB, ↓wE_and, ↓wE_or, ↓wE_not, ↓wE_andV, ↓wE_orV, ↓wE_notV, ↓wE_if, ↓wE_nil, ↓wE_cons, ↓wE_fz, ↓wE_lc, ↓wE_tup, ↓wE_lst, ↓wE_call, ↓wE_nopart, ↓qI_int, ↓wE_part, ↓wE_slice, ↓wE_fld, ↓wE_dnew, ↓wE_iter, ↓wE_rev, ↓wE_pos, ↓wE_kws, ↓wE_noa, ↓wE_both, ↓wE_fn, ↓wE_mth, ↓qN_non, ↓wE_mk, ↓wE_meth, ↓wE_neg, ↓wE_chain, ↓wE_comp, ↓wS_nx, ↓wS_bk, ↓wS_ct, ↓wS_seq, ↓wS_drop, ↓wS_ret, ↓wS_retN, ↓wS_if, ↓wS_asg, ↓qL_loc, ↓qCl_lst, ↓wS_retFz, ↓wS_raise, ↓wS_for, ↓wS_try, ↓wG_set0, ↓wG_setS, ↓wG_then, ↓wG_sub, ↓wG_fld, ↓qT_tup, ↓wG_tup, ↓wGs_nil, ↓wGs_cons, ↓endB_nx, ↓endB_rt, ↓endB_er, ↓endB_bk, ↓endB_ct, ↓loopP_nx, ↓loopP_ct, ↓loopP_bk, ↓loopP_rt, ↓loopP_er, ↓qO_some, ↓qO_at0, ↓qO_at1, ↓qO_at2, ↓qO_at3, ↓qO_at4, ↓qO_at5, ↓w_add_int, ↓w_add_str, ↓w_add_tup, ↓w_add_lst, ↓w_sub, ↓w_mod, ↓w_div, ↓w_mul, ↓w_pow, ↓w_band, ↓w_lt, ↓w_le, ↓w_gt, ↓w_ge, ↓w_is, ↓w_isNot, ↓nonN, ↓nonI, ↓nonS, ↓nonT, ↓nonL, ↓nonLoc, ↓w_eq_int, ↓w_ne_int, ↓w_eq_str, ↓w_ne_str, ↓qIx_lst, ↓qIx_dK, ↓qIxS_dK, ↓w_ix_loc, ↓w_ix_locS, ↓w_ix_lst, ↓w_ix_tup, ↓w_ix_str, ↓qLS_0, ↓qLS_1, ↓qLS_2, ↓qLS_3, ↓qSet_lst, ↓qSet_dK, ↓qSetS_dK, ↓w_setI, ↓w_setS, ↓qF_ins, ↓w_fld, ↓qSF_ins, ↓w_setF, ↓w_len_str, ↓w_len_lst, ↓w_len_tup, ↓qLen_lst, ↓qLen_dK, ↓w_len_loc, ↓w_max, ↓w_min, ↓w_int_int, ↓w_int_bl, ↓w_str_int, ↓qDc_dK, ↓w_dict, ↓w_tuple_lst, ↓w_tuple_tup, ↓w_tuple_loc, ↓w_list_lst, ↓w_list_tup, ↓w_iter_lst, ↓w_iter_tup, ↓w_iter_str, ↓w_iter_loc, ↓w_rng1, ↓w_rng2, ↓w_sl_str, ↓w_sl_tup, ↓w_sl_lst, ↓w_append, ↓w_lclear, ↓tyS_str, ↓tyL_lst, ↓qM_loc, ↓look1, ↓wC_set, ↓wC_setn, ↓wC_push2, ↓wC_pushn, ↓wE_yes, ↓wE_revL, ↓qO_lst, ↓w_all_lst, ↓w_join_lst, ↓isi_non_int, ↓isi_non_bool, ↓isi_non_str, ↓isi_non_tuple, ↓isi_non_list, ↓isi_non_dict, ↓isi_bl_int, ↓isi_bl_bool, ↓isi_bl_str, ↓isi_bl_tuple, ↓isi_bl_list, ↓isi_bl_dict, ↓isi_int_int, ↓isi_int_bool, ↓isi_int_str, ↓isi_int_tuple, ↓isi_int_list, ↓isi_int_dict, ↓isi_str_int, ↓isi_str_bool, ↓isi_str_str, ↓isi_str_tuple, ↓isi_str_list, ↓isi_str_dict, ↓isi_tup_int, ↓isi_tup_bool, ↓isi_tup_str, ↓isi_tup_tuple, ↓isi_tup_list, ↓isi_tup_dict, ↓isi_lst_int, ↓isi_lst_bool, ↓isi_lst_str, ↓isi_lst_tuple, ↓isi_lst_list, ↓isi_lst_dict, decide_eq_true_eq, beq_iff_eq, Bool.not_eq_true', Bool.not_eq_eq_eq_not, Bool.not_true, Bool.not_false, decide_eq_false_iff_not, beq_eq_false_iff_ne, ne_eq, true_and, and_true, if_true, if_false, ite_true, ite_false, reduceIte, Bool.false_eq_true, not_false_eq_true, not_true_eq_false, Int.reduceLT, Int.reduceLE, Int.reduceToNat, Nat.reduceLT, Nat.reduceLeDiff, Int.reducePow, Nat.reduceAdd, Int.reduceAdd, Int.reduceMul, Int.reduceSub, Int.reduceNeg, Nat.reducePow, Int.reduceEq, Nat.reduceEqDiff, List.length_cons, List.length_nil, PySem.sizeLine_eq, str_len_app, str_len_one, wipeD, List.set_cons_zero, List.set_cons_succ]
    refine (number_ok hs4 (by omega)).go ?_
    rintro _ μ5 ⟨v, rfl, _, _, hs5, f5⟩
    have hr5 := f5.get hr (by intro hm; rw [List.mem_singleton] at hm; omega)
    have hnl : num.length ≤ 6 := by rw [← e2] at hlen; simpa using hlen
    simp -failIfUnchanged (disch := (first | (simp only [len_push, len_set]; omega) | omega | assumption)) only [↓wR_ok, ↓wR_err, ↓wE_var0, ↓wE_varS, ↓wE_C, ↓wE_op, ↓wE_cmp, ↓wE_bl, ↓qB_bl, ↓wE_asB, ↓wE_and, ↓wE_or, ↓wE_not, ↓wE_andV, ↓wE_orV, ↓wE_notV, ↓wE_if, ↓wE_nil, ↓wE_cons, ↓wE_fz, ↓wE_lc, ↓wE_tup, ↓wE_lst, ↓wE_call, ↓wE_nopart, ↓qI_int, ↓wE_part, ↓wE_slice, ↓wE_fld, ↓wE_dnew, ↓wE_iter, ↓wE_rev, ↓wE_pos, ↓wE_kws, ↓wE_noa, ↓wE_both, ↓wE_fn, ↓wE_mth, ↓qN_non, ↓wE_mk, ↓wE_meth, ↓wE_neg, ↓wE_chain, ↓wE_comp, ↓wS_nx, ↓wS_bk, ↓wS_ct, ↓wS_seq, ↓wS_drop, ↓wS_ret, ↓wS_retN, ↓wS_if, ↓wS_asg, ↓qL_loc, ↓qCl_lst, ↓wS_retFz, ↓wS_raise, ↓wS_for, ↓wS_try, ↓wG_set0, ↓wG_setS, ↓wG_then, ↓wG_sub, ↓wG_fld, ↓qT_tup, ↓wG_tup, ↓wGs_nil, ↓wGs_cons, ↓endB_nx, ↓endB_rt, ↓endB_er, ↓endB_bk, ↓endB_ct, ↓loopP_nx, ↓loopP_ct, ↓loopP_bk, ↓loopP_rt, ↓loopP_er, ↓qO_some, ↓qO_at0, ↓qO_at1, ↓qO_at2, ↓qO_at3, ↓qO_at4, ↓qO_at5, ↓w_add_int, ↓w_add_str, ↓w_add_tup, ↓w_add_lst, ↓w_sub, ↓w_mod, ↓w_div, ↓w_mul, ↓w_pow, ↓w_band, ↓w_lt, ↓w_le, ↓w_gt, ↓w_ge, ↓w_is, ↓w_isNot, ↓nonN, ↓nonI, ↓nonS, ↓nonT, ↓nonL, ↓nonLoc, ↓w_eq_int, ↓w_ne_int, ↓w_eq_str, ↓w_ne_str, ↓qIx_lst, ↓qIx_dK, ↓qIxS_dK, ↓w_ix_loc, ↓w_ix_locS, ↓w_ix_lst, ↓w_ix_tup, ↓w_ix_str, ↓qLS_0, ↓qLS_1, ↓qLS_2, ↓qLS_3, ↓qSet_lst, ↓qSet_dK, ↓qSetS_dK, ↓w_setI, ↓w_setS, ↓qF_ins, ↓w_fld, ↓qSF_ins, ↓w_setF, ↓w_len_str, ↓w_len_lst, ↓w_len_tup, ↓qLen_lst, ↓qLen_dK, ↓w_len_loc, ↓w_max, ↓w_min, ↓w_int_int, ↓w_int_bl, ↓w_str_int, ↓qDc_dK, ↓w_dict, ↓w_tuple_lst, ↓w_tuple_tup, ↓w_tuple_loc, ↓w_list_lst, ↓w_list_tup, ↓w_iter_lst, ↓w_iter_tup, ↓w_iter_str, ↓w_iter_loc, ↓w_rng1, ↓w_rng2, ↓w_sl_str, ↓w_sl_tup, ↓w_sl_lst, ↓w_append, ↓w_lclear, ↓tyS_str, ↓tyL_lst, ↓qM_loc, ↓look1, ↓wC_set, ↓wC_setn, ↓wC_push2, ↓wC_pushn, ↓wE_yes, ↓wE_revL, ↓qO_lst, ↓w_all_lst, ↓w_join_lst, ↓isi_non_int, ↓isi_non_bool, ↓isi_non_str, ↓isi_non_tuple, ↓isi_non_list, ↓isi_non_dict, ↓isi_bl_int, ↓isi_bl_bool, ↓isi_bl_str, ↓isi_bl_tuple, ↓isi_bl_list, ↓isi_bl_dict, ↓isi_int_int, ↓isi_int_bool, ↓isi_int_str, ↓isi_int_tuple, ↓isi_int_list, ↓isi_int_dict, ↓isi_str_int, ↓isi_str_bool, ↓isi_str_str, ↓isi_str_tuple, ↓isi_str_list, ↓isi_str_dict, ↓isi_tup_int, ↓isi_tup_bool, ↓isi_tup_str, ↓isi_tup_tuple, ↓isi_tup_list, ↓isi_tup_dict, ↓isi_lst_int, ↓isi_lst_bool, ↓isi_lst_str, ↓isi_lst_tuple, ↓isi_lst_list, ↓isi_lst_dict, decide_eq_true_eq, beq_iff_eq, Bool.not_eq_true', Bool.not_eq_eq_eq_not, Bool.not_true, Bool.not_false, decide_eq_false_iff_not, beq_eq_false_iff_ne, ne_eq, true_and, and_true, if_true, if_false, ite_true, ite_false, reduceIte, Bool.false_eq_true, not_false_eq_true, not_true_eq_false, Int.reduceLT, Int.reduceLE, Int.reduceToNat, Nat.reduceLT, Nat.reduceLeDiff, Int.reducePow, Nat.reduceAdd, Int.reduceAdd, Int.reduceMul, Int.reduceSub, Int.reduceNeg, Nat.reducePow, Int.reduceEq, Nat.reduceEqDiff, List.length_cons, List.length_nil, PySem.sizeLine_eq, str_len_app, str_len_one, wipeD, List.set_cons_zero, List.set_cons_succ, ↓wC_of hr5, enc_len, lkd_nil (f5.lk.trans l4)]
    have hwp : w ∉ num.map (·.1) := by
      rw [e2]; rw [e, List.nodup_append] at hw2
      intro hm; exact hw2.2.2 w hm w (by simp) rfl
    refine ⟨by omega, pre ++ [w], _, aput num w v, by simp [e], rfl, ?_, ?_, ?_, f5.lk.trans l4⟩
    · rw [aput_keys_new hwp, e2]
    · rw [at_set (at_lt hr5), encS_put]
    · exact (hs5.fr (Fr.set1 _ μ3.cells.length _) (by intro hm; rw [List.mem_singleton] at hm; omega)).mono (by simp; omega)
  rintro δ μ4 ⟨pre, x4, num, e, rfl, e2, hr, hs4, l4⟩
  rw [List.append_nil] at e
  subst e
  have hr4 := at_lt hr
  have lw : ws.length ≤ 6 := by omega
  have ln : num.length ≤ 6 := by rw [← e2] at lw; simpa using lw
  have hnum : (num.map (·.1)).Nodup := by rw [e2]; exact hw2
  simp -failIfUnchanged (disch := (first | (simp only [len_push, len_set]; omega) | omega | assumption)) only [↓wR_ok, ↓wR_err, ↓wE_var0, ↓wE_varS, ↓wE_C, ↓wE_op, ↓wE_cmp, ↓wE_bl, ↓qB_bl, ↓wE_asB, ↓wE_and, ↓wE_or, ↓wE_not, ↓wE_andV, ↓wE_orV, ↓wE_notV, ↓wE_if, ↓wE_nil, ↓wE_cons, ↓wE_fz, ↓wE_lc, ↓wE_tup, ↓wE_lst, ↓wE_call, ↓wE_nopart, ↓qI_int, ↓wE_part, ↓wE_slice, ↓wE_fld, ↓wE_dnew, ↓wE_iter, ↓wE_rev, ↓wE_pos, ↓wE_kws, ↓wE_noa, ↓wE_both, ↓wE_fn, ↓wE_mth, ↓qN_non, ↓wE_mk, ↓wE_meth, ↓wE_neg, ↓wE_chain, ↓wE_comp, ↓wS_nx, ↓wS_bk, ↓wS_ct, ↓wS_seq, ↓wS_drop, ↓wS_ret, ↓wS_retN, ↓wS_if, ↓wS_asg, ↓qL_loc, ↓qCl_lst, ↓wS_retFz, ↓wS_raise, ↓wS_for, ↓wS_try, ↓wG_set0, ↓wG_setS, ↓wG_then, ↓wG_sub, ↓wG_fld, ↓qT_tup, ↓wG_tup, ↓wGs_nil, ↓wGs_cons, ↓endB_nx, ↓endB_rt, ↓endB_er, ↓endB_bk, ↓endB_ct, ↓loopP_nx, ↓loopP_ct, ↓loopP_bk, ↓loopP_rt, ↓loopP_er, ↓qO_some, ↓qO_at0, ↓qO_at1, ↓qO_at2, ↓qO_at3, ↓qO_at4, ↓qO_at5, ↓w_add_int, ↓w_add_str, ↓w_add_tup, ↓w_add_lst, ↓w_sub, ↓w_mod, ↓w_div, ↓w_mul, ↓w_pow, ↓w_band, ↓w_lt, ↓w_le, ↓w_gt, ↓w_ge, ↓w_is, ↓w_isNot, ↓nonN, ↓nonI, ↓nonS, ↓nonT, ↓nonL, ↓nonLoc, ↓w_eq_int, ↓w_ne_int, ↓w_eq_str, ↓w_ne_str, ↓qIx_lst, ↓qIx_dK, ↓qIxS_dK, ↓w_ix_loc, ↓w_ix_locS, ↓w_ix_lst, ↓w_ix_tup, ↓w_ix_str, ↓qLS_0, ↓qLS_1, ↓qLS_2, ↓qLS_3, ↓qSet_lst, ↓qSet_dK, ↓qSetS_dK, ↓w_setI, ↓w_setS, ↓qF_ins, ↓w_fld, ↓qSF_ins, ↓w_setF, ↓w_len_str, ↓w_len_lst, ↓w_len_tup, ↓qLen_lst, ↓qLen_dK, ↓w_len_loc, ↓w_max, ↓w_min, ↓w_int_int, ↓w_int_bl, ↓w_str_int, ↓qDc_dK, ↓w_dict, ↓w_tuple_lst, ↓w_tuple_tup, ↓w_tuple_loc, ↓w_list_lst, ↓w_list_tup, ↓w_iter_lst, ↓w_iter_tup, ↓w_iter_str, ↓w_iter_loc, ↓w_rng1, ↓w_rng2, ↓w_sl_str, ↓w_sl_tup, ↓w_sl_lst, ↓w_append, ↓w_lclear, ↓tyS_str, ↓tyL_lst, ↓qM_loc, ↓look1, ↓wC_set, ↓wC_setn, ↓wC_push2, ↓wC_pushn, ↓wE_yes, ↓wE_revL, ↓qO_lst, ↓w_all_lst, ↓w_join_lst, ↓isi_non_int, ↓isi_non_bool, ↓isi_non_str, ↓isi_non_tuple, ↓isi_non_list, ↓isi_non_dict, ↓isi_bl_int, ↓isi_bl_bool, ↓isi_bl_str, ↓isi_bl_tuple, ↓isi_bl_list, ↓isi_bl_dict, ↓isi_int_int, ↓isi_int_bool, ↓isi_int_str, ↓isi_int_tuple, ↓isi_int_list, ↓isi_int_dict, ↓isi_str_int, ↓isi_str_bool, ↓isi_str_str, ↓isi_str_tuple, ↓isi_str_list, ↓isi_str_dict, ↓isi_tup_int, ↓isi_tup_bool, ↓isi_tup_str, ↓isi_tup_tuple, ↓isi_tup_list, ↓isi_tup_dict, ↓isi_lst_int, ↓isi_lst_bool, ↓isi_lst_str, ↓isi_lst_tuple, ↓isi_lst_list, ↓isi_lst_dict, decide_eq_true_eq, beq_iff_eq, Bool.not_eq_true', Bool.not_eq_eq_eq_not, Bool.not_true, Bool.not_false, decide_eq_false_iff_not, beq_eq_false_iff_ne, ne_eq, true_and, and_true, if_true, if_false, ite_true, ite_false, reduceIte, Bool.false_eq_true, not_false_eq_true, not_true_eq_false, Int.reduceLT, Int.reduceLE, Int.reduceToNat, Nat.reduceLT, Nat.reduceLeDiff, Int.reducePow, Nat.reduceAdd, Int.reduceAdd, Int.reduceMul, Int.reduceSub, Int.reduceNeg, Nat.reducePow, Int.reduceEq, Nat.reduceEqDiff, List.length_cons, List.length_nil, PySem.sizeLine_eq, str_len_app, str_len_one, wipeD, List.set_cons_zero, List.set_cons_succ, ↓wC_of hr]
  refine (init_ok (μ := μ4.push (.dK (encS D.int num))) l4 at_push hnum).go ?_
  rintro _ μ5 ⟨rfl, A, ha, hh5, f5, hnew⟩
  have hh5' := f5.get (at_push (μ := μ4) (c := .dK (encS D.int num))) (by simp)
  have hr5 := f5.get (at_push_of (c := .dK (encS D.int num)) hr) (by simp)
  rw [len_push] at hnew
  have lk5 : ∀ k, μ5.lkd k = false := fun k => lkd_nil hh5.lk
  rw [← ha]
  simp -failIfUnchanged (disch := (first | (simp only [len_push, len_set]; omega) | omega | assumption)) only [↓wR_ok, ↓wR_err, ↓wE_var0, ↓wE_varS, ↓wE_C, ↓wE_op, ↓wE_cmp, ↓wE_bl, ↓qB_bl, ↓wE_asB, ↓wE_and, ↓wE_or, ↓wE_not, ↓wE_andV, ↓wE_orV, ↓wE_notV, ↓wE_if, ↓wE_nil, ↓wE_cons, ↓wE_fz, ↓wE_lc, ↓wE_tup, ↓wE_lst, ↓wE_call, ↓wE_nopart, ↓qI_int, ↓wE_part, ↓wE_slice, ↓wE_fld, ↓wE_dnew, ↓wE_iter, ↓wE_rev, ↓wE_pos, ↓wE_kws, ↓wE_noa, ↓wE_both, ↓wE_fn, ↓wE_mth, ↓qN_non, ↓wE_mk, ↓wE_meth, ↓wE_neg, ↓wE_chain, ↓wE_comp, ↓wS_nx, ↓wS_bk, ↓wS_ct, ↓wS_seq, ↓wS_drop, ↓wS_ret, ↓wS_retN, ↓wS_if, ↓wS_asg, ↓qL_loc, ↓qCl_lst, ↓wS_retFz, ↓wS_raise, ↓wS_for, ↓wS_try, ↓wG_set0, ↓wG_setS, ↓wG_then, ↓wG_sub, ↓wG_fld, ↓qT_tup, ↓wG_tup, ↓wGs_nil, ↓wGs_cons, ↓endB_nx, ↓endB_rt, ↓endB_er, ↓endB_bk, ↓endB_ct, ↓loopP_nx, ↓loopP_ct, ↓loopP_bk, ↓loopP_rt, ↓loopP_er, ↓qO_some, ↓qO_at0, ↓qO_at1, ↓qO_at2, ↓qO_at3, ↓qO_at4, ↓qO_at5, ↓w_add_int, ↓w_add_str, ↓w_add_tup, ↓w_add_lst, ↓w_sub, ↓w_mod, ↓w_div, ↓w_mul, ↓w_pow, ↓w_band, ↓w_lt, ↓w_le, ↓w_gt, ↓w_ge, ↓w_is, ↓w_isNot, ↓nonN, ↓nonI, ↓nonS, ↓nonT, ↓nonL, ↓nonLoc, ↓w_eq_int, ↓w_ne_int, ↓w_eq_str, ↓w_ne_str, ↓qIx_lst, ↓qIx_dK, ↓qIxS_dK, ↓w_ix_loc, ↓w_ix_locS, ↓w_ix_lst, ↓w_ix_tup, ↓w_ix_str, ↓qLS_0, ↓qLS_1, ↓qLS_2, ↓qLS_3, ↓qSet_lst, ↓qSet_dK, ↓qSetS_dK, ↓w_setI, ↓w_setS, ↓qF_ins, ↓w_fld, ↓qSF_ins, ↓w_setF, ↓w_len_str, ↓w_len_lst, ↓w_len_tup, ↓qLen_lst, ↓qLen_dK, ↓w_len_loc, ↓w_max, ↓w_min, ↓w_int_int, ↓w_int_bl, ↓w_str_int, ↓qDc_dK, ↓w_dict, ↓w_tuple_lst, ↓w_tuple_tup, ↓w_tuple_loc, ↓w_list_lst, ↓w_list_tup, ↓w_iter_lst, ↓w_iter_tup, ↓w_iter_str, ↓w_iter_loc, ↓w_rng1, ↓w_rng2, ↓w_sl_str, ↓w_sl_tup, ↓w_sl_lst, ↓w_append, ↓w_lclear, ↓tyS_str, ↓tyL_lst, ↓qM_loc, ↓look1, ↓wC_set, ↓wC_setn, ↓wC_push2, ↓wC_pushn, ↓wE_yes, ↓wE_revL, ↓qO_lst, ↓w_all_lst, ↓w_join_lst, ↓isi_non_int, ↓isi_non_bool, ↓isi_non_str, ↓isi_non_tuple, ↓isi_non_list, ↓isi_non_dict, ↓isi_bl_int, ↓isi_bl_bool, ↓isi_bl_str, ↓isi_bl_tuple, ↓isi_bl_list, ↓isi_bl_dict, ↓isi_int_int, ↓isi_int_bool, ↓isi_int_str, ↓isi_int_tuple, ↓isi_int_list, ↓isi_int_dict, ↓isi_str_int, ↓isi_str_bool, ↓isi_str_str, ↓isi_str_tuple, ↓isi_str_list, ↓isi_str_dict, ↓isi_tup_int, ↓isi_tup_bool, ↓isi_tup_str, ↓isi_tup_tuple, ↓isi_tup_list, ↓isi_tup_dict, ↓isi_lst_int, ↓isi_lst_bool, ↓isi_lst_str, ↓isi_lst_tuple, ↓isi_lst_list, ↓isi_lst_dict, decide_eq_true_eq, beq_iff_eq, Bool.not_eq_true', Bool.not_eq_eq_eq_not, Bool.not_true, Bool.not_false, decide_eq_false_iff_not, beq_eq_false_iff_ne, ne_eq, true_and, and_true, if_true, if_false, ite_true, ite_false, reduceIte, Bool.false_eq_true, not_false_eq_true, not_true_eq_false, Int.reduceLT, Int.reduceLE, Int.reduceToNat, Nat.reduceLT, Nat.reduceLeDiff, Int.reducePow, Nat.reduceAdd, Int.reduceAdd, Int.reduceMul, Int.reduceSub, Int.reduceNeg, Nat.reducePow, Int.reduceEq, Nat.reduceEqDiff, List.length_cons, List.length_nil, PySem.sizeLine_eq, str_len_app, str_len_one, wipeD, List.set_cons_zero, List.set_cons_succ, ↓w_ne_tab hh5' hr5 (lk5 _) (lk5 _) (tab_self hnum), tyDc_of hh5' (lk5 _), ↓w_dclear _ hh5' (lk5 _)]
  have f6 : Fr [μ4.cells.length] μ5 (μ5.set μ4.cells.length (.dK [])) := Fr.set1 _ _ _
  have hh6 := hh5.fr f6 (by intro k hk; have := hnew k hk; simp; omega)
  have hr6 := f6.get hr5 (by intro hm; rw [List.mem_singleton] at hm; omega)
  have hnot : ∀ k < μ4.cells.length, k ∉ foot A { num := num } := fun k hk hm => by have := hnew k hm; omega
  refine (numbers_well_ok hh6 hr6 (num_all e2) (by omega)).go ?_
  rintro _ _ ⟨rfl, rfl⟩
  simp -failIfUnchanged (disch := (first | (simp only [len_push, len_set]; omega) | omega | assumption)) only [↓wR_ok, ↓wR_err, ↓wE_var0, ↓wE_varS, ↓wE_C, ↓wE_op, ↓wE_cmp, ↓wE_bl, ↓qB_bl, ↓wE_asB, ↓wE_and, ↓wE_or, ↓wE_not, ↓wE_andV, ↓wE_orV, ↓wE_notV, ↓wE_if, ↓wE_nil, ↓wE_cons, ↓wE_fz, ↓wE_lc, ↓wE_tup, ↓wE_lst, ↓wE_call, ↓wE_nopart, ↓qI_int, ↓wE_part, ↓wE_slice, ↓wE_fld, ↓wE_dnew, ↓wE_iter, ↓wE_rev, ↓wE_pos, ↓wE_kws, ↓wE_noa, ↓wE_both, ↓wE_fn, ↓wE_mth, ↓qN_non, ↓wE_mk, ↓wE_meth, ↓wE_neg, ↓wE_chain, ↓wE_comp, ↓wS_nx, ↓wS_bk, ↓wS_ct, ↓wS_seq, ↓wS_drop, ↓wS_ret, ↓wS_retN, ↓wS_if, ↓wS_asg, ↓qL_loc, ↓qCl_lst, ↓wS_retFz, ↓wS_raise, ↓wS_for, ↓wS_try, ↓wG_set0, ↓wG_setS, ↓wG_then, ↓wG_sub, ↓wG_fld, ↓qT_tup, ↓wG_tup, ↓wGs_nil, ↓wGs_cons, ↓endB_nx, ↓endB_rt, ↓endB_er, ↓endB_bk, ↓endB_ct, ↓loopP_nx, ↓loopP_ct, ↓loopP_bk, ↓loopP_rt, ↓loopP_er, ↓qO_some, ↓qO_at0, ↓qO_at1, ↓qO_at2, ↓qO_at3, ↓qO_at4, ↓qO_at5, ↓w_add_int, ↓w_add_str, ↓w_add_tup, ↓w_add_lst, ↓w_sub, ↓w_mod, ↓w_div, ↓w_mul, ↓w_pow, ↓w_band, ↓w_lt, ↓w_le, ↓w_gt, ↓w_ge, ↓w_is, ↓w_isNot, ↓nonN, ↓nonI, ↓nonS, ↓nonT, ↓nonL, ↓nonLoc, ↓w_eq_int, ↓w_ne_int, ↓w_eq_str, ↓w_ne_str, ↓qIx_lst, ↓qIx_dK, ↓qIxS_dK, ↓w_ix_loc, ↓w_ix_locS, ↓w_ix_lst, ↓w_ix_tup, ↓w_ix_str, ↓qLS_0, ↓qLS_1, ↓qLS_2, ↓qLS_3, ↓qSet_lst, ↓qSet_dK, ↓qSetS_dK, ↓w_setI, ↓w_setS, ↓qF_ins, ↓w_fld, ↓qSF_ins, ↓w_setF, ↓w_len_str, ↓w_len_lst, ↓w_len_tup, ↓qLen_lst, ↓qLen_dK, ↓w_len_loc, ↓w_max, ↓w_min, ↓w_int_int, ↓w_int_bl, ↓w_str_int, ↓qDc_dK, ↓w_dict, ↓w_tuple_lst, ↓w_tuple_tup, ↓w_tuple_loc, ↓w_list_lst, ↓w_list_tup, ↓w_iter_lst, ↓w_iter_tup, ↓w_iter_str, ↓w_iter_loc, ↓w_rng1, ↓w_rng2, ↓w_sl_str, ↓w_sl_tup, ↓w_sl_lst, ↓w_append, ↓w_lclear, ↓tyS_str, ↓tyL_lst, ↓qM_loc, ↓look1, ↓wC_set, ↓wC_setn, ↓wC_push2, ↓wC_pushn, ↓wE_yes, ↓wE_revL, ↓qO_lst, ↓w_all_lst, ↓w_join_lst, ↓isi_non_int, ↓isi_non_bool, ↓isi_non_str, ↓isi_non_tuple, ↓isi_non_list, ↓isi_non_dict, ↓isi_bl_int, ↓isi_bl_bool, ↓isi_bl_str, ↓isi_bl_tuple, ↓isi_bl_list, ↓isi_bl_dict, ↓isi_int_int, ↓isi_int_bool, ↓isi_int_str, ↓isi_int_tuple, ↓isi_int_list, ↓isi_int_dict, ↓isi_str_int, ↓isi_str_bool, ↓isi_str_str, ↓isi_str_tuple, ↓isi_str_list, ↓isi_str_dict, ↓isi_tup_int, ↓isi_tup_bool, ↓isi_tup_str, ↓isi_tup_tuple, ↓isi_tup_list, ↓isi_tup_dict, ↓isi_lst_int, ↓isi_lst_bool, ↓isi_lst_str, ↓isi_lst_tuple, ↓isi_lst_list, ↓isi_lst_dict, decide_eq_true_eq, beq_iff_eq, Bool.not_eq_true', Bool.not_eq_eq_eq_not, Bool.not_true, Bool.not_false, decide_eq_false_iff_not, beq_eq_false_iff_ne, ne_eq, true_and, and_true, if_true, if_false, ite_true, ite_false, reduceIte, Bool.false_eq_true, not_false_eq_true, not_true_eq_false, Int.reduceLT, Int.reduceLE, Int.reduceToNat, Nat.reduceLT, Nat.reduceLeDiff, Int.reducePow, Nat.reduceAdd, Int.reduceAdd, Int.reduceMul, Int.reduceSub, Int.reduceNeg, Nat.reducePow, Int.reduceEq, Nat.reduceEqDiff, List.length_cons, List.length_nil, PySem.sizeLine_eq, str_len_app, str_len_one, wipeD, List.set_cons_zero, List.set_cons_succ, List.length_map]
  refine ⟨by omega, ?_⟩
  refine w_range (fun i δ μ' => ∃ (x1 x4 x7 x8 : Option D) (S : HS), δ = [some (.lst (ns.map D.int)), x1, some (.lst (ws.map D.str)), some (.loc μ3.cells.length), x4, some (.loc μ4.cells.length), some (.loc A.a), x7, x8]
    ∧ HallAt c μ' A S ∧ S.num.map (·.1) = ws ∧ S.log.length ≤ i ∧ μ'.cells[μ3.cells.length]? = some (.dK (encS D.int S.num)) ∧ μ3.cells.length ∉ foot A S) _ _ ?_ ?_ ?_
  · exact ⟨_, _, _, _, _, rfl, hh6, e2, Nat.le_refl _, hr6, hnot _ hr4⟩
  · rintro i δ μ7 hi ⟨x1, x4, x7, x8, S, rfl, hh, hk, hlog, hr, hnot⟩
    have lr := at_lt hr
    simp -failIfUnchanged (disch := (first | (simp only [len_push, len_set]; omega) | omega | assumption)) only [↓wR_ok, ↓wR_err, ↓wE_var0, ↓wE_varS, ↓wE_C, ↓wE_op, ↓wE_cmp, ↓wE_bl, ↓qB_bl, ↓wE_asB, ↓wE_and, ↓wE_or, ↓wE_not, ↓wE_andV, ↓wE_orV, ↓wE_notV, ↓wE_if, ↓wE_nil, ↓wE_cons, ↓wE_fz, ↓wE_lc, ↓wE_tup, ↓wE_lst, ↓wE_call, ↓wE_nopart, ↓qI_int, ↓wE_part, ↓wE_slice, ↓wE_fld, ↓wE_dnew, ↓wE_iter, ↓wE_rev, ↓wE_pos, ↓wE_kws, ↓wE_noa, ↓wE_both, ↓wE_fn, ↓wE_mth, ↓qN_non, ↓wE_mk, ↓wE_meth, ↓wE_neg, ↓wE_chain, ↓wE_comp, ↓wS_nx, ↓wS_bk, ↓wS_ct, ↓wS_seq, ↓wS_drop, ↓wS_ret, ↓wS_retN, ↓wS_if, ↓wS_asg, ↓qL_loc, ↓qCl_lst, ↓wS_retFz, ↓wS_raise, ↓wS_for, ↓wS_try, ↓wG_set0, ↓wG_setS, ↓wG_then, ↓wG_sub, ↓wG_fld, ↓qT_tup, ↓wG_tup, ↓wGs_nil, ↓wGs_cons, ↓endB_nx, ↓endB_rt, ↓endB_er, ↓endB_bk, ↓endB_ct, ↓loopP_nx, ↓loopP_ct, ↓loopP_bk, ↓loopP_rt, ↓loopP_er, ↓qO_some, ↓qO_at0, ↓qO_at1, ↓qO_at2, ↓qO_at3, ↓qO_at4, ↓qO_at5, ↓w_add_int, ↓w_add_str, ↓w_add_tup, ↓w_add_lst, ↓w_sub, ↓w_mod, ↓w_div, ↓w_mul, ↓w_pow, ↓w_band, ↓w_lt, ↓w_le, ↓w_gt, ↓w_ge, ↓w_is, ↓w_isNot, ↓nonN, ↓nonI, ↓nonS, ↓nonT, ↓nonL, ↓nonLoc, ↓w_eq_int, ↓w_ne_int, ↓w_eq_str, ↓w_ne_str, ↓qIx_lst, ↓qIx_dK, ↓qIxS_dK, ↓w_ix_loc, ↓w_ix_locS, ↓w_ix_lst, ↓w_ix_tup, ↓w_ix_str, ↓qLS_0, ↓qLS_1, ↓qLS_2, ↓qLS_3, ↓qSet_lst, ↓qSet_dK, ↓qSetS_dK, ↓w_setI, ↓w_setS, ↓qF_ins, ↓w_fld, ↓qSF_ins, ↓w_setF, ↓w_len_str, ↓w_len_lst, ↓w_len_tup, ↓qLen_lst, ↓qLen_dK, ↓w_len_loc, ↓w_max, ↓w_min, ↓w_int_int, ↓w_int_bl, ↓w_str_int, ↓qDc_dK, ↓w_dict, ↓w_tuple_lst, ↓w_tuple_tup, ↓w_tuple_loc, ↓w_list_lst, ↓w_list_tup, ↓w_iter_lst, ↓w_iter_tup, ↓w_iter_str, ↓w_iter_loc, ↓w_rng1, ↓w_rng2, ↓w_sl_str, ↓w_sl_tup, ↓w_sl_lst, ↓w_append, ↓w_lclear, ↓tyS_str, ↓tyL_lst, ↓qM_loc, ↓look1, ↓wC_set, ↓wC_setn, ↓wC_push2, ↓wC_pushn, ↓wE_yes, ↓wE_revL, ↓qO_lst, ↓w_all_lst, ↓w_join_lst, ↓isi_non_int, ↓isi_non_bool, ↓isi_non_str, ↓isi_non_tuple, ↓isi_non_list, ↓isi_non_dict, ↓isi_bl_int, ↓isi_bl_bool, ↓isi_bl_str, ↓isi_bl_tuple, ↓isi_bl_list, ↓isi_bl_dict, ↓isi_int_int, ↓isi_int_bool, ↓isi_int_str, ↓isi_int_tuple, ↓isi_int_list, ↓isi_int_dict, ↓isi_str_int, ↓isi_str_bool, ↓isi_str_str, ↓isi_str_tuple, ↓isi_str_list, ↓isi_str_dict, ↓isi_tup_int, ↓isi_tup_bool, ↓isi_tup_str, ↓isi_tup_tuple, ↓isi_tup_list, ↓isi_tup_dict, ↓isi_lst_int, ↓isi_lst_bool, ↓isi_lst_str, ↓isi_lst_tuple, ↓isi_lst_list, ↓isi_lst_dict, decide_eq_true_eq, beq_iff_eq, Bool.not_eq_true', Bool.not_eq_eq_eq_not, Bool.not_true, Bool.not_false, decide_eq_false_iff_not, beq_eq_false_iff_ne, ne_eq, true_and, and_true, if_true, if_false, ite_true, ite_false, reduceIte, Bool.false_eq_true, not_false_eq_true, not_true_eq_false, Int.reduceLT, Int.reduceLE, Int.reduceToNat, Nat.reduceLT, Nat.reduceLeDiff, Int.reducePow, Nat.reduceAdd, Int.reduceAdd, Int.reduceMul, Int.reduceSub, Int.reduceNeg, Nat.reducePow, Int.reduceEq, Nat.reduceEqDiff, List.length_cons, List.length_nil, PySem.sizeLine_eq, str_len_app, str_len_one, wipeD, List.set_cons_zero, List.set_cons_succ]
    refine (source_ok (by omega) (by omega) hn).go ?_
    rintro _ μ8 ⟨rfl, hs8, f8⟩
    have hh8 := hh.fr f8 (by simp)
    have hr8 := f8.get hr (by simp)
    cases ws with
    | nil =>
      have hn1 : nice 8 (.lst []) = true := rfl
      have hn2 : D.eqv (.lst []) (.lst []) = true := rfl
      simp -failIfUnchanged (disch := (first | (simp only [len_push, len_set]; omega) | omega | assumption)) only [↓wR_ok, ↓wR_err, ↓wE_var0, ↓wE_varS, ↓wE_C, ↓wE_op, ↓wE_cmp, ↓wE_bl, ↓qB_bl, ↓wE_asB, ↓wE_and, ↓wE_or, ↓wE_not, ↓wE_andV, ↓wE_orV, ↓wE_notV, ↓wE_if, ↓wE_nil, ↓wE_cons, ↓wE_fz, ↓wE_lc, ↓wE_tup, ↓wE_lst, ↓wE_call, ↓wE_nopart, ↓qI_int, ↓wE_part, ↓wE_slice, ↓wE_fld, ↓wE_dnew, ↓wE_iter, ↓wE_rev, ↓wE_pos, ↓wE_kws, ↓wE_noa, ↓wE_both, ↓wE_fn, ↓wE_mth, ↓qN_non, ↓wE_mk, ↓wE_meth, ↓wE_neg, ↓wE_chain, ↓wE_comp, ↓wS_nx, ↓wS_bk, ↓wS_ct, ↓wS_seq, ↓wS_drop, ↓wS_ret, ↓wS_retN, ↓wS_if, ↓wS_asg, ↓qL_loc, ↓qCl_lst, ↓wS_retFz, ↓wS_raise, ↓wS_for, ↓wS_try, ↓wG_set0, ↓wG_setS, ↓wG_then, ↓wG_sub, ↓wG_fld, ↓qT_tup, ↓wG_tup, ↓wGs_nil, ↓wGs_cons, ↓endB_nx, ↓endB_rt, ↓endB_er, ↓endB_bk, ↓endB_ct, ↓loopP_nx, ↓loopP_ct, ↓loopP_bk, ↓loopP_rt, ↓loopP_er, ↓qO_some, ↓qO_at0, ↓qO_at1, ↓qO_at2, ↓qO_at3, ↓qO_at4, ↓qO_at5, ↓w_add_int, ↓w_add_str, ↓w_add_tup, ↓w_add_lst, ↓w_sub, ↓w_mod, ↓w_div, ↓w_mul, ↓w_pow, ↓w_band, ↓w_lt, ↓w_le, ↓w_gt, ↓w_ge, ↓w_is, ↓w_isNot, ↓nonN, ↓nonI, ↓nonS, ↓nonT, ↓nonL, ↓nonLoc, ↓w_eq_int, ↓w_ne_int, ↓w_eq_str, ↓w_ne_str, ↓qIx_lst, ↓qIx_dK, ↓qIxS_dK, ↓w_ix_loc, ↓w_ix_locS, ↓w_ix_lst, ↓w_ix_tup, ↓w_ix_str, ↓qLS_0, ↓qLS_1, ↓qLS_2, ↓qLS_3, ↓qSet_lst, ↓qSet_dK, ↓qSetS_dK, ↓w_setI, ↓w_setS, ↓qF_ins, ↓w_fld, ↓qSF_ins, ↓w_setF, ↓w_len_str, ↓w_len_lst, ↓w_len_tup, ↓qLen_lst, ↓qLen_dK, ↓w_len_loc, ↓w_max, ↓w_min, ↓w_int_int, ↓w_int_bl, ↓w_str_int, ↓qDc_dK, ↓w_dict, ↓w_tuple_lst, ↓w_tuple_tup, ↓w_tuple_loc, ↓w_list_lst, ↓w_list_tup, ↓w_iter_lst, ↓w_iter_tup, ↓w_iter_str, ↓w_iter_loc, ↓w_rng1, ↓w_rng2, ↓w_sl_str, ↓w_sl_tup, ↓w_sl_lst, ↓w_append, ↓w_lclear, ↓tyS_str, ↓tyL_lst, ↓qM_loc, ↓look1, ↓wC_set, ↓wC_setn, ↓wC_push2, ↓wC_pushn, ↓wE_yes, ↓wE_revL, ↓qO_lst, ↓w_all_lst, ↓w_join_lst, ↓isi_non_int, ↓isi_non_bool, ↓isi_non_str, ↓isi_non_tuple, ↓isi_non_list, ↓isi_non_dict, ↓isi_bl_int, ↓isi_bl_bool, ↓isi_bl_str, ↓isi_bl_tuple, ↓isi_bl_list, ↓isi_bl_dict, ↓isi_int_int, ↓isi_int_bool, ↓isi_int_str, ↓isi_int_tuple, ↓isi_int_list, ↓isi_int_dict, ↓isi_str_int, ↓isi_str_bool, ↓isi_str_str, ↓isi_str_tuple, ↓isi_str_list, ↓isi_str_dict, ↓isi_tup_int, ↓isi_tup_bool, ↓isi_tup_str, ↓isi_tup_tuple, ↓isi_tup_list, ↓isi_tup_dict, ↓isi_lst_int, ↓isi_lst_bool, ↓isi_lst_str, ↓isi_lst_tuple, ↓isi_lst_list, ↓isi_lst_dict, decide_eq_true_eq, beq_iff_eq, Bool.not_eq_true', Bool.not_eq_eq_eq_not, Bool.not_true, Bool.not_false, decide_eq_false_iff_not, beq_eq_false_iff_ne, ne_eq, true_and, and_true, if_true, if_false, ite_true, ite_false, reduceIte, Bool.false_eq_true, not_false_eq_true, not_true_eq_false, Int.reduceLT, Int.reduceLE, Int.reduceToNat, Nat.reduceLT, Nat.reduceLeDiff, Int.reducePow, Nat.reduceAdd, Int.reduceAdd, Int.reduceMul, Int.reduceSub, Int.reduceNeg, Nat.reducePow, Int.reduceEq, Nat.reduceEqDiff, List.length_cons, List.length_nil, PySem.sizeLine_eq, str_len_app, str_len_one, wipeD, List.set_cons_zero, List.set_cons_succ, List.map_nil, ↓w_ne_nice hn1 hn1, hn2]
      exact ⟨_, _, _, _, S, rfl, hh8, hk, by omega, hr8, hnot⟩
    | cons w0 ws0 =>
      have hn1 : nice 8 (.lst []) = true := rfl
      have hn2 : nice 8 (.lst ((w0 :: ws0).map D.str)) = true := by
        show ((w0 :: ws0).map D.str).all (nice 7) = true
        rw [List.all_map, List.all_eq_true]
        exact fun w hw => (hw3 w hw).ok
      have hn3 : D.eqv (.lst ((w0 :: ws0).map D.str)) (.lst []) = false := rfl
      generalize hws : w0 :: ws0 = ws at *
      have hlw : 0 < ws.length := by rw [← hws]; simp
      simp -failIfUnchanged (disch := (first | (simp only [len_push, len_set]; omega) | omega | assumption)) only [↓wR_ok, ↓wR_err, ↓wE_var0, ↓wE_varS, ↓wE_C, ↓wE_op, ↓wE_cmp, ↓wE_bl, ↓qB_bl, ↓wE_asB, ↓wE_and, ↓wE_or, ↓wE_not, ↓wE_andV, ↓wE_orV, ↓wE_notV, ↓wE_if, ↓wE_nil, ↓wE_cons, ↓wE_fz, ↓wE_lc, ↓wE_tup, ↓wE_lst, ↓wE_call, ↓wE_nopart, ↓qI_int, ↓wE_part, ↓wE_slice, ↓wE_fld, ↓wE_dnew, ↓wE_iter, ↓wE_rev, ↓wE_pos, ↓wE_kws, ↓wE_noa, ↓wE_both, ↓wE_fn, ↓wE_mth, ↓qN_non, ↓wE_mk, ↓wE_meth, ↓wE_neg, ↓wE_chain, ↓wE_comp, ↓wS_nx, ↓wS_bk, ↓wS_ct, ↓wS_seq, ↓wS_drop, ↓wS_ret, ↓wS_retN, ↓wS_if, ↓wS_asg, ↓qL_loc, ↓qCl_lst, ↓wS_retFz, ↓wS_raise, ↓wS_for, ↓wS_try, ↓wG_set0, ↓wG_setS, ↓wG_then, ↓wG_sub, ↓wG_fld, ↓qT_tup, ↓wG_tup, ↓wGs_nil, ↓wGs_cons, ↓endB_nx, ↓endB_rt, ↓endB_er, ↓endB_bk, ↓endB_ct, ↓loopP_nx, ↓loopP_ct, ↓loopP_bk, ↓loopP_rt, ↓loopP_er, ↓qO_some, ↓qO_at0, ↓qO_at1, ↓qO_at2, ↓qO_at3, ↓qO_at4, ↓qO_at5, ↓w_add_int, ↓w_add_str, ↓w_add_tup, ↓w_add_lst, ↓w_sub, ↓w_mod, ↓w_div, ↓w_mul, ↓w_pow, ↓w_band, ↓w_lt, ↓w_le, ↓w_gt, ↓w_ge, ↓w_is, ↓w_isNot, ↓nonN, ↓nonI, ↓nonS, ↓nonT, ↓nonL, ↓nonLoc, ↓w_eq_int, ↓w_ne_int, ↓w_eq_str, ↓w_ne_str, ↓qIx_lst, ↓qIx_dK, ↓qIxS_dK, ↓w_ix_loc, ↓w_ix_locS, ↓w_ix_lst, ↓w_ix_tup, ↓w_ix_str, ↓qLS_0, ↓qLS_1, ↓qLS_2, ↓qLS_3, ↓qSet_lst, ↓qSet_dK, ↓qSetS_dK, ↓w_setI, ↓w_setS, ↓qF_ins, ↓w_fld, ↓qSF_ins, ↓w_setF, ↓w_len_str, ↓w_len_lst, ↓w_len_tup, ↓qLen_lst, ↓qLen_dK, ↓w_len_loc, ↓w_max, ↓w_min, ↓w_int_int, ↓w_int_bl, ↓w_str_int, ↓qDc_dK, ↓w_dict, ↓w_tuple_lst, ↓w_tuple_tup, ↓w_tuple_loc, ↓w_list_lst, ↓w_list_tup, ↓w_iter_lst, ↓w_iter_tup, ↓w_iter_str, ↓w_iter_loc, ↓w_rng1, ↓w_rng2, ↓w_sl_str, ↓w_sl_tup, ↓w_sl_lst, ↓w_append, ↓w_lclear, ↓tyS_str, ↓tyL_lst, ↓qM_loc, ↓look1, ↓wC_set, ↓wC_setn, ↓wC_push2, ↓wC_pushn, ↓wE_yes, ↓wE_revL, ↓qO_lst, ↓w_all_lst, ↓w_join_lst, ↓isi_non_int, ↓isi_non_bool, ↓isi_non_str, ↓isi_non_tuple, ↓isi_non_list, ↓isi_non_dict, ↓isi_bl_int, ↓isi_bl_bool, ↓isi_bl_str, ↓isi_bl_tuple, ↓isi_bl_list, ↓isi_bl_dict, ↓isi_int_int, ↓isi_int_bool, ↓isi_int_str, ↓isi_int_tuple, ↓isi_int_list, ↓isi_int_dict, ↓isi_str_int, ↓isi_str_bool, ↓isi_str_str, ↓isi_str_tuple, ↓isi_str_list, ↓isi_str_dict, ↓isi_tup_int, ↓isi_tup_bool, ↓isi_tup_str, ↓isi_tup_tuple, ↓isi_tup_list, ↓isi_tup_dict, ↓isi_lst_int, ↓isi_lst_bool, ↓isi_lst_str, ↓isi_lst_tuple, ↓isi_lst_list, ↓isi_lst_dict, decide_eq_true_eq, beq_iff_eq, Bool.not_eq_true', Bool.not_eq_eq_eq_not, Bool.not_true, Bool.not_false, decide_eq_false_iff_not, beq_eq_false_iff_ne, ne_eq, true_and, and_true, if_true, if_false, ite_true, ite_false, reduceIte, Bool.false_eq_true, not_false_eq_true, not_true_eq_false, Int.reduceLT, Int.reduceLE, Int.reduceToNat, Nat.reduceLT, Nat.reduceLeDiff, Int.reducePow, Nat.reduceAdd, Int.reduceAdd, Int.reduceMul, Int.reduceSub, Int.reduceNeg, Nat.reducePow, Int.reduceEq, Nat.reduceEqDiff, List.length_cons, List.length_nil, PySem.sizeLine_eq, str_len_app, str_len_one, wipeD, List.set_cons_zero, List.set_cons_succ, ↓w_ne_nice hn2 hn1, hn3, List.length_map]
      refine (draw_ok hs8 (by omega) (by omega) (by omega)).go ?_
      rintro _ μ9 ⟨d, rfl, hd0, hd1, hs9, f9⟩
      obtain ⟨w, ew, ew'⟩ := atI_lt (xs := ws) hd0 hd1
      have hwm : w ∈ ws := List.mem_of_getElem? ew'
      simp -failIfUnchanged (disch := (first | (simp only [len_push, len_set]; omega) | omega | assumption)) only [↓wR_ok, ↓wR_err, ↓wE_var0, ↓wE_varS, ↓wE_C, ↓wE_op, ↓wE_cmp, ↓wE_bl, ↓qB_bl, ↓wE_asB, ↓wE_and, ↓wE_or, ↓wE_not, ↓wE_andV, ↓wE_orV, ↓wE_notV, ↓wE_if, ↓wE_nil, ↓wE_cons, ↓wE_fz, ↓wE_lc, ↓wE_tup, ↓wE_lst, ↓wE_call, ↓wE_nopart, ↓qI_int, ↓wE_part, ↓wE_slice, ↓wE_fld, ↓wE_dnew, ↓wE_iter, ↓wE_rev, ↓wE_pos, ↓wE_kws, ↓wE_noa, ↓wE_both, ↓wE_fn, ↓wE_mth, ↓qN_non, ↓wE_mk, ↓wE_meth, ↓wE_neg, ↓wE_chain, ↓wE_comp, ↓wS_nx, ↓wS_bk, ↓wS_ct, ↓wS_seq, ↓wS_drop, ↓wS_ret, ↓wS_retN, ↓wS_if, ↓wS_asg, ↓qL_loc, ↓qCl_lst, ↓wS_retFz, ↓wS_raise, ↓wS_for, ↓wS_try, ↓wG_set0, ↓wG_setS, ↓wG_then, ↓wG_sub, ↓wG_fld, ↓qT_tup, ↓wG_tup, ↓wGs_nil, ↓wGs_cons, ↓endB_nx, ↓endB_rt, ↓endB_er, ↓endB_bk, ↓endB_ct, ↓loopP_nx, ↓loopP_ct, ↓loopP_bk, ↓loopP_rt, ↓loopP_er, ↓qO_some, ↓qO_at0, ↓qO_at1, ↓qO_at2, ↓qO_at3, ↓qO_at4, ↓qO_at5, ↓w_add_int, ↓w_add_str, ↓w_add_tup, ↓w_add_lst, ↓w_sub, ↓w_mod, ↓w_div, ↓w_mul, ↓w_pow, ↓w_band, ↓w_lt, ↓w_le, ↓w_gt, ↓w_ge, ↓w_is, ↓w_isNot, ↓nonN, ↓nonI, ↓nonS, ↓nonT, ↓nonL, ↓nonLoc, ↓w_eq_int, ↓w_ne_int, ↓w_eq_str, ↓w_ne_str, ↓qIx_lst, ↓qIx_dK, ↓qIxS_dK, ↓w_ix_loc, ↓w_ix_locS, ↓w_ix_lst, ↓w_ix_tup, ↓w_ix_str, ↓qLS_0, ↓qLS_1, ↓qLS_2, ↓qLS_3, ↓qSet_lst, ↓qSet_dK, ↓qSetS_dK, ↓w_setI, ↓w_setS, ↓qF_ins, ↓w_fld, ↓qSF_ins, ↓w_setF, ↓w_len_str, ↓w_len_lst, ↓w_len_tup, ↓qLen_lst, ↓qLen_dK, ↓w_len_loc, ↓w_max, ↓w_min, ↓w_int_int, ↓w_int_bl, ↓w_str_int, ↓qDc_dK, ↓w_dict, ↓w_tuple_lst, ↓w_tuple_tup, ↓w_tuple_loc, ↓w_list_lst, ↓w_list_tup, ↓w_iter_lst, ↓w_iter_tup, ↓w_iter_str, ↓w_iter_loc, ↓w_rng1, ↓w_rng2, ↓w_sl_str, ↓w_sl_tup, ↓w_sl_lst, ↓w_append, ↓w_lclear, ↓tyS_str, ↓tyL_lst, ↓qM_loc, ↓look1, ↓wC_set, ↓wC_setn, ↓wC_push2, ↓wC_pushn, ↓wE_yes, ↓wE_revL, ↓qO_lst, ↓w_all_lst, ↓w_join_lst, ↓isi_non_int, ↓isi_non_bool, ↓isi_non_str, ↓isi_non_tuple, ↓isi_non_list, ↓isi_non_dict, ↓isi_bl_int, ↓isi_bl_bool, ↓isi_bl_str, ↓isi_bl_tuple, ↓isi_bl_list, ↓isi_bl_dict, ↓isi_int_int, ↓isi_int_bool, ↓isi_int_str, ↓isi_int_tuple, ↓isi_int_list, ↓isi_int_dict, ↓isi_str_int, ↓isi_str_bool, ↓isi_str_str, ↓isi_str_tuple, ↓isi_str_list, ↓isi_str_dict, ↓isi_tup_int, ↓isi_tup_bool, ↓isi_tup_str, ↓isi_tup_tuple, ↓isi_tup_list, ↓isi_tup_dict, ↓isi_lst_int, ↓isi_lst_bool, ↓isi_lst_str, ↓isi_lst_tuple, ↓isi_lst_list, ↓isi_lst_dict, decide_eq_true_eq, beq_iff_eq, Bool.not_eq_true', Bool.not_eq_eq_eq_not, Bool.not_true, Bool.not_false, decide_eq_false_iff_not, beq_eq_false_iff_ne, ne_eq, true_and, and_true, if_true, if_false, ite_true, ite_false, reduceIte, Bool.false_eq_true, not_false_eq_true, not_true_eq_false, Int.reduceLT, Int.reduceLE, Int.reduceToNat, Nat.reduceLT, Nat.reduceLeDiff, Int.reducePow, Nat.reduceAdd, Int.reduceAdd, Int.reduceMul, Int.reduceSub, Int.reduceNeg, Nat.reducePow, Int.reduceEq, Nat.reduceEqDiff, List.length_cons, List.length_nil, PySem.sizeLine_eq, str_len_app, str_len_one, wipeD, List.set_cons_zero, List.set_cons_succ, ↓qO_of (show atI (ws.map D.str) d = some (.str w) by rw [atI_map, ew]; rfl)]
      refine (number_ok hs9 (by omega)).go ?_
      rintro _ μ10 ⟨v, rfl, _, _, hs10, f10⟩
      have g10 : Fr [μ7.cells.length] μ7 μ10 := (f8.mono (by simp)).trans (f9.trans f10)
      have hh10 := hh.fr g10 (by intro k hk; have := hh.lt hk; simp; omega)
      have hr10 := g10.get hr (by intro hm; rw [List.mem_singleton] at hm; omega)
      have lS : S.num.length ≤ 6 := by have := congrArg List.length hk; simp at this; omega
      simp -failIfUnchanged (disch := (first | (simp only [len_push, len_set]; omega) | omega | assumption)) only [↓wR_ok, ↓wR_err, ↓wE_var0, ↓wE_varS, ↓wE_C, ↓wE_op, ↓wE_cmp, ↓wE_bl, ↓qB_bl, ↓wE_asB, ↓wE_and, ↓wE_or, ↓wE_not, ↓wE_andV, ↓wE_orV, ↓wE_notV, ↓wE_if, ↓wE_nil, ↓wE_cons, ↓wE_fz, ↓wE_lc, ↓wE_tup, ↓wE_lst, ↓wE_call, ↓wE_nopart, ↓qI_int, ↓wE_part, ↓wE_slice, ↓wE_fld, ↓wE_dnew, ↓wE_iter, ↓wE_rev, ↓wE_pos, ↓wE_kws, ↓wE_noa, ↓wE_both, ↓wE_fn, ↓wE_mth, ↓qN_non, ↓wE_mk, ↓wE_meth, ↓wE_neg, ↓wE_chain, ↓wE_comp, ↓wS_nx, ↓wS_bk, ↓wS_ct, ↓wS_seq, ↓wS_drop, ↓wS_ret, ↓wS_retN, ↓wS_if, ↓wS_asg, ↓qL_loc, ↓qCl_lst, ↓wS_retFz, ↓wS_raise, ↓wS_for, ↓wS_try, ↓wG_set0, ↓wG_setS, ↓wG_then, ↓wG_sub, ↓wG_fld, ↓qT_tup, ↓wG_tup, ↓wGs_nil, ↓wGs_cons, ↓endB_nx, ↓endB_rt, ↓endB_er, ↓endB_bk, ↓endB_ct, ↓loopP_nx, ↓loopP_ct, ↓loopP_bk, ↓loopP_rt, ↓loopP_er, ↓qO_some, ↓qO_at0, ↓qO_at1, ↓qO_at2, ↓qO_at3, ↓qO_at4, ↓qO_at5, ↓w_add_int, ↓w_add_str, ↓w_add_tup, ↓w_add_lst, ↓w_sub, ↓w_mod, ↓w_div, ↓w_mul, ↓w_pow, ↓w_band, ↓w_lt, ↓w_le, ↓w_gt, ↓w_ge, ↓w_is, ↓w_isNot, ↓nonN, ↓nonI, ↓nonS, ↓nonT, ↓nonL, ↓nonLoc, ↓w_eq_int, ↓w_ne_int, ↓w_eq_str, ↓w_ne_str, ↓qIx_lst, ↓qIx_dK, ↓qIxS_dK, ↓w_ix_loc, ↓w_ix_locS, ↓w_ix_lst, ↓w_ix_tup, ↓w_ix_str, ↓qLS_0, ↓qLS_1, ↓qLS_2, ↓qLS_3, ↓qSet_lst, ↓qSet_dK, ↓qSetS_dK, ↓w_setI, ↓w_setS, ↓qF_ins, ↓w_fld, ↓qSF_ins, ↓w_setF, ↓w_len_str, ↓w_len_lst, ↓w_len_tup, ↓qLen_lst, ↓qLen_dK, ↓w_len_loc, ↓w_max, ↓w_min, ↓w_int_int, ↓w_int_bl, ↓w_str_int, ↓qDc_dK, ↓w_dict, ↓w_tuple_lst, ↓w_tuple_tup, ↓w_tuple_loc, ↓w_list_lst, ↓w_list_tup, ↓w_iter_lst, ↓w_iter_tup, ↓w_iter_str, ↓w_iter_loc, ↓w_rng1, ↓w_rng2, ↓w_sl_str, ↓w_sl_tup, ↓w_sl_lst, ↓w_append, ↓w_lclear, ↓tyS_str, ↓tyL_lst, ↓qM_loc, ↓look1, ↓wC_set, ↓wC_setn, ↓wC_push2, ↓wC_pushn, ↓wE_yes, ↓wE_revL, ↓qO_lst, ↓w_all_lst, ↓w_join_lst, ↓isi_non_int, ↓isi_non_bool, ↓isi_non_str, ↓isi_non_tuple, ↓isi_non_list, ↓isi_non_dict, ↓isi_bl_int, ↓isi_bl_bool, ↓isi_bl_str, ↓isi_bl_tuple, ↓isi_bl_list, ↓isi_bl_dict, ↓isi_int_int, ↓isi_int_bool, ↓isi_int_str, ↓isi_int_tuple, ↓isi_int_list, ↓isi_int_dict, ↓isi_str_int, ↓isi_str_bool, ↓isi_str_str, ↓isi_str_tuple, ↓isi_str_list, ↓isi_str_dict, ↓isi_tup_int, ↓isi_tup_bool, ↓isi_tup_str, ↓isi_tup_tuple, ↓isi_tup_list, ↓isi_tup_dict, ↓isi_lst_int, ↓isi_lst_bool, ↓isi_lst_str, ↓isi_lst_tuple, ↓isi_lst_list, ↓isi_lst_dict, decide_eq_true_eq, beq_iff_eq, Bool.not_eq_true', Bool.not_eq_eq_eq_not, Bool.not_true, Bool.not_false, decide_eq_false_iff_not, beq_eq_false_iff_ne, ne_eq, true_and, and_true, if_true, if_false, ite_true, ite_false, reduceIte, Bool.false_eq_true, not_false_eq_true, not_true_eq_false, Int.reduceLT, Int.reduceLE, Int.reduceToNat, Nat.reduceLT, Nat.reduceLeDiff, Int.reducePow, Nat.reduceAdd, Int.reduceAdd, Int.reduceMul, Int.reduceSub, Int.reduceNeg, Nat.reducePow, Int.reduceEq, Nat.reduceEqDiff, List.length_cons, List.length_nil, PySem.sizeLine_eq, str_len_app, str_len_one, wipeD, List.set_cons_zero, List.set_cons_succ, ↓wC_of hr10, enc_len, lkd_nil hh10.lk]
      refine ⟨by omega, ?_⟩
      have f11 : Fr [μ3.cells.length] μ10 (μ10.set μ3.cells.length (.dK (kput (encS D.int S.num) (.inr w) (.int v)))) := Fr.set1 _ _ _
      have hh11 := hh10.fr f11 (by intro k hk; rw [List.mem_singleton]; intro z; subst z; exact hnot hk)
      simp -failIfUnchanged (disch := (first | (simp only [len_push, len_set]; omega) | omega | assumption)) only [↓wR_ok, ↓wR_err, ↓wE_var0, ↓wE_varS, ↓wE_C, ↓wE_op, ↓wE_cmp, ↓wE_bl, ↓qB_bl, ↓wE_asB, ↓wE_and, ↓wE_or, ↓wE_not, ↓wE_andV, ↓wE_orV, ↓wE_notV, ↓wE_if, ↓wE_nil, ↓wE_cons, ↓wE_fz, ↓wE_lc, ↓wE_tup, ↓wE_lst, ↓wE_call, ↓wE_nopart, ↓qI_int, ↓wE_part, ↓wE_slice, ↓wE_fld, ↓wE_dnew, ↓wE_iter, ↓wE_rev, ↓wE_pos, ↓wE_kws, ↓wE_noa, ↓wE_both, ↓wE_fn, ↓wE_mth, ↓qN_non, ↓wE_mk, ↓wE_meth, ↓wE_neg, ↓wE_chain, ↓wE_comp, ↓wS_nx, ↓wS_bk, ↓wS_ct, ↓wS_seq, ↓wS_drop, ↓wS_ret, ↓wS_retN, ↓wS_if, ↓wS_asg, ↓qL_loc, ↓qCl_lst, ↓wS_retFz, ↓wS_raise, ↓wS_for, ↓wS_try, ↓wG_set0, ↓wG_setS, ↓wG_then, ↓wG_sub, ↓wG_fld, ↓qT_tup, ↓wG_tup, ↓wGs_nil, ↓wGs_cons, ↓endB_nx, ↓endB_rt, ↓endB_er, ↓endB_bk, ↓endB_ct, ↓loopP_nx, ↓loopP_ct, ↓loopP_bk, ↓loopP_rt, ↓loopP_er, ↓qO_some, ↓qO_at0, ↓qO_at1, ↓qO_at2, ↓qO_at3, ↓qO_at4, ↓qO_at5, ↓w_add_int, ↓w_add_str, ↓w_add_tup, ↓w_add_lst, ↓w_sub, ↓w_mod, ↓w_div, ↓w_mul, ↓w_pow, ↓w_band, ↓w_lt, ↓w_le, ↓w_gt, ↓w_ge, ↓w_is, ↓w_isNot, ↓nonN, ↓nonI, ↓nonS, ↓nonT, ↓nonL, ↓nonLoc, ↓w_eq_int, ↓w_ne_int, ↓w_eq_str, ↓w_ne_str, ↓qIx_lst, ↓qIx_dK, ↓qIxS_dK, ↓w_ix_loc, ↓w_ix_locS, ↓w_ix_lst, ↓w_ix_tup, ↓w_ix_str, ↓qLS_0, ↓qLS_1, ↓qLS_2, ↓qLS_3, ↓qSet_lst, ↓qSet_dK, ↓qSetS_dK, ↓w_setI, ↓w_setS, ↓qF_ins, ↓w_fld, ↓qSF_ins, ↓w_setF, ↓w_len_str, ↓w_len_lst, ↓w_len_tup, ↓qLen_lst, ↓qLen_dK, ↓w_len_loc, ↓w_max, ↓w_min, ↓w_int_int, ↓w_int_bl, ↓w_str_int, ↓qDc_dK, ↓w_dict, ↓w_tuple_lst, ↓w_tuple_tup, ↓w_tuple_loc, ↓w_list_lst, ↓w_list_tup, ↓w_iter_lst, ↓w_iter_tup, ↓w_iter_str, ↓w_iter_loc, ↓w_rng1, ↓w_rng2, ↓w_sl_str, ↓w_sl_tup, ↓w_sl_lst, ↓w_append, ↓w_lclear, ↓tyS_str, ↓tyL_lst, ↓qM_loc, ↓look1, ↓wC_set, ↓wC_setn, ↓wC_push2, ↓wC_pushn, ↓wE_yes, ↓wE_revL, ↓qO_lst, ↓w_all_lst, ↓w_join_lst, ↓isi_non_int, ↓isi_non_bool, ↓isi_non_str, ↓isi_non_tuple, ↓isi_non_list, ↓isi_non_dict, ↓isi_bl_int, ↓isi_bl_bool, ↓isi_bl_str, ↓isi_bl_tuple, ↓isi_bl_list, ↓isi_bl_dict, ↓isi_int_int, ↓isi_int_bool, ↓isi_int_str, ↓isi_int_tuple, ↓isi_int_list, ↓isi_int_dict, ↓isi_str_int, ↓isi_str_bool, ↓isi_str_str, ↓isi_str_tuple, ↓isi_str_list, ↓isi_str_dict, ↓isi_tup_int, ↓isi_tup_bool, ↓isi_tup_str, ↓isi_tup_tuple, ↓isi_tup_list, ↓isi_tup_dict, ↓isi_lst_int, ↓isi_lst_bool, ↓isi_lst_str, ↓isi_lst_tuple, ↓isi_lst_list, ↓isi_lst_dict, decide_eq_true_eq, beq_iff_eq, Bool.not_eq_true', Bool.not_eq_eq_eq_not, Bool.not_true, Bool.not_false, decide_eq_false_iff_not, beq_eq_false_iff_ne, ne_eq, true_and, and_true, if_true, if_false, ite_true, ite_false, reduceIte, Bool.false_eq_true, not_false_eq_true, not_true_eq_false, Int.reduceLT, Int.reduceLE, Int.reduceToNat, Nat.reduceLT, Nat.reduceLeDiff, Int.reducePow, Nat.reduceAdd, Int.reduceAdd, Int.reduceMul, Int.reduceSub, Int.reduceNeg, Nat.reducePow, Int.reduceEq, Nat.reduceEqDiff, List.length_cons, List.length_nil, PySem.sizeLine_eq, str_len_app, str_len_one, wipeD, List.set_cons_zero, List.set_cons_succ, ↓wC_of hh11.hh, ↓hm_look_for, ↓hm_look_awake, ↓hm_next_turn, ↓hm_lie_down, ↓hm_rise, ↓hm_is_over, ↓hm_put, ↓hm_sleep, ↓hm_wake, ↓hm_move, ↓hm_tick, ↓hm_lateness, ↓hm_nudge, ↓hm_rank, ↓hm_number, ↓hm_line, ↓hm_line_at, ↓hm_order, ↓hm_asleep, ↓hm_sleeper, ↓hm_ending, ↓hm_standing, ↓hm_now, ↓hm_log, ↓hm_who, ↓hm_filled, ↓hm_twin, ↓hf_numbers, ↓hf_beds, ↓hf_ranks, ↓hf_endings, ↓hf_clock, ↓hf_turns, ↓hf_begun, ↓hf_entries]
      refine (put_in hh11 (v := v) (by rw [hk]; exact hwm) (by omega) (by omega)).go ?_
      rintro _ μ12 ⟨rfl, ht⟩
      have hr12 : μ12.cells[μ3.cells.length]? = some (.dK (encS D.int (S.put w v).num)) := by
        refine ht.f.get ?_ hnot
        rw [at_set (at_lt hr10), encS_put]; rfl
      have hk12 : (S.put w v).num.map (·.1) = ws := by
        show (aput S.num w v).map (·.1) = ws
        rw [aput_keys_old (by rw [hk]; exact hwm), hk]
      simp -failIfUnchanged (disch := (first | (simp only [len_push, len_set]; omega) | omega | assumption)) only [↓wR_ok, ↓wR_err, ↓wE_var0, ↓wE_varS, ↓wE_C, ↓wE_op, ↓wE_cmp, ↓wE_bl, ↓qB_bl, ↓wE_asB, ↓wE_and, ↓wE_or, ↓wE_not, ↓wE_andV, ↓wE_orV, ↓wE_notV, ↓wE_if, ↓wE_nil, ↓wE_cons, ↓wE_fz, ↓wE_lc, ↓wE_tup, ↓wE_lst, ↓wE_call, ↓wE_nopart, ↓qI_int, ↓wE_part, ↓wE_slice, ↓wE_fld, ↓wE_dnew, ↓wE_iter, ↓wE_rev, ↓wE_pos, ↓wE_kws, ↓wE_noa, ↓wE_both, ↓wE_fn, ↓wE_mth, ↓qN_non, ↓wE_mk, ↓wE_meth, ↓wE_neg, ↓wE_chain, ↓wE_comp, ↓wS_nx, ↓wS_bk, ↓wS_ct, ↓wS_seq, ↓wS_drop, ↓wS_ret, ↓wS_retN, ↓wS_if, ↓wS_asg, ↓qL_loc, ↓qCl_lst, ↓wS_retFz, ↓wS_raise, ↓wS_for, ↓wS_try, ↓wG_set0, ↓wG_setS, ↓wG_then, ↓wG_sub, ↓wG_fld, ↓qT_tup, ↓wG_tup, ↓wGs_nil, ↓wGs_cons, ↓endB_nx, ↓endB_rt, ↓endB_er, ↓endB_bk, ↓endB_ct, ↓loopP_nx, ↓loopP_ct, ↓loopP_bk, ↓loopP_rt, ↓loopP_er, ↓qO_some, ↓qO_at0, ↓qO_at1, ↓qO_at2, ↓qO_at3, ↓qO_at4, ↓qO_at5, ↓w_add_int, ↓w_add_str, ↓w_add_tup, ↓w_add_lst, ↓w_sub, ↓w_mod, ↓w_div, ↓w_mul, ↓w_pow, ↓w_band, ↓w_lt, ↓w_le, ↓w_gt, ↓w_ge, ↓w_is, ↓w_isNot, ↓nonN, ↓nonI, ↓nonS, ↓nonT, ↓nonL, ↓nonLoc, ↓w_eq_int, ↓w_ne_int, ↓w_eq_str, ↓w_ne_str, ↓qIx_lst, ↓qIx_dK, ↓qIxS_dK, ↓w_ix_loc, ↓w_ix_locS, ↓w_ix_lst, ↓w_ix_tup, ↓w_ix_str, ↓qLS_0, ↓qLS_1, ↓qLS_2, ↓qLS_3, ↓qSet_lst, ↓qSet_dK, ↓qSetS_dK, ↓w_setI, ↓w_setS, ↓qF_ins, ↓w_fld, ↓qSF_ins, ↓w_setF, ↓w_len_str, ↓w_len_lst, ↓w_len_tup, ↓qLen_lst, ↓qLen_dK, ↓w_len_loc, ↓w_max, ↓w_min, ↓w_int_int, ↓w_int_bl, ↓w_str_int, ↓qDc_dK, ↓w_dict, ↓w_tuple_lst, ↓w_tuple_tup, ↓w_tuple_loc, ↓w_list_lst, ↓w_list_tup, ↓w_iter_lst, ↓w_iter_tup, ↓w_iter_str, ↓w_iter_loc, ↓w_rng1, ↓w_rng2, ↓w_sl_str, ↓w_sl_tup, ↓w_sl_lst, ↓w_append, ↓w_lclear, ↓tyS_str, ↓tyL_lst, ↓qM_loc, ↓look1, ↓wC_set, ↓wC_setn, ↓wC_push2, ↓wC_pushn, ↓wE_yes, ↓wE_revL, ↓qO_lst, ↓w_all_lst, ↓w_join_lst, ↓isi_non_int, ↓isi_non_bool, ↓isi_non_str, ↓isi_non_tuple, ↓isi_non_list, ↓isi_non_dict, ↓isi_bl_int, ↓isi_bl_bool, ↓isi_bl_str, ↓isi_bl_tuple, ↓isi_bl_list, ↓isi_bl_dict, ↓isi_int_int, ↓isi_int_bool, ↓isi_int_str, ↓isi_int_tuple, ↓isi_int_list, ↓isi_int_dict, ↓isi_str_int, ↓isi_str_bool, ↓isi_str_str, ↓isi_str_tuple, ↓isi_str_list, ↓isi_str_dict, ↓isi_tup_int, ↓isi_tup_bool, ↓isi_tup_str, ↓isi_tup_tuple, ↓isi_tup_list, ↓isi_tup_dict, ↓isi_lst_int, ↓isi_lst_bool, ↓isi_lst_str, ↓isi_lst_tuple, ↓isi_lst_list, ↓isi_lst_dict, decide_eq_true_eq, beq_iff_eq, Bool.not_eq_true', Bool.not_eq_eq_eq_not, Bool.not_true, Bool.not_false, decide_eq_false_iff_not, beq_eq_false_iff_ne, ne_eq, true_and, and_true, if_true, if_false, ite_true, ite_false, reduceIte, Bool.false_eq_true, not_false_eq_true, not_true_eq_false, Int.reduceLT, Int.reduceLE, Int.reduceToNat, Nat.reduceLT, Nat.reduceLeDiff, Int.reducePow, Nat.reduceAdd, Int.reduceAdd, Int.reduceMul, Int.reduceSub, Int.reduceNeg, Nat.reducePow, Int.reduceEq, Nat.reduceEqDiff, List.length_cons, List.length_nil, PySem.sizeLine_eq, str_len_app, str_len_one, wipeD, List.set_cons_zero, List.set_cons_succ]
      refine (numbers_well_ok ht.h hr12 (num_all hk12) (by omega)).go ?_
      · rintro _ _ ⟨rfl, rfl⟩
        simp -failIfUnchanged (disch := (first | (simp only [len_push, len_set]; omega) | omega | assumption)) only [↓wR_ok, ↓wR_err, ↓wE_var0, ↓wE_varS, ↓wE_C, ↓wE_op, ↓wE_cmp, ↓wE_bl, ↓qB_bl, ↓wE_asB, ↓wE_and, ↓wE_or, ↓wE_not, ↓wE_andV, ↓wE_orV, ↓wE_notV, ↓wE_if, ↓wE_nil, ↓wE_cons, ↓wE_fz, ↓wE_lc, ↓wE_tup, ↓wE_lst, ↓wE_call, ↓wE_nopart, ↓qI_int, ↓wE_part, ↓wE_slice, ↓wE_fld, ↓wE_dnew, ↓wE_iter, ↓wE_rev, ↓wE_pos, ↓wE_kws, ↓wE_noa, ↓wE_both, ↓wE_fn, ↓wE_mth, ↓qN_non, ↓wE_mk, ↓wE_meth, ↓wE_neg, ↓wE_chain, ↓wE_comp, ↓wS_nx, ↓wS_bk, ↓wS_ct, ↓wS_seq, ↓wS_drop, ↓wS_ret, ↓wS_retN, ↓wS_if, ↓wS_asg, ↓qL_loc, ↓qCl_lst, ↓wS_retFz, ↓wS_raise, ↓wS_for, ↓wS_try, ↓wG_set0, ↓wG_setS, ↓wG_then, ↓wG_sub, ↓wG_fld, ↓qT_tup, ↓wG_tup, ↓wGs_nil, ↓wGs_cons, ↓endB_nx, ↓endB_rt, ↓endB_er, ↓endB_bk, ↓endB_ct, ↓loopP_nx, ↓loopP_ct, ↓loopP_bk, ↓loopP_rt, ↓loopP_er, ↓qO_some, ↓qO_at0, ↓qO_at1, ↓qO_at2, ↓qO_at3, ↓qO_at4, ↓qO_at5, ↓w_add_int, ↓w_add_str, ↓w_add_tup, ↓w_add_lst, ↓w_sub, ↓w_mod, ↓w_div, ↓w_mul, ↓w_pow, ↓w_band, ↓w_lt, ↓w_le, ↓w_gt, ↓w_ge, ↓w_is, ↓w_isNot, ↓nonN, ↓nonI, ↓nonS, ↓nonT, ↓nonL, ↓nonLoc, ↓w_eq_int, ↓w_ne_int, ↓w_eq_str, ↓w_ne_str, ↓qIx_lst, ↓qIx_dK, ↓qIxS_dK, ↓w_ix_loc, ↓w_ix_locS, ↓w_ix_lst, ↓w_ix_tup, ↓w_ix_str, ↓qLS_0, ↓qLS_1, ↓qLS_2, ↓qLS_3, ↓qSet_lst, ↓qSet_dK, ↓qSetS_dK, ↓w_setI, ↓w_setS, ↓qF_ins, ↓w_fld, ↓qSF_ins, ↓w_setF, ↓w_len_str, ↓w_len_lst, ↓w_len_tup, ↓qLen_lst, ↓qLen_dK, ↓w_len_loc, ↓w_max, ↓w_min, ↓w_int_int, ↓w_int_bl, ↓w_str_int, ↓qDc_dK, ↓w_dict, ↓w_tuple_lst, ↓w_tuple_tup, ↓w_tuple_loc, ↓w_list_lst, ↓w_list_tup, ↓w_iter_lst, ↓w_iter_tup, ↓w_iter_str, ↓w_iter_loc, ↓w_rng1, ↓w_rng2, ↓w_sl_str, ↓w_sl_tup, ↓w_sl_lst, ↓w_append, ↓w_lclear, ↓tyS_str, ↓tyL_lst, ↓qM_loc, ↓look1, ↓wC_set, ↓wC_setn, ↓wC_push2, ↓wC_pushn, ↓wE_yes, ↓wE_revL, ↓qO_lst, ↓w_all_lst, ↓w_join_lst, ↓isi_non_int, ↓isi_non_bool, ↓isi_non_str, ↓isi_non_tuple, ↓isi_non_list, ↓isi_non_dict, ↓isi_bl_int, ↓isi_bl_bool, ↓isi_bl_str, ↓isi_bl_tuple, ↓isi_bl_list, ↓isi_bl_dict, ↓isi_int_int, ↓isi_int_bool, ↓isi_int_str, ↓isi_int_tuple, ↓isi_int_list, ↓isi_int_dict, ↓isi_str_int, ↓isi_str_bool, ↓isi_str_str, ↓isi_str_tuple, ↓isi_str_list, ↓isi_str_dict, ↓isi_tup_int, ↓isi_tup_bool, ↓isi_tup_str, ↓isi_tup_tuple, ↓isi_tup_list, ↓isi_tup_dict, ↓isi_lst_int, ↓isi_lst_bool, ↓isi_lst_str, ↓isi_lst_tuple, ↓isi_lst_list, ↓isi_lst_dict, decide_eq_true_eq, beq_iff_eq, Bool.not_eq_true', Bool.not_eq_eq_eq_not, Bool.not_true, Bool.not_false, decide_eq_false_iff_not, beq_eq_false_iff_ne, ne_eq, true_and, and_true, if_true, if_false, ite_true, ite_false, reduceIte, Bool.false_eq_true, not_false_eq_true, not_true_eq_false, Int.reduceLT, Int.reduceLE, Int.reduceToNat, Nat.reduceLT, Nat.reduceLeDiff, Int.reducePow, Nat.reduceAdd, Int.reduceAdd, Int.reduceMul, Int.reduceSub, Int.reduceNeg, Nat.reducePow, Int.reduceEq, Nat.reduceEqDiff, List.length_cons, List.length_nil, PySem.sizeLine_eq, str_len_app, str_len_one, wipeD, List.set_cons_zero, List.set_cons_succ]
        refine ⟨_, _, _, _, S.put w v, rfl, ht.h, hk12, by simp [HS.put]; omega, hr12, fun hm => ?_⟩
        rcases ht.new _ hm with hm | hm
        · exact hnot hm
        · rw [len_set] at hm
          have := g10.le
          omega
  · rintro δ μ7 ⟨x1, x4, x7, x8, S, rfl, hh, hk, hlog, hr, hnot⟩
    have hz : ("zzzzzzzz" : Str) ∉ S.num.map (·.1) := by
      rw [hk]; intro hm
      have := (hw3 _ hm).le
      exact absurd this (by decide +kernel)
    simp -failIfUnchanged (disch := (first | (simp only [len_push, len_set]; omega) | omega | assumption)) only [↓wR_ok, ↓wR_err, ↓wE_var0, ↓wE_varS, ↓wE_C, ↓wE_op, ↓wE_cmp, ↓wE_bl, ↓qB_bl, ↓wE_asB, ↓wE_and, ↓wE_or, ↓wE_not, ↓wE_andV, ↓wE_orV, ↓wE_notV, ↓wE_if, ↓wE_nil, ↓wE_cons, ↓wE_fz, ↓wE_lc, ↓wE_tup, ↓wE_lst, ↓wE_call, ↓wE_nopart, ↓qI_int, ↓wE_part, ↓wE_slice, ↓wE_fld, ↓wE_dnew, ↓wE_iter, ↓wE_rev, ↓wE_pos, ↓wE_kws, ↓wE_noa, ↓wE_both, ↓wE_fn, ↓wE_mth, ↓qN_non, ↓wE_mk, ↓wE_meth, ↓wE_neg, ↓wE_chain, ↓wE_comp, ↓wS_nx, ↓wS_bk, ↓wS_ct, ↓wS_seq, ↓wS_drop, ↓wS_ret, ↓wS_retN, ↓wS_if, ↓wS_asg, ↓qL_loc, ↓qCl_lst, ↓wS_retFz, ↓wS_raise, ↓wS_for, ↓wS_try, ↓wG_set0, ↓wG_setS, ↓wG_then, ↓wG_sub, ↓wG_fld, ↓qT_tup, ↓wG_tup, ↓wGs_nil, ↓wGs_cons, ↓endB_nx, ↓endB_rt, ↓endB_er, ↓endB_bk, ↓endB_ct, ↓loopP_nx, ↓loopP_ct, ↓loopP_bk, ↓loopP_rt, ↓loopP_er, ↓qO_some, ↓qO_at0, ↓qO_at1, ↓qO_at2, ↓qO_at3, ↓qO_at4, ↓qO_at5, ↓w_add_int, ↓w_add_str, ↓w_add_tup, ↓w_add_lst, ↓w_sub, ↓w_mod, ↓w_div, ↓w_mul, ↓w_pow, ↓w_band, ↓w_lt, ↓w_le, ↓w_gt, ↓w_ge, ↓w_is, ↓w_isNot, ↓nonN, ↓nonI, ↓nonS, ↓nonT, ↓nonL, ↓nonLoc, ↓w_eq_int, ↓w_ne_int, ↓w_eq_str, ↓w_ne_str, ↓qIx_lst, ↓qIx_dK, ↓qIxS_dK, ↓w_ix_loc, ↓w_ix_locS, ↓w_ix_lst, ↓w_ix_tup, ↓w_ix_str, ↓qLS_0, ↓qLS_1, ↓qLS_2, ↓qLS_3, ↓qSet_lst, ↓qSet_dK, ↓qSetS_dK, ↓w_setI, ↓w_setS, ↓qF_ins, ↓w_fld, ↓qSF_ins, ↓w_setF, ↓w_len_str, ↓w_len_lst, ↓w_len_tup, ↓qLen_lst, ↓qLen_dK, ↓w_len_loc, ↓w_max, ↓w_min, ↓w_int_int, ↓w_int_bl, ↓w_str_int, ↓qDc_dK, ↓w_dict, ↓w_tuple_lst, ↓w_tuple_tup, ↓w_tuple_loc, ↓w_list_lst, ↓w_list_tup, ↓w_iter_lst, ↓w_iter_tup, ↓w_iter_str, ↓w_iter_loc, ↓w_rng1, ↓w_rng2, ↓w_sl_str, ↓w_sl_tup, ↓w_sl_lst, ↓w_append, ↓w_lclear, ↓tyS_str, ↓tyL_lst, ↓qM_loc, ↓look1, ↓wC_set, ↓wC_setn, ↓wC_push2, ↓wC_pushn, ↓wE_yes, ↓wE_revL, ↓qO_lst, ↓w_all_lst, ↓w_join_lst, ↓isi_non_int, ↓isi_non_bool, ↓isi_non_str, ↓isi_non_tuple, ↓isi_non_list, ↓isi_non_dict, ↓isi_bl_int, ↓isi_bl_bool, ↓isi_bl_str, ↓isi_bl_tuple, ↓isi_bl_list, ↓isi_bl_dict, ↓isi_int_int, ↓isi_int_bool, ↓isi_int_str, ↓isi_int_tuple, ↓isi_int_list, ↓isi_int_dict, ↓isi_str_int, ↓isi_str_bool, ↓isi_str_str, ↓isi_str_tuple, ↓isi_str_list, ↓isi_str_dict, ↓isi_tup_int, ↓isi_tup_bool, ↓isi_tup_str, ↓isi_tup_tuple, ↓isi_tup_list, ↓isi_tup_dict, ↓isi_lst_int, ↓isi_lst_bool, ↓isi_lst_str, ↓isi_lst_tuple, ↓isi_lst_list, ↓isi_lst_dict, decide_eq_true_eq, beq_iff_eq, Bool.not_eq_true', Bool.not_eq_eq_eq_not, Bool.not_true, Bool.not_false, decide_eq_false_iff_not, beq_eq_false_iff_ne, ne_eq, true_and, and_true, if_true, if_false, ite_true, ite_false, reduceIte, Bool.false_eq_true, not_false_eq_true, not_true_eq_false, Int.reduceLT, Int.reduceLE, Int.reduceToNat, Nat.reduceLT, Nat.reduceLeDiff, Int.reducePow, Nat.reduceAdd, Int.reduceAdd, Int.reduceMul, Int.reduceSub, Int.reduceNeg, Nat.reducePow, Int.reduceEq, Nat.reduceEqDiff, List.length_cons, List.length_nil, PySem.sizeLine_eq, str_len_app, str_len_one, wipeD, List.set_cons_zero, List.set_cons_succ]
    refine (strange_put hh hz).go ?_
    rintro _ _ ⟨rfl, rfl⟩
    simp -failIfUnchanged (disch := (first | (simp only [len_push, len_set]; omega) | omega | assumption)) only [↓wR_ok, ↓wR_err, ↓wE_var0, ↓wE_varS, ↓wE_C, ↓wE_op, ↓wE_cmp, ↓wE_bl, ↓qB_bl, ↓wE_asB, ↓wE_and, ↓wE_or, ↓wE_not, ↓wE_andV, ↓wE_orV, ↓wE_notV, ↓wE_if, ↓wE_nil, ↓wE_cons, ↓wE_fz, ↓wE_lc, ↓wE_tup, ↓wE_lst, ↓wE_call, ↓wE_nopart, ↓qI_int, ↓wE_part, ↓wE_slice, ↓wE_fld, ↓wE_dnew, ↓wE_iter, ↓wE_rev, ↓wE_pos, ↓wE_kws, ↓wE_noa, ↓wE_both, ↓wE_fn, ↓wE_mth, ↓qN_non, ↓wE_mk, ↓wE_meth, ↓wE_neg, ↓wE_chain, ↓wE_comp, ↓wS_nx, ↓wS_bk, ↓wS_ct, ↓wS_seq, ↓wS_drop, ↓wS_ret, ↓wS_retN, ↓wS_if, ↓wS_asg, ↓qL_loc, ↓qCl_lst, ↓wS_retFz, ↓wS_raise, ↓wS_for, ↓wS_try, ↓wG_set0, ↓wG_setS, ↓wG_then, ↓wG_sub, ↓wG_fld, ↓qT_tup, ↓wG_tup, ↓wGs_nil, ↓wGs_cons, ↓endB_nx, ↓endB_rt, ↓endB_er, ↓endB_bk, ↓endB_ct, ↓loopP_nx, ↓loopP_ct, ↓loopP_bk, ↓loopP_rt, ↓loopP_er, ↓qO_some, ↓qO_at0, ↓qO_at1, ↓qO_at2, ↓qO_at3, ↓qO_at4, ↓qO_at5, ↓w_add_int, ↓w_add_str, ↓w_add_tup, ↓w_add_lst, ↓w_sub, ↓w_mod, ↓w_div, ↓w_mul, ↓w_pow, ↓w_band, ↓w_lt, ↓w_le, ↓w_gt, ↓w_ge, ↓w_is, ↓w_isNot, ↓nonN, ↓nonI, ↓nonS, ↓nonT, ↓nonL, ↓nonLoc, ↓w_eq_int, ↓w_ne_int, ↓w_eq_str, ↓w_ne_str, ↓qIx_lst, ↓qIx_dK, ↓qIxS_dK, ↓w_ix_loc, ↓w_ix_locS, ↓w_ix_lst, ↓w_ix_tup, ↓w_ix_str, ↓qLS_0, ↓qLS_1, ↓qLS_2, ↓qLS_3, ↓qSet_lst, ↓qSet_dK, ↓qSetS_dK, ↓w_setI, ↓w_setS, ↓qF_ins, ↓w_fld, ↓qSF_ins, ↓w_setF, ↓w_len_str, ↓w_len_lst, ↓w_len_tup, ↓qLen_lst, ↓qLen_dK, ↓w_len_loc, ↓w_max, ↓w_min, ↓w_int_int, ↓w_int_bl, ↓w_str_int, ↓qDc_dK, ↓w_dict, ↓w_tuple_lst, ↓w_tuple_tup, ↓w_tuple_loc, ↓w_list_lst, ↓w_list_tup, ↓w_iter_lst, ↓w_iter_tup, ↓w_iter_str, ↓w_iter_loc, ↓w_rng1, ↓w_rng2, ↓w_sl_str, ↓w_sl_tup, ↓w_sl_lst, ↓w_append, ↓w_lclear, ↓tyS_str, ↓tyL_lst, ↓qM_loc, ↓look1, ↓wC_set, ↓wC_setn, ↓wC_push2, ↓wC_pushn, ↓wE_yes, ↓wE_revL, ↓qO_lst, ↓w_all_lst, ↓w_join_lst, ↓isi_non_int, ↓isi_non_bool, ↓isi_non_str, ↓isi_non_tuple, ↓isi_non_list, ↓isi_non_dict, ↓isi_bl_int, ↓isi_bl_bool, ↓isi_bl_str, ↓isi_bl_tuple, ↓isi_bl_list, ↓isi_bl_dict, ↓isi_int_int, ↓isi_int_bool, ↓isi_int_str, ↓isi_int_tuple, ↓isi_int_list, ↓isi_int_dict, ↓isi_str_int, ↓isi_str_bool, ↓isi_str_str, ↓isi_str_tuple, ↓isi_str_list, ↓isi_str_dict, ↓isi_tup_int, ↓isi_tup_bool, ↓isi_tup_str, ↓isi_tup_tuple, ↓isi_tup_list, ↓isi_tup_dict, ↓isi_lst_int, ↓isi_lst_bool, ↓isi_lst_str, ↓isi_lst_tuple, ↓isi_lst_list, ↓isi_lst_dict, decide_eq_true_eq, beq_iff_eq, Bool.not_eq_true', Bool.not_eq_eq_eq_not, Bool.not_true, Bool.not_false, decide_eq_false_iff_not, beq_eq_false_iff_ne, ne_eq, true_and, and_true, if_true, if_false, ite_true, ite_false, reduceIte, Bool.false_eq_true, not_false_eq_true, not_true_eq_false, Int.reduceLT, Int.reduceLE, Int.reduceToNat, Nat.reduceLT, Nat.reduceLeDiff, Int.reducePow, Nat.reduceAdd, Int.reduceAdd, Int.reduceMul, Int.reduceSub, Int.reduceNeg, Nat.reducePow, Int.reduceEq, Nat.reduceEqDiff, List.length_cons, List.length_nil, PySem.sizeLine_eq, str_len_app, str_len_one, wipeD, List.set_cons_zero, List.set_cons_succ]
    refine (strange_number hh hz).go ?_
    rintro _ _ ⟨rfl, rfl⟩
    simp -failIfUnchanged (disch := (first | (simp only [len_push, len_set]; omega) | omega | assumption)) only [↓wR_ok, ↓wR_err, ↓wE_var0, ↓wE_varS, ↓wE_C, ↓wE_op, ↓wE_cmp, ↓wE_bl, ↓qB_bl, ↓wE_asB, ↓wE_and, ↓wE_or, ↓wE_not, ↓wE_andV, ↓wE_orV, ↓wE_notV, ↓wE_if, ↓wE_nil, ↓wE_cons, ↓wE_fz, ↓wE_lc, ↓wE_tup, ↓wE_lst, ↓wE_call, ↓wE_nopart, ↓qI_int, ↓wE_part, ↓wE_slice, ↓wE_fld, ↓wE_dnew, ↓wE_iter, ↓wE_rev, ↓wE_pos, ↓wE_kws, ↓wE_noa, ↓wE_both, ↓wE_fn, ↓wE_mth, ↓qN_non, ↓wE_mk, ↓wE_meth, ↓wE_neg, ↓wE_chain, ↓wE_comp, ↓wS_nx, ↓wS_bk, ↓wS_ct, ↓wS_seq, ↓wS_drop, ↓wS_ret, ↓wS_retN, ↓wS_if, ↓wS_asg, ↓qL_loc, ↓qCl_lst, ↓wS_retFz, ↓wS_raise, ↓wS_for, ↓wS_try, ↓wG_set0, ↓wG_setS, ↓wG_then, ↓wG_sub, ↓wG_fld, ↓qT_tup, ↓wG_tup, ↓wGs_nil, ↓wGs_cons, ↓endB_nx, ↓endB_rt, ↓endB_er, ↓endB_bk, ↓endB_ct, ↓loopP_nx, ↓loopP_ct, ↓loopP_bk, ↓loopP_rt, ↓loopP_er, ↓qO_some, ↓qO_at0, ↓qO_at1, ↓qO_at2, ↓qO_at3, ↓qO_at4, ↓qO_at5, ↓w_add_int, ↓w_add_str, ↓w_add_tup, ↓w_add_lst, ↓w_sub, ↓w_mod, ↓w_div, ↓w_mul, ↓w_pow, ↓w_band, ↓w_lt, ↓w_le, ↓w_gt, ↓w_ge, ↓w_is, ↓w_isNot, ↓nonN, ↓nonI, ↓nonS, ↓nonT, ↓nonL, ↓nonLoc, ↓w_eq_int, ↓w_ne_int, ↓w_eq_str, ↓w_ne_str, ↓qIx_lst, ↓qIx_dK, ↓qIxS_dK, ↓w_ix_loc, ↓w_ix_locS, ↓w_ix_lst, ↓w_ix_tup, ↓w_ix_str, ↓qLS_0, ↓qLS_1, ↓qLS_2, ↓qLS_3, ↓qSet_lst, ↓qSet_dK, ↓qSetS_dK, ↓w_setI, ↓w_setS, ↓qF_ins, ↓w_fld, ↓qSF_ins, ↓w_setF, ↓w_len_str, ↓w_len_lst, ↓w_len_tup, ↓qLen_lst, ↓qLen_dK, ↓w_len_loc, ↓w_max, ↓w_min, ↓w_int_int, ↓w_int_bl, ↓w_str_int, ↓qDc_dK, ↓w_dict, ↓w_tuple_lst, ↓w_tuple_tup, ↓w_tuple_loc, ↓w_list_lst, ↓w_list_tup, ↓w_iter_lst, ↓w_iter_tup, ↓w_iter_str, ↓w_iter_loc, ↓w_rng1, ↓w_rng2, ↓w_sl_str, ↓w_sl_tup, ↓w_sl_lst, ↓w_append, ↓w_lclear, ↓tyS_str, ↓tyL_lst, ↓qM_loc, ↓look1, ↓wC_set, ↓wC_setn, ↓wC_push2, ↓wC_pushn, ↓wE_yes, ↓wE_revL, ↓qO_lst, ↓w_all_lst, ↓w_join_lst, ↓isi_non_int, ↓isi_non_bool, ↓isi_non_str, ↓isi_non_tuple, ↓isi_non_list, ↓isi_non_dict, ↓isi_bl_int, ↓isi_bl_bool, ↓isi_bl_str, ↓isi_bl_tuple, ↓isi_bl_list, ↓isi_bl_dict, ↓isi_int_int, ↓isi_int_bool, ↓isi_int_str, ↓isi_int_tuple, ↓isi_int_list, ↓isi_int_dict, ↓isi_str_int, ↓isi_str_bool, ↓isi_str_str, ↓isi_str_tuple, ↓isi_str_list, ↓isi_str_dict, ↓isi_tup_int, ↓isi_tup_bool, ↓isi_tup_str, ↓isi_tup_tuple, ↓isi_tup_list, ↓isi_tup_dict, ↓isi_lst_int, ↓isi_lst_bool, ↓isi_lst_str, ↓isi_lst_tuple, ↓isi_lst_list, ↓isi_lst_dict, decide_eq_true_eq, beq_iff_eq, Bool.not_eq_true', Bool.not_eq_eq_eq_not, Bool.not_true, Bool.not_false, decide_eq_false_iff_not, beq_eq_false_iff_ne, ne_eq, true_and, and_true, if_true, if_false, ite_true, ite_false, reduceIte, Bool.false_eq_true, not_false_eq_true, not_true_eq_false, Int.reduceLT, Int.reduceLE, Int.reduceToNat, Nat.reduceLT, Nat.reduceLeDiff, Int.reducePow, Nat.reduceAdd, Int.reduceAdd, Int.reduceMul, Int.reduceSub, Int.reduceNeg, Nat.reducePow, Int.reduceEq, Nat.reduceEqDiff, List.length_cons, List.length_nil, PySem.sizeLine_eq, str_len_app, str_len_one, wipeD, List.set_cons_zero, List.set_cons_succ, ← List.map_reverse]
    refine (numbers_well_ok hh hr (fun w hw => num_all hk w (List.mem_reverse.mp hw)) (by simp; omega)).go ?_
    · rintro _ _ ⟨rfl, rfl⟩
      rfl
end K01
theorem PySem.Challenge.cw_dozehall_k01_numbers_put_holds : PySem.Challenge.rw_dozehall_k01_numbers_put.Holds :=
  K01.holds fun K _ ns hn => by
    obtain ⟨v, μ, e, rfl⟩ := Doz.wR.of (K01.law_ok (Doz.clOf K) ns hn)
    exact ⟨μ, e⟩
end
