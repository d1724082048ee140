import PyProof.Rows.All
import Wide.All
import OpenK.AllK
import Wide.FinOn
import HandS.ForMost
import HandS.ForExc
import HandS.Wide
import HandS.Flow
import HandS.CallSlots
import HandS.Defaults
import HandS.IsInst
import HandS.Deep
import HandS.RaiseMore
import HandS.More
import HandS.TupAny
import HandS.DictComp
import HandS.Finally
import HandS.Rev
import HandS.Text
import HandS.MakeKwOnly
import KE.OsGo
import KE.KStateDown
import HandS.Ends
import HandS.Words
import HandS.WordsExc
import HandS.Head0
import HandS.Head1
import HandS.Head2
import HandS.HeadEnd
import HandS.HeadHook1
import HandS.HeadHook2
import HandS.Keys
import KE.SortKeyHeap
import HandS.SortInts
import KE.FramesApart
import HandS.SortKw
import PyProof.CollectIter
import PyProof.WalksMore
import HandS.NoneIn
import HandS.TupMul
import KE.KExcIs
import KE.KIsAll
import KE.GoesZip
import KE.GoesMore
import HandS.Conv
import HandS.SetKeys
import HandS.TupLe
import KE.GoesEnum
import HandS.Dict
import OpenK.KOps
import PySem.Challenge.RW_dozehall_k16_whole_moved_keep_order
set_option Elab.async false
set_option linter.all false
set_option maxRecDepth 100000
set_option maxHeartbeats 4000001
section
namespace Doz
open PySem L2
inductive D where
  | non | bl (b : Bool) | int (i : Int) | str (x : Str) | tup (ds : List D) | lst (ds : List D) | loc (n : Nat) | sta (a : Addr) | ty (n : String)
inductive Cell where
  | lst (ds : List D) | dK (kds : List (Key × D)) | dT (kds : List (List Key × D)) | ins (C : Addr) (fs : List (Str × D)) | dead
structure Mem where
  cells : List Cell
  lk : List Nat := []
abbrev DEnv := List (Option D)
inductive Res (α : Type) where
  | ok (a : α) (μ : Mem) | err (C : Addr) (w : D) (μ : Mem) | bad
def Res.bind {α β : Type} (r : Res α) (k : α → Mem → Res β) : Res β := match r with
  | .ok a μ => k a μ
  | .err C w μ => .err C w μ
  | .bad => .bad
abbrev MX (α : Type) := DEnv → Mem → Res α
abbrev ME := MX D
inductive SRes where
  | nx (δ : DEnv) (μ : Mem) | rt (d : D) (μ : Mem) | bk (δ : DEnv) (μ : Mem) | ct (δ : DEnv) (μ : Mem) | err (C : Addr) (w : D) (δ : DEnv) (μ : Mem) | bad
abbrev MS := DEnv → Mem → SRes
def PT (K : PySem.W.Frag) (H : Hp) (a : Addr) (xs : List V) : Prop := H a = some (.tup xs) ∨
    ∃ (o : Obj) (its : Array Value) (n : Nat), K.lookup a = some o ∧ o.cls = .type "tuple" ∧ o.data = .seq its n ∧ its.size ≤ sizeLine ∧ Vals xs its.toList
def StL (K : PySem.W.Frag) (a : Addr) (xs : List V) : Prop := ∃ (its : List Value) (n : Nat), K.lookup a = some { cls := .type "list", data := .seq its.toArray n } ∧ its.length ≤ sizeLine ∧ Vals xs its
def PL (K : PySem.W.Frag) (H : Hp) (a : Addr) (xs : List V) : Prop := (∃ o, H a = some (.frz o (.lst xs))) ∨ StL K a xs
def LsR (K : PySem.W.Frag) (H : Hp) (a : Addr) (xs : List V) : Prop := Rd H a (.lst xs) ∨ StL K a xs
theorem PT.sq {K : PySem.W.Frag} {H : Hp} {a : Addr} {xs : List V} (h : PT K H a xs) : SqT K H a xs := h.elim (fun h => .inl (.inl h)) .inr
theorem LsR.sq {K : PySem.W.Frag} {H : Hp} {a : Addr} {xs : List V} (h : LsR K H a xs) : SqL K H a xs := h.elim .inl fun ⟨its, n, h, hz, r⟩ => .inr ⟨_, its.toArray, n, h, rfl, rfl, rfl, by simpa using hz, by simpa using r⟩
theorem PL.ls {K : PySem.W.Frag} {H : Hp} {a : Addr} {xs : List V} (h : PL K H a xs) : LsR K H a xs := h.elim (fun h => .inl (.inr h)) .inr
mutual
def DV (K : PySem.W.Frag) (ρ : List Addr) (H : Hp) : D → V → Prop
  | .non, v => v = .non
  | .bl b, v => v = .bl b
  | .int i, v => v = .int i
  | .str x, v => v = .str x
  | .tup ds, v => ∃ a vs, v = .ref a ∧ PT K H a vs ∧ DVs K ρ H ds vs
  | .lst ds, v => ∃ a vs, v = .ref a ∧ PL K H a vs ∧ DVs K ρ H ds vs
  | .loc n, v => ∃ a, ρ[n]? = some a ∧ v = .ref a
  | .sta a, v => v = .ref a
  | .ty n, v => v = .ty n
def DVs (K : PySem.W.Frag) (ρ : List Addr) (H : Hp) : List D → List V → Prop
  | [], vs => vs = []
  | d :: ds, vs => ∃ v r, vs = v :: r ∧ DV K ρ H d v ∧ DVs K ρ H ds r
end
structure Fz0 (H H' : Hp) : Prop where
  tups : ∀ b xs, H b = some (.tup xs) → H' b = some (.tup xs)
  frzs : ∀ b o u, H b = some (.frz o u) → H' b = some (.frz o u)
structure Fz (ρ ρ' : List Addr) (H H' : Hp) : Prop extends Fz0 H H' where
  fr : ∀ b, b ∈ ρ' → b ∉ ρ → H b = none
  keep : ∀ b o, b ∉ ρ → H b = some o → H' b = some o
  dom : ∀ b, H' b = none → H b = none
instance {ρ ρ' : List Addr} {H H' : Hp} : CoeOut (Fz ρ ρ' H H') (Fz0 H H') := ⟨Fz.toFz0⟩
theorem Fz0.refl (H : Hp) : Fz0 H H := ⟨fun _ _ h => h, fun _ _ _ h => h⟩
theorem Fz0.trans {H H1 H2 : Hp} (a : Fz0 H H1) (b : Fz0 H1 H2) : Fz0 H H2 := ⟨fun c xs h => b.tups c xs (a.tups c xs h), fun c o xs h => b.frzs c o xs (a.frzs c o xs h)⟩
theorem Fz0.new {H : Hp} {p : Addr} {o : HO} (h : H p = none) : Fz0 H (upd H p o) :=
  ⟨fun b xs e => by rw [upd_ne (ne_of_none e h)]; exact e, fun b ob xs e => by rw [upd_ne (ne_of_none e h)]; exact e⟩
theorem Fz0.mut {H : Hp} {p : Addr} {o u : HO} (h : H p = some u) (h1 : ∀ xs, u ≠ .tup xs) (h2 : ∀ ob w, u ≠ .frz ob w) : Fz0 H (upd H p o) :=
  ⟨fun b xs e => by rw [upd_ne (ne_of e h (Ne.symm (h1 xs)))]; exact e, fun b ob xs e => by rw [upd_ne (ne_of e h (Ne.symm (h2 ob xs)))]; exact e⟩
theorem upd_dom {H : Hp} {p b : Addr} {o : HO} (h : upd H p o b = none) : H b = none := by
  by_cases e : b = p
  · subst e; rw [upd_same] at h; cases h
  · rwa [upd_ne e] at h
theorem Fz.refl {ρ : List Addr} (H : Hp) : Fz ρ ρ H H := ⟨Fz0.refl H, fun _ h n => absurd h n, fun _ _ _ h => h, fun _ h => h⟩
theorem Fz.trans {ρ ρ1 ρ2 : List Addr} {H H1 H2 : Hp} (a : Fz ρ ρ1 H H1) (b : Fz ρ1 ρ2 H1 H2) : Fz ρ ρ2 H H2 :=
  ⟨a.toFz0.trans b.toFz0, fun c h n => by
    by_cases m : c ∈ ρ1
    · exact a.fr c m n
    · exact a.dom c (b.fr c h m), fun c o n h => by
    refine b.keep c o (fun m => ?_) (a.keep c o n h)
    exact (nomatch ((a.fr c m n).symm.trans h)), fun c h => a.dom c (b.dom c h)⟩
theorem Fz.new {ρ : List Addr} {H : Hp} {p : Addr} {o : HO} (h : H p = none) : Fz ρ ρ H (upd H p o) :=
  ⟨Fz0.new h, fun _ h n => absurd h n, fun b _ _ e => by rw [upd_ne (ne_of_none e h)]; exact e, fun _ => upd_dom⟩
theorem Fz.newA {ρ : List Addr} {H : Hp} {p : Addr} {o : HO} (h : H p = none) : Fz ρ (ρ ++ [p]) H (upd H p o) :=
  ⟨Fz0.new h, fun b hb n => by
    rcases List.mem_append.mp hb with hb | hb
    · exact absurd hb n
    · rw [List.mem_singleton.mp hb]; exact h, fun b _ _ e => by rw [upd_ne (ne_of_none e h)]; exact e, fun _ => upd_dom⟩
theorem Fz.mut {ρ : List Addr} {H : Hp} {p : Addr} {o u : HO} {n : Nat} (hr : ρ[n]? = some p) (h : H p = some u) (h1 : ∀ xs, u ≠ .tup xs) (h2 : ∀ ob w, u ≠ .frz ob w) : Fz ρ ρ H (upd H p o) :=
  ⟨Fz0.mut h h1 h2, fun _ h n => absurd h n, fun b _ n e => by
    rw [upd_ne (fun z => n (by rw [z]; exact List.mem_of_getElem? hr))]; exact e, fun _ => upd_dom⟩
theorem Fz.late {ρ ρ' : List Addr} {H H' : Hp} {p : Addr} {o : HO} (f : Fz ρ ρ' H H') (hp : H p = none) : Fz ρ ρ' H (upd H' p o) :=
  ⟨⟨fun b xs e => by rw [upd_ne (ne_of_none e hp)]; exact f.tups b xs e, fun b ob xs e => by rw [upd_ne (ne_of_none e hp)]; exact f.frzs b ob xs e⟩, f.fr,
    fun b ob n e => by rw [upd_ne (ne_of_none e hp)]; exact f.keep b ob n e, fun _ h => f.dom _ (upd_dom h)⟩
theorem Fz.lateA {ρ ρ' : List Addr} {H H' : Hp} {p : Addr} (f : Fz ρ ρ' H H') (hp : H p = none) : Fz ρ (ρ' ++ [p]) H H' :=
  ⟨f.toFz0, fun b hb n => by
    rcases List.mem_append.mp hb with hb | hb
    · exact f.fr b hb n
    · rw [List.mem_singleton.mp hb]; exact hp, f.keep, f.dom⟩
theorem PT.mono {K : PySem.W.Frag} {H H' : Hp} {a : Addr} {xs : List V} (f : Fz0 H H') (h : PT K H a xs) : PT K H' a xs := h.elim (fun h => .inl (f.tups a xs h)) .inr
theorem PL.mono {K : PySem.W.Frag} {H H' : Hp} {a : Addr} {xs : List V} (f : Fz0 H H') (h : PL K H a xs) : PL K H' a xs := h.elim (fun ⟨o, h⟩ => .inl ⟨o, f.frzs a o _ h⟩) .inr
def Pre (ρ ρ' : List Addr) : Prop := ∀ (n : Nat) a, ρ[n]? = some a → ρ'[n]? = some a
theorem Pre.refl (ρ : List Addr) : Pre ρ ρ := fun _ _ h => h
theorem Pre.trans {a b c : List Addr} (x : Pre a b) (y : Pre b c) : Pre a c := fun n v h => y n v (x n v h)
theorem Pre.app (ρ l : List Addr) : Pre ρ (ρ ++ l) := fun n a h => by
  rw [List.getElem?_append_left (List.getElem?_eq_some_iff.mp h).1]; exact h
mutual
theorem DV.mono0 {K : PySem.W.Frag} {ρ ρ' : List Addr} {H H' : Hp} (p : Pre ρ ρ') (f : Fz0 H H') : ∀ (d : D) (v : V), DV K ρ H d v → DV K ρ' H' d v
  | .non, _, h => by simpa only [DV] using h
  | .bl _, _, h => by simpa only [DV] using h
  | .int _, _, h => by simpa only [DV] using h
  | .str _, _, h => by simpa only [DV] using h
  | .tup ds, _, h => by
    simp only [DV] at h ⊢
    obtain ⟨a, vs, e, h1, h2⟩ := h
    exact ⟨a, vs, e, h1.mono f, DVs.mono0 p f ds vs h2⟩
  | .lst ds, _, h => by
    simp only [DV] at h ⊢
    obtain ⟨a, vs, e, h1, h2⟩ := h
    exact ⟨a, vs, e, h1.mono f, DVs.mono0 p f ds vs h2⟩
  | .loc n, _, h => by
    simp only [DV] at h ⊢
    obtain ⟨a, h1, h2⟩ := h
    exact ⟨a, p n a h1, h2⟩
  | .sta _, _, h => by simpa only [DV] using h
  | .ty _, _, h => by simpa only [DV] using h
theorem DVs.mono0 {K : PySem.W.Frag} {ρ ρ' : List Addr} {H H' : Hp} (p : Pre ρ ρ') (f : Fz0 H H') : ∀ (ds : List D) (vs : List V), DVs K ρ H ds vs → DVs K ρ' H' ds vs
  | [], _, h => by simpa only [DVs] using h
  | d :: ds, _, h => by
    simp only [DVs] at h ⊢
    obtain ⟨v, r, e, h1, h2⟩ := h
    exact ⟨v, r, e, DV.mono0 p f d v h1, DVs.mono0 p f ds r h2⟩
end
theorem DV.mono {K : PySem.W.Frag} {ρ ρ' : List Addr} {H H' : Hp} (p : Pre ρ ρ') (f : Fz ρ ρ' H H') (d : D) (v : V) (h : DV K ρ H d v) : DV K ρ' H' d v := DV.mono0 p f.toFz0 d v h
theorem DVs.mono {K : PySem.W.Frag} {ρ ρ' : List Addr} {H H' : Hp} (p : Pre ρ ρ') (f : Fz ρ ρ' H H') (d : List D) (v : List V) (h : DVs K ρ H d v) : DVs K ρ' H' d v := DVs.mono0 p f.toFz0 d v h
abbrev KDs {κ : Type} (K : PySem.W.Frag) (ρ : List Addr) (H : Hp) : List (κ × D) → List (κ × V) → Prop := Paired fun p q => p.1 = q.1 ∧ DV K ρ H p.2 q.2
theorem KDs.mono0 {κ : Type} {K : PySem.W.Frag} {ρ ρ' : List Addr} {H H' : Hp} (p : Pre ρ ρ') (f : Fz0 H H') {a : List (κ × D)} {b : List (κ × V)} (h : KDs K ρ H a b) : KDs K ρ' H' a b :=
  Paired.mapP h fun _ _ z => ⟨z.1, DV.mono0 p f _ _ z.2⟩
theorem KDs.mono {κ : Type} {K : PySem.W.Frag} {ρ ρ' : List Addr} {H H' : Hp} (p : Pre ρ ρ') (f : Fz ρ ρ' H H') {a : List (κ × D)} {b : List (κ × V)} (h : KDs K ρ H a b) : KDs K ρ' H' a b := h.mono0 p f.toFz0
def Lk (H : Hp) (a : Addr) (l : Bool) (u : HO) : Prop := if l = true then ∃ o, H a = some (.frz o u) else H a = some u
def CellR (K : PySem.W.Frag) (ρ : List Addr) (H : Hp) (l : Bool) (a : Addr) : Cell → Prop
  | .lst ds => ∃ vs, H a = some (.lst vs) ∧ DVs K ρ H ds vs
  | .dK kds => ∃ kvs, Lk H a l (.dK kvs) ∧ KDs K ρ H kds kvs
  | .dT kds => ∃ kvs, Lk H a l (.dT kvs) ∧ KDs K ρ H kds kvs
  | .ins C fs => ∃ dx vs, H a = some (.ins C dx vs) ∧ KDs K ρ H fs vs ∧ Cls K C ∧ (∀ p ∈ fs, NoAttr K C p.1) ∧ fs.length ≤ 1000
  | .dead => ∃ o, H a = some o ∧ ∀ fs, o ≠ .xd fs
def Mem.lkd (μ : Mem) (n : Nat) : Bool := μ.lk.contains n
structure Rel (K : PySem.W.Frag) (ρ : List Addr) (μ : Mem) (H : Hp) : Prop where
  len : ρ.length = μ.cells.length
  nd : ρ.Nodup
  cell : ∀ (n : Nat) a c, ρ[n]? = some a → μ.cells[n]? = some c → CellR K ρ H (μ.lkd n) a c
  lkb : ∀ n ∈ μ.lk, n < μ.cells.length
structure HX where
  i : Nat
  a : Addr
  C : Addr
  dd : Addr
  w : D
  px : Option Obj
structure EnvR (K : PySem.W.Frag) (ρ : List Addr) (H : Hp) (hx : Option HX) (δ : DEnv) (σ : St) : Prop where
  len : δ.length = σ.length
  get : ∀ (i : Nat) d, δ[i]? = some (some d) → ∃ v, σ[i]? = some (some v) ∧ DV K ρ H d v
  exn : ∀ q, hx = some q → σ[q.i]? = some (some (.ref q.a)) ∧ q.dd ∉ ρ ∧ ∃ v, H q.dd = some (.xd [(("what" : Str), v)]) ∧ DV K ρ H q.w v ∧ ∀ oe, q.px = some oe → H q.a = some (.frz oe (.ext fun _ => True))
theorem EnvR.mono {K : PySem.W.Frag} {ρ ρ' : List Addr} {H H' : Hp} {hx : Option HX} {δ : DEnv} {σ : St} (p : Pre ρ ρ') (f : Fz ρ ρ' H H') (e : EnvR K ρ H hx δ σ) : EnvR K ρ' H' hx δ σ :=
  ⟨e.len, fun i d h => let ⟨v, h1, h2⟩ := e.get i d h; ⟨v, h1, h2.mono p f⟩, fun q h => by
    obtain ⟨h1, h2, v, h3, h4⟩ := e.exn q h
    exact ⟨h1, fun z => (nomatch (f.fr _ z h2).symm.trans h3), v, f.keep _ _ h2 h3, h4.1.mono p f, fun oe z => f.frzs _ _ _ (h4.2 oe z)⟩⟩
abbrev TX (β : Type) := St → Hp → (β → Hp → Prop) → Prop
abbrev Rl (α β : Type) := List Addr → Hp → α → β → Prop
def Stay {α β : Type} (R : Rl α β) : Prop := ∀ ρ ρ' H H' a b, Pre ρ ρ' → Fz ρ ρ' H H' → R ρ H a b → R ρ' H' a b
def XOk (K : PySem.W.Frag) (ρ : List Addr) (H : Hp) (C : Addr) (w : D) (μ : Mem) (E : XK) : Prop :=
  ∀ ρ' H' dd v, Pre ρ ρ' → Fz ρ ρ' H H' → Rel K ρ' μ H' → H' dd = some (.xd [(("what" : Str), v)]) → DV K ρ' H' w v → E (.ref C) (some dd) H'
def Okr {α β : Type} (K : PySem.W.Frag) (R : Rl α β) (ρ : List Addr) (H : Hp) (r : Res α) (Q : β → Hp → Prop) (E : XK) : Prop := match r with
  | .ok a μ => ∀ ρ' H' b, Pre ρ ρ' → Fz ρ ρ' H H' → Rel K ρ' μ H' → R ρ' H' a b → Q b H'
  | .err C w μ => XOk K ρ H C w μ E
  | .bad => False
def Ref {α β : Type} (K : PySem.W.Frag) (hx : Option HX) (W : WX) (R : Rl α β) (t : TX β) (m : MX α) : Prop :=
  ∀ ρ μ δ σ H (Q : β → Hp → Prop), Rel K ρ μ H → EnvR K ρ H hx δ σ → Okr K R ρ H (m δ μ) Q (fun c d H' => W c d σ H') → t σ H Q
theorem XOk.mono {K : PySem.W.Frag} {ρ ρ1 : List Addr} {H H1 : Hp} {C : Addr} {w : D} {μ : Mem} {E : XK} (p : Pre ρ ρ1) (f : Fz ρ ρ1 H H1) (h : XOk K ρ H C w μ E) : XOk K ρ1 H1 C w μ E :=
  fun ρ' H' dd v p' f' r e dv => h ρ' H' dd v (p.trans p') (f.trans f') r e dv
theorem Okr.mono {α β : Type} {K : PySem.W.Frag} {R : Rl α β} {ρ ρ1 : List Addr} {H H1 : Hp} {r : Res α} {Q : β → Hp → Prop} {E : XK} (p : Pre ρ ρ1) (f : Fz ρ ρ1 H H1) (h : Okr K R ρ H r Q E) : Okr K R ρ1 H1 r Q E := by
  cases r with
  | ok a μ => exact fun ρ' H' b p' f' r rb => h ρ' H' b (p.trans p') (f.trans f') r rb
  | err C w μ => exact XOk.mono p f h
  | bad => exact h
def bindM {α γ : Type} (m : MX α) (mk : α → MX γ) : MX γ := fun δ μ => (m δ μ).bind fun a μ1 => mk a δ μ1
theorem Ref.bind {α β γ ζ : Type} {K : PySem.W.Frag} {hx : Option HX} {W : WX} {R : Rl α β} {R' : Rl γ ζ} {t : TX β} {m : MX α} {k : β → St → Hp → (ζ → Hp → Prop) → Prop} {mk : α → MX γ} (h : Ref K hx W R t m)
    (hk : ∀ a ρ μ δ σ H b (Q : ζ → Hp → Prop), Rel K ρ μ H → EnvR K ρ H hx δ σ → R ρ H a b → Okr K R' ρ H (mk a δ μ) Q (fun c d H' => W c d σ H') → k b σ H Q) :
    Ref K hx W R' (fun σ H Q => t σ H fun b H1 => k b σ H1 Q) (bindM m mk) := by
  intro ρ μ δ σ H Q rel env ok
  unfold bindM at ok
  refine h ρ μ δ σ H _ rel env ?_
  cases e : m δ μ with
  | ok a μ1 =>
    rw [e] at ok
    intro ρ' H' b p f rel' rb
    exact hk a ρ' μ1 δ σ H' b Q rel' (env.mono p f) rb (Okr.mono p f ok)
  | err C w μ1 => rw [e] at ok; exact ok
  | bad => rw [e] at ok; exact ok
theorem Okr.bind {α β γ ζ : Type} {K : PySem.W.Frag} {R : Rl α β} {R' : Rl γ ζ} {ρ : List Addr} {H : Hp} {r : Res α} {k : α → Mem → Res γ} {Q : ζ → Hp → Prop} {P : β → Hp → Prop} {E : XK} (h : Okr K R' ρ H (r.bind k) Q E)
    (hk : ∀ a μ1 ρ1 H1 b, Pre ρ ρ1 → Fz ρ ρ1 H H1 → Rel K ρ1 μ1 H1 → R ρ1 H1 a b → Okr K R' ρ1 H1 (k a μ1) Q E → P b H1) : Okr K R ρ H r P E := by
  cases r with
  | ok a μ1 => exact fun ρ1 H1 b p f rel rb => hk a μ1 ρ1 H1 b p f rel rb (Okr.mono p f h)
  | err C w μ1 => exact h
  | bad => exact h
theorem Okr.now {α β : Type} {K : PySem.W.Frag} {R : Rl α β} {ρ : List Addr} {H : Hp} {a : α} {μ : Mem} {b : β} {Q : β → Hp → Prop} {E : XK} (h : Okr K R ρ H (.ok a μ) Q E) (r : Rel K ρ μ H) (rb : R ρ H a b) : Q b H :=
  h ρ H b (Pre.refl _) (Fz.refl _) r rb
theorem Okr.go {α β : Type} {K : PySem.W.Frag} {R : Rl α β} {ρ ρ' : List Addr} {H H' : Hp} {a : α} {μ : Mem} {b : β} {Q : β → Hp → Prop} {E : XK} (h : Okr K R ρ H (.ok a μ) Q E) (p : Pre ρ ρ') (f : Fz ρ ρ' H H') (r : Rel K ρ' μ H') (rb : R ρ' H' a b) : Q b H' :=
  h ρ' H' b p f r rb
section
variable {K : PySem.W.Frag} {ρ ρ' : List Addr} {μ : Mem} {H H' : Hp} {a p : Addr} {n : Nat} {c : Cell}
theorem CellR.at_ {l : Bool} (h : CellR K ρ H l a c) : ∃ o, H a = some o := by
  cases c with
  | lst ds => obtain ⟨vs, h, _⟩ := h; exact ⟨_, h⟩
  | dK kds =>
    obtain ⟨vs, h, _⟩ := h
    unfold Lk at h
    split at h
    · obtain ⟨o, h⟩ := h; exact ⟨_, h⟩
    · exact ⟨_, h⟩
  | dT kds =>
    obtain ⟨vs, h, _⟩ := h
    unfold Lk at h
    split at h
    · obtain ⟨o, h⟩ := h; exact ⟨_, h⟩
    · exact ⟨_, h⟩
  | ins C fs => obtain ⟨dx, vs, h, _⟩ := h; exact ⟨_, h⟩
  | dead => exact ⟨_, h.choose_spec.1⟩
theorem CellR.mono0 {l : Bool} (p : Pre ρ ρ') (f : Fz0 H H') (e : H' a = H a) (h : CellR K ρ H l a c) : CellR K ρ' H' l a c := by
  cases c with
  | lst ds => obtain ⟨vs, h, r⟩ := h; exact ⟨vs, e.trans h, r.mono0 p f⟩
  | dK kds =>
    obtain ⟨vs, h, r⟩ := h
    exact ⟨vs, by unfold Lk at h ⊢; rw [e]; exact h, r.mono0 p f⟩
  | dT kds =>
    obtain ⟨vs, h, r⟩ := h
    exact ⟨vs, by unfold Lk at h ⊢; rw [e]; exact h, r.mono0 p f⟩
  | ins C fs => obtain ⟨dx, vs, h, r, q⟩ := h; exact ⟨dx, vs, e.trans h, r.mono0 p f, q⟩
  | dead => obtain ⟨o, h, z⟩ := h; exact ⟨o, e.trans h, z⟩
theorem Rel.has (r : Rel K ρ μ H) (h : μ.cells[n]? = some c) : ∃ a, ρ[n]? = some a ∧ CellR K ρ H (μ.lkd n) a c := by
  have hl := (List.getElem?_eq_some_iff.mp h).1
  rw [← r.len] at hl
  exact ⟨ρ[n], List.getElem?_eq_getElem hl, r.cell n _ c (List.getElem?_eq_getElem hl) h⟩
theorem Rel.at_ (r : Rel K ρ μ H) (h : ρ[n]? = some a) : ∃ c, μ.cells[n]? = some c ∧ CellR K ρ H (μ.lkd n) a c := by
  have hl := (List.getElem?_eq_some_iff.mp h).1
  rw [r.len] at hl
  exact ⟨_, List.getElem?_eq_getElem hl, r.cell n a _ h (List.getElem?_eq_getElem hl)⟩
theorem Rel.ne_new (r : Rel K ρ μ H) (hn : H p = none) (h : ρ[n]? = some a) : a ≠ p := by
  obtain ⟨c, _, q⟩ := r.at_ h
  obtain ⟨o, e⟩ := q.at_
  exact ne_of_none e hn
theorem Rel.alloc {o : HO} (r : Rel K ρ μ H) (hn : H p = none) : Rel K ρ μ (upd H p o) :=
  ⟨r.len, r.nd, fun n a c h1 h2 => (r.cell n a c h1 h2).mono0 (Pre.refl _) (Fz0.new hn) (upd_ne (r.ne_new hn h1)), r.lkb⟩
theorem Rel.other {o : HO} (r : Rel K ρ μ H) (hp : p ∉ ρ) (f : Fz0 H (upd H p o)) : Rel K ρ μ (upd H p o) :=
  ⟨r.len, r.nd, fun n a c h1 h2 => (r.cell n a c h1 h2).mono0 (Pre.refl _) f (upd_ne fun z => hp (z ▸ List.mem_of_getElem? h1)), r.lkb⟩
theorem Rel.fresh (r : Rel K ρ μ H) (hn : H p = none) : p ∉ ρ := fun hm => by
  obtain ⟨n, hn'⟩ := List.getElem?_of_mem hm
  exact r.ne_new hn hn' rfl
def Mem.push (μ : Mem) (c : Cell) : Mem := { μ with cells := μ.cells ++ [c] }
def Mem.set (μ : Mem) (n : Nat) (c : Cell) : Mem := { μ with cells := μ.cells.set n c }
theorem Rel.unlk (r : Rel K ρ μ H) : μ.lkd μ.cells.length = false := by
  unfold Mem.lkd
  cases e : μ.lk.contains μ.cells.length with
  | false => rfl
  | true => exact absurd (r.lkb _ (List.contains_iff_mem.mp e)) (Nat.lt_irrefl _)
theorem Rel.adopt (r : Rel K ρ μ H) (hp : p ∉ ρ) (hc : CellR K (ρ ++ [p]) H false p c) : Rel K (ρ ++ [p]) (μ.push c) H := by
  refine ⟨by simp [Mem.push, r.len], ?_, fun n a c' h1 h2 => ?_, fun n hn => ?_⟩
  · rw [List.nodup_append]
    exact ⟨r.nd, by simp, fun x hx y hy => by
      have : y = p := by simpa using hy
      subst this
      exact fun z => hp (z ▸ hx)⟩
  · by_cases hlt : n < ρ.length
    · rw [List.getElem?_append_left hlt] at h1
      have h2' : μ.cells[n]? = some c' := by
        have : (μ.cells ++ [c])[n]? = some c' := h2
        rwa [List.getElem?_append_left (r.len ▸ hlt)] at this
      exact (r.cell n a c' h1 h2').mono0 (Pre.app _ _) (Fz0.refl _) rfl
    · have e : n = ρ.length := by
        have := (List.getElem?_eq_some_iff.mp h1).1
        simp at this
        omega
      subst e
      have ea : a = p := by simpa using h1.symm
      have ec : c' = c := by
        have : (μ.cells ++ [c])[ρ.length]? = some c' := h2
        rw [r.len] at this
        simpa using this.symm
      subst ea ec
      have z : (μ.push c').lkd ρ.length = false := by rw [r.len]; exact r.unlk
      rw [z]
      exact hc
  · have := r.lkb n hn
    simp only [Mem.push, List.length_append, List.length_singleton]
    omega
theorem Rel.new {o : HO} (r : Rel K ρ μ H) (hn : H p = none) (hc : CellR K (ρ ++ [p]) (upd H p o) false p c) : Rel K (ρ ++ [p]) (μ.push c) (upd H p o) :=
  (r.alloc hn).adopt (r.fresh hn) hc
theorem Rel.write {o u : HO} (r : Rel K ρ μ H) (h : ρ[n]? = some a) (hu : H a = some u) (h1 : ∀ xs, u ≠ .tup xs) (h2 : ∀ ob w, u ≠ .frz ob w) (hc : CellR K ρ (upd H a o) (μ.lkd n) a c) : Rel K ρ (μ.set n c) (upd H a o) := by
  have f : Fz0 H (upd H a o) := Fz0.mut hu h1 h2
  refine ⟨by simp [Mem.set, r.len], r.nd, fun m b c' e1 e2 => ?_, fun m hm => by simpa [Mem.set] using r.lkb m hm⟩
  by_cases hm : m = n
  · subst hm
    rw [h] at e1
    have : a = b := Option.some.inj e1
    subst this
    have e2' : (μ.cells.set m c)[m]? = some c' := e2
    have hlt : m < μ.cells.length := r.len ▸ (List.getElem?_eq_some_iff.mp h).1
    rw [List.getElem?_set_self hlt] at e2'
    have : c = c' := Option.some.inj e2'
    subst this
    exact hc
  · have e2' : (μ.cells.set n c)[m]? = some c' := e2
    rw [List.getElem?_set_ne (Ne.symm hm)] at e2'
    have ne : b ≠ a := fun z => hm (by
      subst z
      obtain ⟨l1, e3⟩ := List.getElem?_eq_some_iff.mp e1
      obtain ⟨l2, e4⟩ := List.getElem?_eq_some_iff.mp h
      exact (List.getElem_inj r.nd).mp (e3.trans e4.symm))
    exact (r.cell m b c' e1 e2').mono0 (Pre.refl _) f (upd_ne ne)
theorem CellR.noxd {l : Bool} {fs : List (Str × V)} (h : CellR K ρ H l a c) : H a ≠ some (.xd fs) := fun z => by
  cases c with
  | lst ds => obtain ⟨vs, h, _⟩ := h; rw [h] at z; cases z
  | dK kds =>
    obtain ⟨vs, h, _⟩ := h
    unfold Lk at h
    split at h
    · obtain ⟨o, h⟩ := h; rw [h] at z; cases z
    · rw [h] at z; cases z
  | dT kds =>
    obtain ⟨vs, h, _⟩ := h
    unfold Lk at h
    split at h
    · obtain ⟨o, h⟩ := h; rw [h] at z; cases z
    · rw [h] at z; cases z
  | ins C gs => obtain ⟨dx, vs, h, _⟩ := h; rw [h] at z; cases z
  | dead => obtain ⟨o, h, k⟩ := h; rw [h] at z; exact k fs (Option.some.inj z)
theorem Rel.noxd {fs : List (Str × V)} (r : Rel K ρ μ H) (h : H p = some (.xd fs)) : p ∉ ρ := fun hm => by
  obtain ⟨n, hn'⟩ := List.getElem?_of_mem hm
  obtain ⟨c, _, q⟩ := r.at_ hn'
  exact q.noxd h
end
end Doz
end
section
namespace Doz
open PySem L2
theorem stay_DV {K : PySem.W.Frag} : Stay (DV K) := fun _ _ _ _ a b p f h => DV.mono p f a b h
def RB : Rl Bool V := fun _ _ b v => v = V.bl b
def RT' : Rl Bool Bool := fun _ _ a b => a = b
theorem Ref.two {α1 β1 α2 β2 γ ζ : Type} {K : PySem.W.Frag} {hx : Option HX} {W : WX} {R1 : Rl α1 β1} {R2 : Rl α2 β2} {R' : Rl γ ζ} {t1 : TX β1} {t2 : TX β2} {m1 : MX α1} {m2 : MX α2} {k : β1 → β2 → St → Hp → (ζ → Hp → Prop) → Prop}
    {f : α1 → α2 → MX γ} (s1 : Stay R1) (h1 : Ref K hx W R1 t1 m1) (h2 : Ref K hx W R2 t2 m2)
    (hk : ∀ a1 a2 ρ μ δ σ H b1 b2 (Q : ζ → Hp → Prop), Rel K ρ μ H → EnvR K ρ H hx δ σ → R1 ρ H a1 b1 → R2 ρ H a2 b2 → Okr K R' ρ H (f a1 a2 δ μ) Q (fun c d H' => W c d σ H') → k b1 b2 σ H Q) :
    Ref K hx W R' (fun σ H Q => t1 σ H fun b1 H1 => t2 σ H1 fun b2 H2 => k b1 b2 σ H2 Q) (bindM m1 fun a1 => bindM m2 fun a2 => f a1 a2) := by
  intro ρ μ δ σ H Q rel env ok
  refine h1 ρ μ δ σ H _ rel env ?_
  unfold bindM at ok
  cases e : m1 δ μ with
  | err C w μ1 => rw [e] at ok; exact ok
  | bad => rw [e] at ok; exact ok
  | ok a1 μ1 =>
    rw [e] at ok
    intro ρ1 H1 b1 p1 f1 rel1 rb1
    refine h2 ρ1 μ1 δ σ H1 _ rel1 (env.mono p1 f1) ?_
    have ok1 : Okr K R' ρ H ((m2 δ μ1).bind fun a2 μ2 => f a1 a2 δ μ2) Q (fun c d H' => W c d σ H') := ok
    cases e2 : m2 δ μ1 with
    | err C w μ2 => rw [e2] at ok1; exact Okr.mono (r := Res.err C w μ2) p1 f1 ok1
    | bad => rw [e2] at ok1; exact ok1
    | ok a2 μ2 =>
      rw [e2] at ok1
      intro ρ2 H2 b2 p2 f2 rel2 rb2
      exact hk a1 a2 ρ2 μ2 δ σ H2 b1 b2 Q rel2 ((env.mono p1 f1).mono p2 f2) (s1 _ _ _ _ _ _ p2 f2 rb1) rb2 (Okr.mono (p1.trans p2) (f1.trans f2) ok1)
structure RE (X : Cx) (hx : Option HX) (W : WX) (e : Expr) (m : ME) : Prop where
  ex : ∃ t : TE, PE X e t ∧ Ref X.K hx W (DV X.K) t m
structure RT (X : Cx) (hx : Option HX) (W : WX) (e : Expr) (m : MX Bool) : Prop where
  ex : ∃ t : TT, L2.PT X e t ∧ Ref X.K hx W RT' t m
structure RW (X : Cx) (hx : Option HX) (W : WX) (e : Expr) (m : MX Bool) : Prop where
  ex : ∃ t : TT, PW X e t ∧ Ref X.K hx W RT' t m
structure RA (X : Cx) (hx : Option HX) (W : WX) (es : List Expr) (m : MX (List D)) : Prop where
  ex : ∃ t : TA, PA X es t ∧ Ref X.K hx W (DVs X.K) t m
theorem RW.rt {X : Cx} {hx : Option HX} {W : WX} {e : Expr} {m : MX Bool} (h : RW X hx W e m) : RT X hx W e m := let ⟨t, p, r⟩ := h.ex; ⟨⟨t, p.pt, r⟩⟩
theorem stay_DVs {K : PySem.W.Frag} : Stay (DVs K) := fun _ _ _ _ a b p f h => DVs.mono p f a b h
def mvar (i : Nat) : ME := fun δ μ => match δ[i]? with
  | some (some d) => .ok d μ
  | _ => .bad
def mC (d : D) : ME := fun _ μ => .ok d μ
section
variable {X : Cx} {hx : Option HX} {W : WX} {pos : Pos}
theorem ref_var {K : PySem.W.Frag} (i : Nat) : Ref K hx W (DV K) (tVar i) (mvar i) := by
  intro ρ μ δ σ H Q rel env ok
  unfold mvar at ok
  split at ok
  · rename_i d e
    obtain ⟨v, e1, dv⟩ := env.get i d e
    exact ⟨v, e1, ok.now rel dv⟩
  · exact ok.elim
theorem re_var (i : Nat) {x : Str} (hN : X.N[i]? = some x := by rfl) (hv : Vis X.env.scope x := by first | exact Or.inl rfl | exact Or.inr (Or.inl rfl) | exact Or.inr (Or.inr rfl)) (hd : (x == ("__debug__" : Str)) = false := by decide)
    (hcd : (x == ("__classdict__" : Str)) = false := by decide) : RE X hx W (.Name x pos) (mvar i) := ⟨⟨_, pe_var hN hv hd hcd, ref_var i⟩⟩
theorem ref_c {K : PySem.W.Frag} {d : D} {v : V} (h : ∀ ρ H, DV K ρ H d v) : Ref K hx W (DV K) (tC v) (mC d) := fun ρ μ δ σ H Q rel env ok => Okr.now ok rel (h ρ H)
theorem re_int {i : Int} {j : Nat} : RE X hx W (.Constant (.int i) j pos) (mC (.int i)) := ⟨⟨_, pe_int, ref_c fun _ _ => by simp only [DV]⟩⟩
theorem re_bl {b : Bool} {j : Nat} : RE X hx W (.Constant (.bool b) j pos) (mC (.bl b)) := ⟨⟨_, pe_bl, ref_c fun _ _ => by simp only [DV]⟩⟩
theorem re_non {j : Nat} : RE X hx W (.Constant .none j pos) (mC .non) := ⟨⟨_, pe_non, ref_c fun _ _ => by simp only [DV]⟩⟩
theorem re_str {x : Str} {j : Nat} : RE X hx W (.Constant (.str x) j pos) (mC (.str x)) := ⟨⟨_, pe_str, ref_c fun _ _ => by simp only [DV]⟩⟩
theorem re_glob {x : Str} {u : Value} {d : D} {v : V} (hm : X.mg x = some u) (r : RelV v u) (h : ∀ ρ H, DV X.K ρ H d v) (hg : Gl X x := by rfl) (hd : (x == ("__debug__" : Str)) = false := by decide) : RE X hx W (.Name x pos) (mC d) := ⟨⟨_, pe_glob hg hm r hd, ref_c h⟩⟩
theorem re_globR {x : Str} {a : Addr} (hm : X.mg x = some (.ref a)) (hg : Gl X x := by rfl) (hd : (x == ("__debug__" : Str)) = false := by decide) : RE X hx W (.Name x pos) (mC (.sta a)) :=
  re_glob (v := .ref a) hm rfl (fun _ _ => by simp only [DV]) hg hd
theorem re_globI {x : Str} {i : Int} (hm : ∃ t, X.mg x = some (.int i t)) (hg : Gl X x := by rfl) (hd : (x == ("__debug__" : Str)) = false := by decide) : RE X hx W (.Name x pos) (mC (.int i)) :=
  let ⟨t, hm⟩ := hm
  re_glob (v := .int i) hm ⟨t, rfl⟩ (fun _ _ => by simp only [DV]) hg hd
theorem re_globS {x z : Str} (hm : ∃ t, X.mg x = some (.str z t)) (hg : Gl X x := by rfl) (hd : (x == ("__debug__" : Str)) = false := by decide) : RE X hx W (.Name x pos) (mC (.str z)) :=
  let ⟨t, hm⟩ := hm
  re_glob (v := .str z) hm ⟨t, rfl⟩ (fun _ _ => by simp only [DV]) hg hd
theorem re_bltT {x : Str} {T : String} (hm : X.mg x = none) (hv : bootBuiltins x = some (.type T)) (hg : Gl X x := by rfl) (hn : x ≠ "__name__" := by decide) (hd : (x == ("__debug__" : Str)) = false := by decide) : RE X hx W (.Name x pos) (mC (.ty T)) :=
  ⟨⟨_, pe_bltn (v := .ty T) hg hm hv rfl hn hd, ref_c fun _ _ => by simp only [DV]⟩⟩
def OpM (K : PySem.W.Frag) (r : R2) (f : D → D → Mem → Res D) : Prop :=
  ∀ d e ρ μ H x y (Q : VK) (E : XK), Rel K ρ μ H → DV K ρ H d x → DV K ρ H e y → Okr K (DV K) ρ H (f d e μ) Q E → r x y H Q
def CmpM (K : PySem.W.Frag) (r : R2) (c : D → D → Mem → Res Bool) : Prop :=
  ∀ d e ρ μ H x y (Q : VK) (E : XK), Rel K ρ μ H → DV K ρ H d x → DV K ρ H e y → Okr K RB ρ H (c d e μ) Q E → r x y H Q
def mop (f : D → D → Mem → Res D) (a b : ME) : ME := bindM a fun x => bindM b fun y => fun _ μ => f x y μ
def mcmp (c : D → D → Mem → Res Bool) (a b : ME) : MX Bool := bindM a fun x => bindM b fun y => fun _ μ => c x y μ
def mbl (m : MX Bool) : ME := bindM m fun b => fun _ μ => .ok (.bl b) μ
variable {a b c : Expr} {ma mb mc : ME}
theorem re_op {op : Operator} {r : R2} {f : D → D → Mem → Res D} (ho : OpR X (binaryOp op) r) (om : OpM X.K r f) (ha : RE X hx W a ma) (hb : RE X hx W b mb) : RE X hx W (.BinOp a op b pos) (mop f ma mb) := by
  obtain ⟨ta, pa, ra⟩ := ha.ex
  obtain ⟨tb, pb, rb⟩ := hb.ex
  exact ⟨⟨_, pe_op ho pa pb, Ref.two stay_DV ra rb fun d e ρ μ δ σ H x y Q rel env dx dy ok => om d e ρ μ H x y Q _ rel dx dy ok⟩⟩
theorem okr_bl {K : PySem.W.Frag} {ρ : List Addr} {H : Hp} {r : Res Bool} {Q : VK} {E : XK} (h : Okr K (DV K) ρ H (r.bind fun b μ => .ok (.bl b) μ) Q E) : Okr K RB ρ H r Q E := by
  cases r with
  | ok b μ => exact fun ρ' H' v p f rel rb => h ρ' H' v p f rel (by simpa only [DV, RB] using rb)
  | err C w μ => exact h
  | bad => exact h
theorem okr_tt {K : PySem.W.Frag} {ρ : List Addr} {H : Hp} {r : Res Bool} {Q : Bool → Hp → Prop} {E : XK} (h : Okr K RT' ρ H r Q E) : Okr K RB ρ H r (fun x H' => ∃ k, x = .bl k ∧ Q k H') E := by
  cases r with
  | ok b μ => exact fun ρ' H' v p f rel rb => ⟨b, rb, h ρ' H' b p f rel rfl⟩
  | err C w μ => exact h
  | bad => exact h
theorem re_cmp {op : CmpOp} {r : R2} {c : D → D → Mem → Res Bool} (ho : OpR X (compareOp op) r) (om : CmpM X.K r c) (ha : RE X hx W a ma) (hb : RE X hx W b mb) (hm : behindInMarks op b = false := by first | exact nomark _ | rfl) :
    RE X hx W (.Compare a [op] [b] pos) (mbl (mcmp c ma mb)) := by
  obtain ⟨ta, pa, ra⟩ := ha.ex
  obtain ⟨tb, pb, rb⟩ := hb.ex
  refine ⟨⟨_, pe_cmpR ho pa pb hm, ?_⟩⟩
  have h := Ref.two (R' := DV X.K) (f := fun x y => fun _ μ => (c x y μ).bind fun b μ => .ok (D.bl b) μ) (k := fun x y _ H Q => r x y H Q) stay_DV ra rb fun d e ρ μ δ σ H x y Q rel env dx dy ok => om d e ρ μ H x y Q _ rel dx dy (okr_bl ok)
  intro ρ μ δ σ H Q rel env ok
  refine h ρ μ δ σ H Q rel env ?_
  unfold mbl mcmp bindM at ok
  unfold bindM
  revert ok
  cases ma δ μ with
  | err C w μ1 => exact id
  | bad => exact id
  | ok x μ1 =>
    show Okr _ _ _ _ (((mb δ μ1).bind fun y μ2 => c x y μ2).bind _) _ _ → Okr _ _ _ _ ((mb δ μ1).bind _) _ _
    cases mb δ μ1 with
    | err C w μ2 => exact id
    | bad => exact id
    | ok y μ2 => exact id
theorem rt_cmp {op : CmpOp} {r : R2} {c : D → D → Mem → Res Bool} (ho : OpR X (compareOp op) r) (om : CmpM X.K r c) (ha : RE X hx W a ma) (hb : RE X hx W b mb) (hm : behindInMarks op b = false := by first | exact nomark _ | rfl) :
    RT X hx W (.Compare a [op] [b] pos) (mcmp c ma mb) := by
  obtain ⟨ta, pa, ra⟩ := ha.ex
  obtain ⟨tb, pb, rb⟩ := hb.ex
  exact ⟨⟨_, pt_cmpR ho pa pb hm, Ref.two stay_DV ra rb fun d e ρ μ δ σ H x y Q rel env dx dy ok => om d e ρ μ H x y _ _ rel dx dy (okr_tt ok)⟩⟩
def masB (m : ME) : MX Bool := bindM m fun d => fun _ μ => match d with
  | .bl b => .ok b μ
  | _ => .bad
theorem rt_val {e : Expr} {m : ME} (h : RE X hx W e m) (he : ∀ whole, isTrue e X.env whole = (do let v ← whole; standAt e.pos; holding [v] (truthy v)) := by intro _; rfl) : RT X hx W e (masB m) := by
  obtain ⟨t, p, r⟩ := h.ex
  refine ⟨⟨_, pt_val p he, fun ρ0 μ0 δ σ H0 Q rel0 env0 ok0 => r ρ0 μ0 δ σ H0 _ rel0 env0 (Okr.bind ok0 fun d μ ρ H v pr fz rel dv ok => ?_)⟩⟩
  cases d with
  | bl b =>
    have : v = V.bl b := by simpa only [DV] using dv
    exact ⟨b, this, ok.now rel rfl⟩
  | _ => exact ok.elim
def mand (a b : MX Bool) : MX Bool := bindM a fun x => if x = true then b else fun _ μ => .ok false μ
def mor (a b : MX Bool) : MX Bool := bindM a fun x => if x = true then fun _ μ => .ok true μ else b
def mnot (a : MX Bool) : MX Bool := bindM a fun x => fun _ μ => .ok (!x) μ
variable {rest : List Expr} {pa pb : MX Bool}
theorem rw_and1 (ha : RT X hx W a pa) : RW X hx W (.BoolOp .And [a] pos) pa := let ⟨t, p, r⟩ := ha.ex; ⟨⟨t, pw_and1 p, r⟩⟩
theorem rw_or1 (ha : RT X hx W a pa) : RW X hx W (.BoolOp .Or [a] pos) pa := let ⟨t, p, r⟩ := ha.ex; ⟨⟨t, pw_or1 p, r⟩⟩
theorem ref_and {K : PySem.W.Frag} {ta tb : TT} (ra : Ref K hx W RT' ta pa) (rb : Ref K hx W RT' tb pb) : Ref K hx W RT' (tAnd ta tb) (mand pa pb) :=
  fun ρ0 μ0 δ σ H0 Q rel0 env0 ok0 => ra ρ0 μ0 δ σ H0 _ rel0 env0 (Okr.bind ok0 fun x μ ρ H y pr fz rel e ok => by
    have env := env0.mono pr fz
    have e' : x = y := e
    subst e'
    cases x with
    | true => exact iteT (rb ρ μ δ σ H Q rel env ok)
    | false => exact iteF (Okr.now (b := false) ok rel rfl))
theorem ref_or {K : PySem.W.Frag} {ta tb : TT} (ra : Ref K hx W RT' ta pa) (rb : Ref K hx W RT' tb pb) : Ref K hx W RT' (tOr ta tb) (mor pa pb) :=
  fun ρ0 μ0 δ σ H0 Q rel0 env0 ok0 => ra ρ0 μ0 δ σ H0 _ rel0 env0 (Okr.bind ok0 fun x μ ρ H y pr fz rel e ok => by
    have env := env0.mono pr fz
    have e' : x = y := e
    subst e'
    cases x with
    | true => exact iteT (Okr.now (b := true) ok rel rfl)
    | false => exact iteF (rb ρ μ δ σ H Q rel env ok))
theorem rw_and (ha : RT X hx W a pa) (hb : RW X hx W (.BoolOp .And (b :: rest) pos) pb) : RW X hx W (.BoolOp .And (a :: b :: rest) pos) (mand pa pb) := by
  obtain ⟨ta, p, ra⟩ := ha.ex
  obtain ⟨tb, q, rb⟩ := hb.ex
  exact ⟨⟨_, pw_and p q, ref_and ra rb⟩⟩
theorem rw_or (ha : RT X hx W a pa) (hb : RW X hx W (.BoolOp .Or (b :: rest) pos) pb) : RW X hx W (.BoolOp .Or (a :: b :: rest) pos) (mor pa pb) := by
  obtain ⟨ta, p, ra⟩ := ha.ex
  obtain ⟨tb, q, rb⟩ := hb.ex
  exact ⟨⟨_, pw_or p q, ref_or ra rb⟩⟩
theorem rt_not (ha : RT X hx W a pa) : RT X hx W (.UnaryOp .Not a pos) (mnot pa) := by
  obtain ⟨ta, p, ra⟩ := ha.ex
  refine ⟨⟨_, pt_not p, fun ρ0 μ0 δ σ H0 Q rel0 env0 ok0 => ra ρ0 μ0 δ σ H0 _ rel0 env0 (Okr.bind ok0 fun x μ ρ H y pr fz rel e ok => ?_)⟩⟩
  have env := env0.mono pr fz
  have e' : x = y := e
  subst e'
  exact Okr.now (b := !x) ok rel rfl
theorem re_one {op : BoolOp} (h : RE X hx W a ma) : RE X hx W (.BoolOp op [a] pos) ma := let ⟨t, p, r⟩ := h.ex; ⟨⟨t, pe_one p, r⟩⟩
def mandV (a b : ME) : ME := bindM a fun x => match x with
  | .bl true => b
  | .bl false => fun _ μ => .ok (.bl false) μ
  | _ => fun _ _ => .bad
def morV (a b : ME) : ME := bindM a fun x => match x with
  | .bl true => fun _ μ => .ok (.bl true) μ
  | .bl false => b
  | _ => fun _ _ => .bad
def mnotV (a : ME) : ME := bindM a fun x => match x with
  | .bl c => fun _ μ => .ok (.bl (!c)) μ
  | _ => fun _ _ => .bad
theorem re_and (ha : RE X hx W a ma) (hb : RE X hx W (.BoolOp .And (b :: rest) pos) mb) : RE X hx W (.BoolOp .And (a :: b :: rest) pos) (mandV ma mb) := by
  obtain ⟨ta, p, ra⟩ := ha.ex
  obtain ⟨tb, q, rb⟩ := hb.ex
  refine ⟨⟨_, pe_and p q, fun ρ0 μ0 δ σ H0 Q rel0 env0 ok0 => ra ρ0 μ0 δ σ H0 _ rel0 env0 (Okr.bind ok0 fun x μ ρ H y pr fz rel e ok => ?_)⟩⟩
  have env := env0.mono pr fz
  cases x with
  | bl k =>
    have e' : y = V.bl k := by simpa only [DV] using e
    refine ⟨k, e', ?_⟩
    cases k with
    | true => exact iteT (rb ρ μ δ σ H Q rel env ok)
    | false => exact iteF (Okr.now (b := V.bl false) ok rel (by simp only [DV]))
  | _ => exact ok.elim
theorem re_or (ha : RE X hx W a ma) (hb : RE X hx W (.BoolOp .Or (b :: rest) pos) mb) : RE X hx W (.BoolOp .Or (a :: b :: rest) pos) (morV ma mb) := by
  obtain ⟨ta, p, ra⟩ := ha.ex
  obtain ⟨tb, q, rb⟩ := hb.ex
  refine ⟨⟨_, pe_or p q, fun ρ0 μ0 δ σ H0 Q rel0 env0 ok0 => ra ρ0 μ0 δ σ H0 _ rel0 env0 (Okr.bind ok0 fun x μ ρ H y pr fz rel e ok => ?_)⟩⟩
  have env := env0.mono pr fz
  cases x with
  | bl k =>
    have e' : y = V.bl k := by simpa only [DV] using e
    refine ⟨k, e', ?_⟩
    cases k with
    | true => exact iteT (Okr.now (b := V.bl true) ok rel (by simp only [DV]))
    | false => exact iteF (rb ρ μ δ σ H Q rel env ok)
  | _ => exact ok.elim
theorem re_not (ha : RE X hx W a ma) : RE X hx W (.UnaryOp .Not a pos) (mnotV ma) := by
  obtain ⟨ta, p, ra⟩ := ha.ex
  refine ⟨⟨_, pe_not p, fun ρ0 μ0 δ σ H0 Q rel0 env0 ok0 => ra ρ0 μ0 δ σ H0 _ rel0 env0 (Okr.bind ok0 fun x μ ρ H y pr fz rel e ok => ?_)⟩⟩
  have env := env0.mono pr fz
  cases x with
  | bl k =>
    have e' : y = V.bl k := by simpa only [DV] using e
    exact ⟨k, e', Okr.now (b := V.bl !k) ok rel (by simp only [DV])⟩
  | _ => exact ok.elim
def mif (t : MX Bool) (a b : ME) : ME := bindM t fun x => if x = true then a else b
theorem re_if {t : Expr} {mt : MX Bool} (ht : RT X hx W t mt) (ha : RE X hx W a ma) (hb : RE X hx W b mb) : RE X hx W (.IfExp t a b pos) (mif mt ma mb) := by
  obtain ⟨tt, p0, r0⟩ := ht.ex
  obtain ⟨ta, p, ra⟩ := ha.ex
  obtain ⟨tb, q, rb⟩ := hb.ex
  refine ⟨⟨_, pe_ifExp p0 p q, fun ρ0 μ0 δ σ H0 Q rel0 env0 ok0 => r0 ρ0 μ0 δ σ H0 _ rel0 env0 (Okr.bind ok0 fun x μ ρ H y pr fz rel e ok => ?_)⟩⟩
  have env := env0.mono pr fz
  have e' : x = y := e
  subst e'
  cases x with
  | true => exact iteT (ra ρ μ δ σ H Q rel env ok)
  | false => exact iteF (rb ρ μ δ σ H Q rel env ok)
def mnil : MX (List D) := fun _ μ => .ok [] μ
def mcons (a : ME) (r : MX (List D)) : MX (List D) := bindM a fun x => bindM r fun xs => fun _ μ => .ok (x :: xs) μ
theorem ra_nil : RA X hx W [] mnil := ⟨⟨_, pa_nil, fun ρ μ δ σ H Q rel env ok => Okr.now (b := ([] : List V)) ok rel (by simp only [DVs])⟩⟩
theorem ra_cons {es : List Expr} {mr : MX (List D)} (ha : RE X hx W a ma) (hr : RA X hx W es mr) (hs : starEach (a :: es) X.env = (false, eval a X.env) :: starEach es X.env := by rfl) : RA X hx W (a :: es) (mcons ma mr) := by
  obtain ⟨ta, p, ra⟩ := ha.ex
  obtain ⟨tr, q, rr⟩ := hr.ex
  exact ⟨⟨_, pa_cons p q hs, Ref.two stay_DV ra rr fun d ds ρ μ δ σ H x xs Q rel env dx dxs ok => Okr.now (b := x :: xs) ok rel (by simp only [DVs]; exact ⟨x, xs, rfl, dx, dxs⟩)⟩⟩
end
end Doz
end
section
namespace Doz
open PySem L2
theorem DVs.length {K : PySem.W.Frag} {ρ : List Addr} {H : Hp} : ∀ {ds : List D} {vs : List V}, DVs K ρ H ds vs → ds.length = vs.length
  | [], vs, h => by simp only [DVs] at h; subst h; rfl
  | d :: ds, vs, h => by
    simp only [DVs] at h
    obtain ⟨v, r, rfl, _, h⟩ := h
    simp [DVs.length h]
theorem DVs.nil {K : PySem.W.Frag} {ρ : List Addr} {H : Hp} : DVs K ρ H [] [] := by simp only [DVs]
theorem DVs.cons {K : PySem.W.Frag} {ρ : List Addr} {H : Hp} {d : D} {v : V} {ds : List D} {vs : List V} (h : DV K ρ H d v) (hs : DVs K ρ H ds vs) : DVs K ρ H (d :: ds) (v :: vs) := by
  simp only [DVs]; exact ⟨v, vs, rfl, h, hs⟩
theorem DVs.app {K : PySem.W.Frag} {ρ : List Addr} {H : Hp} : ∀ {ds es : List D} {vs us : List V}, DVs K ρ H ds vs → DVs K ρ H es us → DVs K ρ H (ds ++ es) (vs ++ us)
  | [], es, vs, us, h, h' => by simp only [DVs] at h; subst h; exact h'
  | d :: ds, es, vs, us, h, h' => by
    simp only [DVs] at h
    obtain ⟨v, r, rfl, h1, h⟩ := h
    exact .cons h1 (DVs.app h h')
theorem DVs.get {K : PySem.W.Frag} {ρ : List Addr} {H : Hp} : ∀ {ds : List D} {vs : List V} {i : Nat} {d : D}, DVs K ρ H ds vs → ds[i]? = some d → ∃ v, vs[i]? = some v ∧ DV K ρ H d v
  | [], vs, i, d, h, e => by simp at e
  | d' :: ds, vs, i, d, h, e => by
    simp only [DVs] at h
    obtain ⟨v, r, rfl, h1, h⟩ := h
    cases i with
    | zero => simp at e; subst e; exact ⟨v, rfl, h1⟩
    | succ i => simpa using DVs.get (i := i) h (by simpa using e)
theorem DVs.getv {K : PySem.W.Frag} {ρ : List Addr} {H : Hp} : ∀ {ds : List D} {vs : List V} {i : Nat} {v : V}, DVs K ρ H ds vs → vs[i]? = some v → ∃ d, ds[i]? = some d ∧ DV K ρ H d v
  | [], vs, i, v, h, e => by simp only [DVs] at h; subst h; simp at e
  | d' :: ds, vs, i, v, h, e => by
    simp only [DVs] at h
    obtain ⟨v', r, rfl, h1, h⟩ := h
    cases i with
    | zero => simp at e; subst e; exact ⟨d', rfl, h1⟩
    | succ i => simpa using DVs.getv (i := i) h (by simpa using e)
theorem DVs.take {K : PySem.W.Frag} {ρ : List Addr} {H : Hp} : ∀ {ds : List D} {vs : List V} (n : Nat), DVs K ρ H ds vs → DVs K ρ H (ds.take n) (vs.take n)
  | [], vs, n, h => by simp only [DVs] at h; subst h; simp [DVs]
  | d :: ds, vs, n, h => by
    simp only [DVs] at h
    obtain ⟨v, r, rfl, h1, h⟩ := h
    cases n with
    | zero => simp [DVs]
    | succ n => exact .cons h1 (DVs.take n h)
theorem DVs.drop {K : PySem.W.Frag} {ρ : List Addr} {H : Hp} : ∀ {ds : List D} {vs : List V} (n : Nat), DVs K ρ H ds vs → DVs K ρ H (ds.drop n) (vs.drop n)
  | [], vs, n, h => by simp only [DVs] at h; subst h; simp [DVs]
  | d :: ds, vs, n, h => by
    have h0 := h
    simp only [DVs] at h
    obtain ⟨v, r, rfl, h1, h⟩ := h
    cases n with
    | zero => exact h0
    | succ n => exact DVs.drop n h
theorem DVs.set {K : PySem.W.Frag} {ρ : List Addr} {H : Hp} {d : D} {v : V} (hd : DV K ρ H d v) : ∀ {ds : List D} {vs : List V} (n : Nat), DVs K ρ H ds vs → DVs K ρ H (ds.set n d) (vs.set n v)
  | [], vs, n, h => by simp only [DVs] at h; subst h; simp [DVs]
  | d' :: ds, vs, n, h => by
    simp only [DVs] at h
    obtain ⟨v', r, rfl, h1, h⟩ := h
    cases n with
    | zero => exact .cons hd h
    | succ n => exact .cons h1 (DVs.set hd n h)
theorem DVs.reverse {K : PySem.W.Frag} {ρ : List Addr} {H : Hp} : ∀ {ds : List D} {vs : List V}, DVs K ρ H ds vs → DVs K ρ H ds.reverse vs.reverse
  | [], vs, h => by simp only [DVs] at h; subst h; simp [DVs]
  | d :: ds, vs, h => by
    simp only [DVs] at h
    obtain ⟨v, r, rfl, h1, h⟩ := h
    simp only [List.reverse_cons]
    exact DVs.app (DVs.reverse h) (.cons h1 .nil)
def lstOf (μ : Mem) : D → Option (List D)
  | .lst ds => some ds
  | .loc n => match μ.cells[n]? with
    | some (.lst ds) => some ds
    | _ => none
  | _ => none
section
variable {K : PySem.W.Frag} {ρ : List Addr} {μ : Mem} {H : Hp} {d : D} {v : V} {ds : List D}
theorem lstOf_ok (rel : Rel K ρ μ H) (dv : DV K ρ H d v) (h : lstOf μ d = some ds) : ∃ a vs, v = .ref a ∧ LsR K H a vs ∧ DVs K ρ H ds vs := by
  cases d with
  | lst es =>
    have e : es = ds := by simpa [lstOf] using h
    subst e
    simp only [DV] at dv
    obtain ⟨a, vs, e, h1, h2⟩ := dv
    exact ⟨a, vs, e, h1.ls, h2⟩
  | loc n =>
    simp only [DV] at dv
    obtain ⟨a, h1, e⟩ := dv
    simp only [lstOf] at h
    split at h
    · rename_i es hc
      have := Option.some.inj h
      subst this
      obtain ⟨vs, h2, h3⟩ := rel.cell n a _ h1 hc
      exact ⟨a, vs, e, .inl (.inl h2), h3⟩
    · cases h
  | _ => simp [lstOf] at h
theorem rd_sq {a : Addr} {vs : List V} (h : LsR K H a vs) : SqL K H a vs := h.sq
theorem tup_ok {ds : List D} (dv : DV K ρ H (.tup ds) v) : ∃ a vs, v = .ref a ∧ PT K H a vs ∧ DVs K ρ H ds vs := by simpa only [DV] using dv
theorem int_ok {i : Int} (dv : DV K ρ H (.int i) v) : v = .int i := by simpa only [DV] using dv
theorem str_ok {i : Str} (dv : DV K ρ H (.str i) v) : v = .str i := by simpa only [DV] using dv
theorem bl_ok {i : Bool} (dv : DV K ρ H (.bl i) v) : v = .bl i := by simpa only [DV] using dv
theorem non_ok (dv : DV K ρ H .non v) : v = .non := by simpa only [DV] using dv
theorem dv_int {i : Int} : DV K ρ H (.int i) (.int i) := by simp only [DV]
theorem dv_str {i : Str} : DV K ρ H (.str i) (.str i) := by simp only [DV]
theorem dv_bl {i : Bool} : DV K ρ H (.bl i) (.bl i) := by simp only [DV]
theorem dv_non : DV K ρ H .non .non := by simp only [DV]
end
def Frzn (Q : VK) : VK := fun v H' => Q v H' ∨ ∃ a xs, v = .ref a ∧ H' a = some (.lst xs) ∧ ∀ o, Q v (upd H' a (.frz o (.lst xs)))
def tFzo (t : TE) : TE := fun σ H Q => t σ H (Frzn Q)
theorem pe_fzo {X : Cx} {e : Expr} {t : TE} (h : PE X e t) : PE X e (tFzo t) := by
  refine ⟨fun pins s σ H Q I hw => thn (h.run pins s σ H _ I hw) fun u s1 ⟨v, H1, I1, r, q⟩ => ?_⟩
  rcases q with q | ⟨a, xs, rfl, ha, q⟩
  · exact ⟨v, H1, I1, r, q⟩
  · obtain ⟨o, I2⟩ := I1.lock ha trivial
    exact ⟨_, _, I2, r, q o⟩
def NL (K : PySem.W.Frag) (U : Addr → Prop) : Rl (List D) V := fun ρ H ds v => ∃ p vs, v = .ref p ∧ U p ∧ H p = some (.lst vs) ∧ p ∉ ρ ∧ DVs K ρ H ds vs
def OkN (K : PySem.W.Frag) (ρ : List Addr) (H : Hp) (r : Res (List D)) (Q : VK) (E : XK) : Prop := Okr K (NL K fun p => H p = none) ρ H r Q E
theorem OkN.mono {K : PySem.W.Frag} {ρ ρ1 : List Addr} {H H1 : Hp} {r : Res (List D)} {Q : VK} {E : XK} (p : Pre ρ ρ1) (f : Fz ρ ρ1 H H1) (h : OkN K ρ H r Q E) : OkN K ρ1 H1 r Q E := by
  have h1 : Okr K (NL K fun p => H p = none) ρ1 H1 r Q E := Okr.mono p f h
  cases r with
  | ok a μ => exact fun ρ' H' b p' f' r ⟨q, vs, e, u, x⟩ => h1 ρ' H' b p' f' r ⟨q, vs, e, f.dom q u, x⟩
  | err C w μ => exact h1
  | bad => exact h1
def RefN (K : PySem.W.Frag) (hx : Option HX) (W : WX) (t : TE) (m : MX (List D)) : Prop :=
  ∀ ρ μ δ σ H (Q : VK), Rel K ρ μ H → EnvR K ρ H hx δ σ → OkN K ρ H (m δ μ) Q (fun c d H' => W c d σ H') → t σ H Q
structure RN (X : Cx) (hx : Option HX) (W : WX) (e : Expr) (m : MX (List D)) : Prop where
  ex : ∃ t : TE, PE X e t ∧ RefN X.K hx W t m
theorem RefN.bind {α β : Type} {K : PySem.W.Frag} {hx : Option HX} {W : WX} {R : Rl α β} {t : TX β} {m : MX α} {k : β → St → Hp → VK → Prop} {mk : α → MX (List D)} (h : Ref K hx W R t m)
    (hk : ∀ a ρ μ δ σ H b (Q : VK), Rel K ρ μ H → EnvR K ρ H hx δ σ → R ρ H a b → OkN K ρ H (mk a δ μ) Q (fun c d H' => W c d σ H') → k b σ H Q) :
    RefN K hx W (fun σ H Q => t σ H fun b H1 => k b σ H1 Q) (bindM m mk) := by
  intro ρ μ δ σ H Q rel env ok
  unfold bindM at ok
  refine h ρ μ δ σ H _ rel env ?_
  cases e : m δ μ with
  | ok a μ1 =>
    rw [e] at ok
    intro ρ' H' b p f rel' rb
    exact hk a ρ' μ1 δ σ H' b Q rel' (env.mono p f) rb (OkN.mono p f ok)
  | err C w μ1 => rw [e] at ok; exact ok
  | bad => rw [e] at ok; exact ok
theorem RefN.two {α1 β1 α2 β2 : Type} {K : PySem.W.Frag} {hx : Option HX} {W : WX} {R1 : Rl α1 β1} {R2 : Rl α2 β2} {t1 : TX β1} {t2 : TX β2} {m1 : MX α1} {m2 : MX α2} {k : β1 → β2 → St → Hp → VK → Prop}
    {f : α1 → α2 → MX (List D)} (s1 : Stay R1) (h1 : Ref K hx W R1 t1 m1) (h2 : Ref K hx W R2 t2 m2)
    (hk : ∀ a1 a2 ρ μ δ σ H b1 b2 (Q : VK), Rel K ρ μ H → EnvR K ρ H hx δ σ → R1 ρ H a1 b1 → R2 ρ H a2 b2 → OkN K ρ H (f a1 a2 δ μ) Q (fun c d H' => W c d σ H') → k b1 b2 σ H Q) :
    RefN K hx W (fun σ H Q => t1 σ H fun b1 H1 => t2 σ H1 fun b2 H2 => k b1 b2 σ H2 Q) (bindM m1 fun a1 => bindM m2 fun a2 => f a1 a2) := by
  refine RefN.bind (k := fun b1 σ H1 Q => t2 σ H1 fun b2 H2 => k b1 b2 σ H2 Q) h1 fun a1 ρ μ δ σ H b1 Q rel env r1 ok => ?_
  refine h2 ρ μ δ σ H _ rel env ?_
  unfold bindM at ok
  cases e : m2 δ μ with
  | ok a μ1 =>
    rw [e] at ok
    intro ρ' H' b p f rel' rb
    exact hk a1 a ρ' μ1 δ σ H' b1 b Q rel' (env.mono p f) (s1 _ _ _ _ _ _ p f r1) rb (OkN.mono p f ok)
  | err C w μ1 => rw [e] at ok; exact ok
  | bad => rw [e] at ok; exact ok
theorem OkN.bind {α β : Type} {K : PySem.W.Frag} {R : Rl α β} {ρ : List Addr} {H : Hp} {r : Res α} {k : α → Mem → Res (List D)} {Q : VK} {P : β → Hp → Prop} {E : XK} (h : OkN K ρ H (r.bind k) Q E)
    (hk : ∀ a μ1 ρ1 H1 b, Pre ρ ρ1 → Fz ρ ρ1 H H1 → Rel K ρ1 μ1 H1 → R ρ1 H1 a b → OkN K ρ1 H1 (k a μ1) Q E → P b H1) : Okr K R ρ H r P E := by
  cases r with
  | ok a μ1 => exact fun ρ1 H1 b p f rel rb => hk a μ1 ρ1 H1 b p f rel rb (OkN.mono p f h)
  | err C w μ1 => exact h
  | bad => exact h
theorem OkN.new {K : PySem.W.Frag} {ρ : List Addr} {μ : Mem} {H : Hp} {Q : VK} {E : XK} {ds : List D} {vs : List V} {p : Addr} (rel : Rel K ρ μ H) (hp : H p = none) (hd : DVs K ρ H ds vs) (ok : OkN K ρ H (.ok ds μ) Q E) : Q (.ref p) (upd H p (.lst vs)) :=
  Okr.go (R := NL K fun p => H p = none) ok (Pre.refl _) (Fz.new hp) (rel.alloc hp) ⟨p, vs, rfl, hp, upd_same, rel.fresh hp, hd.mono0 (Pre.refl _) (Fz0.new hp)⟩
def mfz (m : MX (List D)) : ME := bindM m fun ds => fun _ μ => .ok (.lst ds) μ
def mlc (m : MX (List D)) : ME := bindM m fun ds => fun _ μ => .ok (.loc μ.cells.length) (μ.push (.lst ds))
section
variable {X : Cx} {hx : Option HX} {W : WX} {e : Expr} {m : MX (List D)}
theorem Fz0.frz {H : Hp} {p : Addr} {vs : List V} {o : Obj} (h : H p = some (.lst vs)) : Fz0 H (upd H p (.frz o (.lst vs))) := Fz0.mut h (fun _ => HO.noConfusion) (fun _ _ => HO.noConfusion)
theorem dv_frz {K : PySem.W.Frag} {ρ : List Addr} {H : Hp} {p : Addr} {vs : List V} {o : Obj} {ds : List D} (h : H p = some (.lst vs)) (hd : DVs K ρ H ds vs) : DV K ρ (upd H p (.frz o (.lst vs))) (.lst ds) (.ref p) := by
  simp only [DV]
  exact ⟨p, vs, rfl, .inl ⟨o, upd_same⟩, hd.mono0 (Pre.refl _) (Fz0.frz h)⟩
theorem re_fz (h : RN X hx W e m) : RE X hx W e (mfz m) := by
  obtain ⟨t, p, r⟩ := h.ex
  refine ⟨⟨_, pe_fzo p, fun ρ0 μ0 δ σ H0 Q rel0 env0 ok0 => r ρ0 μ0 δ σ H0 _ rel0 env0 ?_⟩⟩
  unfold mfz bindM at ok0
  cases e : m δ μ0 with
  | err C w μ1 => rw [e] at ok0; exact ok0
  | bad => rw [e] at ok0; exact ok0
  | ok ds μ1 =>
    rw [e] at ok0
    rintro ρ H v pr fz rel ⟨q, vs, rfl, hu, hq, hn, hd⟩
    exact .inr ⟨q, vs, rfl, hq, fun o => ok0 ρ _ _ pr (fz.late hu) (rel.other hn (Fz0.frz hq)) (dv_frz hq hd)⟩
theorem dv_last {K : PySem.W.Frag} {ρ : List Addr} {μ : Mem} {H H' : Hp} {p : Addr} (rel : Rel K ρ μ H) : DV K (ρ ++ [p]) H' (.loc μ.cells.length) (.ref p) := by
  simp only [DV]
  exact ⟨p, by rw [← rel.len]; simp, rfl⟩
theorem re_lc (h : RN X hx W e m) : RE X hx W e (mlc m) := by
  obtain ⟨t, p, r⟩ := h.ex
  refine ⟨⟨_, p, fun ρ0 μ0 δ σ H0 Q rel0 env0 ok0 => r ρ0 μ0 δ σ H0 _ rel0 env0 ?_⟩⟩
  unfold mlc bindM at ok0
  cases e : m δ μ0 with
  | err C w μ1 => rw [e] at ok0; exact ok0
  | bad => rw [e] at ok0; exact ok0
  | ok ds μ1 =>
    rw [e] at ok0
    rintro ρ H v pr fz rel ⟨q, vs, rfl, hu, hq, hn, hd⟩
    exact ok0 _ _ _ (pr.trans (Pre.app _ _)) (fz.lateA hu) (rel.adopt hn ⟨vs, hq, hd.mono0 (Pre.app _ _) (Fz0.refl _)⟩) (dv_last rel)
end
def rCatR (K : PySem.W.Frag) : R2 := fun x y H Q => ∃ l b xs zs, x = .ref l ∧ y = .ref b ∧ LsR K H l xs ∧ LsR K H b zs ∧ xs.length + zs.length ≤ sizeLine ∧ ∀ p, H p = none → Q (.ref p) (upd H p (.lst (xs ++ zs)))
theorem Inv.lstR {X : Cx} {pins : List (Addr × Obj)} {σ : St} {H : Hp} {s : Shared} {l : Addr} {xs : List V} (I : L2.Inv X pins σ H s) (hH : LsR X.K H l xs) : xs.length ≤ sizeLine ∧ ∃ (its : List Value) (n : Nat), Vals xs its ∧ xs.length = its.length ∧ s.heap.get? l = some { cls := .type "list", data := .seq its.toArray n } := by
  rcases hH with hH | ⟨its, n, hk, hz, r⟩
  · obtain ⟨z, its, n, r, e⟩ := hH.ok I.hok
    exact ⟨z, its, n, r, r.length, e⟩
  · exact ⟨by rw [r.length]; exact hz, its, n, r, r.length, I.kIn l _ hk⟩
theorem op_catR {X : Cx} : OpR X (binaryOp .Add) (rCatR X.K) := by
  intro pins s σ H x y v u Q I rx ry h
  obtain ⟨l, b, xs, zs, rfl, rfl, hH, hB, hz, q⟩ := h
  cases rx
  cases ry
  obtain ⟨z, its, n, r, hl, e⟩ := Inv.lstR I hH
  obtain ⟨z2, its2, n2, r2, hl2, e2⟩ := Inv.lstR I hB
  refine PySem.P.add_list e e2 ?_ (by rw [List.size_toArray, List.size_toArray]; omega)
  have ea : its.toArray ++ its2.toArray = (its ++ its2).toArray := by simp
  rw [ea]
  exact ⟨.ref _, _, I.lnew (t' := s.toks) (r.append r2) (by rw [List.length_append]; omega), rfl, q _ I.fresh⟩
def rAddU (K : PySem.W.Frag) : R2 := fun x y H Q => (rI0 fun i j => V.int (i + j)) x y H Q ∨ (∃ i j, x = .str i ∧ y = .str j ∧ i.length + j.length ≤ sizeLine ∧ Q (.str (i ++ j)) H) ∨ rCatA K x y H Q ∨ rCatR K x y H Q
theorem op_addU {X : Cx} : OpR X (binaryOp .Add) (rAddU X.K) := op_add.or (op_add_str.or (op_catA.or op_catR))
def catL (μ : Mem) (d e : D) : Option (List D) := (lstOf μ d).bind fun xs => (lstOf μ e).bind fun ys => if xs.length + ys.length ≤ sizeLine then some (xs ++ ys) else none
def fAdd (d e : D) (μ : Mem) : Res D := match d, e with
  | .int i, .int j => .ok (.int (i + j)) μ
  | .str i, .str j => if i.length + j.length ≤ sizeLine then .ok (.str (i ++ j)) μ else .bad
  | .tup xs, .tup ys => if xs.length + ys.length ≤ sizeLine then .ok (.tup (xs ++ ys)) μ else .bad
  | d, e => match catL μ d e with
    | some zs => .ok (.lst zs) μ
    | none => .bad
def OpF (K : PySem.W.Frag) (r : R2) (f : D → D → Mem → Res D) : Prop :=
  ∀ d e ρ μ H x y (Q : VK) (E : XK), Rel K ρ μ H → DV K ρ H d x → DV K ρ H e y → Okr K (DV K) ρ H (f d e μ) Q E → r x y H (Frzn Q)
theorem re_opF {X : Cx} {hx : Option HX} {W : WX} {pos : Pos} {a b : Expr} {ma mb : ME} {op : Operator} {r : R2} {f : D → D → Mem → Res D} (ho : OpR X (binaryOp op) r) (om : OpF X.K r f) (ha : RE X hx W a ma) (hb : RE X hx W b mb) : RE X hx W (.BinOp a op b pos) (mop f ma mb) := by
  obtain ⟨ta, pa, ra⟩ := ha.ex
  obtain ⟨tb, pb, rb⟩ := hb.ex
  exact ⟨⟨_, pe_fzo (pe_op ho pa pb), Ref.two (k := fun x y σ H Q => r x y H (Frzn Q)) stay_DV ra rb fun d e ρ μ δ σ H x y Q rel env dx dy ok => om d e ρ μ H x y Q _ rel dx dy ok⟩⟩
theorem okr_new {K : PySem.W.Frag} {ρ : List Addr} {μ : Mem} {H : Hp} {Q : VK} {E : XK} {ds : List D} {vs : List V} {p : Addr} (rel : Rel K ρ μ H) (hp : H p = none) (hd : DVs K ρ H ds vs) (ok : Okr K (DV K) ρ H (.ok (.lst ds) μ) Q E) : Frzn Q (.ref p) (upd H p (.lst vs)) := by
  refine .inr ⟨p, vs, rfl, upd_same, fun o => ?_⟩
  have f1 : Fz ρ ρ H (upd H p (.lst vs)) := Fz.new hp
  have f2 := Fz0.frz (o := o) (upd_same (H := H) (a := p) (o := .lst vs))
  exact ok.go (Pre.refl _) (f1.late hp) ((rel.alloc hp).other (rel.fresh hp) f2) (dv_frz upd_same (hd.mono (Pre.refl _) f1))
theorem okr_tup {K : PySem.W.Frag} {ρ : List Addr} {μ : Mem} {H : Hp} {Q : VK} {E : XK} {ds : List D} {vs : List V} {p : Addr} (rel : Rel K ρ μ H) (hp : H p = none) (hd : DVs K ρ H ds vs) (ok : Okr K (DV K) ρ H (.ok (.tup ds) μ) Q E) : Q (.ref p) (upd H p (.tup vs)) :=
  ok.go (Pre.refl _) (Fz.new hp) (rel.alloc hp) (by simp only [DV]; exact ⟨p, vs, rfl, .inl upd_same, hd.mono0 (Pre.refl _) (Fz0.new hp)⟩)
theorem catL_ok {K : PySem.W.Frag} {ρ : List Addr} {μ : Mem} {H : Hp} {d e : D} {x y : V} {zs : List D} (rel : Rel K ρ μ H) (dx : DV K ρ H d x) (dy : DV K ρ H e y) (h : catL μ d e = some zs) :
    ∃ l b xs ys, x = .ref l ∧ y = .ref b ∧ LsR K H l xs ∧ LsR K H b ys ∧ xs.length + ys.length ≤ sizeLine ∧ DVs K ρ H zs (xs ++ ys) := by
  unfold catL at h
  cases h1 : lstOf μ d with
  | none => rw [h1] at h; cases h
  | some us =>
    cases h2 : lstOf μ e with
    | none => rw [h1, h2] at h; cases h
    | some ws =>
      rw [h1, h2] at h
      simp only [Option.bind_some] at h
      split at h
      · rename_i hl
        have e3 := Option.some.inj h
        subst e3
        obtain ⟨l, xs, r1, r2, r3⟩ := lstOf_ok rel dx h1
        obtain ⟨b, ys, q1, q2, q3⟩ := lstOf_ok rel dy h2
        exact ⟨l, b, xs, ys, r1, q1, r2, q2, by rw [← r3.length, ← q3.length]; exact hl, r3.app q3⟩
      · cases h
theorem opF_add {K : PySem.W.Frag} : OpF K (rAddU K) fAdd := by
  intro d e ρ μ H x y Q E rel dx dy ok
  unfold fAdd at ok
  split at ok
  · exact .inl ⟨_, _, int_ok dx, int_ok dy, .inl (ok.now rel dv_int)⟩
  · split at ok
    · rename_i h
      exact .inr (.inl ⟨_, _, str_ok dx, str_ok dy, h, .inl (ok.now rel dv_str)⟩)
    · exact ok.elim
  · split at ok
    · rename_i xs ys h1
      obtain ⟨a, vs, e1, e2, e3⟩ := tup_ok dx
      obtain ⟨b, us, q1, q2, q3⟩ := tup_ok dy
      have nil : ∀ {ds : List D} {ws : List V}, DVs K ρ H ds ws → ws = [] → ds = [] := fun h z => by
        have := h.length
        rw [z] at this
        exact List.length_eq_zero_iff.mp this
      refine .inr (.inr (.inl ⟨a, b, vs, us, e1, q1, e2.sq, q2.sq, by rw [← e3.length, ← q3.length]; exact h1, fun z => ?_, fun _ z => ?_, fun _ z p hp => ?_⟩))
      · have e4 := nil e3 z
        subst e4
        rw [List.nil_append] at ok
        rw [← q1]
        exact .inl (ok.now rel dy)
      · have e4 := nil q3 z
        subst e4
        rw [List.append_nil] at ok
        rw [← e1]
        exact .inl (ok.now rel dx)
      · exact .inl (okr_tup rel hp (e3.app q3) ok)
    · exact ok.elim
  · split at ok
    · rename_i zs hz
      obtain ⟨l, b, xs, ys, r1, q1, r2, q2, h4, h5⟩ := catL_ok rel dx dy hz
      exact .inr (.inr (.inr ⟨l, b, xs, ys, r1, q1, r2, q2, h4, fun p hp => okr_new rel hp h5 ok⟩))
    · exact ok.elim
section
variable {X : Cx} {hx : Option HX} {W : WX} {pos : Pos} {a b : Expr} {ma mb : ME}
theorem re_add (ha : RE X hx W a ma) (hb : RE X hx W b mb) : RE X hx W (.BinOp a .Add b pos) (mop fAdd ma mb) := re_opF op_addU opF_add ha hb
def mcatN (a b : ME) : MX (List D) := bindM a fun x => bindM b fun y => fun _ μ => match catL μ x y with
  | some zs => .ok zs μ
  | none => .bad
theorem rn_add (ha : RE X hx W a ma) (hb : RE X hx W b mb) : RN X hx W (.BinOp a .Add b pos) (mcatN ma mb) := by
  obtain ⟨ta, pa, ra⟩ := ha.ex
  obtain ⟨tb, pb, rb⟩ := hb.ex
  refine ⟨⟨_, pe_op op_catR pa pb, RefN.two stay_DV ra rb fun d e ρ μ δ σ H x y Q rel env dx dy ok => ?_⟩⟩
  split at ok
  · rename_i zs hz
    obtain ⟨l, b, xs, ys, r1, q1, r2, q2, h4, h5⟩ := catL_ok rel dx dy hz
    exact ⟨l, b, xs, ys, r1, q1, r2, q2, h4, fun p hp => OkN.new rel hp h5 ok⟩
  · exact ok.elim
def fInt (C : Int → Int → Prop) [∀ i j, Decidable (C i j)] (g : Int → Int → Int) (d e : D) (μ : Mem) : Res D := match d, e with
  | .int i, .int j => if C i j then .ok (.int (g i j)) μ else .bad
  | _, _ => .bad
theorem opM_int {K : PySem.W.Frag} {C C' : Int → Int → Prop} [∀ i j, Decidable (C' i j)] {g : Int → Int → Int} (h : ∀ i j, C' i j → C i j) : OpM K (rI C fun i j => .int (g i j)) (fInt C' g) := by
  intro d e ρ μ H x y Q E rel dx dy ok
  unfold fInt at ok
  split at ok
  · split at ok
    · rename_i hc
      exact ⟨_, _, int_ok dx, int_ok dy, h _ _ hc, ok.now rel dv_int⟩
    · exact ok.elim
  · exact ok.elim
def fSub (d e : D) (μ : Mem) : Res D := match d, e with
  | .int i, .int j => .ok (.int (i - j)) μ
  | _, _ => .bad
theorem re_sub (ha : RE X hx W a ma) (hb : RE X hx W b mb) : RE X hx W (.BinOp a .Sub b pos) (mop fSub ma mb) :=
  re_op op_sub (fun d e ρ μ H x y Q E rel dx dy ok => by
    unfold fSub at ok
    split at ok
    · exact ⟨_, _, int_ok dx, int_ok dy, ok.now rel dv_int⟩
    · exact ok.elim) ha hb
def fMod (d e : D) (μ : Mem) : Res D := fInt (fun _ j => 0 < j) (fun i j => i % j) d e μ
def fDiv (d e : D) (μ : Mem) : Res D := fInt (fun _ j => 0 < j ∧ j.natAbs.log2 < 9000) (fun i j => i / j) d e μ
def fMul (d e : D) (μ : Mem) : Res D := fInt (fun i j => i.natAbs.log2 + j.natAbs.log2 < 1000000) (fun i j => i * j) d e μ
def fPow (d e : D) (μ : Mem) : Res D := fInt (fun i j => 0 ≤ j ∧ j ≤ 1000000 ∧ i.natAbs < 2 ^ 64) (fun i j => i ^ j.toNat) d e μ
theorem re_mod (ha : RE X hx W a ma) (hb : RE X hx W b mb) : RE X hx W (.BinOp a .Mod b pos) (mop fMod ma mb) := re_op op_mod (opM_int fun _ _ h => h) ha hb
theorem re_div (ha : RE X hx W a ma) (hb : RE X hx W b mb) : RE X hx W (.BinOp a .FloorDiv b pos) (mop fDiv ma mb) := re_op op_fdivW (opM_int fun _ _ h => h) ha hb
theorem re_mul (ha : RE X hx W a ma) (hb : RE X hx W b mb) : RE X hx W (.BinOp a .Mult b pos) (mop fMul ma mb) := re_op op_mulW (opM_int fun _ _ h => h) ha hb
theorem re_pow (ha : RE X hx W a ma) (hb : RE X hx W b mb) : RE X hx W (.BinOp a .Pow b pos) (mop fPow ma mb) := re_op op_pow (opM_int fun _ _ h => h) ha hb
def fAnd (d e : D) (μ : Mem) : Res D := match d, e with
  | .int i, .int j => .ok (.int (Builtin.bitAnd i j)) μ
  | _, _ => .bad
theorem re_band (ha : RE X hx W a ma) (hb : RE X hx W b mb) : RE X hx W (.BinOp a .BitAnd b pos) (mop fAnd ma mb) :=
  re_op op_and (fun d e ρ μ H x y Q E rel dx dy ok => by
    unfold fAnd at ok
    split at ok
    · exact ⟨_, _, int_ok dx, int_ok dy, ok.now rel dv_int⟩
    · exact ok.elim) ha hb
def mneg (a : ME) : ME := bindM a fun x => match x with
  | .int i => fun _ μ => .ok (.int (-i)) μ
  | _ => fun _ _ => .bad
theorem re_neg (ha : RE X hx W a ma) : RE X hx W (.UnaryOp .USub a pos) (mneg ma) := by
  obtain ⟨ta, p, ra⟩ := ha.ex
  refine ⟨⟨_, pe_un un_neg p, fun ρ0 μ0 δ σ H0 Q rel0 env0 ok0 => ra ρ0 μ0 δ σ H0 _ rel0 env0 (Okr.bind ok0 fun x μ ρ H y pr fz rel e ok => ?_)⟩⟩
  cases x with
  | int i => exact ⟨i, int_ok e, ok.now rel dv_int⟩
  | _ => exact ok.elim
def cInt (p : Int → Int → Bool) (d e : D) (μ : Mem) : Res Bool := match d, e with
  | .int i, .int j => .ok (p i j) μ
  | _, _ => .bad
theorem cmpM_int {K : PySem.W.Frag} {p : Int → Int → Bool} : CmpM K (rI0 fun i j => .bl (p i j)) (cInt p) := by
  intro d e ρ μ H x y Q E rel dx dy ok
  unfold cInt at ok
  split at ok
  · exact ⟨_, _, int_ok dx, int_ok dy, ok.now rel rfl⟩
  · exact ok.elim
def cLt := cInt fun i j => decide (i < j)
def cLe := cInt fun i j => decide (i ≤ j)
def cGt := cInt fun i j => decide (j < i)
def cGe := cInt fun i j => decide (j ≤ i)
theorem cm_lt {K : PySem.W.Frag} : CmpM K (rI0 fun i j => .bl (decide (i < j))) cLt := cmpM_int
theorem cm_le {K : PySem.W.Frag} : CmpM K (rI0 fun i j => .bl (decide (i ≤ j))) cLe := cmpM_int
theorem cm_gt {K : PySem.W.Frag} : CmpM K (rI0 fun i j => .bl (decide (j < i))) cGt := cmpM_int
theorem cm_ge {K : PySem.W.Frag} : CmpM K (rI0 fun i j => .bl (decide (j ≤ i))) cGe := cmpM_int
def D.isNon : D → Bool
  | .non => true
  | _ => false
def cIs (d e : D) (μ : Mem) : Res Bool := match e with
  | .non => .ok d.isNon μ
  | _ => .bad
def cIsNot (d e : D) (μ : Mem) : Res Bool := match e with
  | .non => .ok (!d.isNon) μ
  | _ => .bad
theorem isNon_ok {K : PySem.W.Frag} {ρ : List Addr} {H : Hp} {d : D} {x : V} (dx : DV K ρ H d x) : decide (x = V.non) = d.isNon := by
  cases d <;> simp only [DV] at dx <;> first
    | (subst dx; simp [D.isNon]; done)
    | (obtain ⟨_, _, rfl, _⟩ := dx; simp [D.isNon]; done)
    | (obtain ⟨_, _, rfl⟩ := dx; simp [D.isNon]; done)
theorem cm_is {K : PySem.W.Frag} : CmpM K (fun x y H Q => y = .non ∧ Q (.bl (decide (x = .non))) H) cIs := by
  intro d e ρ μ H x y Q E rel dx dy ok
  unfold cIs at ok
  split at ok
  · exact ⟨non_ok dy, by rw [isNon_ok dx]; exact ok.now rel rfl⟩
  · exact ok.elim
theorem cm_isNot {K : PySem.W.Frag} : CmpM K (fun x y H Q => y = .non ∧ Q (.bl (!decide (x = .non))) H) cIsNot := by
  intro d e ρ μ H x y Q E rel dx dy ok
  unfold cIsNot at ok
  split at ok
  · exact ⟨non_ok dy, by rw [isNon_ok dx]; exact ok.now rel rfl⟩
  · exact ok.elim
end
end Doz
end
section
namespace Doz
open PySem L2
mutual
def D.eqv : D → D → Bool
  | .non, .non => true
  | .bl a, .bl b => a == b
  | .bl a, .int j => (if a then 1 else 0) == j
  | .int i, .bl b => i == (if b then 1 else 0)
  | .int i, .int j => i == j
  | .str x, .str y => x == y
  | .lst xs, .lst ys => D.eqvs xs ys
  | .tup xs, .tup ys => D.eqvs xs ys
  | _, _ => false
def D.eqvs : List D → List D → Bool
  | [], [] => true
  | x :: xs, y :: ys => D.eqv x y && D.eqvs xs ys
  | [], _ :: _ => false
  | _ :: _, [] => false
end
def rsv (μ : Mem) : Nat → D → Option D
  | 0, _ => none
  | f + 1, d => match d with
    | .tup ds => (ds.mapM (rsv μ f)).map D.tup
    | .lst ds => (ds.mapM (rsv μ f)).map D.lst
    | .loc n => match μ.cells[n]? with
      | some (.lst ds) => (ds.mapM (rsv μ f)).map D.lst
      | _ => none
    | .sta _ => none
    | .ty _ => none
    | d => some d
mutual
def toPy : D → PyData
  | .non => .none
  | .bl b => .bool b
  | .int i => .int i
  | .str x => .str x
  | .tup ds => .tuple (toPys ds)
  | .lst ds => .list (toPys ds)
  | _ => .none
def toPys : List D → List PyData
  | [] => []
  | d :: ds => toPy d :: toPys ds
end
mutual
def D.pure : D → Bool
  | .tup ds => D.pures ds
  | .lst ds => D.pures ds
  | .loc _ => false
  | .sta _ => false
  | .ty _ => false
  | _ => true
def D.pures : List D → Bool
  | [] => true
  | d :: ds => D.pure d && D.pures ds
end
mutual
theorem eqv_py : ∀ (a b : D), a.pure = true → b.pure = true → PyData.eqv (toPy a) (toPy b) = D.eqv a b
  | .non, b, _, hb => by cases b <;> simp_all [toPy, PyData.eqv, D.eqv, D.pure]
  | .bl x, b, _, hb => by cases b <;> simp_all [toPy, PyData.eqv, D.eqv, D.pure]
  | .int x, b, _, hb => by cases b <;> simp_all [toPy, PyData.eqv, D.eqv, D.pure]
  | .str x, b, _, hb => by cases b <;> simp_all [toPy, PyData.eqv, D.eqv, D.pure]
  | .tup xs, b, ha, hb => by
    cases b with
    | tup ys => simp only [toPy, PyData.eqv, D.eqv]; exact eqvs_py xs ys (by simpa [D.pure] using ha) (by simpa [D.pure] using hb)
    | _ => simp_all [toPy, PyData.eqv, D.eqv, D.pure]
  | .lst xs, b, ha, hb => by
    cases b with
    | lst ys => simp only [toPy, PyData.eqv, D.eqv]; exact eqvs_py xs ys (by simpa [D.pure] using ha) (by simpa [D.pure] using hb)
    | _ => simp_all [toPy, PyData.eqv, D.eqv, D.pure]
  | .loc _, _, ha, _ => by simp [D.pure] at ha
  | .sta _, _, ha, _ => by simp [D.pure] at ha
  | .ty _, _, ha, _ => by simp [D.pure] at ha
theorem eqvs_py : ∀ (a b : List D), D.pures a = true → D.pures b = true → PyData.eqvAll (toPys a) (toPys b) = D.eqvs a b
  | [], b, _, _ => by cases b <;> simp [toPys, PyData.eqvAll, D.eqvs]
  | x :: xs, b, ha, hb => by
    cases b with
    | nil => simp [toPys, PyData.eqvAll, D.eqvs]
    | cons y ys =>
      simp only [D.pures, Bool.and_eq_true] at ha hb
      simp only [toPys, PyData.eqvAll, D.eqvs]
      rw [eqv_py x y ha.1 hb.1, eqvs_py xs ys ha.2 hb.2]
end
mutual
theorem D.eqv_refl : ∀ a : D, a.pure = true → D.eqv a a = true
  | .non, _ => by simp [D.eqv]
  | .bl x, _ => by simp [D.eqv]
  | .int x, _ => by simp [D.eqv]
  | .str x, _ => by simp [D.eqv]
  | .tup xs, h => by simp only [D.eqv]; exact D.eqvs_refl xs (by simpa [D.pure] using h)
  | .lst xs, h => by simp only [D.eqv]; exact D.eqvs_refl xs (by simpa [D.pure] using h)
  | .loc _, h => by simp [D.pure] at h
  | .sta _, h => by simp [D.pure] at h
  | .ty _, h => by simp [D.pure] at h
theorem D.eqvs_refl : ∀ a : List D, D.pures a = true → D.eqvs a a = true
  | [], _ => by simp [D.eqvs]
  | x :: xs, h => by
    simp only [D.pures, Bool.and_eq_true] at h
    simp [D.eqvs, D.eqv_refl x h.1, D.eqvs_refl xs h.2]
end
theorem mapM_cons_some {α β : Type} {f : α → Option β} {x : α} {xs : List α} {zs : List β} (h : (x :: xs).mapM f = some zs) : ∃ y ys, f x = some y ∧ xs.mapM f = some ys ∧ zs = y :: ys := by
  rw [List.mapM_cons] at h
  cases h1 : f x with
  | none => rw [h1] at h; cases h
  | some y =>
    cases h2 : xs.mapM f with
    | none => rw [h1, h2] at h; cases h
    | some ys =>
      rw [h1, h2] at h
      exact ⟨y, ys, rfl, rfl, (Option.some.inj h).symm⟩
theorem rsvs_pure {μ : Mem} {f : Nat} (ih : ∀ d p, rsv μ f d = some p → p.pure = true) : ∀ {ds ps : List D}, ds.mapM (rsv μ f) = some ps → D.pures ps = true
  | [], ps, h => by
    have : ps = [] := by simpa using h.symm
    subst this; simp [D.pures]
  | d :: ds, ps, h => by
    obtain ⟨y, ys, h1, h2, rfl⟩ := mapM_cons_some h
    simp [D.pures, ih d y h1, rsvs_pure ih h2]
theorem rsv_pure {μ : Mem} : ∀ (f : Nat) (d p : D), rsv μ f d = some p → p.pure = true
  | 0, d, p, h => by simp [rsv] at h
  | f + 1, d, p, h => by
    have lst : ∀ {ds : List D}, (ds.mapM (rsv μ f)).map D.lst = some p → p.pure = true := fun {ds} h => by
      obtain ⟨ps, h1, rfl⟩ := Option.map_eq_some_iff.mp h
      simpa [D.pure] using rsvs_pure (rsv_pure f) h1
    cases d with
    | tup ds =>
      simp only [rsv] at h
      obtain ⟨ps, h1, rfl⟩ := Option.map_eq_some_iff.mp h
      simpa [D.pure] using rsvs_pure (rsv_pure f) h1
    | lst ds => simp only [rsv] at h; exact lst h
    | loc n =>
      simp only [rsv] at h
      split at h
      · exact lst h
      · cases h
    | sta _ => simp [rsv] at h
    | ty _ => simp [rsv] at h
    | non => simp [rsv] at h; subst h; rfl
    | bl _ => simp [rsv] at h; subst h; rfl
    | int _ => simp [rsv] at h; subst h; rfl
    | str _ => simp [rsv] at h; subst h; rfl
section
variable {K : PySem.W.Frag} {ρ : List Addr} {μ : Mem} {H : Hp}
theorem rsvs_dp {f : Nat} (ih : ∀ d p v, rsv μ f d = some p → DV K ρ H d v → Dp K H v (toPy p)) : ∀ {ds ps : List D} {vs : List V}, ds.mapM (rsv μ f) = some ps → DVs K ρ H ds vs → DpAll K H vs (toPys ps)
  | [], ps, vs, h, dv => by
    have : ps = [] := by simpa using h.symm
    subst this
    simp only [DVs] at dv
    subst dv
    exact .nil
  | d :: ds, ps, vs, h, dv => by
    obtain ⟨y, ys, h1, h2, rfl⟩ := mapM_cons_some h
    simp only [DVs] at dv
    obtain ⟨v, r, rfl, d1, d2⟩ := dv
    simp only [toPys]
    exact .cons (ih d y v h1 d1) (rsvs_dp ih h2 d2)
theorem rsv_dp (rel : Rel K ρ μ H) : ∀ (f : Nat) (d p : D) (v : V), rsv μ f d = some p → DV K ρ H d v → Dp K H v (toPy p)
  | 0, d, p, v, h, _ => by simp [rsv] at h
  | f + 1, d, p, v, h, dv => by
    cases d with
    | tup ds =>
      simp only [rsv] at h
      obtain ⟨ps, h1, rfl⟩ := Option.map_eq_some_iff.mp h
      obtain ⟨a, vs, rfl, h2, h3⟩ := tup_ok dv
      simp only [toPy]
      exact .tup h2.sq (rsvs_dp (rsv_dp rel f) h1 h3)
    | lst ds =>
      simp only [rsv] at h
      obtain ⟨ps, h1, rfl⟩ := Option.map_eq_some_iff.mp h
      obtain ⟨a, vs, rfl, h2, h3⟩ := lstOf_ok rel dv (ds := ds) rfl
      simp only [toPy]
      exact .lst (rd_sq h2) (rsvs_dp (rsv_dp rel f) h1 h3)
    | loc n =>
      simp only [rsv] at h
      split at h
      · rename_i ds hc
        obtain ⟨ps, h1, rfl⟩ := Option.map_eq_some_iff.mp h
        obtain ⟨a, vs, rfl, h2, h3⟩ := lstOf_ok rel dv (ds := ds) (by simp [lstOf, hc])
        simp only [toPy]
        exact .lst (rd_sq h2) (rsvs_dp (rsv_dp rel f) h1 h3)
      · cases h
    | sta _ => simp [rsv] at h
    | ty _ => simp [rsv] at h
    | non => simp [rsv] at h; subst h; rw [non_ok dv]; exact .non
    | bl _ => simp [rsv] at h; subst h; rw [bl_ok dv]; exact .bl _
    | int _ => simp [rsv] at h; subst h; rw [int_ok dv]; exact .int _
    | str _ => simp [rsv] at h; subst h; rw [str_ok dv]; exact .str _
end
def D.sc : D → Bool
  | .non => true
  | .bl _ => true
  | .int _ => true
  | .str _ => true
  | _ => false
def D.fits (d : D) : Bool := SeqAt.shaped (toPy d)
def cEq (d e : D) (μ : Mem) : Res Bool :=
  if (d.sc && e.sc) = true then .ok (D.eqv d e) μ else match rsv μ 8 d, rsv μ 8 e with
    | some p, some q => if (p.fits && q.fits) = true then .ok (D.eqv p q) μ else .bad
    | _, _ => .bad
def cNe (d e : D) (μ : Mem) : Res Bool := (cEq d e μ).bind fun b μ => .ok (!b) μ
def rEqU (K : PySem.W.Frag) : R2 := fun x y H Q => rEq x y H Q ∨ rEqD K x y H Q
def rNeU (K : PySem.W.Frag) : R2 := fun x y H Q => rNe x y H Q ∨ rNeD K x y H Q
theorem op_eqU {X : Cx} (hu : X.A.units + 64 < cLine) : OpR X (compareOp .Eq) (rEqU X.K) := op_eq.or (op_eqD hu)
theorem op_neU {X : Cx} (hu : X.A.units + 64 < cLine) : OpR X (compareOp .NotEq) (rNeU X.K) := op_ne.or (op_neD hu)
theorem eq_core {K : PySem.W.Frag} {ρ : List Addr} {μ : Mem} {H : Hp} {d e : D} {x y : V} {b : Bool} {μ' : Mem} (rel : Rel K ρ μ H) (dx : DV K ρ H d x) (dy : DV K ρ H e y) (h : cEq d e μ = .ok b μ') :
    μ' = μ ∧ ((scal x y = true ∧ decide (x = y) = b) ∨ ∃ p q, Dp K H x p ∧ Dp K H y q ∧ SeqAt.shaped p = true ∧ SeqAt.shaped q = true ∧ PyData.eqv p q = b) := by
  unfold cEq at h
  split at h
  · rename_i hs
    have h' : D.eqv d e = b ∧ μ = μ' := by simpa using h
    obtain ⟨rfl, rfl⟩ := h'
    refine ⟨rfl, ?_⟩
    cases d <;> cases e <;> simp [D.sc] at hs
    all_goals
      first
        | rw [non_ok dx]
        | rw [bl_ok dx]
        | rw [int_ok dx]
        | rw [str_ok dx]
    all_goals
      first
        | rw [non_ok dy]
        | rw [bl_ok dy]
        | rw [int_ok dy]
        | rw [str_ok dy]
    all_goals first
      | (refine .inl ⟨rfl, ?_⟩; simp [D.eqv]; done)
      | (refine .inl ⟨rfl, ?_⟩; rw [Bool.eq_iff_iff]; simp [D.eqv]; done)
      | exact .inr ⟨_, _, .bl _, .int _, by rfl, by rfl, by simp [D.eqv, PyData.eqv]⟩
      | exact .inr ⟨_, _, .int _, .bl _, by rfl, by rfl, by simp [D.eqv, PyData.eqv]⟩
  · split at h
    · rename_i p q hp hq
      split at h
      · rename_i hf
        simp only [Bool.and_eq_true] at hf
        have h' : D.eqv p q = b ∧ μ = μ' := by simpa using h
        obtain ⟨rfl, rfl⟩ := h'
        exact ⟨rfl, .inr ⟨_, _, rsv_dp rel 8 d p x hp dx, rsv_dp rel 8 e q y hq dy, hf.1, hf.2, eqv_py p q (rsv_pure 8 d p hp) (rsv_pure 8 e q hq)⟩⟩
      · cases h
    · cases h
theorem cEq_noerr {d e : D} {μ : Mem} {C : Addr} {w : D} {μ' : Mem} : cEq d e μ ≠ .err C w μ' := by
  unfold cEq
  split
  · exact fun h => nomatch h
  · split
    · split <;> exact fun h => nomatch h
    · exact fun h => nomatch h
theorem cm_eq {K : PySem.W.Frag} : CmpM K (rEqU K) cEq := by
  intro d e ρ μ H x y Q E rel dx dy ok
  cases h : cEq d e μ with
  | ok b μ' =>
    rw [h] at ok
    obtain ⟨rfl, hc⟩ := eq_core rel dx dy h
    have q := ok.now rel (b := V.bl b) rfl
    rcases hc with ⟨h1, h2⟩ | ⟨p, q', h1, h2, h3, h4, h5⟩
    · exact .inl ⟨h1, by rw [h2]; exact q⟩
    · exact .inr ⟨p, q', h1, h2, h3, h4, by rw [h5]; exact q⟩
  | err C w μ' => exact absurd h cEq_noerr
  | bad => rw [h] at ok; exact ok.elim
theorem cm_ne {K : PySem.W.Frag} : CmpM K (rNeU K) cNe := by
  intro d e ρ μ H x y Q E rel dx dy ok
  unfold cNe at ok
  cases h : cEq d e μ with
  | ok b μ' =>
    rw [h] at ok
    obtain ⟨rfl, hc⟩ := eq_core rel dx dy h
    have q := Okr.now (b := V.bl !b) ok rel rfl
    rcases hc with ⟨h1, h2⟩ | ⟨p, q', h1, h2, h3, h4, h5⟩
    · exact .inl ⟨h1, by rw [h2]; exact q⟩
    · exact .inr ⟨p, q', h1, h2, h3, h4, by rw [h5]; exact q⟩
  | err C w μ' => exact absurd h cEq_noerr
  | bad => rw [h] at ok; exact ok.elim
section
variable {κ : Type} [DecidableEq κ]
def kget (kvs : List (κ × D)) (k : κ) : Option D := (kvs.find? fun kv => decide (kv.1 = k)).map (·.2)
def kput (kvs : List (κ × D)) (k : κ) (v : D) : List (κ × D) :=
  if (kvs.any fun kv => decide (kv.1 = k)) = true then kvs.map (fun kv => if kv.1 = k then (kv.1, v) else kv) else kvs ++ [(k, v)]
def kdrop (kvs : List (κ × D)) (k : κ) : List (κ × D) := kvs.filter fun kv => decide (kv.1 ≠ k)
variable {K : PySem.W.Frag} {ρ : List Addr} {H : Hp}
theorem KDs.any {k : κ} : ∀ {a : List (κ × D)} {b : List (κ × V)}, KDs K ρ H a b → (b.any fun kv => decide (kv.1 = k)) = a.any fun kv => decide (kv.1 = k)
  | _, _, .nil => rfl
  | _, _, .cons r t => by
    simp only [List.any_cons]
    rw [KDs.any t, r.1]
theorem KDs.val {k : κ} : ∀ {a : List (κ × D)} {b : List (κ × V)}, KDs K ρ H a b → (∀ d, kget a k = some d → ∃ v, valV b k = some v ∧ DV K ρ H d v) ∧ (kget a k = none → valV b k = none)
  | _, _, .nil => ⟨fun _ h => by simp [kget] at h, fun _ => rfl⟩
  | p :: a, q :: b, .cons r t => by
    by_cases h : p.1 = k
    · have e1 : kget (p :: a) k = some p.2 := by simp [kget, List.find?_cons, h]
      have e2 : valV (q :: b) k = some q.2 := valV_pos (r.1 ▸ h)
      refine ⟨fun d e => ?_, fun e => by rw [e1] at e; cases e⟩
      rw [e1] at e
      exact ⟨q.2, e2, (Option.some.inj e) ▸ r.2⟩
    · have e1 : kget (p :: a) k = kget a k := by simp [kget, List.find?_cons, h]
      have e2 : valV (q :: b) k = valV b k := valV_neg (r.1 ▸ h)
      rw [e1, e2]
      exact KDs.val t
theorem KDs.app {a c : List (κ × D)} {b e : List (κ × V)} (h : KDs K ρ H a b) (h' : KDs K ρ H c e) : KDs K ρ H (a ++ c) (b ++ e) := by
  induction h with
  | nil => exact h'
  | cons r t ih => exact .cons r ih
theorem KDs.put {k : κ} {d : D} {v : V} (hd : DV K ρ H d v) {a : List (κ × D)} {b : List (κ × V)} (h : KDs K ρ H a b) : KDs K ρ H (kput a k d) (putK b k v) := by
  unfold kput putK
  rw [KDs.any h]
  split
  · have all : ∀ {a : List (κ × D)} {b : List (κ × V)}, KDs K ρ H a b → KDs K ρ H (a.map fun kv => if kv.1 = k then (kv.1, d) else kv) (b.map fun kv => if kv.1 = k then (kv.1, v) else kv) := fun h => by
      induction h with
      | nil => exact .nil
      | @cons p q _ _ r t ih =>
        refine .cons ?_ ih
        dsimp only
        rw [← r.1]
        split
        · exact ⟨rfl, hd⟩
        · exact r
    exact all h
  · exact h.app (.cons ⟨rfl, hd⟩ .nil)
theorem KDs.drop {k : κ} {a : List (κ × D)} {b : List (κ × V)} (h : KDs K ρ H a b) : KDs K ρ H (kdrop a k) (dropK b k) := by
  unfold kdrop dropK
  induction h with
  | nil => exact .nil
  | @cons p q _ _ r t ih =>
    simp only [List.filter_cons]
    rw [← r.1]
    split
    · exact .cons r ih
    · exact ih
theorem KDs.length {a : List (κ × D)} {b : List (κ × V)} (h : KDs K ρ H a b) : a.length = b.length := Paired.length h
end
def keyOf : D → Option Key
  | .int i => some (.inl i)
  | .str x => some (.inr x)
  | _ => none
theorem keyOf_ok {K : PySem.W.Frag} {ρ : List Addr} {H : Hp} {d : D} {v : V} {k : Key} (h : keyOf d = some k) (dv : DV K ρ H d v) : v = kV k := by
  cases d with
  | int i => simp [keyOf] at h; subst h; exact int_ok dv
  | str x => simp [keyOf] at h; subst h; exact str_ok dv
  | _ => simp [keyOf] at h
def dictOf (μ : Mem) : D → Option (List (Key × D))
  | .loc n => match μ.cells[n]? with
    | some (.dK kds) => some kds
    | _ => none
  | _ => none
theorem lk_rd {H : Hp} {a : Addr} {l : Bool} {u : HO} (h : Lk H a l u) : Rd H a u := by
  unfold Lk at h
  split at h
  · exact .inr h
  · exact .inl h
theorem dictOf_ok {K : PySem.W.Frag} {ρ : List Addr} {μ : Mem} {H : Hp} {d : D} {v : V} {kds : List (Key × D)} (rel : Rel K ρ μ H) (dv : DV K ρ H d v) (h : dictOf μ d = some kds) :
    ∃ n a kvs, d = .loc n ∧ ρ[n]? = some a ∧ v = .ref a ∧ μ.cells[n]? = some (.dK kds) ∧ Lk H a (μ.lkd n) (.dK kvs) ∧ KDs K ρ H kds kvs := by
  cases d with
  | loc n =>
    simp only [DV] at dv
    obtain ⟨a, h1, e⟩ := dv
    simp only [dictOf] at h
    split at h
    · rename_i es hc
      have := Option.some.inj h
      subst this
      obtain ⟨kvs, h2, h3⟩ := rel.cell n a _ h1 hc
      exact ⟨n, a, kvs, rfl, h1, e, hc, h2, h3⟩
    · cases h
  | _ => simp [dictOf] at h
def dfind (μ : Mem) (d k : D) : Option (Option D) := (dictOf μ d).bind fun kds => (keyOf k).map fun k => kget kds k
theorem dfind_ok {K : PySem.W.Frag} {ρ : List Addr} {μ : Mem} {H : Hp} {d k : D} {x y : V} {o : Option D} (rel : Rel K ρ μ H) (dx : DV K ρ H d x) (dy : DV K ρ H k y) (h : dfind μ d k = some o) :
    ∃ a ov, x = .ref a ∧ DGet H a y ov ∧ (∀ r, o = some r → ∃ v, ov = some v ∧ DV K ρ H r v) ∧ (o = none → ov = none) := by
  unfold dfind at h
  cases h1 : dictOf μ d with
  | none => rw [h1] at h; cases h
  | some kds =>
    rw [h1] at h
    obtain ⟨key, h2, h3⟩ := Option.map_eq_some_iff.mp h
    obtain ⟨n, a, kvs, rfl, r1, rfl, r2, r3, r4⟩ := dictOf_ok rel dx h1
    refine ⟨a, valV kvs key, rfl, .inl ⟨kvs, key, lk_rd r3, keyOf_ok h2 dy, rfl⟩, fun r e => ?_, fun e => ?_⟩
    · exact (KDs.val r4).1 r (h3.trans e)
    · exact (KDs.val r4).2 (h3.trans e)
abbrev Hu (X : Cx) : Prop := X.A.units + 100 < cLine
theorem Hu.h1 {X : Cx} (h : Hu X) : X.A.units + 1 < cLine := Nat.lt_of_le_of_lt (by omega) h
theorem Hu.h64 {X : Cx} (h : Hu X) : X.A.units + 64 < cLine := Nat.lt_of_le_of_lt (by omega) h
theorem Hu.h65 {X : Cx} (h : Hu X) : X.A.units + 65 < cLine := Nat.lt_of_le_of_lt (by omega) h
theorem Hu.of {X : Cx} {k : Nat} (h : Room k X.A) : Hu X := by have := h.un; unfold Hu; omega
def rInDict : R2 := fun y x H Q => ∃ a o, x = .ref a ∧ DGet H a y o ∧ Q (.bl o.isSome) H
def rNotInDict : R2 := fun y x H Q => ∃ a o, x = .ref a ∧ DGet H a y o ∧ Q (.bl (!o.isSome)) H
theorem op_inDict {X : Cx} (hu : Hu X) : OpR X (compareOp .In) rInDict := by
  intro pins s σ H x y v u Q I rx ry h
  obtain ⟨a, o, rfl, g, q⟩ := h
  cases ry
  exact d_in hu.h1 I g rx fun s3 I3 => ⟨.bl o.isSome, H, I3, rfl, q⟩
theorem op_notInDict {X : Cx} (hu : Hu X) : OpR X (compareOp .NotIn) rNotInDict := by
  intro pins s σ H x y v u Q I rx ry h
  obtain ⟨a, o, rfl, g, q⟩ := h
  cases ry
  exact d_notIn hu.h1 I g rx fun s3 I3 => ⟨.bl (!o.isSome), H, I3, rfl, q⟩
def rInStr : R2 := fun x y H Q => ∃ i j, x = .str i ∧ y = .str j ∧ Q (.bl (!(Builtin.Str.occurrences j i 0 j.length 1).isEmpty)) H
def rNotInStr : R2 := fun x y H Q => ∃ i j, x = .str i ∧ y = .str j ∧ Q (.bl (!(!(Builtin.Str.occurrences j i 0 j.length 1).isEmpty))) H
def rInSign : R2 := fun x y H Q => ∃ (c : Nat) (z : Str), x = .str ⟨#[c]⟩ ∧ y = .str z ∧ Q (.bl (decide (c ∈ z.cps.toList))) H
def rNotInSign : R2 := fun x y H Q => ∃ (c : Nat) (z : Str), x = .str ⟨#[c]⟩ ∧ y = .str z ∧ Q (.bl (!decide (c ∈ z.cps.toList))) H
def rInU (K : PySem.W.Frag) : R2 := fun x y H Q => rIn K false x y H Q ∨ rInD K x y H Q ∨ rInDict x y H Q ∨ rInSign x y H Q
def rNotInU (K : PySem.W.Frag) : R2 := fun x y H Q => rIn K true x y H Q ∨ rNotInD K x y H Q ∨ rNotInDict x y H Q ∨ rNotInSign x y H Q
theorem op_inU {X : Cx} (hu : Hu X) : OpR X (compareOp .In) (rInU X.K) := op_in_seq.or ((op_inD hu.h65).or ((op_inDict hu).or op_in_sign))
theorem op_notInU {X : Cx} (hu : Hu X) : OpR X (compareOp .NotIn) (rNotInU X.K) := op_notIn_seq.or ((op_notInD hu.h65).or ((op_notInDict hu).or op_notIn_sign))
def signIn : D → D → Option Bool
  | .str x, .str z => if x.cps.size = 1 then some (decide (x.cps.getD 0 0 ∈ z.cps.toList)) else none
  | _, _ => none
def seqOf (μ : Mem) : D → Option (List D)
  | .tup ds => some ds
  | d => lstOf μ d
def cIn (d e : D) (μ : Mem) : Res Bool := match signIn d e with
  | some b => .ok b μ
  | none => match dfind μ e d with
    | some o => .ok o.isSome μ
    | none => match seqOf μ e with
      | none => .bad
      | some ds => if (d.sc && ds.all D.sc) = true then .ok (ds.any fun z => D.eqv z d) μ else match rsv μ 8 d, rsv μ 8 e with
        | some p, some (.lst qs) => if (p.fits && (D.lst qs).fits) = true then .ok (qs.any fun z => D.eqv z p) μ else .bad
        | _, _ => .bad
def cNotIn (d e : D) (μ : Mem) : Res Bool := (cIn d e μ).bind fun b μ => .ok (!b) μ
theorem sc_flat {K : PySem.W.Frag} {ρ : List Addr} {H : Hp} {d : D} {v : V} (h : d.sc = true) (dv : DV K ρ H d v) : flatV v = true := by
  cases d <;> simp [D.sc] at h
  · rw [non_ok dv]; rfl
  · rw [bl_ok dv]; rfl
  · rw [int_ok dv]; rfl
  · rw [str_ok dv]; rfl
theorem sc_eqV {K : PySem.W.Frag} {ρ : List Addr} {H : Hp} {d e : D} {v u : V} (h : d.sc = true) (h' : e.sc = true) (dv : DV K ρ H d v) (du : DV K ρ H e u) : eqV v u = D.eqv d e := by
  cases d <;> simp [D.sc] at h <;> cases e <;> simp [D.sc] at h'
  all_goals
    first
      | rw [non_ok dv]
      | rw [bl_ok dv]
      | rw [int_ok dv]
      | rw [str_ok dv]
  all_goals
    first
      | rw [non_ok du]
      | rw [bl_ok du]
      | rw [int_ok du]
      | rw [str_ok du]
  all_goals simp [eqV, D.eqv]
theorem scs_flat {K : PySem.W.Frag} {ρ : List Addr} {H : Hp} : ∀ {ds : List D} {vs : List V}, ds.all D.sc = true → DVs K ρ H ds vs → vs.all flatV = true
  | [], vs, _, h => by simp only [DVs] at h; subst h; rfl
  | d :: ds, vs, hs, h => by
    simp only [DVs] at h
    obtain ⟨v, r, rfl, h1, h2⟩ := h
    simp only [List.all_cons, Bool.and_eq_true] at hs ⊢
    exact ⟨sc_flat hs.1 h1, scs_flat hs.2 h2⟩
theorem scs_in {K : PySem.W.Frag} {ρ : List Addr} {H : Hp} {d : D} {v : V} (hd : d.sc = true) (dv : DV K ρ H d v) : ∀ {ds : List D} {vs : List V}, ds.all D.sc = true → DVs K ρ H ds vs → inV v vs = ds.any fun z => D.eqv z d
  | [], vs, _, h => by simp only [DVs] at h; subst h; rfl
  | e :: ds, vs, hs, h => by
    simp only [DVs] at h
    obtain ⟨u, r, rfl, h1, h2⟩ := h
    simp only [List.all_cons, Bool.and_eq_true] at hs
    have ih := scs_in hd dv hs.2 h2
    unfold inV at ih ⊢
    simp only [List.any_cons]
    rw [sc_eqV hs.1 hd h1 dv, ih]
theorem pures_any {p : D} (hp : p.pure = true) : ∀ {qs : List D}, D.pures qs = true → ((toPys qs).any fun z => PyData.eqv z (toPy p)) = qs.any fun z => D.eqv z p
  | [], _ => rfl
  | q :: qs, h => by
    simp only [D.pures, Bool.and_eq_true] at h
    simp only [toPys, List.any_cons]
    rw [eqv_py q p h.1 hp, pures_any hp h.2]
theorem seqOf_ok {K : PySem.W.Frag} {ρ : List Addr} {μ : Mem} {H : Hp} {d : D} {v : V} {ds : List D} (rel : Rel K ρ μ H) (dv : DV K ρ H d v) (h : seqOf μ d = some ds) : ∃ a vs, v = .ref a ∧ (SqL K H a vs ∨ SqT K H a vs) ∧ DVs K ρ H ds vs := by
  cases d with
  | tup es =>
    have : es = ds := by simpa [seqOf] using h
    subst this
    obtain ⟨a, vs, e, h1, h2⟩ := tup_ok dv
    exact ⟨a, vs, e, .inr h1.sq, h2⟩
  | _ =>
    obtain ⟨a, vs, e, h1, h2⟩ := lstOf_ok rel dv h
    exact ⟨a, vs, e, .inl (rd_sq h1), h2⟩
theorem in_core {K : PySem.W.Frag} {ρ : List Addr} {μ : Mem} {H : Hp} {d e : D} {x y : V} {b : Bool} {μ' : Mem} (rel : Rel K ρ μ H) (dx : DV K ρ H d x) (dy : DV K ρ H e y) (h : cIn d e μ = .ok b μ') (Q : VK) :
    μ' = μ ∧ (Q (.bl b) H → rInU K x y H Q) ∧ (Q (.bl !b) H → rNotInU K x y H Q) := by
  unfold cIn at h
  split at h
  · rename_i b' hs
    have h' : b' = b ∧ μ = μ' := by simpa using h
    obtain ⟨rfl, rfl⟩ := h'
    have : ∃ (c : Nat) (z : Str), x = .str ⟨#[c]⟩ ∧ y = .str z ∧ decide (c ∈ z.cps.toList) = b' := by
      unfold signIn at hs
      split at hs
      · rename_i x' z'
        split at hs
        · rename_i h1
          obtain ⟨⟨l⟩⟩ := x'
          match l, h1 with
          | [c], _ =>
            refine ⟨c, z', str_ok dx, str_ok dy, ?_⟩
            simpa using hs
        · cases hs
      · cases hs
    obtain ⟨c, z, h1, h2, h3⟩ := this
    exact ⟨rfl, fun q => .inr (.inr (.inr ⟨c, z, h1, h2, by rw [h3]; exact q⟩)), fun q => .inr (.inr (.inr ⟨c, z, h1, h2, by rw [h3]; exact q⟩))⟩
  · split at h
    · rename_i o ho
      have h' : o.isSome = b ∧ μ = μ' := by simpa using h
      obtain ⟨rfl, rfl⟩ := h'
      obtain ⟨a, ov, h1, h2, h3, h4⟩ := dfind_ok rel dy dx ho
      have e : ov.isSome = o.isSome := by
        cases o with
        | none => rw [h4 rfl]; rfl
        | some r => obtain ⟨v, hv, _⟩ := h3 r rfl; rw [hv]; rfl
      exact ⟨rfl, fun q => .inr (.inr (.inl ⟨a, ov, h1, h2, by rw [e]; exact q⟩)), fun q => .inr (.inr (.inl ⟨a, ov, h1, h2, by rw [e]; exact q⟩))⟩
    · split at h
      · cases h
      · rename_i ds hq
        split at h
        · rename_i hs
          simp only [Bool.and_eq_true] at hs
          have h' : (ds.any fun z => D.eqv z d) = b ∧ μ = μ' := by simpa using h
          obtain ⟨hb, rfl⟩ := h'
          obtain ⟨a, vs, h1, h2, h3⟩ := seqOf_ok rel dy hq
          have ib : inV x vs = b := (scs_in hs.1 dx hs.2 h3).trans hb
          refine ⟨rfl, fun q => .inl ⟨a, vs, h1, h2, sc_flat hs.1 dx, scs_flat hs.2 h3, ?_⟩, fun q => .inl ⟨a, vs, h1, h2, sc_flat hs.1 dx, scs_flat hs.2 h3, ?_⟩⟩
          · simp only [Bool.false_eq_true, if_false]; rw [ib]; exact q
          · simp only [if_true]; rw [ib]; exact q
        · split at h
          · rename_i p qs hp hqs
            split at h
            · rename_i hf
              simp only [Bool.and_eq_true] at hf
              have h' : (qs.any fun z => D.eqv z p) = b ∧ μ = μ' := by simpa using h
              obtain ⟨hb, rfl⟩ := h'
              have h1 := rsv_dp rel 8 d p x hp dx
              have h2 := rsv_dp rel 8 e _ y hqs dy
              have pq : D.pures qs = true := by simpa [D.pure] using rsv_pure 8 e _ hqs
              have e2 := (pures_any (rsv_pure 8 d p hp) pq).trans hb
              simp only [toPy] at h2
              have hf2 : SeqAt.shaped (.list (toPys qs)) = true := by
                have := hf.2
                unfold D.fits at this
                simpa only [toPy] using this
              exact ⟨rfl, fun q => .inr (.inl ⟨_, _, h1, h2, hf.1, hf2, by rw [e2]; exact q⟩), fun q => .inr (.inl ⟨_, _, h1, h2, hf.1, hf2, by rw [e2]; exact q⟩)⟩
            · cases h
          · cases h
theorem cIn_noerr {d e : D} {μ : Mem} {C : Addr} {w : D} {μ' : Mem} : cIn d e μ ≠ .err C w μ' := by
  unfold cIn
  repeat (first | split | exact fun h => nomatch h)
theorem cm_in {K : PySem.W.Frag} : CmpM K (rInU K) cIn := by
  intro d e ρ μ H x y Q E rel dx dy ok
  cases h : cIn d e μ with
  | ok b μ' =>
    rw [h] at ok
    obtain ⟨rfl, hc, _⟩ := in_core rel dx dy h Q
    exact hc (ok.now rel rfl)
  | err C w μ' => exact absurd h cIn_noerr
  | bad => rw [h] at ok; exact ok.elim
theorem cm_notIn {K : PySem.W.Frag} : CmpM K (rNotInU K) cNotIn := by
  intro d e ρ μ H x y Q E rel dx dy ok
  unfold cNotIn at ok
  cases h : cIn d e μ with
  | ok b μ' =>
    rw [h] at ok
    obtain ⟨rfl, _, hc⟩ := in_core rel dx dy h Q
    exact hc (Okr.now (b := V.bl !b) ok rel rfl)
  | err C w μ' => exact absurd h cIn_noerr
  | bad => rw [h] at ok; exact ok.elim
def rIxDict : R2 := fun x y H Q => ∃ a v, x = .ref a ∧ DGet H a y (some v) ∧ Q v H
theorem ix_dict {X : Cx} (hu : Hu X) : IxR X rIxDict := by
  intro value slice pins s σ H x y v u Q I rx ry h hs
  obtain ⟨a, r, rfl, g, q⟩ := h
  cases rx
  exact PyProof.Rows.tail_any (dict_typeIs I g) PySem.F.slot_dict_getitem.lookup (d_getItem hu.h1 I g ry fun w' s3 I3 rw' => ⟨r, H, I3, rw', q⟩) hs
def rIxU (K : PySem.W.Frag) : R2 := fun x y H Q => rIx K x y H Q ∨ rIxDict x y H Q
theorem ix_U {X : Cx} (hu : Hu X) : IxR X (rIxU X.K) := ix_seq.or (ix_dict hu)
def fIx (d e : D) (μ : Mem) : Res D := match dfind μ d e with
  | some (some r) => .ok r μ
  | some none => .bad
  | none => match e with
    | .int i => match d with
      | .str x => if x.length ≤ sizeLine then match atI x.cps.toList i with
          | some c => .ok (.str ⟨#[c]⟩) μ
          | none => .bad
        else .bad
      | d => match (seqOf μ d).bind fun ds => atI ds i with
        | some r => .ok r μ
        | none => .bad
    | _ => .bad
theorem atI_DVs {K : PySem.W.Frag} {ρ : List Addr} {H : Hp} {ds : List D} {vs : List V} {i : Int} {r : D} (h : DVs K ρ H ds vs) (e : atI ds i = some r) : ∃ v, atI vs i = some v ∧ DV K ρ H r v := by
  unfold atI at e ⊢
  rw [← h.length]
  cases q : ixN ds.length i with
  | none => rw [q] at e; cases e
  | some j =>
    rw [q] at e
    exact h.get e
theorem opM_ix {K : PySem.W.Frag} : OpM K (rIxU K) fIx := by
  intro d e ρ μ H x y Q E rel dx dy ok
  unfold fIx at ok
  split at ok
  · rename_i r hr
    obtain ⟨a, ov, h1, h2, h3, _⟩ := dfind_ok rel dx dy hr
    obtain ⟨v, rfl, dv⟩ := h3 r rfl
    exact .inr ⟨a, v, h1, h2, ok.now rel dv⟩
  · exact ok.elim
  · split at ok
    · rename_i i _
      split at ok
      · rename_i z _
        split at ok
        · rename_i hz
          split at ok
          · rename_i c hc
            exact .inl (.inr (.inr ⟨z, i, c, str_ok dx, int_ok dy, hz, hc, ok.now rel dv_str⟩))
          · exact ok.elim
        · exact ok.elim
      · split at ok
        · rename_i r hr
          obtain ⟨ds, h1, h2⟩ := Option.bind_eq_some_iff.mp hr
          obtain ⟨a, vs, e1, e2, e3⟩ := seqOf_ok rel dx h1
          obtain ⟨v, e4, dv⟩ := atI_DVs e3 h2
          rcases e2 with e2 | e2
          · exact .inl (.inl ⟨a, vs, i, v, e1, int_ok dy, e2, e4, ok.now rel dv⟩)
          · exact .inl (.inr (.inl ⟨a, vs, i, v, e1, int_ok dy, e2, e4, ok.now rel dv⟩))
        · exact ok.elim
    · exact ok.elim
section
variable {X : Cx} {hx : Option HX} {W : WX} {pos : Pos} {a b : Expr} {ma mb : ME}
theorem re_ix (hu : Hu X) (ha : RE X hx W a ma) (hb : RE X hx W b mb) (hs : PlainIx b := by exact fun _ _ => rfl) : RE X hx W (.Subscript a b pos) (mop fIx ma mb) := by
  obtain ⟨ta, pa, ra⟩ := ha.ex
  obtain ⟨tb, pb, rb⟩ := hb.ex
  exact ⟨⟨_, pe_ix (ix_U hu) pa pb hs, Ref.two stay_DV ra rb fun d e ρ μ δ σ H x y Q rel env dx dy ok => opM_ix d e ρ μ H x y Q _ rel dx dy ok⟩⟩
end
end Doz
end
section
namespace Doz
open PySem L2
def mtup (m : MX (List D)) : ME := bindM m fun ds => fun _ μ => if ds.length ≤ sizeLine then .ok (.tup ds) μ else .bad
def mlst (m : MX (List D)) : MX (List D) := bindM m fun ds => fun _ μ => if ds.length ≤ sizeLine then .ok ds μ else .bad
section
variable {X : Cx} {hx : Option HX} {W : WX} {pos : Pos} {es : List Expr} {m : MX (List D)}
theorem re_tup {k : Nat} (h : RA X hx W es m) : RE X hx W (.Tuple es k pos) (mtup m) := by
  obtain ⟨t, p, r⟩ := h.ex
  refine ⟨⟨_, pe_tup p, fun ρ0 μ0 δ σ H0 Q rel0 env0 ok0 => r ρ0 μ0 δ σ H0 _ rel0 env0 (Okr.bind ok0 fun ds μ ρ H vs pr fz rel dv ok => ?_)⟩⟩
  dsimp only at ok
  split at ok
  · rename_i hl
    exact ⟨by rw [← dv.length]; exact hl, fun q hq => okr_tup rel hq dv ok⟩
  · exact ok.elim
theorem rn_lst (h : RA X hx W es m) : RN X hx W (.List es pos) (mlst m) := by
  obtain ⟨t, p, r⟩ := h.ex
  refine ⟨⟨_, pe_lst p, fun ρ0 μ0 δ σ H0 Q rel0 env0 ok0 => r ρ0 μ0 δ σ H0 _ rel0 env0 (OkN.bind ok0 fun ds μ ρ H vs pr fz rel dv ok => ?_)⟩⟩
  dsimp only at ok
  split at ok
  · rename_i hl
    exact ⟨by rw [← dv.length]; exact hl, fun q hq => OkN.new rel hq dv ok⟩
  · exact ok.elim
end
def cutD {α : Type} (xs : List α) (lo hi : Option Int) : List α := (xs.drop (HT.sIx xs.length 0 lo)).take (HT.sIx xs.length xs.length hi - HT.sIx xs.length 0 lo)
theorem cutD_DVs {K : PySem.W.Frag} {ρ : List Addr} {H : Hp} {ds : List D} {vs : List V} (lo hi : Option Int) (h : DVs K ρ H ds vs) : DVs K ρ H (cutD ds lo hi) (cutV vs lo hi) := by
  unfold cutD cutV
  rw [← h.length]
  exact (h.drop _).take _
structure RO (X : Cx) (hx : Option HX) (W : WX) (e : Option Expr) (m : MX (Option Int)) : Prop where
  ex : ∃ t : TO, PO X e t ∧ Ref X.K hx W (fun _ _ a b => a = b) t m
def mpart (m : ME) : MX (Option Int) := bindM m fun d => fun _ μ => match d with
  | .int i => .ok (some i) μ
  | _ => .bad
def mnopart : MX (Option Int) := fun _ μ => .ok none μ
theorem ro_none {X : Cx} {hx : Option HX} {W : WX} : RO X hx W none mnopart := ⟨⟨_, po_none, fun ρ μ δ σ H Q rel env ok => Okr.now (b := (none : Option Int)) ok rel rfl⟩⟩
theorem ro_some {X : Cx} {hx : Option HX} {W : WX} {e : Expr} {m : ME} (h : RE X hx W e m) : RO X hx W (some e) (mpart m) := by
  obtain ⟨t, p, r⟩ := h.ex
  refine ⟨⟨_, po_some p, fun ρ0 μ0 δ σ H0 Q rel0 env0 ok0 => r ρ0 μ0 δ σ H0 _ rel0 env0 (Okr.bind ok0 fun d μ ρ H v pr fz rel dv ok => ?_)⟩⟩
  cases d with
  | int i => exact ⟨i, int_ok dv, Okr.now (b := some i) ok rel rfl⟩
  | _ => exact ok.elim
def rSlU (K : PySem.W.Frag) : V → Option Int → Option Int → Hp → VK → Prop := fun x lo hi H Q => rSlL K x lo hi H Q ∨ rSlA K x lo hi H Q ∨ rSlS x lo hi H Q
theorem sl_U {X : Cx} : SlR X (rSlU X.K) := sl_list.or (sl_tupA.or sl_str)
def fSl (x : D) (lo hi : Option Int) (μ : Mem) : Res D := match x with
  | .str z => if z.length ≤ sizeLine then .ok (.str (cutS z lo hi)) μ else .bad
  | .tup ds => .ok (.tup (cutD ds lo hi)) μ
  | d => match lstOf μ d with
    | some ds => .ok (.lst (cutD ds lo hi)) μ
    | none => .bad
def mslice (f : D → Option Int → Option Int → Mem → Res D) (a : ME) (l u : MX (Option Int)) : ME := bindM a fun x => bindM l fun lo => bindM u fun hi => fun _ μ => f x lo hi μ
theorem Ref.three {α1 β1 α2 β2 α3 β3 γ ζ : Type} {K : PySem.W.Frag} {hx : Option HX} {W : WX} {R1 : Rl α1 β1} {R2 : Rl α2 β2} {R3 : Rl α3 β3} {R' : Rl γ ζ} {t1 : TX β1} {t2 : TX β2} {t3 : TX β3} {m1 : MX α1} {m2 : MX α2} {m3 : MX α3}
    {k : β1 → β2 → β3 → St → Hp → (ζ → Hp → Prop) → Prop} {f : α1 → α2 → α3 → MX γ} (s1 : Stay R1) (s2 : Stay R2) (h1 : Ref K hx W R1 t1 m1) (h2 : Ref K hx W R2 t2 m2) (h3 : Ref K hx W R3 t3 m3)
    (hk : ∀ a1 a2 a3 ρ μ δ σ H b1 b2 b3 (Q : ζ → Hp → Prop), Rel K ρ μ H → EnvR K ρ H hx δ σ → R1 ρ H a1 b1 → R2 ρ H a2 b2 → R3 ρ H a3 b3 → Okr K R' ρ H (f a1 a2 a3 δ μ) Q (fun c d H' => W c d σ H') → k b1 b2 b3 σ H Q) :
    Ref K hx W R' (fun σ H Q => t1 σ H fun b1 H1 => t2 σ H1 fun b2 H2 => t3 σ H2 fun b3 H3 => k b1 b2 b3 σ H3 Q) (bindM m1 fun a1 => bindM m2 fun a2 => bindM m3 fun a3 => f a1 a2 a3) := by
  intro ρ0 μ0 δ σ H0 Q rel0 env0 ok0
  refine h1 ρ0 μ0 δ σ H0 _ rel0 env0 (Okr.bind ok0 fun a1 μ1 ρ1 H1 b1 p1 f1 rel1 r1 ok1 => ?_)
  refine h2 ρ1 μ1 δ σ H1 _ rel1 (env0.mono p1 f1) (Okr.bind ok1 fun a2 μ2 ρ2 H2 b2 p2 f2 rel2 r2 ok2 => ?_)
  refine h3 ρ2 μ2 δ σ H2 _ rel2 ((env0.mono p1 f1).mono p2 f2) (Okr.bind ok2 fun a3 μ3 ρ3 H3 b3 p3 f3 rel3 r3 ok3 => ?_)
  exact hk a1 a2 a3 ρ3 μ3 δ σ H3 b1 b2 b3 Q rel3 (((env0.mono p1 f1).mono p2 f2).mono p3 f3) (s1 _ _ _ _ _ _ (p2.trans p3) (f2.trans f3) r1) (s2 _ _ _ _ _ _ p3 f3 r2) r3 ok3
theorem RefN.three {α1 β1 α2 β2 α3 β3 : Type} {K : PySem.W.Frag} {hx : Option HX} {W : WX} {R1 : Rl α1 β1} {R2 : Rl α2 β2} {R3 : Rl α3 β3} {t1 : TX β1} {t2 : TX β2} {t3 : TX β3} {m1 : MX α1} {m2 : MX α2} {m3 : MX α3}
    {k : β1 → β2 → β3 → St → Hp → VK → Prop} {f : α1 → α2 → α3 → MX (List D)} (s1 : Stay R1) (s2 : Stay R2) (h1 : Ref K hx W R1 t1 m1) (h2 : Ref K hx W R2 t2 m2) (h3 : Ref K hx W R3 t3 m3)
    (hk : ∀ a1 a2 a3 ρ μ δ σ H b1 b2 b3 (Q : VK), Rel K ρ μ H → EnvR K ρ H hx δ σ → R1 ρ H a1 b1 → R2 ρ H a2 b2 → R3 ρ H a3 b3 → OkN K ρ H (f a1 a2 a3 δ μ) Q (fun c d H' => W c d σ H') → k b1 b2 b3 σ H Q) :
    RefN K hx W (fun σ H Q => t1 σ H fun b1 H1 => t2 σ H1 fun b2 H2 => t3 σ H2 fun b3 H3 => k b1 b2 b3 σ H3 Q) (bindM m1 fun a1 => bindM m2 fun a2 => bindM m3 fun a3 => f a1 a2 a3) := by
  intro ρ0 μ0 δ σ H0 Q rel0 env0 ok0
  refine h1 ρ0 μ0 δ σ H0 _ rel0 env0 (OkN.bind ok0 fun a1 μ1 ρ1 H1 b1 p1 f1 rel1 r1 ok1 => ?_)
  refine h2 ρ1 μ1 δ σ H1 _ rel1 (env0.mono p1 f1) (OkN.bind ok1 fun a2 μ2 ρ2 H2 b2 p2 f2 rel2 r2 ok2 => ?_)
  refine h3 ρ2 μ2 δ σ H2 _ rel2 ((env0.mono p1 f1).mono p2 f2) (OkN.bind ok2 fun a3 μ3 ρ3 H3 b3 p3 f3 rel3 r3 ok3 => ?_)
  exact hk a1 a2 a3 ρ3 μ3 δ σ H3 b1 b2 b3 Q rel3 (((env0.mono p1 f1).mono p2 f2).mono p3 f3) (s1 _ _ _ _ _ _ (p2.trans p3) (f2.trans f3) r1) (s2 _ _ _ _ _ _ p3 f3 r2) r3 ok3
theorem stay_eq {α : Type} : Stay (fun (_ : List Addr) (_ : Hp) (a b : α) => a = b) := fun _ _ _ _ _ _ _ _ h => h
section
variable {X : Cx} {hx : Option HX} {W : WX} {pos p2 : Pos} {a : Expr} {lo hi : Option Expr} {ma : ME} {ml mu : MX (Option Int)}
theorem re_slice (ha : RE X hx W a ma) (hl : RO X hx W lo ml) (hh : RO X hx W hi mu) : RE X hx W (.Subscript a (.Slice lo hi none p2) pos) (mslice fSl ma ml mu) := by
  obtain ⟨ta, pa, ra⟩ := ha.ex
  obtain ⟨tl, pl, rl⟩ := hl.ex
  obtain ⟨th, ph, rh⟩ := hh.ex
  refine ⟨⟨_, pe_fzo (pe_slice sl_U pa pl ph), Ref.three (k := fun x l u σ H Q => rSlU X.K x l u H (Frzn Q)) stay_DV stay_eq ra rl rh fun d l u ρ μ δ σ H x l' u' Q rel env dx el eu ok => ?_⟩⟩
  subst el eu
  unfold fSl at ok
  split at ok
  · split at ok
    · rename_i hz
      exact .inr (.inr ⟨_, str_ok dx, hz, .inl (ok.now rel dv_str)⟩)
    · exact ok.elim
  · obtain ⟨b, vs, e1, e2, e3⟩ := tup_ok dx
    refine .inr (.inl ⟨b, vs, e1, e2.sq, fun hw => ?_, fun hw p hp => .inl (okr_tup rel hp (cutD_DVs l u e3) ok)⟩)
    rename_i ds
    have e : cutD ds l u = ds := by
      unfold cutD
      rw [e3.length, hw.1, hw.2]
      simp [← e3.length]
    rw [e] at ok
    rw [← e1]
    exact .inl (ok.now rel dx)
  · split at ok
    · rename_i ds hd
      obtain ⟨b, vs, e1, e2, e3⟩ := lstOf_ok rel dx hd
      exact .inl ⟨b, vs, e1, rd_sq e2, fun p hp => okr_new rel hp (cutD_DVs l u e3) ok⟩
    · exact ok.elim
def msliceN (a : ME) (l u : MX (Option Int)) : MX (List D) := bindM a fun x => bindM l fun lo => bindM u fun hi => fun _ μ => match lstOf μ x with
  | some ds => .ok (cutD ds lo hi) μ
  | none => .bad
theorem rn_slice (ha : RE X hx W a ma) (hl : RO X hx W lo ml) (hh : RO X hx W hi mu) : RN X hx W (.Subscript a (.Slice lo hi none p2) pos) (msliceN ma ml mu) := by
  obtain ⟨ta, pa, ra⟩ := ha.ex
  obtain ⟨tl, pl, rl⟩ := hl.ex
  obtain ⟨th, ph, rh⟩ := hh.ex
  refine ⟨⟨_, pe_slice sl_list pa pl ph, RefN.three (k := fun x l u σ H Q => rSlL X.K x l u H Q) stay_DV stay_eq ra rl rh fun d l u ρ μ δ σ H x l' u' Q rel env dx el eu ok => ?_⟩⟩
  subst el eu
  split at ok
  · rename_i ds hd
    obtain ⟨b, vs, e1, e2, e3⟩ := lstOf_ok rel dx hd
    exact ⟨b, vs, e1, rd_sq e2, fun p hp => OkN.new rel hp (cutD_DVs l u e3) ok⟩
  · exact ok.elim
end
def CallF (K : PySem.W.Frag) (r : List V → Hp → VK → Prop) (f : List D → Mem → Res D) : Prop :=
  ∀ ds ρ μ H xs (Q : VK) (E : XK), Rel K ρ μ H → DVs K ρ H ds xs → Okr K (DV K) ρ H (f ds μ) Q E → r xs H (Frzn Q)
def CallN (K : PySem.W.Frag) (r : List V → Hp → VK → Prop) (f : List D → Mem → Res (List D)) : Prop :=
  ∀ ds ρ μ H xs (Q : VK) (E : XK), Rel K ρ μ H → DVs K ρ H ds xs → OkN K ρ H (f ds μ) Q E → r xs H Q
def mcall {α : Type} (f : List D → Mem → Res α) (m : MX (List D)) : MX α := bindM m fun ds => fun _ μ => f ds μ
section
variable {X : Cx} {hx : Option HX} {W : WX} {x : Str} {p pos : Pos} {e : Expr} {es : List Expr} {m : MX (List D)} {id T : String} {r : List V → Hp → VK → Prop}
theorem re_callB {f : List D → Mem → Res D} (hc : CallR X (.builtin id) r) (cf : CallF X.K r f) (hm : X.mg x = none) (hv : bootBuiltins x = some (.builtin id)) (ha : RA X hx W (e :: es) m) (hg : Gl X x := by rfl) (hn : x ≠ "__name__" := by decide) (hdb : (x == ("__debug__" : Str)) = false := by decide)
    (he : starEach (e :: es) X.env = (false, eval e X.env) :: starEach es X.env := by rfl) (hpl : (backTo pos (starEach es X.env)).any (·.1) = false := by rfl) : RE X hx W (.Call (.Name x p) (e :: es) [] pos) (mcall f m) := by
  obtain ⟨t, pt, rt⟩ := ha.ex
  exact ⟨⟨_, pe_fzo (pe_callB hc hg hm hv pt hn hdb he hpl), fun ρ0 μ0 δ σ H0 Q rel0 env0 ok0 => rt ρ0 μ0 δ σ H0 _ rel0 env0 (Okr.bind ok0 fun ds μ ρ H vs pr fz rel dv ok => cf ds ρ μ H vs Q _ rel dv ok)⟩⟩
theorem re_callT {f : List D → Mem → Res D} (hc : CallR X (.type T) r) (cf : CallF X.K r f) (hm : X.mg x = none) (hv : bootBuiltins x = some (.type T)) (ha : RA X hx W (e :: es) m) (hg : Gl X x := by rfl) (hn : x ≠ "__name__" := by decide) (hdb : (x == ("__debug__" : Str)) = false := by decide)
    (he : starEach (e :: es) X.env = (false, eval e X.env) :: starEach es X.env := by rfl) (hpl : (backTo pos (starEach es X.env)).any (·.1) = false := by rfl) : RE X hx W (.Call (.Name x p) (e :: es) [] pos) (mcall f m) := by
  obtain ⟨t, pt, rt⟩ := ha.ex
  exact ⟨⟨_, pe_fzo (pe_callTy hc hg hm hv pt hn hdb he hpl), fun ρ0 μ0 δ σ H0 Q rel0 env0 ok0 => rt ρ0 μ0 δ σ H0 _ rel0 env0 (Okr.bind ok0 fun ds μ ρ H vs pr fz rel dv ok => cf ds ρ μ H vs Q _ rel dv ok)⟩⟩
theorem rn_callB {f : List D → Mem → Res (List D)} (hc : CallR X (.builtin id) r) (cf : CallN X.K r f) (hm : X.mg x = none) (hv : bootBuiltins x = some (.builtin id)) (ha : RA X hx W (e :: es) m) (hg : Gl X x := by rfl) (hn : x ≠ "__name__" := by decide) (hdb : (x == ("__debug__" : Str)) = false := by decide)
    (he : starEach (e :: es) X.env = (false, eval e X.env) :: starEach es X.env := by rfl) (hpl : (backTo pos (starEach es X.env)).any (·.1) = false := by rfl) : RN X hx W (.Call (.Name x p) (e :: es) [] pos) (mcall f m) := by
  obtain ⟨t, pt, rt⟩ := ha.ex
  exact ⟨⟨_, pe_callB hc hg hm hv pt hn hdb he hpl, fun ρ0 μ0 δ σ H0 Q rel0 env0 ok0 => rt ρ0 μ0 δ σ H0 _ rel0 env0 (OkN.bind ok0 fun ds μ ρ H vs pr fz rel dv ok => cf ds ρ μ H vs Q _ rel dv ok)⟩⟩
theorem rn_callT {f : List D → Mem → Res (List D)} (hc : CallR X (.type T) r) (cf : CallN X.K r f) (hm : X.mg x = none) (hv : bootBuiltins x = some (.type T)) (ha : RA X hx W (e :: es) m) (hg : Gl X x := by rfl) (hn : x ≠ "__name__" := by decide) (hdb : (x == ("__debug__" : Str)) = false := by decide)
    (he : starEach (e :: es) X.env = (false, eval e X.env) :: starEach es X.env := by rfl) (hpl : (backTo pos (starEach es X.env)).any (·.1) = false := by rfl) : RN X hx W (.Call (.Name x p) (e :: es) [] pos) (mcall f m) := by
  obtain ⟨t, pt, rt⟩ := ha.ex
  exact ⟨⟨_, pe_callTy hc hg hm hv pt hn hdb he hpl, fun ρ0 μ0 δ σ H0 Q rel0 env0 ok0 => rt ρ0 μ0 δ σ H0 _ rel0 env0 (OkN.bind ok0 fun ds μ ρ H vs pr fz rel dv ok => cf ds ρ μ H vs Q _ rel dv ok)⟩⟩
end
section
variable {K : PySem.W.Frag} {ρ : List Addr} {H : Hp}
theorem DVs.one {d : D} {xs : List V} (h : DVs K ρ H [d] xs) : ∃ v, xs = [v] ∧ DV K ρ H d v := by
  simp only [DVs] at h
  obtain ⟨v, r, rfl, h1, rfl⟩ := h
  exact ⟨v, rfl, h1⟩
theorem DVs.two {d e : D} {xs : List V} (h : DVs K ρ H [d, e] xs) : ∃ v u, xs = [v, u] ∧ DV K ρ H d v ∧ DV K ρ H e u := by
  simp only [DVs] at h
  obtain ⟨v, r, rfl, h1, u, r2, rfl, h2, rfl⟩ := h
  exact ⟨v, u, rfl, h1, h2⟩
end
def fLen (ds : List D) (μ : Mem) : Res D := match ds with
  | [.str z] => if z.length ≤ sizeLine then .ok (.int z.length) μ else .bad
  | [d] => match seqOf μ d with
    | some xs => .ok (.int xs.length) μ
    | none => match dictOf μ d with
      | some kds => .ok (.int kds.length) μ
      | none => .bad
  | _ => .bad
theorem call_lenDR {X : Cx} : CallR X (.builtin "len") (fun xs H Q => ∃ a kvs, xs = [V.ref a] ∧ Rd H a (.dK kvs) ∧ Q (.int kvs.length) H) := by
  intro pins s σ H xs us Q I r h
  obtain ⟨a, kvs, rfl, hd, q⟩ := h
  obtain ⟨u, rfl, ru⟩ := vals1 r
  cases ru
  exact d_len I hd fun t s' I' => ⟨.int kvs.length, H, I', ⟨t, rfl⟩, q⟩
def rLenU (K : PySem.W.Frag) : List V → Hp → VK → Prop := fun xs H Q => (∃ x n, xs = [x] ∧ LenV K x H n ∧ Q (.int (n : Nat)) H) ∨ ∃ a kvs, xs = [V.ref a] ∧ Rd H a (.dK kvs) ∧ Q (.int kvs.length) H
theorem call_lenU {X : Cx} : CallR X (.builtin "len") (rLenU X.K) := call_len.or call_lenDR
theorem cf_len {K : PySem.W.Frag} : CallF K (rLenU K) fLen := by
  intro ds ρ μ H xs Q E rel dv ok
  unfold fLen at ok
  split at ok
  · split at ok
    · rename_i hz
      obtain ⟨v, rfl, h⟩ := dv.one
      exact .inl ⟨_, _, rfl, by rw [str_ok h]; exact ⟨hz, rfl⟩, .inl (ok.now rel dv_int)⟩
    · exact ok.elim
  · obtain ⟨v, rfl, h⟩ := dv.one
    split at ok
    · rename_i xs hx
      obtain ⟨a, vs, rfl, e2, e3⟩ := seqOf_ok rel h hx
      refine .inl ⟨_, vs.length, rfl, ?_, .inl (by rw [← e3.length]; exact ok.now rel dv_int)⟩
      rcases e2 with e2 | e2
      · exact .inl ⟨vs, e2, rfl⟩
      · exact .inr ⟨vs, e2, rfl⟩
    · split at ok
      · rename_i kds hk
        obtain ⟨n, a, kvs, _, _, rfl, _, r3, r4⟩ := dictOf_ok rel h hk
        exact .inr ⟨a, kvs, rfl, lk_rd r3, .inl (by rw [← KDs.length r4]; exact ok.now rel dv_int)⟩
      · exact ok.elim
  · exact ok.elim
def fIntC (ds : List D) (μ : Mem) : Res D := match ds with
  | [.int i] => .ok (.int i) μ
  | [.bl k] => .ok (.int (if k then 1 else 0)) μ
  | [.str a] => match PySem.intText? a with
    | some n => if a.length ≤ 640 then .ok (.int n) μ else .bad
    | none => .bad
  | _ => .bad
def rIntU : List V → Hp → VK → Prop := fun xs H Q => ((∃ i, xs = [.int i] ∧ Q (.int i) H) ∨ ∃ k, xs = [.bl k] ∧ Q (.int (if k then 1 else 0)) H) ∨ ∃ a n, xs = [.str a] ∧ PySem.intText? a = some n ∧ a.length ≤ 640 ∧ Q (.int n) H
theorem call_intU {X : Cx} : CallR X (.type "int") rIntU := call_int1.or call_int_str
theorem cf_int {K : PySem.W.Frag} : CallF K rIntU fIntC := by
  intro ds ρ μ H xs Q E rel dv ok
  unfold fIntC at ok
  split at ok
  · obtain ⟨v, rfl, h⟩ := dv.one
    exact .inl (.inl ⟨_, by rw [int_ok h], .inl (ok.now rel dv_int)⟩)
  · obtain ⟨v, rfl, h⟩ := dv.one
    exact .inl (.inr ⟨_, by rw [bl_ok h], .inl (ok.now rel dv_int)⟩)
  · obtain ⟨v, rfl, h⟩ := dv.one
    split at ok
    · rename_i n hn
      split at ok
      · rename_i hl
        exact .inr ⟨_, n, by rw [str_ok h], hn, hl, .inl (ok.now rel dv_int)⟩
      · exact ok.elim
    · exact ok.elim
  · exact ok.elim
def fStrC (ds : List D) (μ : Mem) : Res D := match ds with
  | [.int i] => if i.natAbs.log2 < 1920 then .ok (.str (toString i)) μ else .bad
  | [.str a] => .ok (.str a) μ
  | _ => .bad
def rStrU : List V → Hp → VK → Prop := fun xs H Q => (∃ i, xs = [.int i] ∧ i.natAbs.log2 < 1920 ∧ Q (.str (toString i)) H) ∨ ∃ a, xs = [.str a] ∧ Q (.str a) H
theorem call_strU {X : Cx} : CallR X (.type "str") rStrU := call_str_int.or SkE.call_str_str
theorem cf_str {K : PySem.W.Frag} : CallF K rStrU fStrC := by
  intro ds ρ μ H xs Q E rel dv ok
  unfold fStrC at ok
  split at ok
  · obtain ⟨v, rfl, h⟩ := dv.one
    split at ok
    · rename_i hl
      exact .inl ⟨_, by rw [int_ok h], hl, .inl (ok.now rel dv_str)⟩
    · exact ok.elim
  · obtain ⟨v, rfl, h⟩ := dv.one
    exact .inr ⟨_, by rw [str_ok h], .inl (ok.now rel dv_str)⟩
  · exact ok.elim
def fMax (ds : List D) (μ : Mem) : Res D := match ds with
  | [.int i, .int j] => .ok (.int (if j > i then j else i)) μ
  | _ => .bad
def fMin (ds : List D) (μ : Mem) : Res D := match ds with
  | [.int i, .int j] => .ok (.int (if j < i then j else i)) μ
  | _ => .bad
def fAbs (ds : List D) (μ : Mem) : Res D := match ds with
  | [.int i] => .ok (.int (if i < 0 then -i else i)) μ
  | _ => .bad
theorem cf_max {K : PySem.W.Frag} : CallF K (fun xs H Q => ∃ i j, xs = [.int i, .int j] ∧ Q (.int (if j > i then j else i)) H) fMax := by
  intro ds ρ μ H xs Q E rel dv ok
  unfold fMax at ok
  split at ok
  · obtain ⟨v, u, rfl, h1, h2⟩ := dv.two
    exact ⟨_, _, by rw [int_ok h1, int_ok h2], .inl (ok.now rel dv_int)⟩
  · exact ok.elim
theorem cf_min {K : PySem.W.Frag} : CallF K (fun xs H Q => ∃ i j, xs = [.int i, .int j] ∧ Q (.int (if j < i then j else i)) H) fMin := by
  intro ds ρ μ H xs Q E rel dv ok
  unfold fMin at ok
  split at ok
  · obtain ⟨v, u, rfl, h1, h2⟩ := dv.two
    exact ⟨_, _, by rw [int_ok h1, int_ok h2], .inl (ok.now rel dv_int)⟩
  · exact ok.elim
theorem cf_abs {K : PySem.W.Frag} : CallF K (fun xs H Q => ∃ i, xs = [.int i] ∧ Q (.int (if i < 0 then -i else i)) H) fAbs := by
  intro ds ρ μ H xs Q E rel dv ok
  unfold fAbs at ok
  split at ok
  · obtain ⟨v, rfl, h⟩ := dv.one
    exact ⟨_, by rw [int_ok h], .inl (ok.now rel dv_int)⟩
  · exact ok.elim
def keyD : Key → D
  | .inl i => .int i
  | .inr x => .str x
def fListN (ds : List D) (μ : Mem) : Res (List D) := match ds with
  | [d] => match seqOf μ d with
    | some xs => .ok xs μ
    | none => match dictOf μ d with
      | some kds => .ok (kds.map fun k => keyD k.1) μ
      | none => .bad
  | _ => .bad
def rListU (K : PySem.W.Frag) : List V → Hp → VK → Prop := fun xs H Q => (∃ p ys, xs = [.ref p] ∧ (SqL K H p ys ∨ SqT K H p ys) ∧ ∀ l, H l = none → Q (.ref l) (upd H l (.lst ys))) ∨ ∃ (a : Addr) (kvs : List (Key × V)), xs = [.ref a] ∧ Rd H a (.dK kvs) ∧ ∀ p, H p = none → Q (.ref p) (upd H p (.lst (kvs.map fun kv => kV kv.1)))
theorem call_listU {X : Cx} (hc : X.calm = true) : CallR X (.type "list") (rListU X.K) := call_list_of.or (call_listD hc)
theorem dv_key {K : PySem.W.Frag} {ρ : List Addr} {H : Hp} (k : Key) : DV K ρ H (keyD k) (kV k) := by
  cases k with
  | inl i => exact dv_int
  | inr x => exact dv_str
theorem dvs_keys {K : PySem.W.Frag} {ρ : List Addr} {H : Hp} : ∀ {a : List (Key × D)} {b : List (Key × V)}, KDs K ρ H a b → DVs K ρ H (a.map fun k => keyD k.1) (b.map fun k => kV k.1)
  | _, _, .nil => .nil
  | _, _, .cons r t => .cons (by dsimp only; rw [← r.1]; exact dv_key _) (dvs_keys t)
theorem cn_list {K : PySem.W.Frag} : CallN K (rListU K) fListN := by
  intro ds ρ μ H xs Q E rel dv ok
  unfold fListN at ok
  split at ok
  · obtain ⟨v, rfl, h⟩ := dv.one
    split at ok
    · rename_i ys hy
      obtain ⟨a, vs, rfl, e2, e3⟩ := seqOf_ok rel h hy
      exact .inl ⟨a, vs, rfl, e2, fun p hp => OkN.new rel hp e3 ok⟩
    · split at ok
      · rename_i kds hk
        obtain ⟨n, a, kvs, _, _, rfl, _, r3, r4⟩ := dictOf_ok rel h hk
        exact .inr ⟨a, kvs, rfl, lk_rd r3, fun p hp => OkN.new rel hp (dvs_keys r4) ok⟩
      · exact ok.elim
  · exact ok.elim
def fTuple (ds : List D) (μ : Mem) : Res D := match ds with
  | [d] => match seqOf μ d with
    | some xs => .ok (.tup xs) μ
    | none => .bad
  | _ => .bad
theorem cf_tuple {K : PySem.W.Frag} : CallF K (fun xs H Q => ∃ p ys, xs = [.ref p] ∧ ((SqL K H p ys ∧ ∀ l, H l = none → Q (.ref l) (upd H l (.tup ys))) ∨ (SqT K H p ys ∧ Q (.ref p) H))) fTuple := by
  intro ds ρ μ H xs Q E rel dv ok
  unfold fTuple at ok
  split at ok
  · rename_i d
    obtain ⟨v, rfl, h⟩ := dv.one
    split at ok
    · rename_i ys hy
      cases d with
      | tup es =>
        have : es = ys := by simpa [seqOf] using hy
        subst this
        obtain ⟨a, vs, rfl, e2, e3⟩ := tup_ok h
        exact ⟨a, vs, rfl, .inr ⟨e2.sq, .inl (ok.now rel h)⟩⟩
      | _ =>
        obtain ⟨a, vs, rfl, e2, e3⟩ := lstOf_ok rel h hy
        exact ⟨a, vs, rfl, .inl ⟨rd_sq e2, fun p hp => .inl (okr_tup rel hp e3 ok)⟩⟩
    · exact ok.elim
  · exact ok.elim
def fDict (ds : List D) (μ : Mem) : Res D := match ds with
  | [d] => match dictOf μ d with
    | some kds => .ok (.loc μ.cells.length) (μ.push (.dK kds))
    | none => .bad
  | _ => .bad
theorem cf_dict {K : PySem.W.Frag} : CallF K (fun xs H Q => ∃ (a : Addr) (kvs : List (Key × V)), xs = [.ref a] ∧ Rd H a (.dK kvs) ∧ ∀ p, H p = none → Q (.ref p) (upd H p (.dK kvs))) fDict := by
  intro ds ρ μ H xs Q E rel dv ok
  unfold fDict at ok
  split at ok
  · obtain ⟨v, rfl, h⟩ := dv.one
    split at ok
    · rename_i kds hk
      obtain ⟨n, a, kvs, _, _, rfl, _, r3, r4⟩ := dictOf_ok rel h hk
      refine ⟨a, kvs, rfl, lk_rd r3, fun p hp => .inl ?_⟩
      exact ok.go (Pre.app _ _) (Fz.newA hp) (rel.new hp ⟨kvs, by unfold Lk; rw [if_neg Bool.false_ne_true]; exact upd_same, r4.mono (Pre.app _ _) (Fz.newA hp)⟩) (dv_last rel)
    · exact ok.elim
  · exact ok.elim
def blsOf : List D → Option (List Bool)
  | [] => some []
  | .bl b :: r => (blsOf r).map (b :: ·)
  | _ :: _ => none
theorem blsOf_ok {K : PySem.W.Frag} {ρ : List Addr} {H : Hp} : ∀ {ds : List D} {vs : List V} {bs : List Bool}, DVs K ρ H ds vs → blsOf ds = some bs → vs = bs.map V.bl
  | [], vs, bs, h, e => by
    simp only [DVs] at h
    have : bs = [] := by simpa [blsOf] using e.symm
    subst h this
    rfl
  | d :: ds, vs, bs, h, e => by
    simp only [DVs] at h
    obtain ⟨v, r, rfl, h1, h2⟩ := h
    cases d with
    | bl b =>
      simp only [blsOf] at e
      obtain ⟨cs, e1, rfl⟩ := Option.map_eq_some_iff.mp e
      rw [bl_ok h1, blsOf_ok h2 e1]
      rfl
    | _ => simp [blsOf] at e
def fAll (g : List Bool → Bool) (ds : List D) (μ : Mem) : Res D := match ds with
  | [d] => match (lstOf μ d).bind blsOf with
    | some bs => .ok (.bl (g bs)) μ
    | none => .bad
  | _ => .bad
theorem cf_all {K : PySem.W.Frag} : CallF K (rAll K) (fAll fun bs => bs.all id) := by
  intro ds ρ μ H xs Q E rel dv ok
  unfold fAll at ok
  split at ok
  · obtain ⟨v, rfl, h⟩ := dv.one
    split at ok
    · rename_i bs hb
      obtain ⟨es, h1, h2⟩ := Option.bind_eq_some_iff.mp hb
      obtain ⟨a, vs, rfl, e2, e3⟩ := lstOf_ok rel h h1
      have := blsOf_ok e3 h2
      subst this
      exact ⟨a, bs, rfl, rd_sq e2, .inl (ok.now rel dv_bl)⟩
    · exact ok.elim
  · exact ok.elim
def tyName (μ : Mem) : D → Option String
  | .non => some "NoneType"
  | .bl _ => some "bool"
  | .int _ => some "int"
  | .str _ => some "str"
  | .tup _ => some "tuple"
  | .lst _ => some "list"
  | .loc n => match μ.cells[n]? with
    | some (.lst _) => some "list"
    | some (.dK _) => some "dict"
    | _ => none
  | _ => none
def tyOK : List String := ["NoneType", "bool", "int", "str", "tuple", "list", "dict"]
def isiB (a b : String) : Bool := a == b || (a == "bool" && b == "int")
theorem kitB_all : (tyOK.all fun a => tyOK.all fun b => b == "NoneType" || decide (kitB a b = some (isiB a b))) = true := by decide +kernel
def fIsi (ds : List D) (μ : Mem) : Res D := match ds with
  | [d, .ty n] => match tyName μ d with
    | some t => if (tyOK.contains t && tyOK.contains n && n != "NoneType") = true then .ok (.bl (isiB t n)) μ else .bad
    | none => .bad
  | _ => .bad
theorem cf_isi {K : PySem.W.Frag} : CallF K (rIsi K) fIsi := by
  intro ds ρ μ H xs Q E rel dv ok
  unfold fIsi at ok
  split at ok
  · rename_i d n
    obtain ⟨v, u, rfl, h1, h2⟩ := dv.two
    have hu : u = V.ty n := by simpa only [DV] using h2
    subst hu
    split at ok
    · rename_i t ht
      split at ok
      · rename_i hc
        simp only [Bool.and_eq_true, bne_iff_ne, List.contains_iff_mem] at hc
        obtain ⟨⟨c1, c2⟩, c3⟩ := hc
        have k1 := List.all_eq_true.mp (List.all_eq_true.mp kitB_all t c1) n c2
        have c4 : (n == "NoneType") = false := beq_eq_false_iff_ne.mpr c3
        rw [c4, Bool.false_or] at k1
        have k2 := of_decide_eq_true k1
        refine ⟨v, .ty n, .type t, .type n, isiB t n, rfl, .ty n, ?_, kit_ty k2, .inl (ok.now rel dv_bl)⟩
        cases d with
        | non => rw [non_ok h1]; cases ht; exact .base .non
        | bl _ => rw [bl_ok h1]; cases ht; exact .base (.bl _)
        | int _ => rw [int_ok h1]; cases ht; exact .base (.int _)
        | str _ => rw [str_ok h1]; cases ht; exact .base (.str _)
        | tup _ =>
          cases ht
          obtain ⟨a, vs, rfl, e2, _⟩ := tup_ok h1
          rcases e2 with e2 | ⟨o, its, n, q1, q2, q3, _⟩
          · exact .base (.tup e2)
          · exact .kTuple q1 q2
        | lst _ =>
          cases ht
          simp only [DV] at h1
          obtain ⟨a, vs, rfl, ⟨o, e2⟩ | ⟨its, m, e2, _⟩, _⟩ := h1
          · exact .base (.frz e2)
          · exact .kList e2 rfl
        | loc m =>
          simp only [DV] at h1
          obtain ⟨a, e1, rfl⟩ := h1
          simp only [tyName] at ht
          split at ht
          · rename_i es hm
            cases ht
            obtain ⟨vs, e2, _⟩ := rel.cell m a _ e1 hm
            exact .base (.lst e2)
          · rename_i es hm
            cases ht
            obtain ⟨vs, e2, _⟩ := rel.cell m a _ e1 hm
            unfold Lk at e2
            split at e2
            · obtain ⟨o, e2⟩ := e2; exact .fDict e2
            · exact .base (.dK e2)
          · cases ht
        | _ => cases ht
      · exact ok.elim
    · exact ok.elim
  · exact ok.elim
end Doz
end
section
namespace Doz
open PySem L2
def OkS (K : PySem.W.Frag) (hx : Option HX) (W : WX) (ρ : List Addr) (H : Hp) (r : SRes) (Dn : Ends) : Prop := match r with
  | .nx δ μ => ∀ ρ' H' σ, Pre ρ ρ' → Fz ρ ρ' H H' → Rel K ρ' μ H' → EnvR K ρ' H' hx δ σ → Dn.nx σ H'
  | .rt d μ => ∀ ρ' H' v, Pre ρ ρ' → Fz ρ ρ' H H' → Rel K ρ' μ H' → DV K ρ' H' d v → Dn.rt v H'
  | .bk δ μ => ∀ ρ' H' σ, Pre ρ ρ' → Fz ρ ρ' H H' → Rel K ρ' μ H' → EnvR K ρ' H' hx δ σ → Dn.bk σ H'
  | .ct δ μ => ∀ ρ' H' σ, Pre ρ ρ' → Fz ρ ρ' H H' → Rel K ρ' μ H' → EnvR K ρ' H' hx δ σ → Dn.ct σ H'
  | .err C w δ μ => ∀ ρ1 H1 σ dd v, Pre ρ ρ1 → Fz ρ ρ1 H H1 → Rel K ρ1 μ H1 → EnvR K ρ1 H1 hx δ σ → H1 dd = some (.xd [(("what" : Str), v)]) → DV K ρ1 H1 w v → W (.ref C) (some dd) σ H1
  | .bad => False
def RefS (K : PySem.W.Frag) (hx : Option HX) (W : WX) (t : TS) (ms : MS) : Prop :=
  ∀ ρ μ δ σ H (Dn : Ends), Rel K ρ μ H → EnvR K ρ H hx δ σ → OkS K hx W ρ H (ms δ μ) Dn → t Dn σ H
structure RS (X : Cx) (hx : Option HX) (W : WX) (st : Stmt) (ms : MS) : Prop where
  ex : ∃ t : TS, PS X st t ∧ RefS X.K hx W t ms
structure RSs (X : Cx) (hx : Option HX) (W : WX) (sts : List Stmt) (ms : MS) : Prop where
  ex : ∃ t : TS, PSs X sts t ∧ RefS X.K hx W t ms
theorem OkS.mono {K : PySem.W.Frag} {hx : Option HX} {W : WX} {ρ ρ1 : List Addr} {H H1 : Hp} {r : SRes} {Dn : Ends} (p : Pre ρ ρ1) (f : Fz ρ ρ1 H H1) (h : OkS K hx W ρ H r Dn) : OkS K hx W ρ1 H1 r Dn := by
  cases r with
  | nx δ μ => exact fun ρ' H' σ p' f' => h ρ' H' σ (p.trans p') (f.trans f')
  | rt d μ => exact fun ρ' H' σ p' f' => h ρ' H' σ (p.trans p') (f.trans f')
  | bk δ μ => exact fun ρ' H' σ p' f' => h ρ' H' σ (p.trans p') (f.trans f')
  | ct δ μ => exact fun ρ' H' σ p' f' => h ρ' H' σ (p.trans p') (f.trans f')
  | err C w δ μ => exact fun ρ2 H2 σ dd v p2 f2 => h ρ2 H2 σ dd v (p.trans p2) (f.trans f2)
  | bad => exact h
def mnx : MS := fun δ μ => .nx δ μ
def mseq (a b : MS) : MS := fun δ μ => match a δ μ with
  | .nx δ1 μ1 => b δ1 μ1
  | r => r
def ofE {α : Type} (m : MX α) (k : α → MS) : MS := fun δ μ => match m δ μ with
  | .ok a μ1 => k a δ μ1
  | .err C w μ1 => .err C w δ μ1
  | .bad => .bad
theorem OkS.ofE {α β : Type} {K : PySem.W.Frag} {hx : Option HX} {W : WX} {R : Rl α β} {ρ : List Addr} {H : Hp} {δ : DEnv} {σ : St} {μ : Mem} {m : MX α} {k : α → MS} {Dn : Ends} {P : β → Hp → Prop} (env : EnvR K ρ H hx δ σ) (h : OkS K hx W ρ H (ofE m k δ μ) Dn)
    (hk : ∀ a μ1 ρ1 H1 b, Pre ρ ρ1 → Fz ρ ρ1 H H1 → Rel K ρ1 μ1 H1 → R ρ1 H1 a b → OkS K hx W ρ1 H1 (k a δ μ1) Dn → P b H1) : Okr K R ρ H (m δ μ) P (fun c d H' => W c d σ H') := by
  unfold Doz.ofE at h
  cases e : m δ μ with
  | ok a μ1 =>
    rw [e] at h
    exact fun ρ1 H1 b p f rel rb => hk a μ1 ρ1 H1 b p f rel rb (OkS.mono p f h)
  | err C w μ1 =>
    rw [e] at h
    exact fun ρ1 H1 dd v p f rel hd dv => h ρ1 H1 σ dd v p f rel (env.mono p f) hd dv
  | bad => rw [e] at h; exact h
section
variable {X : Cx} {hx : Option HX} {W : WX} {st : Stmt} {rest : List Stmt} {a b : MS} {e : Expr} {m : ME} {pos : Pos}
theorem rss_nil : RSs X hx W [] mnx := ⟨⟨_, pss_nil, fun ρ μ δ σ H Dn rel env ok => ok ρ H σ (Pre.refl _) (Fz.refl _) rel env⟩⟩
theorem ref_seq {K : PySem.W.Frag} {t u : TS} (ha : RefS K hx W t a) (hb : RefS K hx W u b) : RefS K hx W (tSeq t u) (mseq a b) := by
  intro ρ μ δ σ H Dn rel env ok
  refine ha ρ μ δ σ H { Dn with nx := u Dn } rel env ?_
  unfold mseq at ok
  cases e : a δ μ with
  | nx δ1 μ1 =>
    rw [e] at ok
    exact fun ρ' H' σ' p f rel' env' => hb ρ' μ1 δ1 σ' H' Dn rel' env' (OkS.mono p f ok)
  | rt d μ1 => rw [e] at ok; exact ok
  | bk δ1 μ1 => rw [e] at ok; exact ok
  | ct δ1 μ1 => rw [e] at ok; exact ok
  | err C w δ1 μ1 => rw [e] at ok; exact ok
  | bad => rw [e] at ok; exact ok
theorem rss_cons (h1 : RS X hx W st a) (h2 : RSs X hx W rest b) : RSs X hx W (st :: rest) (mseq a b) := by
  obtain ⟨t, p, r⟩ := h1.ex
  obtain ⟨u, q, s⟩ := h2.ex
  exact ⟨⟨_, pss_cons p q, ref_seq r s⟩⟩
theorem rss_one (h1 : RS X hx W st a) : RSs X hx W [st] a := by
  obtain ⟨t, p, r⟩ := h1.ex
  exact ⟨⟨_, pss_one p, r⟩⟩
theorem rs_pass : RS X hx W (.Pass pos) mnx := ⟨⟨_, ps_pass, fun ρ μ δ σ H Dn rel env ok => ok ρ H σ (Pre.refl _) (Fz.refl _) rel env⟩⟩
def mbk : MS := fun δ μ => .bk δ μ
def mct : MS := fun δ μ => .ct δ μ
theorem rs_break : RS X hx W (.Break pos) mbk := ⟨⟨_, ps_break, fun ρ μ δ σ H Dn rel env ok => ok ρ H σ (Pre.refl _) (Fz.refl _) rel env⟩⟩
theorem rs_continue : RS X hx W (.Continue pos) mct := ⟨⟨_, ps_continue, fun ρ μ δ σ H Dn rel env ok => ok ρ H σ (Pre.refl _) (Fz.refl _) rel env⟩⟩
def mdrop (m : ME) : MS := ofE m fun _ => mnx
theorem rs_expr (h : RE X hx W e m) (hs : swapsWith e none pos.line X.env = pure false := by rfl) : RS X hx W (.Expr e pos) (mdrop m) := by
  obtain ⟨t, p, r⟩ := h.ex
  exact ⟨⟨_, ps_expr p hs, fun ρ μ δ σ H Dn rel env ok => r ρ μ δ σ H _ rel env (OkS.ofE env ok fun d μ1 ρ1 H1 v pr fz rel1 dv ok1 => ok1 ρ1 H1 σ (Pre.refl _) (Fz.refl _) rel1 (env.mono pr fz))⟩⟩
def mret (m : ME) : MS := ofE m fun d => fun _ μ => .rt d μ
theorem rs_ret (h : RE X hx W e m) : RS X hx W (.Return (some e) pos) (mret m) := by
  obtain ⟨t, p, r⟩ := h.ex
  exact ⟨⟨_, ps_ret p, fun ρ μ δ σ H Dn rel env ok => r ρ μ δ σ H _ rel env (OkS.ofE env ok fun d μ1 ρ1 H1 v pr fz rel1 dv ok1 => ok1 ρ1 H1 v (Pre.refl _) (Fz.refl _) rel1 dv)⟩⟩
def mretN : MS := fun _ μ => .rt .non μ
theorem rs_retN : RS X hx W (.Return none pos) mretN := ⟨⟨_, ps_retN, fun ρ μ δ σ H Dn rel env ok => ok ρ H .non (Pre.refl _) (Fz.refl _) rel dv_non⟩⟩
def mifS (t : MX Bool) (a b : MS) : MS := ofE t fun c => if c = true then a else b
theorem rs_if {c : Expr} {mt : MX Bool} {as bs : List Stmt} (hc : RT X hx W c mt) (ha : RSs X hx W as a) (hb : RSs X hx W bs b) : RS X hx W (.If c as bs pos) (mifS mt a b) := by
  obtain ⟨t, p, r⟩ := hc.ex
  obtain ⟨ta, pa, ra⟩ := ha.ex
  obtain ⟨tb, pb, rb⟩ := hb.ex
  refine ⟨⟨_, ps_if p pa pb, fun ρ μ δ σ H Dn rel env ok => r ρ μ δ σ H _ rel env (OkS.ofE env ok fun c μ1 ρ1 H1 v pr fz rel1 dv ok1 => ?_)⟩⟩
  have e' : c = v := dv
  subst e'
  cases c with
  | true => exact iteT (ra ρ1 μ1 δ σ H1 Dn rel1 (env.mono pr fz) ok1)
  | false => exact iteF (rb ρ1 μ1 δ σ H1 Dn rel1 (env.mono pr fz) ok1)
def mretFz (m : ME) : MS := ofE m fun d => fun _ μ => match d with
  | .loc n => match μ.cells[n]? with
    | some (.lst ds) => if μ.lkd n = false then .rt (.lst ds) (μ.set n .dead) else .bad
    | _ => .bad
  | _ => .bad
theorem rs_retFz (h : RE X hx W e m) : RS X hx W (.Return (some e) pos) (mretFz m) := by
  obtain ⟨t, p, r⟩ := h.ex
  refine ⟨⟨_, ps_ret (pe_fzo p), fun ρ μ δ σ H Dn rel env ok => r ρ μ δ σ H _ rel env (OkS.ofE env ok fun d μ1 ρ1 H1 v pr fz rel1 dv ok1 => ?_)⟩⟩
  split at ok1
  · rename_i n
    split at ok1
    · rename_i ds hc
      split at ok1
      · simp only [DV] at dv
        obtain ⟨ad, h1, rfl⟩ := dv
        obtain ⟨vs, h2, h3⟩ := rel1.cell n ad _ h1 hc
        refine .inr ⟨ad, vs, rfl, h2, fun o => ?_⟩
        have f2 : Fz ρ1 ρ1 H1 _ := Fz.mut (o := .frz o (.lst vs)) h1 h2 (fun _ => HO.noConfusion) (fun _ _ => HO.noConfusion)
        refine ok1 ρ1 _ _ (Pre.refl _) f2 (rel1.write h1 h2 (fun _ => HO.noConfusion) (fun _ _ => HO.noConfusion) ⟨_, upd_same, fun _ z => nomatch z⟩) (dv_frz h2 h3)
      · exact ok1.elim
    · exact ok1.elim
  · exact ok1.elim
end
def OkG (K : PySem.W.Frag) (hx : Option HX) (ρ : List Addr) (H : Hp) (r : Res DEnv) (Q : St → Hp → Prop) (E : XK) : Prop := match r with
  | .ok δ μ => ∀ ρ' H' σ, Pre ρ ρ' → Fz ρ ρ' H H' → Rel K ρ' μ H' → EnvR K ρ' H' hx δ σ → Q σ H'
  | .err C w μ => XOk K ρ H C w μ E
  | .bad => False
abbrev MG := D → DEnv → Mem → Res DEnv
def RefG (K : PySem.W.Frag) (hx : Option HX) (W : WX) (g : TG) (mg : MG) : Prop :=
  ∀ ρ μ δ σ H d v (Q : St → Hp → Prop), Rel K ρ μ H → EnvR K ρ H hx δ σ → DV K ρ H d v → OkG K hx ρ H (mg d δ μ) Q (fun c d H' => W c d σ H') → g v σ H Q
structure RG (X : Cx) (hx : Option HX) (W : WX) (tg : Expr) (mg : MG) : Prop where
  ex : ∃ g : TG, PG X tg g ∧ RefG X.K hx W g mg
theorem OkG.mono {K : PySem.W.Frag} {hx : Option HX} {ρ ρ1 : List Addr} {H H1 : Hp} {r : Res DEnv} {Q : St → Hp → Prop} {E : XK} (p : Pre ρ ρ1) (f : Fz ρ ρ1 H H1) (h : OkG K hx ρ H r Q E) : OkG K hx ρ1 H1 r Q E := by
  cases r with
  | ok a μ => exact fun ρ' H' b p' f' => h ρ' H' b (p.trans p') (f.trans f')
  | err C w μ => exact XOk.mono p f h
  | bad => exact h
theorem EnvR.set {K : PySem.W.Frag} {ρ : List Addr} {H : Hp} {hx : Option HX} {δ : DEnv} {σ : St} {i : Nat} {d : D} {v : V} (e : EnvR K ρ H hx δ σ) (dv : DV K ρ H d v) (hi : ∀ q, hx = some q → i ≠ q.i) : EnvR K ρ H hx (δ.set i (some d)) (σ.set i (some v)) := by
  refine ⟨by simp [e.len], fun j d' h => ?_, fun q h => ?_⟩
  · by_cases hj : i = j
    · subst hj
      have hl : i < δ.length := by
        have := (List.getElem?_eq_some_iff.mp h).1
        simpa using this
      rw [List.getElem?_set_self hl] at h
      cases h
      exact ⟨v, List.getElem?_set_self (e.len ▸ hl), dv⟩
    · rw [List.getElem?_set_ne hj] at h
      obtain ⟨u, h1, h2⟩ := e.get j d' h
      exact ⟨u, by rw [List.getElem?_set_ne hj]; exact h1, h2⟩
  · obtain ⟨h1, h2⟩ := e.exn q h
    exact ⟨by rw [List.getElem?_set_ne (hi q h)]; exact h1, h2⟩
def gset (i : Nat) : MG := fun d δ μ => .ok (δ.set i (some d)) μ
theorem ref_name {K : PySem.W.Frag} {hx : Option HX} {W : WX} (i : Nat) (hi : ∀ q, hx = some q → i ≠ q.i) : RefG K hx W (gName i) (gset i) :=
  fun ρ μ δ σ H d v Q rel env dv ok => ok ρ H _ (Pre.refl _) (Fz.refl _) rel (env.set dv hi)
section
variable {X : Cx} {hx : Option HX} {W : WX} {e : Expr} {m : ME} {pos pos' : Pos}
theorem rg_name (i : Nat) {x : Str} (hN : X.N.Nodup) (hi : X.N[i]? = some x := by rfl) (hl : Loc X.env.scope x := by first | exact Or.inl rfl | exact Or.inr rfl) (hxi : ∀ q, hx = some q → i ≠ q.i := by intro _ h; first | (cases h; done) | (cases h; exact Nat.ne_of_beq_eq_false rfl))
    (hf : X.fn x = true ∨ X.env.scope.names.lookup x = some .local := by first | exact .inl rfl | exact .inr rfl | assumption) : RG X hx W (.Name x pos) (gset i) := ⟨⟨_, pg_name hN hi hl hf, ref_name i hxi⟩⟩
def masg (m : ME) (g : MG) : MS := ofE m fun d => fun δ μ => match g d δ μ with
  | .ok δ1 μ1 => .nx δ1 μ1
  | .err C w μ1 => .err C w δ μ1
  | .bad => .bad
theorem okg_of {K : PySem.W.Frag} {ρ : List Addr} {H : Hp} {δ : DEnv} {σ : St} {r : Res DEnv} {Dn : Ends} (env : EnvR K ρ H hx δ σ) (ok : OkS K hx W ρ H (match r with | .ok δ1 μ1 => .nx δ1 μ1 | .err C w μ1 => .err C w δ μ1 | .bad => .bad) Dn) : OkG K hx ρ H r Dn.nx (fun c d H' => W c d σ H') := by
  cases r with
  | ok δ1 μ1 => exact ok
  | err C w μ1 => exact fun ρ1 H1 dd v p f rel hd dv => ok ρ1 H1 σ dd v p f rel (env.mono p f) hd dv
  | bad => exact ok
theorem rs_set (i : Nat) {x : Str} (hN : X.N.Nodup) (he : RE X hx W e m) (hi : X.N[i]? = some x := by rfl) (hl : Loc X.env.scope x := by first | exact Or.inl rfl | exact Or.inr rfl) (hs : swapsWith e (some (.Name x pos')) pos.line X.env = pure false := by rfl) (hxi : ∀ q, hx = some q → i ≠ q.i := by intro _ h; first | (cases h; done) | (cases h; exact Nat.ne_of_beq_eq_false rfl))
    (hf : X.fn x = true ∨ X.env.scope.names.lookup x = some .local := by first | exact .inl rfl | exact .inr rfl | assumption) : RS X hx W (.Assign [.Name x pos'] e pos) (masg m (gset i)) := by
  obtain ⟨t, p, r⟩ := he.ex
  exact ⟨⟨_, ps_set hN hi hl p hs hf, fun ρ μ δ σ H Dn rel env ok => r ρ μ δ σ H _ rel env (OkS.ofE env ok fun d μ1 ρ1 H1 v pr fz rel1 dv ok1 => ref_name (W := W) i hxi ρ1 μ1 δ σ H1 d v Dn.nx rel1 (env.mono pr fz) dv (okg_of (env.mono pr fz) ok1))⟩⟩
theorem rs_asg {tg : Expr} {g : MG} (he : RE X hx W e m) (hg : RG X hx W tg g) (hs : swapsWithSole [tg] e pos.line X.env = pure false := by rfl) (hw : swappedStores [tg] e X.env = pure none := by rfl)
    (h1 : (assignEach [tg] X.env).map (·.2) = [assign tg X.env] := by rfl) : RS X hx W (.Assign [tg] e pos) (masg m g) := by
  obtain ⟨t, p, r⟩ := he.ex
  obtain ⟨tg', pg, rg⟩ := hg.ex
  exact ⟨⟨_, ps_asg p pg hs hw h1, fun ρ μ δ σ H Dn rel env ok => r ρ μ δ σ H _ rel env (OkS.ofE env ok fun d μ1 ρ1 H1 v pr fz rel1 dv ok1 => rg ρ1 μ1 δ σ H1 d v Dn.nx rel1 (env.mono pr fz) dv (okg_of (env.mono pr fz) ok1))⟩⟩
abbrev MGs := List D → DEnv → Mem → Res DEnv
def OkG0 (K : PySem.W.Frag) (hx : Option HX) (ρ : List Addr) (H : Hp) (r : Res DEnv) (Q : St → Hp → Prop) : Prop := match r with
  | .ok δ μ => ∀ ρ' H' σ, Pre ρ ρ' → Fz ρ ρ' H H' → Rel K ρ' μ H' → EnvR K ρ' H' hx δ σ → Q σ H'
  | _ => False
structure RGs (X : Cx) (hx : Option HX) (W : WX) (tgs : List Expr) (mg : MGs) : Prop where
  ex : ∃ g : TGs, PGs X tgs g ∧ ∀ ρ μ δ σ H ds vs (Q : St → Hp → Prop), Rel X.K ρ μ H → EnvR X.K ρ H hx δ σ → DVs X.K ρ H ds vs → OkG0 X.K hx ρ H (mg ds δ μ) Q → g vs σ H Q
def gnil : MGs := fun ds δ μ => match ds with
  | [] => .ok δ μ
  | _ => .bad
def gcons (g : MG) (gs : MGs) : MGs := fun ds δ μ => match ds with
  | d :: r => match g d δ μ with
    | .ok δ1 μ1 => gs r δ1 μ1
    | _ => .bad
  | [] => .bad
theorem rgs_nil : RGs X hx W [] gnil := by
  refine ⟨⟨_, pgs_nil, fun ρ μ δ σ H ds vs Q rel env dv ok => ?_⟩⟩
  unfold gnil at ok
  split at ok
  · simp only [DVs] at dv
    exact ⟨dv, ok ρ H σ (Pre.refl _) (Fz.refl _) rel env⟩
  · exact ok.elim
theorem rgs_cons {tg : Expr} {tgs : List Expr} {g : MG} {gs : MGs} (h1 : RG X hx W tg g) (h2 : RGs X hx W tgs gs) (hs : (assignEach (tg :: tgs) X.env).map (·.2) = assign tg X.env :: (assignEach tgs X.env).map (·.2) := by rfl) : RGs X hx W (tg :: tgs) (gcons g gs) := by
  obtain ⟨t, p, r⟩ := h1.ex
  obtain ⟨u, q, s⟩ := h2.ex
  refine ⟨⟨_, pgs_cons p q hs, fun ρ μ δ σ H ds vs Q rel env dv ok => ?_⟩⟩
  unfold gcons at ok
  split at ok
  · rename_i d rst
    simp only [DVs] at dv
    obtain ⟨v, vr, rfl, d1, d2⟩ := dv
    refine ⟨v, vr, rfl, r ρ μ δ σ H d v _ rel env d1 ?_⟩
    split at ok
    · rename_i δ1 μ1 e1
      rw [e1]
      intro ρ' H' σ' pr fz rel' env'
      refine s ρ' μ1 δ1 σ' H' rst vr Q rel' env' (d2.mono pr fz) ?_
      revert ok
      cases gs rst δ1 μ1 with
      | ok δ2 μ2 => exact fun ok ρ2 H2 σ2 p2 f2 => ok ρ2 H2 σ2 (pr.trans p2) (fz.trans f2)
      | err _ _ _ => exact id
      | bad => exact id
    · exact ok.elim
  · exact ok.elim
def gtup (n : Nat) (gs : MGs) : MG := fun d δ μ => match d with
  | .tup ds => if ds.length = n then match gs ds δ μ with
      | .ok δ1 μ1 => .ok δ1 μ1
      | _ => .bad
    else .bad
  | _ => .bad
theorem rg_tup {tgs : List Expr} {gs : MGs} {n k : Nat} (hc : X.calm = true) (h : RGs X hx W tgs gs) (hn : (assignEach tgs X.env).length = n := by rfl) (hst : (assignEach tgs X.env).findIdx? (·.1) = none := by rfl) : RG X hx W (.Tuple tgs k pos) (gtup n gs) := by
  obtain ⟨t, p, r⟩ := h.ex
  refine ⟨⟨_, pg_tup hc p hn hst, fun ρ μ δ σ H d v Q rel env dv ok => ?_⟩⟩
  unfold gtup at ok
  split at ok
  · split at ok
    · rename_i ds hl
      obtain ⟨a, vs, rfl, h1, h2⟩ := tup_ok dv
      refine ⟨a, vs, rfl, h1.sq, h2.length.symm.trans hl, r ρ μ δ σ H ds vs Q rel env h2 ?_⟩
      split at ok
      · rename_i e1
        rw [e1]
        exact ok
      · exact ok.elim
    · exact ok.elim
  · exact ok.elim
end
theorem PSet.or {X : Cx} {t t' : TSet} (h : PSet X t) (h' : PSet X t') : PSet X (fun o i v H Q => t o i v H Q ∨ t' o i v H Q) := by
  intro pins s σ H o i v ov iv u Q I ro ri rv q
  rcases q with q | q
  · exact h pins s σ H o i v ov iv u Q I ro ri rv q
  · exact h' pins s σ H o i v ov iv u Q I ro ri rv q
def rSetD : TSet := fun o i v H Q => ∃ a H', o = .ref a ∧ DPut H a i v H' ∧ Q H'
theorem set_dict {X : Cx} (hu : Hu X) : PSet X rSetD := by
  intro pins s σ H o i v ov iv u Q I ro ri rv h
  obtain ⟨a, H', rfl, g, q⟩ := h
  cases ro
  exact d_setItem hu.h1 I g ri rv fun s4 I4 => ⟨H', I4, q⟩
def setD (o i v : D) (μ : Mem) : Res Unit := match o with
  | .loc n => match μ.cells[n]? with
    | some (.lst ds) => match i with
      | .int k => match ixN ds.length k with
        | some j => .ok () (μ.set n (.lst (ds.set j v)))
        | none => .bad
      | _ => .bad
    | some (.dK kds) => match keyOf i with
      | some k => if μ.lkd n = false ∧ kds.length < sizeLine then .ok () (μ.set n (.dK (kput kds k v))) else .bad
      | none => .bad
    | _ => .bad
  | _ => .bad
def OkU (K : PySem.W.Frag) (ρ : List Addr) (H : Hp) (r : Res Unit) (Q : Hp → Prop) : Prop := match r with
  | .ok _ μ => ∀ ρ' H', Pre ρ ρ' → Fz ρ ρ' H H' → Rel K ρ' μ H' → Q H'
  | _ => False
theorem setD_ok {K : PySem.W.Frag} {ρ : List Addr} {μ : Mem} {H : Hp} {o i d : D} {x y v : V} {Q : Hp → Prop} (rel : Rel K ρ μ H) (dx : DV K ρ H o x) (dy : DV K ρ H i y) (dv : DV K ρ H d v) (ok : OkU K ρ H (setD o i d μ) Q) : rSetL x y v H Q ∨ rSetD x y v H Q := by
  unfold setD at ok
  split at ok
  · rename_i n
    simp only [DV] at dx
    obtain ⟨a, h1, rfl⟩ := dx
    split at ok
    · rename_i ds hc
      obtain ⟨vs, h2, h3⟩ := rel.cell n a _ h1 hc
      split at ok
      · rename_i k
        split at ok
        · rename_i j hj
          have f := Fz.mut (o := .lst (vs.set j v)) h1 h2 (fun _ => HO.noConfusion) (fun _ _ => HO.noConfusion)
          refine .inl ⟨a, vs, k, j, rfl, int_ok dy, h2, by rw [← h3.length]; exact hj, ?_⟩
          exact ok ρ _ (Pre.refl _) f (rel.write h1 h2 (fun _ => HO.noConfusion) (fun _ _ => HO.noConfusion) ⟨_, upd_same, (h3.set dv j).mono (Pre.refl _) f⟩)
        · exact ok.elim
      · exact ok.elim
    · rename_i kds hc
      obtain ⟨kvs, h2, h3⟩ := rel.cell n a _ h1 hc
      split at ok
      · rename_i k hk
        split at ok
        · rename_i hl
          rw [hl.1] at h2
          have h2' : H a = some (.dK kvs) := by unfold Lk at h2; rw [if_neg Bool.false_ne_true] at h2; exact h2
          have f := Fz.mut (o := .dK (putK kvs k v)) h1 h2' (fun _ => HO.noConfusion) (fun _ _ => HO.noConfusion)
          refine .inr ⟨a, _, rfl, .inl ⟨kvs, k, h2', keyOf_ok hk dy, by rw [← KDs.length h3]; exact hl.2, rfl⟩, ?_⟩
          refine ok ρ _ (Pre.refl _) f (rel.write h1 h2' (fun _ => HO.noConfusion) (fun _ _ => HO.noConfusion) ⟨_, ?_, (h3.put dv).mono (Pre.refl _) f⟩)
          rw [hl.1]
          unfold Lk
          rw [if_neg Bool.false_ne_true]
          exact upd_same
        · exact ok.elim
      · exact ok.elim
    · exact ok.elim
  · exact ok.elim
section
variable {X : Cx} {hx : Option HX} {W : WX} {pos : Pos} {o i : Expr} {mo mi : ME}
def gsub (mo mi : ME) : MG := fun d δ μ => (mo δ μ).bind fun x μ1 => (mi δ μ1).bind fun y μ2 => match setD x y d μ2 with
  | .ok _ μ3 => .ok δ μ3
  | _ => .bad
theorem rg_sub (hu : Hu X) (ho : RE X hx W o mo) (hi : RE X hx W i mi)
    (ha : ∀ v, assign (.Subscript o i pos) X.env v = (do
      let ov ← holding [v] (eval o X.env)
      let iv ← holding [v, ov] (eval i X.env)
      standAt pos
      holding [v, ov, iv] (setItem ov iv v)
      release [v, ov, iv] []) := by intro _; rfl) : RG X hx W (.Subscript o i pos) (gsub mo mi) := by
  obtain ⟨to, po, ro⟩ := ho.ex
  obtain ⟨ti, pi, ri⟩ := hi.ex
  refine ⟨⟨_, pg_sub po pi (PSet.or set_list (set_dict hu)) ha, fun ρ μ δ σ H d v Q rel env dv ok => ?_⟩⟩
  unfold gsub at ok
  have key : ∀ {α β : Type} {R : Rl α β} {r : Res α} {k : α → Mem → Res DEnv} {ρ : List Addr} {H : Hp} {P : β → Hp → Prop}, OkG X.K hx ρ H (r.bind k) Q (fun c d H' => W c d σ H') →
      (∀ a μ1 ρ1 H1 b, Pre ρ ρ1 → Fz ρ ρ1 H H1 → Rel X.K ρ1 μ1 H1 → R ρ1 H1 a b → OkG X.K hx ρ1 H1 (k a μ1) Q (fun c d H' => W c d σ H') → P b H1) → Okr X.K R ρ H r P (fun c d H' => W c d σ H') := fun {α β R r k ρ H P} h hk => by
    cases r with
    | ok a μ1 => exact fun ρ1 H1 b p f rel rb => hk a μ1 ρ1 H1 b p f rel rb (OkG.mono p f h)
    | err C w μ1 => exact h
    | bad => exact h
  refine ro ρ μ δ σ H _ rel env (key ok fun x μ1 ρ1 H1 xv p1 f1 rel1 dx ok1 => ?_)
  refine ri ρ1 μ1 δ σ H1 _ rel1 (env.mono p1 f1) (key ok1 fun y μ2 ρ2 H2 yv p2 f2 rel2 dy ok2 => ?_)
  refine setD_ok rel2 (dx.mono p2 f2) dy ((dv.mono p1 f1).mono p2 f2) ?_
  revert ok2
  cases setD x y d μ2 with
  | ok u μ3 => exact fun ok2 ρ3 H3 p3 f3 rel3 => ok2 ρ3 H3 σ p3 f3 rel3 (((env.mono p1 f1).mono p2 f2).mono p3 f3)
  | err _ _ _ => exact id
  | bad => exact id
end
def putFD (f : Str) (v : D) : List (Str × D) → List (Str × D)
  | [] => [(f, v)]
  | (g, x) :: r => if g = f then (g, v) :: r else (g, x) :: putFD f v r
theorem KDs.look {K : PySem.W.Frag} {ρ : List Addr} {H : Hp} {f : Str} : ∀ {a : List (Str × D)} {b : List (Str × V)}, KDs K ρ H a b → (∀ d, a.lookup f = some d → ∃ v, b.lookup f = some v ∧ DV K ρ H d v) ∧ (a.lookup f = none → b.lookup f = none)
  | _, _, .nil => ⟨fun _ h => by simp at h, fun _ => rfl⟩
  | (g, x) :: a, (g', y) :: b, .cons r t => by
    have e : g = g' := r.1
    subst e
    simp only [List.lookup_cons]
    cases h : f == g with
    | true => exact ⟨fun d e => ⟨y, rfl, (Option.some.inj e) ▸ r.2⟩, fun e => nomatch e⟩
    | false => exact KDs.look t
theorem KDs.putF {K : PySem.W.Frag} {ρ : List Addr} {H : Hp} {f : Str} {d : D} {v : V} (hd : DV K ρ H d v) : ∀ {a : List (Str × D)} {b : List (Str × V)}, KDs K ρ H a b → KDs K ρ H (putFD f d a) (L2.putF f v b)
  | _, _, .nil => .cons ⟨rfl, hd⟩ .nil
  | (g, x) :: a, (g', y) :: b, .cons r t => by
    have e : g = g' := r.1
    subst e
    simp only [putFD, L2.putF]
    split
    · exact .cons ⟨rfl, hd⟩ t
    · exact .cons r (KDs.putF hd t)
theorem putFD_old {f : Str} {d : D} : ∀ {fs : List (Str × D)} {p : Str × D}, p ∈ putFD f d fs → p.1 = f ∨ p ∈ fs
  | [], p, h => by
    have : p = (f, d) := by simpa [putFD] using h
    exact .inl (by rw [this])
  | (g, x) :: r, p, h => by
    simp only [putFD] at h
    split at h
    · rename_i e
      rcases List.mem_cons.mp h with h | h
      · exact .inl (by rw [h]; exact e)
      · exact .inr (List.mem_cons_of_mem _ h)
    · rcases List.mem_cons.mp h with h | h
      · exact .inr (by rw [h]; exact List.mem_cons_self)
      · rcases putFD_old h with h | h
        · exact .inl h
        · exact .inr (List.mem_cons_of_mem _ h)
theorem putFD_len (f : Str) (d : D) : ∀ (fs : List (Str × D)), (putFD f d fs).length ≤ fs.length + 1
  | [] => by simp [putFD]
  | (g, x) :: r => by
    simp only [putFD]
    split
    · simp
    · simp; exact putFD_len f d r
theorem lookup_memD {f : Str} {r : D} : ∀ {fs : List (Str × D)}, fs.lookup f = some r → ∃ p ∈ fs, p.1 = f
  | [], hr => by simp at hr
  | (g, x) :: t, hr => by
    simp only [List.lookup_cons] at hr
    cases h : f == g with
    | true => exact ⟨(g, x), List.mem_cons_self, (beq_iff_eq.mp h).symm⟩
    | false =>
      rw [h] at hr
      obtain ⟨p, hp, e⟩ := lookup_memD hr
      exact ⟨p, List.mem_cons_of_mem _ hp, e⟩
def fFld (f : Str) (d : D) (μ : Mem) : Res D := match d with
  | .loc n => match μ.cells[n]? with
    | some (.ins _ fs) => match fs.lookup f with
      | some r => .ok r μ
      | none => .bad
    | _ => .bad
  | _ => .bad
def mfld (f : Str) (m : ME) : ME := bindM m fun d => fun _ μ => fFld f d μ
section
variable {X : Cx} {hx : Option HX} {W : WX} {e o : Expr} {f : Str} {m mo : ME} {pos pos' : Pos}
theorem re_fld (he : RE X hx W e m) (hb : attributeBase e f X.env (eval e X.env) = eval e X.env := by rfl) : RE X hx W (.Attribute e f pos) (mfld f m) := by
  obtain ⟨t, p, r⟩ := he.ex
  refine ⟨⟨_, pe_fld p hb, fun ρ0 μ0 δ σ H0 Q rel0 env0 ok0 => r ρ0 μ0 δ σ H0 _ rel0 env0 (Okr.bind ok0 fun d μ ρ H v pr fz rel dv ok => ?_)⟩⟩
  unfold fFld at ok
  dsimp only at ok
  split at ok
  · rename_i n
    split at ok
    · rename_i C fs hc
      split at ok
      · rename_i r hr
        simp only [DV] at dv
        obtain ⟨a, h1, rfl⟩ := dv
        obtain ⟨dx, vs, h2, h3, cl, na, _⟩ := rel.cell n a _ h1 hc
        obtain ⟨v, h4, h5⟩ := (KDs.look h3).1 r hr
        have hm := lookup_memD hr
        obtain ⟨p, hp, rfl⟩ := hm
        exact ⟨a, C, dx, vs, v, rfl, h2, cl, na p hp, h4, ok.now rel h5⟩
      · exact ok.elim
    · exact ok.elim
  · exact ok.elim
def setF (Cs : List Addr) (f : Str) (o v : D) (μ : Mem) : Res Unit := match o with
  | .loc n => match μ.cells[n]? with
    | some (.ins C fs) => if ((fs.lookup f).isSome || Cs.contains C) = true ∧ fs.length < 1000 then .ok () (μ.set n (.ins C (putFD f v fs))) else .bad
    | _ => .bad
  | _ => .bad
def rSetF (K : PySem.W.Frag) (f : Str) (x y : V) (H : Hp) (Q : Hp → Prop) : Prop := ∃ a C dx fs, x = .ref a ∧ H a = some (.ins C dx fs) ∧ Cls K C ∧ NoAttr K C f ∧ fs.length < 1000 ∧ Q (upd H a (.ins C dx (L2.putF f y fs)))
theorem setF_ok {K : PySem.W.Frag} {ρ : List Addr} {μ : Mem} {H : Hp} {Cs : List Addr} {f : Str} {o d : D} {x v : V} {Q : Hp → Prop} (hn : ∀ C ∈ Cs, NoAttr K C f) (rel : Rel K ρ μ H) (dx : DV K ρ H o x) (dv : DV K ρ H d v) (ok : OkU K ρ H (setF Cs f o d μ) Q) : rSetF K f x v H Q := by
  unfold setF at ok
  split at ok
  · rename_i n
    simp only [DV] at dx
    obtain ⟨a, h1, rfl⟩ := dx
    split at ok
    · rename_i C fs hc
      obtain ⟨dx, vs, h2, h3, cl, na, hl⟩ := rel.cell n a _ h1 hc
      split at ok
      · rename_i hs
        have hna : NoAttr K C f := by
          have := hs.1
          simp only [Bool.or_eq_true, List.contains_iff_mem] at this
          rcases this with h | h
          · obtain ⟨r, hr⟩ := Option.isSome_iff_exists.mp h
            obtain ⟨p, hp, rfl⟩ := lookup_memD hr
            exact na p hp
          · exact hn C h
        have f' := Fz.mut (o := .ins C dx (L2.putF f v vs)) h1 h2 (fun _ => HO.noConfusion) (fun _ _ => HO.noConfusion)
        refine ⟨a, C, dx, vs, rfl, h2, cl, hna, by rw [← KDs.length h3]; exact hs.2, ok ρ _ (Pre.refl _) f' (rel.write h1 h2 (fun _ => HO.noConfusion) (fun _ _ => HO.noConfusion) ⟨dx, _, upd_same, (h3.putF dv).mono (Pre.refl _) f', cl, fun p hp => ?_, ?_⟩)⟩
        · rcases putFD_old hp with h | h
          · rw [h]; exact hna
          · exact na p h
        · have := putFD_len f d fs
          have := hs.2
          omega
      · exact ok.elim
    · exact ok.elim
  · exact ok.elim
def gFldT (K : PySem.W.Frag) (f : Str) (to : TE) : TG := fun v σ H Q => to σ H fun x H1 => rSetF K f x v H1 fun H2 => Q σ H2
theorem pg_fld {to : TE} (ho : PE X o to) : PG X (.Attribute o f pos) (gFldT X.K f to) := by
  refine ⟨fun pins s σ H v u Q I r h => ?_⟩
  rw [PySem.arm_assign_Attribute]
  refine wpAny_bind (wpAny_holding (thn (ho.run pins s σ H _ I h) fun ov s1 ⟨x, H1, I1, r1, a, C, dx, fs, ex, ea, c, n, l, q⟩ => ?_))
  subst ex
  obtain rfl : ov = Value.ref a := r1
  refine wpAny_bind (wpAny_standAt (wpAny_bind (wpAny_holding (setattr_ok I1 ea c n l r fun s3 I3 => ?_))))
  exact wpAny_release ⟨σ, _, I3, q⟩
def gfld (Cs : List Addr) (f : Str) (mo : ME) : MG := fun d δ μ => (mo δ μ).bind fun x μ1 => match setF Cs f x d μ1 with
  | .ok _ μ2 => .ok δ μ2
  | _ => .bad
theorem rg_fld (Cs : List Addr) (hn : ∀ C ∈ Cs, NoAttr X.K C f) (ho : RE X hx W o mo) : RG X hx W (.Attribute o f pos) (gfld Cs f mo) := by
  obtain ⟨to, po, ro⟩ := ho.ex
  refine ⟨⟨_, pg_fld po, fun ρ μ δ σ H d v Q rel env dv ok => ?_⟩⟩
  unfold gfld at ok
  refine ro ρ μ δ σ H _ rel env ?_
  revert ok
  cases mo δ μ with
  | err C w μ1 => exact id
  | bad => exact id
  | ok x μ1 =>
    intro ok ρ1 H1 xv p1 f1 rel1 dx
    refine setF_ok hn rel1 dx (dv.mono p1 f1) ?_
    have ok1 : OkG X.K hx ρ H (match setF Cs f x d μ1 with | .ok _ μ2 => .ok δ μ2 | _ => .bad) Q (fun c d H' => W c d σ H') := ok
    revert ok1
    cases setF Cs f x d μ1 with
    | ok u μ3 => exact fun ok2 ρ3 H3 p3 f3 rel3 => ok2 ρ3 H3 σ (p1.trans p3) (f1.trans f3) rel3 ((env.mono p1 f1).mono p3 f3)
    | err _ _ _ => exact id
    | bad => exact id
end
end Doz
end
section
namespace Doz
open PySem L2
mutual
def D.same : D → D → Bool
  | .non, .non => true
  | .bl a, .bl b => a == b
  | .int i, .int j => i == j
  | .str x, .str y => x == y
  | .lst xs, .lst ys => D.sames xs ys
  | .tup xs, .tup ys => D.sames xs ys
  | .loc n, .loc m => n == m
  | .sta n, .sta m => n == m
  | .ty n, .ty m => n == m
  | _, _ => false
def D.sames : List D → List D → Bool
  | [], [] => true
  | x :: xs, y :: ys => D.same x y && D.sames xs ys
  | _, _ => false
end
mutual
theorem D.same_eq : ∀ (a b : D), D.same a b = true → a = b
  | .non, b, h => by cases b <;> simp_all [D.same]
  | .bl x, b, h => by cases b <;> simp_all [D.same]
  | .int x, b, h => by cases b <;> simp_all [D.same]
  | .str x, b, h => by cases b <;> simp_all [D.same]
  | .tup xs, b, h => by
    cases b with
    | tup ys => rw [D.sames_eq xs ys (by simpa [D.same] using h)]
    | _ => simp [D.same] at h
  | .lst xs, b, h => by
    cases b with
    | lst ys => rw [D.sames_eq xs ys (by simpa [D.same] using h)]
    | _ => simp [D.same] at h
  | .loc _, b, h => by cases b <;> simp_all [D.same]
  | .sta _, b, h => by cases b <;> simp_all [D.same]
  | .ty _, b, h => by cases b <;> simp_all [D.same]
theorem D.sames_eq : ∀ (a b : List D), D.sames a b = true → a = b
  | [], b, h => by cases b <;> simp_all [D.sames]
  | x :: xs, b, h => by
    cases b with
    | nil => simp [D.sames] at h
    | cons y ys =>
      simp only [D.sames, Bool.and_eq_true] at h
      rw [D.same_eq x y h.1, D.sames_eq xs ys h.2]
end
mutual
theorem D.same_refl : ∀ a : D, D.same a a = true
  | .non => by simp [D.same]
  | .bl x => by simp [D.same]
  | .int x => by simp [D.same]
  | .str x => by simp [D.same]
  | .tup xs => by simp only [D.same]; exact D.sames_refl xs
  | .lst xs => by simp only [D.same]; exact D.sames_refl xs
  | .loc _ => by simp [D.same]
  | .sta _ => by simp [D.same]
  | .ty _ => by simp [D.same]
theorem D.sames_refl : ∀ a : List D, D.sames a a = true
  | [] => by simp [D.sames]
  | x :: xs => by simp [D.sames, D.same_refl x, D.sames_refl xs]
end
abbrev Its0 := List D × (Mem → Bool)
def ItR (K : PySem.W.Frag) : Rl Its0 It := fun ρ0 H0 a J => ∀ ρ μ H (i : Nat), Pre ρ0 ρ → Fz ρ0 ρ H0 H → Rel K ρ μ H → a.2 μ = true →
  (∀ d, a.1[i]? = some d → J.go i H ∧ ∀ x H', J.yld i H x H' → Fz ρ ρ H H' ∧ Rel K ρ μ H' ∧ DV K ρ H' d x) ∧ (i = a.1.length → J.stop i H)
structure RI (X : Cx) (hx : Option HX) (W : WX) (tg iter : Expr) (m : MX Its0) : Prop where
  ex : ∃ wi : TI, PI X tg iter wi ∧ Ref X.K hx W (ItR X.K) wi m
theorem PI.or {X : Cx} {tg iter : Expr} {w w' : TI} (h : PI X tg iter w) (h' : PI X tg iter w') : PI X tg iter (fun σ H R => w σ H R ∨ w' σ H R) :=
  ⟨fun pins s σ H R I q => q.elim (h.run pins s σ H R I) (h'.run pins s σ H R I)⟩
def lstIs (d : D) (ds : List D) (μ : Mem) : Bool := match lstOf μ d with
  | some es => D.sames ds es
  | none => false
theorem lstIs_eq {d : D} {ds : List D} {μ : Mem} (h : lstIs d ds μ = true) : lstOf μ d = some ds := by
  unfold lstIs at h
  split at h
  · rename_i es e
    rw [D.sames_eq ds es h]; exact e
  · cases h
def signs (x : Str) : List D := x.cps.toList.map fun c => D.str ⟨#[c]⟩
def fIter (d : D) (μ : Mem) : Res Its0 := match d with
  | .str x => .ok (signs x, fun _ => true) μ
  | .tup ds => .ok (ds, fun _ => true) μ
  | .lst ds => .ok (ds, fun _ => true) μ
  | d => match lstOf μ d with
    | some ds => .ok (ds, lstIs d ds) μ
    | none => .bad
def miter (m : ME) : MX Its0 := bindM m fun d => fun _ μ => fIter d μ
section
variable {X : Cx} {hx : Option HX} {W : WX} {tg e : Expr} {m : ME}
theorem itr_list {K : PySem.W.Frag} {ρ0 : List Addr} {H0 : Hp} {d : D} {a : Addr} {ds : List D} {g : Mem → Bool} (dv : DV K ρ0 H0 d (.ref a)) (hg : ∀ μ, g μ = true → lstOf μ d = some ds) : ItR K ρ0 H0 (ds, g) (Itl K a) := by
  intro ρ μ H i p f rel gd
  obtain ⟨b, vs, e1, e2, e3⟩ := lstOf_ok rel (dv.mono p f) (hg μ gd)
  cases e1
  refine ⟨fun d hd => ?_, fun hi => ?_⟩
  · obtain ⟨v, hv, dv'⟩ := e3.get hd
    refine ⟨⟨vs, v, rd_sq e2, hv⟩, fun x H' y => ?_⟩
    obtain ⟨rfl, y⟩ := y
    have : x = v := Option.some.inj ((y vs (rd_sq e2)).symm.trans hv)
    subst this
    exact ⟨Fz.refl _, rel, dv'⟩
  · exact ⟨vs, rd_sq e2, by rw [← e3.length, hi]; exact Nat.le_refl _⟩
theorem itr_tup {K : PySem.W.Frag} {ρ0 : List Addr} {H0 : Hp} {a : Addr} {ds : List D} {g : Mem → Bool} (dv : DV K ρ0 H0 (.tup ds) (.ref a)) : ItR K ρ0 H0 (ds, g) (Itt K a) := by
  intro ρ μ H i p f rel gd
  obtain ⟨b, vs, e1, e2, e3⟩ := tup_ok (dv.mono p f)
  cases e1
  refine ⟨fun d hd => ?_, fun hi => ?_⟩
  · obtain ⟨v, hv, dv'⟩ := e3.get hd
    refine ⟨⟨vs, v, e2.sq, hv⟩, fun x H' y => ?_⟩
    obtain ⟨rfl, y⟩ := y
    have : x = v := Option.some.inj ((y vs e2.sq).symm.trans hv)
    subst this
    exact ⟨Fz.refl _, rel, dv'⟩
  · exact ⟨vs, e2.sq, by rw [← e3.length, hi]; exact Nat.le_refl _⟩
theorem itr_str {K : PySem.W.Frag} {ρ0 : List Addr} {H0 : Hp} {z : Str} {g : Mem → Bool} : ItR K ρ0 H0 (signs z, g) (Its z) := by
  intro ρ μ H i p f rel gd
  refine ⟨fun d hd => ?_, fun hi => ?_⟩
  · have hd' : (z.cps.toList.map fun c => D.str ⟨#[c]⟩)[i]? = some d := hd
    rw [List.getElem?_map] at hd'
    obtain ⟨c, hc, rfl⟩ := Option.map_eq_some_iff.mp hd'
    rw [Array.getElem?_toList] at hc
    refine ⟨(Array.getElem?_eq_some_iff.mp hc).1, fun x H' y => ?_⟩
    obtain ⟨rfl, c', hc', rfl⟩ := y
    have : c = c' := Option.some.inj (hc.symm.trans hc')
    subst this
    exact ⟨Fz.refl _, rel, dv_str⟩
  · have : i = z.cps.size := by rw [hi]; simp [signs]
    exact Nat.le_of_eq this.symm
theorem ri_seq (he : RE X hx W e m) : RI X hx W tg e (miter m) := by
  obtain ⟨t, p, r⟩ := he.ex
  refine ⟨⟨_, PI.or (pi_list p) (PI.or (pi_tup p) (pi_str p)), fun ρ0 μ0 δ σ H0 Q rel0 env0 ok0 => ?_⟩⟩
  unfold miter bindM at ok0
  have run : ∀ (P : VK), Okr X.K (DV X.K) ρ0 H0 (m δ μ0) P (fun c d H' => W c d σ H') → t σ H0 P := fun P ok => r ρ0 μ0 δ σ H0 P rel0 env0 ok
  cases em : m δ μ0 with
  | err C w μ1 =>
    rw [em] at ok0 run
    exact .inl (run _ ok0)
  | bad => rw [em] at ok0; exact ok0.elim
  | ok d μ1 =>
    rw [em] at ok0 run
    have ok1 : Okr X.K (ItR X.K) ρ0 H0 (fIter d μ1) Q (fun c d H' => W c d σ H') := ok0
    unfold fIter at ok1
    split at ok1
    · rename_i z
      refine .inr (.inr (run _ fun ρ1 H1 v pr fz rel dv => ⟨z, str_ok dv, ok1 ρ1 H1 _ pr fz rel itr_str⟩))
    · rename_i ds
      refine .inr (.inl (run _ fun ρ1 H1 v pr fz rel dv => ?_))
      obtain ⟨a, vs, rfl, e2, e3⟩ := tup_ok dv
      exact ⟨a, rfl, ⟨vs, e2.sq⟩, ok1 ρ1 H1 _ pr fz rel (itr_tup dv)⟩
    · rename_i ds
      refine .inl (run _ fun ρ1 H1 v pr fz rel dv => ?_)
      obtain ⟨a, vs, rfl, e2, e3⟩ := lstOf_ok rel dv (ds := ds) rfl
      exact ⟨a, rfl, ⟨vs, rd_sq e2⟩, ok1 ρ1 H1 _ pr fz rel (itr_list dv fun _ _ => rfl)⟩
    · split at ok1
      · rename_i ds hd
        refine .inl (run _ fun ρ1 H1 v pr fz rel dv => ?_)
        obtain ⟨a, vs, rfl, e2, e3⟩ := lstOf_ok rel dv hd
        exact ⟨a, rfl, ⟨vs, rd_sq e2⟩, ok1 ρ1 H1 _ pr fz rel (itr_list dv fun _ h => lstIs_eq h)⟩
      · exact ok1.elim
def rngItems (lo : Int) (n : Nat) : List D := (List.range n).map fun i => D.int (lo + (i : Nat))
def fRng1 (ds : List D) (μ : Mem) : Res Its0 := match ds with
  | [.int j] => if -(2 ^ 62) ≤ j ∧ j < 2 ^ 62 then .ok (rngItems 0 j.toNat, fun _ => true) μ else .bad
  | _ => .bad
def fRng2 (ds : List D) (μ : Mem) : Res Its0 := match ds with
  | [.int i, .int j] => if -(2 ^ 62) ≤ i ∧ i < 2 ^ 62 ∧ -(2 ^ 62) ≤ j ∧ j < 2 ^ 62 then .ok (rngItems i (j - i).toNat, fun _ => true) μ else .bad
  | _ => .bad
theorem itr_rng {K : PySem.W.Frag} {ρ0 : List Addr} {H0 : Hp} {lo : Int} {n : Nat} {g : Mem → Bool} : ItR K ρ0 H0 (rngItems lo n, g) (Itr lo n) := by
  intro ρ μ H i p f rel gd
  refine ⟨fun d hd => ?_, fun hi => ?_⟩
  · have hd' : ((List.range n).map fun i => D.int (lo + (i : Nat)))[i]? = some d := hd
    rw [List.getElem?_map] at hd'
    obtain ⟨c, hc, rfl⟩ := Option.map_eq_some_iff.mp hd'
    obtain ⟨h1, h2⟩ := List.getElem?_eq_some_iff.mp hc
    simp at h1 h2
    subst h2
    refine ⟨h1, fun x H' y => ?_⟩
    obtain ⟨rfl, rfl⟩ := y
    exact ⟨Fz.refl _, rel, dv_int⟩
  · have : i = n := by rw [hi]; simp [rngItems]
    exact Nat.le_of_eq this.symm
theorem ri_range1 {a : Expr} {p pos : Pos} {ma : MX (List D)} (hm : X.mg "range" = none) (ha : RA X hx W [a] ma) (hg : Gl X "range" := by rfl) (hs : starEach [a] X.env = [(false, eval a X.env)] := by rfl) : RI X hx W tg (.Call (.Name "range" p) [a] [] pos) (mcall fRng1 ma) := by
  obtain ⟨t, pt, rt⟩ := ha.ex
  refine ⟨⟨_, pi_range1 hg hm pt hs, fun ρ0 μ0 δ σ H0 Q rel0 env0 ok0 => rt ρ0 μ0 δ σ H0 _ rel0 env0 (Okr.bind ok0 fun ds μ ρ H vs pr fz rel dv ok => ?_)⟩⟩
  unfold fRng1 at ok
  dsimp only at ok
  split at ok
  · split at ok
    · rename_i j h
      obtain ⟨v, rfl, h1⟩ := dv.one
      exact ⟨j, by rw [int_ok h1], h.1, h.2, ok ρ H _ (Pre.refl _) (Fz.refl _) rel itr_rng⟩
    · exact ok.elim
  · exact ok.elim
theorem ri_range2 {a b : Expr} {p pos : Pos} {ma : MX (List D)} (hm : X.mg "range" = none) (ha : RA X hx W [a, b] ma) (hg : Gl X "range" := by rfl) (hs : starEach [a, b] X.env = [(false, eval a X.env), (false, eval b X.env)] := by rfl) (hs2 : starEach [b] X.env = [(false, eval b X.env)] := by rfl) : RI X hx W tg (.Call (.Name "range" p) [a, b] [] pos) (mcall fRng2 ma) := by
  obtain ⟨t, pt, rt⟩ := ha.ex
  refine ⟨⟨_, pi_range2 hg hm pt hs hs2, fun ρ0 μ0 δ σ H0 Q rel0 env0 ok0 => rt ρ0 μ0 δ σ H0 _ rel0 env0 (Okr.bind ok0 fun ds μ ρ H vs pr fz rel dv ok => ?_)⟩⟩
  unfold fRng2 at ok
  dsimp only at ok
  split at ok
  · split at ok
    · rename_i i j h
      obtain ⟨v, u, rfl, h1, h2⟩ := dv.two
      exact ⟨i, j, by rw [int_ok h1, int_ok h2], h, ok ρ H _ (Pre.refl _) (Fz.refl _) rel itr_rng⟩
    · exact ok.elim
  · exact ok.elim
end
def mloop (g : MG) (body : MS) (gd : Mem → Bool) : List D → MS
  | [], δ, μ => if gd μ = true then .nx δ μ else .bad
  | d :: ds, δ, μ => if gd μ = true then match g d δ μ with
      | .ok δ1 μ1 => match body δ1 μ1 with
        | .nx δ2 μ2 => mloop g body gd ds δ2 μ2
        | .ct δ2 μ2 => mloop g body gd ds δ2 μ2
        | .bk δ2 μ2 => .nx δ2 μ2
        | .rt d μ2 => .rt d μ2
        | .err C w δ2 μ2 => .err C w δ2 μ2
        | .bad => .bad
      | _ => .bad
    else .bad
def mfor (mi : MX Its0) (g : MG) (body : MS) : MS := ofE mi fun it => fun δ μ => mloop g body it.2 it.1 δ μ
theorem loop_ref {K : PySem.W.Frag} {hx : Option HX} {W : WX} {J : It} {g : TG} {tb : TS} {mg : MG} {mb : MS} {items : List D} {gd : Mem → Bool} {ρ0 : List Addr} {H0 : Hp} {Dn : Ends} (ij : ItR K ρ0 H0 (items, gd) J) (hg : RefG K hx W g mg) (hb : RefS K hx W tb mb)
    {ρ : List Addr} {μ : Mem} {H : Hp} {δ : DEnv} {σ : St} (p0 : Pre ρ0 ρ) (f0 : Fz ρ0 ρ H0 H) (rel : Rel K ρ μ H) (env : EnvR K ρ H hx δ σ) (ok : OkS K hx W ρ H (mloop mg mb gd items δ μ) Dn) :
    ∃ W' : Nat → Nat → St → Hp → Prop, (∃ m, W' 0 m σ H) ∧ ∀ i m σ H, W' i m σ H →
      (J.stop i H ∧ Dn.nx σ H) ∨ (J.go i H ∧ ∃ N : St → Hp → Prop, (∀ σ' H', N σ' H' → ∃ m', m' < m ∧ W' (i + 1) m' σ' H') ∧ ∀ x H', J.yld i H x H' → g x σ H' fun σ2 H2 => tb { Dn with nx := N, ct := N, bk := Dn.nx } σ2 H2) := by
  refine ⟨fun i m σ H => m = items.length - i ∧ i ≤ items.length ∧ ∃ ρ μ δ, Pre ρ0 ρ ∧ Fz ρ0 ρ H0 H ∧ Rel K ρ μ H ∧ EnvR K ρ H hx δ σ ∧ OkS K hx W ρ H (mloop mg mb gd (items.drop i) δ μ) Dn, ⟨items.length, by simp, Nat.zero_le _, ρ, μ, δ, p0, f0, rel, env, by simpa using ok⟩, ?_⟩
  rintro i m σ H ⟨rfl, hi, ρ, μ, δ, p0, f0, rel, env, ok⟩
  by_cases hlt : i < items.length
  · have e : items.drop i = items[i] :: items.drop (i + 1) := List.drop_eq_getElem_cons hlt
    rw [e] at ok
    simp only [mloop] at ok
    split at ok
    · rename_i hgd
      obtain ⟨h1, _⟩ := ij ρ μ H i p0 f0 rel hgd
      obtain ⟨hgo, hy⟩ := h1 items[i] (List.getElem?_eq_getElem hlt)
      refine .inr ⟨hgo, fun σ' H' => ∃ ρ μ δ, Pre ρ0 ρ ∧ Fz ρ0 ρ H0 H' ∧ Rel K ρ μ H' ∧ EnvR K ρ H' hx δ σ' ∧ OkS K hx W ρ H' (mloop mg mb gd (items.drop (i + 1)) δ μ) Dn, fun σ' H' h => ⟨items.length - (i + 1), by omega, rfl, hlt, h⟩, fun x H' yl => ?_⟩
      obtain ⟨fz, rel', dv⟩ := hy x H' yl
      have env' := env.mono (Pre.refl _) fz
      refine hg ρ μ δ σ H' items[i] x _ rel' env' dv ?_
      cases eg : mg items[i] δ μ with
      | err C w μ1 => rw [eg] at ok; exact ok.elim
      | bad => rw [eg] at ok; exact ok.elim
      | ok δ1 μ1 =>
        rw [eg] at ok
        intro ρ1 H1 σ1 p1 f1 rel1 env1
        refine hb ρ1 μ1 δ1 σ1 H1 _ rel1 env1 ?_
        dsimp only at ok
        have fzz := fz.trans f1
        cases eb : mb δ1 μ1 with
        | nx δ2 μ2 =>
          rw [eb] at ok
          exact fun ρ2 H2 σ2 p2 f2 rel2 env2 => ⟨ρ2, μ2, δ2, p0.trans (p1.trans p2), f0.trans (fzz.trans f2), rel2, env2, OkS.mono (p1.trans p2) (fzz.trans f2) ok⟩
        | ct δ2 μ2 =>
          rw [eb] at ok
          exact fun ρ2 H2 σ2 p2 f2 rel2 env2 => ⟨ρ2, μ2, δ2, p0.trans (p1.trans p2), f0.trans (fzz.trans f2), rel2, env2, OkS.mono (p1.trans p2) (fzz.trans f2) ok⟩
        | bk δ2 μ2 =>
          rw [eb] at ok
          exact fun ρ2 H2 σ2 p2 f2 rel2 env2 => ok ρ2 H2 σ2 (p1.trans p2) (fzz.trans f2) rel2 env2
        | rt d μ2 =>
          rw [eb] at ok
          exact fun ρ2 H2 v p2 f2 rel2 dv2 => ok ρ2 H2 v (p1.trans p2) (fzz.trans f2) rel2 dv2
        | err C w δ2 μ2 =>
          rw [eb] at ok
          exact fun ρ2 H2 σ2 dd v p2 f2 => ok ρ2 H2 σ2 dd v (p1.trans p2) (fzz.trans f2)
        | bad => rw [eb] at ok; exact ok.elim
    · exact ok.elim
  · have e : i = items.length := by omega
    subst e
    rw [List.drop_length] at ok
    simp only [mloop] at ok
    split at ok
    · rename_i hgd
      obtain ⟨_, h2⟩ := ij ρ μ H items.length p0 f0 rel hgd
      exact .inl ⟨h2 rfl, ok ρ H σ (Pre.refl _) (Fz.refl _) rel env⟩
    · exact ok.elim
section
variable {X : Cx} {hx : Option HX} {W : WX} {tg iter : Expr} {body : List Stmt} {pos : Pos} {mi : MX Its0} {mg : MG} {mb : MS}
theorem rs_for (hp : PassesOwn (model X.prog X.w) X.A X.env X.xe) (hc : X.calm = true) (hi : RI X hx W tg iter mi) (hg : RG X hx W tg mg) (hb : RSs X hx W body mb) (hs : ∀ x, foldedSetIterable iter X.env x = pure x := by intro _; rfl) : RS X hx W (.For tg iter body [] pos) (mfor mi mg mb) := by
  obtain ⟨wi, pi, ri⟩ := hi.ex
  obtain ⟨g, pg, rg⟩ := hg.ex
  obtain ⟨tb, pb, rb⟩ := hb.ex
  exact ⟨⟨_, ps_for hp hc pi pg pb hs, fun ρ μ δ σ H Dn rel env ok => ri ρ μ δ σ H _ rel env (OkS.ofE env ok fun it μ1 ρ1 H1 J pr fz rel1 ij ok1 => loop_ref ij rg rb (Pre.refl _) (Fz.refl _) rel1 (env.mono pr fz) ok1)⟩⟩
def mwhile (t : MX Bool) (body : MS) : Nat → MS
  | 0, _, _ => .bad
  | f + 1, δ, μ => match t δ μ with
    | .ok true μ1 => match body δ μ1 with
      | .nx δ2 μ2 => mwhile t body f δ2 μ2
      | .ct δ2 μ2 => mwhile t body f δ2 μ2
      | .bk δ2 μ2 => .nx δ2 μ2
      | .rt d μ2 => .rt d μ2
      | .err C w δ2 μ2 => .err C w δ2 μ2
      | .bad => .bad
    | .ok false μ1 => .nx δ μ1
    | .err C w μ1 => .err C w δ μ1
    | .bad => .bad
theorem rs_while {c : Expr} {mt : MX Bool} (fuel : Nat) (hp : PassesOwn (model X.prog X.w) X.A X.env X.xe) (hc : RT X hx W c mt) (hb : RSs X hx W body mb) : RS X hx W (.While c body [] pos) (mwhile mt mb fuel) := by
  obtain ⟨tc, pc, rc⟩ := hc.ex
  obtain ⟨tb, pb, rb⟩ := hb.ex
  refine ⟨⟨_, ps_while hp pc pb, fun ρ μ δ σ H Dn rel env ok => ?_⟩⟩
  refine ⟨fun m σ' H' => ∃ ρ' μ' δ', Pre ρ ρ' ∧ Fz ρ ρ' H H' ∧ Rel X.K ρ' μ' H' ∧ EnvR X.K ρ' H' hx δ' σ' ∧ OkS X.K hx W ρ' H' (mwhile mt mb m δ' μ') Dn, ⟨fuel, ρ, μ, δ, Pre.refl _, Fz.refl _, rel, env, ok⟩, ?_⟩
  rintro m σ1 H1 ⟨ρ1, μ1, δ1, p1, f1, rel1, env1, ok1⟩
  cases m with
  | zero => exact ok1.elim
  | succ f =>
    simp only [mwhile] at ok1
    refine rc ρ1 μ1 δ1 σ1 H1 _ rel1 env1 ?_
    cases et : mt δ1 μ1 with
    | err C w μ2 =>
      rw [et] at ok1
      exact fun ρ2 H2 dd v p2 f2 rel2 hd dv => ok1 ρ2 H2 σ1 dd v p2 f2 rel2 (env1.mono p2 f2) hd dv
    | bad => rw [et] at ok1; exact ok1.elim
    | ok b μ2 =>
      rw [et] at ok1
      intro ρ2 H2 b' p2 f2 rel2 e
      have e' : b = b' := e
      subst e'
      cases b with
      | false => exact iteF (ok1 ρ2 H2 σ1 p2 f2 rel2 (env1.mono p2 f2))
      | true =>
        refine iteT ⟨fun σ' H' => ∃ ρ' μ' δ', Pre ρ ρ' ∧ Fz ρ ρ' H H' ∧ Rel X.K ρ' μ' H' ∧ EnvR X.K ρ' H' hx δ' σ' ∧ OkS X.K hx W ρ' H' (mwhile mt mb f δ' μ') Dn, fun σ' H' h => ⟨f, Nat.lt_succ_self _, h⟩, ?_⟩
        refine rb ρ2 μ2 δ1 σ1 H2 _ rel2 (env1.mono p2 f2) ?_
        dsimp only at ok1
        cases eb : mb δ1 μ2 with
        | nx δ2 μ3 =>
          rw [eb] at ok1
          exact fun ρ3 H3 σ3 p3 f3 rel3 env3 => ⟨ρ3, μ3, δ2, p1.trans (p2.trans p3), f1.trans (f2.trans f3), rel3, env3, OkS.mono (p2.trans p3) (f2.trans f3) ok1⟩
        | ct δ2 μ3 =>
          rw [eb] at ok1
          exact fun ρ3 H3 σ3 p3 f3 rel3 env3 => ⟨ρ3, μ3, δ2, p1.trans (p2.trans p3), f1.trans (f2.trans f3), rel3, env3, OkS.mono (p2.trans p3) (f2.trans f3) ok1⟩
        | bk δ2 μ3 =>
          rw [eb] at ok1
          exact fun ρ3 H3 σ3 p3 f3 rel3 env3 => ok1 ρ3 H3 σ3 (p2.trans p3) (f2.trans f3) rel3 env3
        | rt d μ3 =>
          rw [eb] at ok1
          exact fun ρ3 H3 v p3 f3 rel3 dv3 => ok1 ρ3 H3 v (p2.trans p3) (f2.trans f3) rel3 dv3
        | err C w δ2 μ3 =>
          rw [eb] at ok1
          exact fun ρ3 H3 σ3 dd v p3 f3 => ok1 ρ3 H3 σ3 dd v (p2.trans p3) (f2.trans f3)
        | bad => rw [eb] at ok1; exact ok1.elim
end
end Doz
end
section
namespace Doz
open PySem L2
def wipeD (δ : DEnv) : List Nat → DEnv
  | [] => δ
  | i :: is => (wipeD δ is).set i none
theorem wipeD_length (δ : DEnv) : ∀ vs : List Nat, (wipeD δ vs).length = δ.length
  | [] => rfl
  | v :: vs => by unfold wipeD; rw [List.length_set, wipeD_length δ vs]
theorem EnvR.unset {K : PySem.W.Frag} {ρ : List Addr} {H : Hp} {δ : DEnv} {σ : St} {i : Nat} (e : EnvR K ρ H none δ σ) : EnvR K ρ H none (δ.set i none) (σ.set i none) := by
  refine ⟨by simp [e.len], fun j d' h => ?_, fun q h => by cases h⟩
  by_cases hj : i = j
  · subst hj
    have hl : i < δ.length := by
      have := (List.getElem?_eq_some_iff.mp h).1
      simpa using this
    rw [List.getElem?_set_self hl] at h
    cases h
  · rw [List.getElem?_set_ne hj] at h
    obtain ⟨u, h1, h2⟩ := e.get j d' h
    exact ⟨u, by rw [List.getElem?_set_ne hj]; exact h1, h2⟩
theorem EnvR.nox {K : PySem.W.Frag} {ρ : List Addr} {H : Hp} {hx : Option HX} {δ : DEnv} {σ : St} (e : EnvR K ρ H hx δ σ) : EnvR K ρ H none δ σ := ⟨e.len, e.get, fun _ h => by cases h⟩
theorem EnvR.wipe {K : PySem.W.Frag} {ρ : List Addr} {H : Hp} {δ : DEnv} {σ : St} (e : EnvR K ρ H none δ σ) : ∀ vs : List Nat, EnvR K ρ H none (wipeD δ vs) (L2.wipe σ vs)
  | [] => e
  | v :: vs => (EnvR.wipe e vs).unset
theorem set_wipe {σ : St} {i : Nat} {x : Option V} : ∀ {vs : List Nat}, i ∈ vs → L2.wipe (σ.set i x) vs = L2.wipe σ vs
  | v :: vs, h => by
    unfold L2.wipe
    by_cases hi : i ∈ vs
    · rw [set_wipe hi]
    · have : v = i := by
        rcases List.mem_cons.mp h with h | h
        · exact h.symm
        · exact absurd h hi
      subst this
      have key : ∀ (ws : List Nat) (τ : St), v ∉ ws → L2.wipe (τ.set v x) ws = (L2.wipe τ ws).set v x := by
        intro ws
        induction ws with
        | nil => intro τ _; rfl
        | cons w ws ih =>
          intro τ hw
          simp only [List.mem_cons, not_or] at hw
          unfold L2.wipe
          rw [ih τ hw.2, List.set_comm _ _ hw.1]
      rw [key vs σ hi, List.set_set]
theorem wipe_wipe {σ : St} {us : List Nat} : ∀ {vs : List Nat}, (∀ i ∈ vs, i ∈ us) → L2.wipe (L2.wipe σ vs) us = L2.wipe σ us
  | [], _ => rfl
  | v :: vs, h => by
    show L2.wipe ((L2.wipe σ vs).set v Option.none) us = _
    rw [set_wipe (h v List.mem_cons_self)]
    exact wipe_wipe fun i hi => h i (List.mem_cons_of_mem _ hi)
def OkGw (K : PySem.W.Frag) (vs : List Nat) (σ0 : St) (ρ : List Addr) (H : Hp) (r : Res DEnv) (Q : St → Hp → Prop) : Prop := match r with
  | .ok δ μ => ∀ ρ' H' σ, Pre ρ ρ' → Fz ρ ρ' H H' → Rel K ρ' μ H' → EnvR K ρ' H' none δ σ → L2.wipe σ vs = L2.wipe σ0 vs → Q σ H'
  | _ => False
structure RGc (X : Cx) (scope : Scope) (vs : List Nat) (tg : Expr) (mg : MG) : Prop where
  ex : ∃ g : TG, (∀ (s : Shared) (H : Hp) (C : Addr) (cl : List (Str × Addr)) (fp : List Addr), PG (X.blk s H scope (compEnvC scope cl C X.env) fp) tg g) ∧
    ∀ ρ μ δ σ H d v (Q : St → Hp → Prop), Rel X.K ρ μ H → EnvR X.K ρ H none δ σ → DV X.K ρ H d v → OkGw X.K vs σ ρ H (mg d δ μ) Q → g v σ H Q
structure RGcs (X : Cx) (scope : Scope) (vs : List Nat) (tgs : List Expr) (mg : MGs) : Prop where
  ex : ∃ g : TGs, (∀ (s : Shared) (H : Hp) (C : Addr) (cl : List (Str × Addr)) (fp : List Addr), PGs (X.blk s H scope (compEnvC scope cl C X.env) fp) tgs g) ∧
    ∀ ρ μ δ σ H d v (Q : St → Hp → Prop), Rel X.K ρ μ H → EnvR X.K ρ H none δ σ → DVs X.K ρ H d v → OkGw X.K vs σ ρ H (mg d δ μ) Q → g v σ H Q
section
variable {X : Cx} {scope : Scope} {vs : List Nat} {pos : Pos}
theorem rgc_name (i : Nat) {x : Str} (hN : X.N.Nodup) (hm : i ∈ vs := by decide) (hi : X.N[i]? = some x := by rfl)
    (hl : ∀ (s : Shared) (H : Hp) (C : Addr) (cl : List (Str × Addr)) (fp : List Addr), Loc (X.blk s H scope (compEnvC scope cl C X.env) fp).env.scope x := by intros; first | exact Or.inl rfl | exact Or.inr rfl)
    (hf : ∀ (s : Shared) (H : Hp) (C : Addr) (cl : List (Str × Addr)) (fp : List Addr), (X.blk s H scope (compEnvC scope cl C X.env) fp).fn x = true ∨ (X.blk s H scope (compEnvC scope cl C X.env) fp).env.scope.names.lookup x = some .local := by intros; first | exact .inl rfl | exact .inr rfl) : RGc X scope vs (.Name x pos) (gset i) :=
  ⟨⟨gName i, fun s H C cl fp => pg_name hN hi (hl s H C cl fp) (hf s H C cl fp), fun ρ μ δ σ H d v Q rel env dv ok => ok ρ H _ (Pre.refl _) (Fz.refl _) rel (env.set dv fun _ h => by cases h) (set_wipe hm)⟩⟩
theorem rgcs_nil : RGcs X scope vs [] gnil := by
  refine ⟨⟨_, fun _ _ _ _ _ => pgs_nil, fun ρ μ δ σ H ds vs Q rel env dv ok => ?_⟩⟩
  unfold gnil at ok
  split at ok
  · simp only [DVs] at dv
    exact ⟨dv, ok ρ H σ (Pre.refl _) (Fz.refl _) rel env rfl⟩
  · exact ok.elim
theorem rgcs_cons {tg : Expr} {tgs : List Expr} {g : MG} {gs : MGs} (h1 : RGc X scope vs tg g) (h2 : RGcs X scope vs tgs gs)
    (hs : ∀ (s : Shared) (H : Hp) (C : Addr) (cl : List (Str × Addr)) (fp : List Addr), (assignEach (tg :: tgs) (X.blk s H scope (compEnvC scope cl C X.env) fp).env).map (·.2) = assign tg (X.blk s H scope (compEnvC scope cl C X.env) fp).env :: (assignEach tgs (X.blk s H scope (compEnvC scope cl C X.env) fp).env).map (·.2) := by intros; rfl) : RGcs X scope vs (tg :: tgs) (gcons g gs) := by
  obtain ⟨t, p, r⟩ := h1.ex
  obtain ⟨u, q, w⟩ := h2.ex
  refine ⟨⟨_, fun s H C cl fp => pgs_cons (p s H C cl fp) (q s H C cl fp) (hs s H C cl fp), fun ρ μ δ σ H ds us Q rel env dv ok => ?_⟩⟩
  unfold gcons at ok
  split at ok
  · rename_i d rst
    simp only [DVs] at dv
    obtain ⟨v, vr, rfl, d1, d2⟩ := dv
    refine ⟨v, vr, rfl, r ρ μ δ σ H d v _ rel env d1 ?_⟩
    split at ok
    · rename_i δ1 μ1 e1
      rw [e1]
      intro ρ' H' σ' pr fz rel' env' hw
      refine w ρ' μ1 δ1 σ' H' rst vr Q rel' env' (d2.mono pr fz) ?_
      revert ok
      cases gs rst δ1 μ1 with
      | ok δ2 μ2 => exact fun ok ρ2 H2 σ2 p2 f2 r2 e2 w2 => ok ρ2 H2 σ2 (pr.trans p2) (fz.trans f2) r2 e2 (w2.trans hw)
      | err _ _ _ => exact id
      | bad => exact id
    · exact ok.elim
  · exact ok.elim
theorem rgc_tup {tgs : List Expr} {gs : MGs} {n k : Nat} (hc : X.calm = true) (h : RGcs X scope vs tgs gs)
    (hn : ∀ (s : Shared) (H : Hp) (C : Addr) (cl : List (Str × Addr)) (fp : List Addr), (assignEach tgs (X.blk s H scope (compEnvC scope cl C X.env) fp).env).length = n := by intros; rfl)
    (hst : ∀ (s : Shared) (H : Hp) (C : Addr) (cl : List (Str × Addr)) (fp : List Addr), (assignEach tgs (X.blk s H scope (compEnvC scope cl C X.env) fp).env).findIdx? (·.1) = none := by intros; rfl) : RGc X scope vs (.Tuple tgs k pos) (gtup n gs) := by
  obtain ⟨t, p, r⟩ := h.ex
  refine ⟨⟨gTup X.K n t, fun s H C cl fp => pg_tup (X := X.blk s H scope (compEnvC scope cl C X.env) fp) hc (p s H C cl fp) (hn s H C cl fp) (hst s H C cl fp), fun ρ μ δ σ H d v Q rel env dv ok => ?_⟩⟩
  unfold gtup at ok
  split at ok
  · split at ok
    · rename_i ds hl
      obtain ⟨a, us, rfl, h1, h2⟩ := tup_ok dv
      refine ⟨a, us, rfl, h1.sq, h2.length.symm.trans hl, r ρ μ δ σ H ds us Q rel env h2 ?_⟩
      split at ok
      · rename_i e1
        rw [e1]
        exact ok
      · exact ok.elim
    · exact ok.elim
  · exact ok.elim
def WF : WX := fun _ _ _ _ => False
def TmE {α β : Type} (K : PySem.W.Frag) (R : Rl α β) (m : MX α) : TX β := fun σ H Q => ∃ ρ μ δ, Rel K ρ μ H ∧ EnvR K ρ H none δ σ ∧ Okr K R ρ H (m δ μ) Q (fun _ _ _ => False)
theorem RE.pe {e : Expr} {m : ME} (h : RE X none WF e m) : PE X e (TmE X.K (DV X.K) m) := by
  obtain ⟨t, p, r⟩ := h.ex
  exact ⟨fun pins s σ H Q I ⟨ρ, μ, δ, rel, env, ok⟩ => p.run pins s σ H Q I (r ρ μ δ σ H Q rel env ok)⟩
theorem RT.pt {e : Expr} {m : MX Bool} (h : RT X none WF e m) : L2.PT X e (TmE X.K RT' m) := by
  obtain ⟨t, p, r⟩ := h.ex
  exact ⟨fun pins s σ H Q I ⟨ρ, μ, δ, rel, env, ok⟩ => p.run pins s σ H Q I (r ρ μ δ σ H Q rel env ok)⟩
structure RTs (X : Cx) (es : List Expr) (m : MX Bool) : Prop where
  p : PTs X es (TmE X.K RT' m)
def myes : MX Bool := fun _ μ => .ok true μ
theorem rts_nil : RTs X [] myes := ⟨⟨fun pins s σ H Q I ⟨ρ, μ, δ, rel, env, ok⟩ => pts_nil.run pins s σ H Q I (Okr.now (b := true) ok rel rfl)⟩⟩
theorem rts_one {e : Expr} {m : MX Bool} (h : RT X none WF e m) : RTs X [e] m := ⟨pts_one h.pt⟩
end
def compL (g : MG) (mt : MX Bool) (me : ME) (gd : Mem → Bool) (δ : DEnv) : List D → Mem → Res (List D)
  | [], μ => if gd μ = true then .ok [] μ else .bad
  | d :: ds, μ => if gd μ = true then match g d δ μ with
      | .ok δ1 μ1 => match mt δ1 μ1 with
        | .ok true μ2 => match me δ1 μ2 with
          | .ok y μ3 => match compL g mt me gd δ ds μ3 with
            | .ok ys μ4 => .ok (y :: ys) μ4
            | _ => .bad
          | _ => .bad
        | .ok false μ2 => compL g mt me gd δ ds μ2
        | _ => .bad
      | _ => .bad
    else .bad
def mcomp (vs : List Nat) (mi : MX Its0) (g : MG) (mt : MX Bool) (me : ME) : MX (List D) := bindM mi fun it => fun δ μ => if it.1.length ≤ sizeLine then compL g mt me it.2 (wipeD δ vs) it.1 μ else .bad
def addL (ds : List D) (r : Res (List D)) : Res (List D) := match r with
  | .ok ys μ => .ok (ds ++ ys) μ
  | .err C w μ => .err C w μ
  | .bad => .bad
theorem okr_false {α β : Type} {K : PySem.W.Frag} {R : Rl α β} {ρ : List Addr} {H : Hp} {a : α} {μ : Mem} {Q : β → Hp → Prop} (h : ∀ ρ' H' b, Pre ρ ρ' → Fz ρ ρ' H H' → Rel K ρ' μ H' → R ρ' H' a b → Q b H') : Okr K R ρ H (.ok a μ) Q (fun _ _ _ => False) := h
section
variable {X : Cx} {hx : Option HX} {W : WX} {scope : Scope} {vs : List Nat} {pos : Pos} {elt tg iter : Expr} {ifs : List Expr} {mi : MX Its0} {mg : MG} {mt : MX Bool} {me : ME}
theorem comp_ref {K : PySem.W.Frag} {J : It} {g : TG} {items : List D} {gd : Mem → Bool} {ρ0 : List Addr} {H0 : Hp} {σ : St} {δ : DEnv} {μ0 : Mem} {Q : VK} {E : XK} {p : Addr} (ij : ItR K ρ0 H0 (items, gd) J) (hg : ∀ ρ μ δ σ H d v (Q : St → Hp → Prop), Rel K ρ μ H → EnvR K ρ H none δ σ → DV K ρ H d v → OkGw K vs σ ρ H (mg d δ μ) Q → g v σ H Q)
    (hl : items.length ≤ sizeLine) (hp : H0 p = none) (rel0 : Rel K ρ0 μ0 H0) (env0 : EnvR K ρ0 H0 none (wipeD δ vs) (L2.wipe σ vs)) (ok : OkN K ρ0 H0 (compL mg mt me gd (wipeD δ vs) items μ0) Q E) :
    ∃ W : Nat → Nat → Hp → Prop, (∃ m, W 0 m (upd H0 p (.lst []))) ∧ ∀ i m H, W i m H →
  (J.stop i H ∧ Q (.ref p) H) ∨ (J.go i H ∧ ∃ Nx : Hp → Prop, (∀ H', Nx H' → ∃ m', m' < m ∧ W (i + 1) m' H') ∧ ∀ x H', J.yld i H x H' → g x (L2.wipe σ vs) H' fun σ2 H2 => L2.wipe σ2 vs = L2.wipe σ vs ∧ TmE K RT' mt σ2 H2 fun b H3 =>
    if b = true then TmE K (DV K) me σ2 H3 fun y H4 => ∃ acc, H4 p = some (.lst acc) ∧ acc.length < sizeLine ∧ Nx (upd H4 p (.lst (acc ++ [y]))) else Nx H3) := by
  let St (i : Nat) (H : Hp) : Prop := ∃ ρ μ ds acc, Pre ρ0 ρ ∧ Fz ρ0 ρ H0 H ∧ Rel K ρ μ H ∧ p ∉ ρ ∧ H p = some (.lst acc) ∧ acc.length ≤ i ∧ DVs K ρ H ds acc ∧ OkN K ρ0 H0 (addL ds (compL mg mt me gd (wipeD δ vs) (items.drop i) μ)) Q E
  have wri : ∀ {i : Nat} {H : Hp} {ρ : List Addr} {μ : Mem} {ds : List D} {acc : List V} {y : V} {d : D}, Pre ρ0 ρ → Fz ρ0 ρ H0 H → Rel K ρ μ H → p ∉ ρ → H p = some (.lst acc) → acc.length ≤ i → DVs K ρ H ds acc → DV K ρ H d y → OkN K ρ0 H0 (addL (ds ++ [d]) (compL mg mt me gd (wipeD δ vs) (items.drop (i + 1)) μ)) Q E → St (i + 1) (upd H p (.lst (acc ++ [y]))) :=
    fun {i H ρ μ ds acc y d} pr fz rel hn ha hl hd dv ok => by
      have f1 : Fz0 H (upd H p (.lst (acc ++ [y]))) := Fz0.mut ha (fun _ => HO.noConfusion) (fun _ _ => HO.noConfusion)
      exact ⟨ρ, μ, ds ++ [d], acc ++ [y], pr, fz.late hp, rel.other hn f1, hn, upd_same, by simp; omega, (hd.app (.cons dv .nil)).mono0 (Pre.refl _) f1, ok⟩
  refine ⟨fun i m H => m = items.length - i ∧ i ≤ items.length ∧ St i H, ⟨items.length, by simp, Nat.zero_le _, ρ0, μ0, [], [], Pre.refl _, Fz.new hp, rel0.alloc hp, rel0.fresh hp, upd_same, by simp, .nil, ?_⟩, ?_⟩
  · rw [List.drop_zero]
    revert ok
    cases compL mg mt me gd (wipeD δ vs) items μ0 with
    | ok ys μ => exact id
    | err C w μ => exact id
    | bad => exact id
  rintro i m H ⟨rfl, hi, ρ, μ, ds, acc, pr, fz, rel, hn, ha, hle, hd, ok⟩
  by_cases hlt : i < items.length
  · have e : items.drop i = items[i] :: items.drop (i + 1) := List.drop_eq_getElem_cons hlt
    rw [e] at ok
    simp only [compL] at ok
    split at ok
    · rename_i hgd
      obtain ⟨h1, _⟩ := ij ρ μ H i pr fz rel hgd
      obtain ⟨hgo, hy⟩ := h1 items[i] (List.getElem?_eq_getElem hlt)
      refine .inr ⟨hgo, St (i + 1), fun H' h => ⟨items.length - (i + 1), by omega, rfl, hlt, h⟩, fun x H' yl => ?_⟩
      obtain ⟨fz', rel', dv⟩ := hy x H' yl
      have ha' := fz'.keep p _ hn ha
      have fz1 := fz.trans fz'
      have env' := (env0.mono pr fz1)
      have hd' := hd.mono (Pre.refl _) fz'
      refine hg ρ μ (wipeD δ vs) (L2.wipe σ vs) H' items[i] x _ rel' env' dv ?_
      split at ok
      · rename_i δ1 μ1 eg
        rw [eg]
        intro ρ1 H1 σ1 p1 f1 rel1 env1 hw
        have hn1 : p ∉ ρ1 := fun z => by
          have := f1.fr p z hn
          rw [ha'] at this
          cases this
        have ha1 := f1.keep p _ hn ha'
        refine ⟨hw.trans (wipe_wipe fun _ h => h), ρ1, μ1, δ1, rel1, env1, ?_⟩
        split at ok
        · rename_i μ2 et
          rw [et]
          refine okr_false fun ρ2 H2 b p2 f2 rel2 eb => ?_
          obtain rfl : true = b := eb
          refine iteT ⟨ρ2, μ2, δ1, rel2, env1.mono p2 f2, ?_⟩
          have hn2 : p ∉ ρ2 := fun z => by
            have := f2.fr p z hn1
            rw [ha1] at this
            cases this
          have ha2 := f2.keep p _ hn1 ha1
          split at ok
          · rename_i y μ3 ee
            rw [ee]
            refine okr_false fun ρ3 H3 b p3 f3 rel3 dy => ?_
            have hn3 : p ∉ ρ3 := fun z => by
              have := f3.fr p z hn2
              rw [ha2] at this
              cases this
            have ha3 := f3.keep p _ hn2 ha2
            refine ⟨acc, ha3, by omega, wri (((pr.trans p1).trans p2).trans p3) (((fz1.trans f1).trans f2).trans f3) rel3 hn3 ha3 hle (((hd'.mono p1 f1).mono p2 f2).mono p3 f3) dy ?_⟩
            revert ok
            cases compL mg mt me gd (wipeD δ vs) (items.drop (i + 1)) μ3 with
            | ok ys μ => intro ok; simp only [addL, List.append_assoc, List.singleton_append] at ok ⊢; exact ok
            | err C w μ => exact fun ok => ok.elim
            | bad => exact id
          · exact ok.elim
        · rename_i μ2 et
          rw [et]
          refine okr_false fun ρ2 H2 b p2 f2 rel2 eb => ?_
          obtain rfl : false = b := eb
          have hn2 : p ∉ ρ2 := fun z => by
            have := f2.fr p z hn1
            rw [ha1] at this
            cases this
          have ha2 := f2.keep p _ hn1 ha1
          exact iteF ⟨ρ2, μ2, ds, acc, (pr.trans p1).trans p2, (fz1.trans f1).trans f2, rel2, hn2, ha2, by omega, (hd'.mono p1 f1).mono p2 f2, ok⟩
        · exact ok.elim
      · exact ok.elim
    · exact ok.elim
  · have e : i = items.length := by omega
    subst e
    rw [List.drop_length] at ok
    simp only [compL] at ok
    split at ok
    · rename_i hgd
      obtain ⟨_, h2⟩ := ij ρ μ H items.length pr fz rel hgd
      simp only [addL, List.append_nil] at ok
      exact .inl ⟨h2 rfl, ok ρ H _ pr fz rel ⟨p, acc, rfl, hp, ha, hn, hd⟩⟩
    · exact ok.elim
theorem rn_lc {own : List (Str × Nat)} (hc : X.calm = true) (hN : X.N.Nodup) (hi : RI X hx W tg iter mi) (ok : BlkOk X.N X.env.scope scope own) (hg : RGc X scope (own.map (·.2)) tg mg)
    (ht : ∀ (s : Shared) (H : Hp) (C : Addr) (cl : List (Str × Addr)) (fp : List Addr), RTs (X.blk s H scope (compEnvC scope cl C X.env) fp) ifs mt)
    (he : ∀ (s : Shared) (H : Hp) (C : Addr) (cl : List (Str × Addr)) (fp : List Addr), RE (X.blk s H scope (compEnvC scope cl C X.env) fp) none WF elt me) (hs : ∀ x, foldedSetIterable iter X.env x = pure x := by intro _; rfl) :
    RN X hx W (.ListComp elt [⟨tg, iter, ifs, 0⟩] scope pos) (mcomp (own.map (·.2)) mi mg mt me) := by
  obtain ⟨wi, pi, ri⟩ := hi.ex
  obtain ⟨g, pg, rg⟩ := hg.ex
  refine ⟨⟨_, pe_lc (tt := TmE X.K RT' mt) (te := TmE X.K (DV X.K) me) hc hN pi ok pg (fun s H C cl fp => (ht s H C cl fp).p) (fun s H C cl fp => (he s H C cl fp).pe) hs, fun ρ0 μ0 δ σ H0 Q rel0 env0 ok0 => ri ρ0 μ0 δ σ H0 _ rel0 env0 (OkN.bind ok0 fun it μ1 ρ1 H1 J pr fz rel1 ij ok1 => ?_)⟩⟩
  dsimp only at ok1
  split at ok1
  · rename_i hl
    exact fun D hD => comp_ref ij rg hl hD rel1 ((env0.mono pr fz).nox.wipe _) ok1
  · exact ok1.elim
theorem ps_fz {s : Stmt} {t : TS} (h : PS X s t) : PS X s (fun Dn σ H => t { Dn with nx := fun σ' H' => Dn.nx σ' H' ∨ ∃ a xs, H' a = some (.lst xs) ∧ ∀ o, Dn.nx σ' (upd H' a (.frz o (.lst xs))) } σ H) := by
  refine ⟨fun pins s σ H Dn I hw => thn (h.run pins s σ H _ I hw) fun f s1 hq => ?_⟩
  cases f with
  | next =>
    obtain ⟨σ', H', I', q | ⟨a, xs, ha, q⟩⟩ := hq
    · exact ⟨σ', H', I', q⟩
    · obtain ⟨o, I2⟩ := I'.lock ha trivial
      exact ⟨σ', _, I2, q o⟩
  | brk => exact hq
  | cont => exact hq
  | ret u => exact hq
theorem rs_setLc {i : Nat} {y : Str} {py spos : Pos} {own : List (Str × Nat)} (hc : X.calm = true) (hN : X.N.Nodup) (hi : RI X hx W tg iter mi) (ok : BlkOk X.N X.env.scope scope own) (hg : RGc X scope (own.map (·.2)) tg mg)
    (ht : ∀ (s : Shared) (H : Hp) (C : Addr) (cl : List (Str × Addr)) (fp : List Addr), RTs (X.blk s H scope (compEnvC scope cl C X.env) fp) ifs mt)
    (he : ∀ (s : Shared) (H : Hp) (C : Addr) (cl : List (Str × Addr)) (fp : List Addr), RE (X.blk s H scope (compEnvC scope cl C X.env) fp) none WF elt me)
    (hxi : ∀ q, hx = some q → i ≠ q.i := by intro _ h; first | (cases h; done) | (cases h; exact Nat.ne_of_beq_eq_false rfl))
    (hy : X.N[i]? = some y := by rfl) (hyl : X.env.scope.names.lookup y = some .local := by rfl)
    (hsw : swapsWith (.ListComp elt [⟨tg, iter, ifs, 0⟩] scope pos) (some (.Name y py)) spos.line X.env = pure true := by rfl) (hs : ∀ x, foldedSetIterable iter X.env x = pure x := by intro _; rfl) :
    RS X hx W (.Assign [.Name y py] (.ListComp elt [⟨tg, iter, ifs, 0⟩] scope pos) spos) (masg (mlc (mcomp (own.map (·.2)) mi mg mt me)) (gset i)) := by
  obtain ⟨wi, pi, ri⟩ := hi.ex
  obtain ⟨g, pg, rg⟩ := hg.ex
  refine ⟨⟨_, ps_setLc (tt := TmE X.K RT' mt) (te := TmE X.K (DV X.K) me) hc hN hy hyl hsw pi ok pg (fun s H C cl fp => (ht s H C cl fp).p) (fun s H C cl fp => (he s H C cl fp).pe) hs, fun ρ0 μ0 δ σ H0 Dn rel0 env0 ok0 => ?_⟩⟩
  have rn : RefN X.K hx W (tLc wi g (TmE X.K RT' mt) (TmE X.K (DV X.K) me) (own.map (·.2))) (mcomp (own.map (·.2)) mi mg mt me) := fun ρ0 μ0 δ σ H0 Q rel0 env0 ok0 => ri ρ0 μ0 δ σ H0 _ rel0 env0 (OkN.bind ok0 fun it μ1 ρ1 H1 J pr fz rel1 ij ok1 => by
    dsimp only at ok1
    split at ok1
    · rename_i hl
      exact fun D hD => comp_ref ij rg hl hD rel1 ((env0.mono pr fz).nox.wipe _) ok1
    · exact ok1.elim)
  refine rn ρ0 μ0 δ σ H0 _ rel0 env0 ?_
  unfold masg ofE mlc bindM at ok0
  cases e : mcomp (own.map (·.2)) mi mg mt me δ μ0 with
  | err C w μ1 =>
    rw [e] at ok0
    exact fun ρ1 H1 dd v p f rel hd dv => ok0 ρ1 H1 σ dd v p f rel (env0.mono p f) hd dv
  | bad => rw [e] at ok0; exact ok0
  | ok ds μ1 =>
    rw [e] at ok0
    rintro ρ H v pr fz rel ⟨q, vs, rfl, hu, hq, hn, hd⟩
    exact ok0 _ _ _ (pr.trans (Pre.app _ _)) (fz.lateA hu) (rel.adopt hn ⟨vs, hq, hd.mono0 (Pre.app _ _) (Fz0.refl _)⟩) ((env0.mono (pr.trans (Pre.app _ _)) (fz.lateA hu)).set (dv_last rel) hxi)
theorem rs_setLcF {i : Nat} {y : Str} {py spos : Pos} {own : List (Str × Nat)} (hc : X.calm = true) (hN : X.N.Nodup) (hi : RI X hx W tg iter mi) (ok : BlkOk X.N X.env.scope scope own) (hg : RGc X scope (own.map (·.2)) tg mg)
    (ht : ∀ (s : Shared) (H : Hp) (C : Addr) (cl : List (Str × Addr)) (fp : List Addr), RTs (X.blk s H scope (compEnvC scope cl C X.env) fp) ifs mt)
    (he : ∀ (s : Shared) (H : Hp) (C : Addr) (cl : List (Str × Addr)) (fp : List Addr), RE (X.blk s H scope (compEnvC scope cl C X.env) fp) none WF elt me)
    (hxi : ∀ q, hx = some q → i ≠ q.i := by intro _ h; first | (cases h; done) | (cases h; exact Nat.ne_of_beq_eq_false rfl))
    (hy : X.N[i]? = some y := by rfl) (hyl : X.env.scope.names.lookup y = some .local := by rfl)
    (hsw : swapsWith (.ListComp elt [⟨tg, iter, ifs, 0⟩] scope pos) (some (.Name y py)) spos.line X.env = pure true := by rfl) (hs : ∀ x, foldedSetIterable iter X.env x = pure x := by intro _; rfl) :
    RS X hx W (.Assign [.Name y py] (.ListComp elt [⟨tg, iter, ifs, 0⟩] scope pos) spos) (masg (mfz (mcomp (own.map (·.2)) mi mg mt me)) (gset i)) := by
  obtain ⟨wi, pi, ri⟩ := hi.ex
  obtain ⟨g, pg, rg⟩ := hg.ex
  refine ⟨⟨_, ps_fz (ps_setLc (tt := TmE X.K RT' mt) (te := TmE X.K (DV X.K) me) hc hN hy hyl hsw pi ok pg (fun s H C cl fp => (ht s H C cl fp).p) (fun s H C cl fp => (he s H C cl fp).pe) hs), fun ρ0 μ0 δ σ H0 Dn rel0 env0 ok0 => ?_⟩⟩
  have rn : RefN X.K hx W (tLc wi g (TmE X.K RT' mt) (TmE X.K (DV X.K) me) (own.map (·.2))) (mcomp (own.map (·.2)) mi mg mt me) := fun ρ0 μ0 δ σ H0 Q rel0 env0 ok0 => ri ρ0 μ0 δ σ H0 _ rel0 env0 (OkN.bind ok0 fun it μ1 ρ1 H1 J pr fz rel1 ij ok1 => by
    dsimp only at ok1
    split at ok1
    · rename_i hl
      exact fun D hD => comp_ref ij rg hl hD rel1 ((env0.mono pr fz).nox.wipe _) ok1
    · exact ok1.elim)
  refine rn ρ0 μ0 δ σ H0 _ rel0 env0 ?_
  unfold masg ofE mfz bindM at ok0
  cases e : mcomp (own.map (·.2)) mi mg mt me δ μ0 with
  | err C w μ1 =>
    rw [e] at ok0
    exact fun ρ1 H1 dd v p f rel hd dv => ok0 ρ1 H1 σ dd v p f rel (env0.mono p f) hd dv
  | bad => rw [e] at ok0; exact ok0
  | ok ds μ1 =>
    rw [e] at ok0
    rintro ρ H v pr fz rel ⟨q, vs, rfl, hu, hq, hn, hd⟩
    exact .inr ⟨q, vs, hq, fun o => ok0 _ _ _ pr (fz.late hu) (rel.other hn (Fz0.frz hq)) ((env0.mono pr (fz.late hu)).set (dv_frz hq hd) hxi)⟩
end
end Doz
end
section
namespace Doz
open PySem L2
def tyS (d : D) (_ : Mem) : Bool := match d with
  | .str _ => true
  | _ => false
def tyL (d : D) (μ : Mem) : Bool := (lstOf μ d).isSome
def tyDc (d : D) (μ : Mem) : Bool := match d with
  | .loc n => match μ.cells[n]? with
    | some (.dK _) => !μ.lkd n
    | _ => false
  | _ => false
def TyOk (K : PySem.W.Frag) (T : String) (ty : D → Mem → Bool) : Prop := ∀ d ρ μ H x, Rel K ρ μ H → DV K ρ H d x → ty d μ = true → tyV K T x H
theorem tyOk_S {K : PySem.W.Frag} : TyOk K "str" tyS := by
  intro d ρ μ H x rel dv h
  cases d with
  | str z => rw [str_ok dv]; rfl
  | _ => simp [tyS] at h
theorem tyOk_L {K : PySem.W.Frag} : TyOk K "list" tyL := by
  intro d ρ μ H x rel dv h
  obtain ⟨ds, hd⟩ := Option.isSome_iff_exists.mp h
  obtain ⟨a, vs, rfl, r2, _⟩ := lstOf_ok rel dv hd
  exact .inl ⟨rfl, vs, rd_sq r2⟩
theorem tyDc_ok {K : PySem.W.Frag} {d : D} {ρ : List Addr} {μ : Mem} {H : Hp} {x : V} (rel : Rel K ρ μ H) (dv : DV K ρ H d x) (h : tyDc d μ = true) :
    ∃ n a kds kvs, d = .loc n ∧ ρ[n]? = some a ∧ x = .ref a ∧ μ.cells[n]? = some (.dK kds) ∧ μ.lkd n = false ∧ H a = some (.dK kvs) ∧ KDs K ρ H kds kvs := by
  unfold tyDc at h
  split at h
  · rename_i n
    split at h
    · rename_i kds hc
      simp only [DV] at dv
      obtain ⟨a, h1, rfl⟩ := dv
      obtain ⟨kvs, h2, h3⟩ := rel.cell n a _ h1 hc
      have hl : μ.lkd n = false := by simpa using h
      rw [hl] at h2
      unfold Lk at h2
      rw [if_neg Bool.false_ne_true] at h2
      exact ⟨n, a, kds, kvs, rfl, h1, rfl, hc, hl, h2, h3⟩
    · cases h
  · cases h
theorem tyOk_D {K : PySem.W.Frag} : TyOk K "dict" tyDc := by
  intro d ρ μ H x rel dv h
  obtain ⟨n, a, kds, kvs, rfl, _, rfl, _, _, h2, _⟩ := tyDc_ok rel dv h
  exact .inr (.inr (.inl ⟨rfl, .inl ⟨kvs, h2⟩⟩))
def MethF (K : PySem.W.Frag) (r : V → List V → Hp → VK → Prop) (f : D → List D → Mem → Res D) : Prop :=
  ∀ d ds ρ μ H x xs (Q : VK) (E : XK), Rel K ρ μ H → DV K ρ H d x → DVs K ρ H ds xs → Okr K (DV K) ρ H (f d ds μ) Q E → r x xs H (Frzn Q)
def MethN (K : PySem.W.Frag) (r : V → List V → Hp → VK → Prop) (f : D → List D → Mem → Res (List D)) : Prop :=
  ∀ d ds ρ μ H x xs (Q : VK) (E : XK), Rel K ρ μ H → DV K ρ H d x → DVs K ρ H ds xs → OkN K ρ H (f d ds μ) Q E → r x xs H Q
def mmeth {α : Type} (ty : D → Mem → Bool) (f : D → List D → Mem → Res α) (mo : ME) (ma : MX (List D)) : MX α := bindM mo fun d => fun δ μ => if ty d μ = true then (ma δ μ).bind fun ds μ1 => f d ds μ1 else .bad
section
variable {X : Cx} {hx : Option HX} {W : WX} {o e : Expr} {es : List Expr} {mo : ME} {ma : MX (List D)} {name : Str} {apos cpos : Pos} {T id : String} {ty : D → Mem → Bool} {r : V → List V → Hp → VK → Prop}
theorem re_bm0 {f : D → List D → Mem → Res D} (pa : PlainAttrs T) (slot : Slot T name id) (hty : typeOf (.builtin id) = pure (.type "method_descriptor")) (hm : MtR X id r) (tk : TyOk X.K T ty) (mf : MethF X.K r f) (ho : RE X hx W o mo)
    (hbase : attributeBase o name X.env (eval o X.env) = eval o X.env := by rfl) (hline : (apos.endLine == cpos.line) = true := by rfl) : RE X hx W (.Call (.Attribute o name apos) [] [] cpos) (mmeth ty f mo mnil) := by
  obtain ⟨to, po, ro⟩ := ho.ex
  refine ⟨⟨_, pe_fzo (pe_bm0 pa slot hty hm po hbase hline), fun ρ0 μ0 δ σ H0 Q rel0 env0 ok0 => ro ρ0 μ0 δ σ H0 _ rel0 env0 (Okr.bind ok0 fun d μ ρ H x pr fz rel dv ok => ?_)⟩⟩
  dsimp only at ok
  split at ok
  · rename_i ht
    exact ⟨tk d ρ μ H x rel dv ht, mf d [] ρ μ H x [] Q _ rel dv .nil ok⟩
  · exact ok.elim
theorem re_bm {f : D → List D → Mem → Res D} (pa : PlainAttrs T) (slot : Slot T name id) (hty : typeOf (.builtin id) = pure (.type "method_descriptor")) (hm : MtR X id r) (tk : TyOk X.K T ty) (mf : MethF X.K r f) (ho : RE X hx W o mo) (ha : RA X hx W (e :: es) ma)
    (hbase : attributeBase o name X.env (eval o X.env) = eval o X.env := by rfl)
    (hfew : ((backTo cpos (starEach (e :: es) X.env)).all (fun x => !x.1) && (backToKw cpos (keywordEach [] X.env)).all (fun x => x.1.isSome)
      && decide ((e :: es).length + ([] : List Keyword).length + (if ([] : List Keyword).isEmpty then 0 else 1) < 30)) = true := by rfl)
    (hline : (apos.endLine == cpos.line) = true := by rfl) (hs : starEach (e :: es) X.env = (false, eval e X.env) :: starEach es X.env := by rfl) (hplain : (backTo cpos (starEach es X.env)).any (·.1) = false := by rfl) :
    RE X hx W (.Call (.Attribute o name apos) (e :: es) [] cpos) (mmeth ty f mo ma) := by
  obtain ⟨to, po, ro⟩ := ho.ex
  obtain ⟨ta, pa', ra⟩ := ha.ex
  refine ⟨⟨_, pe_fzo (pe_bm pa slot hty hm po pa' hbase hfew hline hs hplain), fun ρ0 μ0 δ σ H0 Q rel0 env0 ok0 => ro ρ0 μ0 δ σ H0 _ rel0 env0 (Okr.bind ok0 fun d μ ρ H x pr fz rel dv ok => ?_)⟩⟩
  dsimp only at ok
  split at ok
  · rename_i ht
    exact ⟨tk d ρ μ H x rel dv ht, ra ρ μ δ σ H _ rel (env0.mono pr fz) (Okr.bind ok fun ds μ1 ρ1 H1 xs p1 f1 rel1 dvs ok1 => mf d ds ρ1 μ1 H1 x xs Q _ rel1 (dv.mono p1 f1) dvs ok1)⟩
  · exact ok.elim
theorem rn_bm {f : D → List D → Mem → Res (List D)} (pa : PlainAttrs T) (slot : Slot T name id) (hty : typeOf (.builtin id) = pure (.type "method_descriptor")) (hm : MtR X id r) (tk : TyOk X.K T ty) (mf : MethN X.K r f) (ho : RE X hx W o mo) (ha : RA X hx W (e :: es) ma)
    (hbase : attributeBase o name X.env (eval o X.env) = eval o X.env := by rfl)
    (hfew : ((backTo cpos (starEach (e :: es) X.env)).all (fun x => !x.1) && (backToKw cpos (keywordEach [] X.env)).all (fun x => x.1.isSome)
      && decide ((e :: es).length + ([] : List Keyword).length + (if ([] : List Keyword).isEmpty then 0 else 1) < 30)) = true := by rfl)
    (hline : (apos.endLine == cpos.line) = true := by rfl) (hs : starEach (e :: es) X.env = (false, eval e X.env) :: starEach es X.env := by rfl) (hplain : (backTo cpos (starEach es X.env)).any (·.1) = false := by rfl) :
    RN X hx W (.Call (.Attribute o name apos) (e :: es) [] cpos) (mmeth ty f mo ma) := by
  obtain ⟨to, po, ro⟩ := ho.ex
  obtain ⟨ta, pa', ra⟩ := ha.ex
  refine ⟨⟨_, pe_bm pa slot hty hm po pa' hbase hfew hline hs hplain, fun ρ0 μ0 δ σ H0 Q rel0 env0 ok0 => ro ρ0 μ0 δ σ H0 _ rel0 env0 (OkN.bind ok0 fun d μ ρ H x pr fz rel dv ok => ?_)⟩⟩
  dsimp only at ok
  split at ok
  · rename_i ht
    exact ⟨tk d ρ μ H x rel dv ht, ra ρ μ δ σ H _ rel (env0.mono pr fz) (OkN.bind ok fun ds μ1 ρ1 H1 xs p1 f1 rel1 dvs ok1 => mf d ds ρ1 μ1 H1 x xs Q _ rel1 (dv.mono p1 f1) dvs ok1)⟩
  · exact ok.elim
end
section
variable {K : PySem.W.Frag} {ρ : List Addr} {μ : Mem} {H : Hp}
theorem DVs.zero {xs : List V} (h : DVs K ρ H [] xs) : xs = [] := by simpa only [DVs] using h
def lcell (μ : Mem) (d : D) : Option (Nat × List D) := match d with
  | .loc n => match μ.cells[n]? with
    | some (.lst ds) => some (n, ds)
    | _ => none
  | _ => none
theorem lcell_ok {d : D} {x : V} {n : Nat} {ds : List D} (rel : Rel K ρ μ H) (dv : DV K ρ H d x) (h : lcell μ d = some (n, ds)) : ∃ a vs, x = .ref a ∧ ρ[n]? = some a ∧ μ.cells[n]? = some (.lst ds) ∧ H a = some (.lst vs) ∧ DVs K ρ H ds vs := by
  unfold lcell at h
  split at h
  · rename_i m
    split at h
    · rename_i es hc
      obtain ⟨rfl, rfl⟩ : m = n ∧ es = ds := by simpa using h
      simp only [DV] at dv
      obtain ⟨a, h1, rfl⟩ := dv
      obtain ⟨vs, h2, h3⟩ := rel.cell m a _ h1 hc
      exact ⟨a, vs, rfl, h1, hc, h2, h3⟩
    · cases h
  · cases h
theorem lwrite {n : Nat} {a : Addr} {es : List D} {vs ws : List V} {Q : VK} {E : XK} {r : D} {v : V} (rel : Rel K ρ μ H) (h1 : ρ[n]? = some a) (h2 : H a = some (.lst vs)) (hd : DVs K ρ H es ws) (hv : DV K ρ H r v)
    (ok : Okr K (DV K) ρ H (.ok r (μ.set n (.lst es))) Q E) : Q v (upd H a (.lst ws)) := by
  have f : Fz ρ ρ H (upd H a (.lst ws)) := Fz.mut h1 h2 (fun _ => HO.noConfusion) (fun _ _ => HO.noConfusion)
  exact ok ρ _ _ (Pre.refl _) f (rel.write h1 h2 (fun _ => HO.noConfusion) (fun _ _ => HO.noConfusion) ⟨ws, upd_same, hd.mono (Pre.refl _) f⟩) (hv.mono (Pre.refl _) f)
def fAppend (d : D) (xs : List D) (μ : Mem) : Res D := match xs with
  | [y] => match lcell μ d with
    | some (n, ds) => if ds.length < sizeLine then .ok .non (μ.set n (.lst (ds ++ [y]))) else .bad
    | none => .bad
  | _ => .bad
theorem mf_append : MethF K rAppend fAppend := by
  intro d ds ρ μ H x xs Q E rel dv dvs ok
  unfold fAppend at ok
  split at ok
  · obtain ⟨y, rfl, dy⟩ := dvs.one
    split at ok
    · rename_i n es hc
      split at ok
      · rename_i hl
        obtain ⟨a, vs, rfl, h1, _, h2, h3⟩ := lcell_ok rel dv hc
        exact ⟨a, vs, y, rfl, rfl, h2, by rw [← h3.length]; exact hl, .inl (lwrite rel h1 h2 (h3.app (.cons dy .nil)) dv_non ok)⟩
      · exact ok.elim
    · exact ok.elim
  · exact ok.elim
def fReverse (d : D) (xs : List D) (μ : Mem) : Res D := match xs with
  | [] => match lcell μ d with
    | some (n, ds) => .ok .non (μ.set n (.lst ds.reverse))
    | none => .bad
  | _ => .bad
theorem mf_reverse : MethF K rReverse fReverse := by
  intro d ds ρ μ H x xs Q E rel dv dvs ok
  unfold fReverse at ok
  split at ok
  · obtain rfl := dvs.zero
    split at ok
    · rename_i n es hc
      obtain ⟨a, vs, rfl, h1, _, h2, h3⟩ := lcell_ok rel dv hc
      exact ⟨a, vs, rfl, rfl, h2, .inl (lwrite rel h1 h2 h3.reverse dv_non ok)⟩
    · exact ok.elim
  · exact ok.elim
def fLClear (d : D) (xs : List D) (μ : Mem) : Res D := match xs with
  | [] => match lcell μ d with
    | some (n, ds) => .ok .non (μ.set n (.lst []))
    | none => .bad
  | _ => .bad
theorem mf_lclear : MethF K rClear fLClear := by
  intro d ds ρ μ H x xs Q E rel dv dvs ok
  unfold fLClear at ok
  split at ok
  · obtain rfl := dvs.zero
    split at ok
    · rename_i n es hc
      obtain ⟨a, vs, rfl, h1, _, h2, h3⟩ := lcell_ok rel dv hc
      exact ⟨a, vs, rfl, rfl, h2, .inl (lwrite rel h1 h2 .nil dv_non ok)⟩
    · exact ok.elim
  · exact ok.elim
def dcell (μ : Mem) (d : D) : Option (Nat × List (Key × D)) := match d with
  | .loc n => match μ.cells[n]? with
    | some (.dK ds) => if μ.lkd n = true then none else some (n, ds)
    | _ => none
  | _ => none
theorem dcell_ok {d : D} {x : V} {n : Nat} {ds : List (Key × D)} (rel : Rel K ρ μ H) (dv : DV K ρ H d x) (h : dcell μ d = some (n, ds)) : ∃ a vs, x = .ref a ∧ ρ[n]? = some a ∧ μ.cells[n]? = some (.dK ds) ∧ μ.lkd n = false ∧ H a = some (.dK vs) ∧ KDs K ρ H ds vs := by
  unfold dcell at h
  split at h
  · rename_i m
    split at h
    · rename_i es hc
      split at h
      · cases h
      · rename_i hl
        obtain ⟨rfl, rfl⟩ : m = n ∧ es = ds := by simpa using h
        simp only [DV] at dv
        obtain ⟨a, h1, rfl⟩ := dv
        obtain ⟨vs, h2, h3⟩ := rel.cell m a _ h1 hc
        have hl' : μ.lkd m = false := by simpa using hl
        rw [hl'] at h2
        unfold Lk at h2
        rw [if_neg Bool.false_ne_true] at h2
        exact ⟨a, vs, rfl, h1, hc, hl', h2, h3⟩
    · cases h
  · cases h
theorem dwrite {n : Nat} {a : Addr} {es : List (Key × D)} {vs ws : List (Key × V)} {Q : VK} {E : XK} {r : D} {v : V} (rel : Rel K ρ μ H) (h1 : ρ[n]? = some a) (hl : μ.lkd n = false) (h2 : H a = some (.dK vs)) (hd : KDs K ρ H es ws) (hv : DV K ρ H r v)
    (ok : Okr K (DV K) ρ H (.ok r (μ.set n (.dK es))) Q E) : Q v (upd H a (.dK ws)) := by
  have f : Fz ρ ρ H (upd H a (.dK ws)) := Fz.mut h1 h2 (fun _ => HO.noConfusion) (fun _ _ => HO.noConfusion)
  refine ok ρ _ _ (Pre.refl _) f (rel.write h1 h2 (fun _ => HO.noConfusion) (fun _ _ => HO.noConfusion) ⟨ws, ?_, hd.mono (Pre.refl _) f⟩) (hv.mono (Pre.refl _) f)
  rw [hl]
  unfold Lk
  rw [if_neg Bool.false_ne_true]
  exact upd_same
def fDClear (d : D) (xs : List D) (μ : Mem) : Res D := match xs with
  | [] => match dcell μ d with
    | some (n, _) => .ok .non (μ.set n (.dK []))
    | none => .bad
  | _ => .bad
theorem mf_dclear : MethF K rDClear fDClear := by
  intro d ds ρ μ H x xs Q E rel dv dvs ok
  unfold fDClear at ok
  split at ok
  · obtain rfl := dvs.zero
    split at ok
    · rename_i n es hc
      obtain ⟨a, vs, rfl, h1, _, hl, h2, h3⟩ := dcell_ok rel dv hc
      exact ⟨a, vs, rfl, rfl, h2, .inl (dwrite rel h1 hl h2 .nil dv_non ok)⟩
    · exact ok.elim
  · exact ok.elim
def strsOf : List D → Option (List Str)
  | [] => some []
  | .str x :: ds => (strsOf ds).map (x :: ·)
  | _ => none
theorem strsOf_ok : ∀ {ds : List D} {vs : List V} {ys : List Str}, DVs K ρ H ds vs → strsOf ds = some ys → vs = ys.map V.str
  | [], vs, ys, h, e => by
    simp only [strsOf, Option.some.injEq] at e
    subst e
    exact h.zero
  | d :: ds, vs, ys, h, e => by
    simp only [DVs] at h
    obtain ⟨v, r, rfl, h1, h2⟩ := h
    cases d with
    | str x =>
      simp only [strsOf, Option.map_eq_some_iff] at e
      obtain ⟨zs, e1, rfl⟩ := e
      rw [str_ok h1, strsOf_ok h2 e1]
      rfl
    | _ => simp [strsOf] at e
def rJoin (K : PySem.W.Frag) : V → List V → Hp → VK → Prop := fun x xs H Q => ∃ a p, ∃ ys : List Str, x = .str a ∧ xs = [.ref p] ∧ (SqL K H p (ys.map V.str) ∨ SqT K H p (ys.map V.str)) ∧
    (ys.map (·.length)).sum + ys.length * a.length ≤ 16777216 ∧ Q (.str (Txt.join a ys)) H
def fJoin (d : D) (xs : List D) (μ : Mem) : Res D := match d, xs with
  | .str a, [l] => match seqOf μ l with
    | some ds => match strsOf ds with
      | some ys => if (ys.map (·.length)).sum + ys.length * a.length ≤ 16777216 then .ok (.str (Txt.join a ys)) μ else .bad
      | none => .bad
    | none => .bad
  | _, _ => .bad
theorem mf_join : MethF K (rJoin K) fJoin := by
  intro d ds ρ μ H x xs Q E rel dv dvs ok
  unfold fJoin at ok
  split at ok
  · rename_i a l
    obtain ⟨y, rfl, dy⟩ := dvs.one
    split at ok
    · rename_i es hs
      split at ok
      · rename_i ys hy
        split at ok
        · rename_i hz
          obtain ⟨p, vs, rfl, hq, hd⟩ := seqOf_ok rel dy hs
          have e := strsOf_ok hd hy
          subst e
          exact ⟨a, p, ys, str_ok dv, rfl, hq, hz, .inl (ok.now rel dv_str)⟩
        · exact ok.elim
      · exact ok.elim
    · exact ok.elim
  · exact ok.elim
end
def mdnew : ME := fun _ μ => .ok (.loc μ.cells.length) (μ.push (.dK []))
theorem re_dnew {X : Cx} {hx : Option HX} {W : WX} {pos : Pos} : RE X hx W (.Dict [] [] pos) mdnew := by
  refine ⟨⟨_, pe_dnewK, fun ρ μ δ σ H Q rel env ok p hp => ?_⟩⟩
  exact Okr.go ok (Pre.app _ _) (Fz.newA hp) (rel.new hp ⟨[], by unfold Lk; rw [if_neg Bool.false_ne_true]; exact upd_same, .nil⟩) (dv_last rel)
def rEqDL : R2 := fun x y H Q => ∃ a b ks ls, x = .ref a ∧ y = .ref b ∧ H a = some (.dK ks) ∧ H b = some (.dK ls) ∧ ks.length ≠ ls.length ∧ Q (.bl false) H
def rNeDL : R2 := fun x y H Q => ∃ a b ks ls, x = .ref a ∧ y = .ref b ∧ H a = some (.dK ks) ∧ H b = some (.dK ls) ∧ ks.length ≠ ls.length ∧ Q (.bl true) H
theorem op_eqDL {X : Cx} (hu : X.A.units < cLine) : OpR X (compareOp .Eq) rEqDL := by
  intro pins s σ H x y v u Q I rx ry h
  obtain ⟨a, b, ks, ls, rfl, rfl, ea, eb, hlen, q⟩ := h
  obtain rfl : v = Value.ref a := rx
  obtain rfl : u = Value.ref b := ry
  obtain ⟨_, ya, va, ra, da⟩ := (show ObjOk X.prog X.w H s.heap a (.dK ks) from I.hok a _ ea)
  obtain ⟨_, yb, vb, rb, db⟩ := (show ObjOk X.prog X.w H s.heap b (.dK ls) from I.hok b _ eb)
  have hl : va.length ≠ vb.length := by rw [← ra.length, ← rb.length]; exact hlen
  exact PySem.W.keq_eq (knd := mixKind X.prog X.w) (r := true) ya yb da db hu (fun z => absurd z hl) (fin_bl I q (by simp [hl]))
theorem op_neDL {X : Cx} (hu : X.A.units < cLine) : OpR X (compareOp .NotEq) rNeDL := by
  intro pins s σ H x y v u Q I rx ry h
  obtain ⟨a, b, ks, ls, rfl, rfl, ea, eb, hlen, q⟩ := h
  obtain rfl : v = Value.ref a := rx
  obtain rfl : u = Value.ref b := ry
  obtain ⟨_, ya, va, ra, da⟩ := (show ObjOk X.prog X.w H s.heap a (.dK ks) from I.hok a _ ea)
  obtain ⟨_, yb, vb, rb, db⟩ := (show ObjOk X.prog X.w H s.heap b (.dK ls) from I.hok b _ eb)
  have hl : va.length ≠ vb.length := by rw [← ra.length, ← rb.length]; exact hlen
  exact PySem.W.keq_ne (knd := mixKind X.prog X.w) (r := true) ya yb da db hu (fun z => absurd z hl) (fin_bl I q (by simp [hl]))
def D.flat : D → Bool
  | .non => true | .bl _ => true | .int _ => true | .str _ => true
  | _ => false
def tabEq (ks ls : List (Key × D)) : Bool := ks.all fun p => p.2.flat && match kget ls p.1 with
  | some d => D.same p.2 d
  | none => false
def cEqA (d e : D) (μ : Mem) : Res Bool := match dcell μ d, dcell μ e with
  | some (_, ks), some (_, ls) => if ks.length = ls.length then (if tabEq ks ls = true then .ok true μ else .bad) else .ok false μ
  | _, _ => cEq d e μ
def cNeA (d e : D) (μ : Mem) : Res Bool := (cEqA d e μ).bind fun b μ => .ok (!b) μ
def rEqA (K : PySem.W.Frag) : R2 := fun x y H Q => rEqU K x y H Q ∨ rEqDA x y H Q ∨ rEqDL x y H Q
def rNeA (K : PySem.W.Frag) : R2 := fun x y H Q => rNeU K x y H Q ∨ rNeDA x y H Q ∨ rNeDL x y H Q
theorem op_eqA {X : Cx} (hu : Hu X) : OpR X (compareOp .Eq) (rEqA X.K) := (op_eqU hu.h64).or ((op_eq_dictA (Nat.lt_of_le_of_lt (by omega) hu)).or (op_eqDL (Nat.lt_of_le_of_lt (by omega) hu)))
theorem op_neA {X : Cx} (hu : Hu X) : OpR X (compareOp .NotEq) (rNeA X.K) := (op_neU hu.h64).or ((op_ne_dictA (Nat.lt_of_le_of_lt (by omega) hu)).or (op_neDL (Nat.lt_of_le_of_lt (by omega) hu)))
theorem flat_ok {K : PySem.W.Frag} {ρ : List Addr} {H : Hp} {d : D} {v u : V} (h : d.flat = true) (dv : DV K ρ H d v) (du : DV K ρ H d u) : v = u ∧ flatB v = true := by
  cases d with
  | non => rw [non_ok dv, non_ok du]; exact ⟨rfl, rfl⟩
  | bl b => rw [bl_ok dv, bl_ok du]; exact ⟨rfl, rfl⟩
  | int b => rw [int_ok dv, int_ok du]; exact ⟨rfl, rfl⟩
  | str b => rw [str_ok dv, str_ok du]; exact ⟨rfl, rfl⟩
  | _ => simp [D.flat] at h
theorem tabEq_ok {K : PySem.W.Frag} {ρ : List Addr} {H : Hp} {ks ls : List (Key × D)} {vs us : List (Key × V)} (h : tabEq ks ls = true) (hk : KDs K ρ H ks vs) (hl : KDs K ρ H ls us) : ∀ p ∈ vs, valV us p.1 = some p.2 ∧ flatB p.2 = true := by
  unfold tabEq at h
  induction hk with
  | nil => intro p hp; cases hp
  | @cons p q ps qs r t ih =>
    simp only [List.all_cons, Bool.and_eq_true] at h
    intro p' hp'
    rcases List.mem_cons.mp hp' with e | hp'
    · subst e
      obtain ⟨⟨h1, h2⟩, _⟩ := h
      split at h2
      · rename_i d hd
        have e := D.same_eq _ _ h2
        subst e
        obtain ⟨u, hu, du⟩ := (KDs.val hl).1 _ hd
        obtain ⟨rfl, hf⟩ := flat_ok h1 r.2 du
        exact ⟨by rw [← r.1]; exact hu, hf⟩
      · cases h2
    · exact ih h.2 p' hp'
theorem cmA_core {K : PySem.W.Frag} {ρ : List Addr} {μ : Mem} {H : Hp} {d e : D} {x y : V} {b : Bool} {μ' : Mem} (rel : Rel K ρ μ H) (dx : DV K ρ H d x) (dy : DV K ρ H e y) (h : cEqA d e μ = .ok b μ') :
    (cEq d e μ = .ok b μ') ∨ (μ' = μ ∧ ∃ a b' ks ls, x = .ref a ∧ y = .ref b' ∧ H a = some (.dK ks) ∧ H b' = some (.dK ls) ∧ ((b = true ∧ ks.length = ls.length ∧ ∀ p ∈ ks, valV ls p.1 = some p.2 ∧ flatB p.2 = true) ∨ (b = false ∧ ks.length ≠ ls.length))) := by
  unfold cEqA at h
  split at h
  · rename_i n1 ks n2 ls h1 h2
    obtain ⟨a, vs, rfl, _, _, _, e1, e2⟩ := dcell_ok rel dx h1
    obtain ⟨a', us, rfl, _, _, _, e3, e4⟩ := dcell_ok rel dy h2
    have l1 := KDs.length e2
    have l2 := KDs.length e4
    split at h
    · rename_i hl
      split at h
      · rename_i ht
        obtain ⟨rfl, rfl⟩ : true = b ∧ μ = μ' := by simpa using h
        exact .inr ⟨rfl, a, a', vs, us, rfl, rfl, e1, e3, .inl ⟨rfl, by omega, tabEq_ok ht e2 e4⟩⟩
      · cases h
    · rename_i hl
      obtain ⟨rfl, rfl⟩ : false = b ∧ μ = μ' := by simpa using h
      exact .inr ⟨rfl, a, a', vs, us, rfl, rfl, e1, e3, .inr ⟨rfl, by omega⟩⟩
  · exact .inl h
theorem cEqA_noerr {d e : D} {μ : Mem} {C : Addr} {w : D} {μ' : Mem} : cEqA d e μ ≠ .err C w μ' := by
  unfold cEqA
  split
  · split
    · split <;> exact fun h => nomatch h
    · exact fun h => nomatch h
  · exact cEq_noerr
theorem cm_eqA {K : PySem.W.Frag} : CmpM K (rEqA K) cEqA := by
  intro d e ρ μ H x y Q E rel dx dy ok
  cases h : cEqA d e μ with
  | ok b μ' =>
    rw [h] at ok
    rcases cmA_core rel dx dy h with h | ⟨rfl, a, b', ks, ls, rfl, rfl, e1, e2, ⟨rfl, h1, h2⟩ | ⟨rfl, h1⟩⟩
    · exact .inl (cm_eq d e ρ μ H x y Q E rel dx dy (h ▸ ok))
    · exact .inr (.inl ⟨a, b', ks, ls, rfl, rfl, e1, e2, h1, h2, ok.now rel rfl⟩)
    · exact .inr (.inr ⟨a, b', ks, ls, rfl, rfl, e1, e2, h1, ok.now rel rfl⟩)
  | err C w μ' => exact absurd h cEqA_noerr
  | bad => rw [h] at ok; exact ok.elim
theorem cm_neA {K : PySem.W.Frag} : CmpM K (rNeA K) cNeA := by
  intro d e ρ μ H x y Q E rel dx dy ok
  unfold cNeA at ok
  cases h : cEqA d e μ with
  | ok b μ' =>
    rw [h] at ok
    rcases cmA_core rel dx dy h with h | ⟨rfl, a, b', ks, ls, rfl, rfl, e1, e2, ⟨rfl, h1, h2⟩ | ⟨rfl, h1⟩⟩
    · exact .inl (cm_ne d e ρ μ H x y Q E rel dx dy (by unfold cNe; rw [h]; exact ok))
    · exact .inr (.inl ⟨a, b', ks, ls, rfl, rfl, e1, e2, h1, h2, Okr.now (b := V.bl false) ok rel rfl⟩)
    · exact .inr (.inr ⟨a, b', ks, ls, rfl, rfl, e1, e2, h1, Okr.now (b := V.bl true) ok rel rfl⟩)
  | err C w μ' => exact absurd h cEqA_noerr
  | bad => rw [h] at ok; exact ok.elim
end Doz
end
section
namespace Doz
open PySem L2
open PyProof.Rows (envOfC)
abbrev Pw (X : Cx) (W : WX) : Prop := ∀ σ, PassesAt (L2.CX X.prog X.w) X σ (WE W σ)
theorem pw_takes {X : Cx} {W : WX} (tk : Takes X W) : Pw X W := fun σ => passAt tk σ
theorem pw_false {X : Cx} : Pw X WF := fun σ pins H s e s' I c => by
  obtain ⟨_, _, _, _, _, _, _, _, _, _, _, _, z⟩ := c
  exact z.elim
abbrev MF := List D → Mem → Res D
def spM (K : PySem.W.Frag) (n : Nat) (m : MF) : Sp := fun vs H Q E => ∃ ρ μ ds, ds.length = n ∧ Rel K ρ μ H ∧ DVs K ρ H ds vs ∧ Okr K (DV K) ρ H (m ds μ) Q E
theorem spM.len {K : PySem.W.Frag} {n : Nat} {m : MF} {vs : List V} {H : Hp} {Q : VK} {E : XK} (h : spM K n m vs H Q E) : vs.length = n := by
  obtain ⟨ρ, μ, ds, hl, _, dv, _⟩ := h
  rw [← dv.length]; exact hl
structure PCW (X : Cx) (es : List Expr) (kws : List Keyword) (pos : Pos) (ks : List Str) (t : TX (List V × List V)) : Prop where
  run : ∀ (pins : List (Addr × Obj)) (s : Shared) (σ : St) (H : Hp) (f : Value) (first : List Value) (Q : Value → Shared → Prop) (R : List V × List V → Hp → Prop), PySem.W.keepIn X.K f = true → Inv X pins σ H s → t σ H R →
    (∀ us ws vs zs s' H', Inv X pins σ H' s' → Vals vs us → Vals zs ws → R (vs, zs) H' → wpAny (model X.prog X.w) X.A (call f (first ++ us) (ks.zip ws)) Q X.xe s') →
    wpAny (model X.prog X.w) X.A (callWith pos f first (backTo pos (starEach es X.env)) (backToKw pos (keywordEach kws X.env))) Q X.xe s
def DV2 (K : PySem.W.Frag) : Rl (List D × List D) (List V × List V) := fun ρ H a b => DVs K ρ H a.1 b.1 ∧ DVs K ρ H a.2 b.2
structure RC (X : Cx) (hx : Option HX) (W : WX) (es : List Expr) (kws : List Keyword) (pos : Pos) (ks : List Str) (m : MX (List D × List D)) : Prop where
  ex : ∃ t, PCW X es kws pos ks t ∧ Ref X.K hx W (DV2 X.K) t m
structure RK (X : Cx) (hx : Option HX) (W : WX) (kws : List Keyword) (m : MX (List D)) : Prop where
  ex : ∃ t : TA, PK X kws t ∧ Ref X.K hx W (DVs X.K) t m
def mpos (m : MX (List D)) : MX (List D × List D) := bindM m fun ds => fun _ μ => .ok (ds, []) μ
def mkws (m : MX (List D)) : MX (List D × List D) := bindM m fun ds => fun _ μ => .ok ([], ds) μ
def mnoa : MX (List D × List D) := fun _ μ => .ok ([], []) μ
def mboth (m k : MX (List D)) : MX (List D × List D) := bindM m fun ds => bindM k fun es => fun _ μ => .ok (ds, es) μ
section
variable {X : Cx} {hx : Option HX} {W : WX} {e : Expr} {es : List Expr} {kws : List Keyword} {pos kpos : Pos} {ks : List Str} {m mk : MX (List D)} {me : ME} {nm : Option Str}
theorem rk_nil : RK X hx W [] mnil := ⟨⟨_, pk_nil, fun ρ μ δ σ H Q rel env ok => Okr.now (b := ([] : List V)) ok rel .nil⟩⟩
theorem rk_cons (ha : RE X hx W e me) (hr : RK X hx W kws m) : RK X hx W (⟨nm, e, kpos⟩ :: kws) (mcons me m) := by
  obtain ⟨te, pe, re⟩ := ha.ex
  obtain ⟨t, p, r⟩ := hr.ex
  exact ⟨⟨_, pk_cons pe p, Ref.two (k := fun x xs σ H Q => Q (x :: xs) H) stay_DV re r fun d ds ρ μ δ σ H x xs Q rel env dx dxs ok => Okr.now ok rel (.cons dx dxs)⟩⟩
theorem rc_pos (ha : RA X hx W (e :: es) m) (he : starEach (e :: es) X.env = (false, eval e X.env) :: starEach es X.env := by rfl) (hpl : (backTo pos (starEach es X.env)).any (·.1) = false := by rfl) : RC X hx W (e :: es) [] pos [] (mpos m) := by
  obtain ⟨t, p, r⟩ := ha.ex
  refine ⟨⟨fun σ H R => t σ H fun vs H1 => R (vs, []) H1, ⟨fun pins s σ H f first Q R hk I h k => ?_⟩, fun ρ0 μ0 δ σ H0 Q rel0 env0 ok0 => r ρ0 μ0 δ σ H0 _ rel0 env0 (Okr.bind ok0 fun ds μ ρ H xs pr fz rel dv ok => Okr.now (b := (xs, [])) ok rel ⟨dv, .nil⟩)⟩⟩
  exact PySem.W.callWith_K (h₀ := X.base) I.ok.mod.kin hk (thn (p.run pos pins s σ H _ I h) fun us s1 ⟨vs, H1, I1, rr, q⟩ => ⟨I1.kIn, k us [] vs [] s1 H1 I1 rr .nil q⟩) he hpl
theorem rc_nil : RC X hx W [] [] pos [] mnoa := by
  refine ⟨⟨fun σ H R => R ([], []) H, ⟨fun pins s σ H f first Q R hk I h k => ?_⟩, fun ρ0 μ0 δ σ H0 Q rel0 env0 ok0 => Okr.now (b := (([] : List V), ([] : List V))) ok0 rel0 ⟨.nil, .nil⟩⟩⟩
  exact PySem.W.callWith_K0 I.kIn hk (k [] [] [] [] s H I .nil .nil h)
theorem rc_kw (ha : RA X hx W (e :: es) m) (hkw : RK X hx W kws mk) (hall : (backToKw pos (keywordEach kws X.env)).all (·.1.isSome) = true := by rfl) (hks : (backToKw pos (keywordEach kws X.env)).filterMap (·.1) = ks := by rfl)
    (he : starEach (e :: es) X.env = (false, eval e X.env) :: starEach es X.env := by rfl)
    (hpl : ((backTo pos (starEach (e :: es) X.env)).any (·.1) || (backToKw pos (keywordEach kws X.env)).any (·.1.isNone)) = false := by rfl) : RC X hx W (e :: es) kws pos ks (mboth m mk) := by
  obtain ⟨t, p, r⟩ := ha.ex
  obtain ⟨tk, pk, rk⟩ := hkw.ex
  refine ⟨⟨fun σ H R => t σ H fun vs H1 => tk σ H1 fun zs H2 => R (vs, zs) H2, ⟨fun pins s σ H f first Q R hk I h k => ?_⟩, Ref.two (k := fun x y σ H Q => Q (x, y) H) stay_DVs r rk fun d ds ρ μ δ σ H x xs Q rel env dx dxs ok => Okr.now (b := (x, xs)) ok rel ⟨dx, dxs⟩⟩⟩
  refine PySem.W.callWith_KW (h₀ := X.base) I.ok.mod.kin hk hall (thn (p.run pos pins s σ H _ I h) fun us s1 ⟨vs, H1, I1, r, q⟩ => ?_) hpl he
  refine thn (pk.run pos pins s1 σ H1 _ I1 q) fun ws s2 ⟨zs, H2, I2, rz, q2⟩ => ⟨I2.kIn, ?_⟩
  rw [hks]
  exact k us ws vs zs s2 H2 I2 r rz q2
theorem rc_kw0 (hkw : RK X hx W kws mk) (hall : (backToKw pos (keywordEach kws X.env)).all (·.1.isSome) = true := by rfl) (hks : (backToKw pos (keywordEach kws X.env)).filterMap (·.1) = ks := by rfl)
    (hpl : ((backTo pos (starEach [] X.env)).any (·.1) || (backToKw pos (keywordEach kws X.env)).any (·.1.isNone)) = false := by rfl) : RC X hx W [] kws pos ks (mkws mk) := by
  obtain ⟨tk, pk, rk⟩ := hkw.ex
  refine ⟨⟨fun σ H R => tk σ H fun zs H2 => R ([], zs) H2, ⟨fun pins s σ H f first Q R hk I h k => ?_⟩, fun ρ0 μ0 δ σ H0 Q rel0 env0 ok0 => rk ρ0 μ0 δ σ H0 _ rel0 env0 (Okr.bind ok0 fun ds μ ρ H xs pr fz rel dv ok => Okr.now (b := ([], xs)) ok rel ⟨.nil, dv⟩)⟩⟩
  refine PySem.W.callWith_KW0 (h₀ := X.base) I.ok.mod.kin hk hall ?_ hpl
  refine thn (pk.run pos pins s σ H _ I h) fun ws s2 ⟨zs, H2, I2, rz, q2⟩ => ⟨I2.kIn, ?_⟩
  rw [hks]
  exact k [] ws [] zs s2 H2 I2 .nil rz q2
end
structure Bd (K : PySem.W.Frag) (fd : FuncData) (ps : List Str) (n : Nat) (ks : List Str) (gD : List D → List D → List D) : Prop where
  ex : ∃ g gV, KBn K fd ps n ks g gV ∧ ∀ ρ H ds vs es us, DVs K ρ H ds vs → DVs K ρ H es us → ds.length = n → es.length = ks.length → DVs K ρ H (gD ds es) (gV vs us) ∧ (gD ds es).length = ps.length
theorem bd_all {K : PySem.W.Frag} {fd : FuncData} {ps : List Str} {n : Nat} (hn : ps.length = n) (h : Binds K fd ps []) : Bd K fd ps n [] (fun ds _ => ds) := by
  refine ⟨⟨fun us _ => us, fun vs _ => vs, ⟨fun s us ws X l1 l2 => ?_, fun r _ => r⟩, fun ρ H ds vs es us h1 _ h2 _ => ⟨h1, h2.trans hn.symm⟩⟩⟩
  have b := h s us X (by rw [List.append_nil, l1, hn])
  rw [List.append_nil] at b
  exact b
section
variable {X : Cx} {hx : Option HX} {W : WX} {k n : Nat} {f C : Addr} {fd : FuncData} {ps ks : List Str} {m : MF} {gD : List D → List D → List D} {x nm : Str} {p pos apos : Pos} {o : Expr} {es : List Expr} {kws : List Keyword} {ma : MX (List D × List D)} {mo : ME}
theorem run_m {pins : List (Addr × Obj)} {σ : St} {H : Hp} {s : Shared} {Q : VK} {us ws : List Value} {vs zs : List V} {ρ : List Addr} {μ : Mem} {ds ez : List D} (F : FnOk X.prog X.w X.K X.mg X.base (L2.CX X.prog X.w) k f fd ps (spM X.K ps.length m)) (hr : Room k X.A)
    (hb : Bd X.K fd ps n ks gD) (pw : PassesAt (L2.CX X.prog X.w) X σ (WE W σ)) (I : Inv X pins σ H s) (r : Vals vs us) (rz : Vals zs ws) (rel : Rel X.K ρ μ H) (hd : DVs X.K ρ H ds vs) (hz : DVs X.K ρ H ez zs) (l1 : ds.length = n) (l2 : ez.length = ks.length)
    (ok : Okr X.K (DV X.K) ρ H (m (gD ds ez) μ) Q (fun c d H' => W c d σ H')) : wpAny (model X.prog X.w) X.A (call (.ref f) us (ks.zip ws)) (EP X pins σ Q) X.xe s := by
  obtain ⟨g, gV, kb, hg⟩ := hb.ex
  obtain ⟨dv, dl⟩ := hg ρ H ds vs ez zs hd hz l1 l2
  have r2 := kb.rel r rz
  refine wpAny_call (codeAny_mono (F.run X.A X.stack s H ⟨us, ks.zip ws⟩ (g us ws) (gV vs zs) Q (WE W σ) hr I.env0 (kb.to s us ws I.kIn (by rw [← r.length, ← hd.length]; exact l1) (by rw [← rz.length, ← hz.length]; exact l2)) r2 ⟨ρ, μ, gD ds ez, dl, rel, dv, ok⟩) fun r s' hq => ?_)
  cases r with
  | error e => exact pw pins H s e s' I hq
  | ok fl =>
    cases fl with
    | ret u => exact I.after hq
    | next => exact False.elim hq
    | brk => exact False.elim hq
    | cont => exact False.elim hq
def mfn (n l : Nat) (gD : List D → List D → List D) (m : MF) (ma : MX (List D × List D)) : ME := bindM ma fun a => fun _ μ => if a.1.length = n ∧ a.2.length = l then m (gD a.1 a.2) μ else .bad
theorem re_call (F : FnOk X.prog X.w X.K X.mg X.base (L2.CX X.prog X.w) k f fd ps (spM X.K ps.length m)) (hr : Room k X.A) (hm : X.mg x = some (.ref f)) (hk : PySem.W.keepIn X.K (.ref f) = true) (hb : Bd X.K fd ps n ks gD) (pw : Pw X W)
    (ha : RC X hx W es kws pos ks ma) (hg : Gl X x := by rfl) (hdb : (x == ("__debug__" : Str)) = false := by decide) : RE X hx W (.Call (.Name x p) es kws pos) (mfn n ks.length gD m ma) := by
  obtain ⟨t, pt, rt⟩ := ha.ex
  refine ⟨⟨fun σ H Q => t σ H fun a H1 => ∃ ρ μ ds ez, Rel X.K ρ μ H1 ∧ DVs X.K ρ H1 ds a.1 ∧ DVs X.K ρ H1 ez a.2 ∧ ds.length = n ∧ ez.length = ks.length ∧ Okr X.K (DV X.K) ρ H1 (m (gD ds ez) μ) Q (fun c d H' => W c d σ H'), ⟨fun pins s σ H Q I h => ?_⟩, fun ρ0 μ0 δ σ H0 Q rel0 env0 ok0 => rt ρ0 μ0 δ σ H0 _ rel0 env0 (Okr.bind ok0 fun a μ ρ H xs pr fz rel dv ok => ?_)⟩⟩
  · refine wpAny_Call_Name_kw (ld_glob I hg hm ?_ hdb)
    refine pt.run pins s σ H (.ref f) [] _ _ hk I h fun us ws vs zs s' H' I' r rz ⟨ρ, μ, ds, ez, rel, hd, hz, l1, l2, ok⟩ => ?_
    exact run_m F hr hb (pw σ) I' r rz rel hd hz l1 l2 ok
  · dsimp only at ok
    split at ok
    · rename_i hl
      exact ⟨ρ, μ, a.1, a.2, rel, dv.1, dv.2, hl.1, hl.2, ok⟩
    · exact ok.elim
abbrev MM := D → List D → List D → Mem → Res D
structure MOk (X : Cx) (nm : Str) (n : Nat) (ks : List Str) (C : Addr) (mm : MM) : Prop where
  ex : ∃ k f fd ps m gD, Cls X.K C ∧ Meth X.K C nm f ∧ FnOk X.prog X.w X.K X.mg X.base (L2.CX X.prog X.w) k f fd ps (spM X.K ps.length m) ∧ Room k X.A ∧ Bd X.K fd ps (n + 1) ks gD ∧ mm = fun x ds ez μ => m (gD (x :: ds) ez) μ
def insOf (μ : Mem) (d : D) : Option (Addr × List (Str × D)) := match d with
  | .loc n => match μ.cells[n]? with
    | some (.ins C fs) => some (C, fs)
    | _ => none
  | _ => none
theorem insOf_ok {K : PySem.W.Frag} {ρ : List Addr} {μ : Mem} {H : Hp} {d : D} {v : V} {C : Addr} {fs : List (Str × D)} (rel : Rel K ρ μ H) (dv : DV K ρ H d v) (h : insOf μ d = some (C, fs)) :
    ∃ a dx vs, v = .ref a ∧ H a = some (.ins C dx vs) ∧ KDs K ρ H fs vs := by
  unfold insOf at h
  split at h
  · rename_i m
    split at h
    · rename_i C' es hc
      obtain ⟨rfl, rfl⟩ : C' = C ∧ es = fs := by simpa using h
      simp only [DV] at dv
      obtain ⟨a, h1, rfl⟩ := dv
      obtain ⟨dx, vs, h2, h3, _⟩ := rel.cell m a _ h1 hc
      exact ⟨a, dx, vs, rfl, h2, h3⟩
    · cases h
  · cases h
def noFld (fs : List (Str × D)) (nm : Str) : Bool := fs.all fun p => !(p.1 == nm)
theorem noFld_ok {K : PySem.W.Frag} {ρ : List Addr} {H : Hp} {nm : Str} {fs : List (Str × D)} {vs : List (Str × V)} (h : noFld fs nm = true) (k : KDs K ρ H fs vs) : vs.lookup nm = none := by
  unfold noFld at h
  induction k with
  | nil => rfl
  | @cons p q ps qs r t ih =>
    simp only [List.all_cons, Bool.and_eq_true] at h
    rw [List.lookup_cons]
    have : (nm == q.1) = false := by
      rw [← r.1]
      have z := h.1
      simp only [Bool.not_eq_true'] at z
      exact beq_eq_false_iff_ne.mpr fun e => (beq_eq_false_iff_ne.mp z) e.symm
    rw [this]
    exact ih h.2
def mmth (nm : Str) (n l : Nat) (T : Addr → Option MM) (mo : ME) (ma : MX (List D × List D)) : ME := bindM mo fun d => fun δ μ => match insOf μ d with
  | some (C, fs) => if noFld fs nm = true then match T C with
      | some mm => (ma δ μ).bind fun a μ1 => if a.1.length = n ∧ a.2.length = l then mm d a.1 a.2 μ1 else .bad
      | none => .bad
    else .bad
  | none => .bad
theorem re_meth {pl : Sem Bool} {T : Addr → Option MM} (ho : RE X hx W o mo) (hT : ∀ C mm, T C = some mm → MOk X nm n ks C mm) (pw : Pw X W) (ha : RC X hx W es kws pos ks ma)
    (ht : eval (.Call (.Attribute o nm apos) es kws pos) X.env = (do
      let ov ← eval o X.env
      standAt apos.atName
      let (f, first) ← holding [ov] (getMethod ov nm pl)
      callWith pos f first (backTo pos (starEach es X.env)) (backToKw pos (keywordEach kws X.env))) := by rfl) : RE X hx W (.Call (.Attribute o nm apos) es kws pos) (mmth nm n ks.length T mo ma) := by
  obtain ⟨to, po, ro⟩ := ho.ex
  obtain ⟨t, pt, rt⟩ := ha.ex
  refine ⟨⟨fun σ H Q => to σ H fun x H1 => ∃ a C dx vs mm, x = .ref a ∧ H1 a = some (.ins C dx vs) ∧ vs.lookup nm = none ∧ T C = some mm ∧ t σ H1 fun ar H2 => ∃ ρ μ d ds ez, Rel X.K ρ μ H2 ∧ DV X.K ρ H2 d x ∧ DVs X.K ρ H2 ds ar.1 ∧ DVs X.K ρ H2 ez ar.2 ∧ ds.length = n ∧ ez.length = ks.length ∧ Okr X.K (DV X.K) ρ H2 (mm d ds ez μ) Q (fun c d H' => W c d σ H'),
    ⟨fun pins s σ H Q I h => ?_⟩, fun ρ0 μ0 δ σ H0 Q rel0 env0 ok0 => ro ρ0 μ0 δ σ H0 _ rel0 env0 (Okr.bind ok0 fun d μ ρ H x pr fz rel dv ok => ?_)⟩⟩
  · refine PySem.W.methodCall_KW (pl := pl) (thn (po.run pins s σ H _ I h) fun u s1 ⟨x, H1, I1, rx, a, C, dx, vs, mm, ex, ea, l, hTC, q⟩ => ?_) ht
    subst ex
    obtain rfl : u = Value.ref a := rx
    obtain ⟨k, f, fd, ps, m, gD, c, hm, F, hr, hb, rfl⟩ := (hT C mm hTC).ex
    refine getmeth_ok I1 ea c hm l ?_
    refine pt.run pins s1 σ H1 (.ref f) [.ref a] _ _ hm.kp I1 q fun us ws vs' zs s' H' I' r rz ⟨ρ, μ, d, ds, ez, rel, dv, hd, hz, l1, l2, ok⟩ => ?_
    exact run_m (us := .ref a :: us) (vs := .ref a :: vs') F hr hb (pw σ) I' (.cons rfl r) rz rel (.cons dv hd) hz (by rw [List.length_cons, l1]) l2 ok
  · dsimp only at ok
    split at ok
    · rename_i C fs hi
      split at ok
      · rename_i hn
        split at ok
        · rename_i mm hTC
          obtain ⟨a, dx, vs, rfl, h1, h2⟩ := insOf_ok rel dv hi
          refine ⟨a, C, dx, vs, mm, rfl, h1, noFld_ok hn h2, hTC, rt ρ μ δ σ H _ rel (env0.mono pr fz) (Okr.bind ok fun ar μ1 ρ1 H1 xs p1 f1 rel1 dv1 ok1 => ?_)⟩
          split at ok1
          · rename_i hl
            exact ⟨ρ1, μ1, d, ar.1, ar.2, rel1, dv.mono p1 f1, dv1.1, dv1.2, hl.1, hl.2, ok1⟩
          · exact ok1.elim
        · exact ok.elim
      · exact ok.elim
    · exact ok.elim
def mmk (C : Addr) (n l : Nat) (gD : List D → List D → List D) (m : MF) (ma : MX (List D × List D)) : ME := bindM ma fun a => fun _ μ => if a.1.length = n ∧ a.2.length = l then (m (gD (.loc μ.cells.length :: a.1) a.2) (μ.push (.ins C []))).bind fun d μ1 => match d with
    | .non => .ok (.loc μ.cells.length) μ1
    | _ => .bad
  else .bad
theorem re_make (M : Mk X.K C f) (c : Cls X.K C) (F : FnOk X.prog X.w X.K X.mg X.base (L2.CX X.prog X.w) k f fd ps (spM X.K ps.length m)) (hr : Room (k + 1) X.A) (hm : X.mg x = some (.ref C)) (hb : Bd X.K fd ps (n + 1) ks gD) (pw : Pw X W)
    (ha : RC X hx W es kws pos ks ma) (hg : Gl X x := by rfl) (hdb : (x == ("__debug__" : Str)) = false := by decide) : RE X hx W (.Call (.Name x p) es kws pos) (mmk C n ks.length gD m ma) := by
  obtain ⟨t, pt, rt⟩ := ha.ex
  refine ⟨⟨fun σ H Q => t σ H fun a H1 => ∃ ρ μ ds ez, Rel X.K ρ μ H1 ∧ DVs X.K ρ H1 ds a.1 ∧ DVs X.K ρ H1 ez a.2 ∧ ds.length = n ∧ ez.length = ks.length ∧ Okr X.K (DV X.K) ρ H1 ((m (gD (.loc μ.cells.length :: ds) ez) (μ.push (.ins C []))).bind fun d μ1 => match d with
    | .non => .ok (.loc μ.cells.length) μ1
    | _ => .bad) Q (fun c d H' => W c d σ H'), ⟨fun pins s σ H Q I h => ?_⟩, fun ρ0 μ0 δ σ H0 Q rel0 env0 ok0 => rt ρ0 μ0 δ σ H0 _ rel0 env0 (Okr.bind ok0 fun a μ ρ H xs pr fz rel dv ok => ?_)⟩⟩
  · refine wpAny_Call_Name_kw (ld_glob I hg hm ?_ hdb)
    refine pt.run pins s σ H (.ref C) [] _ _ M.kp I h fun us ws vs zs s H I r rz ⟨ρ, μ, ds, ez, rel, hd, hz, l1, l2, ok⟩ => ?_
    show wpAny _ _ (call (.ref C) us (ks.zip ws)) _ _ _
    have hn1 := I.hok.fresh (Nat.le_succ s.heap.objs.size)
    have hn0 := I.hok.fresh (Nat.le_refl s.heap.objs.size)
    have I2 := Inv.made (C := C) I
    have n01 : upd H s.heap.objs.size (.own (s.heap.objs.size + 1)) (s.heap.objs.size + 1) = none := by rw [upd_ne (Nat.ne_of_gt (Nat.lt_succ_self _))]; exact hn1
    have rel1 : Rel X.K ρ μ (upd H s.heap.objs.size (.own (s.heap.objs.size + 1))) := rel.alloc hn0
    have f0 : Fz ρ ρ H (upd H s.heap.objs.size (.own (s.heap.objs.size + 1))) := Fz.new hn0
    have f1 : Fz ρ (ρ ++ [s.heap.objs.size + 1]) (upd H s.heap.objs.size (.own (s.heap.objs.size + 1))) (upd (upd H s.heap.objs.size (.own (s.heap.objs.size + 1))) (s.heap.objs.size + 1) (.ins C s.heap.objs.size [])) := Fz.newA n01
    have rel2 : Rel X.K (ρ ++ [s.heap.objs.size + 1]) (μ.push (.ins C [])) (upd (upd H s.heap.objs.size (.own (s.heap.objs.size + 1))) (s.heap.objs.size + 1) (.ins C s.heap.objs.size [])) :=
      rel1.new n01 ⟨s.heap.objs.size, [], upd_same, .nil, c, fun p hp => (by cases hp), Nat.zero_le _⟩
    have f2 := f0.trans f1
    obtain ⟨g, gV, kb, hg'⟩ := hb.ex
    have hself : DV X.K (ρ ++ [s.heap.objs.size + 1]) (upd (upd H s.heap.objs.size (.own (s.heap.objs.size + 1))) (s.heap.objs.size + 1) (.ins C s.heap.objs.size [])) (.loc μ.cells.length) (.ref (s.heap.objs.size + 1)) := dv_last rel
    obtain ⟨dv, dl⟩ := hg' _ _ (.loc μ.cells.length :: ds) (.ref (s.heap.objs.size + 1) :: vs) ez zs (.cons hself (hd.mono (Pre.app _ _) f2)) (hz.mono (Pre.app _ _) f2) (by rw [List.length_cons, l1]) l2
    have r1 : Vals (V.ref (s.heap.objs.size + 1) :: vs) (Value.ref (s.heap.objs.size + 1) :: us) := .cons rfl r
    have r2 := kb.rel r1 rz
    have ok' : Okr X.K (DV X.K) (ρ ++ [s.heap.objs.size + 1]) (upd (upd H s.heap.objs.size (.own (s.heap.objs.size + 1))) (s.heap.objs.size + 1) (.ins C s.heap.objs.size [])) (m (gD (.loc μ.cells.length :: ds) ez) (μ.push (.ins C []))) (fun v H2 => v = .non ∧ Q (.ref (s.heap.objs.size + 1)) H2) (fun c d H' => W c d σ H') := by
      refine Okr.bind (Okr.mono (Pre.app _ _) f2 ok) fun d μ1 ρ1 H1 v p1 f3 rel3 dv3 ok3 => ?_
      split at ok3
      · exact ⟨non_ok dv3, Okr.now ok3 rel3 (hself.mono p1 f3)⟩
      · exact ok3.elim
    refine wpAny_call (make_map (f := f) I.kIn M.makes M.init (beq_iff_eq.mp M.fn) (codeAny_mono (F.run _ X.stack _ _ ⟨Value.ref (s.heap.objs.size + 1) :: us, ks.zip ws⟩ (g (Value.ref (s.heap.objs.size + 1) :: us) ws) _ _ (WE W σ) (hr.make C us (ks.zip ws))
      (I2.env0.make C us (ks.zip ws)) (kb.to _ (Value.ref (s.heap.objs.size + 1) :: us) ws I2.kIn (by rw [List.length_cons, ← r.length, ← hd.length, l1]) (by rw [← rz.length, ← hz.length]; exact l2)) r2 ⟨_, _, _, dl, rel2, dv, ok'⟩) fun r s' hq' => ?_))
    cases r with
    | error e => exact pw σ pins _ _ e s' I2 hq'
    | ok fl =>
      cases fl with
      | ret u =>
        obtain ⟨v, H', I3, rv, ev, q3⟩ := I2.after hq'
        subst ev
        exact ⟨rv, ⟨V.ref (s.heap.objs.size + 1), H', I3, rfl, q3⟩⟩
      | next => exact False.elim hq'
      | brk => exact False.elim hq'
      | cont => exact False.elim hq'
  · dsimp only at ok
    split at ok
    · rename_i hl
      exact ⟨ρ, μ, a.1, a.2, rel, dv.1, dv.2, hl.1, hl.2, ok⟩
    · exact ok.elim
end
def startD (n : Nat) (ds : List D) : DEnv := ds.map some ++ List.replicate (n - ds.length) none
def runB (n : Nat) (mb : MS) : MF := fun ds μ => match mb (startD n ds) μ with
  | .nx _ μ1 => .ok .non μ1
  | .rt d μ1 => .ok d μ1
  | .err C w _ μ1 => .err C w μ1
  | _ => .bad
theorem env_start {K : PySem.W.Frag} {ρ : List Addr} {H : Hp} {N : List Str} {ds : List D} {vs : List V} (h : DVs K ρ H ds vs) : EnvR K ρ H none (startD N.length ds) (L2.start N vs) := by
  have hl := h.length
  refine ⟨by simp [startD, L2.start, hl], fun i d e => ?_, fun q h => by cases h⟩
  unfold startD at e
  by_cases hi : i < ds.length
  · rw [List.getElem?_append_left (by simpa using hi), List.getElem?_map] at e
    obtain ⟨d', e1, e2⟩ := Option.map_eq_some_iff.mp e
    cases e2
    obtain ⟨v, e3, e4⟩ := h.get e1
    refine ⟨v, ?_, e4⟩
    unfold L2.start
    rw [List.getElem?_append_left (by simpa [← hl] using hi), List.getElem?_map, e3]
    rfl
  · rw [List.getElem?_append_right (by simpa using hi)] at e
    rw [List.getElem?_replicate] at e
    split at e
    · cases e
    · cases e
theorem fn_ok {P : Program} {w : World} {K : PySem.W.Frag} {mg : Str → Option Value} {base : Heap} {x qual : Str} {params : Arguments} {body : List Stmt} {scope : Scope} {dvs : List V} {kws : List (Str × V)} {f : Addr} {fd : FuncData} {N ps : List Str} {k : Nat} {mb : MS}
    (F : FunD K x qual params body scope dvs kws f fd) (S : FnScope N ps scope)
    (hbody : ∀ (cdv : Value) (A : Around) (outer : List Env) (s : Shared) (H : Hp) (E : XK) (W : WX), Room k (A.deeper (envOfC qual scope s.heap.objs.size f cdv)) → Takes (cxOf (L2.CX P w) P w K mg base N qual scope f cdv A outer s H E) W →
      PassesOwn (model P w) (A.deeper (envOfC qual scope s.heap.objs.size f cdv)) (envOfC qual scope s.heap.objs.size f cdv) (cxOf (L2.CX P w) P w K mg base N qual scope f cdv A outer s H E).xe → RSs (cxOf (L2.CX P w) P w K mg base N qual scope f cdv A outer s H E) none W body mb) :
    FnOk P w K mg base (L2.CX P w) (k + 1) f fd ps (spM K ps.length (runB N.length mb)) := by
  refine F.ok S (fun vs H Q E h => h.len) (fun cdv A outer s H vs Q E hr h => ?_)
  obtain ⟨ρ, μ, ds, hl, rel, dv, ok⟩ := h
  have tk := takes_of (X := cxOf (L2.CX P w) P w K mg base N qual scope f cdv A outer s H E) (E := E) rfl rfl rfl rfl
  have ps' := passes_of (X := cxOf (L2.CX P w) P w K mg base N qual scope f cdv A outer s H E) rfl
  obtain ⟨t, pt, rt⟩ := (hbody cdv A outer s H E (fun cls d _ H => E cls d H) hr tk ps').ex
  refine ⟨t, pt, rt ρ μ (startD N.length ds) (L2.start N vs) H _ rel (env_start dv) ?_⟩
  unfold runB at ok
  cases e : mb (startD N.length ds) μ with
  | nx δ1 μ1 => rw [e] at ok; exact fun ρ1 H1 σ1 p1 f1 rel1 _ => Okr.go (b := V.non) ok p1 f1 rel1 dv_non
  | rt d μ1 => rw [e] at ok; exact fun ρ1 H1 v p1 f1 rel1 dv1 => Okr.go ok p1 f1 rel1 dv1
  | err C w δ1 μ1 => rw [e] at ok; exact fun ρ1 H1 σ1 dd v p1 f1 rel1 _ hd dv1 => ok ρ1 H1 dd v p1 f1 rel1 hd dv1
  | bk δ1 μ1 => rw [e] at ok; exact ok.elim
  | ct δ1 μ1 => rw [e] at ok; exact ok.elim
  | bad => rw [e] at ok; exact ok.elim
end Doz
end
section
namespace PySem
namespace DozX
open PySem.W PySem.Calls PyProof.Rows PySem.HandSPX
def iA (p1 p2 : Pos) : Arguments := { posonlyargs := [], args := [{ arg := "self", annotation := none, pos := p1 }, { arg := "what", annotation := none, pos := p2 }], vararg := none, kwonlyargs := [], kw_defaults := [], kwarg := none, defaults := [] }
def iB (q1 q2 q3 q4 : Pos) : List Stmt := [.Assign [.Attribute (.Name "self" q1) "what" q2] (.Name "what" q3) q4]
def iS : Scope := { kind := .function, names := [(PySem.Str.ofString "self", .local), (PySem.Str.ofString "what", .local)], isGenerator := false, isCoroutine := false, more := [] }
structure ExTxt (K : Frag) (C fI : Addr) : Prop where
  cls : ∃ nm q N bs bm sn sub ab col dd k0 k1 k2 k3 k5, K.lookup C = some (excClassObj nm q C N bs bm true sn sub ab col dd k0 k1 k2 k3 k5 "ValueError.__new__") ∧ refsVE bm = true
  sa : findIn K (.ref C) "__setattr__" = some (some (.builtin "object.__setattr__"))
  ga : findIn K (.ref C) "__getattribute__" = some (some (.builtin "BaseException.__getattribute__"))
  gg : findIn K (.ref C) "__getattr__" = some none
  noN : findIn K (.ref C) "what" = some none
  iC : findIn K (.ref C) "__init__" = some (some (.ref fI))
  tC : typeIn K (.ref fI) = some (.type "function")
  kC : keepIn K (.ref C) = true
  exC : subIn K (.ref C) (.type "BaseException") = some true
  tyC : typeIn K (.ref C) = some (.type "type")
  hdC : hasDictIn K C = true
  fn : ∃ (oc : Value) (od : Option Addr) (kV doc pm : Value) (an : Option Addr) (cdv ct : Value) (osl : Array (Option Value)) (p1 p2 q1 q2 q3 q4 : Pos),
    K.lookup fI = some ⟨oc, od, .func (fnOf "__init__" "DozeError.__init__" (iA p1 p2) (iB q1 q2 q3 q4) iS .none kV doc pm an cdv ct), osl⟩ ∧ codeIn K cdv "DozeError.__init__" = true
theorem one_size (v : Value) : [v].length ≤ sizeLine := by
  rw [sizeLine_eq]
  exact (by decide : 1 ≤ 16777216)
theorem ldC {M : Model} {s : Shared} {name : Str} {scope : Scope} {L a : Addr} {cd : Value} {m : Str → Option Value} {x : Str} {pos : Pos} {v : Value} {Q : Value → Shared → Prop} {A : Around} {E : Value → Shared → Prop} (hn : s.heap.Ns L m) (hv : m x = some v) (h : Q v s)
    (hk : scope.kind = .function := by rfl) (hl : (envOfC name scope L a cd).kindOf x = some .local := by rfl) (hd : (x == ("__debug__" : Str)) = false := by decide) :
    wpAny M A (eval (.Name x pos) (envOfC name scope L a cd)) Q E s := wpAny_Name (wpAny_loadName_local hk hl hn hv h) hd
structure InitEnd (h h' : Heap) (x C dx t1 : Addr) (v : Value) : Prop where
  keep : ∀ b o, b ≠ x → h.get? b = some o → h'.get? b = some o
  obj : h'.get? x = some { cls := .ref C, dict := some dx, data := .fields #[.ref t1, .none, .none, .none, .bool false, .none] }
  dbig : h.objs.size ≤ dx
  dne : dx ≠ x
  ns : h'.Ns1 dx (fun y => if y = "what" then some v else none)
structure OwnMade (h h' : Heap) (e C d : Addr) (v : Value) : Prop where
  keep : ∀ b o, h.get? b = some o → h'.get? b = some o
  new : h.objs.size ≤ e
  obj : ∃ oe vs, h'.get? e = some oe ∧ oe.cls = .ref C ∧ oe.dict = some d ∧ oe.data = .fields vs ∧ vs[1]? = some .none
  dbig : h.objs.size ≤ d
  dne : d ≠ e
  ns : h'.Ns1 d (fun y => if y = "what" then some v else none)
section
variable {prog : Program} {w : World} {A : Around} {E : Value → Shared → Prop} {R : Result → Shared → Prop} {s : Shared} {K : Frag} {C fI : Addr}
theorem ex_init (T : ExTxt K C fI) {x t0 : Addr} {v : Value} (X : K.In s.heap) (hlim : s.heap.NoLimit) (hx : s.heap.get? x = some (excO C t0)) (hnx : K.lookup x = none) (hroom : A.depth < recursionLimit)
    (hq : ∀ h' tk dx, InitEnd s.heap h' x C dx t0 v → R (.ok (.ret .none)) { s with heap := h', toks := tk }) :
    codeAny (model prog w) A (.call (.ref fI) ⟨[.ref x, v], []⟩) R s := by
  obtain ⟨oc, od, kV, doc, pm, an, cdv, ct, osl, p1, p2, q1, q2, q3, q4, ho, hcd⟩ := T.fn
  obtain ⟨nm, q, N, bs, bm, sn, sub, ab, col, dd, k0, k1, k2, k3, k5, hC, hbm⟩ := T.cls
  have hcl : clsIn K C = some { name := nm, bases := bs, mro := .ref C :: bm, ns := N, qualname := q, hasDict := true, slotNames := sn, subclasses := sub, abstract := ab, collection := col, hasDel := false } := by unfold clsIn; rw [hC] <;> rfl
  refine Att.call_fn (binds := [("self", .ref x), ("what", v)]) X hlim ho hcd hroom (BindsTo.of_eq (by first | rfl | with_unfolding_all rfl)) (by first | rfl | decide | with_unfolding_all rfl) (fun s₁ IC => ?_) rfl rfl rfl
  obtain ⟨h₁, tk₁, rfl⟩ := IC.toInCall.same
  have k : ∀ b o, s.heap.get? b = some o → h₁.get? b = some o := IC.toInCall.keep
  have hn := IC.toInCall.ns
  have hxL : s.heap.objs.size ≠ x := Nat.ne_of_gt (Heap.lt_size hx)
  have X₁ : K.In h₁ := X.keeps k
  have hx₁ := k _ _ hx
  show wpAny _ _ (execs _ _) _ _ _
  refine wpAny_execs_cons (plainObj_wpAny_Assign_Attribute ?_)
  refine ldC (v := v) hn (by first | rfl | with_unfolding_all rfl | kernel_rfl) (ldC (v := .ref x) hn (by first | rfl | with_unfolding_all rfl | kernel_rfl) ?_)
  refine set_plain X₁ (ox := excO C t0) (od := none) ⟨hx₁, rfl, rfl, trivial⟩ T.sa ?_
  refine exc_osa X₁ hx₁ hcl (show refsVE (.ref C :: bm) = true from hbm) rfl T.noN (fun h₃ tk₃ dx k₃ dn dne hx₃ hn₃ => ?_)
  show wpAny _ _ (execs _ _) _ _ _
  have z : s.heap.objs.size < h₁.objs.size := hn.lt
  exact wpAny_execs_nil (hq h₃ tk₃ dx ⟨fun b o hb e => k₃ b o hb (k b o e), hx₃, Nat.le_of_lt (Nat.lt_of_lt_of_le z dn), dne, hn₃⟩)
theorem ex_made (T : ExTxt K C fI) {v : Value} (X : K.In s.heap) (hlim : s.heap.NoLimit) (hroom : A.depth + 1 < recursionLimit)
    (hq : ∀ h' tk e d, OwnMade s.heap h' e C d v → R (.ok (.ret (.ref e))) { s with heap := h', toks := tk }) :
    codeAny (model prog w) A (.call (.ref C) ⟨[v], []⟩) R s := by
  obtain ⟨nm, q, N, bs, bm, sn, sub, ab, col, dd, k0, k1, k2, k3, k5, hC, hbm⟩ := T.cls
  obtain ⟨hp, g, dr, tk, os⟩ := s
  have k : ∀ b o, hp.get? b = some o → ((hp.push (kdv_tup [v])).push (excO C hp.objs.size)).get? b = some o := fun b o e => Heap.get?_push_of_some _ (Heap.get?_push_of_some _ e)
  have hget : ((hp.push (kdv_tup [v])).push (excO C hp.objs.size)).get? (hp.objs.size + 1) = some (excO C hp.objs.size) := by heap_get
  have hnx : K.lookup (hp.objs.size + 1) = none := by
    cases e : K.lookup (hp.objs.size + 1) with
    | none => rfl
    | some o =>
      have z : hp.get? (hp.objs.size + 1) = some o := X _ _ e
      exact absurd (Nat.lt_of_succ_lt (Heap.lt_size z)) (Nat.lt_irrefl _)
  refine call_own F.excBase_ValueError (fun X => refsVE_contains X bm hbm) (X _ _ hC) (looks_findIn X T.iC) (fun self => bind_fn X self T.tC) (one_size v) ?_
  refine ex_init (s := ⟨(hp.push (kdv_tup [v])).push (excO C hp.objs.size), g, dr, tk, os⟩) T (X.keeps k) (hlim.keeps k) hget hnx ?_ fun h' tk' dx ⟨k', hx, dn, dne, hns⟩ => ?_
  · show A.depth + 1 < recursionLimit
    exact hroom
  · have old : ∀ b o, hp.get? b = some o → h'.get? b = some o := fun b o e => k' b o (Nat.ne_of_lt (Nat.lt_succ_of_lt (Heap.lt_size e))) (k b o e)
    have z : hp.objs.size + 1 + 1 ≤ dx := by
      first
        | (simpa only [Heap.size_push] using dn)
        | exact dn
        | (have q := dn; rw [Heap.size_push, Heap.size_push] at q; exact q)
    exact ⟨rfl, hq h' tk' (hp.objs.size + 1) dx ⟨old, Nat.le_succ _, ⟨_, _, hx, rfl, rfl, rfl, rfl⟩, Nat.le_trans (Nat.le_trans (Nat.le_succ _) (Nat.le_succ _)) z, dne, hns⟩⟩
end
end DozX
end PySem
namespace L2
open PySem PySem.Spec PyProof.Rows
theorem relO_what {v : V} {v' : Value} (r : RelV v v') (f : Str) : RelO (List.lookup f [(("what" : Str), v)]) (if f = "what" then some v' else none) := by
  by_cases hw : f = "what"
  · subst hw
    rw [if_pos rfl]
    have q : List.lookup ("what" : Str) [(("what" : Str), v)] = some v := by simp [List.lookup]
    rw [q]
    exact r
  · rw [if_neg hw]
    have qw : (f == ("what" : Str)) = false := by simpa using hw
    have q2 : List.lookup f [(("what" : Str), v)] = none := by simp [List.lookup, qw]
    rw [q2]
    trivial
section
variable {X : Cx} {C fI : Addr}
def tMkX (C : Addr) (ta : TA) : St → Hp → XK → Prop := fun σ H Q => ta σ H fun vs H1 => ∃ v, vs = [v] ∧ ∀ d, H1 d = none → Q (.ref C) (some d) (upd H1 d (.xd [(("what" : Str), v)]))
theorem pmk_X {x : Str} {a : Expr} {ta : TA} {p pos : Pos} {k : Nat} (T : PySem.DozX.ExTxt X.K C fI) (gC : X.mg x = some (.ref C)) (hr : Room k X.A) (ha : PA X [a] ta) (hg : Gl X x := by rfl) (hdb : (x == ("__debug__" : Str)) = false := by decide)
    (he : starEach (a :: []) X.env = (false, eval a X.env) :: starEach [] X.env := by rfl) (hpl : (backTo pos (starEach [] X.env)).any (·.1) = false := by rfl) :
    PMk X (.Call (.Name x p) [a] [] pos) (tMkX C ta) := by
  intro pins s σ H Q I h
  refine wpAny_Call_Name_kw (ld_glob I hg gC ?_ hdb)
  refine PySem.W.callWith_K (h₀ := X.base) I.ok.mod.kin T.kC (thn (ha.run pos pins s σ H _ I h) fun us s1 hh => ?_) he hpl
  obtain ⟨vs, H1, I1, r1, v, ev, q1⟩ := hh
  subst ev
  refine ⟨I1.kIn, ?_⟩
  cases r1 with
  | cons rv rn =>
    rename_i v' us'
    cases rn
    show wpAny _ _ (call (.ref C) [v']) _ _ _
    have hlim := I1.nolimit
    obtain ⟨hp, g, dr, tk, os⟩ := s1
    refine wpAny_call (PySem.DozX.ex_made T I1.kIn hlim (by have := hr.dp; omega) fun h' tk' e d M => ?_)
    show MkP X pins σ Q (.ref e) ⟨h', g, dr, tk', os⟩
    obtain ⟨oe, fv, hoe, hc, hd, hdat, h1⟩ := M.obj
    have hns := M.ns
    obtain ⟨G', g1, g2⟩ := restrict h' fun b => decide (b ≠ e)
    have gk : ∀ b, b ≠ e → G'.get? b = h'.get? b := fun b hb => g1 b (decide_eq_true hb)
    have ge : G'.get? e = none := g2 e (by simp)
    have old : ∀ b o, hp.get? b = some o → G'.get? b = some o := fun b o q => (gk b (Nat.ne_of_lt (Nat.lt_of_lt_of_le (Heap.lt_size q) M.new))).trans (M.keep b o q)
    have ob : ObjOk X.prog X.w (upd H1 d (.xd [(("what" : Str), v)])) G' d (.xd [(("what" : Str), v)]) :=
      ⟨_, hns.at (fun o q => (gk d M.dne).trans q), fun f => relO_what rv f⟩
    have J : Inv X pins σ (upd H1 d (.xd [(("what" : Str), v)])) ⟨G', g, dr, tk', os⟩ := I1.laid (t' := tk') old M.dbig ob
    refine ⟨e, oe, fv, ⟨G', g, dr, tk', os⟩, _, .ref C, some d, rfl, J, fun b o q => ?_, ge, hoe, ⟨hc, hd⟩, hdat, h1, ?_, rfl, I1.bare, raises_own T.exC T.tyC, q1 d (I1.hok.fresh M.dbig)⟩
    · by_cases hb : b = e
      · have q' : G'.get? b = some o := q
        rw [hb, ge] at q'; cases q'
      · exact (gk b hb).symm.trans q
    · rw [upd_ne (Ne.symm M.dne)]
      exact I1.hok.fresh M.new
def tWhat (C : Addr) (a : Addr) (cls : Value) (d : Option Addr) (te : TE) : TE := fun σ H Q => te σ H fun x H1 => x = .ref a ∧ cls = .ref C ∧ ∃ (dd : Addr) (v : V), d = some dd ∧ H1 dd = some (.xd [(("what" : Str), v)]) ∧ Q v H1
theorem pe_what {a : Addr} {oe : Obj} {cls : Value} {d : Option Addr} {pn : List (Addr × Obj)} {e : Expr} {te : TE} {pos : Pos} (T : PySem.DozX.ExTxt X.K C fI) (hz : Zc cls d oe) (hf : ∃ vs, oe.data = .fields vs) (he : PE (X.suite a ((a, oe) :: pn)) e te)
    (hb : attributeBase e "what" X.env (eval e X.env) = eval e X.env := by rfl) :
    PE (X.suite a ((a, oe) :: pn)) (.Attribute e "what" pos) (tWhat C a cls d te) := by
  refine ⟨fun pins s σ H Q I h => ?_⟩
  refine attr_of hb (thn (he.run pins s σ H _ I h) fun u s1 hh => ?_)
  obtain ⟨x, H1, I1, rx, ex, ec, dd, v, ed, ea, q⟩ := hh
  subst ex
  obtain rfl : u = Value.ref a := rx
  subst ec
  subst ed
  obtain ⟨ha, _⟩ := I1.pin (a, oe) (List.mem_append_left _ List.mem_cons_self)
  obtain ⟨vs, hd⟩ := hf
  have hx : ObjOk X.prog X.w H1 s1.heap dd (.xd [(("what" : Str), v)]) := I1.hok dd _ ea
  obtain ⟨mA, hns, hr⟩ := hx
  obtain ⟨od, ho, hl⟩ := lookIn_ns hns
  have l : List.lookup ("what" : Str) [(("what" : Str), v)] = some v := by simp [List.lookup]
  obtain ⟨u, hu, ru⟩ := RelO.some_of (v := v) (o := mA "what") (by rw [← l]; exact hr "what")
  have J : PySem.W.InstAt s1.heap a oe C (some od) := ⟨ha, hz.1, by unfold PySem.W.notCls; rw [hd] <;> rfl, by rw [hz.2]; exact ho⟩
  exact HandSPX.exc_get I1.kIn J T.ga T.gg T.exC (PySem.W.findObj_own T.hdC T.noN rfl (by rw [hl, hu])) (handed_of ru) ⟨v, H1, I1.tok _, ru, q⟩
end
end L2
end
section
namespace Doz
open PySem L2
open PySem.DozX (ExTxt)
def mraise (C : Addr) (ma : MX (List D)) : MS := ofE ma fun ds => fun δ μ => match ds with
  | [w] => .err C w δ μ
  | _ => .bad
section
variable {X : Cx} {hx : Option HX} {W : WX} {C fI : Addr} {k : Nat} {x : Str} {a : Expr} {ma : MX (List D)} {p pos pos2 : Pos}
theorem rs_raise (hc : X.calm = true) (T : ExTxt X.K C fI) (gC : X.mg x = some (.ref C)) (hr : Room k X.A) (tk : Takes X W) (ha : RA X hx W [a] ma) (hg : Gl X x := by rfl) (hdb : (x == ("__debug__" : Str)) = false := by decide)
    (he : starEach (a :: []) X.env = (false, eval a X.env) :: starEach [] X.env := by rfl) (hpl : (backTo pos (starEach [] X.env)).any (·.1) = false := by rfl) : RS X hx W (.Raise (some (.Call (.Name x p) [a] [] pos)) none pos2) (mraise C ma) := by
  obtain ⟨t, pt, rt⟩ := ha.ex
  refine ⟨⟨_, ps_raise hc tk (pmk_X T gC hr pt hg hdb he hpl), fun ρ μ δ σ H Dn rel env ok => rt ρ μ δ σ H _ rel env (OkS.ofE env ok fun ds μ1 ρ1 H1 vs pr fz rel1 dv ok1 => ?_)⟩⟩
  split at ok1
  · obtain ⟨v, rfl, dv1⟩ := dv.one
    refine ⟨v, rfl, fun d hd => ?_⟩
    have f : Fz ρ1 ρ1 H1 (upd H1 d (.xd [(("what" : Str), v)])) := Fz.new hd
    exact ok1 ρ1 _ σ d v (Pre.refl _) f (rel1.alloc hd) ((env.mono pr fz).mono (Pre.refl _) f) upd_same (dv1.mono (Pre.refl _) f)
  · exact ok1.elim
end
def TmS (K : PySem.W.Frag) (hx : Option HX) (W : WX) (m : MS) : TS := fun Dn σ H => ∃ ρ μ δ, Rel K ρ μ H ∧ EnvR K ρ H hx δ σ ∧ OkS K hx W ρ H (m δ μ) Dn
theorem RSs.pss {X : Cx} {hx : Option HX} {W : WX} {body : List Stmt} {m : MS} (h : RSs X hx W body m) : PSs X body (TmS X.K hx W m) := by
  obtain ⟨t, p, r⟩ := h.ex
  exact ⟨fun pins s σ H Dn I ⟨ρ, μ, δ, rel, env, ok⟩ => p.run pins s σ H Dn I (r ρ μ δ σ H Dn rel env ok)⟩
def unS (i : Nat) : SRes → SRes
  | .nx δ μ => .nx (δ.set i none) μ
  | .bk δ μ => .bk (δ.set i none) μ
  | .ct δ μ => .ct (δ.set i none) μ
  | .rt d μ => .rt d μ
  | _ => .bad
def mtry (i : Nat) (test : Addr → Option Bool) (mb : MS) (ms : Addr → D → MS) : MS := fun δ μ => match mb δ μ with
  | .err C w δ1 μ1 => match test C with
    | some true => if i < δ1.length then unS i (ms C w (δ1.set i none) μ1) else .bad
    | some false => .err C w δ1 μ1
    | none => .bad
  | r => r
theorem EnvR.hold {K : PySem.W.Frag} {ρ : List Addr} {H : Hp} {δ : DEnv} {σ : St} {i : Nat} {a C dd : Addr} {w : D} {v : V} (e : EnvR K ρ H none δ σ) (hi : i < δ.length) (hn : dd ∉ ρ) (hd : H dd = some (.xd [(("what" : Str), v)])) (dv : DV K ρ H w v) :
    EnvR K ρ H (some ⟨i, a, C, dd, w, none⟩) (δ.set i none) (σ.set i (some (.ref a))) := by
  refine ⟨by simp [e.len], fun j d' h => ?_, fun q h => ?_⟩
  · by_cases hj : i = j
    · subst hj
      rw [List.getElem?_set_self hi] at h
      cases h
    · rw [List.getElem?_set_ne hj] at h
      obtain ⟨u, h1, h2⟩ := e.get j d' h
      exact ⟨u, by rw [List.getElem?_set_ne hj]; exact h1, h2⟩
  · cases h
    exact ⟨List.getElem?_set_self (e.len ▸ hi), hn, v, hd, dv, fun _ z => nomatch z⟩
section
variable {X : Cx} {W : WX} {x n : Str} {c : Value} {body suite : List Stmt} {b₀ : Stmt} {np pos pos' : Pos} {mb : MS} {ms : Addr → D → MS} {test : Addr → Option Bool}
theorem rs_try (i : Nat) (hs : X.stack = X.env :: X.outer) (hf : X.env.frame = some X.env.locals) (hN : X.N.Nodup) (hc : Names X x c) (tk : Takes X W) (hT : ∀ C b, test C = some b → PySem.W.exmOne X.K (.ref C) c = some b)
    (hb : ∀ (W : WX) (pn : List (Addr × Obj)) (xe : Value → Shared → Prop), Takes (X.tr pn xe) W → PassesOwn (model X.prog X.w) X.A X.env xe → RSs (X.tr pn xe) none W body mb)
    (hsu : ∀ (a : Addr) (oe : Obj) (C dd : Addr) (w : D) (pn : List (Addr × Obj)), test C = some true → Zc (.ref C) (some dd) oe → (∃ vs, oe.data = .fields vs) → RSs (X.suite a ((a, oe) :: pn)) (some ⟨i, a, C, dd, w, none⟩) WF (b₀ :: suite) (ms C w))
    (hi : X.N[i]? = some n := by rfl) (hln : X.env.kindOf n = some .local := by rfl) :
    RS X none W (.Try body [.ExceptHandler (some (.Name x np)) (some n) (b₀ :: suite) pos'] [] [] pos) (mtry i test mb ms) := by
  let ts : Addr → Value → Option Addr → TS := fun a cls d Dn σ H => ∃ C dd w, cls = .ref C ∧ d = some dd ∧ test C = some true ∧ TmS X.K (some ⟨i, a, C, dd, w, none⟩) WF (ms C w) Dn σ H
  refine ⟨⟨_, ps_try_as (tb := fun W => TmS X.K none W mb) (ts := ts) hs hf hN hi hln hc tk (fun W pn xe t p => (hb W pn xe t p).pss) (fun a oe cls d pn hz hv => ?_), fun ρ μ δ σ H Dn rel env ok => ⟨ρ, μ, δ, rel, env, ?_⟩⟩⟩
  · refine ⟨fun pins s σ H Dn I ⟨C, dd, w, e1, e2, ht, h⟩ => ?_⟩
    subst e1 e2
    exact (hsu a oe C dd w pn ht hz hv).pss.run pins s σ H Dn I h
  · unfold mtry at ok
    cases e : mb δ μ with
    | nx δ1 μ1 => rw [e] at ok; exact ok
    | rt d μ1 => rw [e] at ok; exact ok
    | bk δ1 μ1 => rw [e] at ok; exact ok
    | ct δ1 μ1 => rw [e] at ok; exact ok
    | bad => rw [e] at ok; exact ok
    | err C w δ1 μ1 =>
      rw [e] at ok
      dsimp only at ok
      intro ρ1 H1 σ1 dd v p1 f1 rel1 env1 hd dv
      split at ok
      · rename_i ht
        split at ok
        · rename_i hl
          refine ⟨true, hT C true ht, fun _ a ha => ⟨C, dd, w, rfl, rfl, ht, ρ1, μ1, δ1.set i none, rel1, env1.hold hl (rel1.noxd hd) hd dv, ?_⟩, fun z => nomatch z⟩
          revert ok
          cases ms C w (δ1.set i none) μ1 with
          | nx δ2 μ2 => exact fun ok ρ2 H2 σ2 p2 f2 rel2 env2 => ok ρ2 H2 _ (p1.trans p2) (f1.trans f2) rel2 env2.nox.unset
          | bk δ2 μ2 => exact fun ok ρ2 H2 σ2 p2 f2 rel2 env2 => ok ρ2 H2 _ (p1.trans p2) (f1.trans f2) rel2 env2.nox.unset
          | ct δ2 μ2 => exact fun ok ρ2 H2 σ2 p2 f2 rel2 env2 => ok ρ2 H2 _ (p1.trans p2) (f1.trans f2) rel2 env2.nox.unset
          | rt d μ2 => exact fun ok ρ2 H2 v2 p2 f2 rel2 dv2 => ok ρ2 H2 v2 (p1.trans p2) (f1.trans f2) rel2 dv2
          | err _ _ _ _ => exact fun ok => ok.elim
          | bad => exact fun ok => ok.elim
        · exact ok.elim
      · rename_i ht
        exact ⟨false, hT C false ht, (fun z => nomatch z), fun _ => ok ρ1 H1 σ1 dd v p1 f1 rel1 env1 hd dv⟩
      · exact ok.elim
theorem re_what {i : Nat} {a C dd fI : Addr} {oe : Obj} {w : D} {pn : List (Addr × Obj)} {y : Str} {p2 : Pos} (T : ExTxt X.K C fI) (hz : Zc (.ref C) (some dd) oe) (hf : ∃ vs, oe.data = .fields vs)
    (hN : X.N[i]? = some y := by rfl) (hv : Vis X.env.scope y := by first | exact Or.inl rfl | exact Or.inr (Or.inl rfl) | exact Or.inr (Or.inr rfl)) (hd : (y == ("__debug__" : Str)) = false := by decide)
    (hcd : (y == ("__classdict__" : Str)) = false := by decide) (hb : attributeBase (.Name y p2) "what" X.env (eval (.Name y p2) X.env) = eval (.Name y p2) X.env := by rfl) :
    RE (X.suite a ((a, oe) :: pn)) (some ⟨i, a, C, dd, w, none⟩) W (.Attribute (.Name y p2) "what" pos) (mC w) := by
  refine ⟨⟨_, pe_what T hz hf (pe_var (X := X.suite a ((a, oe) :: pn)) (i := i) hN hv hd hcd) hb, fun ρ μ δ σ H Q rel env ok => ?_⟩⟩
  obtain ⟨h1, h2, v, h3, h4⟩ := env.exn _ rfl
  exact ⟨.ref a, h1, rfl, rfl, dd, v, rfl, h3, Okr.now ok rel h4.1⟩
end
end Doz
end
section
namespace PySem
namespace DozX
open PySem.W PySem.Calls PyProof.Rows PySem.HandSPX
def clsB (K : Frag) (C : Addr) : Bool := match K.lookup C with
  | some ⟨.type "type", _, .cls cd, sl⟩ => (match cd.mro, sl.toList with
    | .ref C' :: bm, [_, _, _, _, some (.builtin n), _] => C' == C && n == "ValueError.__new__" && !cd.hasDel && cd.hasDict && refsVE bm
    | _, _ => false)
  | _ => false
theorem clsB_ok {K : Frag} {C : Addr} (q : clsB K C = true) : ∃ nm qn N bs bm sn sub ab col dd k0 k1 k2 k3 k5, K.lookup C = some (excClassObj nm qn C N bs bm true sn sub ab col dd k0 k1 k2 k3 k5 "ValueError.__new__") ∧ refsVE bm = true := by
  unfold clsB at q
  split at q
  · rename_i dd cd sl ho
    split at q
    · rename_i C' bm k0 k1 k2 k3 n k5 hm hs
      simp only [Bool.and_eq_true, beq_iff_eq, Bool.not_eq_true'] at q
      obtain ⟨⟨⟨⟨rfl, rfl⟩, hdel⟩, hdi⟩, ht⟩ := q
      obtain ⟨nm, bs, mro, ns, qn, hd, sn, sub, ab, col, del⟩ := cd
      dsimp only at hm hdel hdi
      subst hm hdel hdi
      have hsl : sl = #[k0, k1, k2, k3, some (.builtin "ValueError.__new__"), k5] := by
        obtain ⟨l⟩ := sl
        simp only at hs
        rw [hs]
      subst hsl
      exact ⟨nm, qn, ns, bs, bm, sn, sub, ab, col, dd, k0, k1, k2, k3, k5, ho, ht⟩
    · cases q
  · cases q
def exB (K : Frag) (x : Str) : Bool :=
  clsB K (He.ga K x) && (He.eqO (findIn K (.ref (He.ga K x)) "__setattr__") (some (some (.builtin "object.__setattr__"))) && (He.eqO (findIn K (.ref (He.ga K x)) "__getattribute__") (some (some (.builtin "BaseException.__getattribute__"))) &&
    (He.eqO (findIn K (.ref (He.ga K x)) "__getattr__") (some none) && (He.eqO (findIn K (.ref (He.ga K x)) "what") (some none) && (He.eqO (findIn K (.ref (He.ga K x)) "__init__") (some (some (.ref (He.fAd K ("DozeError", some "__init__"))))) &&
      (decide (typeIn K (.ref (He.fAd K ("DozeError", some "__init__"))) = some (.type "function")) && (keepIn K (.ref (He.ga K x)) && (decide (subIn K (.ref (He.ga K x)) (.type "BaseException") = some true) &&
        (decide (typeIn K (.ref (He.ga K x)) = some (.type "type")) && hasDictIn K (He.ga K x))))))))))
theorem exB_ok {K : Frag} {x : Str} {fd : FuncData} {p1 p2 q1 q2 q3 q4 : Pos} (h : exB K x = true) (F : L2.FunD K "__init__" "DozeError.__init__" (iA p1 p2) (iB q1 q2 q3 q4) iS [] [] (He.fAd K ("DozeError", some "__init__")) fd) : ExTxt K (He.ga K x) (He.fAd K ("DozeError", some "__init__")) := by
  unfold exB at h
  simp only [Bool.and_eq_true] at h
  obtain ⟨h1, h2, h3, h4, h5, h6, h7, h8, h9, h10, h11⟩ := h
  refine ⟨clsB_ok h1, He.eqO_ok h2, He.eqO_ok h3, He.eqO_ok h4, He.eqO_ok h5, He.eqO_ok h6, of_decide_eq_true h7, h8, of_decide_eq_true h9, of_decide_eq_true h10, h11, ?_⟩
  obtain ⟨oc, od, dV, kV, doc, pm, an, cdv, ct, osl, rfl, lk, hcd, hD, _⟩ := F.ex
  rcases hD with ⟨_, rfl⟩ | ⟨e, _⟩
  · exact ⟨oc, od, kV, doc, pm, an, cdv, ct, osl, p1, p2, q1, q2, q3, q4, lk, hcd⟩
  · exact absurd rfl e
def kwAt (f : Str × Option Str) (x : Str) (K : Frag) : Addr := match K.lookup (He.fAd K f) with
  | some ⟨_, _, .func fd, _⟩ => (match fd.kwdefaults with
    | .ref A => (match nsIn K A x with
      | some (some (.ref b)) => b
      | _ => 0)
    | _ => 0)
  | _ => 0
def emB (K : Frag) (a : Addr) : Bool := match K.lookup a with
  | some ⟨.type "tuple", _, .seq its _, _⟩ => its.size == 0
  | _ => false
theorem emB_ok {K : Frag} {a : Addr} (h : emB K a = true) : ∃ (o : Obj) (its : Array Value) (n : Nat), K.lookup a = some o ∧ o.cls = .type "tuple" ∧ o.data = .seq its n ∧ its.size = 0 := by
  unfold emB at h
  split at h
  · rename_i od its n sl e
    exact ⟨_, its, n, e, rfl, rfl, by simpa using h⟩
  · cases h
def emK (f : Str × Option Str) (x : Str) (K : Frag) : Bool := emB K (kwAt f x K)
def bmK (x m : Str) (K : Frag) : Bool := He.eqO (specialIn K (.ref (He.ma K (He.ga K x) m)) "__get__") (some (some (.builtin "function.__get__"))) && (decide (takesIn K (.ref (He.ma K (He.ga K x) m)) = some false) && (!copiedNames.contains m && fnIn K (He.ma K (He.ga K x) m)))
theorem bmK_ok {x m : Str} {K : Frag} (h : bmK x m K = true) (k : L2.Meth K (He.ga K x) m (He.ma K (He.ga K x) m)) : L2.BMeth K (He.ga K x) m (He.ma K (He.ga K x) m) := by
  unfold bmK at h
  simp only [Bool.and_eq_true, Bool.not_eq_true'] at h
  obtain ⟨h1, h2, h3, h4⟩ := h
  exact ⟨k, He.eqO_ok h1, of_decide_eq_true h2, h3, h4⟩
open He in
def obsX (fa : List Fa) (fn : List DefD) (xs cs : List Str) (ts : List (Frag → Bool)) (K : Frag) : AlD := ((decide (cs.map (ga K)).Nodup && ts.all fun p => p K) && ((xs.all fun x => exB K x) && ((fa.all fun f => f.ok K) && fn.all fun d => d.ok K)), fn.map fun d => fnW K d.at_)
open He in
def SaysX (fa : List Fa) (fn : List DefD) (xs cs : List Str) (ts : List (Frag → Bool)) (K : Frag) : Prop := obsX fa fn xs cs ts K = valD fn
open He in
def obsXG (n : Nat) (fa : List Fa) (fn : List DefD) (xs cs : List Str) (ts : List (Frag → Bool)) (g : Addr → Option Obj) : AlD := obsX fa fn xs cs ts (frG g (asD g n))
open He in
def hookX (n : Nat) (fa : List Fa) (fn : List DefD) (xs cs : List Str) (ts : List (Frag → Bool)) : PySem.W.Hook where
  α := AlD
  obs := fun s => obsXG n fa fn xs cs ts s.heap.get?
  val := fun _ => valD fn
  says := fun _ h => ∃ K : Frag, K.In h ∧ SaysX fa fn xs cs ts K
  of := fun _ _ e => ⟨_, frG_in, e⟩
  keeps := fun _ _ _ ⟨K, hK, c⟩ k => ⟨K, PySem.W.Frag.In.keeps hK k, c⟩
open He in
theorem obsXG_eq {n : Nat} {fa : List Fa} {fn : List DefD} {xs cs : List Str} {ts : List (Frag → Bool)} {g : Addr → Option Obj} {s : Shared} (h : ∀ a, g a = s.heap.get? a) : obsXG n fa fn xs cs ts g = (hookX n fa fn xs cs ts).obs s := by
  have e : g = s.heap.get? := funext h
  rw [e] <;> rfl
section
open He
variable {fa : List Fa} {fn : List DefD} {xs cs : List Str} {ts : List (Frag → Bool)} {K : Frag}
theorem SaysX.one (c : SaysX fa fn xs cs ts K) : ((decide (cs.map (ga K)).Nodup && ts.all fun p => p K) && ((xs.all fun x => exB K x) && ((fa.all fun f => f.ok K) && fn.all fun d => d.ok K))) = true := congrArg (fun z : AlD => z.1) c
theorem SaysX.says (c : SaysX fa fn xs cs ts K) : SaysD fa fn K := by
  have c1 := (ba (ba c.one).2).2
  have e : fn.map (fun d => fnW K d.at_) = fn.map DefD.val := congrArg (fun z : AlD => z.2) c
  unfold SaysD obsD valD
  rw [c1, e]
theorem SaysX.exc (c : SaysX fa fn xs cs ts K) (i : Nat) {x : Str} (h : xs[i]? = some x := by rfl) : exB K x = true := by
  have c1 := (ba (ba c.one).2).1
  exact List.all_eq_true.mp c1 x (List.mem_of_getElem? h)
theorem SaysX.unlike (c : SaysX fa fn xs cs ts K) : (cs.map (ga K)).Nodup := of_decide_eq_true (ba (ba c.one).1).1
theorem SaysX.ck (c : SaysX fa fn xs cs ts K) (i : Nat) {p : Frag → Bool} (h : ts[i]? = some p := by rfl) : p K = true := List.all_eq_true.mp (ba (ba c.one).1).2 p (List.mem_of_getElem? h)
end
end DozX
end PySem
namespace Doz
open PySem L2
theorem walk_ofP {l : PySem.W.OpenLaw} {n k : Nat} {q : Program} {loose : List Str} {XP : (Str → Option Value) → Heap → Prop} {YP : World → Heap → Prop} {d : DefRec} {x : Str} {m : PySem.W.Frag → MF} {Gd : PySem.W.Frag → Prop}
    (hn : l.most = some n) (hn2 : n ≤ sizeLine) (hdf : d.params.defaults = []) (hr : Room k callerA)
    (F : ∀ (w : World) (mg : Str → Option Value) (fa : Addr) (h : Heap), YP w h → h.Ns mainGlobals mg → mg d.name = some (.ref fa) →
      ∃ (K : PySem.W.Frag) (fd : FuncData), K.In h ∧ Gd K ∧ (∀ (s : Shared) (u : Value), BindsTo s fd ⟨[u], []⟩ [(x, u)]) ∧ ∀ base : Heap, K.In base → base.Ns mainGlobals mg → FnOk l.prog w K mg base (L2.CX l.prog w) k fa fd [x] (spM K 1 (m K)))
    (law : ∀ K, Gd K → ∀ ns : List Int, ns.length ≤ n → ∃ μ, m K [.lst (ns.map D.int)] { cells := [] } = .ok (.bl true) μ) :
    PySem.W.WalkO q loose XP YP l.row.toRowW d [] (fun f vs => PySem.call f vs) := by
  refine Att.attach_call hn hdf fun w s₀ s₁ mg mb fa o pm cd doc a vs ns G Y ho hd hcd hmg hobj hints hlen hg => ?_
  obtain ⟨K, fd, KX, gd, hb, hF⟩ := F w mg fa _ Y G.T.g hmg
  refine law_call KX G.T.g G.T.b G.T.builtins G.T.nolimit hg hobj hints (Nat.le_trans hlen hn2) hr hF hb (fun H hO hS => ?_) fun H e s' c => ?_
  · obtain ⟨μ, e⟩ := law K gd ns hlen
    refine ⟨[], { cells := [] }, [.lst (ns.map D.int)], rfl, ⟨rfl, List.nodup_nil, fun n a c h => by simp at h, fun n h => by cases h⟩, .cons ?_ .nil, ?_⟩
    · have ds : ∀ ns : List Int, DVs K [] H (ns.map D.int) (ns.map V.int) := fun ns => by
        induction ns with
        | nil => exact .nil
        | cons i r ih => exact .cons dv_int ih
      simp only [DV]
      refine ⟨a, ns.map V.int, rfl, ?_, ds ns⟩
      rcases hS with (h | h) | ⟨ob, its, m', h1, h2, h3, h4, h5, h6⟩
      · rcases hO a with z | ⟨o', xs', z⟩
        · rw [h] at z; cases z
        · rw [h] at z; cases z
      · exact .inl h
      · have e2 : some ob = some _ := (KX a ob h1).symm.trans hobj
        cases e2
        have h4' : Data.seq vs.toArray 0 = Data.seq its m' := h4
        cases h4'
        exact .inr ⟨vs, 0, h1, by simpa using h5, by simpa using h6⟩
    · rw [e]
      exact fun ρ' H' b p f rel dv => bl_ok dv
  · obtain ⟨_, _, _, _, _, _, _, _, _, _, _, _, z⟩ := c
    exact z.elim
end Doz
end
section
namespace Doz
open PySem L2
def mchain (c c' : D → D → Mem → Res Bool) (a b z : ME) : MX Bool := bindM a fun x => bindM b fun y => fun δ μ => (c x y μ).bind fun k μ1 => if k = true then (z δ μ1).bind fun w μ2 => c' y w μ2 else .ok false μ1
section
variable {X : Cx} {hx : Option HX} {W : WX} {a b c : Expr} {ma mb mc : ME} {pos : Pos}
theorem rt_chain {op op' : CmpOp} {r r' : R2} {f f' : D → D → Mem → Res Bool} (ho : OpR X (compareOp op) r) (om : CmpM X.K r f) (ho' : OpR X (compareOp op') r') (om' : CmpM X.K r' f') (ha : RE X hx W a ma) (hb : RE X hx W b mb) (hc : RE X hx W c mc)
    (hm : lastMarks [op, op'] [b, c] = false := by with_unfolding_all rfl) : RT X hx W (.Compare a [op, op'] [b, c] pos) (mchain f f' ma mb mc) := by
  obtain ⟨ta, pa, ra⟩ := ha.ex
  obtain ⟨tb, pb, rb⟩ := hb.ex
  obtain ⟨tc, pc, rc⟩ := hc.ex
  refine ⟨⟨_, pt_chain ho ho' pa pb pc hm, ?_⟩⟩
  refine Ref.two (k := fun x y σ H Q => r x y H fun z H3 => ∃ k, z = .bl k ∧ (if k = true then tc σ H3 fun w' H4 => r' y w' H4 fun x H' => ∃ k, x = V.bl k ∧ Q k H' else ∃ k, V.bl false = V.bl k ∧ Q k H3)) stay_DV ra rb fun d e ρ μ δ σ H x y Q rel env dx dy ok => ?_
  refine om d e ρ μ H x y _ _ rel dx dy (Okr.bind ok fun k μ1 ρ1 H1 v p1 f1 rel1 hv ok1 => ?_)
  have hv' : v = V.bl k := hv
  refine ⟨k, hv', ?_⟩
  cases k with
  | false => exact iteF ⟨false, rfl, Okr.now (b := false) ok1 rel1 rfl⟩
  | true =>
    refine iteT (rc ρ1 μ1 δ σ H1 _ rel1 (env.mono p1 f1) (Okr.bind ok1 fun w μ2 ρ2 H2 wv p2 f2 rel2 dw ok2 => ?_))
    exact om' e w ρ2 μ2 H2 y wv _ _ rel2 ((dy.mono p1 f1).mono p2 f2) dw (okr_tt ok2)
end
def gthen (g1 g2 : MG) : MG := fun d δ μ => match g1 d δ μ with
  | .ok δ1 μ1 => match g2 d δ1 μ1 with
    | .ok δ2 μ2 => .ok δ2 μ2
    | _ => .bad
  | _ => .bad
theorem RefG.then_ {K : PySem.W.Frag} {hx : Option HX} {W : WX} {g1 g2 : TG} {m1 m2 : MG} (h1 : RefG K hx W g1 m1) (h2 : RefG K hx W g2 m2) : RefG K hx W (fun v σ H Q => g1 v σ H fun σ' H' => g2 v σ' H' Q) (gthen m1 m2) := by
  intro ρ μ δ σ H d v Q rel env dv ok
  unfold gthen at ok
  refine h1 ρ μ δ σ H d v _ rel env dv ?_
  cases e : m1 d δ μ with
  | err C w μ1 => rw [e] at ok; exact ok.elim
  | bad => rw [e] at ok; exact ok.elim
  | ok δ1 μ1 =>
    rw [e] at ok
    intro ρ1 H1 σ1 p1 f1 rel1 env1
    refine h2 ρ1 μ1 δ1 σ1 H1 d v Q rel1 env1 (dv.mono p1 f1) ?_
    dsimp only at ok
    cases e2 : m2 d δ1 μ1 with
    | err C w μ2 => rw [e2] at ok; exact ok.elim
    | bad => rw [e2] at ok; exact ok.elim
    | ok δ2 μ2 =>
      rw [e2] at ok
      exact fun ρ2 H2 σ2 p2 f2 => ok ρ2 H2 σ2 (p1.trans p2) (f1.trans f2)
section
variable {X : Cx} {hx : Option HX} {W : WX} {e t1 t2 t3 : Expr} {m : ME} {g1 g2 g3 : MG} {pos : Pos}
theorem rs_asg2 (he : RE X hx W e m) (h1 : RG X hx W t1 g1) (h2 : RG X hx W t2 g2) (ha : (assignEach [t1, t2] X.env).map (·.2) = [assign t1 X.env, assign t2 X.env] := by rfl) (hw : swappedStores [t1, t2] e X.env = pure none := by rfl) :
    RS X hx W (.Assign [t1, t2] e pos) (masg m (gthen g1 g2)) := by
  obtain ⟨t, p, r⟩ := he.ex
  obtain ⟨u1, p1, r1⟩ := h1.ex
  obtain ⟨u2, p2, r2⟩ := h2.ex
  exact ⟨⟨_, ps_asg2 p p1 p2 ha hw, fun ρ μ δ σ H Dn rel env ok => r ρ μ δ σ H _ rel env (OkS.ofE env ok fun d μ1 ρ1 H1 v pr fz rel1 dv ok1 => (r1.then_ r2) ρ1 μ1 δ σ H1 d v Dn.nx rel1 (env.mono pr fz) dv (okg_of (env.mono pr fz) ok1))⟩⟩
theorem rs_asg3 (he : RE X hx W e m) (h1 : RG X hx W t1 g1) (h2 : RG X hx W t2 g2) (h3 : RG X hx W t3 g3) (ha : (assignEach [t1, t2, t3] X.env).map (·.2) = [assign t1 X.env, assign t2 X.env, assign t3 X.env] := by rfl) (hw : swappedStores [t1, t2, t3] e X.env = pure none := by rfl) :
    RS X hx W (.Assign [t1, t2, t3] e pos) (masg m (gthen g1 (gthen g2 g3))) := by
  obtain ⟨t, p, r⟩ := he.ex
  obtain ⟨u1, p1, r1⟩ := h1.ex
  obtain ⟨u2, p2, r2⟩ := h2.ex
  obtain ⟨u3, p3, r3⟩ := h3.ex
  exact ⟨⟨_, ps_asg3 p p1 p2 p3 ha hw, fun ρ μ δ σ H Dn rel env ok => r ρ μ δ σ H _ rel env (OkS.ofE env ok fun d μ1 ρ1 H1 v pr fz rel1 dv ok1 => (r1.then_ (r2.then_ r3)) ρ1 μ1 δ σ H1 d v Dn.nx rel1 (env.mono pr fz) dv (okg_of (env.mono pr fz) ok1))⟩⟩
end
theorem rs_never {X : Cx} {hx : Option HX} {W : WX} {st : Stmt} : RS X hx W st (fun _ _ => .bad) := ⟨⟨fun _ _ _ => False, ⟨fun _ _ _ _ _ _ h => h.elim⟩, fun _ _ _ _ _ _ _ _ ok => ok⟩⟩
theorem rss_never {X : Cx} {hx : Option HX} {W : WX} {st : List Stmt} : RSs X hx W st (fun _ _ => .bad) := ⟨⟨fun _ _ _ => False, ⟨fun _ _ _ _ _ _ h => h.elim⟩, fun _ _ _ _ _ _ _ _ ok => ok⟩⟩
def fRev (d : D) (μ : Mem) : Res Its0 := match d with
  | .tup ds => .ok (ds.reverse, fun _ => true) μ
  | .lst ds => .ok (ds.reverse, fun _ => true) μ
  | d => match lstOf μ d with
    | some ds => .ok (ds.reverse, lstIs d ds) μ
    | none => .bad
def mrev (m : ME) : MX Its0 := bindM m fun d => fun _ μ => fRev d μ
theorem rev_get {α : Type} {l : List α} {i : Nat} {x : α} (h : l.reverse[i]? = some x) : i < l.length ∧ l[l.length - 1 - i]? = some x := by
  have hi : i < l.length := by simpa using (List.getElem?_eq_some_iff.mp h).1
  rw [List.getElem?_reverse hi] at h
  exact ⟨hi, h⟩
section
variable {X : Cx} {hx : Option HX} {W : WX} {tg e : Expr} {m : ME}
theorem itr_rev {K : PySem.W.Frag} {ρ0 : List Addr} {H0 : Hp} {d : D} {a : Addr} {ds : List D} {g : Mem → Bool} (dv : DV K ρ0 H0 d (.ref a)) (hg : ∀ μ, g μ = true → lstOf μ d = some ds) : ItR K ρ0 H0 (ds.reverse, g) (Itv K a ds.length) := by
  intro ρ μ H i p f rel gd
  obtain ⟨b, vs, e1, e2, e3⟩ := lstOf_ok rel (dv.mono p f) (hg μ gd)
  cases e1
  refine ⟨fun d hd => ?_, fun hi => ?_⟩
  · obtain ⟨hi, hd⟩ := rev_get hd
    obtain ⟨v, hv, dv'⟩ := e3.get hd
    refine ⟨⟨hi, vs, v, rd_sq e2, hv⟩, fun x H' y => ?_⟩
    obtain ⟨rfl, y⟩ := y
    have : x = v := Option.some.inj ((y vs (rd_sq e2)).symm.trans hv)
    subst this
    exact ⟨Fz.refl _, rel, dv'⟩
  · show ds.length ≤ i
    rw [hi]; simp
theorem itr_revT {K : PySem.W.Frag} {ρ0 : List Addr} {H0 : Hp} {a : Addr} {ds : List D} {g : Mem → Bool} (dv : DV K ρ0 H0 (.tup ds) (.ref a)) : ItR K ρ0 H0 (ds.reverse, g) (_root_.RT.ItvT K a ds.length) := by
  intro ρ μ H i p f rel gd
  obtain ⟨b, vs, e1, e2, e3⟩ := tup_ok (dv.mono p f)
  cases e1
  refine ⟨fun d hd => ?_, fun hi => ?_⟩
  · obtain ⟨hi, hd⟩ := rev_get hd
    obtain ⟨v, hv, dv'⟩ := e3.get hd
    refine ⟨⟨hi, vs, v, e2.sq, hv⟩, fun x H' y => ?_⟩
    obtain ⟨rfl, y⟩ := y
    have : x = v := Option.some.inj ((y vs e2.sq).symm.trans hv)
    subst this
    exact ⟨Fz.refl _, rel, dv'⟩
  · show ds.length ≤ i
    rw [hi]; simp
theorem ri_rev {p pos : Pos} (hm : X.mg "reversed" = none) (he : RE X hx W e m) (hg : Gl X "reversed" := by rfl) (hs : starEach [e] X.env = (false, eval e X.env) :: starEach [] X.env := by rfl) : RI X hx W tg (.Call (.Name "reversed" p) [e] [] pos) (mrev m) := by
  obtain ⟨t, pt, r⟩ := he.ex
  refine ⟨⟨_, _root_.RT.pi_revA hg hm pt hs, fun ρ0 μ0 δ σ H0 Q rel0 env0 ok0 => r ρ0 μ0 δ σ H0 _ rel0 env0 (Okr.bind ok0 fun d μ ρ H v pr fz rel dv ok => ?_)⟩⟩
  unfold fRev at ok
  dsimp only at ok
  split at ok
  · rename_i ds
    obtain ⟨a, vs, rfl, e2, e3⟩ := tup_ok dv
    exact ⟨a, vs, rfl, .inr ⟨e2.sq, by rw [← e3.length]; exact ok ρ H _ (Pre.refl _) (Fz.refl _) rel (itr_revT dv)⟩⟩
  · rename_i ds
    obtain ⟨a, vs, rfl, e2, e3⟩ := lstOf_ok rel dv (ds := ds) rfl
    exact ⟨a, vs, rfl, .inl ⟨rd_sq e2, by rw [← e3.length]; exact ok ρ H _ (Pre.refl _) (Fz.refl _) rel (itr_rev dv fun _ _ => rfl)⟩⟩
  · split at ok
    · rename_i ds hd
      obtain ⟨a, vs, rfl, e2, e3⟩ := lstOf_ok rel dv hd
      exact ⟨a, vs, rfl, .inl ⟨rd_sq e2, by rw [← e3.length]; exact ok ρ H _ (Pre.refl _) (Fz.refl _) rel (itr_rev dv fun _ h => lstIs_eq h)⟩⟩
    · exact ok.elim
end
def numbered (ds : List D) : List D := (ds.zipIdx).map fun p => D.tup [.int (p.2 : Nat), p.1]
def fEnum (ds : List D) (μ : Mem) : Res Its0 := match ds with
  | [d] => match lstOf μ d with
    | some xs => .ok (numbered xs, lstIs d xs) μ
    | none => .bad
  | _ => .bad
theorem num_get {ds : List D} {i : Nat} {d : D} (h : (numbered ds)[i]? = some d) : ∃ x, ds[i]? = some x ∧ d = .tup [.int (i : Nat), x] := by
  unfold numbered at h
  rw [List.getElem?_map, List.getElem?_zipIdx] at h
  cases e : ds[i]? with
  | none => rw [e] at h; cases h
  | some x =>
    rw [e] at h
    exact ⟨x, rfl, by simpa using h.symm⟩
theorem itr_enum {K : PySem.W.Frag} {ρ0 : List Addr} {H0 : Hp} {d : D} {a : Addr} {ds : List D} {g : Mem → Bool} (dv : DV K ρ0 H0 d (.ref a)) (hg : ∀ μ, g μ = true → lstOf μ d = some ds) : ItR K ρ0 H0 (numbered ds, g) (Ite K a) := by
  intro ρ μ H i p f rel gd
  obtain ⟨b, vs, e1, e2, e3⟩ := lstOf_ok rel (dv.mono p f) (hg μ gd)
  cases e1
  refine ⟨fun d hd => ?_, fun hi => ?_⟩
  · obtain ⟨x, hx, rfl⟩ := num_get hd
    obtain ⟨v, hv, dv'⟩ := e3.get hx
    refine ⟨⟨vs, v, rd_sq e2, hv⟩, fun x' H' y => ?_⟩
    obtain ⟨T, x1, rfl, hT, rfl, y⟩ := y
    have : x1 = v := Option.some.inj ((y vs (rd_sq e2)).symm.trans hv)
    subst this
    refine ⟨Fz.new hT, rel.alloc hT, ?_⟩
    simp only [DV]
    exact ⟨T, _, rfl, .inl upd_same, .cons dv_int (.cons (dv'.mono0 (Pre.refl _) (Fz0.new hT)) .nil)⟩
  · exact ⟨vs, rd_sq e2, by rw [← e3.length, hi]; simp [numbered]⟩
theorem ri_enum {X : Cx} {hx : Option HX} {W : WX} {e : Expr} {ma : MX (List D)} {p pos tpos : Pos} {elts : List Expr} {kk : Nat} (hm : X.mg "enumerate" = none) (ha : RA X hx W [e] ma) (hg : Gl X "enumerate" := by rfl) (hs : starEach [e] X.env = [(false, eval e X.env)] := by rfl) :
    RI X hx W (.Tuple elts kk tpos) (.Call (.Name "enumerate" p) [e] [] pos) (mcall fEnum ma) := by
  obtain ⟨t, pt, rt⟩ := ha.ex
  refine ⟨⟨_, pi_enum hg hm pt hs, fun ρ0 μ0 δ σ H0 Q rel0 env0 ok0 => rt ρ0 μ0 δ σ H0 _ rel0 env0 (Okr.bind ok0 fun ds μ ρ H vs pr fz rel dv ok => ?_)⟩⟩
  unfold fEnum at ok
  dsimp only at ok
  split at ok
  · obtain ⟨v, rfl, h1⟩ := dv.one
    split at ok
    · rename_i xs hd
      obtain ⟨a, ws, rfl, e2, e3⟩ := lstOf_ok rel h1 hd
      exact ⟨a, ws, rfl, rd_sq e2, ok ρ H _ (Pre.refl _) (Fz.refl _) rel (itr_enum h1 fun _ h => lstIs_eq h)⟩
    · exact ok.elim
  · exact ok.elim
end Doz
end
section
namespace RT
open PySem PySem.Spec PyProof.Rows L2 PySem.W
section
variable {prog : Program} {w : World} {A : Around} {E : Value → Shared → Prop} {s : Shared}
theorem extend_rev {R : Result → Shared → Prop} {it l : Addr} {items : Array Value} (hh : A.handled = none) (hit : s.heap.IsRevIter it l ((items.size : Int) - 1)) (hl : s.heap.IsList l items) (hne : l ≠ it) (hn : items.size ≤ sizeLine) (S : Addr) (res : Value) (c₀ : Nat)
    (hSi : S ≠ it) (hSl : S ≠ l) (hS : s.heap.get? S = some { cls := .type "list", data := .seq #[] c₀ })
    (hR : ∀ h' tk acc' c', (∀ b o, b ≠ S → b ≠ it → s.heap.get? b = some o → h'.get? b = some o) → h'.get? S = some { cls := .type "list", dict := none, data := .seq acc' c', slots := #[] } →
      ItemsOf (fun i v => items[items.size - 1 - i]? = some v) acc' items.size → R (.ok (.ret res)) { s with heap := h', toks := tk }) :
    wpAny (model prog w) A.in1 (Builtin.List.listExtendWith (.ref S) (.ref it) res)
      (fun fin s' => match fin with | .done f => R (.ok f) s' | .again c' => c'.quiet = true ∧ codeAny (model prog w) A c' R s') (fun e s' => R (.error e) s') s := by
  have W := (Walks.listRev (prog := prog) (w := w) (A := A.in1) hh it l hne items).toS
  have hSf : S ∉ [it, l] := by simp only [List.mem_cons, List.not_mem_nil, or_false, not_or]; exact ⟨hSi, hSl⟩
  have hT : s.TypeIs (.ref it) "list_reverseiterator" := hit.typeIs
  have h1 : Builtin.List.listSameRef (.ref S) (.ref it) = false := by simp [Builtin.List.listSameRef, hSi]
  unfold Builtin.List.listExtendWith
  refine wpAny_bind (wpAny_typeOf hT ?_)
  rw [if_neg (by rw [h1]; decide)]
  refine wpAny_bind (wpAny_pyIter_revIter hit ?_)
  refine wpAny_bind (wpAny_holding ?_)
  unfold Builtin.List.listLengthHint
  refine wpAny_bind (wpAny_specialOf hT nolen_lri ?_)
  show wpAny _ A.in1 (specialOf (Value.ref it) (Str.ofString "__length_hint__") >>= _) _ _ _
  refine wpAny_bind (wpAny_specialOf hT hint_lri ?_)
  generalize hid : ("list_reverseiterator.__length_hint__" : String) = id0
  wp_delta
  rw [show splitId id0 = some ("list_reverseiterator", "__length_hint__") from by subst hid; decide +kernel]
  subst hid
  refine wpAny_bind (wpAny_isInstance (b := true) hT (by rw [isSubtype_type]; kernel_rfl) ?_)
  refine wpAny_pure ?_
  rw [if_neg (by decide)]
  have e0 : ((items.size : Nat) : Int) - 1 - ((0 : Nat) : Int) = (items.size : Int) - 1 := by omega
  refine wpAny_pure ⟨plainId_quiet F.plain_extend_loop _, codeAny_extend_loopS W hn _ hSf _ items.size 0 _ _ _ rfl (Nat.zero_le _) ⟨Nat.zero_le _, by rw [e0]; exact hit, hl⟩ hS (ItemsOf.nil _) fun s' acc' c' hm hS' hacc => ?_⟩
  rw [Moved.eq_with hm]
  refine hR s'.heap s'.toks acc' c' (fun b o hb hb2 e => hm.heap b o (fun hmem => ?_) e) hS' hacc
  rcases List.mem_cons.mp hmem with e' | hmem
  · exact hb e'
  · exact hb2 (List.mem_singleton.mp hmem)
theorem list_init_rev {R : Result → Shared → Prop} {it l : Addr} {items : Array Value} (hh : A.handled = none) (hit : s.heap.IsRevIter it l ((items.size : Int) - 1)) (hl : s.heap.IsList l items) (hne : l ≠ it) (hn : items.size ≤ sizeLine) (S : Addr)
    (hSi : S ≠ it) (hSl : S ≠ l) (hS : s.heap.get? S = some { cls := .type "list", data := .seq #[] })
    (hR : ∀ h' tk acc' c', (∀ b o, b ≠ S → b ≠ it → s.heap.get? b = some o → h'.get? b = some o) → h'.get? S = some { cls := .type "list", dict := none, data := .seq acc' c', slots := #[] } →
      ItemsOf (fun i v => items[items.size - 1 - i]? = some v) acc' items.size → R (.ok (.ret .none)) { s with heap := h', toks := tk }) :
    wpAny (model prog w) A.in1 (Builtin.«list.__init__» ⟨[.ref S, .ref it], []⟩)
      (fun fin s' => match fin with | .done f => R (.ok f) s' | .again c' => c'.quiet = true ∧ codeAny (model prog w) A c' R s') (fun e s' => R (.error e) s') s := by
  show wpAny _ _ (do let old ← Builtin.List.listItems (.ref S); Builtin.List.listUpdate (.ref S) (fun _ => #[]); letGo old.toList.reverse; Builtin.List.listExtendWith (.ref S) (.ref it) .none) _ _ s
  refine wpAny_bind ?_
  unfold Builtin.List.listItems
  refine wpAny_bind (wpAny_seqItems hS rfl (wpAny_pure ?_))
  show wpAny _ _ (updateSeq S (fun _ => #[]) >>= fun _ => letGo (#[] : Array Value).toList.reverse >>= fun _ => Builtin.List.listExtendWith (.ref S) (.ref it) .none) _ _ s
  refine wpAny_bind (wpAny_updateSeq hS rfl ?_)
  have hS₂ := Heap.get?_update_self (Obj.mapSeq (fun _ => (#[] : Array Value))) hS rfl
  have oth : ∀ b o, b ≠ S → s.heap.get? b = some o → (s.heap.update S (Obj.mapSeq (fun _ => (#[] : Array Value)))).get? b = some o :=
    fun b o hb e => (Heap.get?_update_other _ _ (Ne.symm hb)).trans e
  refine wpAny_bind (wpAny_letGo ?_)
  refine extend_rev hh (hit.at fun o e => oth it o (Ne.symm hSi) e) (hl.at fun o e => oth l o (Ne.symm hSl) e) hne hn S .none _ hSi hSl hS₂ fun h' tk acc' c' hk hS' hacc => ?_
  exact hR h' tk acc' c' (fun b o hb hb2 e => hk b o hb hb2 (oth b o hb e)) hS' hacc
theorem call_list_rev {it l : Addr} {items : Array Value} {Q : Value → Shared → Prop} (hh : A.handled = none) (hit : s.heap.IsRevIter it l ((items.size : Int) - 1)) (hl : s.heap.IsList l items) (hne : l ≠ it) (hn : items.size ≤ sizeLine)
    (hQ : ∀ h' tk acc' c', (∀ b o, b ≠ it → s.heap.get? b = some o → h'.get? b = some o) →
      h'.get? s.heap.objs.size = some { cls := .type "list", dict := none, data := .seq acc' c', slots := #[] } → ItemsOf (fun i v => items[items.size - 1 - i]? = some v) acc' items.size → Q (.ref s.heap.objs.size) { s with heap := h', toks := tk }) :
    wpAny (model prog w) A (call (.type "list") [.ref it]) Q E s := by
  obtain ⟨oi, hoi, _⟩ := id hit
  obtain ⟨ol, hol, _⟩ := id hl
  have hSi : s.heap.objs.size ≠ it := Nat.ne_of_gt (Heap.lt_size hoi)
  have hSl : s.heap.objs.size ≠ l := Nat.ne_of_gt (Heap.lt_size hol)
  refine callType_codes (Q₁ := fun obj s₁ => obj = .ref s.heap.objs.size ∧ s₁ = { s with heap := s.heap.push { cls := .type "list", data := .seq #[] } }) F.called_list (F.typeCall_list_1 _) F.entry_list_init
    (code_list_new _ ⟨rfl, rfl⟩) fun obj s₁ h₁ => ?_
  obtain ⟨rfl, rfl⟩ := h₁
  have hS : (s.heap.push { cls := .type "list", data := .seq #[] }).get? s.heap.objs.size = some { cls := .type "list", data := .seq #[] } := Heap.get?_push_size _ rfl
  refine ⟨⟨_, hS, rfl⟩, F.args_list_init_2 _ _, list_init_rev (A := A.in1) hh (hit.at fun o e => Heap.get?_push_of_some _ e) (hl.push _) hne hn _ hSi hSl hS fun h' tk acc' c' hk hS' hacc => ?_⟩
  exact ⟨rfl, hQ h' tk acc' c' (fun b o hb e => hk b o (Nat.ne_of_lt (Heap.lt_size e)) hb (Heap.get?_push_of_some _ e)) hS' hacc⟩
end
section
variable {X : Cx}
def tLstRev (K : PySem.W.Frag) (te : TE) : TE := fun σ H Q => te σ H fun v H1 => ∃ (a : Addr) (xs : List V), v = .ref a ∧ SqL K H1 a xs ∧ ∀ q, H1 q = none → Q (.ref q) (upd H1 q (.lst xs.reverse))
theorem pe_lstRev {e : Expr} {te : TE} {p p2 pos pos2 : Pos} (hc : X.calm = true) (hg : Gl X "list") (hm : X.mg "list" = none) (hg2 : Gl X "reversed") (hm2 : X.mg "reversed" = none) (he : PE X e te)
    (hs : starEach [e] X.env = (false, eval e X.env) :: starEach [] X.env := by rfl)
    (hs2 : starEach [.Call (.Name "reversed" p2) [e] [] pos2] X.env = (false, eval (.Call (.Name "reversed" p2) [e] [] pos2) X.env) :: starEach [] X.env := by rfl) :
    PE X (.Call (.Name "list" p) [.Call (.Name "reversed" p2) [e] [] pos2] [] pos) (tLstRev X.K te) := by
  refine ⟨fun pins s σ H Q I h => ?_⟩
  refine Call_ (ld_blt I hg hm boot_list (PyProof.Rows.callWith_type1 (args_cons (Call_ (ld_blt I hg2 hm2 PyProof.Rows.boot_reversed (PyProof.Rows.callWith_type1 (args_cons (thn (he.run pins s σ H _ I h) fun u s1 ⟨v, H1, I1, r1, q1⟩ => args_nil ?_) hs) hs rfl))) hs2) hs2 rfl))
  obtain ⟨a, xs, ev, hq, q⟩ := q1
  subst ev
  obtain rfl : u = Value.ref a := r1
  obtain ⟨its, rv, p', hz⟩ := I1.list hq
  refine call_reversed_list p'.isList (args_nil ?_)
  have k0 : ∀ b o, s1.heap.get? b = some o → (s1.heap.push (revObj a ((its.toArray.size : Int) - 1))).get? b = some o := fun b o e => Heap.get?_push_of_some _ e
  have I2 : Inv X pins σ H1 { s1 with heap := s1.heap.push (revObj a ((its.toArray.size : Int) - 1)) } := I1.kept (t' := s1.toks) k0
  obtain ⟨f0, f1, f2, f3, f4, f5⟩ := I1.fpOk (H' := H1) (b := s1.heap.objs.size) (Nat.le_refl _) (I1.hok.fresh (Nat.le_refl _))
  have hl := p'.isList
  obtain ⟨ol, hol, _⟩ := id hl
  have hne : a ≠ s1.heap.objs.size := Nat.ne_of_lt (Heap.lt_size hol)
  have hn : its.toArray.size ≤ sizeLine := by rw [List.size_toArray, ← rv.length]; exact hz
  refine call_list_rev (s := { s1 with heap := s1.heap.push (revObj a ((its.toArray.size : Int) - 1)) }) (I1.ok.hd hc) ⟨_, Heap.get?_push_size _ rfl, rfl, rfl⟩ (hl.push _) hne hn fun h' tk acc c' hk hS hi => ?_
  have I3 : Inv X pins σ H1 { s1 with heap := h', toks := tk } := I2.turned (t' := tk) (fun b o hb e => hk b o hb e) f0 f1 f3 f4 f5
  have hN : (s1.heap.push (revObj a ((its.toArray.size : Int) - 1))).objs.size = s1.heap.objs.size + 1 := Heap.size_push ..
  have nq : H1 (s1.heap.objs.size + 1) = none := I1.hok.fresh (Nat.le_succ _)
  rw [hN] at hS ⊢
  have I4 : Inv X pins σ (upd H1 (s1.heap.objs.size + 1) (.lst xs.reverse)) { s1 with heap := h', toks := tk } :=
    I3.take (h' := h') (t' := tk) (fun b ob _ e => e) (I1.fpOk (Nat.le_succ _) nq) ⟨by rw [List.length_reverse]; exact hz, acc.toList, c', vals_rev rv hi, by rw [Array.toArray_toList]; exact hS⟩
  exact ⟨.ref _, _, I4, rfl, q _ nq⟩
end
end RT
namespace Doz
open PySem L2
def mrevL (m : ME) : MX (List D) := bindM m fun d => fun _ μ => match lstOf μ d with
  | some ds => .ok ds.reverse μ
  | none => .bad
theorem rn_rev {X : Cx} {hx : Option HX} {W : WX} {e : Expr} {m : ME} {p p2 pos pos2 : Pos} (hc : X.calm = true) (hm : X.mg "list" = none) (hm2 : X.mg "reversed" = none) (he : RE X hx W e m) (hg : Gl X "list" := by rfl) (hg2 : Gl X "reversed" := by rfl)
    (hs : starEach [e] X.env = (false, eval e X.env) :: starEach [] X.env := by rfl)
    (hs2 : starEach [.Call (.Name "reversed" p2) [e] [] pos2] X.env = (false, eval (.Call (.Name "reversed" p2) [e] [] pos2) X.env) :: starEach [] X.env := by rfl) :
    RN X hx W (.Call (.Name "list" p) [.Call (.Name "reversed" p2) [e] [] pos2] [] pos) (mrevL m) := by
  obtain ⟨t, pt, r⟩ := he.ex
  refine ⟨⟨_, _root_.RT.pe_lstRev hc hg hm hg2 hm2 pt hs hs2, fun ρ0 μ0 δ σ H0 Q rel0 env0 ok0 => r ρ0 μ0 δ σ H0 _ rel0 env0 (OkN.bind ok0 fun d μ ρ H v pr fz rel dv ok => ?_)⟩⟩
  dsimp only at ok
  split at ok
  · rename_i ds hd
    obtain ⟨a, vs, rfl, e2, e3⟩ := lstOf_ok rel dv hd
    exact ⟨a, vs, rfl, rd_sq e2, fun q hq => OkN.new rel hq e3.reverse ok⟩
  · exact ok.elim
end Doz
end
section
namespace Doz
open PySem L2
open PySem.DozX (ExTxt)
def clsB : Stmt → List Stmt
  | .ClassDef (body := b) .. => b
  | _ => []
structure Cl where
  n_Bed : Addr
  n_Hall : Addr
  n_KeyHall : Addr
  n_World : Addr
  n_Book : Addr
  n_Built : Addr
  n_Plain : Addr
  n_Desk : Addr
  n_DozeError : Addr
  n_NoRoom : Addr
  n_Asleep : Addr
  n_Awake : Addr
  n_BadCount : Addr
  n_SameRoom : Addr
  n_TwoNames : Addr
  n_NoKey : Addr
  n_NotHolder : Addr
  n_Ring : Addr
  n_BadPlan : Addr
  n_NoMove : Addr
  n_TooMany : Addr
  n_NoName : Addr
  n_BadClient : Addr
  n_NoRow : Addr
  n_Stopped : Addr
  n_NoBack : Addr
def clOf (K : PySem.W.Frag) : Cl := ⟨He.ga K "Bed", He.ga K "Hall", He.ga K "KeyHall", He.ga K "World", He.ga K "Book", He.ga K "Built", He.ga K "Plain", He.ga K "Desk", He.ga K "DozeError", He.ga K "NoRoom", He.ga K "Asleep", He.ga K "Awake", He.ga K "BadCount", He.ga K "SameRoom", He.ga K "TwoNames", He.ga K "NoKey", He.ga K "NotHolder", He.ga K "Ring", He.ga K "BadPlan", He.ga K "NoMove", He.ga K "TooMany", He.ga K "NoName", He.ga K "BadClient", He.ga K "NoRow", He.ga K "Stopped", He.ga K "NoBack"⟩
def noSt : Stmt := .Pass ⟨0, 0, 0, 0⟩
def meth (s : Stmt) (i : Nat) : Stmt := (clsB s).getD i noSt
theorem look_mem {α : Type} : ∀ {l : List (Addr × α)} {C : Addr} {x : α}, l.lookup C = some x → (C, x) ∈ l
  | [], _, _, h => by simp at h
  | (c, y) :: r, C, x, h => by
    rw [List.lookup_cons] at h
    cases hb : C == c with
    | true =>
      rw [hb] at h
      have e1 : C = c := beq_iff_eq.mp hb
      have e2 : y = x := Option.some.inj h
      rw [e1, e2]
      exact List.mem_cons_self
    | false =>
      rw [hb] at h
      exact List.mem_cons_of_mem _ (look_mem h)
theorem mt_nil {X : Cx} {nm : Str} {n : Nat} {ks : List Str} : ∀ p ∈ ([] : List (Addr × MM)), MOk X nm n ks p.1 p.2 := fun _ h => by cases h
theorem mt_cons {X : Cx} {nm : Str} {n : Nat} {ks : List Str} {C : Addr} {mm : MM} {l : List (Addr × MM)} (h : MOk X nm n ks C mm) (t : ∀ p ∈ l, MOk X nm n ks p.1 p.2) : ∀ p ∈ (C, mm) :: l, MOk X nm n ks p.1 p.2 := fun p hp => by
  rcases List.mem_cons.mp hp with e | hp
  · rw [e]; exact h
  · exact t p hp
theorem mt_of {X : Cx} {nm : Str} {n : Nat} {ks : List Str} {l : List (Addr × MM)} (t : ∀ p ∈ l, MOk X nm n ks p.1 p.2) : ∀ C mm, l.lookup C = some mm → MOk X nm n ks C mm := fun C mm h => t (C, mm) (look_mem h)
theorem mok {X : Cx} {nm : Str} {n k j : Nat} {ks : List Str} {C f : Addr} {fd : FuncData} {ps : List Str} {m : MF} {gD : List D → List D → List D} (c : Cls X.K C) (hm : Meth X.K C nm f) (F : FnOk X.prog X.w X.K X.mg X.base (L2.CX X.prog X.w) k f fd ps (spM X.K ps.length m))
    (hr : Room j X.A) (hk : k ≤ j) (hb : Bd X.K fd ps (n + 1) ks gD) : MOk X nm n ks C (fun x ds ez μ => m (gD (x :: ds) ez) μ) := ⟨⟨k, f, fd, ps, m, gD, c, hm, F, hr.mono hk, hb, rfl⟩⟩
theorem ex_of {K : PySem.W.Frag} {c : Value} {l : List (Addr × Bool)} (t : ∀ p ∈ l, PySem.W.exmOne K (.ref p.1) c = some p.2) : ∀ C b, l.lookup C = some b → PySem.W.exmOne K (.ref C) c = some b := fun C b h => t (C, b) (look_mem h)
theorem et_nil {K : PySem.W.Frag} {c : Value} : ∀ p ∈ ([] : List (Addr × Bool)), PySem.W.exmOne K (.ref p.1) c = some p.2 := fun _ h => by cases h
theorem et_cons {K : PySem.W.Frag} {c : Value} {C : Addr} {b : Bool} {l : List (Addr × Bool)} (h : PySem.W.exmOne K (.ref C) c = some b) (t : ∀ p ∈ l, PySem.W.exmOne K (.ref p.1) c = some p.2) : ∀ p ∈ (C, b) :: l, PySem.W.exmOne K (.ref p.1) c = some p.2 := fun p hp => by
  rcases List.mem_cons.mp hp with e | hp
  · rw [e]; exact h
  · exact t p hp
theorem xt_of {K : PySem.W.Frag} {fI C : Addr} {b : Bool} {l : List (Addr × Bool)} (t : ∀ p ∈ l, ExTxt K p.1 fI) (h : l.lookup C = some b) : ExTxt K C fI := t (C, b) (look_mem h)
theorem xt_nil {K : PySem.W.Frag} {fI : Addr} : ∀ p ∈ ([] : List (Addr × Bool)), ExTxt K p.1 fI := fun _ h => by cases h
theorem xt_cons {K : PySem.W.Frag} {fI C : Addr} {b : Bool} {l : List (Addr × Bool)} (h : ExTxt K C fI) (t : ∀ p ∈ l, ExTxt K p.1 fI) : ∀ p ∈ (C, b) :: l, ExTxt K p.1 fI := fun p hp => by
  rcases List.mem_cons.mp hp with e | hp
  · rw [e]; exact h
  · exact t p hp
theorem na_nil {K : PySem.W.Frag} {f : Str} : ∀ C ∈ ([] : List Addr), NoAttr K C f := fun _ h => by cases h
theorem na_cons {K : PySem.W.Frag} {f : Str} {C : Addr} {l : List Addr} (h : NoAttr K C f) (t : ∀ C ∈ l, NoAttr K C f) : ∀ C' ∈ C :: l, NoAttr K C' f := fun C' hp => by
  rcases List.mem_cons.mp hp with e | hp
  · rw [e]; exact h
  · exact t C' hp
end Doz
end
section
namespace Doz
open PySem L2
inductive Pk where
  | p (i : Nat) | k (j : Nat) | d (j : Nat) | m (j : Nat)
def pick {α : Type} (us its mv ws : List α) : List Pk → List α
  | [] => []
  | .p i :: r => us[i]?.toList ++ pick us its mv ws r
  | .k j :: r => ws[j]?.toList ++ pick us its mv ws r
  | .d j :: r => its[j]?.toList ++ pick us its mv ws r
  | .m j :: r => mv[j]?.toList ++ pick us its mv ws r
theorem vals_opt {vs : List V} {us : List Value} (r : Vals vs us) (i : Nat) : Vals vs[i]?.toList us[i]?.toList := by
  cases e : vs[i]? with
  | none => rw [r.none_of e]; exact .nil
  | some v =>
    obtain ⟨u, e2, ru⟩ := r.get e
    rw [e2]; exact .cons ru .nil
theorem vals_pick {vs dz mz zs : List V} {us its mv ws : List Value} (r1 : Vals vs us) (r2 : Vals dz its) (r3 : Vals mz mv) (r4 : Vals zs ws) : ∀ sel : List Pk, Vals (pick vs dz mz zs sel) (pick us its mv ws sel)
  | [] => .nil
  | .p i :: r => (vals_opt r1 i).append (vals_pick r1 r2 r3 r4 r)
  | .k i :: r => (vals_opt r4 i).append (vals_pick r1 r2 r3 r4 r)
  | .d i :: r => (vals_opt r2 i).append (vals_pick r1 r2 r3 r4 r)
  | .m i :: r => (vals_opt r3 i).append (vals_pick r1 r2 r3 r4 r)
section
variable {K : PySem.W.Frag} {ρ : List Addr} {H : Hp}
theorem dvs_opt {ds : List D} {vs : List V} (r : DVs K ρ H ds vs) (i : Nat) : DVs K ρ H ds[i]?.toList vs[i]?.toList := by
  cases e : ds[i]? with
  | none =>
    have : vs[i]? = none := by
      rw [List.getElem?_eq_none_iff] at e ⊢
      rw [← r.length]; exact e
    rw [this]; exact .nil
  | some d =>
    obtain ⟨v, e2, rv⟩ := r.get e
    rw [e2]; exact .cons rv .nil
theorem dvs_pick {ds dz mz zs : List D} {us its mv ws : List V} (r1 : DVs K ρ H ds us) (r2 : DVs K ρ H dz its) (r3 : DVs K ρ H mz mv) (r4 : DVs K ρ H zs ws) : ∀ sel : List Pk, DVs K ρ H (pick ds dz mz zs sel) (pick us its mv ws sel)
  | [] => .nil
  | .p i :: r => (dvs_opt r1 i).app (dvs_pick r1 r2 r3 r4 r)
  | .k i :: r => (dvs_opt r4 i).app (dvs_pick r1 r2 r3 r4 r)
  | .d i :: r => (dvs_opt r2 i).app (dvs_pick r1 r2 r3 r4 r)
  | .m i :: r => (dvs_opt r3 i).app (dvs_pick r1 r2 r3 r4 r)
end
section
variable {K : PySem.W.Frag} {x qual : Str} {params : Arguments} {body : List Stmt} {scope : Scope} {dvs : List V} {kws : List (Str × V)} {f : Addr} {fd : FuncData} {ps : List Str} {n : Nat} {ks : List Str} {gD : List D → List D → List D}
theorem bd_kA (F : FunD K x qual params body scope [] kws f fd) (sel : List Pk)
    (h : ∀ (kV doc pm : Value) (an : Option Addr) (cdv ct : Value) (us ws : List Value), us.length = n → ws.length = ks.length → bindArgs (PySem.W.fnOf x qual params body scope .none kV doc pm an cdv ct) ⟨us, ks.zip ws⟩ = pure (ps.zip (pick us [] [] ws sel)))
    (hg : ∀ ds es : List D, ds.length = n → es.length = ks.length → gD ds es = pick ds [] [] es sel ∧ (gD ds es).length = ps.length) : Bd K fd ps n ks gD := by
  obtain ⟨oc, od, dV, kV, doc, pm, an, cdv, ct, osl, rfl, lk, hcd, hD, hK⟩ := F.ex
  rcases hD with ⟨_, rfl⟩ | ⟨e, _⟩
  · refine ⟨⟨fun us ws => pick us [] [] ws sel, fun vs zs => pick vs [] [] zs sel, ⟨fun s us ws X l1 l2 => .of_eq (h kV doc pm an cdv ct us ws l1 l2), fun r1 r2 => vals_pick r1 .nil .nil r2 sel⟩, fun ρ H ds vs es us h1 h2 l1 l2 => ?_⟩⟩
    obtain ⟨e1, e2⟩ := hg ds es l1 l2
    exact ⟨by rw [e1]; exact dvs_pick h1 .nil .nil h2 sel, e2⟩
  · exact absurd rfl e
theorem bd_kM (F : FunD K x qual params body scope [] kws f fd) (ms : List (Str × V)) (mD : List D) (sel : List Pk) (hk : kws ≠ []) (hms : ∀ q ∈ ms, q ∈ kws) (hd : ∀ ρ H, DVs K ρ H mD (ms.map (·.2)))
    (h : ∀ (A : Addr) (doc pm : Value) (an : Option Addr) (cdv ct : Value) (us mv ws : List Value), us.length = n → mv.length = ms.length → ws.length = ks.length →
      KwChain A ((ms.map (·.1)).zip mv) (bindArgs (PySem.W.fnOf x qual params body scope .none (.ref A) doc pm an cdv ct) ⟨us, ks.zip ws⟩) (ps.zip (pick us [] mv ws sel)))
    (hg : ∀ ds es : List D, ds.length = n → es.length = ks.length → gD ds es = pick ds [] mD es sel ∧ (gD ds es).length = ps.length) : Bd K fd ps n ks gD := by
  obtain ⟨mv, kb⟩ := FunD.kbinds0 F n ks ms (fun us mv ws => pick us [] mv ws sel) hk hms (fun r1 r2 r3 => vals_pick r1 .nil r2 r3 sel) h
  refine ⟨⟨_, _, kb, fun ρ H ds vs es us h1 h2 l1 l2 => ?_⟩⟩
  obtain ⟨e1, e2⟩ := hg ds es l1 l2
  exact ⟨by rw [e1]; exact dvs_pick h1 .nil (hd ρ H) h2 sel, e2⟩
theorem bd_kD (F : FunD K x qual params body scope dvs kws f fd) (dD : List D) (sel : List Pk) (hn : dvs ≠ []) (hd : ∀ ρ H, DVs K ρ H dD dvs)
    (h : ∀ (T : Addr) (kV doc pm : Value) (an : Option Addr) (cdv ct : Value) (us its ws : List Value), us.length = n → its.length = dvs.length → ws.length = ks.length →
      ∃ k, bindArgs (PySem.W.fnOf x qual params body scope (.ref T) kV doc pm an cdv ct) ⟨us, ks.zip ws⟩ = seqItems? (.ref T) >>= k ∧ k (some its.toArray) = pure (ps.zip (pick us its [] ws sel)))
    (hg : ∀ ds es : List D, ds.length = n → es.length = ks.length → gD ds es = pick ds dD [] es sel ∧ (gD ds es).length = ps.length) : Bd K fd ps n ks gD := by
  obtain ⟨oc, od, dV, kV, doc, pm, an, cdv, ct, osl, rfl, lk, hcd, hD, hK⟩ := F.ex
  rcases hD with ⟨e, _⟩ | ⟨_, T, o, its, m, rfl, lT, oT, rT⟩
  · exact absurd e hn
  · refine ⟨⟨fun us ws => pick us its [] ws sel, fun vs zs => pick vs dvs [] zs sel, ⟨fun s us ws X l1 l2 => ?_, fun r1 r2 => vals_pick r1 rT .nil r2 sel⟩, fun ρ H ds vs es us h1 h2 l1 l2 => ?_⟩⟩
    · obtain ⟨k, e1, e2⟩ := h T kV doc pm an cdv ct us its ws l1 rT.length.symm l2
      refine BindsTo.of_looks fun M => ?_
      rw [e1]
      exact looks_items X lT oT (.of_pure e2)
    · obtain ⟨e1, e2⟩ := hg ds es l1 l2
      exact ⟨by rw [e1]; exact dvs_pick h1 (hd ρ H) .nil h2 sel, e2⟩
end
theorem dv_em {K : PySem.W.Frag} {a : Addr} (h : PySem.DozX.emB K a = true) (ρ : List Addr) (H : Hp) : DV K ρ H (.tup []) (.ref a) := by
  obtain ⟨o, its, n, h1, h2, h3, h4⟩ := PySem.DozX.emB_ok h
  simp only [DV]
  have e : its.toList = [] := by
    have : its = #[] := Array.eq_empty_of_size_eq_zero h4
    rw [this]
  exact ⟨a, [], rfl, .inr ⟨o, its, n, h1, h2, h3, by rw [h4]; exact Nat.zero_le _, by rw [e]; exact .nil⟩, .nil⟩
end Doz
end
section
namespace Doz
open PySem L2
theorem isD_of {K : PySem.W.Frag} {ρ : List Addr} {μ : Mem} {H : Hp} {d : D} {v : V} {kds : List (Key × D)} (rel : Rel K ρ μ H) (dv : DV K ρ H d v) (h : dictOf μ d = some kds) : ∃ a, v = .ref a ∧ IsD H a := by
  obtain ⟨n, a, kvs, rfl, r1, rfl, r2, r3, r4⟩ := dictOf_ok rel dv h
  exact ⟨a, rfl, .inl ⟨kvs, lk_rd r3⟩⟩
def mget1 (mo mk : ME) : ME := bindM mo fun d => fun δ μ => match dictOf μ d with
  | some _ => (mk δ μ).bind fun k μ1 => match dfind μ1 d k with
    | some o => .ok (o.getD .non) μ1
    | none => .bad
  | none => .bad
def mget2 (mo mk mz : ME) : ME := bindM mo fun d => fun δ μ => match dictOf μ d with
  | some _ => (mk δ μ).bind fun k μ1 => (mz δ μ1).bind fun z μ2 => match dfind μ2 d k with
    | some o => .ok (o.getD z) μ2
    | none => .bad
  | none => .bad
theorem dgetD {K : PySem.W.Frag} {ρ : List Addr} {μ : Mem} {H : Hp} {d k : D} {a : Addr} {y : V} {o : Option D} (rel : Rel K ρ μ H) (dx : DV K ρ H d (.ref a)) (dy : DV K ρ H k y) (h : dfind μ d k = some o) {z : D} {vz : V} (dz : DV K ρ H z vz) :
    ∃ o', DGet H a y o' ∧ DV K ρ H (o.getD z) (o'.getD vz) := by
  obtain ⟨a', o', e, h1, h2, h3⟩ := dfind_ok rel dx dy h
  cases e
  refine ⟨o', h1, ?_⟩
  cases o with
  | none => rw [h3 rfl]; exact dz
  | some d' =>
    obtain ⟨v, e, dv⟩ := h2 d' rfl
    rw [e]; exact dv
section
variable {X : Cx} {hx : Option HX} {W : WX} {o e f : Expr} {mo me mf : ME} {apos cpos pos tpos : Pos}
theorem re_get1 (hu : Hu X) (ho : RE X hx W o mo) (he : RE X hx W e me) (m : M1 X o "get" apos e cpos := by exact ⟨rfl, rfl, rfl, rfl⟩) : RE X hx W (.Call (.Attribute o "get" apos) [e] [] cpos) (mget1 mo me) := by
  obtain ⟨to, po, ro⟩ := ho.ex
  obtain ⟨te, pe, re⟩ := he.ex
  refine ⟨⟨_, pe_dget1 hu.h1 po pe m, fun ρ0 μ0 δ σ H0 Q rel0 env0 ok0 => ro ρ0 μ0 δ σ H0 _ rel0 env0 (Okr.bind ok0 fun d μ ρ H x pr fz rel dx ok => ?_)⟩⟩
  have env := env0.mono pr fz
  dsimp only at ok
  split at ok
  · rename_i kds hk
    obtain ⟨a, rfl, hd⟩ := isD_of rel dx hk
    refine ⟨a, rfl, hd, re ρ μ δ σ H _ rel env (Okr.bind ok fun k μ1 ρ1 H1 y p1 f1 rel1 dy ok1 => ?_)⟩
    split at ok1
    · rename_i o1 h1
      obtain ⟨o', g, dv⟩ := dgetD rel1 (dx.mono p1 f1) dy h1 (z := .non) dv_non
      exact ⟨o', g, ok1.now rel1 dv⟩
    · exact ok1.elim
  · exact ok.elim
theorem re_get2 (hu : Hu X) (ho : RE X hx W o mo) (he : RE X hx W e me) (hf : RE X hx W f mf) (m : M2 X o "get" apos e f cpos := by exact ⟨rfl, rfl, rfl, rfl⟩) : RE X hx W (.Call (.Attribute o "get" apos) [e, f] [] cpos) (mget2 mo me mf) := by
  obtain ⟨to, po, ro⟩ := ho.ex
  obtain ⟨te, pe, re⟩ := he.ex
  obtain ⟨tf, pf, rf⟩ := hf.ex
  refine ⟨⟨_, pe_dget2 hu.h1 po pe pf m, fun ρ0 μ0 δ σ H0 Q rel0 env0 ok0 => ro ρ0 μ0 δ σ H0 _ rel0 env0 (Okr.bind ok0 fun d μ ρ H x pr fz rel dx ok => ?_)⟩⟩
  have env := env0.mono pr fz
  dsimp only at ok
  split at ok
  · rename_i kds hk
    obtain ⟨a, rfl, hd⟩ := isD_of rel dx hk
    refine ⟨a, rfl, hd, re ρ μ δ σ H _ rel env (Okr.bind ok fun k μ1 ρ1 H1 y p1 f1 rel1 dy ok1 => ?_)⟩
    refine rf ρ1 μ1 δ σ H1 _ rel1 (env.mono p1 f1) (Okr.bind ok1 fun z μ2 ρ2 H2 vz p2 f2 rel2 dz ok2 => ?_)
    split at ok2
    · rename_i o1 h1
      obtain ⟨o', g, dv⟩ := dgetD rel2 ((dx.mono p1 f1).mono p2 f2) (dy.mono p2 f2) h1 dz
      exact ⟨o', g, ok2.now rel2 dv⟩
    · exact ok2.elim
  · exact ok.elim
def mpop1 (mo mk : ME) : ME := bindM mo fun d => fun δ μ => match dictOf μ d with
  | some _ => (mk δ μ).bind fun k μ1 => match dcell μ1 d, keyOf k with
    | some (n, kds), some key => match kget kds key with
      | some v => .ok v (μ1.set n (.dK (kdrop kds key)))
      | none => .bad
    | _, _ => .bad
  | none => .bad
theorem re_pop1 (ho : RE X hx W o mo) (he : RE X hx W e me) (m : M1 X o "pop" apos e cpos := by exact ⟨rfl, rfl, rfl, rfl⟩) : RE X hx W (.Call (.Attribute o "pop" apos) [e] [] cpos) (mpop1 mo me) := by
  obtain ⟨to, po, ro⟩ := ho.ex
  obtain ⟨te, pe, re⟩ := he.ex
  refine ⟨⟨_, pe_dpop1 po pe m, fun ρ0 μ0 δ σ H0 Q rel0 env0 ok0 => ro ρ0 μ0 δ σ H0 _ rel0 env0 (Okr.bind ok0 fun d μ ρ H x pr fz rel dx ok => ?_)⟩⟩
  have env := env0.mono pr fz
  dsimp only at ok
  split at ok
  · rename_i kds hk
    obtain ⟨a, rfl, hd⟩ := isD_of rel dx hk
    refine ⟨a, rfl, hd, re ρ μ δ σ H _ rel env (Okr.bind ok fun k μ1 ρ1 H1 y p1 f1 rel1 dy ok1 => ?_)⟩
    split at ok1
    · rename_i n kds1 key hc hkey
      split at ok1
      · rename_i v hv
        obtain ⟨a1, vs, e1, h1, h2, h3, h4, h5⟩ := dcell_ok rel1 (dx.mono p1 f1) hc
        cases e1
        obtain ⟨u, hu, du⟩ := (KDs.val h5).1 v hv
        exact ⟨vs, key, u, h4, keyOf_ok hkey dy, hu, dwrite rel1 h1 h3 h4 (KDs.drop h5) du ok1⟩
      · exact ok1.elim
    · exact ok1.elim
  · exact ok.elim
def insAt (μ : Mem) (d : D) : Option (Nat × Addr × List (Str × D)) := match d with
  | .loc n => match μ.cells[n]? with
    | some (.ins C fs) => some (n, C, fs)
    | _ => none
  | _ => none
def mfaug (g : Int → Int → Int) (f : Str) (mo me : ME) : MS := ofE mo fun d => fun δ μ => match insAt μ d with
  | some (_, C, fs) => match fs.lookup f with
    | some (.int i) => ofE me (fun y => fun δ μ1 => match insAt μ1 d, y with
      | some (n, C', fs'), .int j => if C' = C ∧ (fs'.lookup f).isSome = true ∧ fs'.length < 1000 then .nx δ (μ1.set n (.ins C' (putFD f (.int (g i j)) fs'))) else .bad
      | _, _ => .bad) δ μ
    | _ => .bad
  | none => .bad
theorem insAt_ok {K : PySem.W.Frag} {ρ : List Addr} {μ : Mem} {H : Hp} {d : D} {x : V} {n : Nat} {C : Addr} {fs : List (Str × D)} (rel : Rel K ρ μ H) (dx : DV K ρ H d x) (h : insAt μ d = some (n, C, fs)) :
    ∃ a dx vs, d = .loc n ∧ x = .ref a ∧ ρ[n]? = some a ∧ H a = some (.ins C dx vs) ∧ KDs K ρ H fs vs ∧ Cls K C ∧ (∀ p ∈ fs, NoAttr K C p.1) := by
  unfold insAt at h
  split at h
  · rename_i m
    split at h
    · rename_i C' fs' hc
      simp only [Option.some.injEq, Prod.mk.injEq] at h
      obtain ⟨rfl, rfl, rfl⟩ := h
      simp only [DV] at dx
      obtain ⟨a, h1, rfl⟩ := dx
      obtain ⟨dx, vs, h2, h3, cl, na, hl⟩ := rel.cell _ a _ h1 hc
      exact ⟨a, dx, vs, rfl, rfl, h1, h2, h3, cl, na⟩
    · cases h
  · cases h
theorem rs_faug {op : Operator} {g : Int → Int → Int} {at_ : Str} (hop : InOp X op (fun x y H Q => ∃ i j, x = .int i ∧ y = .int j ∧ Q (.int (g i j)) H)) (ho : RE X hx W o mo) (he : RE X hx W e me) : RS X hx W (.AugAssign (.Attribute o at_ tpos) op e pos) (mfaug g at_ mo me) := by
  obtain ⟨to, po, ro⟩ := ho.ex
  obtain ⟨te, pe, re⟩ := he.ex
  refine ⟨⟨_, ps_fldaug po pe hop, fun ρ0 μ0 δ σ H0 Dn rel0 env0 ok0 => ro ρ0 μ0 δ σ H0 _ rel0 env0 (OkS.ofE env0 ok0 fun d μ ρ H x pr fz rel dx ok => ?_)⟩⟩
  have env := env0.mono pr fz
  split at ok
  · rename_i n C fs hi
    split at ok
    · rename_i i hl
      obtain ⟨a, dx1, vs, rfl, rfl, h1, h2, h3, cl, na⟩ := insAt_ok rel dx hi
      obtain ⟨v, hv, dv⟩ := (KDs.look h3).1 _ hl
      have hna : NoAttr X.K C at_ := by
        obtain ⟨p, hp, rfl⟩ := lookup_memD hl
        exact na p hp
      refine ⟨a, C, dx1, vs, v, rfl, h2, cl, hna, hv, re ρ μ δ σ H _ rel env (OkS.ofE env ok fun y μ1 ρ1 H1 y' p1 f1 rel1 dy ok1 => ?_)⟩
      split at ok1
      · rename_i _ n' C' fs' j hi'
        split at ok1
        · rename_i hc
          obtain ⟨eC, hs, hlen⟩ := hc
          obtain ⟨a', dx2, vs', en, ea, h1', h2', h3', cl', na'⟩ := insAt_ok rel1 (dx.mono p1 f1) hi'
          cases en
          cases ea
          have cl2 := cl
          rw [← eC] at hna cl2
          refine ⟨i, j, int_ok dv, int_ok dy, dx2, vs', eC ▸ h2', by rw [← KDs.length h3']; exact hlen, ?_⟩
          have f' := Fz.mut (o := .ins C' dx2 (L2.putF at_ (.int (g i j)) vs')) h1' h2' (fun _ => HO.noConfusion) (fun _ _ => HO.noConfusion)
          rw [← eC]
          refine ok1 ρ1 _ σ (Pre.refl _) f' (rel1.write h1' h2' (fun _ => HO.noConfusion) (fun _ _ => HO.noConfusion) ⟨dx2, _, upd_same, (h3'.putF dv_int).mono (Pre.refl _) f', cl', fun p hp => ?_, ?_⟩) ((env.mono p1 f1).mono (Pre.refl _) f')
          · rcases putFD_old hp with h | h
            · rw [h]; exact hna
            · exact na' p h
          · have := putFD_len at_ (.int (g i j)) fs'
            omega
        · exact ok1.elim
      · exact ok1.elim
    · exact ok.elim
  · exact ok.elim
abbrev MP := List (ME × ME)
def mpairs : MP → MX (List (D × D))
  | [] => fun _ μ => .ok [] μ
  | (mk, mv) :: r => bindM mk fun k => bindM mv fun v => bindM (mpairs r) fun ps => fun _ μ => .ok ((k, v) :: ps) μ
def keysOf : List (D × D) → Option (List (Key × D))
  | [] => some []
  | (k, v) :: r => match keyOf k, keysOf r with
    | some k, some ks => some ((k, v) :: ks)
    | _, _ => none
def kmerge (kvs more : List (Key × D)) : List (Key × D) := more.foldl (fun acc kv => kput acc kv.1 kv.2) kvs
def mdisp (ps : MP) : ME := bindM (mpairs ps) fun kvs => fun _ μ => match keysOf kvs with
  | some kds => if kds.length ≤ 15 then .ok (.loc μ.cells.length) (μ.push (.dK (kmerge [] kds))) else .bad
  | none => .bad
def DV2s (K : PySem.W.Frag) : Rl (List (D × D)) (List (V × V)) := fun ρ H a b => Paired (fun p q => DV K ρ H p.1 q.1 ∧ DV K ρ H p.2 q.2) a b
structure RPs (X : Cx) (hx : Option HX) (W : WX) (pos : Pos) (ks : List (Option Expr)) (vs : List Expr) (ps : MP) : Prop where
  ex : ∃ trs, PPs X pos ks vs trs ∧ Ref X.K hx W (DV2s X.K) (fun σ H Q => tPairs trs σ H Q) (mpairs ps)
theorem rps_nil : RPs X hx W pos [] [] [] := ⟨⟨[], pps_nil, fun ρ μ δ σ H Q rel env ok => Okr.now (b := ([] : List (V × V))) ok rel .nil⟩⟩
theorem rps_cons {ks : List (Option Expr)} {vs : List Expr} {ps : MP} (hk : RE X hx W o mo) (hv : RE X hx W e me) (hr : RPs X hx W pos ks vs ps) : RPs X hx W pos (some o :: ks) (e :: vs) ((mo, me) :: ps) := by
  obtain ⟨tk, pk, rk⟩ := hk.ex
  obtain ⟨tv, pv, rv⟩ := hv.ex
  obtain ⟨tr, pr, rr⟩ := hr.ex
  refine ⟨⟨_, pps_cons pk pv pr, fun ρ0 μ0 δ σ H0 Q rel0 env0 ok0 => rk ρ0 μ0 δ σ H0 _ rel0 env0 (Okr.bind ok0 fun k μ ρ H x p0 f0 rel dk ok => ?_)⟩⟩
  have env := env0.mono p0 f0
  refine rv ρ μ δ σ H _ rel env (Okr.bind ok fun v μ1 ρ1 H1 y p1 f1 rel1 dv ok1 => ?_)
  have env1 := env.mono p1 f1
  refine rr ρ1 μ1 δ σ H1 _ rel1 env1 (Okr.bind ok1 fun qs μ2 ρ2 H2 zs p2 f2 rel2 dz ok2 => ?_)
  exact Okr.now (b := (x, y) :: zs) ok2 rel2 (.cons ⟨(dk.mono p1 f1).mono p2 f2, dv.mono p2 f2⟩ dz)
theorem keysOf_ok {K : PySem.W.Frag} {ρ : List Addr} {H : Hp} : ∀ {kvs : List (D × D)} {kds : List (Key × D)} {ps : List (V × V)}, keysOf kvs = some kds → DV2s K ρ H kvs ps → ∃ ls : List (Key × V), ps = ls.map (fun kv => (kV kv.1, kv.2)) ∧ KDs K ρ H kds ls
  | [], kds, ps, h, r => by
    cases h
    cases r
    exact ⟨[], rfl, .nil⟩
  | (k, v) :: r, kds, ps, h, rr => by
    unfold keysOf at h
    split at h
    · rename_i key ks h1 h2
      cases h
      cases rr with
      | cons hq ht =>
        rename_i q qs
        obtain ⟨ls, e, hl⟩ := keysOf_ok h2 ht
        obtain ⟨q1, q2⟩ := q
        have e1 : q1 = kV key := keyOf_ok h1 hq.1
        subst e1
        exact ⟨(key, q2) :: ls, by rw [e]; rfl, .cons ⟨rfl, hq.2⟩ hl⟩
    · cases h
theorem KDs.merge {K : PySem.W.Frag} {ρ : List Addr} {H : Hp} : ∀ {more : List (Key × D)} {rs : List (Key × V)} {a : List (Key × D)} {b : List (Key × V)}, KDs K ρ H more rs → KDs K ρ H a b → KDs K ρ H (kmerge a more) (mergeK b rs) := by
  intro more rs a b h
  induction h generalizing a b with
  | nil => exact fun h => h
  | @cons p q ps qs hp t ih =>
    intro h0
    obtain ⟨p1, p2⟩ := p
    obtain ⟨q1, q2⟩ := q
    obtain ⟨e, hd⟩ := hp
    cases e
    exact ih (KDs.put hd h0)
theorem re_disp {ks : List (Option Expr)} {vs : List Expr} {ps : MP} (h : RPs X hx W pos ks vs ps) (hall : ks.all (·.isSome) = true := by rfl) (hl : ks.length = vs.length := by rfl) (h0 : ks ≠ [] := by exact fun z => by cases z) (h15 : ks.length ≤ 15 := by decide) : RE X hx W (.Dict ks vs pos) (mdisp ps) := by
  obtain ⟨trs, pt, rt⟩ := h.ex
  refine ⟨⟨_, pe_disp pt hall hl h0 h15, fun ρ0 μ0 δ σ H0 Q rel0 env0 ok0 p hp => ?_⟩⟩
  have rel1 := rel0.alloc (o := .dK []) hp
  have fz1 : Fz ρ0 ρ0 H0 (upd H0 p (.dK [])) := Fz.new hp
  have hnp := rel0.fresh hp
  refine rt ρ0 μ0 δ σ _ _ rel1 (env0.mono (Pre.refl _) fz1) ?_
  unfold mdisp bindM at ok0
  cases e : mpairs ps δ μ0 with
  | bad => rw [e] at ok0; exact ok0
  | err C w μ1 =>
    rw [e] at ok0
    have ok1 : XOk X.K ρ0 H0 C w μ1 (fun c d H' => W c d σ H') := ok0
    exact XOk.mono (Pre.refl _) fz1 ok1
  | ok kvs μ1 =>
    rw [e] at ok0
    intro ρ H zs pr fz rel dz
    have ok1 : Okr X.K (DV X.K) ρ0 H0 (match keysOf kvs with | some kds => if kds.length ≤ 15 then .ok (.loc μ1.cells.length) (μ1.push (.dK (kmerge [] kds))) else .bad | none => .bad) Q _ := ok0
    split at ok1
    · rename_i kds hk
      split at ok1
      · rename_i hlen
        obtain ⟨ls, e1, hls⟩ := keysOf_ok hk dz
        have hH : H p = some (.dK []) := fz.keep p _ hnp upd_same
        refine ⟨hH, ls, e1, by rw [← KDs.length hls]; exact hlen, ?_⟩
        have hnp2 : p ∉ ρ := fun hm => by
          by_cases h1 : p ∈ ρ0
          · exact hnp h1
          · have := fz.fr p hm h1
            rw [upd_same] at this; cases this
        have f2 : Fz0 H (upd H p (.dK (mergeK [] ls))) := Fz0.mut hH (fun _ => HO.noConfusion) (fun _ _ => HO.noConfusion)
        have f3 : Fz ρ0 ρ H0 H := by
          refine ⟨fz1.toFz0.trans fz.toFz0, fun b hb nb => ?_, fun b ob nb hb => ?_, fun b hb => fz1.dom b (fz.dom b hb)⟩
          · exact fz1.dom b (fz.fr b hb nb)
          · exact fz.keep b ob nb (fz1.keep b ob nb hb)
        have rel2 : Rel X.K ρ μ1 (upd H p (.dK (mergeK [] ls))) := rel.other hnp2 f2
        refine ok1 (ρ ++ [p]) _ _ (pr.trans (Pre.app _ _)) ((f3.late hp).lateA hp) (rel2.adopt hnp2 ⟨mergeK [] ls, ?_, ?_⟩) (dv_last rel)
        · exact upd_same
        · exact (KDs.merge hls .nil).mono0 (Pre.app _ _) f2
      · exact ok1.elim
    · exact ok1.elim
end
end Doz
end
section
namespace Doz
open PySem L2
structure Fz1 (H H' : Hp) : Prop where
  frzx : ∀ b o φ, H b = some (.frz o (.ext φ)) → H' b = some (.frz o (.ext φ))
  tups : ∀ b xs, H b = some (.tup xs) → H' b = some (.tup xs)
  frzl : ∀ b o xs, H b = some (.frz o (.lst xs)) → H' b = some (.frz o (.lst xs))
mutual
theorem DV.mono1 {K : PySem.W.Frag} {ρ : List Addr} {H H' : Hp} (f : Fz1 H H') : ∀ (d : D) (v : V), DV K ρ H d v → DV K ρ H' d v
  | .non, _, h => by simpa only [DV] using h
  | .bl _, _, h => by simpa only [DV] using h
  | .int _, _, h => by simpa only [DV] using h
  | .str _, _, h => by simpa only [DV] using h
  | .tup ds, _, h => by
    simp only [DV] at h ⊢
    obtain ⟨a, vs, e, h1, h2⟩ := h
    exact ⟨a, vs, e, h1.elim (fun h => .inl (f.tups a vs h)) .inr, DVs.mono1 f ds vs h2⟩
  | .lst ds, _, h => by
    simp only [DV] at h ⊢
    obtain ⟨a, vs, e, h1, h2⟩ := h
    exact ⟨a, vs, e, h1.elim (fun ⟨o, h⟩ => .inl ⟨o, f.frzl a o vs h⟩) .inr, DVs.mono1 f ds vs h2⟩
  | .loc n, _, h => by simpa only [DV] using h
  | .sta _, _, h => by simpa only [DV] using h
  | .ty _, _, h => by simpa only [DV] using h
theorem DVs.mono1 {K : PySem.W.Frag} {ρ : List Addr} {H H' : Hp} (f : Fz1 H H') : ∀ (ds : List D) (vs : List V), DVs K ρ H ds vs → DVs K ρ H' ds vs
  | [], _, h => by simpa only [DVs] using h
  | d :: ds, _, h => by
    simp only [DVs] at h ⊢
    obtain ⟨v, r, e, h1, h2⟩ := h
    exact ⟨v, r, e, DV.mono1 f d v h1, DVs.mono1 f ds r h2⟩
end
theorem KDs.mono1 {κ : Type} {K : PySem.W.Frag} {ρ : List Addr} {H H' : Hp} (f : Fz1 H H') {a : List (κ × D)} {b : List (κ × V)} (h : KDs K ρ H a b) : KDs K ρ H' a b :=
  Paired.mapP h fun _ _ z => ⟨z.1, DV.mono1 f _ _ z.2⟩
theorem CellR.mono1 {K : PySem.W.Frag} {ρ : List Addr} {H H' : Hp} {l : Bool} {a : Addr} {c : Cell} (f : Fz1 H H') (e : H' a = H a) (h : CellR K ρ H l a c) : CellR K ρ H' l a c := by
  cases c with
  | lst ds => obtain ⟨vs, h, r⟩ := h; exact ⟨vs, e.trans h, r.mono1 f⟩
  | dK kds =>
    obtain ⟨vs, h, r⟩ := h
    exact ⟨vs, by unfold Lk at h ⊢; rw [e]; exact h, KDs.mono1 f r⟩
  | dT kds =>
    obtain ⟨vs, h, r⟩ := h
    exact ⟨vs, by unfold Lk at h ⊢; rw [e]; exact h, KDs.mono1 f r⟩
  | ins C fs => obtain ⟨dx, vs, h, r, q⟩ := h; exact ⟨dx, vs, e.trans h, KDs.mono1 f r, q⟩
  | dead => obtain ⟨o, h, z⟩ := h; exact ⟨o, e.trans h, z⟩
def lockM (n : Nat) (μ : Mem) : Mem := { μ with lk := n :: μ.lk }
def openM (l : List Nat) (μ : Mem) : Mem := { μ with lk := l }
section
variable {K : PySem.W.Frag} {ρ ρ' : List Addr} {μ μ1 : Mem} {H H' : Hp} {n : Nat} {a : Addr} {kds : List (Key × D)} {kvs : List (Key × V)} {o : Obj} {l : List Nat}
theorem Rel.inj (rel : Rel K ρ μ H) {m : Nat} {b : Addr} (h : ρ[n]? = some a) (e : ρ[m]? = some b) (hm : m ≠ n) : b ≠ a := fun z => hm (by
  subst z
  obtain ⟨l1, e3⟩ := List.getElem?_eq_some_iff.mp e
  obtain ⟨l2, e4⟩ := List.getElem?_eq_some_iff.mp h
  exact (List.getElem_inj rel.nd).mp (e3.trans e4.symm))
theorem lkd_cons (m n : Nat) (h : m ≠ n) (l : List Nat) (cs : List Cell) : ({ cells := cs, lk := n :: l } : Mem).lkd m = ({ cells := cs, lk := l } : Mem).lkd m := by
  unfold Mem.lkd
  rw [List.contains_cons]
  have : (m == n) = false := beq_eq_false_iff_ne.mpr h
  rw [this, Bool.false_or]
theorem Rel.lock (rel : Rel K ρ μ H) (hn : ρ[n]? = some a) (hc : μ.cells[n]? = some (.dK kds)) (hl : μ.lkd n = false) : ∃ kvs, H a = some (.dK kvs) ∧ KDs K ρ H kds kvs ∧ ∀ o, Rel K ρ (lockM n μ) (upd H a (.frz o (.dK kvs))) ∧ Fz0 H (upd H a (.frz o (.dK kvs))) := by
  obtain ⟨kvs, h1, h2⟩ := rel.cell n a _ hn hc
  rw [hl] at h1
  have h1 : H a = some (.dK kvs) := h1
  refine ⟨kvs, h1, h2, fun o => ?_⟩
  have f : Fz0 H (upd H a (.frz o (.dK kvs))) := Fz0.mut h1 (fun _ => HO.noConfusion) (fun _ _ => HO.noConfusion)
  refine ⟨⟨rel.len, rel.nd, fun m b c e1 e2 => ?_, fun m hm => ?_⟩, f⟩
  · by_cases hmn : m = n
    · subst hmn
      rw [hn] at e1
      cases e1
      have e2 : μ.cells[m]? = some c := e2
      rw [hc] at e2
      cases e2
      have : (lockM m μ).lkd m = true := by simp [lockM, Mem.lkd]
      rw [this]
      exact ⟨kvs, ⟨o, upd_same⟩, h2.mono0 (Pre.refl _) f⟩
    · have hb := rel.inj hn e1 hmn
      have : (lockM n μ).lkd m = μ.lkd m := lkd_cons m n hmn μ.lk μ.cells
      rw [this]
      exact (rel.cell m b c e1 e2).mono0 (Pre.refl _) f (upd_ne hb)
  · rcases List.mem_cons.mp hm with h | h
    · subst h; exact (List.getElem?_eq_some_iff.mp hc).1
    · exact rel.lkb m h
theorem Rel.open_ (rel : Rel K ρ' μ1 H') (hp : Pre ρ ρ') (hn : ρ[n]? = some a) (hk : μ1.lk = n :: l) (hln : n ∉ l) (hH : H' a = some (.frz o (.dK kvs))) : Rel K ρ' (openM l μ1) (upd H' a (.dK kvs)) ∧ Fz1 H' (upd H' a (.dK kvs)) := by
  have f1 : Fz1 H' (upd H' a (.dK kvs)) := ⟨fun b ob φ e => by
    have hb : b ≠ a := fun z => by rw [z, hH] at e; cases e
    rw [upd_ne hb]; exact e, fun b xs e => by rw [upd_ne (ne_of e hH HO.noConfusion)]; exact e, fun b ob xs e => by
    rw [upd_ne (fun z => by subst z; rw [hH] at e; cases e)]; exact e⟩
  have hn' := hp n a hn
  refine ⟨⟨rel.len, rel.nd, fun m b c e1 e2 => ?_, fun m hm => rel.lkb m (by rw [hk]; exact List.mem_cons_of_mem _ hm)⟩, f1⟩
  by_cases hmn : m = n
  · subst hmn
    rw [hn'] at e1
    cases e1
    have e2 : μ1.cells[m]? = some c := e2
    have q := rel.cell m a c hn' e2
    have hl1 : μ1.lkd m = true := by unfold Mem.lkd; rw [hk]; simp
    have hl2 : (openM l μ1).lkd m = false := by
      unfold Mem.lkd openM
      cases h : l.contains m with
      | false => rfl
      | true => exact absurd (List.contains_iff_mem.mp h) hln
    rw [hl1] at q
    rw [hl2]
    cases c with
    | dK kds =>
      obtain ⟨kvs', ⟨o', h1⟩, h2⟩ := q
      rw [hH] at h1
      cases h1
      exact ⟨kvs, upd_same, KDs.mono1 f1 h2⟩
    | dT kds => obtain ⟨kvs', ⟨o', h1⟩, h2⟩ := q; rw [hH] at h1; cases h1
    | lst ds => obtain ⟨vs, h1, _⟩ := q; rw [hH] at h1; cases h1
    | ins C fs => obtain ⟨dx, vs, h1, _⟩ := q; rw [hH] at h1; cases h1
    | dead => exact ⟨.dK kvs, upd_same, fun _ => HO.noConfusion⟩
  · have hb := rel.inj hn' e1 hmn
    have : (openM l μ1).lkd m = μ1.lkd m := by
      have e : μ1 = { cells := μ1.cells, lk := n :: l } := by rw [← hk]
      rw [e]; exact (lkd_cons m n hmn l μ1.cells).symm
    rw [this]
    exact (rel.cell m b c e1 e2).mono1 f1 (upd_ne hb)
theorem Fz.open_ (f : Fz ρ ρ' (upd H a (.frz o (.dK kvs))) H') (hn : ρ[n]? = some a) (h0 : H a = some (.dK kvs)) : Fz ρ ρ' H (upd H' a (.dK kvs)) := by
  have hm : a ∈ ρ := List.mem_of_getElem? hn
  refine ⟨⟨fun b xs e => ?_, fun b ob u e => ?_⟩, fun b hb nb => ?_, fun b ob nb e => ?_, fun b e => ?_⟩
  · have : b ≠ a := ne_of e h0 HO.noConfusion
    rw [upd_ne this]; exact f.tups b xs (by rw [upd_ne this]; exact e)
  · have : b ≠ a := ne_of e h0 HO.noConfusion
    rw [upd_ne this]; exact f.frzs b ob u (by rw [upd_ne this]; exact e)
  · exact upd_dom (f.fr b hb nb)
  · have : b ≠ a := fun z => nb (z ▸ hm)
    rw [upd_ne this]; exact f.keep b ob nb (by rw [upd_ne this]; exact e)
  · by_cases hb : b = a
    · subst hb; rw [upd_same] at e; cases e
    · rw [upd_ne hb] at e; exact upd_dom (f.dom b e)
end
theorem EnvR.mono1 {K : PySem.W.Frag} {ρ : List Addr} {H : Hp} {hx : Option HX} {δ : DEnv} {σ : St} {a : Addr} {u : HO} (e : EnvR K ρ H hx δ σ) (f : Fz1 H (upd H a u)) (hm : a ∈ ρ) : EnvR K ρ (upd H a u) hx δ σ :=
  ⟨e.len, fun i d h => let ⟨v, h1, h2⟩ := e.get i d h; ⟨v, h1, DV.mono1 f _ _ h2⟩, fun q h => by
    obtain ⟨h1, h2, v, h3, h4⟩ := e.exn q h
    exact ⟨h1, h2, v, (upd_ne (show q.dd ≠ a from fun z => h2 (by rw [z]; exact hm))).trans h3, DV.mono1 f _ _ h4.1, fun oe z => f.frzx _ _ _ (h4.2 oe z)⟩⟩
def opS (n : Nat) (l : List Nat) : SRes → SRes
  | .nx δ μ => if μ.lk = n :: l then .nx δ (openM l μ) else .bad
  | .rt d μ => if μ.lk = n :: l then .rt d (openM l μ) else .bad
  | .bk δ μ => if μ.lk = n :: l then .bk δ (openM l μ) else .bad
  | .ct δ μ => if μ.lk = n :: l then .ct δ (openM l μ) else .bad
  | _ => .bad
def opR {α : Type} (n : Nat) (l : List Nat) : Res α → Res α
  | .ok a μ => if μ.lk = n :: l then .ok a (openM l μ) else .bad
  | _ => .bad
abbrev Sel := DEnv → Mem → Option Nat
def selOf (m : ME) : Sel := fun δ μ => match m δ μ with
  | .ok (.loc n) _ => some n
  | _ => none
def isDK (μ : Mem) (n : Nat) : Bool := match μ.cells[n]? with
  | some (.dK _) => true
  | _ => false
theorem isDK_ok {μ : Mem} {n : Nat} (h : isDK μ n = true) : ∃ kds, μ.cells[n]? = some (.dK kds) := by
  unfold isDK at h
  split at h
  · rename_i kds e; exact ⟨kds, e⟩
  · cases h
def mlockS (sel : Sel) (ms : MS) : MS := fun δ μ => match sel δ μ with
  | some n => if μ.lkd n = true then ms δ μ else if isDK μ n = true then opS n μ.lk (ms δ (lockM n μ)) else .bad
  | none => .bad
def mlockN (sel : Sel) (m : MX (List D)) : MX (List D) := fun δ μ => match sel δ μ with
  | some n => if μ.lkd n = true then m δ μ else if isDK μ n = true then opR n μ.lk (m δ (lockM n μ)) else .bad
  | none => .bad
theorem PS.or {X : Cx} {st : Stmt} {t t' : TS} (h : PS X st t) (h' : PS X st t') : PS X st (fun Dn σ H => t Dn σ H ∨ t' Dn σ H) :=
  ⟨fun pins s σ H Dn I q => q.elim (h.run pins s σ H Dn I) (h'.run pins s σ H Dn I)⟩
theorem PE.or' {X : Cx} {e : Expr} {t t' : TE} (h : PE X e t) (h' : PE X e t') : PE X e (fun σ H Q => t σ H Q ∨ t' σ H Q) :=
  ⟨fun pins s σ H Q I q => q.elim (h.run pins s σ H Q I) (h'.run pins s σ H Q I)⟩
theorem lkd_mem {μ : Mem} {n : Nat} (h : μ.lkd n = false) : n ∉ μ.lk := fun hm => by
  unfold Mem.lkd at h
  rw [List.contains_iff_mem.mpr hm] at h; cases h
section
variable {X : Cx} {hx : Option HX} {W : WX} {st : Stmt} {ms : MS} {e : Expr} {m : MX (List D)}
theorem rs_lock (sel : Sel) (h : RS X hx W st ms) : RS X hx W st (mlockS sel ms) := by
  obtain ⟨t, p, r⟩ := h.ex
  refine ⟨⟨_, PS.or p (ps_lock p), fun ρ μ δ σ H Dn rel env ok => ?_⟩⟩
  unfold mlockS at ok
  split at ok
  · rename_i n hs
    split at ok
    · exact .inl (r ρ μ δ σ H Dn rel env ok)
    · rename_i hl
      split at ok
      · rename_i hd
        obtain ⟨kds, hc⟩ := isDK_ok hd
        obtain ⟨a, hn, _⟩ := rel.has hc
        have hl : μ.lkd n = false := by simpa using hl
        obtain ⟨kvs, h1, h2, h3⟩ := rel.lock hn hc hl
        refine .inr ⟨a, .dK kvs, h1, trivial, fun od => ?_⟩
        obtain ⟨rel1, f1⟩ := h3 od
        have hm : a ∈ ρ := List.mem_of_getElem? hn
        have fz1 : Fz ρ ρ H (upd H a (.frz od (.dK kvs))) := Fz.mut hn h1 (fun _ => HO.noConfusion) (fun _ _ => HO.noConfusion)
        have hln := lkd_mem hl
        refine r ρ (lockM n μ) δ σ _ _ rel1 (env.mono (Pre.refl _) fz1) ?_
        cases e : ms δ (lockM n μ) with
        | bad => rw [e] at ok; exact ok
        | err C w δ1 μ1 => rw [e] at ok; exact ok.elim
        | nx δ1 μ1 =>
          rw [e] at ok
          intro ρ' H' σ' pr fz rel' env'
          have ok : OkS X.K hx W ρ H (if μ1.lk = n :: μ.lk then .nx δ1 (openM μ.lk μ1) else .bad) Dn := ok
          split at ok
          · rename_i hk
            have hH : H' a = some (.frz od (.dK kvs)) := fz.frzs a od _ upd_same
            obtain ⟨rel2, f2⟩ := rel'.open_ pr hn hk hln hH
            exact ⟨hH, ok ρ' _ σ' pr (fz.open_ hn h1) rel2 (env'.mono1 f2 (List.mem_of_getElem? (pr n a hn)))⟩
          · exact ok.elim
        | rt d1 μ1 =>
          rw [e] at ok
          intro ρ' H' v' pr fz rel' dv'
          have ok : OkS X.K hx W ρ H (if μ1.lk = n :: μ.lk then .rt d1 (openM μ.lk μ1) else .bad) Dn := ok
          split at ok
          · rename_i hk
            have hH : H' a = some (.frz od (.dK kvs)) := fz.frzs a od _ upd_same
            obtain ⟨rel2, f2⟩ := rel'.open_ pr hn hk hln hH
            exact ⟨hH, ok ρ' _ v' pr (fz.open_ hn h1) rel2 (DV.mono1 f2 _ _ dv')⟩
          · exact ok.elim
        | bk δ1 μ1 =>
          rw [e] at ok
          intro ρ' H' σ' pr fz rel' env'
          have ok : OkS X.K hx W ρ H (if μ1.lk = n :: μ.lk then .bk δ1 (openM μ.lk μ1) else .bad) Dn := ok
          split at ok
          · rename_i hk
            have hH : H' a = some (.frz od (.dK kvs)) := fz.frzs a od _ upd_same
            obtain ⟨rel2, f2⟩ := rel'.open_ pr hn hk hln hH
            exact ⟨hH, ok ρ' _ σ' pr (fz.open_ hn h1) rel2 (env'.mono1 f2 (List.mem_of_getElem? (pr n a hn)))⟩
          · exact ok.elim
        | ct δ1 μ1 =>
          rw [e] at ok
          intro ρ' H' σ' pr fz rel' env'
          have ok : OkS X.K hx W ρ H (if μ1.lk = n :: μ.lk then .ct δ1 (openM μ.lk μ1) else .bad) Dn := ok
          split at ok
          · rename_i hk
            have hH : H' a = some (.frz od (.dK kvs)) := fz.frzs a od _ upd_same
            obtain ⟨rel2, f2⟩ := rel'.open_ pr hn hk hln hH
            exact ⟨hH, ok ρ' _ σ' pr (fz.open_ hn h1) rel2 (env'.mono1 f2 (List.mem_of_getElem? (pr n a hn)))⟩
          · exact ok.elim
      · exact ok.elim
  · exact ok.elim
theorem rn_lock (sel : Sel) (h : RN X hx W e m) : RN X hx W e (mlockN sel m) := by
  obtain ⟨t, p, r⟩ := h.ex
  refine ⟨⟨_, PE.or' p (pe_lock p), fun ρ μ δ σ H Q rel env ok => ?_⟩⟩
  unfold mlockN at ok
  split at ok
  · rename_i n hs
    split at ok
    · exact .inl (r ρ μ δ σ H Q rel env ok)
    · rename_i hl
      split at ok
      · rename_i hd
        obtain ⟨kds, hc⟩ := isDK_ok hd
        obtain ⟨a, hn, _⟩ := rel.has hc
        have hl : μ.lkd n = false := by simpa using hl
        obtain ⟨kvs, h1, h2, h3⟩ := rel.lock hn hc hl
        refine .inr ⟨a, .dK kvs, h1, trivial, fun od => ?_⟩
        obtain ⟨rel1, f1⟩ := h3 od
        have hm : a ∈ ρ := List.mem_of_getElem? hn
        have fz1 : Fz ρ ρ H (upd H a (.frz od (.dK kvs))) := Fz.mut hn h1 (fun _ => HO.noConfusion) (fun _ _ => HO.noConfusion)
        have hln := lkd_mem hl
        refine r ρ (lockM n μ) δ σ _ _ rel1 (env.mono (Pre.refl _) fz1) ?_
        cases e : m δ (lockM n μ) with
        | bad => rw [e] at ok; exact ok
        | err C w μ1 => rw [e] at ok; exact ok.elim
        | ok ds μ1 =>
          rw [e] at ok
          rintro ρ' H' v pr fz rel' ⟨q, vs, rfl, hu, hq, hnq, hdv⟩
          have ok : OkN X.K ρ H (if μ1.lk = n :: μ.lk then .ok ds (openM μ.lk μ1) else .bad) Q _ := ok
          split at ok
          · rename_i hk
            have hH : H' a = some (.frz od (.dK kvs)) := fz.frzs a od _ upd_same
            obtain ⟨rel2, f2⟩ := rel'.open_ pr hn hk hln hH
            have hqa : q ≠ a := fun z => by subst z; rw [hH] at hq; cases hq
            exact ⟨hH, ok ρ' _ _ pr (fz.open_ hn h1) rel2 ⟨q, vs, rfl, upd_dom hu, by rw [upd_ne hqa]; exact hq, hnq, DVs.mono1 f2 _ _ hdv⟩⟩
          · exact ok.elim
      · exact ok.elim
  · exact ok.elim
end
def mkeys (m : ME) : MX Its0 := bindM m fun d => fun _ μ => match d with
  | .loc n => match μ.cells[n]? with
    | some (.dK kds) => if μ.lkd n = true then .ok (kds.map fun k => keyD k.1, fun _ => true) μ else .bad
    | _ => .bad
  | _ => .bad
theorem itr_keys {K : PySem.W.Frag} {ρ0 : List Addr} {H0 : Hp} {a : Addr} {o : Obj} {kds : List (Key × D)} {kvs : List (Key × V)} {g : Mem → Bool} (h : H0 a = some (.frz o (.dK kvs))) (hk : KDs K ρ0 H0 kds kvs) : ItR K ρ0 H0 (kds.map fun k => keyD k.1, g) (Itk a o kvs) := by
  intro ρ μ H i p f rel _
  have hH := f.frzs a o _ h
  have hlen := KDs.length hk
  refine ⟨fun d hd => ?_, fun hi => ⟨hH, by rw [← hlen]; simp at hi; omega⟩⟩
  rw [List.getElem?_map] at hd
  obtain ⟨q, hq, rfl⟩ := Option.map_eq_some_iff.mp hd
  have hi : i < kds.length := (List.getElem?_eq_some_iff.mp hq).1
  refine ⟨⟨hH, by omega⟩, fun x H' y => ?_⟩
  obtain ⟨rfl, k, v, e1, rfl⟩ := y
  refine ⟨Fz.refl _, rel, ?_⟩
  have dk := (dvs_keys hk).get (i := i) (d := keyD q.1) (by rw [List.getElem?_map, hq]; rfl)
  obtain ⟨u, e2, du⟩ := dk
  rw [List.getElem?_map, e1] at e2
  cases e2
  exact dv_key_of du p f
where
  dv_key_of {K : PySem.W.Frag} {ρ0 ρ : List Addr} {H0 H : Hp} {d : D} {v : V} (h : DV K ρ0 H0 d v) (p : Pre ρ0 ρ) (f : Fz ρ0 ρ H0 H) : DV K ρ H d v := h.mono p f
theorem ri_keys {X : Cx} {hx : Option HX} {W : WX} {tg e : Expr} {m : ME} (he : RE X hx W e m) : RI X hx W tg e (mkeys m) := by
  obtain ⟨t, p, r⟩ := he.ex
  refine ⟨⟨_, pi_keys p, fun ρ0 μ0 δ σ H0 Q rel0 env0 ok0 => r ρ0 μ0 δ σ H0 _ rel0 env0 (Okr.bind ok0 fun d μ ρ H x pr fz rel dx ok => ?_)⟩⟩
  dsimp only at ok
  split at ok
  · rename_i n
    split at ok
    · rename_i kds hc
      split at ok
      · rename_i hl
        simp only [DV] at dx
        obtain ⟨a, h1, rfl⟩ := dx
        obtain ⟨kvs, h2, h3⟩ := rel.cell n a _ h1 hc
        rw [hl] at h2
        obtain ⟨o, h2⟩ := h2
        exact ⟨a, o, rfl, .inl ⟨kvs, h2, ok.now rel (itr_keys h2 h3)⟩⟩
      · exact ok.elim
    · exact ok.elim
  · exact ok.elim
end Doz
end
section
namespace Doz
open PySem L2
def sortBy {α : Type} (xs : List (α × D)) : List α := (xs.mergeSort (PySem.W.dataLe false fun b => toPy b.2)).map (·.1)
def alikeB (ps : List D) : Bool := ps.all fun p => ps.all fun q => PySem.W.alike (toPy p) (toPy q)
def tupB : D → Bool
  | .tup (_ :: _) => true
  | _ => false
def othB : D → Bool
  | .non => false
  | .tup _ => false
  | _ => true
def sortB (ps : List D) : Bool := ps.all tupB || ps.all othB
def keysOk (ps : List D) : Bool := D.pures ps && (alikeB ps && (sortB ps && ps.all fun p => decide ((toPy p).depth ≤ 64)))
theorem alikeB_ok {ps : List D} (h : alikeB ps = true) : PySem.W.AllAlike (ps.map toPy) := by
  intro d hd d' hd'
  obtain ⟨p, hp, rfl⟩ := List.mem_map.mp hd
  obtain ⟨q, hq, rfl⟩ := List.mem_map.mp hd'
  exact List.all_eq_true.mp (List.all_eq_true.mp h p hp) q hq
theorem sortB_ok {ps : List D} (hp : D.pures ps = true) (h : sortB ps = true) : PySem.W.Sortable (ps.map toPy) := by
  have pu : ∀ p ∈ ps, p.pure = true := fun p hm => by
    induction ps with
    | nil => cases hm
    | cons a r ih =>
      simp only [D.pures, Bool.and_eq_true] at hp
      rcases List.mem_cons.mp hm with e | e
      · subst e; exact hp.1
      · refine ih hp.2 ?_ e
        unfold sortB at h ⊢
        simp only [List.all_cons, Bool.or_eq_true, Bool.and_eq_true] at h ⊢
        exact h.elim (fun h => .inl h.2) (fun h => .inr h.2)
  unfold sortB at h
  simp only [Bool.or_eq_true] at h
  rcases h with h | h
  · refine .inl fun d hd => ?_
    obtain ⟨p, hm, rfl⟩ := List.mem_map.mp hd
    have := List.all_eq_true.mp h p hm
    cases p with
    | tup ds =>
      cases ds with
      | nil => cases this
      | cons a r => exact ⟨toPy a, toPys r, by simp only [toPy, toPys]⟩
    | _ => cases this
  · refine .inr fun d hd => ?_
    obtain ⟨p, hm, rfl⟩ := List.mem_map.mp hd
    have h1 := List.all_eq_true.mp h p hm
    have h2 := pu p hm
    cases p <;> first | (cases h1; done) | (cases h2; done) | exact ⟨by simp [toPy], by simp [toPy]⟩
def rSortG (K : PySem.W.Frag) : List V → Hp → VK → Prop := fun xs H Q => ∃ (a : Addr) (ys : List (V × D)), xs = [.ref a] ∧ SqL K H a (ys.map (·.1)) ∧ (∀ y ∈ ys, Dp K H y.1 (toPy y.2)) ∧ keysOk (ys.map (·.2)) = true ∧ ∀ p, H p = none → Q (.ref p) (upd H p (.lst (sortBy ys)))
theorem each_vals : ∀ {ys : List (V × D)} {us : List Value}, Vals (ys.map (·.1)) us → PySem.W.EachIs (fun (u : Value) (b : V × D) => RelV b.1 u) us ys
  | [], us, h => by cases h; exact .nil
  | y :: ys, us, h => by
    cases h with
    | cons h1 h2 => exact .cons h1 (each_vals h2)
theorem vals_each : ∀ {ys : List (V × D)} {us : List Value}, PySem.W.EachIs (fun (u : Value) (b : V × D) => RelV b.1 u) us ys → Vals (ys.map (·.1)) us
  | [], us, h => by cases h; exact .nil
  | y :: ys, us, h => by
    cases h with
    | cons h1 h2 => exact .cons h1 (vals_each h2)
theorem each_and {α β : Type} {R S : α → β → Prop} : ∀ {as : List α} {bs : List β}, PySem.W.EachIs R as bs → (∀ b ∈ bs, ∀ a, R a b → S a b) → PySem.W.EachIs S as bs
  | _, _, .nil, _ => .nil
  | _, _, .cons h t, k => .cons (k _ (by simp) _ h) (each_and t fun b hb a => k b (by simp [hb]) a)
theorem cr_sortG {X : Cx} (hu : Hu X) : CallR X (.builtin "sorted") (rSortG X.K) := by
  intro pins s σ H vs us Q I r h
  obtain ⟨a, ys, rfl, hs, hd, hk, q⟩ := h
  obtain ⟨its, rv, hl, hz⟩ := I.list hs
  rw [Vals.ref1 r]
  unfold keysOk at hk
  simp only [Bool.and_eq_true] at hk
  obtain ⟨k1, k2, k3, k4⟩ := hk
  have e := each_vals rv
  have er : PySem.W.EachIs (fun (v : Value) (b : V × D) => ∃ as, Reads s.heap v (toPy b.2) as) its ys := each_and e fun b hb u ru => Dp.reads I _ _ u (hd b hb) ru
  have ea : ys.map (fun b => toPy b.2) = (ys.map (·.2)).map toPy := by rw [List.map_map]; rfl
  refine PySem.W.sorted_data (enc := fun b : V × D => toPy b.2) hl.isList e er (by rw [ea]; exact alikeB_ok k2) (by rw [ea]; exact sortB_ok k1 k3) (by rw [List.length_map] at hz; exact hz) (fun b hb => ?_) fun out hlen h2 => ?_
  · have := of_decide_eq_true (List.all_eq_true.mp k4 b.2 (List.mem_map_of_mem (f := (·.2)) hb))
    have h3 : X.A.units + 100 < cLine := hu
    omega
  · obtain ⟨ep, he'⟩ := PyProof.Rows.sortedAll_at s.heap its out.toArray
    have h3 := vals_each h2
    refine ⟨.ref _, upd H (s.heap.objs.size + 1) (.lst (sortBy ys)), I.laid (t' := s.toks) (fun _ _ => PyProof.Rows.sortedAll_old) (Nat.le_succ _) ⟨?_, out, ep, h3, he'⟩, rfl, q _ (I.hok.fresh (Nat.le_succ _))⟩
    show (List.map _ _).length ≤ sizeLine
    rw [List.length_map, List.length_mergeSort]
    rw [List.length_map] at hz; exact hz
def fSortN (ds : List D) (μ : Mem) : Res (List D) := match ds with
  | [d] => match lstOf μ d with
    | some xs => match xs.mapM (rsv μ 8) with
      | some ps => if keysOk ps = true then .ok (sortBy (xs.zip ps)) μ else .bad
      | none => .bad
    | none => .bad
  | _ => .bad
theorem mapM_len {α β : Type} {f : α → Option β} : ∀ {xs : List α} {ys : List β}, xs.mapM f = some ys → ys.length = xs.length
  | [], ys, h => by cases h; rfl
  | x :: xs, ys, h => by
    obtain ⟨y, r, h1, h2, rfl⟩ := mapM_cons_some h
    simp [mapM_len h2]
theorem dvs_zip {K : PySem.W.Frag} {ρ : List Addr} {H : Hp} : ∀ {xs : List D} {vs : List V}, DVs K ρ H xs vs → ∀ q ∈ xs.zip vs, DV K ρ H q.1 q.2
  | [], vs, h, q, hq => by simp at hq
  | x :: xs, vs, h, q, hq => by
    simp only [DVs] at h
    obtain ⟨v, r, rfl, h1, h2⟩ := h
    rcases List.mem_cons.mp (show q ∈ (x, v) :: xs.zip r from hq) with e | e
    · rw [e]; exact h1
    · exact dvs_zip h2 q e
theorem dvs_sort {K : PySem.W.Frag} {ρ : List Addr} {H : Hp} {xs ps : List D} {vs : List V} (h : DVs K ρ H xs vs) (hl : ps.length = xs.length) : DVs K ρ H (sortBy (xs.zip ps)) (sortBy (vs.zip ps)) := by
  have key : ∀ (zs : List ((D × V) × D)), (∀ z ∈ zs, DV K ρ H z.1.1 z.1.2) → DVs K ρ H (zs.map fun z => z.1.1) (zs.map fun z => z.1.2) := fun zs => by
    induction zs with
    | nil => intro _; exact .nil
    | cons z r ih => exact fun h => .cons (h z (by simp)) (ih fun y hy => h y (by simp [hy]))
  have hlv := h.length
  have e1 : xs.zip ps = (((xs.zip vs).zip ps).map fun z : (D × V) × D => (z.1.1, z.2)) := by
    clear h key
    induction xs generalizing ps vs with
    | nil => cases vs <;> simp
    | cons x xs ih =>
      cases vs with
      | nil => simp at hlv
      | cons v vs =>
        cases ps with
        | nil => simp at hl
        | cons p ps => simp [ih (ps := ps) (vs := vs) (by simpa using hl) (by simpa using hlv)]
  have e2 : vs.zip ps = (((xs.zip vs).zip ps).map fun z : (D × V) × D => (z.1.2, z.2)) := by
    clear h key e1
    induction xs generalizing ps vs with
    | nil => cases vs <;> simp_all
    | cons x xs ih =>
      cases vs with
      | nil => simp at hlv
      | cons v vs =>
        cases ps with
        | nil => simp at hl
        | cons p ps => simp [← ih (ps := ps) (vs := vs) (by simpa using hl) (by simpa using hlv)]
  unfold sortBy
  rw [e1, e2]
  have m1 : ∀ (f : (D × V) × D → D) (g : (D × V) × D → D × D) (hg : ∀ z, (g z).2 = z.2) (zs : List ((D × V) × D)), (zs.map g).mergeSort (PySem.W.dataLe false fun b => toPy b.2) = (zs.mergeSort (PySem.W.dataLe false fun b => toPy b.2)).map g := fun f g hg zs => by
    rw [List.map_mergeSort]
    intro a _ b _
    show PySem.W.dataLe false (fun b => toPy b.2) a b = PySem.W.dataLe false (fun b => toPy b.2) (g a) (g b)
    simp only [PySem.W.dataLe, PySem.W.sortLe, hg]
  have m2 : ∀ (g : (D × V) × D → V × D) (hg : ∀ z, (g z).2 = z.2) (zs : List ((D × V) × D)), (zs.map g).mergeSort (PySem.W.dataLe false fun b => toPy b.2) = (zs.mergeSort (PySem.W.dataLe false fun b => toPy b.2)).map g := fun g hg zs => by
    rw [List.map_mergeSort]
    intro a _ b _
    show PySem.W.dataLe false (fun b => toPy b.2) a b = PySem.W.dataLe false (fun b => toPy b.2) (g a) (g b)
    simp only [PySem.W.dataLe, PySem.W.sortLe, hg]
  rw [m1 (fun z => z.1.1) _ (fun _ => rfl), m2 _ (fun _ => rfl), List.map_map, List.map_map]
  refine key _ fun z hz => ?_
  have hz := (List.mergeSort_perm _ _).mem_iff.mp hz
  exact dvs_zip h _ (List.of_mem_zip hz).1
theorem cn_sort {K : PySem.W.Frag} : CallN K (rSortG K) fSortN := by
  intro ds ρ μ H xs Q E rel dv ok
  unfold fSortN at ok
  split at ok
  · rename_i d
    obtain ⟨v, rfl, dv1⟩ := dv.one
    split at ok
    · rename_i ys hy
      split at ok
      · rename_i ps hp
        split at ok
        · rename_i hk
          obtain ⟨a, vs, rfl, h1, h2⟩ := lstOf_ok rel dv1 hy
          have hl := mapM_len hp
          have hz : ((vs.zip ps).map (·.1)) = vs := List.map_fst_zip (by rw [hl, h2.length]; exact Nat.le_refl _)
          have hz2 : ((vs.zip ps).map (·.2)) = ps := List.map_snd_zip (by rw [hl, h2.length]; exact Nat.le_refl _)
          refine ⟨a, vs.zip ps, rfl, by rw [hz]; exact h1.sq, fun y hm => ?_, by rw [hz2]; exact hk, fun p hp' => OkN.new rel hp' (dvs_sort h2 hl) ok⟩
          clear ok hk hz hz2 hy h1
          induction ys generalizing vs ps with
          | nil => simp only [DVs] at h2; subst h2; simp at hm
          | cons x xs ih =>
            simp only [DVs] at h2
            obtain ⟨v, r, rfl, h3, h4⟩ := h2
            obtain ⟨p, qs, e1, e2, rfl⟩ := mapM_cons_some hp
            rcases List.mem_cons.mp (show y ∈ (v, p) :: r.zip qs from hm) with e | e
            · rw [e]; exact rsv_dp rel 8 x p v e1 h3
            · exact ih qs e2 r h4 (mapM_len e2) e
        · exact ok.elim
      · exact ok.elim
    · exact ok.elim
  · exact ok.elim
end Doz
end
section
namespace Doz
open PySem L2
def intsOf : List (Key × D) → Option (List Int)
  | [] => some []
  | (.inl i, _) :: r => (intsOf r).map (i :: ·)
  | _ => none
def txtsOf : List (Key × D) → Option (List Str)
  | [] => some []
  | (.inr x, _) :: r => (txtsOf r).map (x :: ·)
  | _ => none
theorem intsOf_ok : ∀ {ks : List (Key × D)} {ns : List Int}, intsOf ks = some ns → ks.map (·.1) = ns.map Sum.inl
  | [], ns, h => by cases h; rfl
  | (.inl i, _) :: r, ns, h => by
    obtain ⟨ms, h1, rfl⟩ := Option.map_eq_some_iff.mp (show (intsOf r).map (i :: ·) = some ns from h)
    simp [intsOf_ok h1]
  | (.inr x, _) :: r, ns, h => by cases h
theorem txtsOf_ok : ∀ {ks : List (Key × D)} {ns : List Str}, txtsOf ks = some ns → ks.map (·.1) = ns.map Sum.inr
  | [], ns, h => by cases h; rfl
  | (.inr i, _) :: r, ns, h => by
    obtain ⟨ms, h1, rfl⟩ := Option.map_eq_some_iff.mp (show (txtsOf r).map (i :: ·) = some ns from h)
    simp [txtsOf_ok h1]
  | (.inl x, _) :: r, ns, h => by cases h
def sortInts (ns : List Int) : List Int := ns.mergeSort fun a b => decide (a ≤ b)
def sortTxts (ns : List Str) : List Str := ns.mergeSort fun a b => decide (a.cps.toList ≤ b.cps.toList)
theorem sortInts_unique {ns ys : List Int} (h : ys.Perm ns) (hp : ys.Pairwise (· ≤ ·)) : ys = sortInts ns := by
  have h2 : (sortInts ns).Pairwise (fun a b => decide (a ≤ b) = true) := List.pairwise_mergeSort (fun a b c h1 h2 => by simp at *; omega) (fun a b => by simp; omega) ns
  have h3 : (sortInts ns).Pairwise (· ≤ ·) := h2.imp fun h => by simpa using h
  exact List.Perm.eq_of_pairwise (fun x y _ _ h1 h2 => Int.le_antisymm h1 h2) hp h3 (h.trans (List.mergeSort_perm _ _).symm)
theorem le_tl {a b c : List Nat} (h1 : a ≤ b) (h2 : b ≤ c) : a ≤ c := Std.le_trans h1 h2
theorem rising_pair : ∀ {ys : List Str} {p : Str}, PyProof.Rows.risingS p ys = true → (∀ y ∈ ys, p.cps.toList ≤ y.cps.toList) ∧ ys.Pairwise (fun a b => a.cps.toList ≤ b.cps.toList)
  | [], p, _ => ⟨fun _ h => (by cases h), .nil⟩
  | y :: ys, p, h => by
    unfold PyProof.Rows.risingS at h
    simp only [Bool.and_eq_true, decide_eq_true_eq] at h
    obtain ⟨h1', h2⟩ := h
    have h1 : p.cps.toList ≤ y.cps.toList := by
      rw [PyProof.Rows.ltCps_eq] at h1'
      simp at h1'
      exact h1'
    obtain ⟨k1, k2⟩ := rising_pair h2
    refine ⟨fun z hz => ?_, .cons k1 k2⟩
    rcases List.mem_cons.mp hz with e | e
    · rw [e]; exact h1
    · exact le_tl h1 (k1 z e)
theorem sortTxts_unique {ns ys : List Str} (h : ys.Perm ns) (hp : PyProof.Rows.sortedS ys = true) : ys = sortTxts ns := by
  have hp' : ys.Pairwise (fun a b => a.cps.toList ≤ b.cps.toList) := by
    cases ys with
    | nil => exact .nil
    | cons y ys => obtain ⟨k1, k2⟩ := rising_pair (show PyProof.Rows.risingS y ys = true from hp); exact .cons k1 k2
  have h2 : (sortTxts ns).Pairwise (fun a b => decide (a.cps.toList ≤ b.cps.toList) = true) := List.pairwise_mergeSort (fun a b c h1 h2 => by simp at *; exact le_tl h1 h2) (fun a b => by simp; exact Std.le_total) ns
  have h3 : (sortTxts ns).Pairwise (fun a b => a.cps.toList ≤ b.cps.toList) := h2.imp fun h => by simpa using h
  exact List.Perm.eq_of_pairwise (fun x y _ _ h1 h2 => TL.ext_tl (Std.le_antisymm h1 h2)) hp' h3 (h.trans (List.mergeSort_perm _ _).symm)
theorem gathered {vs : List (Key × Value)} {ks : List Int} {l : List Value} (hlen : l.length = ks.length)
    (hg : ∀ (j : Nat) (v : Value), l[j]? = some v → ∃ k, (vs.map (·.1))[j]? = some k ∧ keyIs k v = true) (hk : vs.map (·.1) = ks.map Sum.inl) : PyProof.Rows.IntsAre l ks := by
  refine ints_each hlen ?_
  intro j v hv
  obtain ⟨k, hkj, hi⟩ := hg j v hv
  rw [hk, List.getElem?_map, Option.map_eq_some_iff] at hkj
  obtain ⟨y, hy, rfl⟩ := hkj
  obtain ⟨i, t, e, ev⟩ | ⟨z, t, e, _⟩ := keyIs_shape hi
  · exact ⟨y, t, hy, by cases e; exact ev⟩
  · cases e
open PySem.Spec PyProof.Rows in
theorem call_sortedDL {X : Cx} (calm : X.calm = true) : CallR X (.builtin "sorted") fun xs H Q => ∃ (a : Addr) (kvs : List (Key × V)) (ks : List Int), xs = [.ref a] ∧
    Rd H a (.dK kvs) ∧ kvs.map (·.1) = ks.map Sum.inl ∧ ks.length ≤ sizeLine ∧ ∀ (ys : List Int) (p : Addr), ys.Perm ks → ys.Pairwise (· ≤ ·) → H p = none → Q (.ref p) (upd H p (.lst (ys.map V.int))) := by
  rintro pins s σ H xs us Q inv rel ⟨a, kvs, ks, rfl, rd, same, small, post⟩
  obtain ⟨u, rfl, ru⟩ := vals1 rel
  cases ru
  obtain ⟨_, lo, vs, kv, dict⟩ := dk_rd inv.hok rd
  obtain ⟨ep, there⟩ := dict.dictAt
  have keys : vs.map (·.1) = ks.map Sum.inl := by rw [← kv.keys]; exact same
  have many : vs.length = ks.length := by simpa using congrArg List.length keys
  refine Calls.call_function_entry kind_sorted plain_sorted entry_sorted (args_sorted1 _) ?_
  show wpAny _ _ (Builtin.«sorted» _) _ _ _
  unfold Builtin.«sorted»
  refine wpAny_bind (m := checkCount "sorted" 1 1 _) (wpAny_pure ?_)
  refine wpAny_bind ?_
  refine PySem.W.kdu_collect (PySem.W.kdl_dict (prog := X.prog) (w := X.w) (knd := mixKind X.prog X.w) (kvs := vs) (ep := ep) lo) (inv.ok.hd calm) there (many ▸ small) ?_
  rintro hp tk acc kept ⟨size, each⟩
  have alen : acc.toList.length = ks.length := by rw [Array.length_toList, size, many]
  have isI : IntsAre acc.toList ks := gathered (vs := vs) alen (fun j v hv => by
    obtain ⟨k, x, h1, h2⟩ := each j v (by simpa using hv)
    exact ⟨k, by rw [List.getElem?_map, h1]; rfl, h2⟩) keys
  have fits : acc.toList.length ≤ sizeLine := alen ▸ small
  have inv' : Inv X pins σ H { s with heap := hp, toks := tk } := inv.kept kept
  let hq : Heap := hp.push (seqObj "list" acc.toList.toArray 0)
  have new : hq.get? hp.objs.size = some (seqObj "list" acc.toList.toArray 0) := Heap.get?_push_size _ rfl
  refine wpAny_bind (wpAny_newList ?_ fits)
  show wpAny _ _ _ _ _ { s with heap := hq, toks := tk }
  refine wpAny_bind (wpAny_holding ?_)
  refine wpAny_call_entry slot_list_sort ⟨_, new, rfl⟩ entry_list_sort ?_ (args_list_sort _)
  refine SrtO.list_sort_ord (s := { s with heap := hq, toks := tk }) SrtO.swo_int new fits (fun two => SrtO.ints_sortable isI two) ?_
  intro out o1 o2
  refine ⟨_, rfl, ?_⟩
  obtain ⟨z1, z2, z3⟩ := SrtO.ints_out isI o1 o2
  obtain ⟨ep2, now⟩ := sortedHeap_at (vs := acc.toList) (out := out.toArray) new
  have lim : ((out.map SrtO.iv).map V.int).length ≤ sizeLine := by rw [List.length_map, z2.length_eq]; exact small
  have obj : ObjOk X.prog X.w (upd H hp.objs.size (.lst ((out.map SrtO.iv).map V.int))) (sortedHeap hq hp.objs.size acc.toList out.toArray) hp.objs.size (.lst ((out.map SrtO.iv).map V.int)) := ⟨lim, out, ep2, vals_of_ints z1, now⟩
  refine wpAny_pure ⟨_, rfl, .ref hp.objs.size, _, inv'.laid (t' := tk) (fun b o old => ?_) (Nat.le_refl _) obj, rfl, post _ _ z2 z3 (inv'.hok.fresh (Nat.le_refl _))⟩
  have lt : b < hp.objs.size := Heap.lt_size old
  exact (sortedHeap_old (Nat.ne_of_lt lt) (by rw [size_push']; exact Nat.lt_succ_of_lt lt)).trans (Heap.get?_push_of_some _ old)
def fSortDN (ds : List D) (μ : Mem) : Res (List D) := match ds with
  | [d] => match dictOf μ d with
    | some kds => match intsOf kds, txtsOf kds with
      | some ns, _ => if ns.length ≤ sizeLine then .ok ((sortInts ns).map D.int) μ else .bad
      | none, some xs => if xs.length < 64 then .ok ((sortTxts xs).map D.str) μ else .bad
      | none, none => .bad
    | none => fSortN [d] μ
  | _ => .bad
def rSortU (K : PySem.W.Frag) : List V → Hp → VK → Prop := fun xs H Q => rSortG K xs H Q ∨ (∃ (a : Addr) (kvs : List (Key × V)) (ks : List Int), xs = [.ref a] ∧ Rd H a (.dK kvs) ∧ kvs.map (·.1) = ks.map Sum.inl ∧ ks.length ≤ sizeLine ∧ ∀ (ys : List Int) (p : Addr), ys.Perm ks → ys.Pairwise (· ≤ ·) → H p = none → Q (.ref p) (upd H p (.lst (ys.map V.int)))) ∨
  ∃ (a : Addr) (kvs : List (Key × V)) (ks : List Str), xs = [.ref a] ∧ Rd H a (.dK kvs) ∧ kvs.map (·.1) = ks.map Sum.inr ∧ ks.length < 64 ∧ ∀ (ys : List Str) (p : Addr), ys.Perm ks → PyProof.Rows.sortedS ys = true → H p = none → Q (.ref p) (upd H p (.lst (ys.map V.str)))
theorem cr_sortU {X : Cx} (hc : X.calm = true) (hu : Hu X) : CallR X (.builtin "sorted") (rSortU X.K) := (cr_sortG hu).or ((call_sortedDL hc).or (call_sortedD hc))
theorem dvs_ints {K : PySem.W.Frag} {ρ : List Addr} {H : Hp} : ∀ ns : List Int, DVs K ρ H (ns.map D.int) (ns.map V.int)
  | [] => .nil
  | _ :: r => .cons dv_int (dvs_ints r)
theorem dvs_strs {K : PySem.W.Frag} {ρ : List Addr} {H : Hp} : ∀ ns : List Str, DVs K ρ H (ns.map D.str) (ns.map V.str)
  | [] => .nil
  | _ :: r => .cons dv_str (dvs_strs r)
theorem KDs.keys {K : PySem.W.Frag} {ρ : List Addr} {H : Hp} {κ : Type} : ∀ {a : List (κ × D)} {b : List (κ × V)}, KDs K ρ H a b → b.map (·.1) = a.map (·.1)
  | _, _, .nil => rfl
  | _, _, .cons h t => by rw [List.map_cons, List.map_cons, KDs.keys t, h.1]
theorem cn_sortU {K : PySem.W.Frag} : CallN K (rSortU K) fSortDN := by
  intro ds ρ μ H xs Q E rel dv ok
  unfold fSortDN at ok
  split at ok
  · rename_i d
    split at ok
    · rename_i kds hk
      obtain ⟨v, rfl, dv1⟩ := dv.one
      obtain ⟨n, a, kvs, rfl, r1, rfl, r2, r3, r4⟩ := dictOf_ok rel dv1 hk
      split at ok
      · rename_i ns hn
        split at ok
        · rename_i hl
          refine .inr (.inl ⟨a, kvs, ns, rfl, lk_rd r3, (KDs.keys r4).trans (intsOf_ok hn), hl, fun ys p h1 h2 hp => ?_⟩)
          have e := sortInts_unique h1 h2
          subst e
          exact OkN.new rel hp (dvs_ints _) ok
        · exact ok.elim
      · rename_i ns hn0 hn
        split at ok
        · rename_i hl
          refine .inr (.inr ⟨a, kvs, ns, rfl, lk_rd r3, (KDs.keys r4).trans (txtsOf_ok hn), hl, fun ys p h1 h2 hp => ?_⟩)
          have e := sortTxts_unique h1 h2
          subst e
          exact OkN.new rel hp (dvs_strs _) ok
        · exact ok.elim
      · exact ok.elim
    · exact .inl (cn_sort _ ρ μ H _ Q E rel dv ok)
  · exact ok.elim
end Doz
end
section
namespace PySem
namespace DozX
open PySem.W PySem.Calls PyProof.Rows L2
structure KyS (X : Cx) (H H' : Hp) (s0 s : Shared) : Prop where
  os : s.os = s0.os
  bare : AllBare s.gens
  un : Un (frs X.stack) [] H H' s0.heap s.heap
  hok : HOk X.prog X.w H' s.heap
theorem un_late {fs : List Addr} {H H' : Hp} {h h2 h3 : Heap} (u : Un fs [] H H' h h2) (k : ∀ b o, b < h.objs.size → h2.get? b = some o → h3.get? b = some o) : Un fs [] H H' h h3 where
  keep := fun b o e n hf hx => k b o (Heap.lt_size e) (u.keep b o e n hf hx)
  slot := fun b o e n hf hx => by
    obtain ⟨sl, q⟩ := u.slot b o e n hf hx
    exact ⟨sl, k b _ (Heap.lt_size e) q⟩
  free := u.free
  there := fun b o e hx => by
    obtain ⟨o', q⟩ := u.there b o e hx
    exact ⟨o', k b o' (Heap.lt_size e) q⟩
  tups := u.tups
  frzs := u.frzs
  tbls := u.tbls
theorem hok_but {P : Program} {w : World} {H : Hp} {h h' : Heap} (x : HOk P w H h) (k : ∀ b o u, H b = some u → h.get? b = some o → h'.get? b = some o) : HOk P w H h' := fun b u e =>
  (x b u e).stay (fun c v hc q => hc.elim (fun z => k c v u (by rw [z]; exact e) q) (fun z => k c v _ z q)) (fun _ q => q) fun _ _ q => q
theorem each_reads {h : Heap} : ∀ {vs : List Value} {ds : List PyData} {as : List Addr}, ReadsAll h vs ds as → EachIs (fun v d => ∃ as, Reads h v d as) vs ds
  | _, [], _, .nil => .nil
  | _, _ :: _, _, .cons h1 h2 => .cons ⟨_, h1⟩ (each_reads h2)
section
variable {X : Cx} {pins : List (Addr × Obj)} {σ : L2.St} {H : Hp} {s0 : Shared} {A : Around} {E : Value → Shared → Prop} {P : PySem.Fin → Shared → Prop} {a kS : Addr} {vs : List Value} {e1 : Nat} {kz : List PyData} {f : Value}
theorem ky_rest (I0 : Inv X pins σ H s0) (zk : s0.heap.objs.size ≤ kS) (za : s0.heap.objs.size ≤ a) (hka : kS ≠ a) (J : Nat → List V → Hp → Prop) {s : Shared} (ks0 : KyS X H H s0 s) (nk : s.heap.get? kS = some (seqObj "list" #[] 0)) (na : s.heap.get? a = some (seqObj "list" #[] e1))
    (j0 : J 0 [] H) (hZ : vs.length ≤ sizeLine)
    (turn : ∀ (i : Nat) (v : Value) (ks : List V) (H' : Hp) (pins' : List (Addr × Obj)) (s' : Shared), vs[i]? = some v → J i ks H' → Inv X pins' σ H' s' →
      wpAny (model X.prog X.w) A (call f [v]) (CE X.stack X.prog X.w H' s' fun kv H2 => J (i + 1) (ks ++ [kv]) H2) (fun _ _ => False) s')
    (hz : ∀ ks H', J vs.length ks H' → DpAll X.K H' ks kz) (hl : kz.length = vs.length) (hal : AllAlike kz) (hsk : Sortable kz) (hu : ∀ d, d ∈ kz → A.units + d.depth < cLine)
    (fin : ∀ (ks : List V) (H' : Hp) (s' : Shared) (c : Nat) (out : List Value), J vs.length ks H' → KyS X H H' s0 s' → H' a = none → s'.heap.get? a = some (seqObj "list" out.toArray c) → KeyedOut false kz vs out → P (.done (.ret .none)) s') :
    wpAny (model X.prog X.w) A (ksk_rest a f false vs.toArray e1 (.ref kS)) P E s := by
  have hHk : H kS = none := I0.hok.fresh zk
  have hHa : H a = none := I0.hok.fresh za
  have hL := I0.lt
  have new_ : ∀ b, s0.heap.objs.size ≤ b → b ≠ X.env.locals ∧ b ∉ X.fs := fun b hb => ⟨fun z => Nat.ne_of_gt (Nat.lt_of_lt_of_le hL hb) z, I0.nofs hb⟩
  unfold ksk_rest
  refine wpAny_bind (wpAny_rule ?_)
  rw [← Array.forIn_toList]
  refine wpAny_bind (ksk_fold (fun i t => ∃ H' kA ep ks, KyS X H H' s0 t ∧ t.heap.get? kS = some (seqObj "list" kA ep) ∧ t.heap.get? a = some (seqObj "list" #[] e1) ∧ H' kS = none ∧ H' a = none ∧ J i ks H' ∧ Vals ks kA.toList ∧ ks.length = i) vs 0 s
    ⟨H, #[], 0, [], ks0, nk, na, hHk, hHa, j0, .nil, rfl⟩ ?step ?done)
  case step =>
    rintro j x t hx ⟨H', kA, ep, ks, ky, nk', na', nHk, nHa, hj, hv, hlen⟩
    rw [Nat.zero_add] at hj hlen ⊢
    have I1 : Inv X pins σ H' t := I0.call' ky.os ky.un ky.hok ky.bare (fun b hb => by cases hb)
    have I2 : Inv X (pins ++ [(kS, seqObj "list" kA ep), (a, seqObj "list" #[] e1)]) σ H' t := I1.pins_of fun p hp => by
      rcases List.mem_append.mp hp with h | h
      · exact I1.pin p (List.mem_append_right _ h)
      · simp only [List.mem_cons, List.not_mem_nil, or_false] at h
        rcases h with rfl | rfl
        · exact ⟨nk', nHk, (new_ kS zk).1, (new_ kS zk).2, fun _ => Data.noConfusion⟩
        · exact ⟨na', nHa, (new_ a za).1, (new_ a za).2, fun _ => Data.noConfusion⟩
    refine wpAny_bind (wpAny_attempt (wpAny_mono (turn j x ks H' _ t hx hj I2) (fun u t2 hce => ?_) fun _ _ z => z.elim))
    obtain ⟨kv, H2, os2, bare2, un2, hok2, ru, hj2⟩ := hce
    have I3 := I2.call' os2 un2 hok2 bare2 (fun b hb => by cases hb)
    obtain ⟨nk2, nHk2, _⟩ := I3.pin (kS, seqObj "list" kA ep) (by simp)
    obtain ⟨na2, nHa2, _⟩ := I3.pin (a, seqObj "list" #[] e1) (by simp)
    have nk2 : t2.heap.get? kS = some (seqObj "list" kA ep) := nk2
    have na2 : t2.heap.get? a = some (seqObj "list" #[] e1) := na2
    have hj3 : j < vs.length := (List.getElem?_eq_some_iff.mp hx).1
    have hkA : kA.size = j := by rw [← Array.length_toList, ← hv.length]; exact hlen
    have lt0 : ∀ b : Nat, b < s0.heap.objs.size → b ≠ kS := fun b hb => Nat.ne_of_lt (Nat.lt_of_lt_of_le hb zk)
    obtain ⟨c2, hc2⟩ : ∃ c2, (t2.heap.update kS (Obj.mapSeq (·.push u))).get? kS = some (seqObj "list" (kA.push u) c2) := ⟨_, get?_update_seq nk2 (·.push u)⟩
    try dsimp only
    refine wpAny_bind (listUpdate_at nk2 rfl ?_ (by rw [hkA]; exact Nat.le_trans (Nat.le_of_lt hj3) hZ) (by rw [Array.size_push, hkA]; exact Nat.succ_le_succ (Nat.le_trans (Nat.le_of_lt hj3) hZ)))
    have keepO : ∀ b o, b ≠ kS → t2.heap.get? b = some o → (t2.heap.update kS (Obj.mapSeq (·.push u))).get? b = some o := fun b o hb q => (Heap.get?_update_ne t2.heap b kS _ hb).trans q
    refine wpAny_pure ⟨rfl, H2, kA.push u, c2, ks ++ [kv], ⟨os2.trans ky.os, bare2, un_late (ky.un.trans un2) (fun b o hb q => keepO b o (lt0 b hb) q), hok_but hok2 (fun b o w' e q => keepO b o (fun z => by rw [z, nHk2] at e; cases e) q)⟩,
      hc2, keepO a _ (Ne.symm hka) na2, nHk2, nHa2, hj2, by rw [Array.toList_push]; exact hv.append (.cons ru .nil), by rw [List.length_append, hlen]; rfl⟩
  case done =>
    rintro t ⟨H', kA, ep, ks, ky, nk', na', nHk, nHa, hj, hv, hlen⟩
    rw [Nat.zero_add] at hj hlen
    have I1 : Inv X pins σ H' t := I0.call' ky.os ky.un ky.hok ky.bare (fun b hb => by cases hb)
    obtain ⟨as, hr⟩ := Dp.readsAll I1 kz ks kA.toList (hz ks H' hj) hv
    have hk' := each_reads hr
    have hsz : kA.size = vs.length := by
      rw [← Array.length_toList, hk'.length]; exact hl
    try dsimp only
    refine wpAny_bind (listItems_at nk' rfl ?_)
    have same := Heap.SameBut.update t.heap kS (fun o => { o with data := .freed })
    have kp : KeepsBut a (t.heap.update kS fun o => { o with data := .freed }) t.heap := fun b o hb e => by
      by_cases z : b = kS
      · subst z; rw [PyProof.Rows.TI.get?_update_freed] at e; cases e
      · rw [same.2 b z] at e; exact e
    refine keyH_end (κ := dataKind t.heap kz) (h₁ := t.heap.update kS fun o => { o with data := .freed }) kp (PyProof.Rows.TI.get?_update_freed _ _) nk' na' hka (SortsAt.data (s := t) hk' hal hsk hu) hsz hZ fun h3 tk3 c k3 n3 => ?_
    have keep3 : ∀ b o, b ≠ kS → b ≠ a → t.heap.get? b = some o → h3.get? b = some o := fun b o h1 h2 q => k3 b o h2 (by rw [same.2 b h1]; exact q)
    refine fin ks H' _ c _ hj ⟨ky.os, ky.bare, un_late ky.un (fun b o hb q => keep3 b o (Nat.ne_of_lt (Nat.lt_of_lt_of_le hb zk)) (Nat.ne_of_lt (Nat.lt_of_lt_of_le hb za)) q), hok_but ky.hok (fun b o w' e q => keep3 b o (fun z => by rw [z, nHk] at e; cases e) (fun z => by rw [z, nHa] at e; cases e) q)⟩ nHa n3 ⟨t.heap, kA.toList, hal, rfl, hk'⟩
theorem ky_sorted {l q : Addr} {E : Value → Shared → Prop} {Q : Value → Shared → Prop} (I0 : Inv X pins σ H s0) (J : Nat → List V → Hp → Prop) (hl : s0.heap.IsList l vs.toArray) (j0 : J 0 [] H) (hZ : vs.length ≤ sizeLine)
    (turn : ∀ (i : Nat) (v : Value) (ks : List V) (H' : Hp) (pins' : List (Addr × Obj)) (s' : Shared), vs[i]? = some v → J i ks H' → Inv X pins' σ H' s' →
      wpAny (model X.prog X.w) A.in1.in1 (call (.ref q) [v]) (CE X.stack X.prog X.w H' s' fun kv H2 => J (i + 1) (ks ++ [kv]) H2) (fun _ _ => False) s')
    (hz : ∀ ks H', J vs.length ks H' → DpAll X.K H' ks kz) (hkl : kz.length = vs.length) (hal : AllAlike kz) (hsk : Sortable kz) (hu : ∀ d, d ∈ kz → A.units + 2 + d.depth < cLine)
    (fin : ∀ (ks : List V) (H' : Hp) (s' : Shared) (c : Nat) (out : List Value), J vs.length ks H' → KyS X H H' s0 s' → H' (s0.heap.objs.size + 1) = none → s'.heap.get? (s0.heap.objs.size + 1) = some (seqObj "list" out.toArray c) → KeyedOut false kz vs out → Q (.ref (s0.heap.objs.size + 1)) s') :
    wpAny (model X.prog X.w) A (call (.builtin "sorted") [.ref l] [(Str.ofString "key", .ref q)]) Q E s0 := by
  refine sorted_of_sort hl hZ (ksk_s1 _ _) (fun x => by unfold argsOk; kernel_rfl) fun E' => ?_
  rw [ksk_t1]
  have hAt : (copyHeap s0.heap vs).get? (s0.heap.objs.size + 1) = some (seqObj "list" vs.toArray 0) := copyHeap_at s0.heap vs
  obtain ⟨ep, hEp⟩ : ∃ ep, ((copyHeap s0.heap vs).update (s0.heap.objs.size + 1) (Obj.mapSeq fun _ => (#[] : Array Value))).get? (s0.heap.objs.size + 1) = some (seqObj "list" #[] ep) := ⟨_, get?_update_seq hAt fun _ => #[]⟩
  have hSz : (((copyHeap s0.heap vs).update (s0.heap.objs.size + 1) (Obj.mapSeq fun _ => (#[] : Array Value))).push (seqObj "tuple" vs.toArray 0)).objs.size = (copyHeap s0.heap vs).objs.size + 1 := by rw [size_push', Heap.size_update]
  have hlt : s0.heap.objs.size + 1 < (copyHeap s0.heap vs).objs.size := Heap.lt_size hAt
  unfold ksk_tree
  refine wpAny_bind (listItems_at hAt rfl (wpAny_bind (listUpdate_at hAt rfl (wpAny_bind (seqEpoch_at hEp rfl (wpAny_bind (wpAny_newTuple (wpAny_bind (wpAny_newList (wpAny_holding ?_) (Nat.zero_le _))) (show vs.length ≤ _ from hZ))))) (by rw [List.size_toArray]; exact hZ) (Nat.zero_le _))))
  have old : ∀ b o, s0.heap.get? b = some o → (sortingHeap (copyHeap s0.heap vs) (s0.heap.objs.size + 1) vs).get? b = some o := fun b o e => sortingHeap_old (Nat.ne_of_lt (Nat.lt_succ_of_lt (Heap.lt_size e))) (copyHeap_old e)
  refine ky_rest (kz := kz) (kS := (((copyHeap s0.heap vs).update (s0.heap.objs.size + 1) (Obj.mapSeq fun _ => (#[] : Array Value))).push (seqObj "tuple" vs.toArray 0)).objs.size) I0 (by rw [hSz]; exact Nat.le_succ_of_le (Nat.le_of_lt (Nat.lt_of_succ_lt hlt))) (Nat.le_succ _) (by rw [hSz]; exact Nat.ne_of_gt (Nat.lt_succ_of_lt hlt)) J ⟨rfl, I0.bare, Un.kept old, I0.hok.kept old⟩
    (Heap.get?_push_size _ rfl) (Heap.get?_push_of_some _ (Heap.get?_push_of_some _ hEp)) j0 hZ turn hz hkl hal hsk (fun d hd => hu d hd) fun ks H' s' c out h1 h2 h3 h4 h5 => ⟨rfl, fin ks H' s' c out h1 h2 h3 h4 h5⟩
end
end DozX
end PySem
end
section
namespace Doz
open PySem L2
def PuR {α : Type} (r : Mem → Res α) : Prop := ∀ μ a μ', r μ = .ok a μ' → μ' = μ
def PuE {α : Type} (m : MX α) : Prop := ∀ δ, PuR (m δ)
def PuF (m : MF) : Prop := ∀ ds, PuR (m ds)
def PuS (m : MS) : Prop := ∀ δ μ, (∀ d μ', m δ μ = .rt d μ' → μ' = μ) ∧ ∀ δ' μ', m δ μ = .nx δ' μ' → μ' = μ
theorem pu_bind {α β : Type} {m : MX α} {k : α → MX β} (h : PuE m) (hk : ∀ a, PuE (k a)) : PuE (bindM m k) := fun δ μ b μ' e => by
  unfold bindM at e
  cases h1 : m δ μ with
  | ok a μ1 =>
    rw [h1] at e
    have := h δ μ a μ1 h1
    subst this
    exact hk a δ _ b μ' e
  | err C w μ1 => rw [h1] at e; cases e
  | bad => rw [h1] at e; cases e
theorem pu_var (i : Nat) : PuE (mvar i) := fun δ μ a μ' e => by
  unfold mvar at e
  split at e
  · cases e; rfl
  · cases e
theorem pu_C (d : D) : PuE (mC d) := fun δ μ a μ' e => by cases e; rfl
theorem pu_nil : PuE mnil := fun δ μ a μ' e => by cases e; rfl
theorem pu_ok {α β : Type} (f : α → β) (a : α) : PuE (fun _ μ => .ok (f a) μ : MX β) := fun δ μ b μ' e => by cases e; rfl
theorem pu_cons {a : ME} {r : MX (List D)} (h1 : PuE a) (h2 : PuE r) : PuE (mcons a r) := pu_bind h1 fun x => pu_bind h2 fun xs => fun δ μ b μ' e => by cases e; rfl
def PuO (f : D → D → Mem → Res D) : Prop := ∀ d e, PuR (f d e)
def PuB (f : D → D → Mem → Res Bool) : Prop := ∀ d e, PuR (f d e)
theorem pu_op {f : D → D → Mem → Res D} {a b : ME} (hf : PuO f) (h1 : PuE a) (h2 : PuE b) : PuE (mop f a b) := pu_bind h1 fun x => pu_bind h2 fun y => fun δ => hf x y
theorem pu_sub : PuO fSub := fun d e μ r μ' h => by
  unfold fSub at h
  split at h
  · cases h; rfl
  · cases h
theorem pu_ix : PuO fIx := fun d e μ r μ' h => by
  unfold fIx at h
  repeat' split at h
  all_goals first | (cases h; done) | (cases h; rfl)
theorem pu_fld {f : Str} {m : ME} (h : PuE m) : PuE (mfld f m) := pu_bind h fun d => fun δ μ r μ' e => by
  unfold fFld at e
  repeat' split at e
  all_goals first | (cases e; done) | (cases e; rfl)
theorem pu_tup {m : MX (List D)} (h : PuE m) : PuE (mtup m) := pu_bind h fun ds => fun δ μ r μ' e => by
  split at e
  · cases e; rfl
  · cases e
theorem pu_resbind {α β : Type} {r : Res α} {k : α → Mem → Res β} {μ : Mem} {b : β} {μ' : Mem} (h : ∀ a μ1, r = .ok a μ1 → μ1 = μ) (hk : ∀ a, k a μ = .ok b μ' → μ' = μ) (e : r.bind k = .ok b μ') : μ' = μ := by
  cases r with
  | ok a μ1 =>
    have := h a μ1 rfl
    subst this
    exact hk a e
  | err C w μ1 => cases e
  | bad => cases e
theorem pu_get2 {mo mk mz : ME} (h1 : PuE mo) (h2 : PuE mk) (h3 : PuE mz) : PuE (mget2 mo mk mz) := pu_bind h1 fun d => fun δ μ r μ' e => by
  split at e
  · refine pu_resbind (h2 δ μ) (fun k e => pu_resbind (h3 δ μ) (fun z e => ?_) e) e
    split at e
    · cases e; rfl
    · cases e
  · cases e
theorem pu_pos {m : MX (List D)} (h : PuE m) : PuE (mpos m) := pu_bind h fun ds => fun δ μ r μ' e => by cases e; rfl
theorem pu_noa : PuE mnoa := fun δ μ a μ' e => by cases e; rfl
theorem pu_mth {nm : Str} {n l : Nat} {T : Addr → Option MM} {mo : ME} {ma : MX (List D × List D)} (h1 : PuE mo) (h2 : PuE ma) (hT : ∀ C mm, T C = some mm → ∀ x ds ez, PuR (mm x ds ez)) : PuE (mmth nm n l T mo ma) := pu_bind h1 fun d => fun δ μ r μ' e => by
  split at e
  · rename_i C fs hi
    split at e
    · split at e
      · rename_i mm hm
        refine pu_resbind (h2 δ μ) (fun a e => ?_) e
        split at e
        · exact hT C mm hm _ _ _ μ r μ' e
        · cases e
      · cases e
    · cases e
  · cases e
theorem pu_ret {m : ME} (h : PuE m) : PuS (mret m) := fun δ μ => by
  unfold mret ofE
  cases e : m δ μ with
  | ok a μ1 =>
    have := h δ μ a μ1 e
    subst this
    exact ⟨fun d μ' z => (by cases z; rfl), fun δ' μ' z => (by cases z)⟩
  | err C w μ1 => exact ⟨fun d μ' z => (by cases z), fun δ' μ' z => (by cases z)⟩
  | bad => exact ⟨fun d μ' z => (by cases z), fun δ' μ' z => (by cases z)⟩
theorem pu_run {n : Nat} {t : MS} (h : PuS t) : PuF (runB n t) := fun ds μ a μ' e => by
  unfold runB at e
  have hh := h (startD n ds) μ
  split at e
  · rename_i δ1 μ1 h1; cases e; exact hh.2 _ _ h1
  · rename_i d μ1 h1; cases e; exact hh.1 _ _ h1
  · cases e
  · cases e
theorem pt_nil : ∀ p ∈ ([] : List (Addr × MM)), ∀ x ds ez, PuR (p.2 x ds ez) := fun _ h => by cases h
theorem pt_cons {C : Addr} {mm : MM} {l : List (Addr × MM)} (h : ∀ x ds ez, PuR (mm x ds ez)) (t : ∀ p ∈ l, ∀ x ds ez, PuR (p.2 x ds ez)) : ∀ p ∈ (C, mm) :: l, ∀ x ds ez, PuR (p.2 x ds ez) := fun p hp => by
  rcases List.mem_cons.mp hp with e | hp
  · rw [e]; exact h
  · exact t p hp
theorem pt_of {l : List (Addr × MM)} (t : ∀ p ∈ l, ∀ x ds ez, PuR (p.2 x ds ez)) : ∀ C mm, l.lookup C = some mm → ∀ x ds ez, PuR (mm x ds ez) := fun C mm h => t (C, mm) (look_mem h)
structure KOk (X : Cx) (nm : Str) (C : Addr) (m : MF) : Prop where
  ex : ∃ k f fd ps, Cls X.K C ∧ BMeth X.K C nm f ∧ FnOk X.prog X.w X.K X.mg X.base (L2.CX X.prog X.w) k f fd ps (spM X.K ps.length m) ∧ Room (k + 2) X.A ∧ Bd X.K fd ps 2 [] (fun ds _ => ds) ∧ PuF m
def keyL (m : MF) (d : D) (μ : Mem) (x : D) : Option D := match m [d, x] μ with
  | .ok k _ => some k
  | _ => none
theorem keyL_ok {m : MF} (hp : PuF m) {d : D} {μ : Mem} {x k : D} (h : keyL m d μ x = some k) : m [d, x] μ = .ok k μ := by
  unfold keyL at h
  split at h
  · rename_i k' μ' e
    cases h
    rw [e, hp _ _ _ _ e]
  · cases h
def msortK (nm : Str) (T : Addr → Option MF) (me mo : ME) : MX (List D) := bindM me fun xs => bindM mo fun d => fun _ μ => match lstOf μ xs, insOf μ d with
  | some ds, some (C, fs) => if noFld fs nm = true then match T C with
      | some m => match ds.mapM (keyL m d μ) with
        | some ks => match ks.mapM (rsv μ 8) with
          | some ps => if keysOk ps = true then .ok (sortBy (ds.zip ps)) μ else .bad
          | none => .bad
        | none => .bad
      | none => .bad
    else .bad
  | _, _ => .bad
def rSortK (X : Cx) : List V → List V → Hp → VK → Prop := fun vs zs H Q => ∃ (l q a f : Addr) (m : MF) (ρ : List Addr) (μ : Mem) (xs : List V) (ds ks ps : List D) (d : D), vs = [.ref l] ∧ zs = [.ref q] ∧ H q = some (.met f a) ∧ q ∉ ρ ∧
  (∃ k fd pn, FnOk X.prog X.w X.K X.mg X.base (L2.CX X.prog X.w) k f fd pn (spM X.K pn.length m) ∧ Room (k + 2) X.A ∧ Bd X.K fd pn 2 [] (fun ds _ => ds)) ∧ PuF m ∧
  LsR X.K H l xs ∧ Rel X.K ρ μ H ∧ DVs X.K ρ H ds xs ∧ DV X.K ρ H d (.ref a) ∧ ds.mapM (keyL m d μ) = some ks ∧ ks.mapM (rsv μ 8) = some ps ∧ keysOk ps = true ∧
  ∀ H' p, Fz ρ ρ H H' → Rel X.K ρ μ H' → H p = none → H' p = none → Q (.ref p) (upd H' p (.lst (sortBy (xs.zip ps))))
theorem mapM_get {α β : Type} {f : α → Option β} : ∀ {xs : List α} {ys : List β} {i : Nat} {x : α}, xs.mapM f = some ys → xs[i]? = some x → ∃ y, ys[i]? = some y ∧ f x = some y
  | [], ys, i, x, h, e => by simp at e
  | x :: xs, ys, i, z, h, e => by
    obtain ⟨y, r, h1, h2, rfl⟩ := mapM_cons_some h
    cases i with
    | zero => simp at e; subst e; exact ⟨y, rfl, h1⟩
    | succ i => simpa using mapM_get (i := i) h2 (by simpa using e)
theorem pre_same {ρ ρ' : List Addr} (p : Pre ρ ρ') (h : ρ'.length = ρ.length) : ρ' = ρ := by
  refine List.ext_getElem? fun i => ?_
  cases e : ρ[i]? with
  | some a => exact p i a e
  | none => rw [List.getElem?_eq_none_iff] at e ⊢; omega
theorem dps {K : PySem.W.Frag} {ρ : List Addr} {μ : Mem} {H : Hp} (rel : Rel K ρ μ H) {ks ps : List D} {vs : List V} (h : ks.mapM (rsv μ 8) = some ps) (hd : DVs K ρ H ks vs) : DpAll K H vs (toPys ps) := rsvs_dp (fun d p v => rsv_dp rel 8 d p v) h hd
theorem cr_sortK {X : Cx} (hu : Hu X) : CallRK X (.builtin "sorted") [Str.ofString "key"] (rSortK X) := by
  intro pins s σ H vs zs us ws Q I r rz h
  obtain ⟨l, q, a, f, m, ρ, μ, xs, ds, ks, ps, d, rfl, rfl, hq, hqn, ⟨k, fd, pn, F, hr, hb⟩, hp, hl, rel, hd, hda, hks, hps, hok, fin⟩ := h
  rw [Vals.ref1 r, Vals.ref1 rz]
  obtain ⟨its, rv, hlst, hz⟩ := I.list hl.sq
  have hkl := mapM_len hks
  have hpl := mapM_len hps
  have hxl := hd.length
  unfold keysOk at hok
  simp only [Bool.and_eq_true] at hok
  obtain ⟨k1, k2, k3, k4⟩ := hok
  have hz1 : ((xs.zip ps).map (·.1)) = xs := List.map_fst_zip (by omega)
  have hz2 : ((xs.zip ps).map (·.2)) = ps := List.map_snd_zip (by omega)
  have ea : (xs.zip ps).map (fun b => toPy b.2) = ps.map toPy := by rw [← hz2, List.map_map, hz2]; rfl
  have eb : toPys ps = ps.map toPy := by
    clear fin k1 k2 k3 k4 hz1 hz2 ea hpl hps
    induction ps with
    | nil => rfl
    | cons p r ih => rw [toPys, List.map_cons, ih]
  refine PySem.DozX.ky_sorted (kz := (xs.zip ps).map fun b => toPy b.2) I (fun i kvs H' => Fz ρ ρ H H' ∧ Rel X.K ρ μ H' ∧ DVs X.K ρ H' (ks.take i) kvs) hlst.isList ⟨Fz.refl _, rel, by rw [List.take_zero]; exact .nil⟩ (by rw [← rv.length]; exact hz) ?_ ?_ ?_ (by rw [ea]; exact alikeB_ok k2) (by rw [ea]; exact sortB_ok k1 k3) ?_ ?_
  · rintro i v kvs H' pins' s' hv ⟨fz, rel', hdk⟩ I'
    obtain ⟨xv, hxv, rxv⟩ : ∃ xv, xs[i]? = some xv ∧ RelV xv v := by
      have hi : i < its.length := (List.getElem?_eq_some_iff.mp hv).1
      rw [← rv.length] at hi
      obtain ⟨u, e2, ru⟩ := rv.get (List.getElem?_eq_getElem hi)
      rw [hv] at e2
      cases e2
      exact ⟨_, List.getElem?_eq_getElem hi, ru⟩
    obtain ⟨dx, hdx, ddx⟩ := hd.getv hxv
    obtain ⟨kd, hkd, hkey⟩ := mapM_get hks hdx
    have hm := keyL_ok hp hkey
    obtain ⟨g, gV, kb, hg⟩ := hb.ex
    have hq' : H' q = some (.met f a) := fz.keep q _ hqn hq
    obtain ⟨dv, dl⟩ := hg ρ H' [d, dx] [.ref a, xv] [] [] (.cons (hda.mono (Pre.refl _) fz) (.cons (ddx.mono (Pre.refl _) fz) .nil)) .nil rfl rfl
    have r2 := kb.rel (vs := [.ref a, xv]) (us := [.ref a, v]) (zs := []) (ws := []) (.cons rfl (.cons rxv .nil)) .nil
    refine wpAny_call (call_met I' hq' (codeAny_mono (F.run X.A.in1.in1 X.stack s' H' ⟨[.ref a, v], []⟩ (g [.ref a, v] []) (gV [.ref a, xv] []) (fun kv H2 => Fz ρ ρ H H2 ∧ Rel X.K ρ μ H2 ∧ DVs X.K ρ H2 (ks.take (i + 1)) (kvs ++ [kv])) (fun _ _ _ => False) hr.in1.in1 I'.env0.in1.in1 (kb.to s' [.ref a, v] [] I'.kIn rfl rfl) r2 ⟨ρ, μ, [d, dx], dl, rel', dv, ?_⟩) fun res t hq => ?_))
    · rw [hm]
      intro ρ2 H2 kv p2 f2 rel2 dk2
      have e : ρ2 = ρ := pre_same p2 (by rw [rel2.len, rel'.len])
      subst e
      refine ⟨fz.trans f2, rel2, ?_⟩
      rw [List.take_add_one, hkd]
      exact (hdk.mono (Pre.refl _) f2).app (.cons dk2 .nil)
    · cases res with
      | error e =>
        obtain ⟨_, _, _, _, _, _, _, _, _, _, _, _, z⟩ := hq
        exact z.elim
      | ok fl =>
        cases fl with
        | ret u => exact hq
        | next => exact False.elim hq
        | brk => exact False.elim hq
        | cont => exact False.elim hq
  · rintro kvs H' ⟨fz, rel', hdk⟩
    rw [ea, ← eb]
    refine dps rel' hps ?_
    rwa [List.take_of_length_le (by rw [hkl, hxl, rv.length]; exact Nat.le_refl _)] at hdk
  · rw [List.length_map, List.length_zip, ← rv.length]; omega
  · intro dd hdd
    rw [ea] at hdd
    obtain ⟨p, hpm, rfl⟩ := List.mem_map.mp hdd
    have := of_decide_eq_true (List.all_eq_true.mp k4 p hpm)
    have h3 : X.A.units + 100 < cLine := hu
    omega
  · rintro kvs H' t c out ⟨fz, rel', hdk⟩ ky hpn hAt hout
    have e0 := each_vals (ys := xs.zip ps) (us := its) (by rw [hz1]; exact rv)
    have h2 := PySem.W.keyedOut_each (fun b : V × D => toPy b.2) hout e0
    have h3 := vals_each h2
    have hlen : (sortBy (xs.zip ps)).length ≤ sizeLine := by
      show (List.map _ _).length ≤ sizeLine
      rw [List.length_map, List.length_mergeSort, List.length_zip]; omega
    have ne : ∀ b o, H' b = some o → b ≠ s.heap.objs.size + 1 := fun b o e z => by rw [z, hpn] at e; cases e
    have un : Un (frs X.stack) [] H (upd H' (s.heap.objs.size + 1) (.lst (sortBy (xs.zip ps)))) s.heap t.heap :=
      ⟨ky.un.keep, ky.un.slot, fun b o e n hx => by rw [upd_ne (Nat.ne_of_lt (Nat.lt_succ_of_lt (Heap.lt_size e)))]; exact ky.un.free b o e n hx, ky.un.there, fun b ys e => by
        have q := ky.un.tups b ys e
        rw [upd_ne (ne _ _ q)]; exact q, fun b o u e => by
        have q := ky.un.frzs b o u e
        rw [upd_ne (ne _ _ q)]; exact q, fun b ps e => by
        obtain ⟨more, q⟩ := ky.un.tbls b ps e
        exact ⟨more, by rw [upd_ne (ne _ _ q)]; exact q⟩⟩
    have hk : HOk X.prog X.w (upd H' (s.heap.objs.size + 1) (.lst (sortBy (xs.zip ps)))) t.heap := fun b o e => by
      by_cases hb : b = s.heap.objs.size + 1
      · subst hb
        rw [upd_same] at e
        cases e
        exact ⟨hlen, out, c, h3, hAt⟩
      · rw [upd_ne hb] at e
        exact (ky.hok b o e).stay (fun _ _ _ q => q) (fun b2 q => by rw [upd_ne (ne _ _ q)]; exact q) fun b2 _ q => by rw [upd_ne (ne _ _ q)]; exact q
    exact ⟨.ref _, _, I.call' ky.os un hk ky.bare (fun b hb => by cases hb), rfl, fin H' _ fz rel' (I.hok.fresh (Nat.le_succ _)) hpn⟩
section
variable {X : Cx} {hx : Option HX} {W : WX} {e o : Expr} {nm : Str} {me mo : ME} {p pos apos kpos : Pos}
def tBm (X : Cx) (nm : Str) (to : TE) : TE := fun σ H Q => to σ H fun x H1 => ∃ a C dx fs f, x = .ref a ∧ H1 a = some (.ins C dx fs) ∧ Cls X.K C ∧ BMeth X.K C nm f ∧ fs.lookup nm = none ∧ ∀ q, H1 q = none → Q (.ref q) (upd H1 q (.met f a))
theorem pe_bm' {to : TE} (ho : PE X o to) (hb : attributeBase o nm X.env (eval o X.env) = eval o X.env := by rfl) : PE X (.Attribute o nm apos) (tBm X nm to) := by
  refine ⟨fun pins s σ H Q I h => ?_⟩
  refine attr_of hb (thn (ho.run pins s σ H _ I h) fun u s1 ⟨x, H1, I1, rx, a, C, dx, fs, f, ex, ea, c, bm, l, q⟩ => ?_)
  subst ex
  exact op_getbound I1 ea c bm l rx q
theorem kt_nil {X : Cx} {nm : Str} : ∀ p ∈ ([] : List (Addr × MF)), KOk X nm p.1 p.2 := fun _ h => by cases h
theorem kt_cons {X : Cx} {nm : Str} {C : Addr} {m : MF} {l : List (Addr × MF)} (h : KOk X nm C m) (t : ∀ p ∈ l, KOk X nm p.1 p.2) : ∀ p ∈ (C, m) :: l, KOk X nm p.1 p.2 := fun p hp => by
  rcases List.mem_cons.mp hp with e | hp
  · rw [e]; exact h
  · exact t p hp
theorem kt_of {X : Cx} {nm : Str} {l : List (Addr × MF)} (t : ∀ p ∈ l, KOk X nm p.1 p.2) : ∀ C m, l.lookup C = some m → KOk X nm C m := fun C m h => t (C, m) (look_mem h)
theorem rn_sortK (hu : Hu X) (T : Addr → Option MF) (hT : ∀ C m, T C = some m → KOk X nm C m) (hm : X.mg "sorted" = none) (he : RE X hx W e me) (ho : RE X hx W o mo) (hg : Gl X "sorted" := by rfl) (hb : attributeBase o nm X.env (eval o X.env) = eval o X.env := by rfl)
    (hs : starEach [e] X.env = (false, eval e X.env) :: starEach [] X.env := by rfl)
    (h1 : backTo pos (starEach [e] X.env) = (false, eval e X.env) :: backTo pos (starEach [] X.env) := by rfl) (h2 : (backTo pos (starEach [e] X.env)).any (·.1) = false := by rfl)
    (h3 : (backToKw pos (keywordEach [⟨some "key", .Attribute o nm apos, kpos⟩] X.env)).all (·.1.isSome) = true := by rfl) (h4 : (backToKw pos (keywordEach [⟨some "key", .Attribute o nm apos, kpos⟩] X.env)).any (·.1.isNone) = false := by rfl) (h5 : (backToKw pos (keywordEach [⟨some "key", .Attribute o nm apos, kpos⟩] X.env)).filterMap (·.1) = [Str.ofString "key"] := by rfl) :
    RN X hx W (.Call (.Name "sorted" p) [e] [⟨some "key", .Attribute o nm apos, kpos⟩] pos) (msortK nm T me mo) := by
  obtain ⟨te, pe, re⟩ := he.ex
  obtain ⟨to, po, ro⟩ := ho.ex
  refine ⟨⟨_, pe_callBK (cr_sortK hu) hg hm PyProof.Rows.boot_sorted (pa_cons pe pa_nil hs) (pk_cons (pe_bm' po hb) pk_nil) (by decide) (by decide) h1 h2 h3 h4 h5, fun ρ0 μ0 δ σ H0 Q rel0 env0 ok0 => ?_⟩⟩
  refine re ρ0 μ0 δ σ H0 _ rel0 env0 (OkN.bind ok0 fun xs μ1 ρ1 H1 v p1 f1 rel1 dv ok1 => ?_)
  have env1 := env0.mono p1 f1
  refine ro ρ1 μ1 δ σ H1 _ rel1 env1 (OkN.bind ok1 fun d μ2 ρ2 H2 x p2 f2 rel2 dx ok2 => ?_)
  dsimp only at ok2
  split at ok2
  · rename_i ds C fs hl hi
    split at ok2
    · rename_i hn
      split at ok2
      · rename_i m hTC
        split at ok2
        · rename_i ks hks
          split at ok2
          · rename_i ps hps
            split at ok2
            · rename_i hk
              obtain ⟨l, vs, rfl, h6, h7⟩ := lstOf_ok rel2 (dv.mono p2 f2) hl
              obtain ⟨a, dx1, vf, rfl, h8, h9⟩ := insOf_ok rel2 dx hi
              obtain ⟨k, f, fd, pn, c, bm, F, hr, hb2, hpu⟩ := (hT C m hTC).ex
              refine ⟨a, C, dx1, vf, f, rfl, h8, c, bm, noFld_ok hn h9, fun q hq => ?_⟩
              have f3 : Fz ρ2 ρ2 H2 (upd H2 q (.met f a)) := Fz.new hq
              have h6' : LsR X.K (upd H2 q (.met f a)) l vs := by
                rcases h6 with (h | ⟨o', h⟩) | h
                · exact .inl (.inl (by rw [upd_ne (ne_of_none h hq)]; exact h))
                · exact .inl (.inr ⟨o', by rw [upd_ne (ne_of_none h hq)]; exact h⟩)
                · exact .inr h
              refine ⟨l, q, a, f, m, ρ2, μ2, vs, ds, ks, ps, d, rfl, rfl, upd_same, rel2.fresh hq, ⟨k, fd, pn, F, hr, hb2⟩, hpu, h6', rel2.alloc hq, h7.mono (Pre.refl _) f3, dx.mono (Pre.refl _) f3, hks, hps, hk, fun H' p' fz rel' hp hp' => ?_⟩
              have hl2 : ps.length = ds.length := (mapM_len hps).trans (mapM_len hks)
              have hH2 : H2 p' = none := upd_dom hp
              refine ok2 ρ2 _ _ (Pre.refl _) ((f3.trans fz).late hH2) (rel'.alloc hp') ⟨p', _, rfl, hH2, upd_same, rel2.fresh hH2, ?_⟩
              exact (dvs_sort (h7.mono (Pre.refl _) (f3.trans fz)) hl2).mono0 (Pre.refl _) (Fz0.new hp')
            · exact ok2.elim
          · exact ok2.elim
        · exact ok2.elim
      · exact ok2.elim
    · exact ok2.elim
  · exact ok2.elim
end
end Doz
end
section
namespace Doz
open PySem L2
def t_x__law_source (c : Cl) : MS := (mseq (masg (mC (.int 0)) (gset 2))
    (mseq (masg (mC (.int 0)) (gset 3))
    (mseq (mifS (mcmp cGt (mcall fLen (mcons (mvar 0) mnil)) (mC (.int 0))) (masg (mop fIx (mvar 0) (mop fMod (mvar 1) (mcall fLen (mcons (mvar 0) mnil)))) (gset 2)) mnx)
    (mseq (mifS (mand (mcmp cLt (mvar 1) (mcall fLen (mcons (mvar 0) mnil))) (mcmp cGe (mvar 2) (mop fPow (mC (.int 10)) (mC (.int 18))))) (masg (mvar 2) (gset 3)) mnx)
    (mret (mlc (mlst (mcons (mvar 3) (mcons (mop fAdd (mop fAdd (mop fMod (mvar 2) (mC (.int 2147483647))) (mop fMul (mC (.int 7919000)) (mvar 1))) (mC (.int 104729))) (mcons (mC (.int 0)) mnil))))))))))
def m_x__law_source (c : Cl) : MF := runB 4 (t_x__law_source c)
def t_x__law_draw (c : Cl) : MS := (mseq (masg (mop fAdd (mop fIx (mvar 0) (mC (.int 2))) (mC (.int 1))) (gsub (mvar 0) (mC (.int 2))))
    (mseq (mifS (mcmp cGt (mop fIx (mvar 0) (mC (.int 0))) (mC (.int 0))) (mseq (masg (mop fMod (mop fIx (mvar 0) (mC (.int 0))) (mvar 1)) (gset 3))
    (mseq (masg (mop fDiv (mop fIx (mvar 0) (mC (.int 0))) (mvar 1)) (gsub (mvar 0) (mC (.int 0))))
    (mret (mvar 3)))) mnx)
    (mseq (masg (mop fMod (mop fPow (mop fAdd (mop fIx (mvar 0) (mC (.int 1))) (mop fMul (mC (.int 7919)) (mop fIx (mvar 0) (mC (.int 2))))) (mC (.int 5))) (mC (.int 2147483647))) (gset 2))
    (mret (mop fMod (mop fDiv (mop fMod (mop fMul (mop fAdd (mvar 2) (mop fIx (mvar 0) (mC (.int 2)))) (mC (.int 40692))) (mC (.int 2147483629))) (mC (.int 16))) (mvar 1))))))
def m_x__law_draw (c : Cl) : MF := runB 4 (t_x__law_draw c)
def t_x__law_names (c : Cl) : MS := (mseq (masg (mC (.str ("abcdefghijklmnopqrstuvwxyz" : Str))) (gset 2))
    (mseq (masg (mlc (mlst mnil)) (gset 3))
    (mseq (masg (mC (.str ("" : Str))) (gset 4))
    (mseq (masg (mbl (mcmp cEqA (mfn 2 0 (fun ds _ => ds) (m_x__law_draw c) (mpos (mcons (mvar 0) (mcons (mC (.int 2)) mnil)))) (mC (.int 1)))) (gset 5))
    (mseq (mfor (mcall fRng1 (mcons (mvar 1) mnil)) (gset 6) (mseq (mifS (mor (mnot (masB (mvar 5))) (mcmp cEqA (mvar 6) (mC (.int 0)))) (masg (mmeth tyS fJoin (mC (.str ("" : Str))) (mcons (mfz (mcomp [10] (mcall fRng1 (mcons (mfn 2 0 (fun ds _ => ds) (m_x__law_draw c) (mpos (mcons (mvar 0) (mcons (mC (.int 7)) mnil)))) mnil)) (gset 10) myes (mop fIx (mvar 2) (mfn 2 0 (fun ds _ => ds) (m_x__law_draw c) (mpos (mcons (mvar 0) (mcons (mC (.int 26)) mnil))))))) mnil)) (gset 4)) mnx)
    (mseq (masg (mfn 2 0 (fun ds _ => ds) (m_x__law_draw c) (mpos (mcons (mvar 0) (mcons (mop fAdd (mcall fLen (mcons (mvar 4) mnil)) (mC (.int 1))) mnil)))) (gset 7))
    (mseq (masg (mfn 2 0 (fun ds _ => ds) (m_x__law_draw c) (mpos (mcons (mvar 0) (mcons (mC (.int 26)) mnil)))) (gset 8))
    (mseq (masg (mC (.str ("" : Str))) (gset 9))
    (mseq (mfor (mcall fRng1 (mcons (mC (.int 26)) mnil)) (gset 10) (mseq (masg (mop fAdd (mop fAdd (mslice fSl (mvar 4) mnopart (mpart (mvar 7))) (mop fIx (mvar 2) (mop fMod (mop fAdd (mvar 8) (mvar 10)) (mC (.int 26))))) (mslice fSl (mvar 4) (mpart (mvar 7)) mnopart)) (gset 11))
    (mifS (mand (mcmp cEqA (mvar 9) (mC (.str ("" : Str)))) (mcmp cNotIn (mvar 11) (mvar 3))) (masg (mvar 11) (gset 9)) mnx)))
    (mdrop (mmeth tyL fAppend (mvar 3) (mcons (mvar 9) mnil)))))))))
    (mretFz (mvar 3)))))))
def m_x__law_names (c : Cl) : MF := runB 12 (t_x__law_names c)
def t_x__law_number (c : Cl) : MS := (mseq (masg (mfn 2 0 (fun ds _ => ds) (m_x__law_draw c) (mpos (mcons (mvar 0) (mcons (mC (.int 6)) mnil)))) (gset 1))
    (mseq (mifS (mcmp cEqA (mvar 1) (mC (.int 4))) (mret (mfn 2 0 (fun ds _ => ds) (m_x__law_draw c) (mpos (mcons (mvar 0) (mcons (mop fPow (mC (.int 10)) (mC (.int 60))) mnil))))) mnx)
    (mseq (mifS (mcmp cEqA (mvar 1) (mC (.int 5))) (mret (mop fSub (mC (.int 0)) (mfn 2 0 (fun ds _ => ds) (m_x__law_draw c) (mpos (mcons (mvar 0) (mcons (mop fPow (mC (.int 10)) (mC (.int 60))) mnil)))))) mnx)
    (mret (mop fSub (mfn 2 0 (fun ds _ => ds) (m_x__law_draw c) (mpos (mcons (mvar 0) (mcons (mC (.int 4)) mnil)))) (mC (.int 1)))))))
def m_x__law_number (c : Cl) : MF := runB 2 (t_x__law_number c)
end Doz
end
section
namespace Doz
open PySem L2
def t_n_Halldd_initdd (c : Cl) : MS := (mseq (masg (mcall fDict (mcons (mvar 1) mnil)) (gfld [c.n_Hall] ("numbers" : Str) (mvar 0)))
    (mseq (masg mdnew (gfld [c.n_Hall] ("beds" : Str) (mvar 0)))
    (mseq (masg mdnew (gfld [c.n_Hall] ("ranks" : Str) (mvar 0)))
    (mseq (masg mdnew (gfld [c.n_Hall] ("endings" : Str) (mvar 0)))
    (mseq (masg (mC (.int 0)) (gthen (gfld [c.n_Hall] ("clock" : Str) (mvar 0)) (gthen (gfld [c.n_Hall] ("turns" : Str) (mvar 0)) (gfld [c.n_Hall] ("begun" : Str) (mvar 0)))))
    (masg (mlc (mlst mnil)) (gfld [c.n_Hall] ("entries" : Str) (mvar 0))))))))
def m_n_Halldd_initdd (c : Cl) : MF := runB 2 (t_n_Halldd_initdd c)
def t_n_Hall_look_for (c : Cl) : MS := (mifS (mcmp cNotIn (mvar 1) (mfld ("numbers" : Str) (mvar 0))) (mraise c.n_NoRoom (mcons (mvar 1) mnil)) mnx)
def m_n_Hall_look_for (c : Cl) : MF := runB 2 (t_n_Hall_look_for c)
def t_n_Hall_number (c : Cl) : MS := (mseq (mdrop (mmth ("look_for" : Str) 1 0 (fun C => List.lookup C [(c.n_Hall, fun x ds ez μ => m_n_Hall_look_for c ((fun ds _ => ds) (x :: ds) ez) μ)]) (mvar 0) (mpos (mcons (mvar 1) mnil))))
    (mret (mop fIx (mfld ("numbers" : Str) (mvar 0)) (mvar 1))))
def m_n_Hall_number (c : Cl) : MF := runB 2 (t_n_Hall_number c)
def t_n_Hall_put (c : Cl) : MS := (mseq (mdrop (mmth ("look_for" : Str) 1 0 (fun C => List.lookup C [(c.n_Hall, fun x ds ez μ => m_n_Hall_look_for c ((fun ds _ => ds) (x :: ds) ez) μ)]) (mvar 0) (mpos (mcons (mvar 1) mnil))))
    (mseq (masg (mvar 2) (gsub (mfld ("numbers" : Str) (mvar 0)) (mvar 1)))
    (mdrop (mmeth tyL fAppend (mfld ("entries" : Str) (mvar 0)) (mcons (mtup (mcons (mC (.str ("put" : Str))) (mcons (mvar 1) (mcons (mvar 2) mnil)))) mnil)))))
def m_n_Hall_put (c : Cl) : MF := runB 3 (t_n_Hall_put c)
end Doz
end
section
namespace Doz
open PySem L2
def t_x__law_mask (c : Cl) : MS := (mseq (masg (mfn 2 0 (fun ds _ => ds) (m_x__law_draw c) (mpos (mcons (mvar 0) (mcons (mC (.int 3)) mnil)))) (gset 1))
    (mseq (masg (mfn 2 0 (fun ds _ => ds) (m_x__law_draw c) (mpos (mcons (mvar 0) (mcons (mC (.int 255)) mnil)))) (gset 2))
    (mret (mop fIx (mfz (mlst (mcons (mop fIx (mfz (mlst (mcons (mC (.int 1)) (mcons (mC (.int 2)) (mcons (mC (.int 4)) (mcons (mC (.int 8)) (mcons (mC (.int 16)) (mcons (mC (.int 32)) (mcons (mC (.int 64)) (mcons (mC (.int 128)) mnil)))))))))) (mop fMod (mvar 2) (mC (.int 8)))) (mcons (mC (.int 255)) (mcons (mop fAdd (mC (.int 1)) (mvar 2)) mnil))))) (mvar 1)))))
def m_x__law_mask (c : Cl) : MF := runB 3 (t_x__law_mask c)
def t_x__law_count (c : Cl) : MS := (mret (mop fIx (mfz (mlst (mcons (mC (.int 0)) (mcons (mC (.int 1)) (mcons (mC (.int 1)) (mcons (mC (.int 2)) (mcons (mC (.int 3)) (mcons (mC (.int 5)) (mcons (mC (.int 1000)) (mcons (mop fPow (mC (.int 10)) (mC (.int 30))) mnil)))))))))) (mfn 2 0 (fun ds _ => ds) (m_x__law_draw c) (mpos (mcons (mvar 0) (mcons (mC (.int 8)) mnil))))))
def m_x__law_count (c : Cl) : MF := runB 1 (t_x__law_count c)
def t_n_look_at_counts (c : Cl) : MS := (mseq (mfor (miter (mvar 0)) (gset 2) (mifS (mcmp cLt (mvar 2) (mC (.int 0))) (mraise c.n_BadCount (mcons (mvar 2) mnil)) mnx))
    (mfor (miter (mvar 1)) (gset 3) (mifS (mnot (mchain cLe cLe (mC (.int 1)) (mvar 3) (mC (.int 255)))) (mraise c.n_BadCount (mcons (mvar 3) mnil)) mnx)))
def m_n_look_at_counts (c : Cl) : MF := runB 4 (t_n_look_at_counts c)
def t_n_Hall_look_awake (c : Cl) : MS := (mifS (mcmp cIn (mvar 1) (mfld ("beds" : Str) (mvar 0))) (mraise c.n_Asleep (mcons (mvar 1) mnil)) mnx)
def m_n_Hall_look_awake (c : Cl) : MF := runB 2 (t_n_Hall_look_awake c)
def t_n_Hall_is_over (c : Cl) : MS := (mret (mandV (mbl (mcmp cIsNot (mvar 1) (mC .non))) (mbl (mcmp cLe (mvar 1) (mfld ("clock" : Str) (mvar 0))))))
def m_n_Hall_is_over (c : Cl) : MF := runB 2 (t_n_Hall_is_over c)
def t_n_Beddd_initdd (c : Cl) : MS := (mseq (masg (mvar 1) (gfld [c.n_Bed] ("place" : Str) (mvar 0)))
    (mseq (masg (mvar 2) (gfld [c.n_Bed] ("turn" : Str) (mvar 0)))
    (mseq (masg (mvar 3) (gfld [c.n_Bed] ("since" : Str) (mvar 0)))
    (mseq (masg (mvar 4) (gfld [c.n_Bed] ("until" : Str) (mvar 0)))
    (masg (mvar 5) (gfld [c.n_Bed] ("mask" : Str) (mvar 0)))))))
def m_n_Beddd_initdd (c : Cl) : MF := runB 6 (t_n_Beddd_initdd c)
def t_n_Hall_next_turn (c : Cl) : MS := (mseq (mfaug (fun i j => i + j) ("turns" : Str) (mvar 0) (mC (.int 1)))
    (mret (mfld ("turns" : Str) (mvar 0))))
def m_n_Hall_next_turn (c : Cl) : MF := runB 1 (t_n_Hall_next_turn c)
def t_n_Hall_lie_down (c : Cl) : MS := (mseq (mfaug (fun i j => i + j) ("begun" : Str) (mvar 0) (mC (.int 1)))
    (masg (mmk c.n_Bed 1 4 (fun ds es => match ds, es with | [x0, x1], [y0, y1, y2, y3] => [x0, x1, y0, y1, y2, y3] | _, _ => []) (m_n_Beddd_initdd c) (mboth (mcons (mvar 2) mnil) (mcons (mmth ("next_turn" : Str) 0 0 (fun C => List.lookup C [(c.n_Hall, fun x ds ez μ => m_n_Hall_next_turn c ((fun ds _ => ds) (x :: ds) ez) μ)]) (mvar 0) mnoa) (mcons (mfld ("begun" : Str) (mvar 0)) (mcons (mvar 3) (mcons (mvar 4) mnil)))))) (gsub (mfld ("beds" : Str) (mvar 0)) (mvar 1))))
def m_n_Hall_lie_down (c : Cl) : MF := runB 5 (t_n_Hall_lie_down c)
def t_n_Hall_sleep (c : Cl) : MS := (mseq (mdrop (mmth ("look_for" : Str) 1 0 (fun C => List.lookup C [(c.n_Hall, fun x ds ez μ => m_n_Hall_look_for c ((fun ds _ => ds) (x :: ds) ez) μ)]) (mvar 0) (mpos (mcons (mvar 2) mnil))))
    (mseq (mdrop (mmth ("look_awake" : Str) 1 0 (fun C => List.lookup C [(c.n_Hall, fun x ds ez μ => m_n_Hall_look_awake c ((fun ds _ => ds) (x :: ds) ez) μ)]) (mvar 0) (mpos (mcons (mvar 1) mnil))))
    (mseq (mdrop (mfn 0 1 (fun ds es => match ds, es with | [], [y0] => [.tup [], y0] | _, _ => []) (m_n_look_at_counts c) (mkws (mcons (mtup (mcons (mvar 5) mnil)) mnil))))
    (mseq (masg (mC (.str ("asleep" : Str))) (gset 6))
    (mseq (mifS (mcmp cNeA (mop fIx (mfld ("numbers" : Str) (mvar 0)) (mvar 2)) (mvar 3)) (masg (mC (.str ("changed" : Str))) (gset 6)) (mifS (masB (mmth ("is_over" : Str) 1 0 (fun C => List.lookup C [(c.n_Hall, fun x ds ez μ => m_n_Hall_is_over c ((fun ds _ => ds) (x :: ds) ez) μ)]) (mvar 0) (mpos (mcons (mvar 4) mnil)))) (masg (mC (.str ("past" : Str))) (gset 6)) (mdrop (mmth ("lie_down" : Str) 2 2 (fun C => List.lookup C [(c.n_Hall, fun x ds ez μ => m_n_Hall_lie_down c ((fun ds es => match ds, es with | [x0, x1, x2], [y0, y1] => [x0, x1, x2, y0, y1] | _, _ => []) (x :: ds) ez) μ)]) (mvar 0) (mboth (mcons (mvar 1) (mcons (mvar 2) mnil)) (mcons (mvar 4) (mcons (mvar 5) mnil)))))))
    (mseq (masg (mvar 6) (gsub (mfld ("endings" : Str) (mvar 0)) (mvar 1)))
    (mseq (mdrop (mmeth tyL fAppend (mfld ("entries" : Str) (mvar 0)) (mcons (mtup (mcons (mC (.str ("sleep" : Str))) (mcons (mvar 1) (mcons (mvar 2) (mcons (mvar 3) (mcons (mvar 4) (mcons (mvar 5) (mcons (mvar 6) mnil)))))))) mnil)))
    (mret (mvar 6)))))))))
def m_n_Hall_sleep (c : Cl) : MF := runB 7 (t_n_Hall_sleep c)
def t_n_Hall_standing (c : Cl) : MS := (mret (mget2 (mfld ("ranks" : Str) (mvar 0)) (mvar 1) (mC (.int 0))))
def m_n_Hall_standing (c : Cl) : MF := runB 2 (t_n_Hall_standing c)
def t_n_Hall_order (c : Cl) : MS := (mret (mtup (mcons (mop fSub (mC (.int 0)) (mmth ("standing" : Str) 1 0 (fun C => List.lookup C [(c.n_Hall, fun x ds ez μ => m_n_Hall_standing c ((fun ds _ => ds) (x :: ds) ez) μ)]) (mvar 0) (mpos (mcons (mvar 1) mnil)))) (mcons (mfld ("turn" : Str) (mop fIx (mfld ("beds" : Str) (mvar 0)) (mvar 1))) mnil))))
def m_n_Hall_order (c : Cl) : MF := runB 2 (t_n_Hall_order c)
def t_n_Hall_line_at (c : Cl) : MS := (mret (mlc (msortK ("order" : Str) (fun C => List.lookup C [(c.n_Hall, m_n_Hall_order c)]) (mfz (mlockN (selOf (mfld ("beds" : Str) (mvar 0))) (mcomp [2] (mkeys (mfld ("beds" : Str) (mvar 0))) (gset 2) (mcmp cEqA (mfld ("place" : Str) (mop fIx (mfld ("beds" : Str) (mvar 0)) (mvar 2))) (mvar 1)) (mvar 2)))) (mvar 0))))
def m_n_Hall_line_at (c : Cl) : MF := runB 3 (t_n_Hall_line_at c)
def t_n_Hall_line (c : Cl) : MS := (mseq (mdrop (mmth ("look_for" : Str) 1 0 (fun C => List.lookup C [(c.n_Hall, fun x ds ez μ => m_n_Hall_look_for c ((fun ds _ => ds) (x :: ds) ez) μ)]) (mvar 0) (mpos (mcons (mvar 1) mnil))))
    (mret (mmth ("line_at" : Str) 1 0 (fun C => List.lookup C [(c.n_Hall, fun x ds ez μ => m_n_Hall_line_at c ((fun ds _ => ds) (x :: ds) ez) μ)]) (mvar 0) (mpos (mcons (mvar 1) mnil)))))
def m_n_Hall_line (c : Cl) : MF := runB 2 (t_n_Hall_line c)
def t_n_Bed_meets (c : Cl) : MS := (mret (mbl (mcmp cNeA (mop fAnd (mfld ("mask" : Str) (mvar 0)) (mvar 1)) (mC (.int 0)))))
def m_n_Bed_meets (c : Cl) : MF := runB 2 (t_n_Bed_meets c)
def t_n_Hall_rise (c : Cl) : MS := (mseq (mdrop (mpop1 (mfld ("beds" : Str) (mvar 0)) (mvar 1)))
    (masg (mvar 2) (gsub (mfld ("endings" : Str) (mvar 0)) (mvar 1))))
def m_n_Hall_rise (c : Cl) : MF := runB 3 (t_n_Hall_rise c)
def t_n_Hall_wake (c : Cl) : MS := (mseq (mdrop (mmth ("look_for" : Str) 1 0 (fun C => List.lookup C [(c.n_Hall, fun x ds ez μ => m_n_Hall_look_for c ((fun ds _ => ds) (x :: ds) ez) μ)]) (mvar 0) (mpos (mcons (mvar 1) mnil))))
    (mseq (mdrop (mfn 0 2 (fun ds es => match ds, es with | [], [y0, y1] => [y0, y1] | _, _ => []) (m_n_look_at_counts c) (mkws (mcons (mtup (mcons (mvar 2) mnil)) (mcons (mtup (mcons (mvar 3) mnil)) mnil)))))
    (mseq (masg (mlc (msliceN (mfz (mcomp [5] (miter (mmth ("line" : Str) 1 0 (fun C => List.lookup C [(c.n_Hall, fun x ds ez μ => m_n_Hall_line c ((fun ds _ => ds) (x :: ds) ez) μ)]) (mvar 0) (mpos (mcons (mvar 1) mnil)))) (gset 5) (masB (mmth ("meets" : Str) 1 0 (fun C => List.lookup C [(c.n_Bed, fun x ds ez μ => m_n_Bed_meets c ((fun ds _ => ds) (x :: ds) ez) μ)]) (mop fIx (mfld ("beds" : Str) (mvar 0)) (mvar 5)) (mpos (mcons (mvar 3) mnil)))) (mvar 5))) mnopart (mpart (mvar 2)))) (gset 4))
    (mseq (mfor (miter (mvar 4)) (gset 5) (mdrop (mmth ("rise" : Str) 2 0 (fun C => List.lookup C [(c.n_Hall, fun x ds ez μ => m_n_Hall_rise c ((fun ds _ => ds) (x :: ds) ez) μ)]) (mvar 0) (mpos (mcons (mvar 5) (mcons (mC (.str ("woken" : Str))) mnil))))))
    (mseq (mdrop (mmeth tyL fAppend (mfld ("entries" : Str) (mvar 0)) (mcons (mtup (mcons (mC (.str ("wake" : Str))) (mcons (mvar 1) (mcons (mvar 2) (mcons (mvar 3) (mcons (mcall fTuple (mcons (mvar 4) mnil)) mnil)))))) mnil)))
    (mret (mvar 4)))))))
def m_n_Hall_wake (c : Cl) : MF := runB 6 (t_n_Hall_wake c)
def t_n_Hall_ending (c : Cl) : MS := (mret (mget2 (mfld ("endings" : Str) (mvar 0)) (mvar 1) (mC (.str ("new" : Str)))))
def m_n_Hall_ending (c : Cl) : MF := runB 2 (t_n_Hall_ending c)
def t_n_Hall_sleeper (c : Cl) : MS := (mseq (mifS (mcmp cNotIn (mvar 1) (mfld ("beds" : Str) (mvar 0))) (mret (mC .non)) mnx)
    (mseq (masg (mop fIx (mfld ("beds" : Str) (mvar 0)) (mvar 1)) (gset 2))
    (mret (mtup (mcons (mfld ("place" : Str) (mvar 2)) (mcons (mfld ("until" : Str) (mvar 2)) (mcons (mfld ("mask" : Str) (mvar 2)) mnil)))))))
def m_n_Hall_sleeper (c : Cl) : MF := runB 3 (t_n_Hall_sleeper c)
end Doz
end
section
namespace Doz
open PySem L2
def t_n_Bed_is_over (c : Cl) : MS := (mret (mandV (mbl (mcmp cIsNot (mfld ("until" : Str) (mvar 0)) (mC .non))) (mbl (mcmp cLe (mfld ("until" : Str) (mvar 0)) (mvar 1)))))
def m_n_Bed_is_over (c : Cl) : MF := runB 2 (t_n_Bed_is_over c)
def t_n_Hall_lateness (c : Cl) : MS := (mret (mtup (mcons (mfld ("until" : Str) (mop fIx (mfld ("beds" : Str) (mvar 0)) (mvar 1))) (mcons (mfld ("since" : Str) (mop fIx (mfld ("beds" : Str) (mvar 0)) (mvar 1))) mnil))))
def m_n_Hall_lateness (c : Cl) : MF := runB 2 (t_n_Hall_lateness c)
def t_n_Hall_tick (c : Cl) : MS := (mseq (mdrop (mfn 0 1 (fun ds es => match ds, es with | [], [y0] => [y0, .tup []] | _, _ => []) (m_n_look_at_counts c) (mkws (mcons (mtup (mcons (mvar 1) mnil)) mnil))))
    (mseq (mfaug (fun i j => i + j) ("clock" : Str) (mvar 0) (mvar 1))
    (mseq (mlockS (selOf (mfld ("beds" : Str) (mvar 0))) (masg (mlc (mcomp [3] (mkeys (mfld ("beds" : Str) (mvar 0))) (gset 3) (masB (mmth ("is_over" : Str) 1 0 (fun C => List.lookup C [(c.n_Bed, fun x ds ez μ => m_n_Bed_is_over c ((fun ds _ => ds) (x :: ds) ez) μ)]) (mop fIx (mfld ("beds" : Str) (mvar 0)) (mvar 3)) (mpos (mcons (mfld ("clock" : Str) (mvar 0)) mnil)))) (mvar 3))) (gset 2)))
    (mseq (masg (mlc (msortK ("lateness" : Str) (fun C => List.lookup C [(c.n_Hall, m_n_Hall_lateness c)]) (mvar 2) (mvar 0))) (gset 2))
    (mseq (mfor (miter (mvar 2)) (gset 3) (mdrop (mmth ("rise" : Str) 2 0 (fun C => List.lookup C [(c.n_Hall, fun x ds ez μ => m_n_Hall_rise c ((fun ds _ => ds) (x :: ds) ez) μ)]) (mvar 0) (mpos (mcons (mvar 3) (mcons (mC (.str ("late" : Str))) mnil))))))
    (mseq (mdrop (mmeth tyL fAppend (mfld ("entries" : Str) (mvar 0)) (mcons (mtup (mcons (mC (.str ("tick" : Str))) (mcons (mvar 1) (mcons (mcall fTuple (mcons (mvar 2) mnil)) mnil)))) mnil)))
    (mret (mvar 2))))))))
def m_n_Hall_tick (c : Cl) : MF := runB 4 (t_n_Hall_tick c)
def t_n_Hall_rank (c : Cl) : MS := (mseq (masg (mvar 2) (gsub (mfld ("ranks" : Str) (mvar 0)) (mvar 1)))
    (mdrop (mmeth tyL fAppend (mfld ("entries" : Str) (mvar 0)) (mcons (mtup (mcons (mC (.str ("rank" : Str))) (mcons (mvar 1) (mcons (mvar 2) mnil)))) mnil))))
def m_n_Hall_rank (c : Cl) : MF := runB 3 (t_n_Hall_rank c)
def t_n_Hall_asleep (c : Cl) : MS := (mret (mlc (mcall fSortDN (mcons (mfld ("beds" : Str) (mvar 0)) mnil))))
def m_n_Hall_asleep (c : Cl) : MF := runB 1 (t_n_Hall_asleep c)
def t_n_Hall_now (c : Cl) : MS := (mret (mfld ("clock" : Str) (mvar 0)))
def m_n_Hall_now (c : Cl) : MF := runB 1 (t_n_Hall_now c)
def t_n_Hall_move (c : Cl) : MS := (mseq (mdrop (mmth ("look_for" : Str) 1 0 (fun C => List.lookup C [(c.n_Hall, fun x ds ez μ => m_n_Hall_look_for c ((fun ds _ => ds) (x :: ds) ez) μ)]) (mvar 0) (mpos (mcons (mvar 1) mnil))))
    (mseq (mdrop (mmth ("look_for" : Str) 1 0 (fun C => List.lookup C [(c.n_Hall, fun x ds ez μ => m_n_Hall_look_for c ((fun ds _ => ds) (x :: ds) ez) μ)]) (mvar 0) (mpos (mcons (mvar 2) mnil))))
    (mseq (mifS (mcmp cEqA (mvar 1) (mvar 2)) (mraise c.n_SameRoom (mcons (mvar 1) mnil)) mnx)
    (mseq (mdrop (mfn 0 1 (fun ds es => match ds, es with | [], [y0] => [y0, .tup []] | _, _ => []) (m_n_look_at_counts c) (mkws (mcons (mtup (mcons (mvar 4) (mcons (mvar 5) mnil))) mnil))))
    (mseq (masg (mC .non) (gthen (gset 6) (gset 7)))
    (mseq (mifS (mor (mcmp cIs (mvar 3) (mC .non)) (mcmp cEqA (mop fIx (mfld ("numbers" : Str) (mvar 0)) (mvar 1)) (mvar 3))) (mseq (masg (mmth ("line" : Str) 1 0 (fun C => List.lookup C [(c.n_Hall, fun x ds ez μ => m_n_Hall_line c ((fun ds _ => ds) (x :: ds) ez) μ)]) (mvar 0) (mpos (mcons (mvar 1) mnil))) (gset 8))
    (mseq (masg (mtup (mcons (mlc (msliceN (mvar 8) mnopart (mpart (mvar 4)))) (mcons (mlc (msliceN (mvar 8) (mpart (mvar 4)) (mpart (mop fAdd (mvar 4) (mvar 5))))) mnil))) (gset 6))
    (mseq (masg (mtup (mcons (mcall fTuple (mcons (mop fIx (mvar 6) (mC (.int 0))) mnil)) (mcons (mcall fTuple (mcons (mop fIx (mvar 6) (mC (.int 1))) mnil)) mnil))) (gset 7))
    (mseq (mfor (miter (mop fIx (mvar 7) (mC (.int 0)))) (gset 9) (mdrop (mmth ("rise" : Str) 2 0 (fun C => List.lookup C [(c.n_Hall, fun x ds ez μ => m_n_Hall_rise c ((fun ds _ => ds) (x :: ds) ez) μ)]) (mvar 0) (mpos (mcons (mvar 9) (mcons (mC (.str ("woken" : Str))) mnil))))))
    (mfor (miter (mop fIx (mvar 7) (mC (.int 1)))) (gset 9) (mseq (masg (mvar 2) (gfld [c.n_Bed] ("place" : Str) (mop fIx (mfld ("beds" : Str) (mvar 0)) (mvar 9))))
    (masg (mmth ("next_turn" : Str) 0 0 (fun C => List.lookup C [(c.n_Hall, fun x ds ez μ => m_n_Hall_next_turn c ((fun ds _ => ds) (x :: ds) ez) μ)]) (mvar 0) mnoa) (gfld [c.n_Bed] ("turn" : Str) (mop fIx (mfld ("beds" : Str) (mvar 0)) (mvar 9)))))))))) mnx)
    (mseq (mdrop (mmeth tyL fAppend (mfld ("entries" : Str) (mvar 0)) (mcons (mtup (mcons (mC (.str ("move" : Str))) (mcons (mvar 1) (mcons (mvar 2) (mcons (mvar 3) (mcons (mvar 4) (mcons (mvar 5) (mcons (mvar 7) mnil)))))))) mnil)))
    (mret (mvar 6)))))))))
def m_n_Hall_move (c : Cl) : MF := runB 10 (t_n_Hall_move c)
end Doz
end
section
namespace Doz
open PySem L2
def t_n_Hall_nudge (c : Cl) : MS := (mseq (mifS (mcmp cNotIn (mvar 1) (mfld ("beds" : Str) (mvar 0))) (mraise c.n_Awake (mcons (mvar 1) mnil)) mnx)
    (mseq (mdrop (mmth ("rise" : Str) 2 0 (fun C => List.lookup C [(c.n_Hall, fun x ds ez μ => m_n_Hall_rise c ((fun ds _ => ds) (x :: ds) ez) μ)]) (mvar 0) (mpos (mcons (mvar 1) (mcons (mC (.str ("nudged" : Str))) mnil)))))
    (mdrop (mmeth tyL fAppend (mfld ("entries" : Str) (mvar 0)) (mcons (mtup (mcons (mC (.str ("nudge" : Str))) (mcons (mvar 1) mnil))) mnil)))))
def m_n_Hall_nudge (c : Cl) : MF := runB 2 (t_n_Hall_nudge c)
end Doz
end
section
namespace Doz
open PySem L2
section
variable {X : Cx} {hx : Option HX} {W : WX} {a b c : Expr} {ma mb mc : ME} {pos : Pos}
def mchainV (c c' : D → D → Mem → Res Bool) (a b z : ME) : ME := bindM a fun x => bindM b fun y => fun δ μ => (c x y μ).bind fun k μ1 => if k = true then (z δ μ1).bind fun w μ2 => (c' y w μ2).bind fun b μ3 => .ok (.bl b) μ3 else .ok (.bl false) μ1
theorem re_chain {op op' : CmpOp} {r r' : R2} {f f' : D → D → Mem → Res Bool} (ho : OpR X (compareOp op) r) (om : CmpM X.K r f) (ho' : OpR X (compareOp op') r') (om' : CmpM X.K r' f') (ha : RE X hx W a ma) (hb : RE X hx W b mb) (hc : RE X hx W c mc)
    (hm : lastMarks [op, op'] [b, c] = false := by with_unfolding_all rfl) : RE X hx W (.Compare a [op, op'] [b, c] pos) (mchainV f f' ma mb mc) := by
  obtain ⟨ta, pa, ra⟩ := ha.ex
  obtain ⟨tb, pb, rb⟩ := hb.ex
  obtain ⟨tc, pc, rc⟩ := hc.ex
  refine ⟨⟨_, pe_chain ho ho' pa pb pc hm, ?_⟩⟩
  refine Ref.two (k := fun x y σ H Q => r x y H fun z H3 => ∃ k, z = .bl k ∧ (if k = true then tc σ H3 fun w' H4 => r' y w' H4 Q else Q (.bl false) H3)) stay_DV ra rb fun d e ρ μ δ σ H x y Q rel env dx dy ok => ?_
  refine om d e ρ μ H x y _ _ rel dx dy (Okr.bind ok fun k μ1 ρ1 H1 v p1 f1 rel1 hv ok1 => ?_)
  have hv' : v = V.bl k := hv
  refine ⟨k, hv', ?_⟩
  cases k with
  | false => exact iteF (Okr.now ok1 rel1 dv_bl)
  | true =>
    refine iteT (rc ρ1 μ1 δ σ H1 _ rel1 (env.mono p1 f1) (Okr.bind ok1 fun w μ2 ρ2 H2 wv p2 f2 rel2 dw ok2 => ?_))
    exact om' e w ρ2 μ2 H2 y wv _ _ rel2 ((dy.mono p1 f1).mono p2 f2) dw (okr_bl ok2)
def maug (g : Int → Int → Int) (i : Nat) (me : ME) : MS := fun δ μ => match δ[i]? with
  | some (some (.int x)) => ofE me (fun d => match d with
    | .int y => fun δ μ => .nx (δ.set i (some (.int (g x y)))) μ
    | _ => fun _ _ => .bad) δ μ
  | _ => .bad
theorem rs_aug (i : Nat) {x : Str} {op : Operator} {g : Int → Int → Int} {pos' : Pos} (hN : X.N.Nodup) (hop : PIp X op (ipI g)) (he : RE X hx W a ma) (hi : X.N[i]? = some x := by rfl) (hl : Loc X.env.scope x := by first | exact Or.inl rfl | exact Or.inr rfl)
    (hf : X.fn x = true ∨ X.env.scope.names.lookup x = some .local := by first | exact .inl rfl | exact .inr rfl)
    (hxi : ∀ q, hx = some q → i ≠ q.i := by intro _ h; first | (cases h; done) | (cases h; exact Nat.ne_of_beq_eq_false rfl)) : RS X hx W (.AugAssign (.Name x pos') op a pos) (maug g i ma) := by
  obtain ⟨t, p, r⟩ := he.ex
  refine ⟨⟨_, ps_aug hN hi hl p hop hf, fun ρ μ δ σ H Dn rel env ok => ?_⟩⟩
  unfold maug at ok
  split at ok
  · rename_i z hz
    obtain ⟨v, e1, dv⟩ := env.get i _ hz
    obtain rfl := int_ok dv
    refine ⟨_, e1, ?_⟩
    refine r ρ μ δ σ H _ rel env (OkS.ofE env ok fun d μ1 ρ1 H1 y pr fz rel1 dy ok1 => ?_)
    split at ok1
    · rename_i j
      obtain rfl := int_ok dy
      exact ⟨z, j, rfl, rfl, ok1 ρ1 H1 _ (Pre.refl _) (Fz.refl _) rel1 ((env.mono pr fz).set dv_int hxi)⟩
    · exact ok1.elim
  · exact ok.elim
end
def strVs : List Str → List Value → Bool
  | [], [] => true
  | x :: xs, .str y _ :: ys => x == y && strVs xs ys
  | _, _ => false
def txB (K : PySem.W.Frag) (a : Addr) (ss : List Str) : Bool := match K.lookup a with
  | some o => (match o.cls with | .type T => T == "tuple" | _ => false) && (match o.data with | .seq its _ => decide (its.size ≤ sizeLine) && strVs ss its.toList | _ => false)
  | none => false
def txK (x : Str) (ss : List Str) (K : PySem.W.Frag) : Bool := txB K (He.ga K x) ss
theorem strVs_ok : ∀ {ss : List Str} {vs : List Value}, strVs ss vs = true → Vals (ss.map V.str) vs
  | [], [], _ => .nil
  | x :: xs, .str y t :: ys, h => by
    simp only [strVs, Bool.and_eq_true, beq_iff_eq] at h
    obtain ⟨rfl, h⟩ := h
    exact .cons ⟨t, rfl⟩ (strVs_ok h)
theorem txB_ok {K : PySem.W.Frag} {a : Addr} {ss : List Str} (h : txB K a ss = true) (ρ : List Addr) (H : Hp) : DV K ρ H (.tup (ss.map D.str)) (.ref a) := by
  unfold txB at h
  split at h
  · rename_i o ho
    simp only [Bool.and_eq_true] at h
    obtain ⟨h1, h2⟩ := h
    split at h1
    · rename_i T hT
      split at h2
      · rename_i its n hd
        simp only [Bool.and_eq_true, decide_eq_true_eq, beq_iff_eq] at h1 h2
        subst h1
        simp only [DV]
        exact ⟨a, ss.map V.str, rfl, .inr ⟨o, its, n, ho, hT, hd, h2.1, strVs_ok h2.2⟩, dvs_strs ss⟩
      · cases h2
    · cases h1
  · cases h
theorem re_globT {X : Cx} {hx : Option HX} {W : WX} {pos : Pos} {x : Str} {a : Addr} {ss : List Str} (hm : X.mg x = some (.ref a)) (ht : txB X.K a ss = true) (hg : Gl X x := by rfl) (hd : (x == ("__debug__" : Str)) = false := by decide) : RE X hx W (.Name x pos) (mC (.tup (ss.map D.str))) :=
  re_glob (v := .ref a) hm rfl (fun ρ H => txB_ok ht ρ H) hg hd
def D.ntx : D → Bool
  | .int _ => true
  | .str _ => true
  | _ => false
def fIndex (d : D) (xs : List D) (μ : Mem) : Res D := match xs with
  | [y] => match lstOf μ d with
    | some ds => if (y.ntx && ds.all D.ntx) = true then match ds.findIdx? fun z => D.same z y with
        | some j => .ok (.int (j : Nat)) μ
        | none => .bad
      else .bad
    | none => .bad
  | _ => .bad
section
variable {K : PySem.W.Frag} {ρ : List Addr} {μ : Mem} {H : Hp}
theorem ntx_flat {d : D} {v : V} (h : d.ntx = true) (dv : DV K ρ H d v) : flatV v = true := by
  cases d with
  | int i => rw [int_ok dv]; rfl
  | str i => rw [str_ok dv]; rfl
  | _ => cases h
theorem ntx_eqV {d e : D} {v u : V} (hd : d.ntx = true) (he : e.ntx = true) (dv : DV K ρ H d v) (du : DV K ρ H e u) : eqV v u = D.same d e := by
  cases d with
  | int i =>
    rw [int_ok dv]
    cases e with
    | int j => rw [int_ok du]; simp [eqV, D.same]
    | str j => rw [str_ok du]; simp [eqV, D.same]
    | _ => cases he
  | str i =>
    rw [str_ok dv]
    cases e with
    | int j => rw [int_ok du]; simp [eqV, D.same]
    | str j => rw [str_ok du]; simp [eqV, D.same]
    | _ => cases he
  | _ => cases hd
theorem ntx_all : ∀ {ds : List D} {vs : List V}, DVs K ρ H ds vs → ds.all D.ntx = true → vs.all flatV = true
  | [], vs, h, _ => by simp only [DVs] at h; subst h; rfl
  | d :: ds, vs, h, k => by
    simp only [DVs] at h
    obtain ⟨v, r, rfl, h1, h2⟩ := h
    simp only [List.all_cons, Bool.and_eq_true] at k ⊢
    exact ⟨ntx_flat k.1 h1, ntx_all h2 k.2⟩
theorem mf_index : MethF K (rIndex K) fIndex := by
  intro d ds ρ μ H x xs Q E rel dv dvs ok
  unfold fIndex at ok
  split at ok
  · obtain ⟨y, rfl, dy⟩ := dvs.one
    rename_i yd
    split at ok
    · rename_i es hc
      split at ok
      · rename_i hn
        simp only [Bool.and_eq_true] at hn
        split at ok
        · rename_i j hj
          obtain ⟨a, vs, rfl, e2, e3⟩ := lstOf_ok rel dv hc
          obtain ⟨hj1, hj2, hj3⟩ := List.findIdx?_eq_some_iff_getElem.mp hj
          have hall := List.all_eq_true.mp hn.2
          obtain ⟨z, hz, dz⟩ := e3.get (List.getElem?_eq_getElem hj1)
          refine ⟨a, vs, y, j, z, rfl, rfl, rd_sq e2, ntx_flat hn.1 dy, ntx_all e3 hn.2, hz, ?_, ?_, .inl (ok.now rel dv_int)⟩
          · rw [ntx_eqV (hall _ (List.getElem_mem hj1)) hn.1 dz dy]; exact hj2
          · intro m z' hm hz'
            obtain ⟨d', hd', dv'⟩ := e3.getv hz'
            obtain ⟨hm1, hm2⟩ := List.getElem?_eq_some_iff.mp hd'
            rw [ntx_eqV (hall _ (List.mem_of_getElem? hd')) hn.1 dv' dy, ← hm2]
            have := hj3 m hm
            simpa using this
        · exact ok.elim
      · exact ok.elim
    · exact ok.elim
  · exact ok.elim
def fPop (d : D) (xs : List D) (μ : Mem) : Res D := match xs with
  | [] => match lcell μ d with
    | some (n, ds) => match ds[ds.length - 1]? with
      | some y => .ok y (μ.set n (.lst ds.dropLast))
      | none => .bad
    | none => .bad
  | _ => .bad
theorem dvs_dropLast : ∀ {ds : List D} {vs : List V}, DVs K ρ H ds vs → DVs K ρ H ds.dropLast vs.dropLast := fun {ds vs} h => by
  rw [List.dropLast_eq_take, List.dropLast_eq_take, ← h.length]; exact h.take _
theorem mf_pop : MethF K rPop fPop := by
  intro d ds ρ μ H x xs Q E rel dv dvs ok
  unfold fPop at ok
  split at ok
  · obtain rfl := dvs.zero
    split at ok
    · rename_i n es hc
      split at ok
      · rename_i y hy
        obtain ⟨a, vs, rfl, h1, _, h2, h3⟩ := lcell_ok rel dv hc
        obtain ⟨v, hv, dy⟩ := h3.get hy
        refine ⟨a, vs, v, rfl, rfl, h2, by rw [← h3.length]; exact hv, .inl (lwrite rel h1 h2 (dvs_dropLast h3) dy ok)⟩
      · exact ok.elim
    · exact ok.elim
  · exact ok.elim
def fPopAt (d : D) (xs : List D) (μ : Mem) : Res D := match xs with
  | [.int i] => match lcell μ d with
    | some (n, ds) => if -(2 ^ 63) ≤ i ∧ i < 2 ^ 63 then match seqIndex? i ds.length with
      | some k => match ds[k]? with
        | some y => .ok y (μ.set n (.lst (ds.eraseIdx k)))
        | none => .bad
      | none => .bad
      else .bad
    | none => .bad
  | _ => .bad
theorem dvs_erase : ∀ {ds : List D} {vs : List V} (k : Nat), DVs K ρ H ds vs → DVs K ρ H (ds.eraseIdx k) (vs.eraseIdx k) := fun {ds vs} k h => by
  rw [List.eraseIdx_eq_take_drop_succ, List.eraseIdx_eq_take_drop_succ]; exact (h.take _).app (h.drop _)
theorem mf_popAt : MethF K rPopAt fPopAt := by
  intro d ds ρ μ H x xs Q E rel dv dvs ok
  unfold fPopAt at ok
  split at ok
  · rename_i i
    obtain ⟨y, rfl, dy⟩ := dvs.one
    obtain rfl := int_ok dy
    split at ok
    · rename_i n es hc
      split at ok
      · rename_i hi
        split at ok
        · rename_i k hk
          split at ok
          · rename_i y hy
            obtain ⟨a, vs, rfl, h1, _, h2, h3⟩ := lcell_ok rel dv hc
            obtain ⟨v, hv, dy⟩ := h3.get hy
            exact ⟨a, vs, i, k, v, rfl, rfl, h2, hi.1, hi.2, by rw [← h3.length]; exact hk, hv, .inl (lwrite rel h1 h2 (dvs_erase k h3) dy ok)⟩
          · exact ok.elim
        · exact ok.elim
      · exact ok.elim
    · exact ok.elim
  · exact ok.elim
end
theorem cf_any {K : PySem.W.Frag} : CallF K (rAny K) (fAll fun bs => bs.any id) := by
  intro ds ρ μ H xs Q E rel dv ok
  unfold fAll at ok
  split at ok
  · obtain ⟨v, rfl, h⟩ := dv.one
    split at ok
    · rename_i bs hb
      obtain ⟨es, h1, h2⟩ := Option.bind_eq_some_iff.mp hb
      obtain ⟨a, vs, rfl, e2, e3⟩ := lstOf_ok rel h h1
      have := blsOf_ok e3 h2
      subst this
      exact ⟨a, bs, rfl, rd_sq e2, .inl (ok.now rel dv_bl)⟩
    · exact ok.elim
  · exact ok.elim
end Doz
end
section
namespace Doz
open PySem PySem.Spec PyProof.Rows
section
variable {prog : Program} {w : World} {A : Around} {E : Value → Shared → Prop} {s : Shared}
theorem walkT (hh : A.handled = none) (I ax : Addr) (hne : ax ≠ I) (items : Array Value) (i : Nat) :
    WalksS prog w A I [I, ax] [I] (fun a b => a = b) (items.size - i) (fun k v => items[i + k]? = some v) (fun k s => IsTupIter s.heap I ax (i + k) ∧ IsTup s.heap ax items) where
  sub := fun b hb => by simp at hb; simp [hb]
  grefl := fun _ => rfl
  gtrans := fun _ _ _ => Eq.trans
  frame := fun k s h' tk st _ hk => ⟨(let ⟨o, ho, r⟩ := st.1; ⟨o, hk I (by simp) o ho, r⟩), (let ⟨o, ho, r⟩ := st.2; ⟨o, hk ax (by simp) o ho, r⟩)⟩
  item := fun k s Q E hi st hQ => by
    have hlt : i + k < items.size := by omega
    refine next_tuple_item st.1 st.2 (x := items[i + k]) (by simp [hlt]) fun h' hit' hs' => ?_
    exact hQ _ { s with heap := h' } (by simp [hlt]) ⟨hit', st.2.extBut hs'.extBut hne⟩ ⟨fun b o hb e => hs'.extBut b o (fun h => hb (by simp [h])) e, rfl, rfl, rfl, Nat.le_refl _⟩
  done := fun s Q E st hQ => next_tuple_end hh st.1 st.2 (by simp; omega) fun h' he' => hQ { s with heap := h' } ⟨fun b o hb e => he' b o (fun h => hb (by simp [h])) e, rfl, rfl, rfl, Nat.le_refl _⟩
  self := fun _ _ _ _ st hQ => wpAny_pyIter_tupleiter st.1 hQ
theorem itemsOf_drop {items : Array Value} {i : Nat} {acc : Array Value} (hi : i ≤ items.size) (h : ItemsOf (fun k v => items[i + k]? = some v) acc (items.size - i)) : acc.toList = items.toList.drop i := by
  obtain ⟨h1, h2⟩ := h
  refine List.ext_getElem? fun j => ?_
  rw [Array.getElem?_toList, List.getElem?_drop, Array.getElem?_toList]
  by_cases hj : j < acc.size
  · have e : acc[j]? = some acc[j] := Array.getElem?_eq_getElem hj
    rw [e, h2 j _ e]
  · rw [Array.getElem?_eq_none (by omega), Array.getElem?_eq_none (by omega)]
theorem unpackItems_star {t : Addr} {items : Array Value} {n i : Nat} {Q : List Value → Shared → Prop} (hh : A.handled = none) (ht : IsTup s.heap t items) (hz : items.size ≤ sizeLine) (hi : i < n) (hn : n ≤ items.size + 1)
    (hQ : ∀ s1 : Shared, (∀ b o, s.heap.get? b = some o → s1.heap.get? b = some o) → s1 = { s with heap := s1.heap, toks := s1.toks } →
      Q (items.toList.take i ++ [.ref s1.heap.objs.size] ++ items.toList.drop (items.size - (n - 1 - i))) { s1 with heap := s1.heap.push { cls := .type "list", data := .seq ((items.toList.drop i).take (items.size - (n - 1))).toArray } }) :
    wpAny (model prog w) A (unpackItems (.ref t) n (some i)) Q E s := by
  have hlt : t ≠ s.heap.objs.size := by obtain ⟨o, ho, _⟩ := ht; exact Nat.ne_of_lt (Heap.lt_size ho)
  unfold unpackItems
  refine wpAny_bind ?_
  unfold notIterableAtAll
  refine wpAny_bind (wpAny_specialOf ht.typeIs slot_tuple_iter.lookup ?_)
  refine wpAny_pure ?_
  simp only [Bool.false_eq_true, if_false]
  refine wpAny_bind (wpAny_holding (iter_tuple ht ?_))
  refine wpAny_bind (wpAny_holding (draw_tuple hlt i 0 _ _ ⟨_, Heap.get?_push_size _ rfl, rfl, rfl⟩ (ht.push _) (by omega) fun h₁ hit₁ hs₁ => ?_))
  have e0 : ((items.toList.drop 0).take i).length = i := by simp; omega
  rw [if_neg (by rw [e0]; omega)]
  rw [List.drop_zero]
  have ht₁ : IsTup h₁ t items := (ht.push _).extBut hs₁.extBut hlt
  have hs0 : s.heap.objs.size < h₁.objs.size := by
    obtain ⟨o, ho, _⟩ := hit₁
    exact Heap.lt_size ho
  have ht0 : t < h₁.objs.size := by
    obtain ⟨o, ho, _⟩ := ht₁
    exact Heap.lt_size ho
  have W := walkT (prog := prog) (w := w) (A := A.in1) hh s.heap.objs.size t hlt items i
  refine wpAny_bind (wpAny_holding (wpAny_collect_iter (T := "tuple_iterator") (n := items.size - i) (.inr (.inr (.inr rfl))) W (fun k s st => st.1.typeIs) ⟨by rw [Nat.zero_add] at hit₁; exact hit₁, ht₁⟩ (fun b hb => by simp at hb; rcases hb with rfl | rfl <;> assumption) (by simp) (fun s2 acc mv it => ?_) (by omega)))
  rw [itemsOf_drop (by omega) it]
  have el : (items.toList.drop i).length = items.size - i := by simp
  rw [if_neg (by rw [el]; omega), el]
  have em : items.size - i - (n - 1 - i) = items.size - (n - 1) := by omega
  rw [em]
  refine wpAny_bind (wpAny_newObj_type (wpAny_pure ?_) (by show (List.toArray _).size ≤ sizeLine; rw [List.size_toArray, List.length_take]; simp; omega))
  have ed : (items.toList.drop i).drop (items.size - (n - 1)) = items.toList.drop (items.size - (n - 1 - i)) := by rw [List.drop_drop]; congr 1; omega
  rw [ed]
  refine hQ s2 (fun b o e => mv.heap b o ?_ ?_) ?_
  · simp; exact Nat.ne_of_lt (Heap.lt_size e)
  · exact hs₁.extBut b o (Nat.ne_of_lt (Heap.lt_size e)) (Heap.get?_push_of_some _ e)
  · have g := mv.gens
    have d := mv.drawn
    have os := mv.os
    cases s2
    cases s
    simp at g d os
    simp [g, d, os]
end
end Doz
namespace Doz
open PySem L2 PyProof.Rows
section
variable {X : Cx} {hx : Option HX} {W : WX} {pos : Pos}
theorem pgs_star {e : Expr} {p : Pos} {es : List Expr} {t : TG} {u : TGs} (h1 : PG X e t) (h2 : PGs X es u) : PGs X (.Starred e p :: es) (gCons t u) := by
  refine ⟨fun pins s σ H vs us Q I r h => ?_⟩
  obtain ⟨v, vr, e1, h⟩ := h
  subst e1
  cases r with
  | cons r rr =>
    have hs : (assignEach (.Starred e p :: es) X.env).map (·.2) = assign e X.env :: (assignEach es X.env).map (·.2) := by rfl
    rw [hs]
    refine assignInOrder_cons (thn (h1.run pins s σ H _ _ _ I r h) fun _ s1 ⟨σ1, H1, I1, q1⟩ => ?_)
    exact h2.run pins s1 σ1 H1 _ _ Q I1 rr q1
def gStarF (K : PySem.W.Frag) (n i : Nat) (t : TGs) : TG := fun v σ H Q => ∃ a xs, v = .ref a ∧ SqT K H a xs ∧ n ≤ xs.length + 1 ∧ ∀ p, H p = none → ∀ o, t (xs.take i ++ [.ref p] ++ xs.drop (xs.length - (n - 1 - i))) σ (upd H p (.frz o (.lst ((xs.drop i).take (xs.length - (n - 1)))))) Q
theorem vals_take : ∀ {xs : List V} {us : List Value} (n : Nat), Vals xs us → Vals (xs.take n) (us.take n)
  | _, _, 0, _ => .nil
  | _, _, _ + 1, .nil => .nil
  | _, _, n + 1, .cons r rr => .cons r (vals_take n rr)
theorem vals_drop : ∀ {xs : List V} {us : List Value} (n : Nat), Vals xs us → Vals (xs.drop n) (us.drop n)
  | _, _, 0, h => h
  | _, _, _ + 1, .nil => .nil
  | _, _, n + 1, .cons _ rr => vals_drop n rr
theorem vals_app : ∀ {xs ys : List V} {us ws : List Value}, Vals xs us → Vals ys ws → Vals (xs ++ ys) (us ++ ws)
  | _, _, _, _, .nil, h => h
  | _, _, _, _, .cons r rr, h => .cons r (vals_app rr h)
theorem pg_starF {es : List Expr} {k : Nat} {t : TGs} {n i : Nat} (hc : X.calm = true) (h : PGs X es t) (hi : i < n)
    (hn : (assignEach es X.env).length = n := by rfl) (hst : (assignEach es X.env).findIdx? (·.1) = some i := by rfl) : PG X (.Tuple es k pos) (gStarF X.K n i t) := by
  refine ⟨fun pins s σ H v u Q I r hw => ?_⟩
  obtain ⟨a, xs, e1, hq, hl, hw⟩ := hw
  subst e1
  cases r
  obtain ⟨its, rv, ht, hz⟩ := I.tuple hq
  rw [assign_Tuple]
  refine wpAny_bind (wpAny_standAt ?_)
  unfold unpack
  rw [hn, hst]
  have el : xs.length = its.length := rv.length
  refine wpAny_bind (wpAny_holding (unpackItems_star (items := its.toArray) (I.ok.hd hc) ht (by simpa [← el] using hz) hi (by simpa [← el] using hl) fun s1 hx he => ?_))
  have I1 : Inv X pins σ H s1 := by rw [he]; exact I.kept hx
  have hD : H s1.heap.objs.size = none := I1.hok.fresh (Nat.le_refl _)
  have em : its.toArray.size = xs.length := by simpa using el.symm
  have rl : Vals ((xs.drop i).take (xs.length - (n - 1))) ((its.drop i).take (xs.length - (n - 1))) := vals_take _ (vals_drop _ rv)
  have I2 : Inv X pins σ (upd H s1.heap.objs.size (.lst ((xs.drop i).take (xs.length - (n - 1))))) { s1 with heap := s1.heap.push { cls := .type "list", data := .seq ((its.drop i).take (xs.length - (n - 1))).toArray } } := by
    refine I1.laid (t' := s1.toks) (fun b o e => Heap.get?_push_of_some _ e) (Nat.le_refl _) ⟨?_, (its.drop i).take (xs.length - (n - 1)), 0, rl, ?_⟩
    · simp; have : its.length ≤ sizeLine := by rw [← el]; exact hz
      omega
    · exact Heap.get?_push_size _ rfl
  obtain ⟨o, I3⟩ := I2.lock (d := s1.heap.objs.size) upd_same True.intro
  have e3 : upd (upd H s1.heap.objs.size (.lst ((xs.drop i).take (xs.length - (n - 1))))) s1.heap.objs.size (.frz o (.lst ((xs.drop i).take (xs.length - (n - 1))))) = upd H s1.heap.objs.size (.frz o (.lst ((xs.drop i).take (xs.length - (n - 1))))) := by
    funext b
    by_cases hb : b = s1.heap.objs.size
    · subst hb; rw [upd_same, upd_same]
    · rw [upd_ne hb, upd_ne hb, upd_ne hb]
  rw [e3] at I3
  rw [em]
  exact h.run pins _ σ _ _ _ Q I3 (vals_app (vals_app (vals_take i rv) (.cons (show RelV (.ref s1.heap.objs.size) (.ref s1.heap.objs.size) from rfl) .nil)) (vals_drop _ rv)) (hw _ hD o)
def gstar (n i : Nat) (gs : MGs) : MG := fun d δ μ => match d with
  | .tup ds => if n ≤ ds.length + 1 then match gs (ds.take i ++ [.lst ((ds.drop i).take (ds.length - (n - 1)))] ++ ds.drop (ds.length - (n - 1 - i))) δ μ with
      | .ok δ1 μ1 => .ok δ1 μ1
      | _ => .bad
    else .bad
  | _ => .bad
theorem rgs_star {tg : Expr} {p : Pos} {tgs : List Expr} {g : MG} {gs : MGs} (h1 : RG X hx W tg g) (h2 : RGs X hx W tgs gs) : RGs X hx W (.Starred tg p :: tgs) (gcons g gs) := by
  obtain ⟨t, p, r⟩ := h1.ex
  obtain ⟨u, q, s⟩ := h2.ex
  refine ⟨⟨_, pgs_star p q, fun ρ μ δ σ H ds vs Q rel env dv ok => ?_⟩⟩
  unfold gcons at ok
  split at ok
  · rename_i d rst
    simp only [DVs] at dv
    obtain ⟨v, vr, rfl, d1, d2⟩ := dv
    refine ⟨v, vr, rfl, r ρ μ δ σ H d v _ rel env d1 ?_⟩
    split at ok
    · rename_i δ1 μ1 e1
      rw [e1]
      intro ρ' H' σ' pr fz rel' env'
      refine s ρ' μ1 δ1 σ' H' rst vr Q rel' env' (d2.mono pr fz) ?_
      revert ok
      cases gs rst δ1 μ1 with
      | ok δ2 μ2 => exact fun ok ρ2 H2 σ2 p2 f2 => ok ρ2 H2 σ2 (pr.trans p2) (fz.trans f2)
      | err _ _ _ => exact id
      | bad => exact id
    · exact ok.elim
  · exact ok.elim
theorem rg_star {tgs : List Expr} {gs : MGs} {n i k : Nat} (hc : X.calm = true) (h : RGs X hx W tgs gs) (hi : i < n := by decide) (hn : (assignEach tgs X.env).length = n := by rfl) (hst : (assignEach tgs X.env).findIdx? (·.1) = some i := by rfl) : RG X hx W (.Tuple tgs k pos) (gstar n i gs) := by
  obtain ⟨t, p, r⟩ := h.ex
  refine ⟨⟨_, pg_starF hc p hi hn hst, fun ρ μ δ σ H d v Q rel env dv ok => ?_⟩⟩
  unfold gstar at ok
  split at ok
  · split at ok
    · rename_i ds hl
      obtain ⟨a, vs, rfl, h1, h2⟩ := tup_ok dv
      have el := h2.length
      refine ⟨a, vs, rfl, h1.sq, by omega, fun p hp o => ?_⟩
      rw [← el]
      have f0 : Fz ρ ρ H (upd H p (.frz o (.lst ((vs.drop i).take (ds.length - (n - 1)))))) := Fz.new hp
      have dl : DV X.K ρ (upd H p (.frz o (.lst ((vs.drop i).take (ds.length - (n - 1)))))) (.lst ((ds.drop i).take (ds.length - (n - 1)))) (.ref p) := by
        simp only [DV]
        exact ⟨p, _, rfl, .inl ⟨o, upd_same⟩, ((h2.drop i).take _).mono (Pre.refl _) f0⟩
      have hd := h2.mono (Pre.refl _) f0
      refine r ρ μ δ σ _ _ _ Q (rel.alloc hp) (env.mono (Pre.refl _) f0) (((hd.take i).app (.cons dl .nil)).app (hd.drop _)) ?_
      split at ok
      · rename_i e1
        rw [e1]
        exact fun ρ' H' σ' pr fz => ok ρ' H' σ' pr (f0.trans fz)
      · exact ok.elim
    · exact ok.elim
  · exact ok.elim
end
end Doz
end
section
namespace Doz
open PySem PySem.Spec PyProof.Rows L2
abbrev dcx (kx vx t0 i0 t1 i1 : Expr) (c0 c1 : List Expr) (sc : Scope) (ps : Pos) : Expr := .DictComp kx vx [⟨t0, i0, c0, 0⟩, ⟨t1, i1, c1, 0⟩] sc ps
abbrev testsD (cs : List Expr) (env : Env) : Sem Bool := forIn cs true fun c r => if r = true then do let k ← isTrue c env (eval c env); pure (ForInStep.yield k) else pure (ForInStep.yield r)
section
variable {kx vx t0 i0 t1 i1 : Expr} {c0 c1 : List Expr} {sc : Scope} {ps : Pos}
theorem dturn0 (it acc : Value) (env : Env) : compTurn (dcx kx vx t0 i0 t1 i1 c0 c1 sc ps) 0 it acc env = (do
      standAt i0.pos
      match ← pyNext it with
      | none => pure (.done .next)
      | some v =>
        letOwnedTupleGo t0 it v
        assign t0 env v
        let mut k := true
        for c in c0 do
          if k then k ← isTrue c env (eval c env)
        if k then
          let z ← eval i1 env
          standAt i1.pos
          let z ← foldedSetIterable i1 env z
          let _ ← runOwn (.compStart (dcx kx vx t0 i0 t1 i1 c0 c1 sc ps) 1 (← holding [z] (pyIter z)) acc env) env
        again (.compLoop (dcx kx vx t0 i0 t1 i1 c0 c1 sc ps) 0 it acc env)) := by rfl
theorem dturn1 (it : Value) (Da : Addr) (env : Env) : compTurn (dcx kx vx t0 i0 t1 i1 c0 c1 sc ps) 1 it (.ref Da) env = (do
      standAt i1.pos
      match ← pyNext it with
      | none => pure (.done .next)
      | some v =>
        letOwnedTupleGo t1 it v
        assign t1 env v
        let mut k := true
        for c in c1 do
          if k then k ← isTrue c env (eval c env)
        if k then
          (do
            let a ← eval kx env
            let b ← holding [a] (eval vx env)
            standAt { kx.pos with endLine := vx.pos.endLine, endCol := vx.pos.endCol }
            holding [a, b] (dictSet Da a b))
        again (.compLoop (dcx kx vx t0 i0 t1 i1 c0 c1 sc ps) 1 it (.ref Da) env)) := by rfl
end
section
variable {prog : Program} {w : World} {A : Around} {R : Result → Shared → Prop} {s : Shared} {kx vx t0 i0 t1 i1 : Expr} {c0 c1 : List Expr} {sc : Scope} {ps : Pos} {it acc : Value} {Da : Addr} {env : Env}
abbrev errW (prog : Program) (w : World) (A : Around) (env : Env) (R : Result → Shared → Prop) : Value → Shared → Prop := notedBy (model prog w) A env fun x s' => R (.error x) s'
theorem dloop0 (hfs : ∀ x, foldedSetIterable i1 env x = pure x) (J : Nat → Shared → Prop)
    (step : ∀ n s, J n s → wpAny (model prog w) A (pyNext it) (fun r s1 => match r with
      | none => R (.ok .next) s1
      | some v => wpAny (model prog w) A (letOwnedTupleGo t0 it v) (fun _ s2 => wpAny (model prog w) A (assign t0 env v) (fun _ s3 => wpAny (model prog w) A (testsD c0 env) (fun k s4 =>
          if k = true then wpAny (model prog w) A (eval i1 env) (fun z s5 => wpAny (model prog w) A (pyIter z) (fun it1 s6 =>
              codeAny (model prog w) A (.compStart (dcx kx vx t0 i0 t1 i1 c0 c1 sc ps) 1 it1 acc env) (fun r s' => match r with
                | .ok _ => ∃ m, m < n ∧ J m s'
                | .error _ => False) s6) (errW prog w A env R) s5) (errW prog w A env R) s4
          else ∃ m, m < n ∧ J m s4) (errW prog w A env R) s3) (errW prog w A env R) s2) (errW prog w A env R) s1) (errW prog w A env R) s)
    (n : Nat) (h : J n s) : codeAny (model prog w) A (.compLoop (dcx kx vx t0 i0 t1 i1 c0 c1 sc ps) 0 it acc env) R s := by
  refine codeAny_loop rfl J (fun n s hJ => ?_) n h
  show wpAny _ A ((compTurn (dcx kx vx t0 i0 t1 i1 c0 c1 sc ps) 0 it acc env).onRaise (fun x => do noteFrame x env; theTreesLotGoes x)) _ _ s
  refine wpAny_noted ?_
  rw [dturn0]
  refine wpAny_bind (wpAny_standAt (wpAny_bind (wpAny_mono (step n s hJ) (fun r s1 g1 => ?_) fun _ _ z => z)))
  cases r with
  | none => exact wpAny_pure g1
  | some v =>
    refine wpAny_bind (wpAny_mono g1 (fun _ s2 g2 => ?_) fun _ _ z => z)
    refine wpAny_bind (wpAny_mono g2 (fun _ s3 g3 => wpAny_bind (wpAny_mono g3 (fun k s4 g4 => ?_) fun _ _ z => z)) fun _ _ z => z)
    cases k with
    | false => exact wpAny_pure ⟨rfl, g4⟩
    | true =>
      refine wpAny_bind (wpAny_mono g4 (fun x s5 g5 => ?_) fun _ _ z => z)
      refine wpAny_bind (wpAny_standAt (wpAny_bind (wpAny_of_eq (hfs x) (wpAny_bind (wpAny_holding (wpAny_mono g5 (fun jt s6 g6 => ?_) fun _ _ z => z))))))
      refine wpAny_bind (wpAny_runOwn ?_)
      rw [Around.mark_none]
      refine codeAny_mono g6 fun r s' gr => ?_
      cases r with
      | ok f => first
          | exact wpAny_pure ⟨rfl, gr⟩
          | exact wpAny_bind (wpAny_pure (wpAny_pure ⟨rfl, gr⟩))
      | error e => exact gr.elim
theorem dloop1 (J : Nat → Shared → Prop)
    (step : ∀ n s, J n s → wpAny (model prog w) A (pyNext it) (fun r s1 => match r with
      | none => R (.ok .next) s1
      | some v => wpAny (model prog w) A (letOwnedTupleGo t1 it v) (fun _ s2 => wpAny (model prog w) A (assign t1 env v) (fun _ s3 => wpAny (model prog w) A (testsD c1 env) (fun k s4 =>
          if k = true then wpAny (model prog w) A (eval kx env) (fun a s5 => wpAny (model prog w) A (eval vx env) (fun b s6 =>
              wpAny (model prog w) A (dictSet Da a b) (fun _ s7 => ∃ m, m < n ∧ J m s7) (errW prog w A env R) s6) (errW prog w A env R) s5) (errW prog w A env R) s4
          else ∃ m, m < n ∧ J m s4) (errW prog w A env R) s3) (errW prog w A env R) s2) (errW prog w A env R) s1) (errW prog w A env R) s)
    (n : Nat) (h : J n s) : codeAny (model prog w) A (.compLoop (dcx kx vx t0 i0 t1 i1 c0 c1 sc ps) 1 it (.ref Da) env) R s := by
  refine codeAny_loop rfl J (fun n s hJ => ?_) n h
  show wpAny _ A ((compTurn (dcx kx vx t0 i0 t1 i1 c0 c1 sc ps) 1 it (.ref Da) env).onRaise (fun x => do noteFrame x env; theTreesLotGoes x)) _ _ s
  refine wpAny_noted ?_
  rw [dturn1]
  refine wpAny_bind (wpAny_standAt (wpAny_bind (wpAny_mono (step n s hJ) (fun r s1 g1 => ?_) fun _ _ z => z)))
  cases r with
  | none => exact wpAny_pure g1
  | some v =>
    refine wpAny_bind (wpAny_mono g1 (fun _ s2 g2 => ?_) fun _ _ z => z)
    refine wpAny_bind (wpAny_mono g2 (fun _ s3 g3 => wpAny_bind (wpAny_mono g3 (fun k s4 g4 => ?_) fun _ _ z => z)) fun _ _ z => z)
    cases k with
    | false => exact wpAny_pure ⟨rfl, g4⟩
    | true =>
      refine wpAny_bind (wpAny_bind (wpAny_mono g4 (fun a s5 g5 => ?_) fun _ _ z => z))
      refine wpAny_bind (wpAny_holding (wpAny_mono g5 (fun b s6 g6 => ?_) fun _ _ z => z))
      exact wpAny_bind (wpAny_standAt (wpAny_holding (wpAny_mono g6 (fun _ s7 g7 => wpAny_pure ⟨rfl, g7⟩) fun _ _ z => z)))
theorem dstart1 (h0 : codeAny (model prog w) A (.compLoop (dcx kx vx t0 i0 t1 i1 c0 c1 sc ps) 1 it acc env) R s)
    (h : wpAny (model prog w) A (pyIter it) (fun jt s' => codeAny (model prog w) A (.compLoop (dcx kx vx t0 i0 t1 i1 c0 c1 sc ps) 1 jt acc env) R s') (errW prog w A env R) s) :
    codeAny (model prog w) A (.compStart (dcx kx vx t0 i0 t1 i1 c0 c1 sc ps) 1 it acc env) R s := by
  refine codeAny_of_tree ?_
  show wpAny _ _ ((compStart (dcx kx vx t0 i0 t1 i1 c0 c1 sc ps) 1 it acc env).onRaise (fun x => do noteFrame x env; standAt theWindowsPlace)) _ _ s
  refine wpAny_notedAt ?_
  unfold compStart
  show wpAny _ _ (ask >>= _) _ _ s
  refine wpAny_bind (wpAny_askSetting (wpAny_ite ?_))
  split
  · first
      | exact wpAny_bind (wpAny_pure (wpAny_pure (And.intro rfl h0)))
      | exact wpAny_pure (And.intro rfl h0)
  · first
      | exact wpAny_bind (wpAny_rule (wpAny_bind (wpAny_standAt (wpAny_bind (wpAny_mono h (fun jt s' g => wpAny_pure (And.intro rfl g)) fun _ _ x => x)))))
      | (refine wpAny_bind (wpAny_rule ?_); show wpAny _ _ (standAt i1.pos >>= _) _ _ s; exact wpAny_bind (wpAny_standAt (wpAny_bind (wpAny_mono h (fun jt s' g => wpAny_pure (And.intro rfl g)) fun _ _ x => x))))
end
section
variable {X : Cx}
def tDc2 (wi : TI) (g : TG) (tt : TT) (wj : TI) (g1 : TG) (tt1 : TT) (tk tv : TE) (vs vs1 : List Nat) : TE := fun σ H Q => wi σ H fun J H1 => ∀ Da, H1 Da = none → ∃ U : Nat → Nat → Hp → Prop, (∃ m, U 0 m (upd H1 Da (.dK []))) ∧ ∀ i m H, U i m H →
  (J.stop i H ∧ Q (.ref Da) H) ∨ (J.go i H ∧ ∃ Nx : Hp → Prop, (∀ H', Nx H' → ∃ m', m' < m ∧ U (i + 1) m' H') ∧ ∀ x H', J.yld i H x H' → g x (L2.wipe σ vs) H' fun σ2 H2 => L2.wipe σ2 vs = L2.wipe σ vs ∧ tt σ2 H2 fun b H3 =>
    if b = true then wj σ2 H3 fun J1 H4 => ∃ U1 : Nat → Nat → Hp → Prop, (∃ m, U1 0 m H4) ∧ ∀ j k H, U1 j k H →
      (J1.stop j H ∧ Nx H) ∨ (J1.go j H ∧ ∃ Nx1 : Hp → Prop, (∀ H', Nx1 H' → ∃ k', k' < k ∧ U1 (j + 1) k' H') ∧ ∀ x H', J1.yld j H x H' → g1 x (L2.wipe σ2 vs1) H' fun σ3 H5 => L2.wipe σ3 vs1 = L2.wipe σ2 vs1 ∧ tt1 σ3 H5 fun b H6 =>
        if b = true then tk σ3 H6 fun y H7 => tv σ3 H7 fun z H8 => ∃ kvs k, y = kV k ∧ H8 Da = some (.dK kvs) ∧ kvs.length < sizeLine ∧ Nx1 (upd H8 Da (.dK (putK kvs k z))) else Nx1 H6)
    else Nx H3)
abbrev InB (X : Cx) (sc : Scope) (P : Cx → Prop) : Prop := ∀ (s : Shared) (H : Hp) (C : Addr) (cl : List (Str × Addr)) (fp : List Addr), P (X.blk s H sc (compEnvC sc cl C X.env) fp)
variable {kx vx t0 i0 t1 i1 : Expr} {c0 c1 : List Expr} {sc : Scope} {ps : Pos} {own : List (Str × Nat)} {vs1 : List Nat} {wi wj : TI} {g g1 : TG} {tt tt1 : TT} {tk tv : TE}
theorem dc2_core {pins : List (Addr × Obj)} {s : Shared} {σ : L2.St} {H : Hp} {Q : VK} {pos' : Pos} {use : Option (Value → Sem Unit)} {Qf : Value → Shared → Prop}
    (hc : X.calm = true) (hN : X.N.Nodup) (I : L2.Inv X pins σ H s) (hi : PI X t0 i0 wi) (ok : BlkOk X.N X.env.scope sc own) (hv : ∀ i ∈ vs1, i ∈ own.map (·.2))
    (hg : InB X sc fun Y => PG Y t0 g) (ht : InB X sc fun Y => PTs Y c0 tt) (hi1 : InB X sc fun Y => PI Y t1 i1 wj) (hg1 : InB X sc fun Y => PG Y t1 g1) (ht1 : InB X sc fun Y => PTs Y c1 tt1) (hk : InB X sc fun Y => PE Y kx tk) (he : InB X sc fun Y => PE Y vx tv)
    (hs : ∀ x, foldedSetIterable i0 X.env x = pure x) (hs1 : ∀ env x, foldedSetIterable i1 env x = pure x) (h : tDc2 wi g tt wj g1 tt1 tk tv (own.map (·.2)) vs1 σ H Q)
    (hRR : ∀ Da C s' m H', L2.Inv X pins σ H' s' → Q (.ref Da) H' → s'.heap.Ns C m → FpOk X pins H' C → compPost (model X.prog X.w) X.A X.xe use Qf (.ref Da) C (.ok .next) s') :
    wpAny (model X.prog X.w) X.A (comprehension (dcx kx vx t0 i0 t1 i1 c0 c1 sc ps) sc X.env pos' newDict false (eval i0 X.env) use) Qf X.xe s := by
  have hfr : ∀ y ∈ sc.names, y.2 = .free → ∃ c, X.env.cells.lookup y.1 = some c := fun y hy e => (ok.free y hy e).elim (fun k => I.ok.has _ (.inl k)) fun k => I.ok.has _ (.inr k)
  refine wpAny_comprehension_free (use := use) rfl hs (closure_ok hfr) ok.kind (fun y hy e => by rw [ok.uniq y hy, e]) (thn (hi.run pins s σ H _ I h) fun xv s1 hx1 => thn hx1 fun itv s2 h2 => ?_)
  obtain ⟨it, fp, tn, J, H2, rfl, I2, T, st2, f2, q⟩ := h2
  refine wpAny_newObj_type (newEnv_comp ?_)
  generalize eD : s2.heap.objs.size = Da
  have nD : H2 Da = none := I2.hok.fresh (Nat.le_of_eq eD)
  obtain ⟨U, ⟨m0, u0⟩, turn⟩ := q Da nD
  -- the dict that is made
  generalize e3 : ({ s2 with heap := s2.heap.push { cls := .type "dict", data := .dict #[] } } : Shared) = s3
  have p3 : s3.heap = s2.heap.push { cls := .type "dict", data := .dict #[] } := by rw [← e3]
  have I3 : L2.Inv X pins σ (upd H2 Da (.dK [])) s3 := by
    subst e3
    refine I2.laid (t' := s2.toks) (fun b o e => Heap.get?_push_of_some _ e) (Nat.le_of_eq eD) ?_
    subst eD
    exact dk_empty s2.heap I2.big
  have f3 : ∀ b ∈ fp, FpOk X pins (upd H2 Da (.dK [])) b ∧ b < s3.heap.objs.size := fun b hb => by
    obtain ⟨o, e, _⟩ := T.obj _ _ st2 b hb
    have lt := Heap.lt_size e
    exact ⟨⟨by rw [upd_ne (by rw [← eD]; exact Nat.ne_of_lt lt)]; exact (f2 b hb).1, (f2 b hb).2⟩, by rw [p3, Heap.size_push]; exact Nat.lt_succ_of_lt lt⟩
  have st3 : tn 0 s3.heap := T.keep _ _ _ st2 fun b _ o e => by rw [p3]; exact Heap.get?_push_of_some _ e
  have I4 := block_start I3 ok hN f3
  generalize ecl : cellsFrom (s3.heap.objs.size + 1) sc.names (cloFrom X.env.cells sc.names []) = cl at I4 ⊢
  have bk := And.intro (hg s3 (upd H2 Da (.dK [])) s3.heap.objs.size cl fp) (And.intro (ht s3 (upd H2 Da (.dK [])) s3.heap.objs.size cl fp) (And.intro (hi1 s3 (upd H2 Da (.dK [])) s3.heap.objs.size cl fp) (And.intro (hg1 s3 (upd H2 Da (.dK [])) s3.heap.objs.size cl fp)
    (And.intro (ht1 s3 (upd H2 Da (.dK [])) s3.heap.objs.size cl fp) (And.intro (hk s3 (upd H2 Da (.dK [])) s3.heap.objs.size cl fp) (he s3 (upd H2 Da (.dK [])) s3.heap.objs.size cl fp))))))
  show codeAny _ _ (.compStart (dcx kx vx t0 i0 t1 i1 c0 c1 sc ps) 0 (.ref it) (.ref Da) (compEnvC sc cl s3.heap.objs.size X.env)) (compPost (model X.prog X.w) X.A X.xe use Qf (.ref Da) s3.heap.objs.size) { s3 with heap := pushCells (s3.heap.push { cls := .type "dict", data := .dict #[] }) sc.names }
  have z3 : ∀ b ∈ fp, (upd H2 Da (.dK [])) b = none := fun b hb => (f3 b hb).1.1
  generalize ee : compEnvC sc cl s3.heap.objs.size X.env = ce at I4 bk ⊢
  have lC : ce.locals = s3.heap.objs.size := by subst ee; rfl
  generalize eH : upd H2 Da (.dK []) = H3 at I3 I4 bk u0 z3 f3
  generalize e4 : ({ s3 with heap := pushCells (s3.heap.push { cls := .type "dict", data := .dict #[] }) sc.names } : Shared) = s4 at I4 ⊢
  have st4 : tn 0 s4.heap := T.keep _ _ _ st3 fun b _ o e => by rw [← e4]; exact pushCells_keeps _ _ _ _ (Heap.get?_push_of_some _ e)
  obtain ⟨pg, pt, pj, pg1, pt1, pk, pv⟩ := bk
  have pinless : ∀ {σ' : L2.St} {H' : Hp} {s' : Shared}, L2.Inv (X.blk s3 H3 sc ce fp) [] σ' H' s' → (∀ b ∈ fp, H' b = none) → ∀ b ∈ fp, FpOk (X.blk s3 H3 sc ce fp) [] H' b := fun {σ' H' s'} K' hn b hb =>
    ⟨hn b hb, (K'.ok.exf b hb).1, K'.ok.exfs b hb, .inl hb, fun x c e => (K'.ok.exf b hb).2 x c e, fun p hp => absurd (show p ∈ ([] : List (Addr × Obj)) ++ [] from hp) (by simp)⟩
  let Jv : Nat → Shared → Prop := fun n s' => ∃ i H', L2.Inv (X.blk s3 H3 sc ce fp) [] (L2.wipe σ (own.map (·.2))) H' s' ∧ tn i s'.heap ∧ (∀ b ∈ fp, H' b = none) ∧ U i n H'
  have loop : codeAny (model X.prog X.w) X.A (.compLoop (dcx kx vx t0 i0 t1 i1 c0 c1 sc ps) 0 (.ref it) (.ref Da) ce) (compPost (model X.prog X.w) X.A X.xe use Qf (.ref Da) s3.heap.objs.size) s4 := by
    refine dloop0 (hs1 ce) Jv ?_ m0 ⟨0, H3, I4, st4, z3, u0⟩
    rintro n s5 ⟨i, H5, I5, st5, z5, u5⟩
    rcases turn i n H5 u5 with ⟨stop, qq⟩ | ⟨go, Nx, hNx, step⟩
    · refine thnF (T.done (X.blk s3 H3 sc ce fp) rfl rfl rfl hc i [] s5 _ H5 (fun _ _ => False) I5 (pinless I5 z5) st5 stop) fun r s6 ⟨hr, I6⟩ => ?_
      subst hr
      have I7 : L2.Inv X pins σ H5 s6 := I3.call' (ch := fp) I6.os I6.base I6.hok I6.bare fun b hb => ⟨(f3 b hb).1.2.2.2.1, (f3 b hb).1.2.1, (f3 b hb).1.2.2.2.2.1, (f3 b hb).1.2.2.2.2.2⟩
      have nC : H5 ce.locals = none := I6.free
      obtain ⟨m, hn, _⟩ := I6.loc
      have hn : s6.heap.Ns ce.locals m := hn
      rw [lC] at hn nC
      exact hRR Da s3.heap.objs.size s6 m H5 I7 qq hn (I3.fpOk (Nat.le_refl _) nC)
    · refine thnF (T.item (X.blk s3 H3 sc ce fp) rfl rfl rfl hc i [] s5 _ H5 (fun _ _ => False) I5 (pinless I5 z5) st5 go) fun r s6 ⟨u, hr, h6⟩ => ?_
      subst hr
      refine thnF h6 fun _ s7 ⟨x, H7, I7, r7, y7, st7, z7⟩ => ?_
      refine thnF (pg.run _ s7 _ H7 x u _ (I7.pinned (pinless I7 z7) (T.obj _ _ st7)) r7 (step x H7 y7)) fun _ s8 ⟨σ8, H8, I8, w8, q8⟩ => ?_
      refine thnF (pt.run _ s8 σ8 H8 _ I8 q8) fun b s9 ⟨H9, I9, q9⟩ => ?_
      -- the end of a turn of the first clause
      have back : ∀ {σ9 : L2.St} {s' : Shared} {H' : Hp}, L2.Inv (X.blk s3 H3 sc ce fp) ([] ++ pinsAt fp s7.heap) σ9 H' s' → (L2.wipe σ (own.map (·.2))).length = σ9.length → (∀ (j : Nat) v, (L2.wipe σ (own.map (·.2)))[j]? = some (some v) → σ9[j]? = some (some v)) → Nx H' → ∃ m, m < n ∧ Jv m s' := fun {σ9 s' H'} K' hl hk nx => by
        obtain ⟨m', hm, u'⟩ := hNx H' nx
        have kept : ∀ b ∈ fp, ∀ o, s7.heap.get? b = some o → s'.heap.get? b = some o ∧ H' b = none := fun b hb o e =>
          have z := K'.pin (b, o) (List.mem_append_right _ (List.mem_append_right _ (mem_pinsAt hb e)))
          ⟨z.1, z.2.1⟩
        exact ⟨m', hm, i + 1, H', (K'.unpinned (pins := [])).weak hl hk, T.keep _ _ _ st7 fun b hb o e => (kept b hb o e).1, fun b hb => (let ⟨o, e, _⟩ := T.obj _ _ st7 b hb; (kept b hb o e).2), u'⟩
      have l8 : (L2.wipe σ (own.map (·.2))).length = σ8.length := by rw [← w8, wipe_length]
      have k8 : ∀ (j : Nat) v, (L2.wipe σ (own.map (·.2)))[j]? = some (some v) → σ8[j]? = some (some v) ∧ j ∉ own.map (·.2) := fun j v e => by
        rw [← w8] at e
        exact wipe_some e
      cases b with
      | false =>
        rw [if_neg (by simp)] at q9 ⊢
        exact back I9 l8 (fun j v e => (k8 j v e).1) q9
      | true =>
        rw [if_pos rfl] at q9 ⊢
        refine thnF (pj.run _ s9 σ8 H9 _ I9 q9) fun xv s10 hx2 => thnF hx2 fun itv s11 h11 => ?_
        obtain ⟨jt, fq, tq, J1, H11, rfl, I11, T1, st11, f11, U1, ⟨m1, u1⟩, turn1⟩ := h11
        have pinned1 : ∀ {H' : Hp}, (∀ b ∈ fq, H' b = none) → ∀ b ∈ fq, FpOk (X.blk s3 H3 sc ce fp) ([] ++ pinsAt fp s7.heap) H' b := fun hn b hb => ⟨hn b hb, (f11 b hb).2⟩
        let Kv : Nat → Shared → Prop := fun k s' => ∃ j H', L2.Inv (X.blk s3 H3 sc ce fp) ([] ++ pinsAt fp s7.heap) (L2.wipe σ8 vs1) H' s' ∧ tq j s'.heap ∧ (∀ b ∈ fq, H' b = none) ∧ U1 j k H'
        have inner : codeAny (model X.prog X.w) X.A (.compLoop (dcx kx vx t0 i0 t1 i1 c0 c1 sc ps) 1 (.ref jt) (.ref Da) ce) (fun r s' => match r with
              | .ok _ => ∃ m, m < n ∧ Jv m s'
              | .error _ => False) s11 := by
          refine dloop1 Kv ?_ m1 ⟨0, H11, I11.weak (wipe_length _ _) (fun j v e => (wipe_some e).1), st11, fun b hb => (f11 b hb).1, u1⟩
          rintro k s12 ⟨j, H12, I12, st12, z12, u12⟩
          rcases turn1 j k H12 u12 with ⟨stop1, nx1⟩ | ⟨go1, Nx1, hNx1, step1⟩
          · refine thnF (T1.done (X.blk s3 H3 sc ce fp) rfl rfl rfl hc j _ s12 (L2.wipe σ8 vs1) H12 (fun _ _ => False) I12 (pinned1 z12) st12 stop1) fun r s13 ⟨hr, I13⟩ => ?_
            subst hr
            exact back I13 (l8.trans (wipe_length σ8 vs1).symm) (fun j v e => by rw [wipe_out fun z => (k8 j v e).2 (hv j z)]; exact (k8 j v e).1) nx1
          · refine thnF (T1.item (X.blk s3 H3 sc ce fp) rfl rfl rfl hc j _ s12 (L2.wipe σ8 vs1) H12 (fun _ _ => False) I12 (pinned1 z12) st12 go1) fun r s13 ⟨u1', hr, h13⟩ => ?_
            subst hr
            refine thnF h13 fun _ s14 ⟨x1, H14, I14, r14, y14, st14, z14⟩ => ?_
            refine thnF (pg1.run _ s14 (L2.wipe σ8 vs1) H14 x1 u1' _ (I14.pinned (pinned1 z14) (T1.obj _ _ st14)) r14 (step1 x1 H14 y14)) fun _ s15 ⟨σ15, H15, I15, w15, q15⟩ => ?_
            refine thnF (pt1.run _ s15 σ15 H15 _ I15 q15) fun b1 s16 ⟨H16, I16, q16⟩ => ?_
            have back1 : ∀ {s' : Shared} {H' : Hp}, L2.Inv (X.blk s3 H3 sc ce fp) (([] ++ pinsAt fp s7.heap) ++ pinsAt fq s14.heap) σ15 H' s' → Nx1 H' → ∃ m, m < k ∧ Kv m s' := fun {s' H'} K' nx => by
              obtain ⟨m', hm, u'⟩ := hNx1 H' nx
              have kept : ∀ b ∈ fq, ∀ o, s14.heap.get? b = some o → s'.heap.get? b = some o ∧ H' b = none := fun b hb o e =>
                have z := K'.pin (b, o) (List.mem_append_right _ (List.mem_append_right _ (mem_pinsAt hb e)))
                ⟨z.1, z.2.1⟩
              exact ⟨m', hm, j + 1, H', K'.unpinned.weak (by rw [← w15, wipe_length]) (fun j v e => by rw [← w15] at e; exact (wipe_some e).1), T1.keep _ _ _ st14 fun b hb o e => (kept b hb o e).1, fun b hb => (let ⟨o, e, _⟩ := T1.obj _ _ st14 b hb; (kept b hb o e).2), u'⟩
            cases b1 with
            | false =>
              rw [if_neg (by simp)] at q16 ⊢
              exact back1 I16 q16
            | true =>
              rw [if_pos rfl] at q16 ⊢
              refine thnF (pk.run _ s16 σ15 H16 _ I16 q16) fun ka s17 ⟨yk, H17, I17, r17, q17⟩ => ?_
              refine thnF (pv.run _ s17 σ15 H17 _ I17 q17) fun va s18 ⟨yv, H18, I18, r18, kvs, kk, ek, d18, l18, nx⟩ => ?_
              subst ek
              exact d_dictSet (X := X.blk s3 H3 sc ce fp) I18 d18 l18 r17 r18 fun s19 I19 => back1 I19 nx
        exact dstart1 inner (T1.self X.A 0 _ _ _ st11 inner)
  exact codeAny_compStart_dict loop (T.self X.A 0 _ _ _ st4 loop)
theorem pe_dc2 (hc : X.calm = true) (hN : X.N.Nodup) (hi : PI X t0 i0 wi) (ok : BlkOk X.N X.env.scope sc own) (hv : ∀ i ∈ vs1, i ∈ own.map (·.2))
    (hg : InB X sc fun Y => PG Y t0 g) (ht : InB X sc fun Y => PTs Y c0 tt) (hi1 : InB X sc fun Y => PI Y t1 i1 wj) (hg1 : InB X sc fun Y => PG Y t1 g1) (ht1 : InB X sc fun Y => PTs Y c1 tt1) (hk : InB X sc fun Y => PE Y kx tk) (he : InB X sc fun Y => PE Y vx tv)
    (hs : ∀ x, foldedSetIterable i0 X.env x = pure x) (hs1 : ∀ env x, foldedSetIterable i1 env x = pure x) : PE X (dcx kx vx t0 i0 t1 i1 c0 c1 sc ps) (tDc2 wi g tt wj g1 tt1 tk tv (own.map (·.2)) vs1) := by
  refine ⟨fun pins s σ H Q I h => ?_⟩
  rw [arm_eval_DictComp]
  refine dc2_core hc hN I hi ok hv hg ht hi1 hg1 ht1 hk he hs hs1 h fun Da C s' m H' I' q hn f => ⟨m, hn, fun h2 sb => ?_⟩
  obtain ⟨f0, f1, _, f3, f4, f5⟩ := f
  exact ⟨.ref Da, H', I'.turned (t' := s'.toks) (fun b o hb e => (sb.2 b hb).trans e) f0 f1 f3 f4 f5, rfl, q⟩
theorem ps_setDc2 {i : Nat} {y : Str} {py sp : Pos} (hc : X.calm = true) (hN : X.N.Nodup) (hy : X.N[i]? = some y) (hyl : X.env.scope.names.lookup y = some .local) (hsw : swapsWith (dcx kx vx t0 i0 t1 i1 c0 c1 sc ps) (some (.Name y py)) sp.line X.env = pure true)
    (hi : PI X t0 i0 wi) (ok : BlkOk X.N X.env.scope sc own) (hv : ∀ i ∈ vs1, i ∈ own.map (·.2))
    (hg : InB X sc fun Y => PG Y t0 g) (ht : InB X sc fun Y => PTs Y c0 tt) (hi1 : InB X sc fun Y => PI Y t1 i1 wj) (hg1 : InB X sc fun Y => PG Y t1 g1) (ht1 : InB X sc fun Y => PTs Y c1 tt1) (hk : InB X sc fun Y => PE Y kx tk) (he : InB X sc fun Y => PE Y vx tv)
    (hs : ∀ x, foldedSetIterable i0 X.env x = pure x) (hs1 : ∀ env x, foldedSetIterable i1 env x = pure x) : PS X (.Assign [.Name y py] (dcx kx vx t0 i0 t1 i1 c0 c1 sc ps) sp) (tAsg (tDc2 wi g tt wj g1 tt1 tk tv (own.map (·.2)) vs1) (gName i)) := by
  refine ⟨fun pins s σ H Dn I h => ?_⟩
  rw [exec_Assign_Name_used _ _ _ _ hsw]
  refine wpAny_bind (wpAny_standAt (wpAny_bind ?_))
  show wpAny _ X.A (do let _ ← comprehension (dcx kx vx t0 i0 t1 i1 c0 c1 sc ps) sc X.env (firstIterPos [⟨t0, i0, c0, 0⟩, ⟨t1, i1, c1, 0⟩] ps) newDict false (eval i0 X.env) (some (assign (.Name y py) X.env))) _ _ s
  have h : tDc2 wi g tt wj g1 tt1 tk tv (own.map (·.2)) vs1 σ H (fun x H1 => gName i x σ H1 Dn.nx) := h
  refine wpAny_bind (thn (dc2_core (Qf := fun _ s' => SP X pins Dn .next s') hc hN I hi ok hv hg ht hi1 hg1 ht1 hk he hs hs1 h fun L C s' m H' I' q hn f => ?_) fun _ s' hq => wpAny_pure (wpAny_pure hq))
  show wpAny _ _ (assign (.Name y py) X.env (.ref L)) _ _ _
  obtain ⟨f0, f1, _, f3, f4, f5⟩ := f
  refine wpAny_assign_Name (store_ok2 (v := V.ref L) I' hN hy (.inl hyl) rfl (fun s2 I2 ⟨a, sb, ha⟩ => ?_) (.inr hyl))
  refine ⟨m, hn.sameBut sb (ha.elim (fun z => by rw [z]; exact f1) fun z e => f4 y a z e.symm), fun h3 sb3 => ?_⟩
  exact ⟨_, H', I2.turned (t' := s2.toks) (fun b o hb e => (sb3.2 b hb).trans e) f0 f1 f3 f4 f5, q⟩
end
def loopU (gd : Mem → Bool) (stp : D → Mem → Res Unit) : List D → Mem → Res Unit
  | [], μ => if gd μ = true then .ok () μ else .bad
  | d :: ds, μ => if gd μ = true then match stp d μ with
      | .ok _ μ1 => loopU gd stp ds μ1
      | _ => .bad
    else .bad
theorem OkU.mono {K : PySem.W.Frag} {ρ ρ1 : List Addr} {H H1 : Hp} {r : Res Unit} {P : Hp → Prop} (p : Pre ρ ρ1) (f : Fz ρ ρ1 H H1) (h : OkU K ρ H r P) : OkU K ρ1 H1 r P := by
  cases r with
  | ok _ μ => exact fun ρ2 H2 p2 f2 => h ρ2 H2 (p.trans p2) (f.trans f2)
  | err _ _ _ => exact h
  | bad => exact h
theorem walk_ref {K : PySem.W.Frag} {J : It} {items : List D} {gd : Mem → Bool} {stp : D → Mem → Res Unit} {ρ0 : List Addr} {μ0 : Mem} {H0 : Hp} {P : Hp → Prop} {body : V → Hp → (Hp → Prop) → Prop} (ij : ItR K ρ0 H0 (items, gd) J) (rel0 : Rel K ρ0 μ0 H0) (ok : OkU K ρ0 H0 (loopU gd stp items μ0) P)
    (hb : ∀ d x ρ μ H Nx, Pre ρ0 ρ → Fz ρ0 ρ H0 H → Rel K ρ μ H → DV K ρ H d x → OkU K ρ H (stp d μ) Nx → body x H Nx) :
    ∃ U : Nat → Nat → Hp → Prop, (∃ m, U 0 m H0) ∧ ∀ i m H, U i m H → (J.stop i H ∧ P H) ∨ (J.go i H ∧ ∃ Nx : Hp → Prop, (∀ H', Nx H' → ∃ m', m' < m ∧ U (i + 1) m' H') ∧ ∀ x H', J.yld i H x H' → body x H' Nx) := by
  refine ⟨fun i m H => m = items.length - i ∧ i ≤ items.length ∧ ∃ ρ μ, Pre ρ0 ρ ∧ Fz ρ0 ρ H0 H ∧ Rel K ρ μ H ∧ OkU K ρ H (loopU gd stp (items.drop i) μ) P, ⟨items.length, by simp, Nat.zero_le _, ρ0, μ0, Pre.refl _, Fz.refl _, rel0, by simpa using ok⟩, ?_⟩
  rintro i m H ⟨rfl, hi, ρ, μ, p0, f0, rel, ok⟩
  by_cases hlt : i < items.length
  · rw [List.drop_eq_getElem_cons hlt] at ok
    simp only [loopU] at ok
    split at ok
    · rename_i hgd
      obtain ⟨hgo, hy⟩ := (ij ρ μ H i p0 f0 rel hgd).1 items[i] (List.getElem?_eq_getElem hlt)
      refine .inr ⟨hgo, fun H' => ∃ ρ μ, Pre ρ0 ρ ∧ Fz ρ0 ρ H0 H' ∧ Rel K ρ μ H' ∧ OkU K ρ H' (loopU gd stp (items.drop (i + 1)) μ) P, fun H' h => ⟨items.length - (i + 1), by omega, rfl, hlt, h⟩, fun x H' yl => ?_⟩
      obtain ⟨fz, rel', dv⟩ := hy x H' yl
      refine hb items[i] x ρ μ H' _ p0 (f0.trans fz) rel' dv ?_
      split at ok
      · rename_i μ1 e1
        rw [e1]
        exact fun ρ1 H1 p1 f1 rel1 => ⟨ρ1, μ1, p0.trans p1, f0.trans (fz.trans f1), rel1, OkU.mono p1 (fz.trans f1) ok⟩
      · exact ok.elim
    · exact ok.elim
  · have e : i = items.length := by omega
    subst e
    rw [List.drop_length] at ok
    simp only [loopU] at ok
    split at ok
    · rename_i hgd
      exact .inl ⟨(ij ρ μ H items.length p0 f0 rel hgd).2 rfl, ok ρ H (Pre.refl _) (Fz.refl _) rel⟩
    · exact ok.elim
def stp1 (n : Nat) (g : MG) (mt : MX Bool) (mk mv : ME) (δ : DEnv) (d : D) (μ : Mem) : Res Unit := match g d δ μ with
  | .ok δ1 μ1 => match mt δ1 μ1 with
    | .ok true μ2 => match mk δ1 μ2 with
      | .ok k μ3 => match mv δ1 μ3 with
        | .ok v μ4 => if isDK μ4 n = true then setD (.loc n) k v μ4 else .bad
        | _ => .bad
      | _ => .bad
    | .ok false μ2 => .ok () μ2
    | _ => .bad
  | _ => .bad
def stp0 (n : Nat) (vs1 : List Nat) (g : MG) (mt : MX Bool) (mj : MX Its0) (g1 : MG) (mt1 : MX Bool) (mk mv : ME) (δ : DEnv) (d : D) (μ : Mem) : Res Unit := match g d δ μ with
  | .ok δ1 μ1 => match mt δ1 μ1 with
    | .ok true μ2 => match mj δ1 μ2 with
      | .ok it μ3 => loopU it.2 (stp1 n g1 mt1 mk mv (wipeD δ1 vs1)) it.1 μ3
      | _ => .bad
    | .ok false μ2 => .ok () μ2
    | _ => .bad
  | _ => .bad
def mdc (vs : List Nat) (mi : MX Its0) (g : MG) (mt : MX Bool) (mk mv : ME) : ME := bindM mi fun it => fun δ μ => match loopU it.2 (stp1 μ.cells.length g mt mk mv (wipeD δ vs)) it.1 (μ.push (.dK [])) with
  | .ok _ μ1 => .ok (.loc μ.cells.length) μ1
  | _ => .bad
def mdc2 (vs vs1 : List Nat) (mi : MX Its0) (g : MG) (mt : MX Bool) (mj : MX Its0) (g1 : MG) (mt1 : MX Bool) (mk mv : ME) : ME := bindM mi fun it => fun δ μ => match loopU it.2 (stp0 μ.cells.length vs1 g mt mj g1 mt1 mk mv (wipeD δ vs)) it.1 (μ.push (.dK [])) with
  | .ok _ μ1 => .ok (.loc μ.cells.length) μ1
  | _ => .bad
abbrev turn1 (K : PySem.W.Frag) (Da : Addr) (vs : List Nat) (σ : L2.St) (g : TG) (mt : MX Bool) (mk mv : ME) (x : V) (H' : Hp) (Nx : Hp → Prop) : Prop := g x (L2.wipe σ vs) H' fun σ2 H2 => L2.wipe σ2 vs = L2.wipe σ vs ∧ TmE K RT' mt σ2 H2 fun b H3 =>
    if b = true then TmE K (DV K) mk σ2 H3 fun y H4 => TmE K (DV K) mv σ2 H4 fun z H5 => ∃ kvs k, y = kV k ∧ H5 Da = some (.dK kvs) ∧ kvs.length < sizeLine ∧ Nx (upd H5 Da (.dK (putK kvs k z))) else Nx H3
theorem turn1_ref {K : PySem.W.Frag} {Da : Addr} {n : Nat} {vs : List Nat} {σ : L2.St} {g : TG} {mg : MG} {mt : MX Bool} {mk mv : ME} {δ : DEnv} {ρ : List Addr} {μ : Mem} {H : Hp} {d : D} {x : V} {Nx : Hp → Prop} (hg : ∀ ρ μ δ σ H d v (Q : L2.St → Hp → Prop), Rel K ρ μ H → EnvR K ρ H none δ σ → DV K ρ H d v → OkGw K vs σ ρ H (mg d δ μ) Q → g v σ H Q)
    (hn : ρ[n]? = some Da) (rel : Rel K ρ μ H) (env : EnvR K ρ H none (wipeD δ vs) (L2.wipe σ vs)) (dv : DV K ρ H d x) (ok : OkU K ρ H (stp1 n mg mt mk mv (wipeD δ vs) d μ) Nx) : turn1 K Da vs σ g mt mk mv x H Nx := by
  unfold stp1 at ok
  refine hg ρ μ _ _ H d x _ rel env dv ?_
  split at ok
  · rename_i δ1 μ1 eg
    rw [eg]
    intro ρ1 H1 σ1 p1 f1 rel1 env1 hw
    refine ⟨hw.trans (wipe_wipe fun _ h => h), ρ1, μ1, δ1, rel1, env1, ?_⟩
    split at ok
    · rename_i μ2 et
      rw [et]
      refine okr_false fun ρ2 H2 b p2 f2 rel2 eb => ?_
      obtain rfl : true = b := eb
      refine iteT ⟨ρ2, μ2, δ1, rel2, env1.mono p2 f2, ?_⟩
      split at ok
      · rename_i k μ3 ek
        rw [ek]
        refine okr_false fun ρ3 H3 y p3 f3 rel3 dy => ⟨ρ3, μ3, δ1, rel3, (env1.mono p2 f2).mono p3 f3, ?_⟩
        split at ok
        · rename_i v μ4 ev
          rw [ev]
          refine okr_false fun ρ4 H4 z p4 f4 rel4 dz => ?_
          have pp := ((p1.trans p2).trans p3).trans p4
          have ff := ((f1.trans f2).trans f3).trans f4
          split at ok
          · rename_i hD
            obtain ⟨kds, hc⟩ := isDK_ok hD
            have hn4 := pp n Da hn
            have e1 : setD (.loc n) k v μ4 = match keyOf k with | some k => if μ4.lkd n = false ∧ kds.length < sizeLine then .ok () (μ4.set n (.dK (kput kds k v))) else .bad | none => .bad := by
              unfold setD; dsimp only; rw [hc] <;> rfl
            rw [e1] at ok
            split at ok
            · rename_i key hk
              split at ok
              · rename_i hl
                obtain ⟨kvs, h2, h3⟩ := rel4.cell n Da _ hn4 hc
                rw [hl.1] at h2
                have h2' : H4 Da = some (.dK kvs) := by unfold Lk at h2; rw [if_neg Bool.false_ne_true] at h2; exact h2
                have f := Fz.mut (o := .dK (putK kvs key z)) hn4 h2' (fun _ => HO.noConfusion) (fun _ _ => HO.noConfusion)
                refine ⟨kvs, key, keyOf_ok hk (dy.mono p4 f4), h2', by rw [← KDs.length h3]; exact hl.2, ?_⟩
                refine ok ρ4 _ pp (ff.trans f) (rel4.write hn4 h2' (fun _ => HO.noConfusion) (fun _ _ => HO.noConfusion) ⟨_, ?_, (h3.put dz).mono (Pre.refl _) f⟩)
                rw [hl.1]
                unfold Lk
                rw [if_neg Bool.false_ne_true]
                exact upd_same
              · exact ok.elim
            · exact ok.elim
          · exact ok.elim
        · exact ok.elim
      · exact ok.elim
    · rename_i μ2 et
      rw [et]
      refine okr_false fun ρ2 H2 b p2 f2 rel2 eb => ?_
      obtain rfl : false = b := eb
      exact iteF (ok ρ2 H2 (p1.trans p2) (f1.trans f2) rel2)
    · exact ok.elim
  · exact ok.elim
section
variable {X : Cx} {hx : Option HX} {W : WX} {sc : Scope} {ps : Pos} {kx vx t0 i0 t1 i1 : Expr} {c0 c1 : List Expr} {own : List (Str × Nat)} {vs1 : List Nat} {mi mj : MX Its0} {mg mg1 : MG} {mt mt1 : MX Bool} {mk mv : ME}
theorem RI.pi {tg iter : Expr} {m : MX Its0} (h : RI X none WF tg iter m) : PI X tg iter (TmE X.K (ItR X.K) m) := by
  obtain ⟨t, p, r⟩ := h.ex
  exact ⟨fun pins s σ H Q I ⟨ρ, μ, δ, rel, env, ok⟩ => p.run pins s σ H Q I (r ρ μ δ σ H Q rel env ok)⟩
theorem rel_dict {K : PySem.W.Frag} {ρ : List Addr} {μ : Mem} {H : Hp} {p : Addr} (rel : Rel K ρ μ H) (hp : H p = none) : Rel K (ρ ++ [p]) (μ.push (.dK [])) (upd H p (.dK [])) :=
  rel.new hp ⟨[], by unfold Lk; rw [if_neg Bool.false_ne_true]; exact upd_same, .nil⟩
theorem last_at {K : PySem.W.Frag} {ρ : List Addr} {μ : Mem} {H : Hp} {p : Addr} (rel : Rel K ρ μ H) : (ρ ++ [p])[μ.cells.length]? = some p := by rw [← rel.len]; simp
theorem re_dc (hc : X.calm = true) (hN : X.N.Nodup) (hi : RI X hx W t0 i0 mi) (ok : BlkOk X.N X.env.scope sc own) (hg : RGc X sc (own.map (·.2)) t0 mg) (ht : InB X sc fun Y => RTs Y c0 mt) (hk : InB X sc fun Y => RE Y none WF kx mk) (he : InB X sc fun Y => RE Y none WF vx mv)
    (hs : ∀ x, foldedSetIterable i0 X.env x = pure x := by intro _; rfl) : RE X hx W (.DictComp kx vx [⟨t0, i0, c0, 0⟩] sc ps) (mdc (own.map (·.2)) mi mg mt mk mv) := by
  obtain ⟨wi, pi, ri⟩ := hi.ex
  obtain ⟨g, pg, rg⟩ := hg.ex
  refine ⟨⟨_, pe_dc (tt := TmE X.K RT' mt) (tk := TmE X.K (DV X.K) mk) (tv := TmE X.K (DV X.K) mv) hc hN pi ok pg (fun s H C cl fp => (ht s H C cl fp).p) (fun s H C cl fp => (hk s H C cl fp).pe) (fun s H C cl fp => (he s H C cl fp).pe) hs,
    fun ρ0 μ0 δ σ H0 Q rel0 env0 ok0 => ri ρ0 μ0 δ σ H0 _ rel0 env0 (Okr.bind ok0 fun it μ1 ρ1 H1 J pr fz rel1 ij ok1 => fun Da hD => ?_)⟩⟩
  have fA : Fz ρ1 (ρ1 ++ [Da]) H1 (upd H1 Da (.dK [])) := Fz.newA hD
  have relA := rel_dict rel1 hD
  have hn := last_at (p := Da) rel1
  refine walk_ref (fun ρ μ H i p f => ij ρ μ H i ((Pre.app _ _).trans p) (fA.trans f)) relA (stp := stp1 μ1.cells.length mg mt mk mv (wipeD δ (own.map (·.2)))) ?_ fun d x ρ μ H Nx p f rel dv ok => ?_
  · dsimp only at ok1
    split at ok1
    · rename_i μ2 e
      rw [e]
      exact fun ρ2 H2 p2 f2 rel2 => ok1 ρ2 H2 _ ((Pre.app _ _).trans p2) (fA.trans f2) rel2 (by simp only [DV]; exact ⟨Da, p2 _ _ hn, rfl⟩)
    · exact ok1.elim
  · exact turn1_ref rg (p _ _ hn) rel (((env0.mono pr fz).nox.wipe _).mono ((Pre.app _ _).trans p) (fA.trans f)) dv ok
theorem ref_dc2 {g g1 : TG} {wi : TI} (ri : Ref X.K hx W (ItR X.K) wi mi) (rg : ∀ ρ μ δ σ H d v (Q : L2.St → Hp → Prop), Rel X.K ρ μ H → EnvR X.K ρ H none δ σ → DV X.K ρ H d v → OkGw X.K (own.map (·.2)) σ ρ H (mg d δ μ) Q → g v σ H Q)
    (rg1 : ∀ ρ μ δ σ H d v (Q : L2.St → Hp → Prop), Rel X.K ρ μ H → EnvR X.K ρ H none δ σ → DV X.K ρ H d v → OkGw X.K vs1 σ ρ H (mg1 d δ μ) Q → g1 v σ H Q) :
    Ref X.K hx W (DV X.K) (tDc2 wi g (TmE X.K RT' mt) (TmE X.K (ItR X.K) mj) g1 (TmE X.K RT' mt1) (TmE X.K (DV X.K) mk) (TmE X.K (DV X.K) mv) (own.map (·.2)) vs1) (mdc2 (own.map (·.2)) vs1 mi mg mt mj mg1 mt1 mk mv) := by
  refine fun ρ0 μ0 δ σ H0 Q rel0 env0 ok0 => ri ρ0 μ0 δ σ H0 _ rel0 env0 (Okr.bind ok0 fun it μ1 ρ1 H1 J pr fz rel1 ij ok1 => fun Da hD => ?_)
  have fA : Fz ρ1 (ρ1 ++ [Da]) H1 (upd H1 Da (.dK [])) := Fz.newA hD
  have relA := rel_dict rel1 hD
  have hn := last_at (p := Da) rel1
  refine walk_ref (fun ρ μ H i p f => ij ρ μ H i ((Pre.app _ _).trans p) (fA.trans f)) relA (stp := stp0 μ1.cells.length vs1 mg mt mj mg1 mt1 mk mv (wipeD δ (own.map (·.2)))) ?_ fun d x ρ μ H Nx p f rel dv ok => ?_
  · dsimp only at ok1
    split at ok1
    · rename_i μ2 e
      rw [e]
      exact fun ρ2 H2 p2 f2 rel2 => ok1 ρ2 H2 _ ((Pre.app _ _).trans p2) (fA.trans f2) rel2 (by simp only [DV]; exact ⟨Da, p2 _ _ hn, rfl⟩)
    · exact ok1.elim
  · have env := ((env0.mono pr fz).nox.wipe (own.map (·.2))).mono ((Pre.app _ [Da]).trans p) (fA.trans f)
    unfold stp0 at ok
    refine rg ρ μ _ _ H d x _ rel env dv ?_
    split at ok
    · rename_i δ1 μ2 eg
      rw [eg]
      intro ρ2 H2 σ2 p2 f2 rel2 env2 hw
      refine ⟨hw.trans (wipe_wipe fun _ h => h), ρ2, μ2, δ1, rel2, env2, ?_⟩
      split at ok
      · rename_i μ3 et
        rw [et]
        refine okr_false fun ρ3 H3 b p3 f3 rel3 eb => ?_
        obtain rfl : true = b := eb
        refine iteT ⟨ρ3, μ3, δ1, rel3, env2.mono p3 f3, ?_⟩
        split at ok
        · rename_i it1 μ4 ej
          rw [ej]
          refine okr_false fun ρ4 H4 J1 p4 f4 rel4 ij1 => ?_
          refine walk_ref ij1 rel4 (OkU.mono ((p2.trans p3).trans p4) ((f2.trans f3).trans f4) ok) fun d1 x1 ρ5 μ5 H5 Nx1 p5 f5 rel5 dv5 ok5 => ?_
          exact turn1_ref rg1 ((((p.trans p2).trans p3).trans p4).trans p5 _ _ hn) rel5 ((((env2.mono p3 f3).mono p4 f4).mono p5 f5).wipe _) dv5 ok5
        · exact ok.elim
      · rename_i μ3 et
        rw [et]
        refine okr_false fun ρ3 H3 b p3 f3 rel3 eb => ?_
        obtain rfl : false = b := eb
        exact iteF (ok ρ3 H3 (p2.trans p3) (f2.trans f3) rel3)
      · exact ok.elim
    · exact ok.elim
theorem re_dc2 (vs1 : List Nat) (hc : X.calm = true) (hN : X.N.Nodup) (hi : RI X hx W t0 i0 mi) (ok : BlkOk X.N X.env.scope sc own) (hg : RGc X sc (own.map (·.2)) t0 mg) (ht : InB X sc fun Y => RTs Y c0 mt) (hi1 : InB X sc fun Y => RI Y none WF t1 i1 mj) (hg1 : RGc X sc vs1 t1 mg1) (ht1 : InB X sc fun Y => RTs Y c1 mt1)
    (hk : InB X sc fun Y => RE Y none WF kx mk) (he : InB X sc fun Y => RE Y none WF vx mv) (hv : ∀ i ∈ vs1, i ∈ own.map (·.2) := by decide) (hs : ∀ x, foldedSetIterable i0 X.env x = pure x := by intro _; rfl) (hs1 : ∀ env x, foldedSetIterable i1 env x = pure x := by intro _ _; rfl) :
    RE X hx W (.DictComp kx vx [⟨t0, i0, c0, 0⟩, ⟨t1, i1, c1, 0⟩] sc ps) (mdc2 (own.map (·.2)) vs1 mi mg mt mj mg1 mt1 mk mv) := by
  obtain ⟨wi, pi, ri⟩ := hi.ex
  obtain ⟨g, pg, rg⟩ := hg.ex
  obtain ⟨g1, pg1, rg1⟩ := hg1.ex
  exact ⟨⟨_, pe_dc2 (tt := TmE X.K RT' mt) (wj := TmE X.K (ItR X.K) mj) (tt1 := TmE X.K RT' mt1) (tk := TmE X.K (DV X.K) mk) (tv := TmE X.K (DV X.K) mv) hc hN pi ok hv pg (fun s H C cl fp => (ht s H C cl fp).p) (fun s H C cl fp => (hi1 s H C cl fp).pi) pg1 (fun s H C cl fp => (ht1 s H C cl fp).p) (fun s H C cl fp => (hk s H C cl fp).pe) (fun s H C cl fp => (he s H C cl fp).pe) hs hs1, ref_dc2 ri rg rg1⟩⟩
theorem rs_setDc2 {i : Nat} {y : Str} {py sp : Pos} (vs1 : List Nat) (hc : X.calm = true) (hN : X.N.Nodup) (hi : RI X hx W t0 i0 mi) (ok : BlkOk X.N X.env.scope sc own) (hg : RGc X sc (own.map (·.2)) t0 mg) (ht : InB X sc fun Y => RTs Y c0 mt) (hi1 : InB X sc fun Y => RI Y none WF t1 i1 mj) (hg1 : RGc X sc vs1 t1 mg1) (ht1 : InB X sc fun Y => RTs Y c1 mt1)
    (hk : InB X sc fun Y => RE Y none WF kx mk) (he : InB X sc fun Y => RE Y none WF vx mv) (hv : ∀ i ∈ vs1, i ∈ own.map (·.2) := by decide)
    (hxi : ∀ q, hx = some q → i ≠ q.i := by intro _ h; first | (cases h; done) | (cases h; exact Nat.ne_of_beq_eq_false rfl))
    (hy : X.N[i]? = some y := by rfl) (hyl : X.env.scope.names.lookup y = some .local := by rfl)
    (hsw : swapsWith (.DictComp kx vx [⟨t0, i0, c0, 0⟩, ⟨t1, i1, c1, 0⟩] sc ps) (some (.Name y py)) sp.line X.env = pure true := by rfl) (hs : ∀ x, foldedSetIterable i0 X.env x = pure x := by intro _; rfl) (hs1 : ∀ env x, foldedSetIterable i1 env x = pure x := by intro _ _; rfl) :
    RS X hx W (.Assign [.Name y py] (.DictComp kx vx [⟨t0, i0, c0, 0⟩, ⟨t1, i1, c1, 0⟩] sc ps) sp) (masg (mdc2 (own.map (·.2)) vs1 mi mg mt mj mg1 mt1 mk mv) (gset i)) := by
  obtain ⟨wi, pi, ri⟩ := hi.ex
  obtain ⟨g, pg, rg⟩ := hg.ex
  obtain ⟨g1, pg1, rg1⟩ := hg1.ex
  refine ⟨⟨_, ps_setDc2 (tt := TmE X.K RT' mt) (wj := TmE X.K (ItR X.K) mj) (tt1 := TmE X.K RT' mt1) (tk := TmE X.K (DV X.K) mk) (tv := TmE X.K (DV X.K) mv) hc hN hy hyl hsw pi ok hv pg (fun s H C cl fp => (ht s H C cl fp).p) (fun s H C cl fp => (hi1 s H C cl fp).pi) pg1 (fun s H C cl fp => (ht1 s H C cl fp).p) (fun s H C cl fp => (hk s H C cl fp).pe) (fun s H C cl fp => (he s H C cl fp).pe) hs hs1, fun ρ0 μ0 δ σ H0 Dn rel0 env0 ok0 => ?_⟩⟩
  refine ref_dc2 ri rg rg1 ρ0 μ0 δ σ H0 _ rel0 env0 (OkS.ofE env0 ok0 fun d μ1 ρ1 H1 v pr fz rel1 dv ok1 => ?_)
  exact ok1 ρ1 H1 _ (Pre.refl _) (Fz.refl _) rel1 ((env0.mono pr fz).set dv hxi)
end
end Doz
end
section
namespace Doz
open PySem L2
section
variable {X : Cx} {hx : Option HX} {W : WX} {a b : Expr} {na : MX (List D)} {mb : ME} {pos : Pos}
def mrepN (na : MX (List D)) (mb : ME) : MX (List D) := bindM na fun ds => bindM mb fun k => fun _ μ => match k with
  | .int k => if -(2 ^ 63) ≤ k ∧ k < 2 ^ 63 ∧ ds.length * k.toNat ≤ sizeLine then .ok (List.replicate k.toNat ds).flatten μ else .bad
  | _ => .bad
theorem dvs_rep {K : PySem.W.Frag} {ρ : List Addr} {H : Hp} {ds : List D} {vs : List V} (h : DVs K ρ H ds vs) : ∀ n : Nat, DVs K ρ H (List.replicate n ds).flatten (List.replicate n vs).flatten
  | 0 => .nil
  | n + 1 => by simp only [List.replicate_succ, List.flatten_cons]; exact h.app (dvs_rep h n)
theorem rn_rep (ha : RN X hx W a na) (hb : RE X hx W b mb) : RN X hx W (.BinOp a .Mult b pos) (mrepN na mb) := by
  obtain ⟨ta, pa, ra⟩ := ha.ex
  obtain ⟨tb, pb, rb⟩ := hb.ex
  refine ⟨⟨_, pe_op op_rep pa pb, fun ρ μ δ σ H Q rel env ok => ra ρ μ δ σ H _ rel env ?_⟩⟩
  unfold mrepN bindM at ok
  cases e : na δ μ with
  | err C w μ1 => rw [e] at ok; exact ok
  | bad => rw [e] at ok; exact ok
  | ok ds μ1 =>
    rw [e] at ok
    rintro ρ1 H1 v p1 f1 rel1 ⟨q, vs, rfl, hu, hq, hn, hd⟩
    refine rb ρ1 μ1 δ σ H1 _ rel1 (env.mono p1 f1) ?_
    have ok1 : OkN X.K ρ H ((mb δ μ1).bind fun k μ => match k with | .int k => if -(2 ^ 63) ≤ k ∧ k < 2 ^ 63 ∧ ds.length * k.toNat ≤ sizeLine then .ok (List.replicate k.toNat ds).flatten μ else .bad | _ => .bad) Q (fun c d H' => W c d σ H') := ok
    refine OkN.bind (OkN.mono p1 f1 ok1) fun k μ2 ρ2 H2 y p2 f2 rel2 dy ok2 => ?_
    split at ok2
    · rename_i k
      split at ok2
      · rename_i hk
        obtain rfl := int_ok dy
        exact ⟨q, k, vs, rfl, rfl, f2.keep q _ hn hq, hk.1, hk.2.1, by rw [← hd.length]; exact hk.2.2, fun p hp => OkN.new rel2 hp (dvs_rep (hd.mono p2 f2) _) ok2⟩
      · exact ok2.elim
    · exact ok2.elim
end
def gunl (n : Nat) (gs : MGs) : MG := fun d δ μ => match lstOf μ d with
  | some ds => if ds.length = n then match gs ds δ μ with
      | .ok δ1 μ1 => .ok δ1 μ1
      | _ => .bad
    else .bad
  | none => .bad
theorem rg_unl {X : Cx} {hx : Option HX} {W : WX} {pos : Pos} {tgs : List Expr} {gs : MGs} {n k : Nat} (hc : X.calm = true) (h : RGs X hx W tgs gs) (hn : (assignEach tgs X.env).length = n := by rfl) (hst : (assignEach tgs X.env).findIdx? (·.1) = none := by rfl) : RG X hx W (.Tuple tgs k pos) (gunl n gs) := by
  obtain ⟨t, p, r⟩ := h.ex
  refine ⟨⟨_, pg_unl hc p hn hst, fun ρ μ δ σ H d v Q rel env dv ok => ?_⟩⟩
  unfold gunl at ok
  split at ok
  · rename_i ds hd
    split at ok
    · rename_i hl
      obtain ⟨a, vs, rfl, h1, h2⟩ := lstOf_ok rel dv hd
      refine ⟨a, vs, rfl, rd_sq h1, h2.length.symm.trans hl, r ρ μ δ σ H ds vs Q rel env h2 ?_⟩
      split at ok
      · rename_i e1
        rw [e1]
        exact ok
      · exact ok.elim
    · exact ok.elim
  · exact ok.elim
end Doz
end
section
namespace Doz
open PySem L2 PySem.Spec PyProof.Rows
theorem tmul0 (b : Addr) (xs : Array Value) (n : Nat) (dd : Option Addr) (sl : Array (Option Value)) (k : Int) (u : Tok) (h0 : (decide (k < -(2 ^ 63)) || decide (k ≥ 2 ^ 63)) = false) (h1 : (xs.isEmpty || k == 1) = false) (h2 : (decide (k ≤ 0) || xs.isEmpty) = true) :
    Meets (Builtin.«tuple.__mul__» ⟨[.ref b, .int k u], []⟩) (fun _ R s => s.heap.get? b = some { cls := .type "tuple", dict := dd, data := .seq xs n, slots := sl } ∧ R (.ok (.ret (Value.ref s.heap.objs.size))) { s with heap := s.heap.push { cls := Value.type "tuple", data := Data.seq #[] }, toks := s.toks }) :=
  .of_wp fun prog w A R s hh => by
    obtain ⟨hp, g, d, tk, os⟩ := s
    obtain ⟨hb, hh⟩ := hh
    have i1 := AutoSeq1.idx_int
    wp_walk using wpAny_loadPart' hb
    repeat (first
      | (refine wpAny_ite_false (decide_eq_false (by rw [h0]; simp)) ?_; wp_walk using wpAny_loadPart' hb)
      | (refine wpAny_ite_false (decide_eq_false (by rw [h1]; simp)) ?_; wp_walk using wpAny_loadPart' hb)
      | (refine wpAny_ite_true (decide_eq_true h2) ?_; wp_walk using wpAny_loadPart' hb))
    exact ⟨_, rfl, hh⟩
theorem tmul1 (b : Addr) (xs : Array Value) (n : Nat) (dd : Option Addr) (sl : Array (Option Value)) (u : Tok) (h1 : (xs.isEmpty || (1 : Int) == 1) = true) :
    Meets (Builtin.«tuple.__mul__» ⟨[.ref b, .int 1 u], []⟩) (fun _ R s => s.heap.get? b = some { cls := .type "tuple", dict := dd, data := .seq xs n, slots := sl } ∧ R (.ok (.ret (Value.ref b))) s) :=
  .of_wp fun prog w A R s hh => by
    obtain ⟨hp, g, d, tk, os⟩ := s
    obtain ⟨hb, hh⟩ := hh
    have i1 := AutoSeq1.idx_int
    have h0 : (decide ((1 : Int) < -(2 ^ 63)) || decide ((1 : Int) ≥ 2 ^ 63)) = false := by decide
    wp_walk using wpAny_loadPart' hb
    repeat (first
      | (refine wpAny_ite_false (decide_eq_false (by rw [h0]; simp)) ?_; wp_walk using wpAny_loadPart' hb)
      | (refine wpAny_ite_true (decide_eq_true h1) ?_; wp_walk using wpAny_loadPart' hb))
    exact ⟨_, rfl, hh⟩
def rRepT0 (K : PySem.W.Frag) : R2 := fun x y H Q => ∃ b k xs, x = .ref b ∧ y = .int k ∧ SqT K H b xs ∧ xs ≠ [] ∧ -(2 ^ 63) ≤ k ∧ k ≤ 0 ∧ ∀ p, H p = none → Q (.ref p) (upd H p (.tup []))
def rRepT1 (K : PySem.W.Frag) : R2 := fun x y H Q => ∃ b xs, x = .ref b ∧ y = .int 1 ∧ SqT K H b xs ∧ Q (.ref b) H
section
variable {X : Cx}
theorem op_repT0 : OpR X (binaryOp .Mult) (rRepT0 X.K) := by
  intro pins s σ H x y v u Q I rx ry hh
  obtain ⟨b, k, xs, rfl, rfl, hT, hne, h1, h2, q⟩ := hh
  cases rx
  obtain ⟨t, rfl⟩ := ry
  obtain ⟨vs, r, ⟨⟨cls, dd, data, sl⟩, ho, hc, n, hd⟩, hs⟩ := I.tuple hT
  simp only at hc hd
  subst hc hd
  have hi : vs.toArray.isEmpty = false := by
    cases vs with
    | nil => exact absurd (List.eq_nil_of_length_eq_zero r.length) hne
    | cons a b => rfl
  have c0 : (decide (k < -(2 ^ 63)) || decide (k ≥ 2 ^ 63)) = false := by simp; omega
  have c1 : (vs.toArray.isEmpty || k == 1) = false := by
    rw [hi, Bool.false_or, beq_eq_false_iff_ne]; omega
  have c2 : (decide (k ≤ 0) || vs.toArray.isEmpty) = true := by rw [decide_eq_true h2]; rfl
  refine wpAny_binaryOp_repeat_ref (T := "tuple") (U := "int") (by decide) ⟨_, ho, rfl⟩ (fun z => typeIs_int z k t) noFill_tuple_mul F.fills_int_mul F.slot_int_rmul repeat_tuple F.slot_int_index.lookup (call_meets F.slot_int_rmul (typeIs_int s k t) F.entry_int_rmul (F.args_int_rmul_2 _ _) (int_rmul_tuple k t b vs.toArray n dd sl)
      ⟨ho, rfl, ⟨_, ho, rfl⟩, call_meets F.slot_tuple_mul ⟨_, ho, rfl⟩ F.entry_tuple_mul (F.args_tuple_mul_2 _ _) (tmul0 b vs.toArray n dd sl k t c0 c1 c2) ⟨ho, ?_⟩⟩)
  refine ⟨.ref s.heap.objs.size, _, I.laid (t' := s.toks) (o := .tup []) (fun _ _ z => Heap.get?_push_of_some _ z) (Nat.le_refl _) ?_, rfl, q _ (I.hok.fresh (Nat.le_refl _))⟩
  exact ⟨Nat.zero_le _, _, r.rep 0, IsTup.new _ _⟩
theorem op_repT1 : OpR X (binaryOp .Mult) (rRepT1 X.K) := by
  intro pins s σ H x y v u Q I rx ry hh
  obtain ⟨b, xs, rfl, rfl, hT, q⟩ := hh
  cases rx
  obtain ⟨t, rfl⟩ := ry
  obtain ⟨vs, r, ⟨⟨cls, dd, data, sl⟩, ho, hc, n, hd⟩, hs⟩ := I.tuple hT
  simp only at hc hd
  subst hc hd
  refine wpAny_binaryOp_repeat_ref (T := "tuple") (U := "int") (by decide) ⟨_, ho, rfl⟩ (fun z => typeIs_int z 1 t) noFill_tuple_mul F.fills_int_mul F.slot_int_rmul repeat_tuple F.slot_int_index.lookup (call_meets F.slot_int_rmul (typeIs_int s 1 t) F.entry_int_rmul (F.args_int_rmul_2 _ _) (int_rmul_tuple 1 t b vs.toArray n dd sl)
      ⟨ho, rfl, ⟨_, ho, rfl⟩, call_meets F.slot_tuple_mul ⟨_, ho, rfl⟩ F.entry_tuple_mul (F.args_tuple_mul_2 _ _) (tmul1 b vs.toArray n dd sl t (by simp)) ⟨ho, ?_⟩⟩)
  exact ⟨.ref b, _, I, rfl, q⟩
end
def rRepTU (K : PySem.W.Frag) : R2 := fun x y H Q => rRepT K x y H Q ∨ (rRepT0 K x y H Q ∨ rRepT1 K x y H Q)
theorem op_repTU {X : Cx} : OpR X (binaryOp .Mult) (rRepTU X.K) := op_repT.or (op_repT0.or op_repT1)
def fRepT (d e : D) (μ : Mem) : Res D := match d, e with
  | .tup ds, .int k => if ds ≠ [] ∧ -(2 ^ 63) ≤ k ∧ k ≤ 1000 ∧ ds.length ≤ 1000 then .ok (.tup (List.replicate k.toNat ds).flatten) μ else .bad
  | _, _ => .bad
theorem opF_repT {K : PySem.W.Frag} : OpF K (rRepTU K) fRepT := by
  intro d e ρ μ H x y Q E rel dx dy ok
  unfold fRepT at ok
  split at ok
  · rename_i ds k
    split at ok
    · rename_i hc
      obtain ⟨h0, h1, h2, h3⟩ := hc
      obtain ⟨a, vs, e1, e2, e3⟩ := tup_ok dx
      obtain rfl := int_ok dy
      have hne : vs ≠ [] := fun z => h0 (by have := e3.length; rw [z] at this; exact List.length_eq_zero_iff.mp this)
      by_cases k1 : k = 1
      · subst k1
        have e4 : (List.replicate (1 : Int).toNat ds).flatten = ds := by simp
        rw [e4] at ok
        refine .inr (.inr ⟨a, vs, e1, rfl, e2.sq, ?_⟩)
        rw [← e1]
        exact .inl (ok.now rel dx)
      · by_cases k0 : k ≤ 0
        · have e4 : (List.replicate k.toNat ds).flatten = [] := by
            have : k.toNat = 0 := by omega
            rw [this]; rfl
          rw [e4] at ok
          exact .inr (.inl ⟨a, k, vs, e1, rfl, e2.sq, hne, h1, k0, fun p hp => .inl (okr_tup rel hp .nil ok)⟩)
        · exact .inl ⟨a, k, vs, e1, rfl, e2.sq, hne, by omega, h2, by rw [← e3.length]; exact h3, fun p hp => .inl (okr_tup rel hp (dvs_rep e3 _) ok)⟩
    · exact ok.elim
  · exact ok.elim
theorem re_repT {X : Cx} {hx : Option HX} {W : WX} {pos : Pos} {a b : Expr} {ma mb : ME} (ha : RE X hx W a ma) (hb : RE X hx W b mb) : RE X hx W (.BinOp a .Mult b pos) (mop fRepT ma mb) := re_opF op_repTU opF_repT ha hb
end Doz
end
section
namespace Doz
open PySem L2 PySem.Spec PyProof.Rows
def isB (K : PySem.W.Frag) (C : Addr) : Bool :=
  decide (PySem.W.findIn K (.ref C) "__class__" = some (some (.builtin "object.__class__"))) && (decide (PySem.W.specialIn K (.builtin "object.__class__") "__get__" = some (some (.builtin "getset_descriptor.__get__")))
    && (decide (PySem.W.takesIn K (.builtin "object.__class__") = some true) && decide (PySem.W.mroIn K C (.type "object") = some true)))
def rIsW (K : PySem.W.Frag) (C a dd : Addr) : List V → Hp → VK → Prop := fun xs H Q => ∃ (c : V) (cv : Value) (b : Bool) (v : V), xs = [.ref a, c] ∧ (∀ u, RelV c u → u = cv) ∧ PySem.W.kitOne K (.ref C) cv = some b ∧ H dd = some (.xd [(("what" : Str), v)]) ∧ Q (.bl b) H
theorem call_isW {X : Cx} {a C dd fI : Addr} {oe : Obj} {pn : List (Addr × Obj)} (T : PySem.DozX.ExTxt X.K C fI) (hB : isB X.K C = true) (hz : Zc (.ref C) (some dd) oe) (hf : ∃ vs, oe.data = .fields vs) : CallR (X.suite a ((a, oe) :: pn)) (.builtin "isinstance") (rIsW X.K C a dd) := by
  intro pins s σ H xs us Q I r h
  obtain ⟨c, cv, b, v, rfl, hcv, e, hH, q⟩ := h
  unfold isB at hB
  simp only [Bool.and_eq_true, decide_eq_true_eq] at hB
  obtain ⟨b1, b2, b3, b4⟩ := hB
  cases r with
  | cons rx rr =>
    cases rr with
    | cons rt rr =>
      cases rr
      cases rx
      have ec := hcv _ rt
      subst ec
      obtain ⟨hget, _⟩ := I.pin (a, oe) (List.mem_append.mpr (.inl List.mem_cons_self))
      obtain ⟨vs, hd⟩ := hf
      have hx : ObjOk X.prog X.w H s.heap dd (.xd [(("what" : Str), v)]) := I.hok dd _ hH
      obtain ⟨mA, hns, hr⟩ := hx
      obtain ⟨od, ho, hl⟩ := lookIn_ns hns
      have J : PySem.W.InstAt s.heap a oe C (some od) := ⟨hget, hz.1, by unfold PySem.W.notCls; rw [hd] <;> rfl, by rw [hz.2]; exact ho⟩
      have hcl : (PySem.W.clsIn X.K C).isSome = true := by
        obtain ⟨cd, hc, _⟩ := PySem.W.any_some T.hdC
        rw [hc]; rfl
      exact PySem.W.kia_one (PySem.W.kitx_exc hcl T.ga T.gg T.exC b1 b2 b3 b4) I.kIn J e (fun z => nomatch z) fun tk => ⟨.bl b, H, I.kept (t' := tk) fun _ _ z => z, rfl, q⟩
def isK (x y : Str) (b : Bool) (K : PySem.W.Frag) : Bool := decide (PySem.W.kitOne K (.ref (He.ga K x)) (.ref (He.ga K y)) = some b) && isB K (He.ga K x)
def isT (x : Str) (y : String) (b : Bool) (K : PySem.W.Frag) : Bool := decide (PySem.W.kitOne K (.ref (He.ga K x)) (.type y) = some b) && isB K (He.ga K x)
def IsL (K : PySem.W.Frag) (cv : Value) (l : List (Addr × Bool)) : Prop := ∀ p ∈ l, PySem.W.kitOne K (.ref p.1) cv = some p.2 ∧ isB K p.1 = true
theorem il_nil {K : PySem.W.Frag} {cv : Value} : IsL K cv [] := fun _ h => by cases h
theorem il_cons {K : PySem.W.Frag} {cv : Value} {C : Addr} {b : Bool} {l : List (Addr × Bool)} (h : (decide (PySem.W.kitOne K (.ref C) cv = some b) && isB K C) = true) (t : IsL K cv l) : IsL K cv ((C, b) :: l) := fun p hp => by
  rcases List.mem_cons.mp hp with e | hp
  · rw [e]
    simp only [Bool.and_eq_true, decide_eq_true_eq] at h
    exact h
  · exact t p hp
theorem look_keys {C : Addr} {b : Bool} : ∀ {l m : List (Addr × Bool)}, l.map (·.1) = m.map (·.1) → l.lookup C = some b → ∃ b', m.lookup C = some b'
  | [], _, _, h => by cases h
  | _ :: _, [], e, _ => by cases e
  | p :: l, q :: m, e, h => by
    have e1 : p.1 = q.1 := (List.cons.inj e).1
    have e2 : l.map (·.1) = m.map (·.1) := (List.cons.inj e).2
    obtain ⟨pa, pb⟩ := p
    obtain ⟨qa, qb⟩ := q
    dsimp only at e1
    subst e1
    by_cases hc : C = pa
    · subst hc
      exact ⟨qb, by simp [List.lookup]⟩
    · have hc' : (C == pa) = false := by simpa using hc
      simp only [List.lookup, hc'] at h ⊢
      exact look_keys e2 h
theorem il_of {K : PySem.W.Frag} {cv : Value} {C : Addr} {b : Bool} {l m : List (Addr × Bool)} (h : l.lookup C = some b) (t : IsL K cv m) (e : l.map (·.1) = m.map (·.1)) : PySem.W.kitOne K (.ref C) cv = some ((m.lookup C).getD false) ∧ isB K C = true := by
  obtain ⟨b', h'⟩ := look_keys e h
  rw [h']
  exact t (C, b') (look_mem h')
section
variable {X : Cx} {W : WX} {pos p1 p2 p3 : Pos}
theorem re_isW {i : Nat} {a C dd fI : Addr} {oe : Obj} {w : D} {pn : List (Addr × Obj)} {y x : Str} {cv : Value} {c : V} {b : Bool} (T : PySem.DozX.ExTxt X.K C fI) (hB : isB X.K C = true) (hz : Zc (.ref C) (some dd) oe) (hf : ∃ vs, oe.data = .fields vs)
    (hk : PySem.W.kitOne X.K (.ref C) cv = some b) (hc : ∀ u, RelV c u → u = cv) (hx : PE (X.suite a ((a, oe) :: pn)) (.Name x p3) (tC c)) (hm : X.mg "isinstance" = none) (hg : Gl (X.suite a ((a, oe) :: pn)) "isinstance" := by rfl)
    (hN : X.N[i]? = some y := by rfl) (hv : Vis X.env.scope y := by first | exact Or.inl rfl | exact Or.inr (Or.inl rfl) | exact Or.inr (Or.inr rfl)) (hd : (y == ("__debug__" : Str)) = false := by decide)
    (hcd : (y == ("__classdict__" : Str)) = false := by decide) (hs1 : starEach [.Name y p2, .Name x p3] (X.suite a ((a, oe) :: pn)).env = (false, eval (.Name y p2) (X.suite a ((a, oe) :: pn)).env) :: starEach [.Name x p3] (X.suite a ((a, oe) :: pn)).env := by rfl)
    (hs2 : starEach [.Name x p3] (X.suite a ((a, oe) :: pn)).env = (false, eval (.Name x p3) (X.suite a ((a, oe) :: pn)).env) :: starEach [] (X.suite a ((a, oe) :: pn)).env := by rfl) (hpl : (backTo pos (starEach [.Name x p3] (X.suite a ((a, oe) :: pn)).env)).any (·.1) = false := by rfl) :
    RE (X.suite a ((a, oe) :: pn)) (some ⟨i, a, C, dd, w, none⟩) W (.Call (.Name "isinstance" p1) [.Name y p2, .Name x p3] [] pos) (mC (.bl b)) := by
  refine ⟨⟨_, pe_callB (call_isW T hB hz hf) hg hm (by decide +kernel) (pa_cons (pe_var (X := X.suite a ((a, oe) :: pn)) (i := i) hN hv hd hcd) (pa_cons hx pa_nil hs2) hs1) (by decide) (by decide) hs1 hpl, fun ρ μ δ σ H Q rel env ok => ?_⟩⟩
  obtain ⟨h1, h2, v, h3, h4⟩ := env.exn _ rfl
  exact ⟨.ref a, h1, c, cv, b, v, rfl, hc, hk, h3, Okr.now ok rel dv_bl⟩
theorem re_isG {i : Nat} {a C dd fI A : Addr} {oe : Obj} {w : D} {pn : List (Addr × Obj)} {y x : Str} {b : Bool} (T : PySem.DozX.ExTxt X.K C fI) (I : PySem.W.kitOne X.K (.ref C) (.ref A) = some b ∧ isB X.K C = true) (hz : Zc (.ref C) (some dd) oe) (hf : ∃ vs, oe.data = .fields vs) (hA : X.mg x = some (.ref A)) (hm : X.mg "isinstance" = none)
    (hN : X.N[i]? = some y := by rfl) (hgx : Gl (X.suite a ((a, oe) :: pn)) x := by rfl) (hg : Gl (X.suite a ((a, oe) :: pn)) "isinstance" := by rfl) (hdx : (x == ("__debug__" : Str)) = false := by decide)
    (hv : Vis X.env.scope y := by first | exact Or.inl rfl | exact Or.inr (Or.inl rfl) | exact Or.inr (Or.inr rfl)) (hd : (y == ("__debug__" : Str)) = false := by decide) (hcd : (y == ("__classdict__" : Str)) = false := by decide) :
    RE (X.suite a ((a, oe) :: pn)) (some ⟨i, a, C, dd, w, none⟩) W (.Call (.Name "isinstance" p1) [.Name y p2, .Name x p3] [] pos) (mC (.bl b)) :=
  re_isW (c := .ref A) (cv := .ref A) T I.2 hz hf I.1 (fun u r => by cases r; rfl) (pe_glob hgx hA rfl hdx) hm hg hN hv hd hcd
theorem re_isBT {i : Nat} {a C dd fI : Addr} {oe : Obj} {w : D} {pn : List (Addr × Obj)} {y x : Str} {b : Bool} {t : String} (T : PySem.DozX.ExTxt X.K C fI) (I : PySem.W.kitOne X.K (.ref C) (.type t) = some b ∧ isB X.K C = true) (hz : Zc (.ref C) (some dd) oe) (hf : ∃ vs, oe.data = .fields vs) (hA : X.mg x = none) (hb : bootBuiltins x = some (.type t)) (hm : X.mg "isinstance" = none)
    (hN : X.N[i]? = some y := by rfl) (hgx : Gl (X.suite a ((a, oe) :: pn)) x := by rfl) (hg : Gl (X.suite a ((a, oe) :: pn)) "isinstance" := by rfl) (hnx : x ≠ "__name__" := by decide) (hdx : (x == ("__debug__" : Str)) = false := by decide)
    (hv : Vis X.env.scope y := by first | exact Or.inl rfl | exact Or.inr (Or.inl rfl) | exact Or.inr (Or.inr rfl)) (hd : (y == ("__debug__" : Str)) = false := by decide) (hcd : (y == ("__classdict__" : Str)) = false := by decide) :
    RE (X.suite a ((a, oe) :: pn)) (some ⟨i, a, C, dd, w, none⟩) W (.Call (.Name "isinstance" p1) [.Name y p2, .Name x p3] [] pos) (mC (.bl b)) :=
  re_isW (c := .ty t) (cv := .type t) T I.2 hz hf I.1 (fun u r => by cases r; rfl) (pe_bltn (v := .ty t) hgx hA hb rfl hnx hdx) hm hg hN hv hd hcd
end
end Doz
end
section
namespace Doz
open PySem PySem.Spec PyProof.Rows L2
def SqB (K : PySem.W.Frag) (H : Hp) (k : Bool) (a : Addr) (xs : List V) : Prop := match k with
  | true => SqT K H a xs
  | false => SqL K H a xs
def AtB (h : Heap) (k : Bool) (it l : Addr) (i : Nat) : Prop := match k with
  | true => h.IsTupleIter it l i
  | false => h.IsListIter it l i
def ArB (h : Heap) (k : Bool) (l : Addr) (xs : Array Value) : Prop := match k with
  | true => h.IsTuple l xs
  | false => h.IsList l xs
def objB (k : Bool) (l : Addr) : Obj := match k with
  | true => { cls := .type "tuple_iterator", data := .fields #[.ref l, .int 0 0] }
  | false => { cls := .type "list_iterator", data := .fields #[.ref l, .int 0 0] }
theorem drawsB {prog : Program} {w : World} {A : Around} (hh : A.handled = none) (k : Bool) (it l : Addr) (hne : l ≠ it) (xs : Array Value) : Draws prog w A it [it, l] xs.size (fun i v => xs[i]? = some v) (fun i h => AtB h k it l i ∧ ArB h k l xs) := by
  cases k with
  | true => exact Draws.tuple hh it l hne xs
  | false => exact Draws.list hh it l hne xs
theorem beginsB (k : Bool) (l : Addr) (xs : Array Value) : Begins (.ref l) (objB k l) fun h => ArB h k l xs := by
  cases k with
  | true => exact begins_tuple l xs
  | false => exact begins_list l xs
theorem atB_obj {h : Heap} {k : Bool} {it l : Addr} (e : h.get? it = some (objB k l)) : AtB h k it l 0 := by
  cases k with
  | true => exact ⟨_, e, rfl, rfl⟩
  | false => exact ⟨_, e, rfl, rfl⟩
theorem AtB.plain {h : Heap} {k : Bool} {it l : Addr} {i : Nat} (x : AtB h k it l i) : ∃ o, h.get? it = some o ∧ ∀ v, o.data ≠ .cell v := by
  cases k with
  | true => obtain ⟨o, e, _, d⟩ := x; exact ⟨o, e, fun v q => by rw [d] at q; cases q⟩
  | false => obtain ⟨o, e, _, d⟩ := x; exact ⟨o, e, fun v q => by rw [d] at q; cases q⟩
theorem AtB.at {h h' : Heap} {k : Bool} {it l : Addr} {i : Nat} (x : AtB h k it l i) (e : ∀ o, h.get? it = some o → h'.get? it = some o) : AtB h' k it l i := by
  cases k with
  | true => obtain ⟨o, e1, r⟩ := x; exact ⟨o, e o e1, r⟩
  | false => obtain ⟨o, e1, r⟩ := x; exact ⟨o, e o e1, r⟩
section
variable {X : Cx} {pins : List (Addr × Obj)} {σ : L2.St} {H : Hp} {s : Shared} {k : Bool} {a : Addr} {xs ys : List V}
theorem inv_sqB (I : Inv X pins σ H s) (h : SqB X.K H k a xs) : ∃ its : List Value, Vals xs its ∧ ArB s.heap k a its.toArray ∧ a < s.heap.objs.size := by
  cases k with
  | true =>
    obtain ⟨its, rv, p, _⟩ := I.tuple h
    obtain ⟨o, ho, _⟩ := id p
    exact ⟨its, rv, p, Heap.lt_size ho⟩
  | false =>
    obtain ⟨its, rv, p, _⟩ := I.list h
    exact ⟨its, rv, p.isList, p.lt⟩
theorem inj_sqB (I : Inv X pins σ H s) (h : SqB X.K H k a xs) (h' : SqB X.K H k a ys) : xs = ys := by
  cases k with
  | true => exact I.tuple_inj h h'
  | false => exact I.list_inj h h'
end
def sqOf (μ : Mem) (d : D) : Option (List D) := match d with
  | .tup ds => some ds
  | d => lstOf μ d
def sqIs (d : D) (ds : List D) (μ : Mem) : Bool := match d with
  | .tup _ => true
  | d => lstIs d ds μ
theorem sqB_of {K : PySem.W.Frag} {ρ : List Addr} {μ : Mem} {H : Hp} {d : D} {v : V} {ds : List D} (rel : Rel K ρ μ H) (dv : DV K ρ H d v) (h : sqOf μ d = some ds) : ∃ (k : Bool) (a : Addr) (vs : List V), v = .ref a ∧ SqB K H k a vs ∧ DVs K ρ H ds vs ∧
    ∀ ρ' μ' H', Pre ρ ρ' → Fz ρ ρ' H H' → Rel K ρ' μ' H' → sqIs d ds μ' = true → ∃ vs', SqB K H' k a vs' ∧ DVs K ρ' H' ds vs' := by
  have lst : lstOf μ d = some ds → (∀ μ', sqIs d ds μ' = true → lstOf μ' d = some ds) → ∃ (k : Bool) (a : Addr) (vs : List V), v = .ref a ∧ SqB K H k a vs ∧ DVs K ρ H ds vs ∧
      ∀ ρ' μ' H', Pre ρ ρ' → Fz ρ ρ' H H' → Rel K ρ' μ' H' → sqIs d ds μ' = true → ∃ vs', SqB K H' k a vs' ∧ DVs K ρ' H' ds vs' := fun hl hg => by
    obtain ⟨a, vs, rfl, e2, e3⟩ := lstOf_ok rel dv hl
    refine ⟨false, a, vs, rfl, rd_sq e2, e3, fun ρ' μ' H' p f rel' gd => ?_⟩
    obtain ⟨b, vs', e1', e2', e3'⟩ := lstOf_ok rel' (dv.mono p f) (hg μ' gd)
    cases e1'
    exact ⟨vs', rd_sq e2', e3'⟩
  cases d with
  | tup xs =>
    cases h
    obtain ⟨a, vs, rfl, e2, e3⟩ := tup_ok dv
    refine ⟨true, a, vs, rfl, e2.sq, e3, fun ρ' μ' H' p f rel' _ => ?_⟩
    obtain ⟨b, vs', e1', e2', e3'⟩ := tup_ok (dv.mono p f)
    cases e1'
    exact ⟨vs', e2'.sq, e3'⟩
  | _ => exact lst h fun μ' g => lstIs_eq g
def ItZ2 (K : PySem.W.Frag) (k1 k2 : Bool) (a1 a2 : Addr) : It :=
  ⟨fun i H => (∃ (l : List V) (x : V), SqB K H k1 a1 l ∧ l[i]? = some x) ∧ (∃ (l : List V) (x : V), SqB K H k2 a2 l ∧ l[i]? = some x),
    fun i H v H' => ∃ T x1 x2, v = .ref T ∧ H T = none ∧ H' = upd H T (.tup [x1, x2]) ∧ (∀ l, SqB K H k1 a1 l → l[i]? = some x1) ∧ (∀ l, SqB K H k2 a2 l → l[i]? = some x2),
    fun i H => ∃ l1 l2 : List V, SqB K H k1 a1 l1 ∧ i ≤ l1.length ∧ SqB K H k2 a2 l2 ∧ i ≤ l2.length ∧ (i = l1.length ∨ i = l2.length)⟩
structure Apart2 (z TI TO i1 i2 a1 a2 : Nat) : Prop where
  az : TI ≠ z ∧ TO ≠ z ∧ TI ≠ TO
  t1 : TI ≠ i1 ∧ z ≠ i1 ∧ TO ≠ i1 ∧ z ≠ a1 ∧ TO ≠ a1
  t2 : TI ≠ i2 ∧ z ≠ i2 ∧ TO ≠ i2 ∧ z ≠ a2 ∧ TO ≠ a2
  ii : i1 ≠ i2 ∧ i2 ≠ i1
  ia : i1 ≠ a1 ∧ i1 ≠ a2 ∧ i2 ≠ a1 ∧ i2 ≠ a2
theorem Apart2.sep {z TI TO i1 i2 a1 a2 : Nat} (D : Apart2 z TI TO i1 i2 a1 a2) : ZipSep2 z TI TO i1 i2 [i1, a1] [i2, a2] := by
  obtain ⟨⟨h1, h2, h3⟩, ⟨u1, v1, w1, x1, y1⟩, ⟨u2, v2, w2, x2, y2⟩, ii, ia⟩ := D
  constructor <;> first | assumption | (simp; done) | (simp only [List.mem_cons, List.not_mem_nil, or_false, not_or]; refine ⟨?_, ?_⟩ <;> first | assumption | exact fun e => (by simp_all))
theorem apart2 (I a1 a2 : Nat) (h1 : a1 < I) (h2 : a2 < I) : Apart2 (I + 4) (I + 2) (I + 3) I (I + 1) a1 a2 := by
  constructor <;> omega
theorem turnZ2 {P : Program} {w : World} {K : PySem.W.Frag} {elts : List Expr} {kk : Nat} {tpos : Pos} {k1 k2 : Bool} {a1 a2 z TI TO i1 i2 : Addr} (D : Apart2 z TI TO i1 i2 a1 a2) :
    Turn P w K (.Tuple elts kk tpos) (ItZ2 K k1 k2 a1 a2) [z, TI, TO, i1, i2] z (fun i h => IsZip h z TI TO .none ∧ IsTupOf2 h TI (.ref i1) (.ref i2) ∧ (∃ x1 x2, IsTupOf2 h TO x1 x2) ∧ AtB h k1 i1 a1 i ∧ AtB h k2 i2 a2 i) where
  mem := by simp
  obj := fun i h st c hc => by
    obtain ⟨hz, hTI, ⟨x1, x2, hTO⟩, t1, t2⟩ := st
    have e' : c = z ∨ c = TI ∨ c = TO ∨ c = i1 ∨ c = i2 := by simpa using hc
    rcases e' with q | q | q | q | q <;> subst q
    · exact ⟨_, hz, fun v q => by cases q⟩
    · exact ⟨_, hTI, fun v q => by cases q⟩
    · exact ⟨_, hTO, fun v q => by cases q⟩
    · exact t1.plain
    · exact t2.plain
  keep := fun i h h' st g => by
    obtain ⟨hz, hTI, ⟨x1, x2, hTO⟩, t1, t2⟩ := st
    exact ⟨g z (by simp) _ hz, g TI (by simp) _ hTI, ⟨x1, x2, g TO (by simp) _ hTO⟩, t1.at fun o q => g i1 (by simp) o q, t2.at fun o q => g i2 (by simp) o q⟩
  item := by
    intro X hP hw hK hc i pins s σ H E I hf st hg
    subst hP hw hK
    obtain ⟨hz, hTI, ⟨y1, y2, hTO⟩, t1, t2⟩ := st
    obtain ⟨⟨l1, x1, q1, e1⟩, ⟨l2, x2, q2, e2⟩⟩ := hg
    obtain ⟨s1, r1, p1, b1⟩ := inv_sqB I q1
    obtain ⟨u1, hu1, ru1⟩ := r1.get e1
    have lt1 : i < s1.length := (List.getElem?_eq_some_iff.mp hu1).1
    have ne1 : a1 ≠ i1 := fun q => by have := D.ia; simp_all
    have dr1 := drawsB (prog := X.prog) (w := X.w) (A := X.A.in1) (show X.A.in1.handled = none from I.ok.hd hc) k1 i1 a1 ne1 s1.toArray
    obtain ⟨s2, r2, p2, b2⟩ := inv_sqB I q2
    obtain ⟨u2, hu2, ru2⟩ := r2.get e2
    have lt2 : i < s2.length := (List.getElem?_eq_some_iff.mp hu2).1
    have ne2 : a2 ≠ i2 := fun q => by have := D.ia; simp_all
    have dr2 := drawsB (prog := X.prog) (w := X.w) (A := X.A.in1) (show X.A.in1.handled = none from I.ok.hd hc) k2 i2 a2 ne2 s2.toArray
    have hzl : z < s.heap.objs.size := Heap.lt_size hz
    refine wpAny_pyNext_zipD2_item D.sep dr1 dr2 hz hTI hTO ⟨t1, p1⟩ ⟨t2, p2⟩ (by simpa using lt1) (by simpa using lt2) fun w1 w2 h' tk g1 g2 z' TO' v1 v2 hT hsz hk => ?_
    have ew1 : w1 = u1 := by have g : (s1.toArray)[i]? = some w1 := g1; rw [List.getElem?_toArray, hu1] at g; exact (Option.some.inj g).symm
    subst ew1
    have ew2 : w2 = u2 := by have g : (s2.toArray)[i]? = some w2 := g2; rw [List.getElem?_toArray, hu2] at g; exact (Option.some.inj g).symm
    subst ew2
    refine ⟨_, rfl, wpAny_letOwnedTupleGo_zip (s := { s with heap := h', toks := tk }) z' fun h'' z'' sb => ?_⟩
    have hT2 : h''.get? s.heap.objs.size = some { cls := .type "tuple", data := .seq #[w1, w2] } := (sb.2 _ (Nat.ne_of_gt hzl)).trans hT
    have made : ObjOk X.prog X.w (upd H s.heap.objs.size (.tup [x1, x2])) h'' s.heap.objs.size (.tup [x1, x2]) :=
      ⟨by show 2 ≤ sizeLine; decide, [w1, w2], .cons ru1 (.cons ru2 .nil), ⟨_, hT2, rfl, _, rfl⟩⟩
    have I1 : Inv X pins σ (upd H s.heap.objs.size (.tup [x1, x2])) { s with heap := h'', toks := tk } :=
      I.turnedNew (t' := tk) (ch := [z, TI, TO, i1, i2]) (fun c o hb q => (sb.2 c (fun q' => hb (by simp [q']))).trans (hk c o (fun q' => hb (by simp [q'])) (fun q' => hb (by simp [q'])) (fun q' => hb (by simp [q'])) (fun q' => hb (by simp [q'])) q)) hf (Nat.le_refl _) made
    obtain ⟨⟨d1, d2, d3⟩, ⟨f1, m1, n1, _, _⟩, ⟨f2, m2, n2, _, _⟩, _, _⟩ := D
    refine ⟨.ref s.heap.objs.size, _, I1, rfl, ⟨_, x1, x2, rfl, I.hok.fresh (Nat.le_refl _), rfl, fun l hl => by rw [inj_sqB I hl q1]; exact e1, fun l hl => by rw [inj_sqB I hl q2]; exact e2⟩, ⟨z'', ?_, ⟨w1, w2, ?_⟩, ?_, ?_⟩, fun c hcm => ?_⟩
    · exact (sb.2 _ d1).trans (hk _ _ d1 d3 f1 f2 hTI)
    · exact (sb.2 _ d2).trans TO'
    · exact v1.1.at fun o q => (sb.2 _ (Ne.symm m1)).trans q
    · exact v2.1.at fun o q => (sb.2 _ (Ne.symm m2)).trans q
    · have hlt : c < s.heap.objs.size := by
        have e' : c = z ∨ c = TI ∨ c = TO ∨ c = i1 ∨ c = i2 := by simpa using hcm
        rcases e' with q | q | q | q | q <;> subst q
        · exact hzl
        · exact Heap.lt_size hTI
        · exact Heap.lt_size hTO
        · obtain ⟨_, g, _⟩ := t1.plain; exact Heap.lt_size g
        · obtain ⟨_, g, _⟩ := t2.plain; exact Heap.lt_size g
      rw [upd_ne (Nat.ne_of_lt hlt)]
      exact (hf c hcm).1
  done := by
    intro X hP hw hK hc i pins s σ H E I hf st hg
    subst hP hw hK
    obtain ⟨hz, hTI, ⟨y1, y2, hTO⟩, t1, t2⟩ := st
    obtain ⟨l1, l2, q1, e1, q2, e2, hend⟩ := hg
    obtain ⟨s1, r1, p1, b1⟩ := inv_sqB I q1
    have c1 := r1.length
    have ne1 : a1 ≠ i1 := fun q => by have := D.ia; simp_all
    have dr1 := drawsB (prog := X.prog) (w := X.w) (A := X.A.in1) (show X.A.in1.handled = none from I.ok.hd hc) k1 i1 a1 ne1 s1.toArray
    obtain ⟨s2, r2, p2, b2⟩ := inv_sqB I q2
    have c2 := r2.length
    have ne2 : a2 ≠ i2 := fun q => by have := D.ia; simp_all
    have dr2 := drawsB (prog := X.prog) (w := X.w) (A := X.A.in1) (show X.A.in1.handled = none from I.ok.hd hc) k2 i2 a2 ne2 s2.toArray
    exact wpAny_pyNext_zipD2_end D.sep dr1 dr2 hz hTI hTO ⟨t1, p1⟩ ⟨t2, p2⟩ (by simp; omega) (by simp; omega) (by simp; omega) fun h' tk hk => ⟨rfl, I.turnedL (t' := tk) (ch := [z, TI, TO, i1, i2]) (fun c o hb q =>
      hk c o (fun q' => hb (by simp [q'])) (fun q' => hb (by simp [q'])) (fun q' => hb (by simp [q'])) (fun q' => hb (by simp [q'])) q) hf⟩
  self := fun A i s Q E st h => wpAny_pyIter_zip st.1 h
def iZipB2 (K : PySem.W.Frag) (ta : TA) : TI := fun σ H R => ta σ H fun vs H1 => ∃ (k1 k2 : Bool) (a1 a2 : Addr) (l1 l2 : List V), vs = [.ref a1, .ref a2] ∧ SqB K H1 k1 a1 l1 ∧ SqB K H1 k2 a2 l2 ∧ R (ItZ2 K k1 k2 a1 a2) H1
theorem pi_zipB2 {X : Cx} {e1 e2 : Expr} {ta : TA} {p pos tpos : Pos} {elts : List Expr} {kk : Nat} (hg : Gl X "zip") (hm : X.mg "zip" = none) (ha : PA X [e1, e2] ta)
    (hs : starEach [e1, e2] X.env = (false, eval e1 X.env) :: starEach [e2] X.env := by rfl) (hpl : (backTo pos (starEach [e2] X.env)).any (·.1) = false := by rfl) : PI X (.Tuple elts kk tpos) (.Call (.Name "zip" p) [e1, e2] [] pos) (iZipB2 X.K ta) := by
  refine ⟨fun pins s σ H R I h => ?_⟩
  refine Call_ (ld_blt I hg hm PyProof.Rows.boot_zip (PyProof.Rows.callWith_type1 (thn (ha.run pos pins s σ H _ I h) fun us s1 ⟨vs, H1, I1, r1, q1⟩ => ?_) hs hpl))
  obtain ⟨k1, k2, a1, a2, l1, l2, ex, q1, q2, q⟩ := q1
  subst ex
  obtain ⟨u1, u2, eu, rr1, rr2⟩ : ∃ u1 u2, us = [u1, u2] ∧ RelV (.ref a1) u1 ∧ RelV (.ref a2) u2 := by
    cases r1 with
    | cons c1 r1 => cases r1 with
      | cons c2 r1 => cases r1; exact ⟨_, _, rfl, c1, c2⟩
  subst eu
  have z1 : u1 = .ref a1 := rr1
  subst z1
  obtain ⟨ss1, rv1, p1, b1⟩ := inv_sqB I1 q1
  have z2 : u2 = .ref a2 := rr2
  subst z2
  obtain ⟨ss2, rv2, p2, b2⟩ := inv_sqB I1 q2
  refine zip_begins2 (beginsB k1 a1 ss1.toArray) (beginsB k2 a2 ss2.toArray) p1 p2 fun h' hz hTI hTO g1 g2 hsz hk => wpAny_pyIter_zip hz ?_
  have I2 : Inv X pins σ H1 { s1 with heap := h' } := I1.kept (t' := s1.toks) hk
  refine ⟨s1.heap.objs.size + 4, [s1.heap.objs.size + 4, s1.heap.objs.size + 2, s1.heap.objs.size + 3, s1.heap.objs.size, s1.heap.objs.size + 1], _, _, H1, rfl, I2, turnZ2 (apart2 s1.heap.objs.size a1 a2 b1 b2), ⟨hz, hTI, ⟨_, _, hTO⟩, atB_obj g1, atB_obj g2⟩, fun c hcm => ?_, q⟩
  have hle : s1.heap.objs.size ≤ c := by
    simp only [List.mem_cons, List.not_mem_nil, or_false] at hcm
    rcases hcm with q | q | q | q | q <;> rw [q] <;> first | exact Nat.le_add_right _ _ | exact Nat.le_refl _
  exact I1.fpOk hle (I1.hok.fresh hle)
def ItZ3 (K : PySem.W.Frag) (k1 k2 k3 : Bool) (a1 a2 a3 : Addr) : It :=
  ⟨fun i H => (∃ (l : List V) (x : V), SqB K H k1 a1 l ∧ l[i]? = some x) ∧ (∃ (l : List V) (x : V), SqB K H k2 a2 l ∧ l[i]? = some x) ∧ (∃ (l : List V) (x : V), SqB K H k3 a3 l ∧ l[i]? = some x),
    fun i H v H' => ∃ T x1 x2 x3, v = .ref T ∧ H T = none ∧ H' = upd H T (.tup [x1, x2, x3]) ∧ (∀ l, SqB K H k1 a1 l → l[i]? = some x1) ∧ (∀ l, SqB K H k2 a2 l → l[i]? = some x2) ∧ (∀ l, SqB K H k3 a3 l → l[i]? = some x3),
    fun i H => ∃ l1 l2 l3 : List V, SqB K H k1 a1 l1 ∧ i ≤ l1.length ∧ SqB K H k2 a2 l2 ∧ i ≤ l2.length ∧ SqB K H k3 a3 l3 ∧ i ≤ l3.length ∧ (i = l1.length ∨ i = l2.length ∨ i = l3.length)⟩
structure Apart3 (z TI TO i1 i2 i3 a1 a2 a3 : Nat) : Prop where
  az : TI ≠ z ∧ TO ≠ z ∧ TI ≠ TO
  t1 : TI ≠ i1 ∧ z ≠ i1 ∧ TO ≠ i1 ∧ z ≠ a1 ∧ TO ≠ a1
  t2 : TI ≠ i2 ∧ z ≠ i2 ∧ TO ≠ i2 ∧ z ≠ a2 ∧ TO ≠ a2
  t3 : TI ≠ i3 ∧ z ≠ i3 ∧ TO ≠ i3 ∧ z ≠ a3 ∧ TO ≠ a3
  ii : i1 ≠ i2 ∧ i1 ≠ i3 ∧ i2 ≠ i1 ∧ i2 ≠ i3 ∧ i3 ≠ i1 ∧ i3 ≠ i2
  ia : i1 ≠ a1 ∧ i1 ≠ a2 ∧ i1 ≠ a3 ∧ i2 ≠ a1 ∧ i2 ≠ a2 ∧ i2 ≠ a3 ∧ i3 ≠ a1 ∧ i3 ≠ a2 ∧ i3 ≠ a3
theorem Apart3.sep {z TI TO i1 i2 i3 a1 a2 a3 : Nat} (D : Apart3 z TI TO i1 i2 i3 a1 a2 a3) : ZipSep3 z TI TO i1 i2 i3 [i1, a1] [i2, a2] [i3, a3] := by
  obtain ⟨⟨h1, h2, h3⟩, ⟨u1, v1, w1, x1, y1⟩, ⟨u2, v2, w2, x2, y2⟩, ⟨u3, v3, w3, x3, y3⟩, ii, ia⟩ := D
  constructor <;> first | assumption | (simp; done) | (simp only [List.mem_cons, List.not_mem_nil, or_false, not_or]; refine ⟨?_, ?_⟩ <;> first | assumption | exact fun e => (by simp_all))
theorem apart3 (I a1 a2 a3 : Nat) (h1 : a1 < I) (h2 : a2 < I) (h3 : a3 < I) : Apart3 (I + 5) (I + 3) (I + 4) I (I + 1) (I + 2) a1 a2 a3 := by
  constructor <;> omega
theorem turnZ3 {P : Program} {w : World} {K : PySem.W.Frag} {elts : List Expr} {kk : Nat} {tpos : Pos} {k1 k2 k3 : Bool} {a1 a2 a3 z TI TO i1 i2 i3 : Addr} (D : Apart3 z TI TO i1 i2 i3 a1 a2 a3) :
    Turn P w K (.Tuple elts kk tpos) (ItZ3 K k1 k2 k3 a1 a2 a3) [z, TI, TO, i1, i2, i3] z (fun i h => IsZip h z TI TO .none ∧ IsTupOf3 h TI (.ref i1) (.ref i2) (.ref i3) ∧ (∃ x1 x2 x3, IsTupOf3 h TO x1 x2 x3) ∧ AtB h k1 i1 a1 i ∧ AtB h k2 i2 a2 i ∧ AtB h k3 i3 a3 i) where
  mem := by simp
  obj := fun i h st c hc => by
    obtain ⟨hz, hTI, ⟨x1, x2, x3, hTO⟩, t1, t2, t3⟩ := st
    have e' : c = z ∨ c = TI ∨ c = TO ∨ c = i1 ∨ c = i2 ∨ c = i3 := by simpa using hc
    rcases e' with q | q | q | q | q | q <;> subst q
    · exact ⟨_, hz, fun v q => by cases q⟩
    · exact ⟨_, hTI, fun v q => by cases q⟩
    · exact ⟨_, hTO, fun v q => by cases q⟩
    · exact t1.plain
    · exact t2.plain
    · exact t3.plain
  keep := fun i h h' st g => by
    obtain ⟨hz, hTI, ⟨x1, x2, x3, hTO⟩, t1, t2, t3⟩ := st
    exact ⟨g z (by simp) _ hz, g TI (by simp) _ hTI, ⟨x1, x2, x3, g TO (by simp) _ hTO⟩, t1.at fun o q => g i1 (by simp) o q, t2.at fun o q => g i2 (by simp) o q, t3.at fun o q => g i3 (by simp) o q⟩
  item := by
    intro X hP hw hK hc i pins s σ H E I hf st hg
    subst hP hw hK
    obtain ⟨hz, hTI, ⟨y1, y2, y3, hTO⟩, t1, t2, t3⟩ := st
    obtain ⟨⟨l1, x1, q1, e1⟩, ⟨l2, x2, q2, e2⟩, ⟨l3, x3, q3, e3⟩⟩ := hg
    obtain ⟨s1, r1, p1, b1⟩ := inv_sqB I q1
    obtain ⟨u1, hu1, ru1⟩ := r1.get e1
    have lt1 : i < s1.length := (List.getElem?_eq_some_iff.mp hu1).1
    have ne1 : a1 ≠ i1 := fun q => by have := D.ia; simp_all
    have dr1 := drawsB (prog := X.prog) (w := X.w) (A := X.A.in1) (show X.A.in1.handled = none from I.ok.hd hc) k1 i1 a1 ne1 s1.toArray
    obtain ⟨s2, r2, p2, b2⟩ := inv_sqB I q2
    obtain ⟨u2, hu2, ru2⟩ := r2.get e2
    have lt2 : i < s2.length := (List.getElem?_eq_some_iff.mp hu2).1
    have ne2 : a2 ≠ i2 := fun q => by have := D.ia; simp_all
    have dr2 := drawsB (prog := X.prog) (w := X.w) (A := X.A.in1) (show X.A.in1.handled = none from I.ok.hd hc) k2 i2 a2 ne2 s2.toArray
    obtain ⟨s3, r3, p3, b3⟩ := inv_sqB I q3
    obtain ⟨u3, hu3, ru3⟩ := r3.get e3
    have lt3 : i < s3.length := (List.getElem?_eq_some_iff.mp hu3).1
    have ne3 : a3 ≠ i3 := fun q => by have := D.ia; simp_all
    have dr3 := drawsB (prog := X.prog) (w := X.w) (A := X.A.in1) (show X.A.in1.handled = none from I.ok.hd hc) k3 i3 a3 ne3 s3.toArray
    have hzl : z < s.heap.objs.size := Heap.lt_size hz
    refine wpAny_pyNext_zipD3_item D.sep dr1 dr2 dr3 hz hTI hTO ⟨t1, p1⟩ ⟨t2, p2⟩ ⟨t3, p3⟩ (by simpa using lt1) (by simpa using lt2) (by simpa using lt3) fun w1 w2 w3 h' tk g1 g2 g3 z' TO' v1 v2 v3 hT hsz hk => ?_
    have ew1 : w1 = u1 := by have g : (s1.toArray)[i]? = some w1 := g1; rw [List.getElem?_toArray, hu1] at g; exact (Option.some.inj g).symm
    subst ew1
    have ew2 : w2 = u2 := by have g : (s2.toArray)[i]? = some w2 := g2; rw [List.getElem?_toArray, hu2] at g; exact (Option.some.inj g).symm
    subst ew2
    have ew3 : w3 = u3 := by have g : (s3.toArray)[i]? = some w3 := g3; rw [List.getElem?_toArray, hu3] at g; exact (Option.some.inj g).symm
    subst ew3
    refine ⟨_, rfl, wpAny_letOwnedTupleGo_zip (s := { s with heap := h', toks := tk }) z' fun h'' z'' sb => ?_⟩
    have hT2 : h''.get? s.heap.objs.size = some { cls := .type "tuple", data := .seq #[w1, w2, w3] } := (sb.2 _ (Nat.ne_of_gt hzl)).trans hT
    have made : ObjOk X.prog X.w (upd H s.heap.objs.size (.tup [x1, x2, x3])) h'' s.heap.objs.size (.tup [x1, x2, x3]) :=
      ⟨by show 3 ≤ sizeLine; decide, [w1, w2, w3], .cons ru1 (.cons ru2 (.cons ru3 .nil)), ⟨_, hT2, rfl, _, rfl⟩⟩
    have I1 : Inv X pins σ (upd H s.heap.objs.size (.tup [x1, x2, x3])) { s with heap := h'', toks := tk } :=
      I.turnedNew (t' := tk) (ch := [z, TI, TO, i1, i2, i3]) (fun c o hb q => (sb.2 c (fun q' => hb (by simp [q']))).trans (hk c o (fun q' => hb (by simp [q'])) (fun q' => hb (by simp [q'])) (fun q' => hb (by simp [q'])) (fun q' => hb (by simp [q'])) (fun q' => hb (by simp [q'])) q)) hf (Nat.le_refl _) made
    obtain ⟨⟨d1, d2, d3⟩, ⟨f1, m1, n1, _, _⟩, ⟨f2, m2, n2, _, _⟩, ⟨f3, m3, n3, _, _⟩, _, _⟩ := D
    refine ⟨.ref s.heap.objs.size, _, I1, rfl, ⟨_, x1, x2, x3, rfl, I.hok.fresh (Nat.le_refl _), rfl, fun l hl => by rw [inj_sqB I hl q1]; exact e1, fun l hl => by rw [inj_sqB I hl q2]; exact e2, fun l hl => by rw [inj_sqB I hl q3]; exact e3⟩, ⟨z'', ?_, ⟨w1, w2, w3, ?_⟩, ?_, ?_, ?_⟩, fun c hcm => ?_⟩
    · exact (sb.2 _ d1).trans (hk _ _ d1 d3 f1 f2 f3 hTI)
    · exact (sb.2 _ d2).trans TO'
    · exact v1.1.at fun o q => (sb.2 _ (Ne.symm m1)).trans q
    · exact v2.1.at fun o q => (sb.2 _ (Ne.symm m2)).trans q
    · exact v3.1.at fun o q => (sb.2 _ (Ne.symm m3)).trans q
    · have hlt : c < s.heap.objs.size := by
        have e' : c = z ∨ c = TI ∨ c = TO ∨ c = i1 ∨ c = i2 ∨ c = i3 := by simpa using hcm
        rcases e' with q | q | q | q | q | q <;> subst q
        · exact hzl
        · exact Heap.lt_size hTI
        · exact Heap.lt_size hTO
        · obtain ⟨_, g, _⟩ := t1.plain; exact Heap.lt_size g
        · obtain ⟨_, g, _⟩ := t2.plain; exact Heap.lt_size g
        · obtain ⟨_, g, _⟩ := t3.plain; exact Heap.lt_size g
      rw [upd_ne (Nat.ne_of_lt hlt)]
      exact (hf c hcm).1
  done := by
    intro X hP hw hK hc i pins s σ H E I hf st hg
    subst hP hw hK
    obtain ⟨hz, hTI, ⟨y1, y2, y3, hTO⟩, t1, t2, t3⟩ := st
    obtain ⟨l1, l2, l3, q1, e1, q2, e2, q3, e3, hend⟩ := hg
    obtain ⟨s1, r1, p1, b1⟩ := inv_sqB I q1
    have c1 := r1.length
    have ne1 : a1 ≠ i1 := fun q => by have := D.ia; simp_all
    have dr1 := drawsB (prog := X.prog) (w := X.w) (A := X.A.in1) (show X.A.in1.handled = none from I.ok.hd hc) k1 i1 a1 ne1 s1.toArray
    obtain ⟨s2, r2, p2, b2⟩ := inv_sqB I q2
    have c2 := r2.length
    have ne2 : a2 ≠ i2 := fun q => by have := D.ia; simp_all
    have dr2 := drawsB (prog := X.prog) (w := X.w) (A := X.A.in1) (show X.A.in1.handled = none from I.ok.hd hc) k2 i2 a2 ne2 s2.toArray
    obtain ⟨s3, r3, p3, b3⟩ := inv_sqB I q3
    have c3 := r3.length
    have ne3 : a3 ≠ i3 := fun q => by have := D.ia; simp_all
    have dr3 := drawsB (prog := X.prog) (w := X.w) (A := X.A.in1) (show X.A.in1.handled = none from I.ok.hd hc) k3 i3 a3 ne3 s3.toArray
    exact wpAny_pyNext_zipD3_end D.sep dr1 dr2 dr3 hz hTI hTO ⟨t1, p1⟩ ⟨t2, p2⟩ ⟨t3, p3⟩ (by simp; omega) (by simp; omega) (by simp; omega) (by simp; omega) fun h' tk hk => ⟨rfl, I.turnedL (t' := tk) (ch := [z, TI, TO, i1, i2, i3]) (fun c o hb q =>
      hk c o (fun q' => hb (by simp [q'])) (fun q' => hb (by simp [q'])) (fun q' => hb (by simp [q'])) (fun q' => hb (by simp [q'])) (fun q' => hb (by simp [q'])) q) hf⟩
  self := fun A i s Q E st h => wpAny_pyIter_zip st.1 h
def iZipB3 (K : PySem.W.Frag) (ta : TA) : TI := fun σ H R => ta σ H fun vs H1 => ∃ (k1 k2 k3 : Bool) (a1 a2 a3 : Addr) (l1 l2 l3 : List V), vs = [.ref a1, .ref a2, .ref a3] ∧ SqB K H1 k1 a1 l1 ∧ SqB K H1 k2 a2 l2 ∧ SqB K H1 k3 a3 l3 ∧ R (ItZ3 K k1 k2 k3 a1 a2 a3) H1
theorem pi_zipB3 {X : Cx} {e1 e2 e3 : Expr} {ta : TA} {p pos tpos : Pos} {elts : List Expr} {kk : Nat} (hg : Gl X "zip") (hm : X.mg "zip" = none) (ha : PA X [e1, e2, e3] ta)
    (hs : starEach [e1, e2, e3] X.env = (false, eval e1 X.env) :: starEach [e2, e3] X.env := by rfl) (hpl : (backTo pos (starEach [e2, e3] X.env)).any (·.1) = false := by rfl) : PI X (.Tuple elts kk tpos) (.Call (.Name "zip" p) [e1, e2, e3] [] pos) (iZipB3 X.K ta) := by
  refine ⟨fun pins s σ H R I h => ?_⟩
  refine Call_ (ld_blt I hg hm PyProof.Rows.boot_zip (PyProof.Rows.callWith_type1 (thn (ha.run pos pins s σ H _ I h) fun us s1 ⟨vs, H1, I1, r1, q1⟩ => ?_) hs hpl))
  obtain ⟨k1, k2, k3, a1, a2, a3, l1, l2, l3, ex, q1, q2, q3, q⟩ := q1
  subst ex
  obtain ⟨u1, u2, u3, eu, rr1, rr2, rr3⟩ : ∃ u1 u2 u3, us = [u1, u2, u3] ∧ RelV (.ref a1) u1 ∧ RelV (.ref a2) u2 ∧ RelV (.ref a3) u3 := by
    cases r1 with
    | cons c1 r1 => cases r1 with
      | cons c2 r1 => cases r1 with
        | cons c3 r1 => cases r1; exact ⟨_, _, _, rfl, c1, c2, c3⟩
  subst eu
  have z1 : u1 = .ref a1 := rr1
  subst z1
  obtain ⟨ss1, rv1, p1, b1⟩ := inv_sqB I1 q1
  have z2 : u2 = .ref a2 := rr2
  subst z2
  obtain ⟨ss2, rv2, p2, b2⟩ := inv_sqB I1 q2
  have z3 : u3 = .ref a3 := rr3
  subst z3
  obtain ⟨ss3, rv3, p3, b3⟩ := inv_sqB I1 q3
  refine zip_begins3 (beginsB k1 a1 ss1.toArray) (beginsB k2 a2 ss2.toArray) (beginsB k3 a3 ss3.toArray) p1 p2 p3 fun h' hz hTI hTO g1 g2 g3 hsz hk => wpAny_pyIter_zip hz ?_
  have I2 : Inv X pins σ H1 { s1 with heap := h' } := I1.kept (t' := s1.toks) hk
  refine ⟨s1.heap.objs.size + 5, [s1.heap.objs.size + 5, s1.heap.objs.size + 3, s1.heap.objs.size + 4, s1.heap.objs.size, s1.heap.objs.size + 1, s1.heap.objs.size + 2], _, _, H1, rfl, I2, turnZ3 (apart3 s1.heap.objs.size a1 a2 a3 b1 b2 b3), ⟨hz, hTI, ⟨_, _, _, hTO⟩, atB_obj g1, atB_obj g2, atB_obj g3⟩, fun c hcm => ?_, q⟩
  have hle : s1.heap.objs.size ≤ c := by
    simp only [List.mem_cons, List.not_mem_nil, or_false] at hcm
    rcases hcm with q | q | q | q | q | q <;> rw [q] <;> first | exact Nat.le_add_right _ _ | exact Nat.le_refl _
  exact I1.fpOk hle (I1.hok.fresh hle)
def zipL : List D → List D → List D
  | x :: xs, y :: ys => .tup [x, y] :: zipL xs ys
  | _, _ => []
def zipL3 : List D → List D → List D → List D
  | x :: xs, y :: ys, z :: zs => .tup [x, y, z] :: zipL3 xs ys zs
  | _, _, _ => []
theorem zipL_len : ∀ (xs ys : List D), (zipL xs ys).length = min xs.length ys.length
  | [], ys => by simp [zipL]
  | x :: xs, [] => by simp [zipL]
  | x :: xs, y :: ys => by simp only [zipL, List.length_cons, zipL_len xs ys]; omega
theorem zipL3_len : ∀ (xs ys zs : List D), (zipL3 xs ys zs).length = min xs.length (min ys.length zs.length)
  | [], ys, zs => by simp [zipL3]
  | x :: xs, [], zs => by simp [zipL3]
  | x :: xs, y :: ys, [] => by simp [zipL3]
  | x :: xs, y :: ys, z :: zs => by simp only [zipL3, List.length_cons, zipL3_len xs ys zs]; omega
theorem zipL_get : ∀ (xs ys : List D) (i : Nat) (d : D), (zipL xs ys)[i]? = some d → ∃ x y, xs[i]? = some x ∧ ys[i]? = some y ∧ d = .tup [x, y]
  | [], ys, i, d, h => by simp [zipL] at h
  | x :: xs, [], i, d, h => by simp [zipL] at h
  | x :: xs, y :: ys, 0, d, h => by simp [zipL] at h; exact ⟨x, y, rfl, rfl, h.symm⟩
  | x :: xs, y :: ys, i + 1, d, h => by
    obtain ⟨a, b, h1, h2, h3⟩ := zipL_get xs ys i d (by simpa [zipL] using h)
    exact ⟨a, b, by simpa using h1, by simpa using h2, h3⟩
theorem zipL3_get : ∀ (xs ys zs : List D) (i : Nat) (d : D), (zipL3 xs ys zs)[i]? = some d → ∃ x y z, xs[i]? = some x ∧ ys[i]? = some y ∧ zs[i]? = some z ∧ d = .tup [x, y, z]
  | [], ys, zs, i, d, h => by simp [zipL3] at h
  | x :: xs, [], zs, i, d, h => by simp [zipL3] at h
  | x :: xs, y :: ys, [], i, d, h => by simp [zipL3] at h
  | x :: xs, y :: ys, z :: zs, 0, d, h => by simp [zipL3] at h; exact ⟨x, y, z, rfl, rfl, rfl, h.symm⟩
  | x :: xs, y :: ys, z :: zs, i + 1, d, h => by
    obtain ⟨a, b, e, h1, h2, h3, h4⟩ := zipL3_get xs ys zs i d (by simpa [zipL3] using h)
    exact ⟨a, b, e, by simpa using h1, by simpa using h2, by simpa using h3, h4⟩
def fZip2 (ds : List D) (μ : Mem) : Res Its0 := match ds with
  | [d, e] => match sqOf μ d, sqOf μ e with
    | some xs, some ys => .ok (zipL xs ys, fun ν => sqIs d xs ν && sqIs e ys ν) μ
    | _, _ => .bad
  | _ => .bad
def fZip3 (ds : List D) (μ : Mem) : Res Its0 := match ds with
  | [d, e, f] => match sqOf μ d, sqOf μ e, sqOf μ f with
    | some xs, some ys, some zs => .ok (zipL3 xs ys zs, fun ν => sqIs d xs ν && (sqIs e ys ν && sqIs f zs ν)) μ
    | _, _, _ => .bad
  | _ => .bad
theorem ri_zip2 {X : Cx} {hx : Option HX} {W : WX} {e1 e2 : Expr} {ma : MX (List D)} {p pos tpos : Pos} {elts : List Expr} {kk : Nat} (hm : X.mg "zip" = none) (ha : RA X hx W [e1, e2] ma) (hg : Gl X "zip" := by rfl)
    (hs : starEach [e1, e2] X.env = (false, eval e1 X.env) :: starEach [e2] X.env := by rfl) (hpl : (backTo pos (starEach [e2] X.env)).any (·.1) = false := by rfl) : RI X hx W (.Tuple elts kk tpos) (.Call (.Name "zip" p) [e1, e2] [] pos) (mcall fZip2 ma) := by
  obtain ⟨t, pt, rt⟩ := ha.ex
  refine ⟨⟨_, pi_zipB2 hg hm pt hs hpl, fun ρ0 μ0 δ σ H0 Q rel0 env0 ok0 => rt ρ0 μ0 δ σ H0 _ rel0 env0 (Okr.bind ok0 fun ds μ ρ H vs pr fz rel dv ok => ?_)⟩⟩
  unfold fZip2 at ok
  dsimp only at ok
  split at ok
  · rename_i d e
    obtain ⟨v, w, rfl, h1, h2⟩ := dv.two
    split at ok
    · rename_i xs ys hd he
      obtain ⟨k1, a1, l1, rfl, s1, al1, g1⟩ := sqB_of rel h1 hd
      obtain ⟨k2, a2, l2, rfl, s2, al2, g2⟩ := sqB_of rel h2 he
      refine ⟨k1, k2, a1, a2, l1, l2, rfl, s1, s2, ok ρ H _ (Pre.refl _) (Fz.refl _) rel ?_⟩
      intro ρ' μ' H' i p' f' rel' gd
      have gd' : sqIs d xs μ' = true ∧ sqIs e ys μ' = true := by simpa using gd
      obtain ⟨m1, c1, b1⟩ := g1 ρ' μ' H' p' f' rel' gd'.1
      obtain ⟨m2, c2, b2⟩ := g2 ρ' μ' H' p' f' rel' gd'.2
      refine ⟨fun d hd => ?_, fun hi => ?_⟩
      · obtain ⟨x, y, ex, ey, rfl⟩ := zipL_get _ _ _ _ hd
        obtain ⟨v1, hv1, dv1⟩ := b1.get ex
        obtain ⟨v2, hv2, dv2⟩ := b2.get ey
        refine ⟨⟨⟨m1, v1, c1, hv1⟩, ⟨m2, v2, c2, hv2⟩⟩, fun x' H'' y => ?_⟩
        obtain ⟨T, w1, w2, rfl, hT, rfl, y1, y2⟩ := y
        cases (y1 m1 c1).symm.trans hv1
        cases (y2 m2 c2).symm.trans hv2
        refine ⟨Fz.new hT, rel'.alloc hT, ?_⟩
        simp only [DV]
        exact ⟨T, _, rfl, .inl upd_same, .cons (dv1.mono0 (Pre.refl _) (Fz0.new hT)) (.cons (dv2.mono0 (Pre.refl _) (Fz0.new hT)) .nil)⟩
      · have hi : i = (zipL xs ys).length := hi
        rw [zipL_len] at hi
        have := b1.length
        have := b2.length
        exact ⟨m1, m2, c1, by omega, c2, by omega, by omega⟩
    · exact ok.elim
  · exact ok.elim
theorem DVs.three {K : PySem.W.Frag} {ρ : List Addr} {H : Hp} {d e f : D} {xs : List V} (h : DVs K ρ H [d, e, f] xs) : ∃ v u w, xs = [v, u, w] ∧ DV K ρ H d v ∧ DV K ρ H e u ∧ DV K ρ H f w := by
  simp only [DVs] at h
  obtain ⟨v, r, rfl, h1, u, r2, rfl, h2, t, r3, rfl, h3, rfl⟩ := h
  exact ⟨v, u, t, rfl, h1, h2, h3⟩
theorem ri_zip3 {X : Cx} {hx : Option HX} {W : WX} {e1 e2 e3 : Expr} {ma : MX (List D)} {p pos tpos : Pos} {elts : List Expr} {kk : Nat} (hm : X.mg "zip" = none) (ha : RA X hx W [e1, e2, e3] ma) (hg : Gl X "zip" := by rfl)
    (hs : starEach [e1, e2, e3] X.env = (false, eval e1 X.env) :: starEach [e2, e3] X.env := by rfl) (hpl : (backTo pos (starEach [e2, e3] X.env)).any (·.1) = false := by rfl) : RI X hx W (.Tuple elts kk tpos) (.Call (.Name "zip" p) [e1, e2, e3] [] pos) (mcall fZip3 ma) := by
  obtain ⟨t, pt, rt⟩ := ha.ex
  refine ⟨⟨_, pi_zipB3 hg hm pt hs hpl, fun ρ0 μ0 δ σ H0 Q rel0 env0 ok0 => rt ρ0 μ0 δ σ H0 _ rel0 env0 (Okr.bind ok0 fun ds μ ρ H vs pr fz rel dv ok => ?_)⟩⟩
  unfold fZip3 at ok
  dsimp only at ok
  split at ok
  · rename_i d e f
    obtain ⟨v, w, u, rfl, h1, h2, h3⟩ := dv.three
    split at ok
    · rename_i xs ys zs hd he hf
      obtain ⟨k1, a1, l1, rfl, s1, al1, g1⟩ := sqB_of rel h1 hd
      obtain ⟨k2, a2, l2, rfl, s2, al2, g2⟩ := sqB_of rel h2 he
      obtain ⟨k3, a3, l3, rfl, s3, al3, g3⟩ := sqB_of rel h3 hf
      refine ⟨k1, k2, k3, a1, a2, a3, l1, l2, l3, rfl, s1, s2, s3, ok ρ H _ (Pre.refl _) (Fz.refl _) rel ?_⟩
      intro ρ' μ' H' i p' f' rel' gd
      have gd' : sqIs d xs μ' = true ∧ sqIs e ys μ' = true ∧ sqIs f zs μ' = true := by simpa using gd
      obtain ⟨m1, c1, b1⟩ := g1 ρ' μ' H' p' f' rel' gd'.1
      obtain ⟨m2, c2, b2⟩ := g2 ρ' μ' H' p' f' rel' gd'.2.1
      obtain ⟨m3, c3, b3⟩ := g3 ρ' μ' H' p' f' rel' gd'.2.2
      refine ⟨fun d hd => ?_, fun hi => ?_⟩
      · obtain ⟨x, y, z, ex, ey, ez, rfl⟩ := zipL3_get _ _ _ _ _ hd
        obtain ⟨v1, hv1, dv1⟩ := b1.get ex
        obtain ⟨v2, hv2, dv2⟩ := b2.get ey
        obtain ⟨v3, hv3, dv3⟩ := b3.get ez
        refine ⟨⟨⟨m1, v1, c1, hv1⟩, ⟨m2, v2, c2, hv2⟩, ⟨m3, v3, c3, hv3⟩⟩, fun x' H'' y => ?_⟩
        obtain ⟨T, w1, w2, w3, rfl, hT, rfl, y1, y2, y3⟩ := y
        cases (y1 m1 c1).symm.trans hv1
        cases (y2 m2 c2).symm.trans hv2
        cases (y3 m3 c3).symm.trans hv3
        refine ⟨Fz.new hT, rel'.alloc hT, ?_⟩
        simp only [DV]
        exact ⟨T, _, rfl, .inl upd_same, .cons (dv1.mono0 (Pre.refl _) (Fz0.new hT)) (.cons (dv2.mono0 (Pre.refl _) (Fz0.new hT)) (.cons (dv3.mono0 (Pre.refl _) (Fz0.new hT)) .nil))⟩
      · have hi : i = (zipL3 xs ys zs).length := hi
        rw [zipL3_len] at hi
        have := b1.length
        have := b2.length
        have := b3.length
        exact ⟨m1, m2, m3, c1, by omega, c2, by omega, c3, by omega, by omega⟩
    · exact ok.elim
  · exact ok.elim
end Doz
end
section
namespace Doz
open PySem L2
def mrngL (m : ME) : MX (List D) := bindM m fun d => fun _ μ => match d with
  | .int j => if -(2 ^ 62) ≤ j ∧ j ≤ 16777216 then .ok (rngItems 0 j.toNat) μ else .bad
  | _ => .bad
theorem dvs_rng {K : PySem.W.Frag} {ρ : List Addr} {H : Hp} (lo : Int) : ∀ (l : List Nat), DVs K ρ H (l.map fun i => D.int (lo + (i : Nat))) (l.map fun i => V.int (lo + (i : Nat)))
  | [] => .nil
  | _ :: l => .cons dv_int (dvs_rng lo l)
theorem rn_rng1 {X : Cx} {hx : Option HX} {W : WX} {e : Expr} {m : ME} {p p2 pos pos2 : Pos} (hc : X.calm = true) (hm : X.mg "list" = none) (hm2 : X.mg "range" = none) (he : RE X hx W e m) (hg : Gl X "list" := by rfl) (hg2 : Gl X "range" := by rfl)
    (hs : starEach [e] X.env = (false, eval e X.env) :: starEach [] X.env := by rfl)
    (hs2 : starEach [.Call (.Name "range" p2) [e] [] pos2] X.env = (false, eval (.Call (.Name "range" p2) [e] [] pos2) X.env) :: starEach [] X.env := by rfl) :
    RN X hx W (.Call (.Name "list" p) [.Call (.Name "range" p2) [e] [] pos2] [] pos) (mrngL m) := by
  obtain ⟨t, pt, r⟩ := he.ex
  refine ⟨⟨_, pe_listRg hc hg hm (prg_1 hg2 hm2 pt hs) hs2, fun ρ0 μ0 δ σ H0 Q rel0 env0 ok0 => r ρ0 μ0 δ σ H0 _ rel0 env0 (OkN.bind ok0 fun d μ ρ H v pr fz rel dv ok => ?_)⟩⟩
  dsimp only at ok
  split at ok
  · rename_i j
    split at ok
    · rename_i h
      refine ⟨j, int_ok dv, ⟨by decide, by decide, h.1, by omega, by omega⟩, fun q hq => OkN.new rel hq ?_ ok⟩
      have e : (j - 0).toNat = j.toNat := by rw [Int.sub_zero]
      unfold rgV rngItems
      rw [e]
      exact dvs_rng 0 _
    · exact ok.elim
  · exact ok.elim
end Doz
end
section
namespace Doz
open PySem L2
def msetd (mo mk mz : ME) : ME := bindM mo fun d => fun δ μ => match dictOf μ d with
  | some _ => (mk δ μ).bind fun k μ1 => (mz δ μ1).bind fun z μ2 => match dcell μ2 d, keyOf k with
    | some (n, kds), some key => if kds.length < 1000000 then (match kget kds key with
      | some v => .ok v μ2
      | none => .ok z (μ2.set n (.dK (kput kds key z)))) else .bad
    | _, _ => .bad
  | none => .bad
section
variable {X : Cx} {hx : Option HX} {W : WX} {o e f : Expr} {mo me mf : ME} {apos cpos : Pos}
theorem re_setd (ho : RE X hx W o mo) (he : RE X hx W e me) (hf : RE X hx W f mf) (m : M2 X o "setdefault" apos e f cpos := by exact ⟨rfl, rfl, rfl, rfl⟩) : RE X hx W (.Call (.Attribute o "setdefault" apos) [e, f] [] cpos) (msetd mo me mf) := by
  obtain ⟨to, po, ro⟩ := ho.ex
  obtain ⟨te, pe, re⟩ := he.ex
  obtain ⟨tf, pf, rf⟩ := hf.ex
  refine ⟨⟨_, pe_dsetd po pe pf m, fun ρ0 μ0 δ σ H0 Q rel0 env0 ok0 => ro ρ0 μ0 δ σ H0 _ rel0 env0 (Okr.bind ok0 fun d μ ρ H x pr fz rel dx ok => ?_)⟩⟩
  have env := env0.mono pr fz
  dsimp only at ok
  split at ok
  · rename_i kds hk
    obtain ⟨a, rfl, hd⟩ := isD_of rel dx hk
    refine ⟨a, rfl, hd, re ρ μ δ σ H _ rel env (Okr.bind ok fun k μ1 ρ1 H1 y p1 f1 rel1 dy ok1 => ?_)⟩
    refine rf ρ1 μ1 δ σ H1 _ rel1 (env.mono p1 f1) (Okr.bind ok1 fun z μ2 ρ2 H2 vz p2 f2 rel2 dz ok2 => ?_)
    split at ok2
    · rename_i n kds1 key hc hkey
      split at ok2
      · rename_i hlen
        obtain ⟨a1, vs, e1, h1, h2, h3, h4, h5⟩ := dcell_ok rel2 ((dx.mono p1 f1).mono p2 f2) hc
        cases e1
        have hl := KDs.length h5
        refine ⟨vs, key, h4, keyOf_ok hkey (dy.mono p2 f2), by rw [sizeLine_eq]; omega, fun v hv => ?_, fun hv => ?_⟩
        · cases hg : kget kds1 key with
          | none => rw [(KDs.val h5).2 hg] at hv; cases hv
          | some d0 =>
            rw [hg] at ok2
            obtain ⟨u, hu, du⟩ := (KDs.val h5).1 d0 hg
            rw [hu] at hv
            cases hv
            exact Okr.now ok2 rel2 du
        · cases hg : kget kds1 key with
          | none =>
            rw [hg] at ok2
            exact dwrite rel2 h1 h3 h4 (KDs.put dz h5) dz ok2
          | some d0 =>
            obtain ⟨u, hu, du⟩ := (KDs.val h5).1 d0 hg
            rw [hu] at hv
            cases hv
      · exact ok2.elim
    · exact ok2.elim
  · exact ok.elim
end
end Doz
end
section
namespace Doz
open PySem L2
def cIsB (d e : D) (μ : Mem) : Res Bool := match d, e with
  | .bl a, .bl b => .ok (decide (a = b)) μ
  | _, _ => .bad
def cIsNotB (d e : D) (μ : Mem) : Res Bool := match d, e with
  | .bl a, .bl b => .ok (!decide (a = b)) μ
  | _, _ => .bad
theorem cm_isB {K : PySem.W.Frag} : CmpM K (fun x y H Q => ∃ a b, x = .bl a ∧ y = .bl b ∧ Q (.bl (decide (a = b))) H) cIsB := by
  intro d e ρ μ H x y Q E rel dx dy ok
  unfold cIsB at ok
  split at ok
  · exact ⟨_, _, bl_ok dx, bl_ok dy, ok.now rel rfl⟩
  · exact ok.elim
theorem cm_isNotB {K : PySem.W.Frag} : CmpM K (fun x y H Q => ∃ a b, x = .bl a ∧ y = .bl b ∧ Q (.bl (!decide (a = b))) H) cIsNotB := by
  intro d e ρ μ H x y Q E rel dx dy ok
  unfold cIsNotB at ok
  split at ok
  · exact ⟨_, _, bl_ok dx, bl_ok dy, ok.now rel rfl⟩
  · exact ok.elim
end Doz
end
section
namespace Doz
open PySem PySem.Spec PyProof.Rows L2
open Sem (wp)
theorem meets_enum1 {v : Value} {o : Obj} {H : Heap → Prop} (B : Begins v o H) :
    Meets (Builtin.«enumerate.__new__» ⟨[.type "enumerate", v], []⟩) (fun _ R s => H s.heap ∧
      R (.ok (.ret (.ref (s.heap.push o).objs.size))) { s with heap := (s.heap.push o).push { cls := .type "enumerate", data := .fields #[.none, .bool false, .ref s.heap.objs.size, rawInt 0, .none, .none] } }) :=
  .of_wp fun prog w A R s h => by
    obtain ⟨hp, g, d, tk, os⟩ := s; obtain ⟨h1, h⟩ := h
    have hsub := sub_enumerate
    have q1 : ∀ {A' : Around} {E : Value → Shared → Prop} {Q : Value → Shared → Prop}, Q (.ref hp.objs.size) ⟨hp.push o, g, d, tk, os⟩ → wpAny (model prog w) A' (pyIter v) Q E ⟨hp, g, d, tk, os⟩ :=
      fun q => B.iter prog w _ _ ⟨hp, g, d, tk, os⟩ _ h1 q
    wp_walk using q1
    refine wpAny_stack_any fun st => wpAny_pure ?_
    split
    · rename_i c _ _ _ _ _
      cases (c == Value.type "enumerate")
      · wp_walk using q1
        exact ⟨_, rfl, h⟩
      · wp_walk using q1
        exact ⟨_, rfl, h⟩
    · wp_walk using q1
      exact ⟨_, rfl, h⟩
section
variable {prog : Program} {w : PySem.World} {A : Around} {E : Value → Shared → Prop} {s : Shared}
theorem enum_begins1 {v : Value} {o : Obj} {H : Heap → Prop} {Q : Value → Shared → Prop} (B : Begins v o H) (h1 : H s.heap)
    (h : ∀ h', IsEnum h' (s.heap.objs.size + 1) s.heap.objs.size 0 .none → h'.get? s.heap.objs.size = some o → h'.objs.size = s.heap.objs.size + 2 →
      (∀ b o, s.heap.get? b = some o → h'.get? b = some o) → Q (.ref (s.heap.objs.size + 1)) { s with heap := h' }) :
    wpAny (model prog w) A (call (.type "enumerate") [v]) Q E s := by
  refine callType_new F.called_enumerate (by decide) (F.typeCall_enumerate_1 _) (F.newCall_enumerate_1 _) (fun obj => F.args_object_init_2 obj _) F.entry_enumerate_new
    (meets_enum1 B) ⟨h1, ?_⟩
  have hz : (s.heap.push o).objs.size = s.heap.objs.size + 1 := Heap.size_push ..
  show _ ∧ _
  rw [hz]
  have he : IsEnum ((s.heap.push o).push { cls := .type "enumerate", data := .fields #[.none, .bool false, .ref s.heap.objs.size, rawInt 0, .none, .none] }) (s.heap.objs.size + 1) s.heap.objs.size 0 .none := by
    have := Heap.get?_push_size (s.heap.push o) (o := { cls := .type "enumerate", data := .fields #[.none, .bool false, .ref s.heap.objs.size, rawInt 0, .none, .none] }) rfl
    rw [hz] at this; exact this
  refine ⟨⟨_, he, rfl⟩, h _ he (Heap.get?_push_of_some _ (Heap.get?_push_size _ B.free)) (by rw [Heap.size_push, hz]) fun b o x => Heap.get?_push_of_some _ (Heap.get?_push_of_some _ x)⟩
end
def ItEB (K : PySem.W.Frag) (k : Bool) (a : Addr) : It :=
  ⟨fun i H => ∃ (xs : List V) (x : V), SqB K H k a xs ∧ xs[i]? = some x, fun i H v H' => ∃ T x, v = .ref T ∧ H T = none ∧ H' = upd H T (.tup [.int (i : Nat), x]) ∧ ∀ xs, SqB K H k a xs → xs[i]? = some x, fun i H => ∃ xs : List V, SqB K H k a xs ∧ i = xs.length⟩
theorem turn_enumB {P : Program} {w : PySem.World} {K : PySem.W.Frag} {elts : List Expr} {kk : Nat} {tpos : Pos} (k : Bool) (a e it : Addr) :
    Turn P w K (.Tuple elts kk tpos) (ItEB K k a) [e, it] e (fun i h => (∃ old, IsEnum h e it ((i : Nat) : Int) old) ∧ AtB h k it a i ∧ e ≠ it ∧ a ≠ it ∧ e ≠ a) where
  mem := by simp
  obj := fun i h st b hb => by
    obtain ⟨⟨old, he⟩, hat, _⟩ := st
    have e' : b = e ∨ b = it := by simpa using hb
    rcases e' with z | z
    · rw [z]; exact ⟨_, he, fun v q => nomatch q⟩
    · rw [z]; exact hat.plain
  keep := fun i h h' st g => let ⟨⟨old, he⟩, hi, hne⟩ := st; ⟨⟨old, g e (by simp) _ he⟩, hi.at fun o q => g it (by simp) o q, hne⟩
  item := by
    intro X hP hw hK hc i pins s σ H E I hf st hg
    subst hP hw hK
    obtain ⟨⟨old, he⟩, hit, hne, hai, hea⟩ := st
    obtain ⟨xs, x, hq, hx⟩ := hg
    obtain ⟨its, rv, p, hz⟩ := inv_sqB I hq
    obtain ⟨u, hu, ru⟩ := rv.get hx
    have lt1 : i < its.length := (List.getElem?_eq_some_iff.mp hu).1
    have hel : e < s.heap.objs.size := Heap.lt_size he
    have hil : it < s.heap.objs.size := by obtain ⟨o, q, _⟩ := hit.plain; exact Heap.lt_size q
    have dr := drawsB (prog := X.prog) (w := X.w) (A := X.A.in1) (show X.A.in1.handled = none from I.ok.hd hc) k it a hai its.toArray
    refine wpAny_pyNext_enum_itemD dr he ⟨hit, p⟩ (by simpa using lt1) hne (by simp [hne, hea]) fun x' h' tk hPx ho hit' hT hsz hk => ?_
    have ew : x' = u := by have g : (its.toArray)[i]? = some x' := hPx; rw [List.getElem?_toArray, hu] at g; exact (Option.some.inj g).symm
    subst ew
    refine ⟨_, rfl, wpAny_letOwnedTupleGo_enum (s := { s with heap := h', toks := tk + 1 }) ho fun h'' he' sb => ?_⟩
    have hT2 : h''.get? s.heap.objs.size = some { cls := .type "tuple", data := .seq #[.int i tk, x'] } := (sb.2 _ (Nat.ne_of_gt hel)).trans hT
    have new : ObjOk X.prog X.w (upd H s.heap.objs.size (.tup [.int (i : Nat), x])) h'' s.heap.objs.size (.tup [.int (i : Nat), x]) :=
      ⟨by show 2 ≤ sizeLine; decide, [.int i tk, x'], .cons ⟨_, rfl⟩ (.cons ru .nil), ⟨_, hT2, rfl, _, rfl⟩⟩
    have I1 : Inv X pins σ (upd H s.heap.objs.size (.tup [.int (i : Nat), x])) { s with heap := h'', toks := tk + 1 } :=
      I.turnedNew (ch := [e, it]) (fun b ob hb q => (sb.2 b (fun z => hb (by simp [z]))).trans (hk b ob (fun z => hb (by simp [z])) (fun z => hb (by simp [z])) q)) hf (Nat.le_refl _) new
    refine ⟨.ref s.heap.objs.size, _, I1, rfl, ⟨_, x, rfl, I.hok.fresh (Nat.le_refl _), rfl, fun ys hy => by rw [inj_sqB I hy hq]; exact hx⟩, ⟨⟨x', ?_⟩, hit'.1.at fun o q => (sb.2 it (Ne.symm hne)).trans q, hne, hai, hea⟩, fun b hb => ?_⟩
    · have e1 : ((i + 1 : Nat) : Int) = (i : Int) + 1 := by omega
      rw [e1]; exact he'
    · have hb' : b < s.heap.objs.size := by
        have e' : b = e ∨ b = it := by simpa using hb
        rcases e' with z | z
        · rw [z]; exact hel
        · rw [z]; exact hil
      rw [upd_ne (Nat.ne_of_lt hb')]
      exact (hf b hb).1
  done := by
    intro X hP hw hK hc i pins s σ H E I hf st hg
    subst hP hw hK
    obtain ⟨⟨old, he⟩, hit, hne, hai, hea⟩ := st
    obtain ⟨xs, hq, hx⟩ := hg
    obtain ⟨its, rv, p, hz⟩ := inv_sqB I hq
    obtain ⟨f0, f1, f2, f3, f4, f5⟩ := hf it (by simp)
    have hl := rv.length
    have dr := drawsB (prog := X.prog) (w := X.w) (A := X.A.in1) (show X.A.in1.handled = none from I.ok.hd hc) k it a hai its.toArray
    have ei : i = its.toArray.size := by simp; omega
    refine wpAny_pyNext_enum_endD dr he (by rw [← ei]; exact ⟨hit, p⟩) fun h' eb => ⟨rfl, I.turned (t' := s.toks) (fun b o hb q => eb b o hb q) f0 f1 f3 f4 f5⟩
  self := fun A i s Q E st h => let ⟨⟨_, he⟩, _⟩ := st; wpAny_pyIter_enum he h
def iEnumB (K : PySem.W.Frag) (ta : TA) : TI := fun σ H R => ta σ H fun vs H1 => ∃ k a xs, vs = [.ref a] ∧ SqB K H1 k a xs ∧ R (ItEB K k a) H1
theorem pi_enumB {X : Cx} {e : Expr} {ta : TA} {p pos tpos : Pos} {elts : List Expr} {kk : Nat} (hg : Gl X "enumerate") (hm : X.mg "enumerate" = none) (ha : PA X [e] ta) (hs : starEach [e] X.env = [(false, eval e X.env)] := by rfl) :
    PI X (.Tuple elts kk tpos) (.Call (.Name "enumerate" p) [e] [] pos) (iEnumB X.K ta) := by
  refine ⟨fun pins s σ H R I h => ?_⟩
  refine Call_ (ld_blt I hg hm boot_enumerate (PyProof.Rows.callWith_type1 (thn (ha.run pos pins s σ H _ I h) fun us s1 ⟨vs, H1, I1, r1, q1⟩ => ?_) hs rfl))
  obtain ⟨k, a, xs, ex, hq, q⟩ := q1
  subst ex
  cases r1 with
  | cons r rr =>
    cases rr
    cases r
    obtain ⟨its, rv, p', hz⟩ := inv_sqB I1 hq
    refine enum_begins1 (beginsB k a its.toArray) p' fun h' he hit hsz hk => wpAny_pyIter_enum he ?_
    have I2 : Inv X pins σ H1 { s1 with heap := h' } := I1.kept (t' := s1.toks) hk
    refine ⟨s1.heap.objs.size + 1, [s1.heap.objs.size + 1, s1.heap.objs.size], _, _, H1, rfl, I2, turn_enumB k a (s1.heap.objs.size + 1) s1.heap.objs.size, ⟨⟨.none, he⟩, atB_obj hit, Nat.succ_ne_self _, Nat.ne_of_lt hz, Nat.ne_of_gt (Nat.lt_succ_of_lt hz)⟩, fun b hb => ?_, q⟩
    have e' : b = s1.heap.objs.size + 1 ∨ b = s1.heap.objs.size := by simpa using hb
    have hle : s1.heap.objs.size ≤ b := by
      rcases e' with z | z
      · rw [z]; exact Nat.le_add_right _ _
      · rw [z]; exact Nat.le_refl _
    exact I1.fpOk hle (I1.hok.fresh hle)
def fEnumS (ds : List D) (μ : Mem) : Res Its0 := match ds with
  | [d] => match sqOf μ d with
    | some xs => .ok (numbered xs, sqIs d xs) μ
    | none => .bad
  | _ => .bad
theorem ri_enumS {X : Cx} {hx : Option HX} {W : WX} {e : Expr} {ma : MX (List D)} {p pos tpos : Pos} {elts : List Expr} {kk : Nat} (hm : X.mg "enumerate" = none) (ha : RA X hx W [e] ma) (hg : Gl X "enumerate" := by rfl) (hs : starEach [e] X.env = [(false, eval e X.env)] := by rfl) :
    RI X hx W (.Tuple elts kk tpos) (.Call (.Name "enumerate" p) [e] [] pos) (mcall fEnumS ma) := by
  obtain ⟨t, pt, rt⟩ := ha.ex
  refine ⟨⟨_, pi_enumB hg hm pt hs, fun ρ0 μ0 δ σ H0 Q rel0 env0 ok0 => rt ρ0 μ0 δ σ H0 _ rel0 env0 (Okr.bind ok0 fun ds μ ρ H vs pr fz rel dv ok => ?_)⟩⟩
  unfold fEnumS at ok
  dsimp only at ok
  split at ok
  · rename_i d
    obtain ⟨v, rfl, h1⟩ := dv.one
    split at ok
    · rename_i xs hd
      obtain ⟨k1, a1, l1, rfl, s1, al1, g1⟩ := sqB_of rel h1 hd
      refine ⟨k1, a1, l1, rfl, s1, ok ρ H _ (Pre.refl _) (Fz.refl _) rel ?_⟩
      intro ρ' μ' H' i p' f' rel' gd
      obtain ⟨m1, c1, b1⟩ := g1 ρ' μ' H' p' f' rel' gd
      refine ⟨fun d hd => ?_, fun hi => ?_⟩
      · obtain ⟨x, ex, rfl⟩ := num_get hd
        obtain ⟨v1, hv1, dv1⟩ := b1.get ex
        refine ⟨⟨m1, v1, c1, hv1⟩, fun x' H'' y => ?_⟩
        obtain ⟨T, w1, rfl, hT, rfl, y1⟩ := y
        cases (y1 m1 c1).symm.trans hv1
        refine ⟨Fz.new hT, rel'.alloc hT, ?_⟩
        simp only [DV]
        exact ⟨T, _, rfl, .inl upd_same, .cons dv_int (.cons (dv1.mono0 (Pre.refl _) (Fz0.new hT)) .nil)⟩
      · exact ⟨m1, c1, by rw [← b1.length, hi]; simp [numbered]⟩
    · exact ok.elim
  · exact ok.elim
end Doz
end
section
namespace Doz
open PySem L2
def pairsOf : List D → Option (List (Key × D))
  | [] => some []
  | .tup [k, v] :: r => match keyOf k, pairsOf r with
    | some key, some ks => some ((key, v) :: ks)
    | _, _ => none
  | _ :: _ => none
def fDictP (ds : List D) (μ : Mem) : Res D := match ds with
  | [d] => match lstOf μ d with
    | some xs => match pairsOf xs with
      | some kds => .ok (.loc μ.cells.length) (μ.push (.dK (kmerge [] kds)))
      | none => .bad
    | none => .bad
  | _ => .bad
theorem pairsOf_ok {K : PySem.W.Frag} {ρ : List Addr} {H : Hp} : ∀ {xs : List D} {kds : List (Key × D)} {vs : List V}, pairsOf xs = some kds → DVs K ρ H xs vs → ∃ (ps : List Addr) (ls : List (Key × V)), vs = ps.map V.ref ∧ Paired (fun p kv => SqT K H p [kV kv.1, kv.2]) ps ls ∧ KDs K ρ H kds ls
  | [], kds, vs, h, r => by
    cases h
    simp only [DVs] at r
    subst r
    exact ⟨[], [], rfl, .nil, .nil⟩
  | .tup [k, v] :: r, kds, vs, h, rr => by
    unfold pairsOf at h
    simp only [DVs] at rr
    obtain ⟨x, rs, rfl, hx, hr⟩ := rr
    split at h
    · rename_i key ks h1 h2
      cases h
      obtain ⟨ps, ls, e, hp, hl⟩ := pairsOf_ok h2 hr
      obtain ⟨a, ws, rfl, hT, hw⟩ := tup_ok hx
      obtain ⟨k', v', rfl, hk, hv⟩ := hw.two
      have e1 : k' = kV key := keyOf_ok h1 hk
      subst e1
      exact ⟨a :: ps, (key, v') :: ls, by rw [e]; rfl, .cons hT.sq hp, .cons ⟨rfl, hv⟩ hl⟩
    · cases h
  | .tup [] :: r, kds, vs, h, rr => by cases h
  | .tup [_] :: r, kds, vs, h, rr => by cases h
  | .tup (_ :: _ :: _ :: _) :: r, kds, vs, h, rr => by cases h
  | .non :: r, kds, vs, h, rr => by cases h
  | .bl _ :: r, kds, vs, h, rr => by cases h
  | .int _ :: r, kds, vs, h, rr => by cases h
  | .str _ :: r, kds, vs, h, rr => by cases h
  | .lst _ :: r, kds, vs, h, rr => by cases h
  | .loc _ :: r, kds, vs, h, rr => by cases h
  | .ty _ :: r, kds, vs, h, rr => by cases h
  | .sta _ :: r, kds, vs, h, rr => by cases h
theorem cf_dictP {K : PySem.W.Frag} : CallF K (fun xs H Q => ∃ (a : Addr) (ps : List Addr) (kvs : List (Key × V)), xs = [.ref a] ∧ SqL K H a (ps.map V.ref) ∧ Paired (fun p kv => SqT K H p [kV kv.1, kv.2]) ps kvs ∧
    ∀ p, H p = none → Q (.ref p) (upd H p (.dK (mergeK [] kvs)))) fDictP := by
  intro ds ρ μ H xs Q E rel dv ok
  unfold fDictP at ok
  split at ok
  · obtain ⟨v, rfl, h⟩ := dv.one
    split at ok
    · rename_i ys hy
      split at ok
      · rename_i kds hk
        obtain ⟨a, vs, rfl, e2, e3⟩ := lstOf_ok rel h hy
        obtain ⟨ps, ls, rfl, hp, hl⟩ := pairsOf_ok hk e3
        refine ⟨a, ps, ls, rfl, rd_sq e2, hp, fun p hpn => .inl ?_⟩
        exact ok.go (Pre.app _ _) (Fz.newA hpn) (rel.new hpn ⟨mergeK [] ls, by unfold Lk; rw [if_neg Bool.false_ne_true]; exact upd_same, (KDs.merge hl .nil).mono (Pre.app _ _) (Fz.newA hpn)⟩) (dv_last rel)
      · exact ok.elim
    · exact ok.elim
  · exact ok.elim
end Doz
end
section
namespace PySem.W
open PySem PySem.Calls PyProof.Rows Builtin
theorem len_own {prog : Program} {w : World} {A : Around} {E : Value → Shared → Prop} {s : Shared} {K : Frag} {x C f : Addr} {ox : Obj} {od : Option Obj} {Q : Value → Shared → Prop} (X : K.In s.heap) (I : InstAt s.heap x ox C od) (hs : findIn K (.ref C) "__len__" = some (some (.ref f))) (hf : isFn K (.ref f) = true)
    (h : wpAny (model prog w) A.in1 (call (.ref f) [.ref x]) (LenBack Q) E s) : wpAny (model prog w) A (call (.builtin "len") [.ref x]) Q E s := by
  refine Calls.call_function_entry kind_len plain_len entry_len (args_len1 _) ?_
  unfold Builtin.«len»
  refine wpAny_bind (m := oneArg "len" _) (wpAny_pure ?_)
  refine wpAny_bind (m := callSpecial? (.ref x) (Str.ofString "__len__")) (special_fn X I hs (beq_iff_eq.mp hf) (wpAny_mono h (fun r s' hr => ?_) fun _ _ y => y))
  cases r with
  | int n u =>
    obtain ⟨⟨h0, h1⟩, hq⟩ := hr
    refine wpAny_bind (wpAny_holding (wpAny_pure ?_))
    refine wpAny_bind (wpAny_letGo ?_)
    show wpAny _ _ (if n < 0 then _ else _) _ _ _
    rw [if_neg (by omega)]
    show wpAny _ _ (if n ≥ 2 ^ 63 then _ else _) _ _ _
    rw [if_neg (by omega)]
    exact wpAny_bind (wpAny_mkInt (wpAny_pure ⟨_, rfl, hq⟩))
  | _ => exact hr.elim
end PySem.W
namespace Doz
open PySem L2
def lenR (r : Res D) : Res D := r.bind fun v μ => match v with
  | .int n => if 0 ≤ n ∧ n < 2 ^ 63 then .ok (.int n) μ else .bad
  | _ => .bad
def mlenO (T : Addr → Option MM) (ma : MX (List D)) : ME := bindM ma fun ds => fun _ μ => match ds with
  | [d] => match insOf μ d with
    | some (C, _) => match T C with
      | some mm => lenR (mm d [] [] μ)
      | none => .bad
    | none => .bad
  | _ => .bad
structure MOkL (X : Cx) (C : Addr) (mm : MM) : Prop where
  ex : ∃ k f fd ps m gD, Cls X.K C ∧ Meth X.K C "__len__" f ∧ FnOk X.prog X.w X.K X.mg X.base (L2.CX X.prog X.w) k f fd ps (spM X.K ps.length m) ∧ Room (k + 1) X.A ∧ Bd X.K fd ps 1 [] gD ∧ mm = fun x ds ez μ => m (gD (x :: ds) ez) μ
theorem mokL {X : Cx} {k j : Nat} {C f : Addr} {fd : FuncData} {ps : List Str} {m : MF} {gD : List D → List D → List D} (c : Cls X.K C) (hm : Meth X.K C "__len__" f) (F : FnOk X.prog X.w X.K X.mg X.base (L2.CX X.prog X.w) k f fd ps (spM X.K ps.length m))
    (hr : Room j X.A) (hk : k + 1 ≤ j) (hb : Bd X.K fd ps 1 [] gD) : MOkL X C (fun x ds ez μ => m (gD (x :: ds) ez) μ) := ⟨⟨k, f, fd, ps, m, gD, c, hm, F, hr.mono hk, hb, rfl⟩⟩
theorem ltL_nil {X : Cx} : ∀ p ∈ ([] : List (Addr × MM)), MOkL X p.1 p.2 := fun _ h => by cases h
theorem ltL_cons {X : Cx} {C : Addr} {mm : MM} {l : List (Addr × MM)} (h : MOkL X C mm) (t : ∀ p ∈ l, MOkL X p.1 p.2) : ∀ p ∈ (C, mm) :: l, MOkL X p.1 p.2 := fun p hp => by
  rcases List.mem_cons.mp hp with e | hp
  · rw [e]; exact h
  · exact t p hp
theorem ltL_of {X : Cx} {l : List (Addr × MM)} (t : ∀ p ∈ l, MOkL X p.1 p.2) : ∀ C mm, l.lookup C = some mm → MOkL X C mm := fun C mm h => t (C, mm) (look_mem h)
section
variable {X : Cx} {hx : Option HX} {W : WX} {o : Expr} {ma : MX (List D)} {p pos : Pos} {x : Str}
theorem re_lenO {T : Addr → Option MM} (hT : ∀ C mm, T C = some mm → MOkL X C mm) (pw : Pw X W) (hm : X.mg x = none) (hv : bootBuiltins x = some (.builtin "len")) (ha : RA X hx W [o] ma) (hg : Gl X x := by rfl) (hn : x ≠ "__name__" := by decide) (hdb : (x == ("__debug__" : Str)) = false := by decide)
    (he : starEach (o :: []) X.env = (false, eval o X.env) :: starEach [] X.env := by rfl) (hpl : (backTo pos (starEach [] X.env)).any (·.1) = false := by rfl) : RE X hx W (.Call (.Name x p) [o] [] pos) (mlenO T ma) := by
  obtain ⟨t, pt, rt⟩ := ha.ex
  refine ⟨⟨fun σ H Q => t σ H fun vs H1 => ∃ a C dx fs mm ρ μ d, vs = [.ref a] ∧ H1 a = some (.ins C dx fs) ∧ T C = some mm ∧ Rel X.K ρ μ H1 ∧ DV X.K ρ H1 d (.ref a) ∧ Okr X.K (DV X.K) ρ H1 (lenR (mm d [] [] μ)) Q (fun c d H' => W c d σ H'), ⟨fun pins s σ H Q I h => ?_⟩, fun ρ0 μ0 δ σ H0 Q rel0 env0 ok0 => rt ρ0 μ0 δ σ H0 _ rel0 env0 (Okr.bind ok0 fun ds μ ρ H vs pr fz rel dv ok => ?_)⟩⟩
  · refine wpAny_Call_Name_kw (ld_blt I hg hm hv ?_ hn hdb)
    refine PyProof.Rows.callWith_builtin1 (thn (pt.run pos pins s σ H _ I h) fun us s1 ⟨vs, H1, I1, r1, a, C, dx, fs, mm, ρ, μ, d, ev, ea, hTC, rel, dv, ok⟩ => ?_) he hpl
    subst ev
    cases r1 with
    | cons r2 r3 =>
      cases r3
      rename_i u _
      obtain rfl : u = Value.ref a := r2
      obtain ⟨k, f, fd, ps, m, gD, c, hme, F, hr, hb, rfl⟩ := (hT C mm hTC).ex
      obtain ⟨mA, O, _, _, _, _⟩ := ins_get I1.hok ea
      obtain ⟨od, J, _⟩ := O.look
      refine PySem.W.len_own I1.kIn J hme.at_ hme.fn ?_
      have e1 := I1.env0
      obtain ⟨g, gV, kb, hgd⟩ := hb.ex
      obtain ⟨dv2, dl⟩ := hgd ρ H1 [d] [.ref a] [] [] (.cons dv .nil) .nil rfl rfl
      have r4 := kb.rel (show Vals [V.ref a] [Value.ref a] from .cons rfl .nil) (show Vals [] [] from .nil)
      have ok2 : Okr X.K (DV X.K) ρ H1 (m (gD [d] []) μ) (fun v H' => ∃ n : Int, v = .int n ∧ 0 ≤ n ∧ n < 2 ^ 63 ∧ Q (.int n) H') (fun c d H' => W c d σ H') := by
        refine Okr.bind ok fun v μ1 ρ1 H2 y pr fz rel1 dv1 ok1 => ?_
        split at ok1
        · rename_i n
          split at ok1
          · rename_i hb
            obtain rfl := int_ok dv1
            exact ⟨n, rfl, hb.1, hb.2, Okr.go ok1 (Pre.refl _) (Fz.refl _) rel1 dv1⟩
          · exact ok1.elim
        · exact ok1.elim
      refine wpAny_call (codeAny_mono (F.run X.A.in1 X.stack s1 H1 ⟨[.ref a], []⟩ (g [.ref a] []) (gV [.ref a] []) _ (WE W σ) ⟨hr.hd, by have := hr.dp; show X.A.depth + 3 * k + 5 < _; omega, by have := hr.un; show X.A.units + 1 + 16 * k + 200 < _; omega⟩ ⟨e1.frames, e1.mod, e1.bs, e1.bsz, e1.funs, e1.frf, e1.hok, e1.bare⟩ (kb.to s1 [.ref a] [] I1.kIn rfl rfl) r4 ⟨ρ, μ, gD [d] [], dl, rel, dv2, ok2⟩) fun r s' hq => ?_)
      cases r with
      | error e => exact pw σ pins H1 s1 e s' I1 hq
      | ok fl =>
        cases fl with
        | ret u =>
          obtain ⟨v, H2, I2, rv, n, rfl, h0, h1, q⟩ := I1.after hq
          obtain ⟨tn, rfl⟩ : ∃ tn, u = Value.int n tn := rv
          exact ⟨⟨h0, h1⟩, .int n, H2, I2.tok _, ⟨_, rfl⟩, q⟩
        | next => exact False.elim hq
        | brk => exact False.elim hq
        | cont => exact False.elim hq
  · dsimp only at ok
    split at ok
    · rename_i d
      split at ok
      · rename_i C fs hi
        split at ok
        · rename_i mm hTC
          obtain ⟨v, rfl, dv1⟩ := dv.one
          obtain ⟨a, dx, vs, rfl, h1, h2⟩ := insOf_ok rel dv1 hi
          exact ⟨a, C, dx, vs, mm, ρ, μ, d, rfl, h1, hTC, rel, dv1, ok⟩
        · exact ok.elim
      · exact ok.elim
    · exact ok.elim
end
end Doz
end
section
namespace Doz
open PySem L2
def t_n_Halldd_lendd (c : Cl) : MS := (mret (mcall fLen (mcons (mfld ("beds" : Str) (mvar 0)) mnil)))
def m_n_Halldd_lendd (c : Cl) : MF := runB 1 (t_n_Halldd_lendd c)
def t_n_Hall_log (c : Cl) : MS := (mret (mlc (mcall fListN (mcons (mfld ("entries" : Str) (mvar 0)) mnil))))
def m_n_Hall_log (c : Cl) : MF := runB 1 (t_n_Hall_log c)
def t_n_Hall_who (c : Cl) : MS := (mseq (mifS (mcmp cEqA (mfld ("beds" : Str) (mvar 0)) mdnew) (mret (mC (.str ("nobody" : Str)))) mnx)
    (mret (mmeth tyS fJoin (mC (.str (" " : Str))) (mcons (mfz (mcomp [1] (miter (mfz (mcall fSortDN (mcons (mfld ("beds" : Str) (mvar 0)) mnil)))) (gset 1) myes (mcall fStrC (mcons (mvar 1) mnil)))) mnil))))
def m_n_Hall_who (c : Cl) : MF := runB 2 (t_n_Hall_who c)
end Doz
end
section
namespace K16
open PySem L2 Doz
open PySem.DozX (ExTxt SaysX exB_ok hookX obsXG obsXG_eq)
def top (i : Nat) : Stmt := PySem.Challenge.pw_dozehall_k16_whole_moved_keep_order.main.body.getD i noSt
abbrev s_x__law_source : Stmt := top 16
abbrev s_x__law_draw : Stmt := top 17
abbrev s_x__law_names : Stmt := top 18
abbrev s_n_Halldd_initdd : Stmt := meth (top 14) 0
abbrev s_n_Hall_rank : Stmt := meth (top 14) 14
abbrev s_n_DozeErrordd_initdd : Stmt := meth (top 4) 0
abbrev s_n_Hall_look_for : Stmt := meth (top 14) 1
abbrev s_n_Hall_look_awake : Stmt := meth (top 14) 2
abbrev s_n_look_at_counts : Stmt := top 13
abbrev s_n_Hall_is_over : Stmt := meth (top 14) 6
abbrev s_n_Beddd_initdd : Stmt := meth (top 2) 0
abbrev s_n_Hall_next_turn : Stmt := meth (top 14) 3
abbrev s_n_Hall_lie_down : Stmt := meth (top 14) 4
abbrev s_n_Hall_sleep : Stmt := meth (top 14) 8
abbrev s_n_Hall_asleep : Stmt := meth (top 14) 19
abbrev s_n_Hall_rise : Stmt := meth (top 14) 5
abbrev s_n_Hall_nudge : Stmt := meth (top 14) 13
abbrev s_n_Hall_standing : Stmt := meth (top 14) 22
abbrev s_n_Hall_order : Stmt := meth (top 14) 18
abbrev s_n_Hall_line_at : Stmt := meth (top 14) 17
abbrev s_n_Hall_line : Stmt := meth (top 14) 16
abbrev s_n_Hall_move : Stmt := meth (top 14) 10
abbrev s_x__law_in_order : Stmt := top 19
abbrev s_x__law_moved_well : Stmt := top 20
abbrev s_n_Bed_meets : Stmt := meth (top 2) 2
abbrev s_n_Hall_wake : Stmt := meth (top 14) 9
abbrev s_n_law : Stmt := top 21
def t_x__law_in_order (c : Cl) : MS := (mseq (mifS (mor (mcmp cNeA (mfz (mcomp [5] (miter (mvar 0)) (gset 5) (mcmp cIn (mvar 5) (mvar 1)) (mvar 5))) (mvar 1)) (mcmp cNeA (mfz (mcomp [5] (miter (mvar 0)) (gset 5) (mcmp cIn (mvar 5) (mvar 2)) (mvar 5))) (mvar 2))) (mret (mC (.bl false))) mnx)
    (mseq (mifS (mcmp cNeA (mcall fLen (mcons (mvar 0) mnil)) (mop fAdd (mcall fLen (mcons (mvar 1) mnil)) (mcall fLen (mcons (mvar 2) mnil)))) (mret (mC (.bl false))) mnx)
    (mseq (mfor (mcall fEnum (mcons (mvar 0) mnil)) (gtup 2 (gcons (gset 4) (gcons (gset 5) gnil))) (mfor (miter (mslice fSl (mvar 0) mnopart (mpart (mvar 4)))) (gset 6) (mseq (mifS (mcmp cLt (mop fIx (mvar 3) (mvar 6)) (mop fIx (mvar 3) (mvar 5))) (mret (mC (.bl false))) mnx)
    (mifS (mand (mcmp cEqA (mop fIx (mvar 3) (mvar 6)) (mop fIx (mvar 3) (mvar 5))) (mand (mcmp cIn (mvar 6) (mvar 1)) (mcmp cIn (mvar 5) (mvar 2)))) (mret (mC (.bl false))) mnx))))
    (mret (mC (.bl true))))))
def m_x__law_in_order (c : Cl) : MF := runB 7 (t_x__law_in_order c)
def t_x__law_moved_well (c : Cl) : MS := (mseq (masg (mfn 2 0 (fun ds _ => ds) (m_x__law_draw c) (mpos (mcons (mvar 1) (mcons (mcall fLen (mcons (mvar 2) mnil)) mnil)))) (gset 4))
    (mseq (masg (mop fMod (mop fAdd (mop fAdd (mvar 4) (mC (.int 1))) (mfn 2 0 (fun ds _ => ds) (m_x__law_draw c) (mpos (mcons (mvar 1) (mcons (mop fSub (mcall fLen (mcons (mvar 2) mnil)) (mC (.int 1))) mnil))))) (mcall fLen (mcons (mvar 2) mnil))) (gset 5))
    (mseq (masg (mmth ("line" : Str) 1 0 (fun C => List.lookup C [(c.n_Hall, fun x ds ez μ => m_n_Hall_line c ((fun ds _ => ds) (x :: ds) ez) μ)]) (mvar 0) (mpos (mcons (mop fIx (mvar 2) (mvar 5)) mnil))) (gset 6))
    (mseq (masg (mop fMul (mfn 2 0 (fun ds _ => ds) (m_x__law_draw c) (mpos (mcons (mvar 1) (mcons (mC (.int 2)) mnil)))) (mfn 2 0 (fun ds _ => ds) (m_x__law_draw c) (mpos (mcons (mvar 1) (mcons (mC (.int 2)) mnil))))) (gset 7))
    (mseq (masg (mmth ("move" : Str) 2 2 (fun C => List.lookup C [(c.n_Hall, fun x ds ez μ => m_n_Hall_move c ((fun ds es => match ds, es with | [x0, x1, x2], [y0, y1] => [x0, x1, x2, .non, y0, y1] | _, _ => []) (x :: ds) ez) μ)]) (mvar 0) (mboth (mcons (mop fIx (mvar 2) (mvar 4)) (mcons (mop fIx (mvar 2) (mvar 5)) mnil)) (mcons (mvar 7) (mcons (mfn 2 0 (fun ds _ => ds) (m_x__law_draw c) (mpos (mcons (mvar 1) (mcons (mC (.int 9)) mnil)))) mnil)))) (gset 8))
    (mret (mfn 4 0 (fun ds _ => ds) (m_x__law_in_order c) (mpos (mcons (mmth ("line" : Str) 1 0 (fun C => List.lookup C [(c.n_Hall, fun x ds ez μ => m_n_Hall_line c ((fun ds _ => ds) (x :: ds) ez) μ)]) (mvar 0) (mpos (mcons (mop fIx (mvar 2) (mvar 5)) mnil))) (mcons (mop fIx (mvar 8) (mC (.int 1))) (mcons (mvar 6) (mcons (mvar 3) mnil))))))))))))
def m_x__law_moved_well (c : Cl) : MF := runB 9 (t_x__law_moved_well c)
def t_n_law (c : Cl) : MS := (mseq (masg (mfn 2 0 (fun ds _ => ds) (m_x__law_source c) (mpos (mcons (mvar 0) (mcons (mC (.int 0)) mnil)))) (gset 1))
    (mseq (masg (mfn 2 0 (fun ds _ => ds) (m_x__law_names c) (mpos (mcons (mvar 1) (mcons (mop fAdd (mC (.int 2)) (mfn 2 0 (fun ds _ => ds) (m_x__law_draw c) (mpos (mcons (mvar 1) (mcons (mC (.int 3)) mnil))))) mnil)))) (gset 2))
    (mseq (masg (mmk c.n_Hall 1 0 (fun ds _ => ds) (m_n_Halldd_initdd c) (mpos (mcons (mcall fDictP (mcons (mfz (mcomp [7] (miter (mvar 2)) (gset 7) myes (mtup (mcons (mvar 7) (mcons (mC (.int 0)) mnil))))) mnil)) mnil))) (gset 3))
    (mseq (masg (mop fAdd (mC (.int 1)) (mfn 2 0 (fun ds _ => ds) (m_x__law_draw c) (mpos (mcons (mvar 1) (mcons (mC (.int 3)) mnil))))) (gset 4))
    (mseq (masg mdnew (gset 5))
    (mseq (mfor (mcall fRng1 (mcons (mfn 2 0 (fun ds _ => ds) (m_x__law_draw c) (mpos (mcons (mvar 1) (mcons (mC (.int 17)) mnil)))) mnil)) (gset 6) (mseq (masg (mop fAdd (mC (.int 500)) (mop fMod (mop fMul (mC (.int 5)) (mvar 6)) (mC (.int 17)))) (gset 10))
    (mseq (masg (mop fSub (mfn 2 0 (fun ds _ => ds) (m_x__law_draw c) (mpos (mcons (mvar 1) (mcons (mvar 4) mnil)))) (mC (.int 1))) (gsub (mvar 5) (mvar 10)))
    (mseq (mdrop (mmth ("rank" : Str) 2 0 (fun C => List.lookup C [(c.n_Hall, fun x ds ez μ => m_n_Hall_rank c ((fun ds _ => ds) (x :: ds) ez) μ)]) (mvar 3) (mpos (mcons (mvar 10) (mcons (mop fIx (mvar 5) (mvar 10)) mnil)))))
    (mdrop (mmth ("sleep" : Str) 3 0 (fun C => List.lookup C [(c.n_Hall, fun x ds ez μ => m_n_Hall_sleep c ((fun ds es => match ds, es with | [x0, x1, x2, x3], [] => [x0, x1, x2, x3, .non, .int 255] | _, _ => []) (x :: ds) ez) μ)]) (mvar 3) (mpos (mcons (mvar 10) (mcons (mop fIx (mvar 2) (mop fMul (mfn 2 0 (fun ds _ => ds) (m_x__law_draw c) (mpos (mcons (mvar 1) (mcons (mcall fLen (mcons (mvar 2) mnil)) mnil)))) (mfn 2 0 (fun ds _ => ds) (m_x__law_draw c) (mpos (mcons (mvar 1) (mcons (mC (.int 2)) mnil)))))) (mcons (mC (.int 0)) mnil))))))))))
    (mseq (mfor (mcall fRng2 (mcons (mC (.int 1)) (mcons (mcall fMax (mcons (mC (.int 7)) (mcons (mcall fMin (mcons (mcall fLen (mcons (mvar 0) mnil)) (mcons (mC (.int 63)) mnil))) mnil))) mnil))) (gset 6) (mseq (masg (mfn 2 0 (fun ds _ => ds) (m_x__law_source c) (mpos (mcons (mvar 0) (mcons (mvar 6) mnil)))) (gset 1))
    (mseq (masg (mfn 2 0 (fun ds _ => ds) (m_x__law_draw c) (mpos (mcons (mvar 1) (mcons (mC (.int 6)) mnil)))) (gset 11))
    (mseq (masg (mmth ("asleep" : Str) 0 0 (fun C => List.lookup C [(c.n_Hall, fun x ds ez μ => m_n_Hall_asleep c ((fun ds _ => ds) (x :: ds) ez) μ)]) (mvar 3) mnoa) (gset 12))
    (mseq (mifS (mcmp cEqA (mvar 11) (mC (.int 0))) (mseq (masg (mop fSub (mfn 2 0 (fun ds _ => ds) (m_x__law_draw c) (mpos (mcons (mvar 1) (mcons (mvar 4) mnil)))) (mC (.int 1))) (gsub (mvar 5) (mop fAdd (mC (.int 900)) (mvar 6))))
    (mseq (mdrop (mmth ("rank" : Str) 2 0 (fun C => List.lookup C [(c.n_Hall, fun x ds ez μ => m_n_Hall_rank c ((fun ds _ => ds) (x :: ds) ez) μ)]) (mvar 3) (mpos (mcons (mop fAdd (mC (.int 900)) (mvar 6)) (mcons (mop fIx (mvar 5) (mop fAdd (mC (.int 900)) (mvar 6))) mnil)))))
    (mdrop (mmth ("sleep" : Str) 3 0 (fun C => List.lookup C [(c.n_Hall, fun x ds ez μ => m_n_Hall_sleep c ((fun ds es => match ds, es with | [x0, x1, x2, x3], [] => [x0, x1, x2, x3, .non, .int 255] | _, _ => []) (x :: ds) ez) μ)]) (mvar 3) (mpos (mcons (mop fAdd (mC (.int 900)) (mvar 6)) (mcons (mop fIx (mvar 2) (mfn 2 0 (fun ds _ => ds) (m_x__law_draw c) (mpos (mcons (mvar 1) (mcons (mcall fLen (mcons (mvar 2) mnil)) mnil))))) (mcons (mC (.int 0)) mnil)))))))) mnx)
    (mseq (mifS (mand (mcmp cEqA (mvar 11) (mC (.int 1))) (mcmp cNeA (mvar 12) (mfz (mlst mnil)))) (mdrop (mmth ("nudge" : Str) 1 0 (fun C => List.lookup C [(c.n_Hall, fun x ds ez μ => m_n_Hall_nudge c ((fun ds _ => ds) (x :: ds) ez) μ)]) (mvar 3) (mpos (mcons (mop fIx (mvar 12) (mfn 2 0 (fun ds _ => ds) (m_x__law_draw c) (mpos (mcons (mvar 1) (mcons (mcall fLen (mcons (mvar 12) mnil)) mnil))))) mnil)))) mnx)
    (mifS (mnot (masB (mfn 4 0 (fun ds _ => ds) (m_x__law_moved_well c) (mpos (mcons (mvar 3) (mcons (mvar 1) (mcons (mvar 2) (mcons (mvar 5) mnil)))))))) (mret (mC (.bl false))) mnx)))))))
    (mseq (masg (mop fIx (mvar 2) (mfn 2 0 (fun ds _ => ds) (m_x__law_draw c) (mpos (mcons (mvar 1) (mcons (mcall fLen (mcons (mvar 2) mnil)) mnil))))) (gset 7))
    (mseq (masg (mmth ("line" : Str) 1 0 (fun C => List.lookup C [(c.n_Hall, fun x ds ez μ => m_n_Hall_line c ((fun ds _ => ds) (x :: ds) ez) μ)]) (mvar 3) (mpos (mcons (mvar 7) mnil))) (gset 8))
    (mseq (masg (mfz (mlst mnil)) (gset 9))
    (mseq (mfor (mcall fRng1 (mcons (mcall fLen (mcons (mvar 8) mnil)) mnil)) (gset 6) (masg (mop fAdd (mvar 9) (mmth ("wake" : Str) 1 0 (fun C => List.lookup C [(c.n_Hall, fun x ds ez μ => m_n_Hall_wake c ((fun ds es => match ds, es with | [x0, x1], [] => [x0, x1, .int 1, .int 255] | _, _ => []) (x :: ds) ez) μ)]) (mvar 3) (mpos (mcons (mvar 7) mnil)))) (gset 9)))
    (mret (mandV (mbl (mcmp cEqA (mvar 9) (mvar 8))) (mandV (mbl (mcmp cEqA (mmth ("line" : Str) 1 0 (fun C => List.lookup C [(c.n_Hall, fun x ds ez μ => m_n_Hall_line c ((fun ds _ => ds) (x :: ds) ez) μ)]) (mvar 3) (mpos (mcons (mvar 7) mnil))) (mfz (mlst mnil)))) (mbl (mcmp cEqA (mmth ("wake" : Str) 1 0 (fun C => List.lookup C [(c.n_Hall, fun x ds ez μ => m_n_Hall_wake c ((fun ds es => match ds, es with | [x0, x1], [] => [x0, x1, .int 1, .int 255] | _, _ => []) (x :: ds) ez) μ)]) (mvar 3) (mpos (mcons (mvar 7) mnil))) (mfz (mlst mnil))))))))))))))))))
def m_n_law (c : Cl) : MF := runB 13 (t_n_law c)
def d_x__law_source : He.DefD := ⟨("_law_source", none), "_law_source", "_law_source", defArgs s_x__law_source, defBody s_x__law_source, defScope s_x__law_source, [], []⟩
def d_x__law_draw : He.DefD := ⟨("_law_draw", none), "_law_draw", "_law_draw", defArgs s_x__law_draw, defBody s_x__law_draw, defScope s_x__law_draw, [], []⟩
def d_x__law_names : He.DefD := ⟨("_law_names", none), "_law_names", "_law_names", defArgs s_x__law_names, defBody s_x__law_names, defScope s_x__law_names, [], []⟩
def d_n_Halldd_initdd : He.DefD := ⟨("Hall", some "__init__"), "__init__", "Hall.__init__", defArgs s_n_Halldd_initdd, defBody s_n_Halldd_initdd, defScope s_n_Halldd_initdd, [], []⟩
def d_n_Hall_rank : He.DefD := ⟨("Hall", some "rank"), "rank", "Hall.rank", defArgs s_n_Hall_rank, defBody s_n_Hall_rank, defScope s_n_Hall_rank, [], []⟩
def d_n_DozeErrordd_initdd : He.DefD := ⟨("DozeError", some "__init__"), "__init__", "DozeError.__init__", defArgs s_n_DozeErrordd_initdd, defBody s_n_DozeErrordd_initdd, defScope s_n_DozeErrordd_initdd, [], []⟩
def d_n_Hall_look_for : He.DefD := ⟨("Hall", some "look_for"), "look_for", "Hall.look_for", defArgs s_n_Hall_look_for, defBody s_n_Hall_look_for, defScope s_n_Hall_look_for, [], []⟩
def d_n_Hall_look_awake : He.DefD := ⟨("Hall", some "look_awake"), "look_awake", "Hall.look_awake", defArgs s_n_Hall_look_awake, defBody s_n_Hall_look_awake, defScope s_n_Hall_look_awake, [], []⟩
def d_n_look_at_counts : He.DefD := ⟨("look_at_counts", none), "look_at_counts", "look_at_counts", defArgs s_n_look_at_counts, defBody s_n_look_at_counts, defScope s_n_look_at_counts, [], [("counts", .adr (PySem.DozX.kwAt ("look_at_counts", none) "counts")), ("masks", .adr (PySem.DozX.kwAt ("look_at_counts", none) "masks"))]⟩
def d_n_Hall_is_over : He.DefD := ⟨("Hall", some "is_over"), "is_over", "Hall.is_over", defArgs s_n_Hall_is_over, defBody s_n_Hall_is_over, defScope s_n_Hall_is_over, [], []⟩
def d_n_Beddd_initdd : He.DefD := ⟨("Bed", some "__init__"), "__init__", "Bed.__init__", defArgs s_n_Beddd_initdd, defBody s_n_Beddd_initdd, defScope s_n_Beddd_initdd, [], []⟩
def d_n_Hall_next_turn : He.DefD := ⟨("Hall", some "next_turn"), "next_turn", "Hall.next_turn", defArgs s_n_Hall_next_turn, defBody s_n_Hall_next_turn, defScope s_n_Hall_next_turn, [], []⟩
def d_n_Hall_lie_down : He.DefD := ⟨("Hall", some "lie_down"), "lie_down", "Hall.lie_down", defArgs s_n_Hall_lie_down, defBody s_n_Hall_lie_down, defScope s_n_Hall_lie_down, [], []⟩
def d_n_Hall_sleep : He.DefD := ⟨("Hall", some "sleep"), "sleep", "Hall.sleep", defArgs s_n_Hall_sleep, defBody s_n_Hall_sleep, defScope s_n_Hall_sleep, [], [("until", .non), ("mask", .int 255)]⟩
def d_n_Hall_asleep : He.DefD := ⟨("Hall", some "asleep"), "asleep", "Hall.asleep", defArgs s_n_Hall_asleep, defBody s_n_Hall_asleep, defScope s_n_Hall_asleep, [], []⟩
def d_n_Hall_rise : He.DefD := ⟨("Hall", some "rise"), "rise", "Hall.rise", defArgs s_n_Hall_rise, defBody s_n_Hall_rise, defScope s_n_Hall_rise, [], []⟩
def d_n_Hall_nudge : He.DefD := ⟨("Hall", some "nudge"), "nudge", "Hall.nudge", defArgs s_n_Hall_nudge, defBody s_n_Hall_nudge, defScope s_n_Hall_nudge, [], []⟩
def d_n_Hall_standing : He.DefD := ⟨("Hall", some "standing"), "standing", "Hall.standing", defArgs s_n_Hall_standing, defBody s_n_Hall_standing, defScope s_n_Hall_standing, [], []⟩
def d_n_Hall_order : He.DefD := ⟨("Hall", some "order"), "order", "Hall.order", defArgs s_n_Hall_order, defBody s_n_Hall_order, defScope s_n_Hall_order, [], []⟩
def d_n_Hall_line_at : He.DefD := ⟨("Hall", some "line_at"), "line_at", "Hall.line_at", defArgs s_n_Hall_line_at, defBody s_n_Hall_line_at, defScope s_n_Hall_line_at, [], []⟩
def d_n_Hall_line : He.DefD := ⟨("Hall", some "line"), "line", "Hall.line", defArgs s_n_Hall_line, defBody s_n_Hall_line, defScope s_n_Hall_line, [], []⟩
def d_n_Hall_move : He.DefD := ⟨("Hall", some "move"), "move", "Hall.move", defArgs s_n_Hall_move, defBody s_n_Hall_move, defScope s_n_Hall_move, [], [("still", .non), ("wakes", .int 1), ("moves", .int 1000)]⟩
def d_x__law_in_order : He.DefD := ⟨("_law_in_order", none), "_law_in_order", "_law_in_order", defArgs s_x__law_in_order, defBody s_x__law_in_order, defScope s_x__law_in_order, [], []⟩
def d_x__law_moved_well : He.DefD := ⟨("_law_moved_well", none), "_law_moved_well", "_law_moved_well", defArgs s_x__law_moved_well, defBody s_x__law_moved_well, defScope s_x__law_moved_well, [], []⟩
def d_n_Bed_meets : He.DefD := ⟨("Bed", some "meets"), "meets", "Bed.meets", defArgs s_n_Bed_meets, defBody s_n_Bed_meets, defScope s_n_Bed_meets, [], []⟩
def d_n_Hall_wake : He.DefD := ⟨("Hall", some "wake"), "wake", "Hall.wake", defArgs s_n_Hall_wake, defBody s_n_Hall_wake, defScope s_n_Hall_wake, [], [("most", .int 1), ("mask", .int 255)]⟩
def d_n_law : He.DefD := ⟨("law", none), "law", "law", defArgs s_n_law, defBody s_n_law, defScope s_n_law, [], []⟩
def fn : List He.DefD := [d_x__law_source, d_x__law_draw, d_x__law_names, d_n_Halldd_initdd, d_n_Hall_rank, d_n_DozeErrordd_initdd, d_n_Hall_look_for, d_n_Hall_look_awake, d_n_look_at_counts, d_n_Hall_is_over, d_n_Beddd_initdd, d_n_Hall_next_turn, d_n_Hall_lie_down, d_n_Hall_sleep, d_n_Hall_asleep, d_n_Hall_rise, d_n_Hall_nudge, d_n_Hall_standing, d_n_Hall_order, d_n_Hall_line_at, d_n_Hall_line, d_n_Hall_move, d_x__law_in_order, d_x__law_moved_well, d_n_Bed_meets, d_n_Hall_wake, d_n_law]
def fa : List He.Fa := [.glo "law", .free "len", .glo "_law_source", .glo "_law_draw", .free "range", .glo "_law_names", .free "dict", .noat "Hall" "numbers", .noat "Hall" "beds", .noat "Hall" "ranks", .noat "Hall" "endings", .noat "Hall" "clock", .noat "Hall" "turns", .noat "Hall" "begun", .noat "Hall" "entries", .glo "Hall", .mkr "Hall", .cls "Hall", .meth "Hall" "rank", .glo "NoRoom", .meth "Hall" "look_for", .glo "Asleep", .meth "Hall" "look_awake", .glo "BadCount", .int "ALL" 255, .glo "look_at_counts", .meth "Hall" "is_over", .noat "Bed" "place", .noat "Bed" "turn", .noat "Bed" "since", .noat "Bed" "until", .noat "Bed" "mask", .meth "Hall" "next_turn", .glo "Bed", .mkr "Bed", .cls "Bed", .meth "Hall" "lie_down", .meth "Hall" "sleep", .free "min", .free "max", .free "sorted", .meth "Hall" "asleep", .glo "Awake", .meth "Hall" "rise", .meth "Hall" "nudge", .meth "Hall" "standing", .meth "Hall" "order", .meth "Hall" "line_at", .meth "Hall" "line", .glo "SameRoom", .free "tuple", .meth "Hall" "move", .free "enumerate", .glo "_law_in_order", .glo "_law_moved_well", .meth "Bed" "meets", .meth "Hall" "wake"]
def xs : List Str := ["NoRoom", "Asleep", "BadCount", "Awake", "SameRoom"]
def ts : List (PySem.W.Frag → Bool) := [PySem.DozX.bmK "Hall" "order", PySem.DozX.emK ("look_at_counts", none) "counts", PySem.DozX.emK ("look_at_counts", none) "masks"]
def cs : List Str := ["Hall", "NoRoom", "Asleep", "BadCount", "Bed", "Awake", "SameRoom"]
section
variable {P : Program} {w : World} {K : PySem.W.Frag} {mg : Str → Option Value} {h : Heap}
theorem ex_n_NoRoom (KX : K.In h) (G : h.Ns mainGlobals mg) (cc : SaysX fa fn xs cs ts K) : ExTxt K (He.ga K "NoRoom") (He.fAd K ("DozeError", some "__init__")) := by
  obtain ⟨fd, F⟩ := cc.says.def_ 5 (d := d_n_DozeErrordd_initdd) rfl
  exact exB_ok (cc.exc 0 (x := "NoRoom") rfl) F
theorem ex_n_Asleep (KX : K.In h) (G : h.Ns mainGlobals mg) (cc : SaysX fa fn xs cs ts K) : ExTxt K (He.ga K "Asleep") (He.fAd K ("DozeError", some "__init__")) := by
  obtain ⟨fd, F⟩ := cc.says.def_ 5 (d := d_n_DozeErrordd_initdd) rfl
  exact exB_ok (cc.exc 1 (x := "Asleep") rfl) F
theorem ex_n_BadCount (KX : K.In h) (G : h.Ns mainGlobals mg) (cc : SaysX fa fn xs cs ts K) : ExTxt K (He.ga K "BadCount") (He.fAd K ("DozeError", some "__init__")) := by
  obtain ⟨fd, F⟩ := cc.says.def_ 5 (d := d_n_DozeErrordd_initdd) rfl
  exact exB_ok (cc.exc 2 (x := "BadCount") rfl) F
theorem ex_n_Awake (KX : K.In h) (G : h.Ns mainGlobals mg) (cc : SaysX fa fn xs cs ts K) : ExTxt K (He.ga K "Awake") (He.fAd K ("DozeError", some "__init__")) := by
  obtain ⟨fd, F⟩ := cc.says.def_ 5 (d := d_n_DozeErrordd_initdd) rfl
  exact exB_ok (cc.exc 3 (x := "Awake") rfl) F
theorem ex_n_SameRoom (KX : K.In h) (G : h.Ns mainGlobals mg) (cc : SaysX fa fn xs cs ts K) : ExTxt K (He.ga K "SameRoom") (He.fAd K ("DozeError", some "__init__")) := by
  obtain ⟨fd, F⟩ := cc.says.def_ 5 (d := d_n_DozeErrordd_initdd) rfl
  exact exB_ok (cc.exc 4 (x := "SameRoom") rfl) F
abbrev N_x__law_source : List Str := ["_law_script", "_law_k", "_law_cell", "_law_deep"]
theorem sc_x__law_source : FnScope N_x__law_source ["_law_script", "_law_k"] (defScope s_x__law_source) := ⟨rfl, rfl, rfl, by decide +kernel, rfl, by decide +kernel, by decide +kernel⟩
theorem ok_x__law_source (KX : K.In h) (G : h.Ns mainGlobals mg) (cc : SaysX fa fn xs cs ts K) : ∃ fd, (∀ base : Heap, FnOk P w K mg base (L2.CX P w) 2 (He.fAd K ("_law_source", none)) fd ["_law_script", "_law_k"] (spM K 2 (m_x__law_source (clOf K)))) ∧ PySem.W.keepIn K (.ref (He.fAd K ("_law_source", none))) = true ∧ Bd K fd ["_law_script", "_law_k"] 2 [] (fun ds _ => ds) := by
  obtain ⟨fd, F⟩ := cc.says.def_ 0 (d := d_x__law_source) rfl
  have f_n_len := He.free_ok KX G (cc.says.fact 1 (f := .free "len") rfl)
  refine ⟨fd, fun base => fn_ok F sc_x__law_source (fun cdv A outer s H E W hr tk po => ?_), F.kp, bd_all rfl (F.bindsN fun _ _ _ _ _ _ us hl => match us, hl with | [_, _], _ => rfl)⟩
  have hu := Hu.of (X := cxOf (L2.CX P w) P w K mg base N_x__law_source "_law_source" (defScope s_x__law_source) (He.fAd K ("_law_source", none)) cdv A outer s H E) hr
  have pw := pw_takes tk
  have nd := sc_x__law_source.nd
  exact (rss_cons (rs_set 2 nd re_int)
    (rss_cons (rs_set 3 nd re_int)
    (rss_cons (rs_if (rt_cmp op_gt cm_gt (re_callB call_lenU cf_len f_n_len PySem.boot_len (ra_cons (re_var 0) ra_nil)) re_int) (rss_one (rs_set 2 nd (re_ix hu (re_var 0) (re_mod (re_var 1) (re_callB call_lenU cf_len f_n_len PySem.boot_len (ra_cons (re_var 0) ra_nil)))))) rss_nil)
    (rss_cons (rs_if (RW.rt (rw_and (rt_cmp op_lt cm_lt (re_var 1) (re_callB call_lenU cf_len f_n_len PySem.boot_len (ra_cons (re_var 0) ra_nil))) (rw_and1 (rt_cmp op_ge cm_ge (re_var 2) (re_pow re_int re_int))))) (rss_one (rs_set 3 nd (re_var 2))) rss_nil)
    (rss_one (rs_ret (re_lc (rn_lst (ra_cons (re_var 3) (ra_cons (re_add (re_add (re_mod (re_var 2) re_int) (re_mul re_int (re_var 1))) re_int) (ra_cons re_int ra_nil)))))))))))
abbrev N_x__law_draw : List Str := ["_law_source_here", "_law_many", "_law_seed", "_law_digit"]
theorem sc_x__law_draw : FnScope N_x__law_draw ["_law_source_here", "_law_many"] (defScope s_x__law_draw) := ⟨rfl, rfl, rfl, by decide +kernel, rfl, by decide +kernel, by decide +kernel⟩
theorem ok_x__law_draw (KX : K.In h) (G : h.Ns mainGlobals mg) (cc : SaysX fa fn xs cs ts K) : ∃ fd, (∀ base : Heap, FnOk P w K mg base (L2.CX P w) 2 (He.fAd K ("_law_draw", none)) fd ["_law_source_here", "_law_many"] (spM K 2 (m_x__law_draw (clOf K)))) ∧ PySem.W.keepIn K (.ref (He.fAd K ("_law_draw", none))) = true ∧ Bd K fd ["_law_source_here", "_law_many"] 2 [] (fun ds _ => ds) := by
  obtain ⟨fd, F⟩ := cc.says.def_ 1 (d := d_x__law_draw) rfl
  refine ⟨fd, fun base => fn_ok F sc_x__law_draw (fun cdv A outer s H E W hr tk po => ?_), F.kp, bd_all rfl (F.bindsN fun _ _ _ _ _ _ us hl => match us, hl with | [_, _], _ => rfl)⟩
  have hu := Hu.of (X := cxOf (L2.CX P w) P w K mg base N_x__law_draw "_law_draw" (defScope s_x__law_draw) (He.fAd K ("_law_draw", none)) cdv A outer s H E) hr
  have pw := pw_takes tk
  have nd := sc_x__law_draw.nd
  exact (rss_cons (rs_asg (re_add (re_ix hu (re_var 0) re_int) re_int) (rg_sub hu (re_var 0) re_int))
    (rss_cons (rs_if (rt_cmp op_gt cm_gt (re_ix hu (re_var 0) re_int) re_int) (rss_cons (rs_set 3 nd (re_mod (re_ix hu (re_var 0) re_int) (re_var 1)))
    (rss_cons (rs_asg (re_div (re_ix hu (re_var 0) re_int) (re_var 1)) (rg_sub hu (re_var 0) re_int))
    (rss_one (rs_ret (re_var 3))))) rss_nil)
    (rss_cons (rs_set 2 nd (re_mod (re_pow (re_add (re_ix hu (re_var 0) re_int) (re_mul re_int (re_ix hu (re_var 0) re_int))) re_int) re_int))
    (rss_one (rs_ret (re_mod (re_div (re_mod (re_mul (re_add (re_var 2) (re_ix hu (re_var 0) re_int)) re_int) re_int) re_int) (re_var 1)))))))
abbrev N_x__law_names : List Str := ["_law_source_here", "_law_many", "_law_letters", "_law_made", "_law_body", "_law_alike", "_law_k", "_law_at", "_law_first", "_law_found", "_law_j", "_law_word"]
theorem sc_x__law_names : FnScope N_x__law_names ["_law_source_here", "_law_many"] (defScope s_x__law_names) := ⟨rfl, rfl, rfl, by decide +kernel, rfl, by decide +kernel, by decide +kernel⟩
theorem ok_x__law_names (KX : K.In h) (G : h.Ns mainGlobals mg) (cc : SaysX fa fn xs cs ts K) : ∃ fd, (∀ base : Heap, FnOk P w K mg base (L2.CX P w) 3 (He.fAd K ("_law_names", none)) fd ["_law_source_here", "_law_many"] (spM K 2 (m_x__law_names (clOf K)))) ∧ PySem.W.keepIn K (.ref (He.fAd K ("_law_names", none))) = true ∧ Bd K fd ["_law_source_here", "_law_many"] 2 [] (fun ds _ => ds) := by
  obtain ⟨fd, F⟩ := cc.says.def_ 2 (d := d_x__law_names) rfl
  obtain ⟨fd_x__law_draw, F_x__law_draw, kp_x__law_draw, b_x__law_draw_0⟩ := ok_x__law_draw (P := P) (w := w) KX G cc
  have g_x__law_draw := He.glo_ok KX G (cc.says.fact 3 (f := .glo "_law_draw") rfl)
  have f_n_range := He.free_ok KX G (cc.says.fact 4 (f := .free "range") rfl)
  have f_n_len := He.free_ok KX G (cc.says.fact 1 (f := .free "len") rfl)
  refine ⟨fd, fun base => fn_ok F sc_x__law_names (fun cdv A outer s H E W hr tk po => ?_), F.kp, bd_all rfl (F.bindsN fun _ _ _ _ _ _ us hl => match us, hl with | [_, _], _ => rfl)⟩
  have hu := Hu.of (X := cxOf (L2.CX P w) P w K mg base N_x__law_names "_law_names" (defScope s_x__law_names) (He.fAd K ("_law_names", none)) cdv A outer s H E) hr
  have pw := pw_takes tk
  have nd := sc_x__law_names.nd
  exact (rss_cons (rs_set 2 nd re_str)
    (rss_cons (rs_set 3 nd (re_lc (rn_lst ra_nil)))
    (rss_cons (rs_set 4 nd re_str)
    (rss_cons (rs_set 5 nd (re_cmp (op_eqA hu) cm_eqA (re_call (ks := []) (F_x__law_draw base) (hr.mono (by decide : 2 ≤ 2)) g_x__law_draw kp_x__law_draw b_x__law_draw_0 pw (rc_pos (ra_cons (re_var 0) (ra_cons re_int ra_nil)))) re_int))
    (rss_cons (rs_for po rfl (ri_range1 f_n_range (ra_cons (re_var 1) ra_nil)) (rg_name 6 nd) (rss_cons (rs_if (RW.rt (rw_or (rt_not (rt_val (re_var 5))) (rw_or1 (rt_cmp (op_eqA hu) cm_eqA (re_var 6) re_int)))) (rss_one (rs_set 4 nd (re_bm PySem.F.plainAttrs_str PySem.F.slot_str_join PySem.F.type_str_join mt_join tyOk_S mf_join re_str (ra_cons (re_fz (rn_lc (own := [("_law_j", 10)]) rfl nd (ri_range1 f_n_range (ra_cons (re_call (ks := []) (F_x__law_draw base) (hr.mono (by decide : 2 ≤ 2)) g_x__law_draw kp_x__law_draw b_x__law_draw_0 pw (rc_pos (ra_cons (re_var 0) (ra_cons re_int ra_nil)))) ra_nil)) (blkOk_by (N := N_x__law_names) (sc := defScope s_x__law_names) (by decide +kernel)) (rgc_name 10 nd) (fun _ _ _ _ _ => rts_nil) (fun _ _ _ _ _ => (re_ix hu (re_var 2) (re_call (ks := []) (F_x__law_draw base) (hr.mono (by decide : 2 ≤ 2)) g_x__law_draw kp_x__law_draw b_x__law_draw_0 pw_false (rc_pos (ra_cons (re_var 0) (ra_cons re_int ra_nil)))))))) ra_nil)))) rss_nil)
    (rss_cons (rs_set 7 nd (re_call (ks := []) (F_x__law_draw base) (hr.mono (by decide : 2 ≤ 2)) g_x__law_draw kp_x__law_draw b_x__law_draw_0 pw (rc_pos (ra_cons (re_var 0) (ra_cons (re_add (re_callB call_lenU cf_len f_n_len PySem.boot_len (ra_cons (re_var 4) ra_nil)) re_int) ra_nil)))))
    (rss_cons (rs_set 8 nd (re_call (ks := []) (F_x__law_draw base) (hr.mono (by decide : 2 ≤ 2)) g_x__law_draw kp_x__law_draw b_x__law_draw_0 pw (rc_pos (ra_cons (re_var 0) (ra_cons re_int ra_nil)))))
    (rss_cons (rs_set 9 nd re_str)
    (rss_cons (rs_for po rfl (ri_range1 f_n_range (ra_cons re_int ra_nil)) (rg_name 10 nd) (rss_cons (rs_set 11 nd (re_add (re_add (re_slice (re_var 4) ro_none (ro_some (re_var 7))) (re_ix hu (re_var 2) (re_mod (re_add (re_var 8) (re_var 10)) re_int))) (re_slice (re_var 4) (ro_some (re_var 7)) ro_none)))
    (rss_one (rs_if (RW.rt (rw_and (rt_cmp (op_eqA hu) cm_eqA (re_var 9) re_str) (rw_and1 (rt_cmp (op_notInU hu) cm_notIn (re_var 11) (re_var 3))))) (rss_one (rs_set 9 nd (re_var 11))) rss_nil))))
    (rss_one (rs_expr (re_bm PySem.F.plainAttrs_list PySem.F.slot_list_append PySem.F.type_list_append (mt_append) tyOk_L mf_append (re_var 3) (ra_cons (re_var 9) ra_nil))))))))))
    (rss_one (rs_retFz (re_var 3))))))))
abbrev N_n_Halldd_initdd : List Str := ["self", "rooms"]
theorem sc_n_Halldd_initdd : FnScope N_n_Halldd_initdd ["self", "rooms"] (defScope s_n_Halldd_initdd) := ⟨rfl, rfl, rfl, by decide +kernel, rfl, by decide +kernel, by decide +kernel⟩
theorem ok_n_Halldd_initdd (KX : K.In h) (G : h.Ns mainGlobals mg) (cc : SaysX fa fn xs cs ts K) : ∃ fd, (∀ base : Heap, FnOk P w K mg base (L2.CX P w) 2 (He.fAd K ("Hall", some "__init__")) fd ["self", "rooms"] (spM K 2 (m_n_Halldd_initdd (clOf K)))) ∧ PySem.W.keepIn K (.ref (He.fAd K ("Hall", some "__init__"))) = true ∧ Bd K fd ["self", "rooms"] 2 [] (fun ds _ => ds) := by
  obtain ⟨fd, F⟩ := cc.says.def_ 3 (d := d_n_Halldd_initdd) rfl
  have f_n_dict := He.free_ok KX G (cc.says.fact 6 (f := .free "dict") rfl)
  have n_n_Hall_n_numbers := He.noat_ok (cc.says.fact 7 (f := .noat "Hall" "numbers") rfl)
  have n_n_Hall_n_beds := He.noat_ok (cc.says.fact 8 (f := .noat "Hall" "beds") rfl)
  have n_n_Hall_n_ranks := He.noat_ok (cc.says.fact 9 (f := .noat "Hall" "ranks") rfl)
  have n_n_Hall_n_endings := He.noat_ok (cc.says.fact 10 (f := .noat "Hall" "endings") rfl)
  have n_n_Hall_n_clock := He.noat_ok (cc.says.fact 11 (f := .noat "Hall" "clock") rfl)
  have n_n_Hall_n_turns := He.noat_ok (cc.says.fact 12 (f := .noat "Hall" "turns") rfl)
  have n_n_Hall_n_begun := He.noat_ok (cc.says.fact 13 (f := .noat "Hall" "begun") rfl)
  have n_n_Hall_n_entries := He.noat_ok (cc.says.fact 14 (f := .noat "Hall" "entries") rfl)
  refine ⟨fd, fun base => fn_ok F sc_n_Halldd_initdd (fun cdv A outer s H E W hr tk po => ?_), F.kp, bd_all rfl (F.bindsN fun _ _ _ _ _ _ us hl => match us, hl with | [_, _], _ => rfl)⟩
  have hu := Hu.of (X := cxOf (L2.CX P w) P w K mg base N_n_Halldd_initdd "Hall.__init__" (defScope s_n_Halldd_initdd) (He.fAd K ("Hall", some "__init__")) cdv A outer s H E) hr
  have pw := pw_takes tk
  have nd := sc_n_Halldd_initdd.nd
  exact (rss_cons (rs_asg (re_callT call_dictD cf_dict f_n_dict PyProof.Rows.boot_dict (ra_cons (re_var 1) ra_nil)) (rg_fld [(clOf K).n_Hall] (na_cons n_n_Hall_n_numbers na_nil) (re_var 0)))
    (rss_cons (rs_asg re_dnew (rg_fld [(clOf K).n_Hall] (na_cons n_n_Hall_n_beds na_nil) (re_var 0)))
    (rss_cons (rs_asg re_dnew (rg_fld [(clOf K).n_Hall] (na_cons n_n_Hall_n_ranks na_nil) (re_var 0)))
    (rss_cons (rs_asg re_dnew (rg_fld [(clOf K).n_Hall] (na_cons n_n_Hall_n_endings na_nil) (re_var 0)))
    (rss_cons (rs_asg3 re_int (rg_fld [(clOf K).n_Hall] (na_cons n_n_Hall_n_clock na_nil) (re_var 0)) (rg_fld [(clOf K).n_Hall] (na_cons n_n_Hall_n_turns na_nil) (re_var 0)) (rg_fld [(clOf K).n_Hall] (na_cons n_n_Hall_n_begun na_nil) (re_var 0)))
    (rss_one (rs_asg (re_lc (rn_lst ra_nil)) (rg_fld [(clOf K).n_Hall] (na_cons n_n_Hall_n_entries na_nil) (re_var 0)))))))))
abbrev N_n_Hall_rank : List Str := ["self", "guest", "rank"]
theorem sc_n_Hall_rank : FnScope N_n_Hall_rank ["self", "guest", "rank"] (defScope s_n_Hall_rank) := ⟨rfl, rfl, rfl, by decide +kernel, rfl, by decide +kernel, by decide +kernel⟩
theorem ok_n_Hall_rank (KX : K.In h) (G : h.Ns mainGlobals mg) (cc : SaysX fa fn xs cs ts K) : ∃ fd, (∀ base : Heap, FnOk P w K mg base (L2.CX P w) 2 (He.fAd K ("Hall", some "rank")) fd ["self", "guest", "rank"] (spM K 3 (m_n_Hall_rank (clOf K)))) ∧ PySem.W.keepIn K (.ref (He.fAd K ("Hall", some "rank"))) = true ∧ Bd K fd ["self", "guest", "rank"] 3 [] (fun ds _ => ds) := by
  obtain ⟨fd, F⟩ := cc.says.def_ 4 (d := d_n_Hall_rank) rfl
  refine ⟨fd, fun base => fn_ok F sc_n_Hall_rank (fun cdv A outer s H E W hr tk po => ?_), F.kp, bd_all rfl (F.bindsN fun _ _ _ _ _ _ us hl => match us, hl with | [_, _, _], _ => rfl)⟩
  have hu := Hu.of (X := cxOf (L2.CX P w) P w K mg base N_n_Hall_rank "Hall.rank" (defScope s_n_Hall_rank) (He.fAd K ("Hall", some "rank")) cdv A outer s H E) hr
  have pw := pw_takes tk
  have nd := sc_n_Hall_rank.nd
  exact (rss_cons (rs_asg (re_var 2) (rg_sub hu (re_fld (re_var 0)) (re_var 1)))
    (rss_one (rs_expr (re_bm PySem.F.plainAttrs_list PySem.F.slot_list_append PySem.F.type_list_append (mt_append) tyOk_L mf_append (re_fld (re_var 0)) (ra_cons (re_tup (ra_cons re_str (ra_cons (re_var 1) (ra_cons (re_var 2) ra_nil)))) ra_nil)))))
abbrev N_n_Hall_look_for : List Str := ["self", "room"]
theorem sc_n_Hall_look_for : FnScope N_n_Hall_look_for ["self", "room"] (defScope s_n_Hall_look_for) := ⟨rfl, rfl, rfl, by decide +kernel, rfl, by decide +kernel, by decide +kernel⟩
theorem ok_n_Hall_look_for (KX : K.In h) (G : h.Ns mainGlobals mg) (cc : SaysX fa fn xs cs ts K) : ∃ fd, (∀ base : Heap, FnOk P w K mg base (L2.CX P w) 2 (He.fAd K ("Hall", some "look_for")) fd ["self", "room"] (spM K 2 (m_n_Hall_look_for (clOf K)))) ∧ PySem.W.keepIn K (.ref (He.fAd K ("Hall", some "look_for"))) = true ∧ Bd K fd ["self", "room"] 2 [] (fun ds _ => ds) := by
  obtain ⟨fd, F⟩ := cc.says.def_ 6 (d := d_n_Hall_look_for) rfl
  have x_n_NoRoom := ex_n_NoRoom KX G cc
  have g_n_NoRoom := He.glo_ok KX G (cc.says.fact 19 (f := .glo "NoRoom") rfl)
  refine ⟨fd, fun base => fn_ok F sc_n_Hall_look_for (fun cdv A outer s H E W hr tk po => ?_), F.kp, bd_all rfl (F.bindsN fun _ _ _ _ _ _ us hl => match us, hl with | [_, _], _ => rfl)⟩
  have hu := Hu.of (X := cxOf (L2.CX P w) P w K mg base N_n_Hall_look_for "Hall.look_for" (defScope s_n_Hall_look_for) (He.fAd K ("Hall", some "look_for")) cdv A outer s H E) hr
  have pw := pw_takes tk
  have nd := sc_n_Hall_look_for.nd
  exact (rss_one (rs_if (rt_cmp (op_notInU hu) cm_notIn (re_var 1) (re_fld (re_var 0))) (rss_one (rs_raise rfl x_n_NoRoom g_n_NoRoom hr tk (ra_cons (re_var 1) ra_nil))) rss_nil))
abbrev N_n_Hall_look_awake : List Str := ["self", "guest"]
theorem sc_n_Hall_look_awake : FnScope N_n_Hall_look_awake ["self", "guest"] (defScope s_n_Hall_look_awake) := ⟨rfl, rfl, rfl, by decide +kernel, rfl, by decide +kernel, by decide +kernel⟩
theorem ok_n_Hall_look_awake (KX : K.In h) (G : h.Ns mainGlobals mg) (cc : SaysX fa fn xs cs ts K) : ∃ fd, (∀ base : Heap, FnOk P w K mg base (L2.CX P w) 2 (He.fAd K ("Hall", some "look_awake")) fd ["self", "guest"] (spM K 2 (m_n_Hall_look_awake (clOf K)))) ∧ PySem.W.keepIn K (.ref (He.fAd K ("Hall", some "look_awake"))) = true ∧ Bd K fd ["self", "guest"] 2 [] (fun ds _ => ds) := by
  obtain ⟨fd, F⟩ := cc.says.def_ 7 (d := d_n_Hall_look_awake) rfl
  have x_n_Asleep := ex_n_Asleep KX G cc
  have g_n_Asleep := He.glo_ok KX G (cc.says.fact 21 (f := .glo "Asleep") rfl)
  refine ⟨fd, fun base => fn_ok F sc_n_Hall_look_awake (fun cdv A outer s H E W hr tk po => ?_), F.kp, bd_all rfl (F.bindsN fun _ _ _ _ _ _ us hl => match us, hl with | [_, _], _ => rfl)⟩
  have hu := Hu.of (X := cxOf (L2.CX P w) P w K mg base N_n_Hall_look_awake "Hall.look_awake" (defScope s_n_Hall_look_awake) (He.fAd K ("Hall", some "look_awake")) cdv A outer s H E) hr
  have pw := pw_takes tk
  have nd := sc_n_Hall_look_awake.nd
  exact (rss_one (rs_if (rt_cmp (op_inU hu) cm_in (re_var 1) (re_fld (re_var 0))) (rss_one (rs_raise rfl x_n_Asleep g_n_Asleep hr tk (ra_cons (re_var 1) ra_nil))) rss_nil))
abbrev N_n_look_at_counts : List Str := ["counts", "masks", "count", "mask"]
theorem sc_n_look_at_counts : FnScope N_n_look_at_counts ["counts", "masks"] (defScope s_n_look_at_counts) := ⟨rfl, rfl, rfl, by decide +kernel, rfl, by decide +kernel, by decide +kernel⟩
theorem ok_n_look_at_counts (KX : K.In h) (G : h.Ns mainGlobals mg) (cc : SaysX fa fn xs cs ts K) : ∃ fd, (∀ base : Heap, FnOk P w K mg base (L2.CX P w) 2 (He.fAd K ("look_at_counts", none)) fd ["counts", "masks"] (spM K 2 (m_n_look_at_counts (clOf K)))) ∧ PySem.W.keepIn K (.ref (He.fAd K ("look_at_counts", none))) = true ∧ Bd K fd ["counts", "masks"] 0 ["masks"] (fun ds es => match ds, es with | [], [y0] => [.tup [], y0] | _, _ => []) ∧ Bd K fd ["counts", "masks"] 0 ["counts"] (fun ds es => match ds, es with | [], [y0] => [y0, .tup []] | _, _ => []) ∧ Bd K fd ["counts", "masks"] 0 ["counts", "masks"] (fun ds es => match ds, es with | [], [y0, y1] => [y0, y1] | _, _ => []) := by
  obtain ⟨fd, F⟩ := cc.says.def_ 8 (d := d_n_look_at_counts) rfl
  have x_n_BadCount := ex_n_BadCount KX G cc
  have g_n_BadCount := He.glo_ok KX G (cc.says.fact 23 (f := .glo "BadCount") rfl)
  have i_n_ALL := He.int_ok KX G (cc.says.fact 24 (f := .int "ALL" 255) rfl)
  refine ⟨fd, fun base => fn_ok F sc_n_look_at_counts (fun cdv A outer s H E W hr tk po => ?_), F.kp, bd_kM F [("counts", He.Dv.v K (.adr (PySem.DozX.kwAt ("look_at_counts", none) "counts")))] [.tup []] [.m 0, .k 0] (by intro z; cases z) (by simp [He.DefD.kws, d_n_look_at_counts]) (fun _ _ => (.cons (dv_em (cc.ck 1 (p := PySem.DozX.emK ("look_at_counts", none) "counts") rfl) _ _) .nil)) (fun _ _ _ _ _ _ us mv ws h1 h2 h3 => match us, mv, ws, h1, h2, h3 with | [], [_], [_], _, _, _ => ⟨_, _, _, _, _, _, rfl, rfl, rfl⟩) (fun ds es h1 h2 => match ds, es, h1, h2 with | [], [_], _, _ => ⟨rfl, rfl⟩), bd_kM F [("masks", He.Dv.v K (.adr (PySem.DozX.kwAt ("look_at_counts", none) "masks")))] [.tup []] [.k 0, .m 0] (by intro z; cases z) (by simp [He.DefD.kws, d_n_look_at_counts]) (fun _ _ => (.cons (dv_em (cc.ck 2 (p := PySem.DozX.emK ("look_at_counts", none) "masks") rfl) _ _) .nil)) (fun _ _ _ _ _ _ us mv ws h1 h2 h3 => match us, mv, ws, h1, h2, h3 with | [], [_], [_], _, _, _ => ⟨_, _, _, _, _, _, rfl, rfl, rfl⟩) (fun ds es h1 h2 => match ds, es, h1, h2 with | [], [_], _, _ => ⟨rfl, rfl⟩), bd_kM F [] [] [.k 0, .k 1] (by intro z; cases z) (by simp [He.DefD.kws, d_n_look_at_counts]) (fun _ _ => .nil) (fun _ _ _ _ _ _ us mv ws h1 h2 h3 => match us, mv, ws, h1, h2, h3 with | [], [], [_, _], _, _, _ => rfl) (fun ds es h1 h2 => match ds, es, h1, h2 with | [], [_, _], _, _ => ⟨rfl, rfl⟩)⟩
  have hu := Hu.of (X := cxOf (L2.CX P w) P w K mg base N_n_look_at_counts "look_at_counts" (defScope s_n_look_at_counts) (He.fAd K ("look_at_counts", none)) cdv A outer s H E) hr
  have pw := pw_takes tk
  have nd := sc_n_look_at_counts.nd
  exact (rss_cons (rs_for po rfl (ri_seq (re_var 0)) (rg_name 2 nd) (rss_one (rs_if (rt_cmp op_lt cm_lt (re_var 2) re_int) (rss_one (rs_raise rfl x_n_BadCount g_n_BadCount hr tk (ra_cons (re_var 2) ra_nil))) rss_nil)))
    (rss_one (rs_for po rfl (ri_seq (re_var 1)) (rg_name 3 nd) (rss_one (rs_if (rt_not (rt_chain op_le cm_le op_le cm_le re_int (re_var 3) (re_globI i_n_ALL))) (rss_one (rs_raise rfl x_n_BadCount g_n_BadCount hr tk (ra_cons (re_var 3) ra_nil))) rss_nil)))))
abbrev N_n_Hall_is_over : List Str := ["self", "until"]
theorem sc_n_Hall_is_over : FnScope N_n_Hall_is_over ["self", "until"] (defScope s_n_Hall_is_over) := ⟨rfl, rfl, rfl, by decide +kernel, rfl, by decide +kernel, by decide +kernel⟩
theorem ok_n_Hall_is_over (KX : K.In h) (G : h.Ns mainGlobals mg) (cc : SaysX fa fn xs cs ts K) : ∃ fd, (∀ base : Heap, FnOk P w K mg base (L2.CX P w) 2 (He.fAd K ("Hall", some "is_over")) fd ["self", "until"] (spM K 2 (m_n_Hall_is_over (clOf K)))) ∧ PySem.W.keepIn K (.ref (He.fAd K ("Hall", some "is_over"))) = true ∧ Bd K fd ["self", "until"] 2 [] (fun ds _ => ds) := by
  obtain ⟨fd, F⟩ := cc.says.def_ 9 (d := d_n_Hall_is_over) rfl
  refine ⟨fd, fun base => fn_ok F sc_n_Hall_is_over (fun cdv A outer s H E W hr tk po => ?_), F.kp, bd_all rfl (F.bindsN fun _ _ _ _ _ _ us hl => match us, hl with | [_, _], _ => rfl)⟩
  have hu := Hu.of (X := cxOf (L2.CX P w) P w K mg base N_n_Hall_is_over "Hall.is_over" (defScope s_n_Hall_is_over) (He.fAd K ("Hall", some "is_over")) cdv A outer s H E) hr
  have pw := pw_takes tk
  have nd := sc_n_Hall_is_over.nd
  exact (rss_one (rs_ret (re_and (re_cmp op_notN cm_isNot (re_var 1) re_non) (re_one (re_cmp op_le cm_le (re_var 1) (re_fld (re_var 0)))))))
abbrev N_n_Beddd_initdd : List Str := ["self", "place", "turn", "since", "until", "mask"]
theorem sc_n_Beddd_initdd : FnScope N_n_Beddd_initdd ["self", "place", "turn", "since", "until", "mask"] (defScope s_n_Beddd_initdd) := ⟨rfl, rfl, rfl, by decide +kernel, rfl, by decide +kernel, by decide +kernel⟩
theorem ok_n_Beddd_initdd (KX : K.In h) (G : h.Ns mainGlobals mg) (cc : SaysX fa fn xs cs ts K) : ∃ fd, (∀ base : Heap, FnOk P w K mg base (L2.CX P w) 2 (He.fAd K ("Bed", some "__init__")) fd ["self", "place", "turn", "since", "until", "mask"] (spM K 6 (m_n_Beddd_initdd (clOf K)))) ∧ PySem.W.keepIn K (.ref (He.fAd K ("Bed", some "__init__"))) = true ∧ Bd K fd ["self", "place", "turn", "since", "until", "mask"] 2 ["turn", "since", "until", "mask"] (fun ds es => match ds, es with | [x0, x1], [y0, y1, y2, y3] => [x0, x1, y0, y1, y2, y3] | _, _ => []) := by
  obtain ⟨fd, F⟩ := cc.says.def_ 10 (d := d_n_Beddd_initdd) rfl
  have n_n_Bed_n_place := He.noat_ok (cc.says.fact 27 (f := .noat "Bed" "place") rfl)
  have n_n_Bed_n_turn := He.noat_ok (cc.says.fact 28 (f := .noat "Bed" "turn") rfl)
  have n_n_Bed_n_since := He.noat_ok (cc.says.fact 29 (f := .noat "Bed" "since") rfl)
  have n_n_Bed_n_until := He.noat_ok (cc.says.fact 30 (f := .noat "Bed" "until") rfl)
  have n_n_Bed_n_mask := He.noat_ok (cc.says.fact 31 (f := .noat "Bed" "mask") rfl)
  refine ⟨fd, fun base => fn_ok F sc_n_Beddd_initdd (fun cdv A outer s H E W hr tk po => ?_), F.kp, bd_kA F [.p 0, .p 1, .k 0, .k 1, .k 2, .k 3] (fun _ _ _ _ _ _ us ws h1 h2 => match us, ws, h1, h2 with | [_, _], [_, _, _, _], _, _ => rfl) (fun ds es h1 h2 => match ds, es, h1, h2 with | [_, _], [_, _, _, _], _, _ => ⟨rfl, rfl⟩)⟩
  have hu := Hu.of (X := cxOf (L2.CX P w) P w K mg base N_n_Beddd_initdd "Bed.__init__" (defScope s_n_Beddd_initdd) (He.fAd K ("Bed", some "__init__")) cdv A outer s H E) hr
  have pw := pw_takes tk
  have nd := sc_n_Beddd_initdd.nd
  exact (rss_cons (rs_asg (re_var 1) (rg_fld [(clOf K).n_Bed] (na_cons n_n_Bed_n_place na_nil) (re_var 0)))
    (rss_cons (rs_asg (re_var 2) (rg_fld [(clOf K).n_Bed] (na_cons n_n_Bed_n_turn na_nil) (re_var 0)))
    (rss_cons (rs_asg (re_var 3) (rg_fld [(clOf K).n_Bed] (na_cons n_n_Bed_n_since na_nil) (re_var 0)))
    (rss_cons (rs_asg (re_var 4) (rg_fld [(clOf K).n_Bed] (na_cons n_n_Bed_n_until na_nil) (re_var 0)))
    (rss_one (rs_asg (re_var 5) (rg_fld [(clOf K).n_Bed] (na_cons n_n_Bed_n_mask na_nil) (re_var 0))))))))
abbrev N_n_Hall_next_turn : List Str := ["self"]
theorem sc_n_Hall_next_turn : FnScope N_n_Hall_next_turn ["self"] (defScope s_n_Hall_next_turn) := ⟨rfl, rfl, rfl, by decide +kernel, rfl, by decide +kernel, by decide +kernel⟩
theorem ok_n_Hall_next_turn (KX : K.In h) (G : h.Ns mainGlobals mg) (cc : SaysX fa fn xs cs ts K) : ∃ fd, (∀ base : Heap, FnOk P w K mg base (L2.CX P w) 2 (He.fAd K ("Hall", some "next_turn")) fd ["self"] (spM K 1 (m_n_Hall_next_turn (clOf K)))) ∧ PySem.W.keepIn K (.ref (He.fAd K ("Hall", some "next_turn"))) = true ∧ Bd K fd ["self"] 1 [] (fun ds _ => ds) := by
  obtain ⟨fd, F⟩ := cc.says.def_ 11 (d := d_n_Hall_next_turn) rfl
  refine ⟨fd, fun base => fn_ok F sc_n_Hall_next_turn (fun cdv A outer s H E W hr tk po => ?_), F.kp, bd_all rfl (F.bindsN fun _ _ _ _ _ _ us hl => match us, hl with | [_], _ => rfl)⟩
  have hu := Hu.of (X := cxOf (L2.CX P w) P w K mg base N_n_Hall_next_turn "Hall.next_turn" (defScope s_n_Hall_next_turn) (He.fAd K ("Hall", some "next_turn")) cdv A outer s H E) hr
  have pw := pw_takes tk
  have nd := sc_n_Hall_next_turn.nd
  exact (rss_cons (rs_faug (g := (fun i j => i + j)) in_add (re_var 0) re_int)
    (rss_one (rs_ret (re_fld (re_var 0)))))
abbrev N_n_Hall_lie_down : List Str := ["self", "guest", "place", "until", "mask"]
theorem sc_n_Hall_lie_down : FnScope N_n_Hall_lie_down ["self", "guest", "place", "until", "mask"] (defScope s_n_Hall_lie_down) := ⟨rfl, rfl, rfl, by decide +kernel, rfl, by decide +kernel, by decide +kernel⟩
theorem ok_n_Hall_lie_down (KX : K.In h) (G : h.Ns mainGlobals mg) (cc : SaysX fa fn xs cs ts K) : ∃ fd, (∀ base : Heap, FnOk P w K mg base (L2.CX P w) 4 (He.fAd K ("Hall", some "lie_down")) fd ["self", "guest", "place", "until", "mask"] (spM K 5 (m_n_Hall_lie_down (clOf K)))) ∧ PySem.W.keepIn K (.ref (He.fAd K ("Hall", some "lie_down"))) = true ∧ Bd K fd ["self", "guest", "place", "until", "mask"] 3 ["until", "mask"] (fun ds es => match ds, es with | [x0, x1, x2], [y0, y1] => [x0, x1, x2, y0, y1] | _, _ => []) := by
  obtain ⟨fd, F⟩ := cc.says.def_ 12 (d := d_n_Hall_lie_down) rfl
  obtain ⟨fd_n_Beddd_initdd, F_n_Beddd_initdd, kp_n_Beddd_initdd, b_n_Beddd_initdd_0⟩ := ok_n_Beddd_initdd (P := P) (w := w) KX G cc
  obtain ⟨fd_n_Hall_next_turn, F_n_Hall_next_turn, kp_n_Hall_next_turn, b_n_Hall_next_turn_0⟩ := ok_n_Hall_next_turn (P := P) (w := w) KX G cc
  have c_n_Hall := He.cls_ok (cc.says.fact 17 (f := .cls "Hall") rfl)
  have m_n_Hall_n_next_turn := He.meth_ok (cc.says.fact 32 (f := .meth "Hall" "next_turn") rfl)
  have g_n_Bed := He.glo_ok KX G (cc.says.fact 33 (f := .glo "Bed") rfl)
  have k_n_Bed := He.mkr_ok (cc.says.fact 34 (f := .mkr "Bed") rfl)
  have c_n_Bed := He.cls_ok (cc.says.fact 35 (f := .cls "Bed") rfl)
  refine ⟨fd, fun base => fn_ok F sc_n_Hall_lie_down (fun cdv A outer s H E W hr tk po => ?_), F.kp, bd_kA F [.p 0, .p 1, .p 2, .k 0, .k 1] (fun _ _ _ _ _ _ us ws h1 h2 => match us, ws, h1, h2 with | [_, _, _], [_, _], _, _ => rfl) (fun ds es h1 h2 => match ds, es, h1, h2 with | [_, _, _], [_, _], _, _ => ⟨rfl, rfl⟩)⟩
  have hu := Hu.of (X := cxOf (L2.CX P w) P w K mg base N_n_Hall_lie_down "Hall.lie_down" (defScope s_n_Hall_lie_down) (He.fAd K ("Hall", some "lie_down")) cdv A outer s H E) hr
  have pw := pw_takes tk
  have nd := sc_n_Hall_lie_down.nd
  exact (rss_cons (rs_faug (g := (fun i j => i + j)) in_add (re_var 0) re_int)
    (rss_one (rs_asg (re_make (ks := ["turn", "since", "until", "mask"]) k_n_Bed c_n_Bed (F_n_Beddd_initdd base) (hr.mono (by decide : 2+1 ≤ 3)) g_n_Bed b_n_Beddd_initdd_0 pw (rc_kw (ra_cons (re_var 2) ra_nil) (rk_cons (re_meth (ks := []) (re_var 0) (mt_of (mt_cons (mok (m := m_n_Hall_next_turn (clOf K)) (gD := (fun ds _ => ds)) c_n_Hall m_n_Hall_n_next_turn (F_n_Hall_next_turn base) hr (by decide : 2 ≤ 3) b_n_Hall_next_turn_0) mt_nil)) pw rc_nil) (rk_cons (re_fld (re_var 0)) (rk_cons (re_var 3) (rk_cons (re_var 4) rk_nil)))))) (rg_sub hu (re_fld (re_var 0)) (re_var 1)))))
abbrev N_n_Hall_sleep : List Str := ["self", "guest", "room", "still", "until", "mask", "answer"]
theorem sc_n_Hall_sleep : FnScope N_n_Hall_sleep ["self", "guest", "room", "still", "until", "mask"] (defScope s_n_Hall_sleep) := ⟨rfl, rfl, rfl, by decide +kernel, rfl, by decide +kernel, by decide +kernel⟩
theorem ok_n_Hall_sleep (KX : K.In h) (G : h.Ns mainGlobals mg) (cc : SaysX fa fn xs cs ts K) : ∃ fd, (∀ base : Heap, FnOk P w K mg base (L2.CX P w) 5 (He.fAd K ("Hall", some "sleep")) fd ["self", "guest", "room", "still", "until", "mask"] (spM K 6 (m_n_Hall_sleep (clOf K)))) ∧ PySem.W.keepIn K (.ref (He.fAd K ("Hall", some "sleep"))) = true ∧ Bd K fd ["self", "guest", "room", "still", "until", "mask"] 4 [] (fun ds es => match ds, es with | [x0, x1, x2, x3], [] => [x0, x1, x2, x3, .non, .int 255] | _, _ => []) := by
  obtain ⟨fd, F⟩ := cc.says.def_ 13 (d := d_n_Hall_sleep) rfl
  obtain ⟨fd_n_Hall_look_for, F_n_Hall_look_for, kp_n_Hall_look_for, b_n_Hall_look_for_0⟩ := ok_n_Hall_look_for (P := P) (w := w) KX G cc
  obtain ⟨fd_n_Hall_look_awake, F_n_Hall_look_awake, kp_n_Hall_look_awake, b_n_Hall_look_awake_0⟩ := ok_n_Hall_look_awake (P := P) (w := w) KX G cc
  obtain ⟨fd_n_look_at_counts, F_n_look_at_counts, kp_n_look_at_counts, b_n_look_at_counts_0, b_n_look_at_counts_1, b_n_look_at_counts_2⟩ := ok_n_look_at_counts (P := P) (w := w) KX G cc
  obtain ⟨fd_n_Hall_is_over, F_n_Hall_is_over, kp_n_Hall_is_over, b_n_Hall_is_over_0⟩ := ok_n_Hall_is_over (P := P) (w := w) KX G cc
  obtain ⟨fd_n_Hall_lie_down, F_n_Hall_lie_down, kp_n_Hall_lie_down, b_n_Hall_lie_down_0⟩ := ok_n_Hall_lie_down (P := P) (w := w) KX G cc
  have c_n_Hall := He.cls_ok (cc.says.fact 17 (f := .cls "Hall") rfl)
  have m_n_Hall_n_look_for := He.meth_ok (cc.says.fact 20 (f := .meth "Hall" "look_for") rfl)
  have m_n_Hall_n_look_awake := He.meth_ok (cc.says.fact 22 (f := .meth "Hall" "look_awake") rfl)
  have g_n_look_at_counts := He.glo_ok KX G (cc.says.fact 25 (f := .glo "look_at_counts") rfl)
  have m_n_Hall_n_is_over := He.meth_ok (cc.says.fact 26 (f := .meth "Hall" "is_over") rfl)
  have m_n_Hall_n_lie_down := He.meth_ok (cc.says.fact 36 (f := .meth "Hall" "lie_down") rfl)
  refine ⟨fd, fun base => fn_ok F sc_n_Hall_sleep (fun cdv A outer s H E W hr tk po => ?_), F.kp, bd_kM F [("until", He.Dv.v K (.non)), ("mask", He.Dv.v K (.int 255))] [.non, .int 255] [.p 0, .p 1, .p 2, .p 3, .m 0, .m 1] (by intro z; cases z) (by simp [He.DefD.kws, d_n_Hall_sleep]) (fun _ _ => (.cons dv_non (.cons dv_int .nil))) (fun _ _ _ _ _ _ us mv ws h1 h2 h3 => match us, mv, ws, h1, h2, h3 with | [_, _, _, _], [_, _], [], _, _, _ => ⟨_, _, _, _, _, _, rfl, rfl, ⟨_, _, _, _, _, _, rfl, rfl, rfl⟩⟩) (fun ds es h1 h2 => match ds, es, h1, h2 with | [_, _, _, _], [], _, _ => ⟨rfl, rfl⟩)⟩
  have hu := Hu.of (X := cxOf (L2.CX P w) P w K mg base N_n_Hall_sleep "Hall.sleep" (defScope s_n_Hall_sleep) (He.fAd K ("Hall", some "sleep")) cdv A outer s H E) hr
  have pw := pw_takes tk
  have nd := sc_n_Hall_sleep.nd
  exact (rss_cons (rs_expr (re_meth (ks := []) (re_var 0) (mt_of (mt_cons (mok (m := m_n_Hall_look_for (clOf K)) (gD := (fun ds _ => ds)) c_n_Hall m_n_Hall_n_look_for (F_n_Hall_look_for base) hr (by decide : 2 ≤ 4) b_n_Hall_look_for_0) mt_nil)) pw (rc_pos (ra_cons (re_var 2) ra_nil))))
    (rss_cons (rs_expr (re_meth (ks := []) (re_var 0) (mt_of (mt_cons (mok (m := m_n_Hall_look_awake (clOf K)) (gD := (fun ds _ => ds)) c_n_Hall m_n_Hall_n_look_awake (F_n_Hall_look_awake base) hr (by decide : 2 ≤ 4) b_n_Hall_look_awake_0) mt_nil)) pw (rc_pos (ra_cons (re_var 1) ra_nil))))
    (rss_cons (rs_expr (re_call (ks := ["masks"]) (F_n_look_at_counts base) (hr.mono (by decide : 2 ≤ 4)) g_n_look_at_counts kp_n_look_at_counts b_n_look_at_counts_0 pw (rc_kw0 (rk_cons (re_tup (ra_cons (re_var 5) ra_nil)) rk_nil))))
    (rss_cons (rs_set 6 nd re_str)
    (rss_cons (rs_if (rt_cmp (op_neA hu) cm_neA (re_ix hu (re_fld (re_var 0)) (re_var 2)) (re_var 3)) (rss_one (rs_set 6 nd re_str)) (rss_one (rs_if (rt_val (re_meth (ks := []) (re_var 0) (mt_of (mt_cons (mok (m := m_n_Hall_is_over (clOf K)) (gD := (fun ds _ => ds)) c_n_Hall m_n_Hall_n_is_over (F_n_Hall_is_over base) hr (by decide : 2 ≤ 4) b_n_Hall_is_over_0) mt_nil)) pw (rc_pos (ra_cons (re_var 4) ra_nil)))) (rss_one (rs_set 6 nd re_str)) (rss_one (rs_expr (re_meth (ks := ["until", "mask"]) (re_var 0) (mt_of (mt_cons (mok (m := m_n_Hall_lie_down (clOf K)) (gD := (fun ds es => match ds, es with | [x0, x1, x2], [y0, y1] => [x0, x1, x2, y0, y1] | _, _ => [])) c_n_Hall m_n_Hall_n_lie_down (F_n_Hall_lie_down base) hr (by decide : 4 ≤ 4) b_n_Hall_lie_down_0) mt_nil)) pw (rc_kw (ra_cons (re_var 1) (ra_cons (re_var 2) ra_nil)) (rk_cons (re_var 4) (rk_cons (re_var 5) rk_nil)))))))))
    (rss_cons (rs_asg (re_var 6) (rg_sub hu (re_fld (re_var 0)) (re_var 1)))
    (rss_cons (rs_expr (re_bm PySem.F.plainAttrs_list PySem.F.slot_list_append PySem.F.type_list_append (mt_append) tyOk_L mf_append (re_fld (re_var 0)) (ra_cons (re_tup (ra_cons re_str (ra_cons (re_var 1) (ra_cons (re_var 2) (ra_cons (re_var 3) (ra_cons (re_var 4) (ra_cons (re_var 5) (ra_cons (re_var 6) ra_nil)))))))) ra_nil)))
    (rss_one (rs_ret (re_var 6))))))))))
abbrev N_n_Hall_asleep : List Str := ["self"]
theorem sc_n_Hall_asleep : FnScope N_n_Hall_asleep ["self"] (defScope s_n_Hall_asleep) := ⟨rfl, rfl, rfl, by decide +kernel, rfl, by decide +kernel, by decide +kernel⟩
theorem ok_n_Hall_asleep (KX : K.In h) (G : h.Ns mainGlobals mg) (cc : SaysX fa fn xs cs ts K) : ∃ fd, (∀ base : Heap, FnOk P w K mg base (L2.CX P w) 2 (He.fAd K ("Hall", some "asleep")) fd ["self"] (spM K 1 (m_n_Hall_asleep (clOf K)))) ∧ PySem.W.keepIn K (.ref (He.fAd K ("Hall", some "asleep"))) = true ∧ Bd K fd ["self"] 1 [] (fun ds _ => ds) := by
  obtain ⟨fd, F⟩ := cc.says.def_ 14 (d := d_n_Hall_asleep) rfl
  have f_n_sorted := He.free_ok KX G (cc.says.fact 40 (f := .free "sorted") rfl)
  refine ⟨fd, fun base => fn_ok F sc_n_Hall_asleep (fun cdv A outer s H E W hr tk po => ?_), F.kp, bd_all rfl (F.bindsN fun _ _ _ _ _ _ us hl => match us, hl with | [_], _ => rfl)⟩
  have hu := Hu.of (X := cxOf (L2.CX P w) P w K mg base N_n_Hall_asleep "Hall.asleep" (defScope s_n_Hall_asleep) (He.fAd K ("Hall", some "asleep")) cdv A outer s H E) hr
  have pw := pw_takes tk
  have nd := sc_n_Hall_asleep.nd
  exact (rss_one (rs_ret (re_lc (rn_callB (cr_sortU rfl hu) cn_sortU f_n_sorted PyProof.Rows.boot_sorted (ra_cons (re_fld (re_var 0)) ra_nil)))))
abbrev N_n_Hall_rise : List Str := ["self", "guest", "how"]
theorem sc_n_Hall_rise : FnScope N_n_Hall_rise ["self", "guest", "how"] (defScope s_n_Hall_rise) := ⟨rfl, rfl, rfl, by decide +kernel, rfl, by decide +kernel, by decide +kernel⟩
theorem ok_n_Hall_rise (KX : K.In h) (G : h.Ns mainGlobals mg) (cc : SaysX fa fn xs cs ts K) : ∃ fd, (∀ base : Heap, FnOk P w K mg base (L2.CX P w) 2 (He.fAd K ("Hall", some "rise")) fd ["self", "guest", "how"] (spM K 3 (m_n_Hall_rise (clOf K)))) ∧ PySem.W.keepIn K (.ref (He.fAd K ("Hall", some "rise"))) = true ∧ Bd K fd ["self", "guest", "how"] 3 [] (fun ds _ => ds) := by
  obtain ⟨fd, F⟩ := cc.says.def_ 15 (d := d_n_Hall_rise) rfl
  refine ⟨fd, fun base => fn_ok F sc_n_Hall_rise (fun cdv A outer s H E W hr tk po => ?_), F.kp, bd_all rfl (F.bindsN fun _ _ _ _ _ _ us hl => match us, hl with | [_, _, _], _ => rfl)⟩
  have hu := Hu.of (X := cxOf (L2.CX P w) P w K mg base N_n_Hall_rise "Hall.rise" (defScope s_n_Hall_rise) (He.fAd K ("Hall", some "rise")) cdv A outer s H E) hr
  have pw := pw_takes tk
  have nd := sc_n_Hall_rise.nd
  exact (rss_cons (rs_expr (re_pop1 (re_fld (re_var 0)) (re_var 1)))
    (rss_one (rs_asg (re_var 2) (rg_sub hu (re_fld (re_var 0)) (re_var 1)))))
abbrev N_n_Hall_nudge : List Str := ["self", "guest"]
theorem sc_n_Hall_nudge : FnScope N_n_Hall_nudge ["self", "guest"] (defScope s_n_Hall_nudge) := ⟨rfl, rfl, rfl, by decide +kernel, rfl, by decide +kernel, by decide +kernel⟩
theorem ok_n_Hall_nudge (KX : K.In h) (G : h.Ns mainGlobals mg) (cc : SaysX fa fn xs cs ts K) : ∃ fd, (∀ base : Heap, FnOk P w K mg base (L2.CX P w) 3 (He.fAd K ("Hall", some "nudge")) fd ["self", "guest"] (spM K 2 (m_n_Hall_nudge (clOf K)))) ∧ PySem.W.keepIn K (.ref (He.fAd K ("Hall", some "nudge"))) = true ∧ Bd K fd ["self", "guest"] 2 [] (fun ds _ => ds) := by
  obtain ⟨fd, F⟩ := cc.says.def_ 16 (d := d_n_Hall_nudge) rfl
  obtain ⟨fd_n_Hall_rise, F_n_Hall_rise, kp_n_Hall_rise, b_n_Hall_rise_0⟩ := ok_n_Hall_rise (P := P) (w := w) KX G cc
  have x_n_Awake := ex_n_Awake KX G cc
  have g_n_Awake := He.glo_ok KX G (cc.says.fact 42 (f := .glo "Awake") rfl)
  have c_n_Hall := He.cls_ok (cc.says.fact 17 (f := .cls "Hall") rfl)
  have m_n_Hall_n_rise := He.meth_ok (cc.says.fact 43 (f := .meth "Hall" "rise") rfl)
  refine ⟨fd, fun base => fn_ok F sc_n_Hall_nudge (fun cdv A outer s H E W hr tk po => ?_), F.kp, bd_all rfl (F.bindsN fun _ _ _ _ _ _ us hl => match us, hl with | [_, _], _ => rfl)⟩
  have hu := Hu.of (X := cxOf (L2.CX P w) P w K mg base N_n_Hall_nudge "Hall.nudge" (defScope s_n_Hall_nudge) (He.fAd K ("Hall", some "nudge")) cdv A outer s H E) hr
  have pw := pw_takes tk
  have nd := sc_n_Hall_nudge.nd
  exact (rss_cons (rs_if (rt_cmp (op_notInU hu) cm_notIn (re_var 1) (re_fld (re_var 0))) (rss_one (rs_raise rfl x_n_Awake g_n_Awake hr tk (ra_cons (re_var 1) ra_nil))) rss_nil)
    (rss_cons (rs_expr (re_meth (ks := []) (re_var 0) (mt_of (mt_cons (mok (m := m_n_Hall_rise (clOf K)) (gD := (fun ds _ => ds)) c_n_Hall m_n_Hall_n_rise (F_n_Hall_rise base) hr (by decide : 2 ≤ 2) b_n_Hall_rise_0) mt_nil)) pw (rc_pos (ra_cons (re_var 1) (ra_cons re_str ra_nil)))))
    (rss_one (rs_expr (re_bm PySem.F.plainAttrs_list PySem.F.slot_list_append PySem.F.type_list_append (mt_append) tyOk_L mf_append (re_fld (re_var 0)) (ra_cons (re_tup (ra_cons re_str (ra_cons (re_var 1) ra_nil))) ra_nil))))))
abbrev N_n_Hall_standing : List Str := ["self", "guest"]
theorem sc_n_Hall_standing : FnScope N_n_Hall_standing ["self", "guest"] (defScope s_n_Hall_standing) := ⟨rfl, rfl, rfl, by decide +kernel, rfl, by decide +kernel, by decide +kernel⟩
theorem ok_n_Hall_standing (KX : K.In h) (G : h.Ns mainGlobals mg) (cc : SaysX fa fn xs cs ts K) : ∃ fd, (∀ base : Heap, FnOk P w K mg base (L2.CX P w) 2 (He.fAd K ("Hall", some "standing")) fd ["self", "guest"] (spM K 2 (m_n_Hall_standing (clOf K)))) ∧ PySem.W.keepIn K (.ref (He.fAd K ("Hall", some "standing"))) = true ∧ Bd K fd ["self", "guest"] 2 [] (fun ds _ => ds) := by
  obtain ⟨fd, F⟩ := cc.says.def_ 17 (d := d_n_Hall_standing) rfl
  refine ⟨fd, fun base => fn_ok F sc_n_Hall_standing (fun cdv A outer s H E W hr tk po => ?_), F.kp, bd_all rfl (F.bindsN fun _ _ _ _ _ _ us hl => match us, hl with | [_, _], _ => rfl)⟩
  have hu := Hu.of (X := cxOf (L2.CX P w) P w K mg base N_n_Hall_standing "Hall.standing" (defScope s_n_Hall_standing) (He.fAd K ("Hall", some "standing")) cdv A outer s H E) hr
  have pw := pw_takes tk
  have nd := sc_n_Hall_standing.nd
  exact (rss_one (rs_ret (re_get2 hu (re_fld (re_var 0)) (re_var 1) re_int)))
abbrev N_n_Hall_order : List Str := ["self", "guest"]
theorem sc_n_Hall_order : FnScope N_n_Hall_order ["self", "guest"] (defScope s_n_Hall_order) := ⟨rfl, rfl, rfl, by decide +kernel, rfl, by decide +kernel, by decide +kernel⟩
theorem ok_n_Hall_order (KX : K.In h) (G : h.Ns mainGlobals mg) (cc : SaysX fa fn xs cs ts K) : ∃ fd, (∀ base : Heap, FnOk P w K mg base (L2.CX P w) 3 (He.fAd K ("Hall", some "order")) fd ["self", "guest"] (spM K 2 (m_n_Hall_order (clOf K)))) ∧ PySem.W.keepIn K (.ref (He.fAd K ("Hall", some "order"))) = true ∧ Bd K fd ["self", "guest"] 2 [] (fun ds _ => ds) := by
  obtain ⟨fd, F⟩ := cc.says.def_ 18 (d := d_n_Hall_order) rfl
  obtain ⟨fd_n_Hall_standing, F_n_Hall_standing, kp_n_Hall_standing, b_n_Hall_standing_0⟩ := ok_n_Hall_standing (P := P) (w := w) KX G cc
  have c_n_Hall := He.cls_ok (cc.says.fact 17 (f := .cls "Hall") rfl)
  have m_n_Hall_n_standing := He.meth_ok (cc.says.fact 45 (f := .meth "Hall" "standing") rfl)
  refine ⟨fd, fun base => fn_ok F sc_n_Hall_order (fun cdv A outer s H E W hr tk po => ?_), F.kp, bd_all rfl (F.bindsN fun _ _ _ _ _ _ us hl => match us, hl with | [_, _], _ => rfl)⟩
  have hu := Hu.of (X := cxOf (L2.CX P w) P w K mg base N_n_Hall_order "Hall.order" (defScope s_n_Hall_order) (He.fAd K ("Hall", some "order")) cdv A outer s H E) hr
  have pw := pw_takes tk
  have nd := sc_n_Hall_order.nd
  exact (rss_one (rs_ret (re_tup (ra_cons (re_sub re_int (re_meth (ks := []) (re_var 0) (mt_of (mt_cons (mok (m := m_n_Hall_standing (clOf K)) (gD := (fun ds _ => ds)) c_n_Hall m_n_Hall_n_standing (F_n_Hall_standing base) hr (by decide : 2 ≤ 2) b_n_Hall_standing_0) mt_nil)) pw (rc_pos (ra_cons (re_var 1) ra_nil)))) (ra_cons (re_fld (re_ix hu (re_fld (re_var 0)) (re_var 1))) ra_nil)))))
abbrev N_n_Hall_line_at : List Str := ["self", "place", "guest"]
theorem sc_n_Hall_line_at : FnScope N_n_Hall_line_at ["self", "place"] (defScope s_n_Hall_line_at) := ⟨rfl, rfl, rfl, by decide +kernel, rfl, by decide +kernel, by decide +kernel⟩
theorem ok_n_Hall_line_at (KX : K.In h) (G : h.Ns mainGlobals mg) (cc : SaysX fa fn xs cs ts K) : ∃ fd, (∀ base : Heap, FnOk P w K mg base (L2.CX P w) 6 (He.fAd K ("Hall", some "line_at")) fd ["self", "place"] (spM K 2 (m_n_Hall_line_at (clOf K)))) ∧ PySem.W.keepIn K (.ref (He.fAd K ("Hall", some "line_at"))) = true ∧ Bd K fd ["self", "place"] 2 [] (fun ds _ => ds) := by
  obtain ⟨fd, F⟩ := cc.says.def_ 19 (d := d_n_Hall_line_at) rfl
  obtain ⟨fd_n_Hall_order, F_n_Hall_order, kp_n_Hall_order, b_n_Hall_order_0⟩ := ok_n_Hall_order (P := P) (w := w) KX G cc
  have c_n_Hall := He.cls_ok (cc.says.fact 17 (f := .cls "Hall") rfl)
  have m_n_Hall_n_order := He.meth_ok (cc.says.fact 46 (f := .meth "Hall" "order") rfl)
  have f_n_sorted := He.free_ok KX G (cc.says.fact 40 (f := .free "sorted") rfl)
  refine ⟨fd, fun base => fn_ok F sc_n_Hall_line_at (fun cdv A outer s H E W hr tk po => ?_), F.kp, bd_all rfl (F.bindsN fun _ _ _ _ _ _ us hl => match us, hl with | [_, _], _ => rfl)⟩
  have hu := Hu.of (X := cxOf (L2.CX P w) P w K mg base N_n_Hall_line_at "Hall.line_at" (defScope s_n_Hall_line_at) (He.fAd K ("Hall", some "line_at")) cdv A outer s H E) hr
  have pw := pw_takes tk
  have nd := sc_n_Hall_line_at.nd
  exact (rss_one (rs_ret (re_lc (rn_sortK hu (fun C => List.lookup C [((clOf K).n_Hall, m_n_Hall_order (clOf K))]) (kt_of (kt_cons ⟨⟨3, _, _, _, c_n_Hall, PySem.DozX.bmK_ok (cc.ck 0 (p := PySem.DozX.bmK "Hall" "order") rfl) m_n_Hall_n_order, F_n_Hall_order base, hr.mono (by decide : 3+2 ≤ 5), b_n_Hall_order_0, (pu_run (t := t_n_Hall_order (clOf K)) (pu_ret (pu_tup (pu_cons (pu_op pu_sub (pu_C _) (pu_mth (pu_var 0) (pu_pos (pu_cons (pu_var 1) pu_nil)) (pt_of (pt_cons (fun x ds ez => (pu_run (t := t_n_Hall_standing (clOf K)) (pu_ret (pu_get2 (pu_fld (pu_var 0)) (pu_var 1) (pu_C _)))) _) pt_nil)))) (pu_cons (pu_fld (pu_op pu_ix (pu_fld (pu_var 0)) (pu_var 1))) pu_nil)))))⟩⟩ kt_nil)) f_n_sorted (re_fz (rn_lock (selOf (mfld ("beds" : Str) (mvar 0))) (rn_lc (own := [("guest", 2)]) rfl nd (ri_keys (re_fld (re_var 0))) (blkOk_by (N := N_n_Hall_line_at) (sc := defScope s_n_Hall_line_at) (by decide +kernel)) (rgc_name 2 nd) (fun _ _ _ _ _ => (rts_one (rt_cmp (op_eqA hu) cm_eqA (re_fld (re_ix hu (re_fld (re_var 0)) (re_var 2))) (re_var 1)))) (fun _ _ _ _ _ => (re_var 2))))) (re_var 0)))))
abbrev N_n_Hall_line : List Str := ["self", "room"]
theorem sc_n_Hall_line : FnScope N_n_Hall_line ["self", "room"] (defScope s_n_Hall_line) := ⟨rfl, rfl, rfl, by decide +kernel, rfl, by decide +kernel, by decide +kernel⟩
theorem ok_n_Hall_line (KX : K.In h) (G : h.Ns mainGlobals mg) (cc : SaysX fa fn xs cs ts K) : ∃ fd, (∀ base : Heap, FnOk P w K mg base (L2.CX P w) 7 (He.fAd K ("Hall", some "line")) fd ["self", "room"] (spM K 2 (m_n_Hall_line (clOf K)))) ∧ PySem.W.keepIn K (.ref (He.fAd K ("Hall", some "line"))) = true ∧ Bd K fd ["self", "room"] 2 [] (fun ds _ => ds) := by
  obtain ⟨fd, F⟩ := cc.says.def_ 20 (d := d_n_Hall_line) rfl
  obtain ⟨fd_n_Hall_look_for, F_n_Hall_look_for, kp_n_Hall_look_for, b_n_Hall_look_for_0⟩ := ok_n_Hall_look_for (P := P) (w := w) KX G cc
  obtain ⟨fd_n_Hall_line_at, F_n_Hall_line_at, kp_n_Hall_line_at, b_n_Hall_line_at_0⟩ := ok_n_Hall_line_at (P := P) (w := w) KX G cc
  have c_n_Hall := He.cls_ok (cc.says.fact 17 (f := .cls "Hall") rfl)
  have m_n_Hall_n_look_for := He.meth_ok (cc.says.fact 20 (f := .meth "Hall" "look_for") rfl)
  have m_n_Hall_n_line_at := He.meth_ok (cc.says.fact 47 (f := .meth "Hall" "line_at") rfl)
  refine ⟨fd, fun base => fn_ok F sc_n_Hall_line (fun cdv A outer s H E W hr tk po => ?_), F.kp, bd_all rfl (F.bindsN fun _ _ _ _ _ _ us hl => match us, hl with | [_, _], _ => rfl)⟩
  have hu := Hu.of (X := cxOf (L2.CX P w) P w K mg base N_n_Hall_line "Hall.line" (defScope s_n_Hall_line) (He.fAd K ("Hall", some "line")) cdv A outer s H E) hr
  have pw := pw_takes tk
  have nd := sc_n_Hall_line.nd
  exact (rss_cons (rs_expr (re_meth (ks := []) (re_var 0) (mt_of (mt_cons (mok (m := m_n_Hall_look_for (clOf K)) (gD := (fun ds _ => ds)) c_n_Hall m_n_Hall_n_look_for (F_n_Hall_look_for base) hr (by decide : 2 ≤ 6) b_n_Hall_look_for_0) mt_nil)) pw (rc_pos (ra_cons (re_var 1) ra_nil))))
    (rss_one (rs_ret (re_meth (ks := []) (re_var 0) (mt_of (mt_cons (mok (m := m_n_Hall_line_at (clOf K)) (gD := (fun ds _ => ds)) c_n_Hall m_n_Hall_n_line_at (F_n_Hall_line_at base) hr (by decide : 6 ≤ 6) b_n_Hall_line_at_0) mt_nil)) pw (rc_pos (ra_cons (re_var 1) ra_nil))))))
abbrev N_n_Hall_move : List Str := ["self", "room", "other", "still", "wakes", "moves", "told", "noted", "row", "guest"]
theorem sc_n_Hall_move : FnScope N_n_Hall_move ["self", "room", "other", "still", "wakes", "moves"] (defScope s_n_Hall_move) := ⟨rfl, rfl, rfl, by decide +kernel, rfl, by decide +kernel, by decide +kernel⟩
theorem ok_n_Hall_move (KX : K.In h) (G : h.Ns mainGlobals mg) (cc : SaysX fa fn xs cs ts K) : ∃ fd, (∀ base : Heap, FnOk P w K mg base (L2.CX P w) 8 (He.fAd K ("Hall", some "move")) fd ["self", "room", "other", "still", "wakes", "moves"] (spM K 6 (m_n_Hall_move (clOf K)))) ∧ PySem.W.keepIn K (.ref (He.fAd K ("Hall", some "move"))) = true ∧ Bd K fd ["self", "room", "other", "still", "wakes", "moves"] 3 ["wakes", "moves"] (fun ds es => match ds, es with | [x0, x1, x2], [y0, y1] => [x0, x1, x2, .non, y0, y1] | _, _ => []) := by
  obtain ⟨fd, F⟩ := cc.says.def_ 21 (d := d_n_Hall_move) rfl
  obtain ⟨fd_n_Hall_look_for, F_n_Hall_look_for, kp_n_Hall_look_for, b_n_Hall_look_for_0⟩ := ok_n_Hall_look_for (P := P) (w := w) KX G cc
  obtain ⟨fd_n_look_at_counts, F_n_look_at_counts, kp_n_look_at_counts, b_n_look_at_counts_0, b_n_look_at_counts_1, b_n_look_at_counts_2⟩ := ok_n_look_at_counts (P := P) (w := w) KX G cc
  obtain ⟨fd_n_Hall_line, F_n_Hall_line, kp_n_Hall_line, b_n_Hall_line_0⟩ := ok_n_Hall_line (P := P) (w := w) KX G cc
  obtain ⟨fd_n_Hall_rise, F_n_Hall_rise, kp_n_Hall_rise, b_n_Hall_rise_0⟩ := ok_n_Hall_rise (P := P) (w := w) KX G cc
  obtain ⟨fd_n_Hall_next_turn, F_n_Hall_next_turn, kp_n_Hall_next_turn, b_n_Hall_next_turn_0⟩ := ok_n_Hall_next_turn (P := P) (w := w) KX G cc
  have c_n_Hall := He.cls_ok (cc.says.fact 17 (f := .cls "Hall") rfl)
  have m_n_Hall_n_look_for := He.meth_ok (cc.says.fact 20 (f := .meth "Hall" "look_for") rfl)
  have x_n_SameRoom := ex_n_SameRoom KX G cc
  have g_n_SameRoom := He.glo_ok KX G (cc.says.fact 49 (f := .glo "SameRoom") rfl)
  have g_n_look_at_counts := He.glo_ok KX G (cc.says.fact 25 (f := .glo "look_at_counts") rfl)
  have m_n_Hall_n_line := He.meth_ok (cc.says.fact 48 (f := .meth "Hall" "line") rfl)
  have f_n_tuple := He.free_ok KX G (cc.says.fact 50 (f := .free "tuple") rfl)
  have m_n_Hall_n_rise := He.meth_ok (cc.says.fact 43 (f := .meth "Hall" "rise") rfl)
  have n_n_Bed_n_place := He.noat_ok (cc.says.fact 27 (f := .noat "Bed" "place") rfl)
  have m_n_Hall_n_next_turn := He.meth_ok (cc.says.fact 32 (f := .meth "Hall" "next_turn") rfl)
  have n_n_Bed_n_turn := He.noat_ok (cc.says.fact 28 (f := .noat "Bed" "turn") rfl)
  refine ⟨fd, fun base => fn_ok F sc_n_Hall_move (fun cdv A outer s H E W hr tk po => ?_), F.kp, bd_kM F [("still", He.Dv.v K (.non))] [.non] [.p 0, .p 1, .p 2, .m 0, .k 0, .k 1] (by intro z; cases z) (by simp [He.DefD.kws, d_n_Hall_move]) (fun _ _ => (.cons dv_non .nil)) (fun _ _ _ _ _ _ us mv ws h1 h2 h3 => match us, mv, ws, h1, h2, h3 with | [_, _, _], [_], [_, _], _, _, _ => ⟨_, _, _, _, _, _, rfl, rfl, rfl⟩) (fun ds es h1 h2 => match ds, es, h1, h2 with | [_, _, _], [_, _], _, _ => ⟨rfl, rfl⟩)⟩
  have hu := Hu.of (X := cxOf (L2.CX P w) P w K mg base N_n_Hall_move "Hall.move" (defScope s_n_Hall_move) (He.fAd K ("Hall", some "move")) cdv A outer s H E) hr
  have pw := pw_takes tk
  have nd := sc_n_Hall_move.nd
  exact (rss_cons (rs_expr (re_meth (ks := []) (re_var 0) (mt_of (mt_cons (mok (m := m_n_Hall_look_for (clOf K)) (gD := (fun ds _ => ds)) c_n_Hall m_n_Hall_n_look_for (F_n_Hall_look_for base) hr (by decide : 2 ≤ 7) b_n_Hall_look_for_0) mt_nil)) pw (rc_pos (ra_cons (re_var 1) ra_nil))))
    (rss_cons (rs_expr (re_meth (ks := []) (re_var 0) (mt_of (mt_cons (mok (m := m_n_Hall_look_for (clOf K)) (gD := (fun ds _ => ds)) c_n_Hall m_n_Hall_n_look_for (F_n_Hall_look_for base) hr (by decide : 2 ≤ 7) b_n_Hall_look_for_0) mt_nil)) pw (rc_pos (ra_cons (re_var 2) ra_nil))))
    (rss_cons (rs_if (rt_cmp (op_eqA hu) cm_eqA (re_var 1) (re_var 2)) (rss_one (rs_raise rfl x_n_SameRoom g_n_SameRoom hr tk (ra_cons (re_var 1) ra_nil))) rss_nil)
    (rss_cons (rs_expr (re_call (ks := ["counts"]) (F_n_look_at_counts base) (hr.mono (by decide : 2 ≤ 7)) g_n_look_at_counts kp_n_look_at_counts b_n_look_at_counts_1 pw (rc_kw0 (rk_cons (re_tup (ra_cons (re_var 4) (ra_cons (re_var 5) ra_nil))) rk_nil))))
    (rss_cons (rs_asg2 re_non (rg_name 6 nd) (rg_name 7 nd))
    (rss_cons (rs_if (RW.rt (rw_or (rt_cmp op_isN cm_is (re_var 3) re_non) (rw_or1 (rt_cmp (op_eqA hu) cm_eqA (re_ix hu (re_fld (re_var 0)) (re_var 1)) (re_var 3))))) (rss_cons (rs_set 8 nd (re_meth (ks := []) (re_var 0) (mt_of (mt_cons (mok (m := m_n_Hall_line (clOf K)) (gD := (fun ds _ => ds)) c_n_Hall m_n_Hall_n_line (F_n_Hall_line base) hr (by decide : 7 ≤ 7) b_n_Hall_line_0) mt_nil)) pw (rc_pos (ra_cons (re_var 1) ra_nil))))
    (rss_cons (rs_set 6 nd (re_tup (ra_cons (re_lc (rn_slice (re_var 8) ro_none (ro_some (re_var 4)))) (ra_cons (re_lc (rn_slice (re_var 8) (ro_some (re_var 4)) (ro_some (re_add (re_var 4) (re_var 5))))) ra_nil))))
    (rss_cons (rs_set 7 nd (re_tup (ra_cons (re_callT call_tuple_of cf_tuple f_n_tuple PyProof.Rows.boot_tuple (ra_cons (re_ix hu (re_var 6) re_int) ra_nil)) (ra_cons (re_callT call_tuple_of cf_tuple f_n_tuple PyProof.Rows.boot_tuple (ra_cons (re_ix hu (re_var 6) re_int) ra_nil)) ra_nil))))
    (rss_cons (rs_for po rfl (ri_seq (re_ix hu (re_var 7) re_int)) (rg_name 9 nd) (rss_one (rs_expr (re_meth (ks := []) (re_var 0) (mt_of (mt_cons (mok (m := m_n_Hall_rise (clOf K)) (gD := (fun ds _ => ds)) c_n_Hall m_n_Hall_n_rise (F_n_Hall_rise base) hr (by decide : 2 ≤ 7) b_n_Hall_rise_0) mt_nil)) pw (rc_pos (ra_cons (re_var 9) (ra_cons re_str ra_nil)))))))
    (rss_one (rs_for po rfl (ri_seq (re_ix hu (re_var 7) re_int)) (rg_name 9 nd) (rss_cons (rs_asg (re_var 2) (rg_fld [(clOf K).n_Bed] (na_cons n_n_Bed_n_place na_nil) (re_ix hu (re_fld (re_var 0)) (re_var 9))))
    (rss_one (rs_asg (re_meth (ks := []) (re_var 0) (mt_of (mt_cons (mok (m := m_n_Hall_next_turn (clOf K)) (gD := (fun ds _ => ds)) c_n_Hall m_n_Hall_n_next_turn (F_n_Hall_next_turn base) hr (by decide : 2 ≤ 7) b_n_Hall_next_turn_0) mt_nil)) pw rc_nil) (rg_fld [(clOf K).n_Bed] (na_cons n_n_Bed_n_turn na_nil) (re_ix hu (re_fld (re_var 0)) (re_var 9)))))))))))) rss_nil)
    (rss_cons (rs_expr (re_bm PySem.F.plainAttrs_list PySem.F.slot_list_append PySem.F.type_list_append (mt_append) tyOk_L mf_append (re_fld (re_var 0)) (ra_cons (re_tup (ra_cons re_str (ra_cons (re_var 1) (ra_cons (re_var 2) (ra_cons (re_var 3) (ra_cons (re_var 4) (ra_cons (re_var 5) (ra_cons (re_var 7) ra_nil)))))))) ra_nil)))
    (rss_one (rs_ret (re_var 6))))))))))
abbrev N_x__law_in_order : List Str := ["_law_behind", "_law_moved", "_law_there", "_law_orders", "_law_k", "_law_guest", "_law_other"]
theorem sc_x__law_in_order : FnScope N_x__law_in_order ["_law_behind", "_law_moved", "_law_there", "_law_orders"] (defScope s_x__law_in_order) := ⟨rfl, rfl, rfl, by decide +kernel, rfl, by decide +kernel, by decide +kernel⟩
theorem ok_x__law_in_order (KX : K.In h) (G : h.Ns mainGlobals mg) (cc : SaysX fa fn xs cs ts K) : ∃ fd, (∀ base : Heap, FnOk P w K mg base (L2.CX P w) 2 (He.fAd K ("_law_in_order", none)) fd ["_law_behind", "_law_moved", "_law_there", "_law_orders"] (spM K 4 (m_x__law_in_order (clOf K)))) ∧ PySem.W.keepIn K (.ref (He.fAd K ("_law_in_order", none))) = true ∧ Bd K fd ["_law_behind", "_law_moved", "_law_there", "_law_orders"] 4 [] (fun ds _ => ds) := by
  obtain ⟨fd, F⟩ := cc.says.def_ 22 (d := d_x__law_in_order) rfl
  have f_n_len := He.free_ok KX G (cc.says.fact 1 (f := .free "len") rfl)
  have f_n_enumerate := He.free_ok KX G (cc.says.fact 52 (f := .free "enumerate") rfl)
  refine ⟨fd, fun base => fn_ok F sc_x__law_in_order (fun cdv A outer s H E W hr tk po => ?_), F.kp, bd_all rfl (F.bindsN fun _ _ _ _ _ _ us hl => match us, hl with | [_, _, _, _], _ => rfl)⟩
  have hu := Hu.of (X := cxOf (L2.CX P w) P w K mg base N_x__law_in_order "_law_in_order" (defScope s_x__law_in_order) (He.fAd K ("_law_in_order", none)) cdv A outer s H E) hr
  have pw := pw_takes tk
  have nd := sc_x__law_in_order.nd
  exact (rss_cons (rs_if (RW.rt (rw_or (rt_cmp (op_neA hu) cm_neA (re_fz (rn_lc (own := [("_law_guest", 5)]) rfl nd (ri_seq (re_var 0)) (blkOk_by (N := N_x__law_in_order) (sc := defScope s_x__law_in_order) (by decide +kernel)) (rgc_name 5 nd) (fun _ _ _ _ _ => (rts_one (rt_cmp (op_inU hu) cm_in (re_var 5) (re_var 1)))) (fun _ _ _ _ _ => (re_var 5)))) (re_var 1)) (rw_or1 (rt_cmp (op_neA hu) cm_neA (re_fz (rn_lc (own := [("_law_guest", 5)]) rfl nd (ri_seq (re_var 0)) (blkOk_by (N := N_x__law_in_order) (sc := defScope s_x__law_in_order) (by decide +kernel)) (rgc_name 5 nd) (fun _ _ _ _ _ => (rts_one (rt_cmp (op_inU hu) cm_in (re_var 5) (re_var 2)))) (fun _ _ _ _ _ => (re_var 5)))) (re_var 2))))) (rss_one (rs_ret re_bl)) rss_nil)
    (rss_cons (rs_if (rt_cmp (op_neA hu) cm_neA (re_callB call_lenU cf_len f_n_len PySem.boot_len (ra_cons (re_var 0) ra_nil)) (re_add (re_callB call_lenU cf_len f_n_len PySem.boot_len (ra_cons (re_var 1) ra_nil)) (re_callB call_lenU cf_len f_n_len PySem.boot_len (ra_cons (re_var 2) ra_nil)))) (rss_one (rs_ret re_bl)) rss_nil)
    (rss_cons (rs_for po rfl (ri_enum f_n_enumerate (ra_cons (re_var 0) ra_nil)) (rg_tup rfl (rgs_cons (rg_name 4 nd) (rgs_cons (rg_name 5 nd) rgs_nil))) (rss_one (rs_for po rfl (ri_seq (re_slice (re_var 0) ro_none (ro_some (re_var 4)))) (rg_name 6 nd) (rss_cons (rs_if (rt_cmp op_lt cm_lt (re_ix hu (re_var 3) (re_var 6)) (re_ix hu (re_var 3) (re_var 5))) (rss_one (rs_ret re_bl)) rss_nil)
    (rss_one (rs_if (RW.rt (rw_and (rt_cmp (op_eqA hu) cm_eqA (re_ix hu (re_var 3) (re_var 6)) (re_ix hu (re_var 3) (re_var 5))) (rw_and (rt_cmp (op_inU hu) cm_in (re_var 6) (re_var 1)) (rw_and1 (rt_cmp (op_inU hu) cm_in (re_var 5) (re_var 2)))))) (rss_one (rs_ret re_bl)) rss_nil))))))
    (rss_one (rs_ret re_bl)))))
abbrev N_x__law_moved_well : List Str := ["_law_made", "_law_source_here", "_law_names_here", "_law_orders", "_law_at", "_law_to", "_law_there", "_law_many", "_law_told"]
theorem sc_x__law_moved_well : FnScope N_x__law_moved_well ["_law_made", "_law_source_here", "_law_names_here", "_law_orders"] (defScope s_x__law_moved_well) := ⟨rfl, rfl, rfl, by decide +kernel, rfl, by decide +kernel, by decide +kernel⟩
theorem ok_x__law_moved_well (KX : K.In h) (G : h.Ns mainGlobals mg) (cc : SaysX fa fn xs cs ts K) : ∃ fd, (∀ base : Heap, FnOk P w K mg base (L2.CX P w) 9 (He.fAd K ("_law_moved_well", none)) fd ["_law_made", "_law_source_here", "_law_names_here", "_law_orders"] (spM K 4 (m_x__law_moved_well (clOf K)))) ∧ PySem.W.keepIn K (.ref (He.fAd K ("_law_moved_well", none))) = true ∧ Bd K fd ["_law_made", "_law_source_here", "_law_names_here", "_law_orders"] 4 [] (fun ds _ => ds) := by
  obtain ⟨fd, F⟩ := cc.says.def_ 23 (d := d_x__law_moved_well) rfl
  obtain ⟨fd_x__law_draw, F_x__law_draw, kp_x__law_draw, b_x__law_draw_0⟩ := ok_x__law_draw (P := P) (w := w) KX G cc
  obtain ⟨fd_n_Hall_line, F_n_Hall_line, kp_n_Hall_line, b_n_Hall_line_0⟩ := ok_n_Hall_line (P := P) (w := w) KX G cc
  obtain ⟨fd_n_Hall_move, F_n_Hall_move, kp_n_Hall_move, b_n_Hall_move_0⟩ := ok_n_Hall_move (P := P) (w := w) KX G cc
  obtain ⟨fd_x__law_in_order, F_x__law_in_order, kp_x__law_in_order, b_x__law_in_order_0⟩ := ok_x__law_in_order (P := P) (w := w) KX G cc
  have f_n_len := He.free_ok KX G (cc.says.fact 1 (f := .free "len") rfl)
  have g_x__law_draw := He.glo_ok KX G (cc.says.fact 3 (f := .glo "_law_draw") rfl)
  have c_n_Hall := He.cls_ok (cc.says.fact 17 (f := .cls "Hall") rfl)
  have m_n_Hall_n_line := He.meth_ok (cc.says.fact 48 (f := .meth "Hall" "line") rfl)
  have m_n_Hall_n_move := He.meth_ok (cc.says.fact 51 (f := .meth "Hall" "move") rfl)
  have g_x__law_in_order := He.glo_ok KX G (cc.says.fact 53 (f := .glo "_law_in_order") rfl)
  refine ⟨fd, fun base => fn_ok F sc_x__law_moved_well (fun cdv A outer s H E W hr tk po => ?_), F.kp, bd_all rfl (F.bindsN fun _ _ _ _ _ _ us hl => match us, hl with | [_, _, _, _], _ => rfl)⟩
  have hu := Hu.of (X := cxOf (L2.CX P w) P w K mg base N_x__law_moved_well "_law_moved_well" (defScope s_x__law_moved_well) (He.fAd K ("_law_moved_well", none)) cdv A outer s H E) hr
  have pw := pw_takes tk
  have nd := sc_x__law_moved_well.nd
  exact (rss_cons (rs_set 4 nd (re_call (ks := []) (F_x__law_draw base) (hr.mono (by decide : 2 ≤ 8)) g_x__law_draw kp_x__law_draw b_x__law_draw_0 pw (rc_pos (ra_cons (re_var 1) (ra_cons (re_callB call_lenU cf_len f_n_len PySem.boot_len (ra_cons (re_var 2) ra_nil)) ra_nil)))))
    (rss_cons (rs_set 5 nd (re_mod (re_add (re_add (re_var 4) re_int) (re_call (ks := []) (F_x__law_draw base) (hr.mono (by decide : 2 ≤ 8)) g_x__law_draw kp_x__law_draw b_x__law_draw_0 pw (rc_pos (ra_cons (re_var 1) (ra_cons (re_sub (re_callB call_lenU cf_len f_n_len PySem.boot_len (ra_cons (re_var 2) ra_nil)) re_int) ra_nil))))) (re_callB call_lenU cf_len f_n_len PySem.boot_len (ra_cons (re_var 2) ra_nil))))
    (rss_cons (rs_set 6 nd (re_meth (ks := []) (re_var 0) (mt_of (mt_cons (mok (m := m_n_Hall_line (clOf K)) (gD := (fun ds _ => ds)) c_n_Hall m_n_Hall_n_line (F_n_Hall_line base) hr (by decide : 7 ≤ 8) b_n_Hall_line_0) mt_nil)) pw (rc_pos (ra_cons (re_ix hu (re_var 2) (re_var 5)) ra_nil))))
    (rss_cons (rs_set 7 nd (re_mul (re_call (ks := []) (F_x__law_draw base) (hr.mono (by decide : 2 ≤ 8)) g_x__law_draw kp_x__law_draw b_x__law_draw_0 pw (rc_pos (ra_cons (re_var 1) (ra_cons re_int ra_nil)))) (re_call (ks := []) (F_x__law_draw base) (hr.mono (by decide : 2 ≤ 8)) g_x__law_draw kp_x__law_draw b_x__law_draw_0 pw (rc_pos (ra_cons (re_var 1) (ra_cons re_int ra_nil))))))
    (rss_cons (rs_set 8 nd (re_meth (ks := ["wakes", "moves"]) (re_var 0) (mt_of (mt_cons (mok (m := m_n_Hall_move (clOf K)) (gD := (fun ds es => match ds, es with | [x0, x1, x2], [y0, y1] => [x0, x1, x2, .non, y0, y1] | _, _ => [])) c_n_Hall m_n_Hall_n_move (F_n_Hall_move base) hr (by decide : 8 ≤ 8) b_n_Hall_move_0) mt_nil)) pw (rc_kw (ra_cons (re_ix hu (re_var 2) (re_var 4)) (ra_cons (re_ix hu (re_var 2) (re_var 5)) ra_nil)) (rk_cons (re_var 7) (rk_cons (re_call (ks := []) (F_x__law_draw base) (hr.mono (by decide : 2 ≤ 8)) g_x__law_draw kp_x__law_draw b_x__law_draw_0 pw (rc_pos (ra_cons (re_var 1) (ra_cons re_int ra_nil)))) rk_nil)))))
    (rss_one (rs_ret (re_call (ks := []) (F_x__law_in_order base) (hr.mono (by decide : 2 ≤ 8)) g_x__law_in_order kp_x__law_in_order b_x__law_in_order_0 pw (rc_pos (ra_cons (re_meth (ks := []) (re_var 0) (mt_of (mt_cons (mok (m := m_n_Hall_line (clOf K)) (gD := (fun ds _ => ds)) c_n_Hall m_n_Hall_n_line (F_n_Hall_line base) hr (by decide : 7 ≤ 8) b_n_Hall_line_0) mt_nil)) pw (rc_pos (ra_cons (re_ix hu (re_var 2) (re_var 5)) ra_nil))) (ra_cons (re_ix hu (re_var 8) re_int) (ra_cons (re_var 6) (ra_cons (re_var 3) ra_nil)))))))))))))
abbrev N_n_Bed_meets : List Str := ["self", "mask"]
theorem sc_n_Bed_meets : FnScope N_n_Bed_meets ["self", "mask"] (defScope s_n_Bed_meets) := ⟨rfl, rfl, rfl, by decide +kernel, rfl, by decide +kernel, by decide +kernel⟩
theorem ok_n_Bed_meets (KX : K.In h) (G : h.Ns mainGlobals mg) (cc : SaysX fa fn xs cs ts K) : ∃ fd, (∀ base : Heap, FnOk P w K mg base (L2.CX P w) 2 (He.fAd K ("Bed", some "meets")) fd ["self", "mask"] (spM K 2 (m_n_Bed_meets (clOf K)))) ∧ PySem.W.keepIn K (.ref (He.fAd K ("Bed", some "meets"))) = true ∧ Bd K fd ["self", "mask"] 2 [] (fun ds _ => ds) := by
  obtain ⟨fd, F⟩ := cc.says.def_ 24 (d := d_n_Bed_meets) rfl
  refine ⟨fd, fun base => fn_ok F sc_n_Bed_meets (fun cdv A outer s H E W hr tk po => ?_), F.kp, bd_all rfl (F.bindsN fun _ _ _ _ _ _ us hl => match us, hl with | [_, _], _ => rfl)⟩
  have hu := Hu.of (X := cxOf (L2.CX P w) P w K mg base N_n_Bed_meets "Bed.meets" (defScope s_n_Bed_meets) (He.fAd K ("Bed", some "meets")) cdv A outer s H E) hr
  have pw := pw_takes tk
  have nd := sc_n_Bed_meets.nd
  exact (rss_one (rs_ret (re_cmp (op_neA hu) cm_neA (re_band (re_fld (re_var 0)) (re_var 1)) re_int)))
abbrev N_n_Hall_wake : List Str := ["self", "room", "most", "mask", "woken", "guest"]
theorem sc_n_Hall_wake : FnScope N_n_Hall_wake ["self", "room", "most", "mask"] (defScope s_n_Hall_wake) := ⟨rfl, rfl, rfl, by decide +kernel, rfl, by decide +kernel, by decide +kernel⟩
theorem ok_n_Hall_wake (KX : K.In h) (G : h.Ns mainGlobals mg) (cc : SaysX fa fn xs cs ts K) : ∃ fd, (∀ base : Heap, FnOk P w K mg base (L2.CX P w) 8 (He.fAd K ("Hall", some "wake")) fd ["self", "room", "most", "mask"] (spM K 4 (m_n_Hall_wake (clOf K)))) ∧ PySem.W.keepIn K (.ref (He.fAd K ("Hall", some "wake"))) = true ∧ Bd K fd ["self", "room", "most", "mask"] 2 [] (fun ds es => match ds, es with | [x0, x1], [] => [x0, x1, .int 1, .int 255] | _, _ => []) := by
  obtain ⟨fd, F⟩ := cc.says.def_ 25 (d := d_n_Hall_wake) rfl
  obtain ⟨fd_n_Hall_look_for, F_n_Hall_look_for, kp_n_Hall_look_for, b_n_Hall_look_for_0⟩ := ok_n_Hall_look_for (P := P) (w := w) KX G cc
  obtain ⟨fd_n_look_at_counts, F_n_look_at_counts, kp_n_look_at_counts, b_n_look_at_counts_0, b_n_look_at_counts_1, b_n_look_at_counts_2⟩ := ok_n_look_at_counts (P := P) (w := w) KX G cc
  obtain ⟨fd_n_Hall_line, F_n_Hall_line, kp_n_Hall_line, b_n_Hall_line_0⟩ := ok_n_Hall_line (P := P) (w := w) KX G cc
  obtain ⟨fd_n_Bed_meets, F_n_Bed_meets, kp_n_Bed_meets, b_n_Bed_meets_0⟩ := ok_n_Bed_meets (P := P) (w := w) KX G cc
  obtain ⟨fd_n_Hall_rise, F_n_Hall_rise, kp_n_Hall_rise, b_n_Hall_rise_0⟩ := ok_n_Hall_rise (P := P) (w := w) KX G cc
  have c_n_Hall := He.cls_ok (cc.says.fact 17 (f := .cls "Hall") rfl)
  have m_n_Hall_n_look_for := He.meth_ok (cc.says.fact 20 (f := .meth "Hall" "look_for") rfl)
  have g_n_look_at_counts := He.glo_ok KX G (cc.says.fact 25 (f := .glo "look_at_counts") rfl)
  have m_n_Hall_n_line := He.meth_ok (cc.says.fact 48 (f := .meth "Hall" "line") rfl)
  have c_n_Bed := He.cls_ok (cc.says.fact 35 (f := .cls "Bed") rfl)
  have m_n_Bed_n_meets := He.meth_ok (cc.says.fact 55 (f := .meth "Bed" "meets") rfl)
  have m_n_Hall_n_rise := He.meth_ok (cc.says.fact 43 (f := .meth "Hall" "rise") rfl)
  have f_n_tuple := He.free_ok KX G (cc.says.fact 50 (f := .free "tuple") rfl)
  refine ⟨fd, fun base => fn_ok F sc_n_Hall_wake (fun cdv A outer s H E W hr tk po => ?_), F.kp, bd_kM F [("most", He.Dv.v K (.int 1)), ("mask", He.Dv.v K (.int 255))] [.int 1, .int 255] [.p 0, .p 1, .m 0, .m 1] (by intro z; cases z) (by simp [He.DefD.kws, d_n_Hall_wake]) (fun _ _ => (.cons dv_int (.cons dv_int .nil))) (fun _ _ _ _ _ _ us mv ws h1 h2 h3 => match us, mv, ws, h1, h2, h3 with | [_, _], [_, _], [], _, _, _ => ⟨_, _, _, _, _, _, rfl, rfl, ⟨_, _, _, _, _, _, rfl, rfl, rfl⟩⟩) (fun ds es h1 h2 => match ds, es, h1, h2 with | [_, _], [], _, _ => ⟨rfl, rfl⟩)⟩
  have hu := Hu.of (X := cxOf (L2.CX P w) P w K mg base N_n_Hall_wake "Hall.wake" (defScope s_n_Hall_wake) (He.fAd K ("Hall", some "wake")) cdv A outer s H E) hr
  have pw := pw_takes tk
  have nd := sc_n_Hall_wake.nd
  exact (rss_cons (rs_expr (re_meth (ks := []) (re_var 0) (mt_of (mt_cons (mok (m := m_n_Hall_look_for (clOf K)) (gD := (fun ds _ => ds)) c_n_Hall m_n_Hall_n_look_for (F_n_Hall_look_for base) hr (by decide : 2 ≤ 7) b_n_Hall_look_for_0) mt_nil)) pw (rc_pos (ra_cons (re_var 1) ra_nil))))
    (rss_cons (rs_expr (re_call (ks := ["counts", "masks"]) (F_n_look_at_counts base) (hr.mono (by decide : 2 ≤ 7)) g_n_look_at_counts kp_n_look_at_counts b_n_look_at_counts_2 pw (rc_kw0 (rk_cons (re_tup (ra_cons (re_var 2) ra_nil)) (rk_cons (re_tup (ra_cons (re_var 3) ra_nil)) rk_nil)))))
    (rss_cons (rs_set 4 nd (re_lc (rn_slice (re_fz (rn_lc (own := [("guest", 5)]) rfl nd (ri_seq (re_meth (ks := []) (re_var 0) (mt_of (mt_cons (mok (m := m_n_Hall_line (clOf K)) (gD := (fun ds _ => ds)) c_n_Hall m_n_Hall_n_line (F_n_Hall_line base) hr (by decide : 7 ≤ 7) b_n_Hall_line_0) mt_nil)) pw (rc_pos (ra_cons (re_var 1) ra_nil)))) (blkOk_by (N := N_n_Hall_wake) (sc := defScope s_n_Hall_wake) (by decide +kernel)) (rgc_name 5 nd) (fun _ _ _ _ _ => (rts_one (rt_val (re_meth (ks := []) (re_ix hu (re_fld (re_var 0)) (re_var 5)) (mt_of (mt_cons (mok (m := m_n_Bed_meets (clOf K)) (gD := (fun ds _ => ds)) c_n_Bed m_n_Bed_n_meets (F_n_Bed_meets base) hr (by decide : 2 ≤ 7) b_n_Bed_meets_0) mt_nil)) pw_false (rc_pos (ra_cons (re_var 3) ra_nil)))))) (fun _ _ _ _ _ => (re_var 5)))) ro_none (ro_some (re_var 2)))))
    (rss_cons (rs_for po rfl (ri_seq (re_var 4)) (rg_name 5 nd) (rss_one (rs_expr (re_meth (ks := []) (re_var 0) (mt_of (mt_cons (mok (m := m_n_Hall_rise (clOf K)) (gD := (fun ds _ => ds)) c_n_Hall m_n_Hall_n_rise (F_n_Hall_rise base) hr (by decide : 2 ≤ 7) b_n_Hall_rise_0) mt_nil)) pw (rc_pos (ra_cons (re_var 5) (ra_cons re_str ra_nil)))))))
    (rss_cons (rs_expr (re_bm PySem.F.plainAttrs_list PySem.F.slot_list_append PySem.F.type_list_append (mt_append) tyOk_L mf_append (re_fld (re_var 0)) (ra_cons (re_tup (ra_cons re_str (ra_cons (re_var 1) (ra_cons (re_var 2) (ra_cons (re_var 3) (ra_cons (re_callT call_tuple_of cf_tuple f_n_tuple PyProof.Rows.boot_tuple (ra_cons (re_var 4) ra_nil)) ra_nil)))))) ra_nil)))
    (rss_one (rs_ret (re_var 4))))))))
abbrev N_n_law : List Str := ["_law_script", "_law_source_here", "_law_names_here", "_law_made", "_law_kinds", "_law_orders", "_law_k", "_law_name", "_law_line", "_law_told", "_law_guest", "_law_way", "_law_lying"]
theorem sc_n_law : FnScope N_n_law ["_law_script"] (defScope s_n_law) := ⟨rfl, rfl, rfl, by decide +kernel, rfl, by decide +kernel, by decide +kernel⟩
theorem ok_n_law (KX : K.In h) (G : h.Ns mainGlobals mg) (cc : SaysX fa fn xs cs ts K) : ∃ fd, (∀ base : Heap, FnOk P w K mg base (L2.CX P w) 10 (He.fAd K ("law", none)) fd ["_law_script"] (spM K 1 (m_n_law (clOf K)))) ∧ PySem.W.keepIn K (.ref (He.fAd K ("law", none))) = true ∧ ∀ (s : Shared) (v : Value), BindsTo s fd ⟨[v], []⟩ [("_law_script", v)] := by
  obtain ⟨fd, F⟩ := cc.says.def_ 26 (d := d_n_law) rfl
  obtain ⟨fd_x__law_source, F_x__law_source, kp_x__law_source, b_x__law_source_0⟩ := ok_x__law_source (P := P) (w := w) KX G cc
  obtain ⟨fd_x__law_names, F_x__law_names, kp_x__law_names, b_x__law_names_0⟩ := ok_x__law_names (P := P) (w := w) KX G cc
  obtain ⟨fd_x__law_draw, F_x__law_draw, kp_x__law_draw, b_x__law_draw_0⟩ := ok_x__law_draw (P := P) (w := w) KX G cc
  obtain ⟨fd_n_Halldd_initdd, F_n_Halldd_initdd, kp_n_Halldd_initdd, b_n_Halldd_initdd_0⟩ := ok_n_Halldd_initdd (P := P) (w := w) KX G cc
  obtain ⟨fd_n_Hall_rank, F_n_Hall_rank, kp_n_Hall_rank, b_n_Hall_rank_0⟩ := ok_n_Hall_rank (P := P) (w := w) KX G cc
  obtain ⟨fd_n_Hall_sleep, F_n_Hall_sleep, kp_n_Hall_sleep, b_n_Hall_sleep_0⟩ := ok_n_Hall_sleep (P := P) (w := w) KX G cc
  obtain ⟨fd_n_Hall_asleep, F_n_Hall_asleep, kp_n_Hall_asleep, b_n_Hall_asleep_0⟩ := ok_n_Hall_asleep (P := P) (w := w) KX G cc
  obtain ⟨fd_n_Hall_nudge, F_n_Hall_nudge, kp_n_Hall_nudge, b_n_Hall_nudge_0⟩ := ok_n_Hall_nudge (P := P) (w := w) KX G cc
  obtain ⟨fd_x__law_moved_well, F_x__law_moved_well, kp_x__law_moved_well, b_x__law_moved_well_0⟩ := ok_x__law_moved_well (P := P) (w := w) KX G cc
  obtain ⟨fd_n_Hall_line, F_n_Hall_line, kp_n_Hall_line, b_n_Hall_line_0⟩ := ok_n_Hall_line (P := P) (w := w) KX G cc
  obtain ⟨fd_n_Hall_wake, F_n_Hall_wake, kp_n_Hall_wake, b_n_Hall_wake_0⟩ := ok_n_Hall_wake (P := P) (w := w) KX G cc
  have g_x__law_source := He.glo_ok KX G (cc.says.fact 2 (f := .glo "_law_source") rfl)
  have g_x__law_draw := He.glo_ok KX G (cc.says.fact 3 (f := .glo "_law_draw") rfl)
  have g_x__law_names := He.glo_ok KX G (cc.says.fact 5 (f := .glo "_law_names") rfl)
  have f_n_dict := He.free_ok KX G (cc.says.fact 6 (f := .free "dict") rfl)
  have g_n_Hall := He.glo_ok KX G (cc.says.fact 15 (f := .glo "Hall") rfl)
  have k_n_Hall := He.mkr_ok (cc.says.fact 16 (f := .mkr "Hall") rfl)
  have c_n_Hall := He.cls_ok (cc.says.fact 17 (f := .cls "Hall") rfl)
  have f_n_range := He.free_ok KX G (cc.says.fact 4 (f := .free "range") rfl)
  have m_n_Hall_n_rank := He.meth_ok (cc.says.fact 18 (f := .meth "Hall" "rank") rfl)
  have f_n_len := He.free_ok KX G (cc.says.fact 1 (f := .free "len") rfl)
  have m_n_Hall_n_sleep := He.meth_ok (cc.says.fact 37 (f := .meth "Hall" "sleep") rfl)
  have f_n_min := He.free_ok KX G (cc.says.fact 38 (f := .free "min") rfl)
  have f_n_max := He.free_ok KX G (cc.says.fact 39 (f := .free "max") rfl)
  have m_n_Hall_n_asleep := He.meth_ok (cc.says.fact 41 (f := .meth "Hall" "asleep") rfl)
  have m_n_Hall_n_nudge := He.meth_ok (cc.says.fact 44 (f := .meth "Hall" "nudge") rfl)
  have g_x__law_moved_well := He.glo_ok KX G (cc.says.fact 54 (f := .glo "_law_moved_well") rfl)
  have m_n_Hall_n_line := He.meth_ok (cc.says.fact 48 (f := .meth "Hall" "line") rfl)
  have m_n_Hall_n_wake := He.meth_ok (cc.says.fact 56 (f := .meth "Hall" "wake") rfl)
  refine ⟨fd, fun base => fn_ok F sc_n_law (fun cdv A outer s H E W hr tk po => ?_), F.kp, fun s v => FunD.bindsA (ps := ["_law_script"]) F (fun _ _ _ _ _ _ us hl => match us, hl with | [_], _ => rfl) s [v] rfl⟩
  have hu := Hu.of (X := cxOf (L2.CX P w) P w K mg base N_n_law "law" (defScope s_n_law) (He.fAd K ("law", none)) cdv A outer s H E) hr
  have pw := pw_takes tk
  have nd := sc_n_law.nd
  exact (rss_cons (rs_set 1 nd (re_call (ks := []) (F_x__law_source base) (hr.mono (by decide : 2 ≤ 9)) g_x__law_source kp_x__law_source b_x__law_source_0 pw (rc_pos (ra_cons (re_var 0) (ra_cons re_int ra_nil)))))
    (rss_cons (rs_set 2 nd (re_call (ks := []) (F_x__law_names base) (hr.mono (by decide : 3 ≤ 9)) g_x__law_names kp_x__law_names b_x__law_names_0 pw (rc_pos (ra_cons (re_var 1) (ra_cons (re_add re_int (re_call (ks := []) (F_x__law_draw base) (hr.mono (by decide : 2 ≤ 9)) g_x__law_draw kp_x__law_draw b_x__law_draw_0 pw (rc_pos (ra_cons (re_var 1) (ra_cons re_int ra_nil))))) ra_nil)))))
    (rss_cons (rs_set 3 nd (re_make (ks := []) k_n_Hall c_n_Hall (F_n_Halldd_initdd base) (hr.mono (by decide : 2+1 ≤ 9)) g_n_Hall b_n_Halldd_initdd_0 pw (rc_pos (ra_cons (re_callT (call_dictP rfl) cf_dictP f_n_dict PyProof.Rows.boot_dict (ra_cons (re_fz (rn_lc (own := [("_law_name", 7)]) rfl nd (ri_seq (re_var 2)) (blkOk_by (N := N_n_law) (sc := defScope s_n_law) (by decide +kernel)) (rgc_name 7 nd) (fun _ _ _ _ _ => rts_nil) (fun _ _ _ _ _ => (re_tup (ra_cons (re_var 7) (ra_cons re_int ra_nil)))))) ra_nil)) ra_nil))))
    (rss_cons (rs_set 4 nd (re_add re_int (re_call (ks := []) (F_x__law_draw base) (hr.mono (by decide : 2 ≤ 9)) g_x__law_draw kp_x__law_draw b_x__law_draw_0 pw (rc_pos (ra_cons (re_var 1) (ra_cons re_int ra_nil))))))
    (rss_cons (rs_set 5 nd re_dnew)
    (rss_cons (rs_for po rfl (ri_range1 f_n_range (ra_cons (re_call (ks := []) (F_x__law_draw base) (hr.mono (by decide : 2 ≤ 9)) g_x__law_draw kp_x__law_draw b_x__law_draw_0 pw (rc_pos (ra_cons (re_var 1) (ra_cons re_int ra_nil)))) ra_nil)) (rg_name 6 nd) (rss_cons (rs_set 10 nd (re_add re_int (re_mod (re_mul re_int (re_var 6)) re_int)))
    (rss_cons (rs_asg (re_sub (re_call (ks := []) (F_x__law_draw base) (hr.mono (by decide : 2 ≤ 9)) g_x__law_draw kp_x__law_draw b_x__law_draw_0 pw (rc_pos (ra_cons (re_var 1) (ra_cons (re_var 4) ra_nil)))) re_int) (rg_sub hu (re_var 5) (re_var 10)))
    (rss_cons (rs_expr (re_meth (ks := []) (re_var 3) (mt_of (mt_cons (mok (m := m_n_Hall_rank (clOf K)) (gD := (fun ds _ => ds)) c_n_Hall m_n_Hall_n_rank (F_n_Hall_rank base) hr (by decide : 2 ≤ 9) b_n_Hall_rank_0) mt_nil)) pw (rc_pos (ra_cons (re_var 10) (ra_cons (re_ix hu (re_var 5) (re_var 10)) ra_nil)))))
    (rss_one (rs_expr (re_meth (ks := []) (re_var 3) (mt_of (mt_cons (mok (m := m_n_Hall_sleep (clOf K)) (gD := (fun ds es => match ds, es with | [x0, x1, x2, x3], [] => [x0, x1, x2, x3, .non, .int 255] | _, _ => [])) c_n_Hall m_n_Hall_n_sleep (F_n_Hall_sleep base) hr (by decide : 5 ≤ 9) b_n_Hall_sleep_0) mt_nil)) pw (rc_pos (ra_cons (re_var 10) (ra_cons (re_ix hu (re_var 2) (re_mul (re_call (ks := []) (F_x__law_draw base) (hr.mono (by decide : 2 ≤ 9)) g_x__law_draw kp_x__law_draw b_x__law_draw_0 pw (rc_pos (ra_cons (re_var 1) (ra_cons (re_callB call_lenU cf_len f_n_len PySem.boot_len (ra_cons (re_var 2) ra_nil)) ra_nil)))) (re_call (ks := []) (F_x__law_draw base) (hr.mono (by decide : 2 ≤ 9)) g_x__law_draw kp_x__law_draw b_x__law_draw_0 pw (rc_pos (ra_cons (re_var 1) (ra_cons re_int ra_nil)))))) (ra_cons re_int ra_nil)))))))))))
    (rss_cons (rs_for po rfl (ri_range2 f_n_range (ra_cons re_int (ra_cons (re_callB (call_max2 rfl) cf_max f_n_max PyProof.Rows.boot_max (ra_cons re_int (ra_cons (re_callB (call_min2 rfl) cf_min f_n_min PyProof.Rows.boot_min (ra_cons (re_callB call_lenU cf_len f_n_len PySem.boot_len (ra_cons (re_var 0) ra_nil)) (ra_cons re_int ra_nil))) ra_nil))) ra_nil))) (rg_name 6 nd) (rss_cons (rs_set 1 nd (re_call (ks := []) (F_x__law_source base) (hr.mono (by decide : 2 ≤ 9)) g_x__law_source kp_x__law_source b_x__law_source_0 pw (rc_pos (ra_cons (re_var 0) (ra_cons (re_var 6) ra_nil)))))
    (rss_cons (rs_set 11 nd (re_call (ks := []) (F_x__law_draw base) (hr.mono (by decide : 2 ≤ 9)) g_x__law_draw kp_x__law_draw b_x__law_draw_0 pw (rc_pos (ra_cons (re_var 1) (ra_cons re_int ra_nil)))))
    (rss_cons (rs_set 12 nd (re_meth (ks := []) (re_var 3) (mt_of (mt_cons (mok (m := m_n_Hall_asleep (clOf K)) (gD := (fun ds _ => ds)) c_n_Hall m_n_Hall_n_asleep (F_n_Hall_asleep base) hr (by decide : 2 ≤ 9) b_n_Hall_asleep_0) mt_nil)) pw rc_nil))
    (rss_cons (rs_if (rt_cmp (op_eqA hu) cm_eqA (re_var 11) re_int) (rss_cons (rs_asg (re_sub (re_call (ks := []) (F_x__law_draw base) (hr.mono (by decide : 2 ≤ 9)) g_x__law_draw kp_x__law_draw b_x__law_draw_0 pw (rc_pos (ra_cons (re_var 1) (ra_cons (re_var 4) ra_nil)))) re_int) (rg_sub hu (re_var 5) (re_add re_int (re_var 6))))
    (rss_cons (rs_expr (re_meth (ks := []) (re_var 3) (mt_of (mt_cons (mok (m := m_n_Hall_rank (clOf K)) (gD := (fun ds _ => ds)) c_n_Hall m_n_Hall_n_rank (F_n_Hall_rank base) hr (by decide : 2 ≤ 9) b_n_Hall_rank_0) mt_nil)) pw (rc_pos (ra_cons (re_add re_int (re_var 6)) (ra_cons (re_ix hu (re_var 5) (re_add re_int (re_var 6))) ra_nil)))))
    (rss_one (rs_expr (re_meth (ks := []) (re_var 3) (mt_of (mt_cons (mok (m := m_n_Hall_sleep (clOf K)) (gD := (fun ds es => match ds, es with | [x0, x1, x2, x3], [] => [x0, x1, x2, x3, .non, .int 255] | _, _ => [])) c_n_Hall m_n_Hall_n_sleep (F_n_Hall_sleep base) hr (by decide : 5 ≤ 9) b_n_Hall_sleep_0) mt_nil)) pw (rc_pos (ra_cons (re_add re_int (re_var 6)) (ra_cons (re_ix hu (re_var 2) (re_call (ks := []) (F_x__law_draw base) (hr.mono (by decide : 2 ≤ 9)) g_x__law_draw kp_x__law_draw b_x__law_draw_0 pw (rc_pos (ra_cons (re_var 1) (ra_cons (re_callB call_lenU cf_len f_n_len PySem.boot_len (ra_cons (re_var 2) ra_nil)) ra_nil))))) (ra_cons re_int ra_nil))))))))) rss_nil)
    (rss_cons (rs_if (RW.rt (rw_and (rt_cmp (op_eqA hu) cm_eqA (re_var 11) re_int) (rw_and1 (rt_cmp (op_neA hu) cm_neA (re_var 12) (re_fz (rn_lst ra_nil)))))) (rss_one (rs_expr (re_meth (ks := []) (re_var 3) (mt_of (mt_cons (mok (m := m_n_Hall_nudge (clOf K)) (gD := (fun ds _ => ds)) c_n_Hall m_n_Hall_n_nudge (F_n_Hall_nudge base) hr (by decide : 3 ≤ 9) b_n_Hall_nudge_0) mt_nil)) pw (rc_pos (ra_cons (re_ix hu (re_var 12) (re_call (ks := []) (F_x__law_draw base) (hr.mono (by decide : 2 ≤ 9)) g_x__law_draw kp_x__law_draw b_x__law_draw_0 pw (rc_pos (ra_cons (re_var 1) (ra_cons (re_callB call_lenU cf_len f_n_len PySem.boot_len (ra_cons (re_var 12) ra_nil)) ra_nil))))) ra_nil))))) rss_nil)
    (rss_one (rs_if (rt_not (rt_val (re_call (ks := []) (F_x__law_moved_well base) (hr.mono (by decide : 9 ≤ 9)) g_x__law_moved_well kp_x__law_moved_well b_x__law_moved_well_0 pw (rc_pos (ra_cons (re_var 3) (ra_cons (re_var 1) (ra_cons (re_var 2) (ra_cons (re_var 5) ra_nil)))))))) (rss_one (rs_ret re_bl)) rss_nil))))))))
    (rss_cons (rs_set 7 nd (re_ix hu (re_var 2) (re_call (ks := []) (F_x__law_draw base) (hr.mono (by decide : 2 ≤ 9)) g_x__law_draw kp_x__law_draw b_x__law_draw_0 pw (rc_pos (ra_cons (re_var 1) (ra_cons (re_callB call_lenU cf_len f_n_len PySem.boot_len (ra_cons (re_var 2) ra_nil)) ra_nil))))))
    (rss_cons (rs_set 8 nd (re_meth (ks := []) (re_var 3) (mt_of (mt_cons (mok (m := m_n_Hall_line (clOf K)) (gD := (fun ds _ => ds)) c_n_Hall m_n_Hall_n_line (F_n_Hall_line base) hr (by decide : 7 ≤ 9) b_n_Hall_line_0) mt_nil)) pw (rc_pos (ra_cons (re_var 7) ra_nil))))
    (rss_cons (rs_set 9 nd (re_fz (rn_lst ra_nil)))
    (rss_cons (rs_for po rfl (ri_range1 f_n_range (ra_cons (re_callB call_lenU cf_len f_n_len PySem.boot_len (ra_cons (re_var 8) ra_nil)) ra_nil)) (rg_name 6 nd) (rss_one (rs_set 9 nd (re_add (re_var 9) (re_meth (ks := []) (re_var 3) (mt_of (mt_cons (mok (m := m_n_Hall_wake (clOf K)) (gD := (fun ds es => match ds, es with | [x0, x1], [] => [x0, x1, .int 1, .int 255] | _, _ => [])) c_n_Hall m_n_Hall_n_wake (F_n_Hall_wake base) hr (by decide : 8 ≤ 9) b_n_Hall_wake_0) mt_nil)) pw (rc_pos (ra_cons (re_var 7) ra_nil)))))))
    (rss_one (rs_ret (re_and (re_cmp (op_eqA hu) cm_eqA (re_var 9) (re_var 8)) (re_and (re_cmp (op_eqA hu) cm_eqA (re_meth (ks := []) (re_var 3) (mt_of (mt_cons (mok (m := m_n_Hall_line (clOf K)) (gD := (fun ds _ => ds)) c_n_Hall m_n_Hall_n_line (F_n_Hall_line base) hr (by decide : 7 ≤ 9) b_n_Hall_line_0) mt_nil)) pw (rc_pos (ra_cons (re_var 7) ra_nil))) (re_fz (rn_lst ra_nil))) (re_one (re_cmp (op_eqA hu) cm_eqA (re_meth (ks := []) (re_var 3) (mt_of (mt_cons (mok (m := m_n_Hall_wake (clOf K)) (gD := (fun ds es => match ds, es with | [x0, x1], [] => [x0, x1, .int 1, .int 255] | _, _ => [])) c_n_Hall m_n_Hall_n_wake (F_n_Hall_wake base) hr (by decide : 8 ≤ 9) b_n_Hall_wake_0) mt_nil)) pw (rc_pos (ra_cons (re_var 7) ra_nil))) (re_fz (rn_lst ra_nil)))))))))))))))))))
end
end K16
end
section
namespace K16
open PySem L2 Doz
open PySem.DozX (ExTxt SaysX exB_ok hookX obsXG obsXG_eq)
abbrev R : PySem.W.OpenRow := PySem.W.OpenLaw.row PySem.Challenge.rw_dozehall_k16_whole_moved_keep_order
abbrev hk : PySem.W.Hook := hookX 6 fa fn xs cs ts
def ob (s : PySem.W.SharedT) : He.AlD := obsXG 6 fa fn xs cs ts (HandSHeadRun.getT s)
theorem ob_eq (s : PySem.W.SharedT) : ob s = hk.obs s.abs := obsXG_eq (HandSHeadRun.getT_eq s)
def loose : List Str := [("_wall" : Str), ("Bed" : Str), ("DozeError" : Str), ("NoRoom" : Str), ("Asleep" : Str), ("Awake" : Str), ("BadCount" : Str), ("SameRoom" : Str), ("ALL" : Str), ("EVERY" : Str), ("look_at_counts" : Str), ("Hall" : Str), ("_law_source" : Str), ("_law_draw" : Str), ("_law_names" : Str), ("_law_in_order" : Str), ("_law_moved_well" : Str)]
theorem run (w : World) : HandSHeadRun.RunEq R (PySem.W.view R.prog [21]) hk ob 40000 loose w := by
  intro os
  kernel_rfl
def Good (K : PySem.W.Frag) : Prop := (cs.map (He.ga K)).Nodup
theorem facts {P : Program} {w : World} {K : PySem.W.Frag} {h : Heap} {mg : Str → Option Value} {f : Addr} (KX : K.In h) (G : h.Ns mainGlobals mg) (hfa : mg ("law" : Str) = some (.ref f)) (cc : SaysX fa fn xs cs ts K) :
    ∃ fd : FuncData, (∀ (s : Shared) (v : Value), BindsTo s fd ⟨[v], []⟩ [("_law_script", v)]) ∧ ∀ base : Heap, K.In base → base.Ns mainGlobals mg → FnOk P w K mg base (L2.CX P w) 10 f fd ["_law_script"] (spM K 1 (m_n_law (clOf K))) := by
  have e := hfa.symm.trans (He.glo_ok KX G (cc.says.fact 0 (f := .glo "law") rfl))
  cases e
  obtain ⟨fd, F, _, b⟩ := ok_n_law (P := P) (w := w) KX G cc
  exact ⟨fd, b, fun base _ _ => F base⟩
end K16
open PySem PySem.W PySem.Calls PyProof.Rows
theorem K16.holds (law : ∀ (K : PySem.W.Frag), K16.Good K → ∀ (ns : List Int), ns.length ≤ 63 → ∃ μ, K16.m_n_law (Doz.clOf K) [.lst (ns.map Doz.D.int)] { cells := [] } = .ok (.bl true) μ) : PySem.Challenge.rw_dozehall_k16_whole_moved_keep_order.Holds := by
  w_on; o_law
  refine HandSHeadRun.head_any (r := OpenLaw.row PySem.Challenge.rw_dozehall_k16_whole_moved_keep_order) (q := view (OpenLaw.row PySem.Challenge.rw_dozehall_k16_whole_moved_keep_order).prog [21]) (H := K16.hk) (ob := K16.ob) (M := 40000) (loose := K16.loose) (d := HandSHeadRun.topDef (OpenLaw.row PySem.Challenge.rw_dozehall_k16_whole_moved_keep_order).prog 21) (kwd := []) K16.ob_eq
    (by kernel_rfl) (fun s => by kernel_rfl) K16.run (by kernel_rfl) (by kernel_rfl) (by kernel_rfl) (by rfl) (by first | assumption | decide +kernel) (by decide +kernel) ⟨rfl, rfl, rfl, rfl, rfl, by decide +kernel⟩ ?hw ?hc
  case hw => w_witness2
  case hc =>
    refine Doz.walk_ofP (l := PySem.Challenge.rw_dozehall_k16_whole_moved_keep_order) (n := 63) (k := 10) (x := "_law_script") (m := fun K => K16.m_n_law (Doz.clOf K)) (Gd := K16.Good) rfl (by decide) (by kernel_rfl) ⟨rfl, by decide, by decide⟩ ?F law
    intro w mg fa h Y G hmg0
    obtain ⟨K, KX, c⟩ := Y
    have hmg : mg ("law" : PySem.Str) = some (.ref fa) := by
      have e : (HandSHeadRun.topDef (OpenLaw.row PySem.Challenge.rw_dozehall_k16_whole_moved_keep_order).prog 21).name = ("law" : PySem.Str) := by kernel_rfl
      rw [← e]
      exact hmg0
    obtain ⟨fd, hb, hF⟩ := K16.facts (P := (PySem.Challenge.rw_dozehall_k16_whole_moved_keep_order).prog) (w := w) KX G hmg c
    exact ⟨K, fd, KX, c.unlike, hb, hF⟩
end
section
namespace Doz
open PySem
abbrev EP := Addr → D → Mem → Prop
def noE : EP := fun _ _ _ => False
def wR {α : Type} (r : Res α) (Q : α → Mem → Prop) (E : EP) : Prop := match r with
  | .ok a μ => Q a μ
  | .err C w μ => E C w μ
  | .bad => False
def wE {α : Type} (m : MX α) (δ : DEnv) (μ : Mem) (Q : α → Mem → Prop) (E : EP) : Prop := wR (m δ μ) Q E
structure Po where
  nx : DEnv → Mem → Prop
  rt : D → Mem → Prop
  bk : DEnv → Mem → Prop
  ct : DEnv → Mem → Prop
  er : Addr → D → DEnv → Mem → Prop
def wP (r : SRes) (P : Po) : Prop := match r with
  | .nx δ μ => P.nx δ μ
  | .rt d μ => P.rt d μ
  | .bk δ μ => P.bk δ μ
  | .ct δ μ => P.ct δ μ
  | .err C w δ μ => P.er C w δ μ
  | .bad => False
def wS (m : MS) (δ : DEnv) (μ : Mem) (P : Po) : Prop := wP (m δ μ) P
def wG (g : MG) (d : D) (δ : DEnv) (μ : Mem) (Q : DEnv → Mem → Prop) (E : EP) : Prop := wR (g d δ μ) Q E
def wGs (g : MGs) (ds : List D) (δ : DEnv) (μ : Mem) (Q : DEnv → Mem → Prop) : Prop := wR (g ds δ μ) Q noE
def wC (μ : Mem) (n : Nat) (Q : Cell → Prop) : Prop := match μ.cells[n]? with
  | some c => Q c
  | none => False
theorem wR.imp {α : Type} {r : Res α} {Q Q' : α → Mem → Prop} {E : EP} (h : wR r Q E) (k : ∀ a μ, Q a μ → Q' a μ) : wR r Q' E := by
  cases r with
  | ok a μ => exact k a μ h
  | err C w μ => exact h
  | bad => exact h
theorem wR.imp2 {α : Type} {r : Res α} {Q Q' : α → Mem → Prop} {E E' : EP} (h : wR r Q E) (k : ∀ a μ, Q a μ → Q' a μ) (e : ∀ C w μ, E C w μ → E' C w μ) : wR r Q' E' := by
  cases r with
  | ok a μ => exact k a μ h
  | err C w μ => exact e C w μ h
  | bad => exact h
theorem wR.go {α : Type} {r : Res α} {Q Q' : α → Mem → Prop} {E : EP} (h : wR r Q noE) (k : ∀ a μ, Q a μ → Q' a μ) : wR r Q' E := h.imp2 k fun _ _ _ z => z.elim
theorem wR.of {α : Type} {r : Res α} {Q : α → Mem → Prop} (h : wR r Q noE) : ∃ a μ, r = .ok a μ ∧ Q a μ := by
  cases r with
  | ok a μ => exact ⟨a, μ, rfl, h⟩
  | err C w μ => exact h.elim
  | bad => exact h.elim
theorem wP.imp {r : SRes} {P P' : Po} (h : wP r P) (k1 : ∀ δ μ, P.nx δ μ → P'.nx δ μ) (k2 : ∀ d μ, P.rt d μ → P'.rt d μ) (k3 : ∀ δ μ, P.bk δ μ → P'.bk δ μ) (k4 : ∀ δ μ, P.ct δ μ → P'.ct δ μ) (k5 : ∀ C w δ μ, P.er C w δ μ → P'.er C w δ μ) : wP r P' := by
  cases r with
  | nx δ μ => exact k1 δ μ h
  | rt d μ => exact k2 d μ h
  | bk δ μ => exact k3 δ μ h
  | ct δ μ => exact k4 δ μ h
  | err C w δ μ => exact k5 C w δ μ h
  | bad => exact h
theorem wC_of {μ : Mem} {n : Nat} {c : Cell} (h : μ.cells[n]? = some c) (Q : Cell → Prop) : wC μ n Q = Q c := by unfold wC; rw [h]
section
variable {α β : Type} {m : MX α} {δ : DEnv} {μ : Mem} {E : EP}
theorem wR_ok (a : α) (μ : Mem) (Q : α → Mem → Prop) (E : EP) : wR (.ok a μ) Q E = Q a μ := rfl
theorem wR_err (C : Addr) (w : D) (μ : Mem) (Q : α → Mem → Prop) (E : EP) : wR (.err C w μ) Q E = E C w μ := rfl
theorem wR_bad (Q : α → Mem → Prop) (E : EP) : wR .bad Q E = False := rfl
theorem wR_bind (r : Res α) (k : α → Mem → Res β) (Q : β → Mem → Prop) (E : EP) : wR (r.bind k) Q E = wR r (fun a μ => wR (k a μ) Q E) E := by cases r <;> rfl
theorem wE_bind (m : MX α) (k : α → MX β) (δ : DEnv) (μ : Mem) (Q : β → Mem → Prop) (E : EP) : wE (bindM m k) δ μ Q E = wE m δ μ (fun a μ1 => wE (k a) δ μ1 Q E) E := by
  show wR ((m δ μ).bind _) Q E = _
  rw [wR_bind]; rfl
theorem wR_ite (p : Prop) [Decidable p] (r : Res α) (Q : α → Mem → Prop) (E : EP) : wR (if p then r else .bad) Q E = (p ∧ wR r Q E) := by
  by_cases h : p
  · rw [if_pos h]; simp [h]
  · rw [if_neg h]; simp [h, wR]
theorem wP_ite (p : Prop) [Decidable p] (r : SRes) (P : Po) : wP (if p then r else .bad) P = (p ∧ wP r P) := by
  by_cases h : p
  · rw [if_pos h]; simp [h]
  · rw [if_neg h]; simp [h, wP]
theorem wE_fun (f : DEnv → Mem → Res α) (δ : DEnv) (μ : Mem) (Q : α → Mem → Prop) (E : EP) : wE (fun δ μ => f δ μ) δ μ Q E = wR (f δ μ) Q E := rfl
end
section
variable (δ : DEnv) (μ : Mem) (E : EP)
theorem wE_var0 (d : D) (r : DEnv) (Q : D → Mem → Prop) : wE (mvar 0) (some d :: r) μ Q E = Q d μ := rfl
theorem wE_varS (n : Nat) (x : Option D) (r : DEnv) (Q : D → Mem → Prop) : wE (mvar (n + 1)) (x :: r) μ Q E = wE (mvar n) r μ Q E := rfl
theorem wE_C (d : D) (Q : D → Mem → Prop) : wE (mC d) δ μ Q E = Q d μ := rfl
theorem wE_op (f : D → D → Mem → Res D) (a b : ME) (Q : D → Mem → Prop) : wE (mop f a b) δ μ Q E = wE a δ μ (fun x μ1 => wE b δ μ1 (fun y μ2 => wR (f x y μ2) Q E) E) E := by
  unfold mop; rw [wE_bind]; congr; funext x μ1; rw [wE_bind]; rfl
theorem wE_cmp (f : D → D → Mem → Res Bool) (a b : ME) (Q : Bool → Mem → Prop) : wE (mcmp f a b) δ μ Q E = wE a δ μ (fun x μ1 => wE b δ μ1 (fun y μ2 => wR (f x y μ2) Q E) E) E := by
  unfold mcmp; rw [wE_bind]; congr; funext x μ1; rw [wE_bind]; rfl
theorem wE_bl (m : MX Bool) (Q : D → Mem → Prop) : wE (mbl m) δ μ Q E = wE m δ μ (fun b μ1 => Q (.bl b) μ1) E := by unfold mbl; rw [wE_bind]; rfl
def qB (d : D) (Q : Bool → Prop) : Prop := match d with
  | .bl b => Q b
  | _ => False
theorem qB_bl (b : Bool) (Q : Bool → Prop) : qB (.bl b) Q = Q b := rfl
theorem wE_asB (m : ME) (Q : Bool → Mem → Prop) : wE (masB m) δ μ Q E = wE m δ μ (fun d μ1 => qB d fun b => Q b μ1) E := by
  unfold masB; rw [wE_bind]; congr; funext d μ1; cases d <;> rfl
theorem wE_and (a b : MX Bool) (Q : Bool → Mem → Prop) : wE (mand a b) δ μ Q E = wE a δ μ (fun x μ1 => if x = true then wE b δ μ1 Q E else Q false μ1) E := by
  unfold mand; rw [wE_bind]; congr; funext x μ1; cases x <;> rfl
theorem wE_or (a b : MX Bool) (Q : Bool → Mem → Prop) : wE (mor a b) δ μ Q E = wE a δ μ (fun x μ1 => if x = true then Q true μ1 else wE b δ μ1 Q E) E := by
  unfold mor; rw [wE_bind]; congr; funext x μ1; cases x <;> rfl
theorem wE_not (a : MX Bool) (Q : Bool → Mem → Prop) : wE (mnot a) δ μ Q E = wE a δ μ (fun x μ1 => Q (!x) μ1) E := by unfold mnot; rw [wE_bind]; rfl
theorem wE_andV (a b : ME) (Q : D → Mem → Prop) : wE (mandV a b) δ μ Q E = wE a δ μ (fun x μ1 => qB x fun x => if x = true then wE b δ μ1 Q E else Q (.bl false) μ1) E := by
  unfold mandV; rw [wE_bind]; congr; funext x μ1
  cases x with
  | bl x => cases x <;> rfl
  | _ => rfl
theorem wE_orV (a b : ME) (Q : D → Mem → Prop) : wE (morV a b) δ μ Q E = wE a δ μ (fun x μ1 => qB x fun x => if x = true then Q (.bl true) μ1 else wE b δ μ1 Q E) E := by
  unfold morV; rw [wE_bind]; congr; funext x μ1
  cases x with
  | bl x => cases x <;> rfl
  | _ => rfl
theorem wE_notV (a : ME) (Q : D → Mem → Prop) : wE (mnotV a) δ μ Q E = wE a δ μ (fun x μ1 => qB x fun x => Q (.bl (!x)) μ1) E := by
  unfold mnotV; rw [wE_bind]; congr; funext x μ1
  cases x with
  | bl x => cases x <;> rfl
  | _ => rfl
theorem wE_if (t : MX Bool) (a b : ME) (Q : D → Mem → Prop) : wE (mif t a b) δ μ Q E = wE t δ μ (fun x μ1 => if x = true then wE a δ μ1 Q E else wE b δ μ1 Q E) E := by
  unfold mif; rw [wE_bind]; congr; funext x μ1; cases x <;> rfl
theorem wE_nil (Q : List D → Mem → Prop) : wE mnil δ μ Q E = Q [] μ := rfl
theorem wE_cons (a : ME) (r : MX (List D)) (Q : List D → Mem → Prop) : wE (mcons a r) δ μ Q E = wE a δ μ (fun x μ1 => wE r δ μ1 (fun xs μ2 => Q (x :: xs) μ2) E) E := by
  unfold mcons; rw [wE_bind]; congr; funext x μ1; rw [wE_bind]; rfl
theorem wE_fz (m : MX (List D)) (Q : D → Mem → Prop) : wE (mfz m) δ μ Q E = wE m δ μ (fun ds μ1 => Q (.lst ds) μ1) E := by unfold mfz; rw [wE_bind]; rfl
theorem wE_lc (m : MX (List D)) (Q : D → Mem → Prop) : wE (mlc m) δ μ Q E = wE m δ μ (fun ds μ1 => Q (.loc μ1.cells.length) (μ1.push (.lst ds))) E := by unfold mlc; rw [wE_bind]; rfl
theorem wE_tup (m : MX (List D)) (Q : D → Mem → Prop) : wE (mtup m) δ μ Q E = wE m δ μ (fun ds μ1 => ds.length ≤ sizeLine ∧ Q (.tup ds) μ1) E := by
  unfold mtup; rw [wE_bind]; congr; funext ds μ1; exact wR_ite _ _ _ _
theorem wE_lst (m : MX (List D)) (Q : List D → Mem → Prop) : wE (mlst m) δ μ Q E = wE m δ μ (fun ds μ1 => ds.length ≤ sizeLine ∧ Q ds μ1) E := by
  unfold mlst; rw [wE_bind]; congr; funext ds μ1; exact wR_ite _ _ _ _
theorem wE_call {α : Type} (f : List D → Mem → Res α) (m : MX (List D)) (Q : α → Mem → Prop) : wE (mcall f m) δ μ Q E = wE m δ μ (fun ds μ1 => wR (f ds μ1) Q E) E := by unfold mcall; rw [wE_bind]; rfl
theorem wE_nopart (Q : Option Int → Mem → Prop) : wE mnopart δ μ Q E = Q none μ := rfl
def qI (d : D) (Q : Int → Prop) : Prop := match d with
  | .int i => Q i
  | _ => False
theorem qI_int (i : Int) (Q : Int → Prop) : qI (.int i) Q = Q i := rfl
theorem wE_part (m : ME) (Q : Option Int → Mem → Prop) : wE (mpart m) δ μ Q E = wE m δ μ (fun d μ1 => qI d fun i => Q (some i) μ1) E := by
  unfold mpart; rw [wE_bind]; congr; funext d μ1; cases d <;> rfl
theorem wE_slice (f : D → Option Int → Option Int → Mem → Res D) (a : ME) (l u : MX (Option Int)) (Q : D → Mem → Prop) : wE (mslice f a l u) δ μ Q E = wE a δ μ (fun x μ1 => wE l δ μ1 (fun lo μ2 => wE u δ μ2 (fun hi μ3 => wR (f x lo hi μ3) Q E) E) E) E := by
  unfold mslice; rw [wE_bind]; congr; funext x μ1; rw [wE_bind]; congr; funext lo μ2; rw [wE_bind]; rfl
theorem wE_fld (f : Str) (m : ME) (Q : D → Mem → Prop) : wE (mfld f m) δ μ Q E = wE m δ μ (fun d μ1 => wR (fFld f d μ1) Q E) E := by unfold mfld; rw [wE_bind]; rfl
theorem wE_dnew (Q : D → Mem → Prop) : wE mdnew δ μ Q E = Q (.loc μ.cells.length) (μ.push (.dK [])) := rfl
theorem wE_iter (m : ME) (Q : Its0 → Mem → Prop) : wE (miter m) δ μ Q E = wE m δ μ (fun d μ1 => wR (fIter d μ1) Q E) E := by unfold miter; rw [wE_bind]; rfl
theorem wE_rev (m : ME) (Q : Its0 → Mem → Prop) : wE (mrev m) δ μ Q E = wE m δ μ (fun d μ1 => wR (fRev d μ1) Q E) E := by unfold mrev; rw [wE_bind]; rfl
theorem wE_pos (m : MX (List D)) (Q : List D × List D → Mem → Prop) : wE (mpos m) δ μ Q E = wE m δ μ (fun ds μ1 => Q (ds, []) μ1) E := by unfold mpos; rw [wE_bind]; rfl
theorem wE_kws (m : MX (List D)) (Q : List D × List D → Mem → Prop) : wE (mkws m) δ μ Q E = wE m δ μ (fun ds μ1 => Q ([], ds) μ1) E := by unfold mkws; rw [wE_bind]; rfl
theorem wE_noa (Q : List D × List D → Mem → Prop) : wE mnoa δ μ Q E = Q ([], []) μ := rfl
theorem wE_both (m k : MX (List D)) (Q : List D × List D → Mem → Prop) : wE (mboth m k) δ μ Q E = wE m δ μ (fun ds μ1 => wE k δ μ1 (fun es μ2 => Q (ds, es) μ2) E) E := by
  unfold mboth; rw [wE_bind]; congr; funext x μ1; rw [wE_bind]; rfl
theorem wE_fn (n l : Nat) (gD : List D → List D → List D) (m : MF) (ma : MX (List D × List D)) (Q : D → Mem → Prop) : wE (mfn n l gD m ma) δ μ Q E = wE ma δ μ (fun a μ1 => (a.1.length = n ∧ a.2.length = l) ∧ wR (m (gD a.1 a.2) μ1) Q E) E := by
  unfold mfn; rw [wE_bind]; congr; funext a μ1; exact wR_ite _ _ _ _
def qMc (c : Cell) (nm : Str) (T : Addr → Option MM) (K : MM → Prop) : Prop := match c with
  | .ins C fs => noFld fs nm = true ∧ (match T C with | some mm => K mm | none => False)
  | _ => False
def qM (d : D) (μ : Mem) (nm : Str) (T : Addr → Option MM) (K : MM → Prop) : Prop := match d with
  | .loc n => wC μ n fun c => qMc c nm T K
  | _ => False
theorem qM_loc (n : Nat) (μ : Mem) (nm : Str) (T : Addr → Option MM) (K : MM → Prop) : qM (.loc n) μ nm T K = wC μ n fun c => qMc c nm T K := rfl
theorem wE_mth (nm : Str) (n l : Nat) (T : Addr → Option MM) (mo : ME) (ma : MX (List D × List D)) (Q : D → Mem → Prop) : wE (mmth nm n l T mo ma) δ μ Q E = wE mo δ μ (fun d μ1 => qM d μ1 nm T fun mm => wE ma δ μ1 (fun a μ2 => (a.1.length = n ∧ a.2.length = l) ∧ wR (mm d a.1 a.2 μ2) Q E) E) E := by
  unfold mmth; rw [wE_bind]; congr; funext d μ1
  show wR (match insOf μ1 d with | some (C, fs) => _ | none => _) Q E = _
  cases d with
  | loc k =>
    unfold insOf qM wC
    dsimp only
    cases μ1.cells[k]? with
    | none => rfl
    | some cc =>
      cases cc with
      | ins C fs =>
        show wR (if _ then _ else _) Q E = (_ ∧ _)
        rw [wR_ite]
        congr 1
        cases T C with
        | none => rfl
        | some mm =>
          dsimp only
          rw [wR_bind]
          show wR _ _ _ = wR _ _ _
          congr; funext a μ2; exact wR_ite _ _ _ _
      | _ => rfl
  | _ => rfl
def qN (d : D) (Q : Prop) : Prop := match d with
  | .non => Q
  | _ => False
theorem qN_non (Q : Prop) : qN .non Q = Q := rfl
theorem wE_mk (C : Addr) (n l : Nat) (gD : List D → List D → List D) (m : MF) (ma : MX (List D × List D)) (Q : D → Mem → Prop) : wE (mmk C n l gD m ma) δ μ Q E = wE ma δ μ (fun a μ1 => (a.1.length = n ∧ a.2.length = l) ∧ wR (m (gD (.loc μ1.cells.length :: a.1) a.2) (μ1.push (.ins C []))) (fun d μ2 => qN d (Q (.loc μ1.cells.length) μ2)) E) E := by
  unfold mmk; rw [wE_bind]; congr; funext a μ1; show wR (if _ then _ else _) _ _ = _
  split
  · rename_i h
    rw [wR_bind]
    simp only [h, and_self, true_and]
    congr; funext d μ2; cases d <;> rfl
  · rename_i h; simp [wR, h]
theorem wE_meth {α : Type} (ty : D → Mem → Bool) (f : D → List D → Mem → Res α) (mo : ME) (ma : MX (List D)) (Q : α → Mem → Prop) : wE (mmeth ty f mo ma) δ μ Q E = wE mo δ μ (fun d μ1 => ty d μ1 = true ∧ wE ma δ μ1 (fun ds μ2 => wR (f d ds μ2) Q E) E) E := by
  unfold mmeth; rw [wE_bind]; congr; funext d μ1; show wR (if _ then _ else _) _ _ = _
  split
  · rename_i h; simp only [h, true_and, wR_bind]; rfl
  · rename_i h; simp [wR, h]
theorem wE_neg (a : ME) (Q : D → Mem → Prop) : wE (mneg a) δ μ Q E = wE a δ μ (fun x μ1 => qI x fun i => Q (.int (-i)) μ1) E := by
  unfold mneg; rw [wE_bind]; congr; funext d μ1; cases d <;> rfl
theorem wE_chain (c c' : D → D → Mem → Res Bool) (a b z : ME) (Q : Bool → Mem → Prop) : wE (mchain c c' a b z) δ μ Q E = wE a δ μ (fun x μ1 => wE b δ μ1 (fun y μ2 => wR (c x y μ2) (fun k μ3 => if k = true then wE z δ μ3 (fun w μ4 => wR (c' y w μ4) Q E) E else Q false μ3) E) E) E := by
  unfold mchain; rw [wE_bind]; congr; funext x μ1; rw [wE_bind]; congr; funext y μ2
  show wR (Res.bind _ _) _ _ = _
  rw [wR_bind]; congr; funext k μ3
  cases k with
  | true => show wR (Res.bind _ _) _ _ = _; rw [wR_bind]; rfl
  | false => rfl
end
section
variable (δ : DEnv) (μ : Mem) (P : Po)
theorem wS_nx : wS mnx δ μ P = P.nx δ μ := rfl
theorem wS_bk : wS mbk δ μ P = P.bk δ μ := rfl
theorem wS_ct : wS mct δ μ P = P.ct δ μ := rfl
theorem wS_seq (a b : MS) : wS (mseq a b) δ μ P = wS a δ μ { P with nx := fun δ1 μ1 => wS b δ1 μ1 P } := by
  unfold wS mseq; cases a δ μ <;> rfl
theorem wE_cut {α : Type} {m : MX α} {δ : DEnv} {μ : Mem} {Q : α → Mem → Prop} {E : EP} (R : α → Mem → Prop) (h1 : wE m δ μ R noE) (h2 : ∀ a μ', R a μ' → Q a μ') : wE m δ μ Q E := wR.go h1 h2
theorem wS_cut {a b : MS} {δ : DEnv} {μ : Mem} {P : Po} (R : DEnv → Mem → Prop) (h1 : wS a δ μ { P with nx := R }) (h2 : ∀ δ' μ', R δ' μ' → wS b δ' μ' P) : wS (mseq a b) δ μ P := by
  rw [wS_seq]
  exact wP.imp h1 (fun δ' μ' h => h2 δ' μ' h) (fun _ _ h => h) (fun _ _ h => h) (fun _ _ h => h) (fun _ _ _ _ h => h)
theorem wS_ofE {α : Type} (m : MX α) (k : α → MS) : wS (ofE m k) δ μ P = wE m δ μ (fun a μ1 => wS (k a) δ μ1 P) (fun C w μ1 => P.er C w δ μ1) := by
  unfold wS ofE wE; cases m δ μ <;> rfl
theorem wS_drop (m : ME) : wS (mdrop m) δ μ P = wE m δ μ (fun _ μ1 => P.nx δ μ1) (fun C w μ1 => P.er C w δ μ1) := by unfold mdrop; rw [wS_ofE]; rfl
theorem wS_ret (m : ME) : wS (mret m) δ μ P = wE m δ μ (fun d μ1 => P.rt d μ1) (fun C w μ1 => P.er C w δ μ1) := by unfold mret; rw [wS_ofE]; rfl
theorem wS_retN : wS mretN δ μ P = P.rt .non μ := rfl
theorem wS_if (t : MX Bool) (a b : MS) : wS (mifS t a b) δ μ P = wE t δ μ (fun x μ1 => if x = true then wS a δ μ1 P else wS b δ μ1 P) (fun C w μ1 => P.er C w δ μ1) := by
  unfold mifS; rw [wS_ofE]; congr; funext x μ1; cases x <;> rfl
theorem wS_asg (m : ME) (g : MG) : wS (masg m g) δ μ P = wE m δ μ (fun d μ1 => wG g d δ μ1 P.nx (fun C w μ2 => P.er C w δ μ2)) (fun C w μ1 => P.er C w δ μ1) := by
  unfold masg; rw [wS_ofE]; congr; funext d μ1; unfold wS wG; dsimp only; cases g d δ μ1 <;> rfl
def qL (d : D) (Q : Nat → Prop) : Prop := match d with
  | .loc n => Q n
  | _ => False
theorem qL_loc (n : Nat) (Q : Nat → Prop) : qL (.loc n) Q = Q n := rfl
def qCl (c : Cell) (Q : List D → Prop) : Prop := match c with
  | .lst ds => Q ds
  | _ => False
theorem qCl_lst (ds : List D) (Q : List D → Prop) : qCl (.lst ds) Q = Q ds := rfl
theorem wS_retFz (m : ME) : wS (mretFz m) δ μ P = wE m δ μ (fun d μ1 => qL d fun n => wC μ1 n fun c => qCl c fun ds => μ1.lkd n = false ∧ P.rt (.lst ds) (μ1.set n .dead)) (fun C w μ1 => P.er C w δ μ1) := by
  unfold mretFz; rw [wS_ofE]; congr; funext d μ1
  cases d with
  | loc n =>
    show wP (match μ1.cells[n]? with | some (.lst ds) => _ | _ => _) P = wC μ1 n _
    unfold wC
    cases μ1.cells[n]? with
    | none => rfl
    | some c =>
      cases c with
      | lst ds =>
        exact wP_ite _ _ _
      | _ => rfl
  | _ => rfl
theorem wS_raise (C : Addr) (a : ME) : wS (mraise C (mcons a mnil)) δ μ P = wE a δ μ (fun w μ1 => P.er C w δ μ1) (fun C w μ1 => P.er C w δ μ1) := by
  unfold mraise; rw [wS_ofE, wE_cons]; rfl
theorem wS_for (mi : MX Its0) (g : MG) (body : MS) : wS (mfor mi g body) δ μ P = wE mi δ μ (fun it μ1 => wS (mloop g body it.2 it.1) δ μ1 P) (fun C w μ1 => P.er C w δ μ1) := by
  unfold mfor; rw [wS_ofE]
theorem wS_try (i : Nat) (test : Addr → Option Bool) (mb : MS) (ms : Addr → D → MS) : wS (mtry i test mb ms) δ μ P = wS mb δ μ { P with er := fun C w δ1 μ1 => (test C = some false ∧ P.er C w δ1 μ1) ∨ (test C = some true ∧ i < δ1.length ∧ wS (ms C w) (δ1.set i none) μ1 { nx := fun δ2 μ2 => P.nx (δ2.set i none) μ2, rt := P.rt, bk := fun δ2 μ2 => P.bk (δ2.set i none) μ2, ct := fun δ2 μ2 => P.ct (δ2.set i none) μ2, er := fun _ _ _ _ => False }) } := by
  unfold wS mtry
  cases h : mb δ μ with
  | err C w δ1 μ1 =>
    simp only [wP]
    cases ht : test C with
    | none => simp
    | some b =>
      cases b with
      | false => simp [wP]
      | true =>
        simp only [Option.some.injEq, Bool.true_eq_false, false_and, true_and, false_or]
        by_cases hi : i < δ1.length
        · rw [if_pos hi]
          cases ms C w (δ1.set i none) μ1 <;> simp [unS, wP, hi]
        · rw [if_neg hi]; simp [wP, hi]
  | _ => rfl
end
section
variable (δ : DEnv) (μ : Mem) (E : EP) (d : D)
theorem wG_set0 (x : Option D) (r : DEnv) (Q : DEnv → Mem → Prop) : wG (gset 0) d (x :: r) μ Q E = Q (some d :: r) μ := rfl
theorem wG_setS (n : Nat) (x : Option D) (r : DEnv) (Q : DEnv → Mem → Prop) : wG (gset (n + 1)) d (x :: r) μ Q E = wG (gset n) d r μ (fun r' μ' => Q (x :: r') μ') E := rfl
theorem wG_then (g1 g2 : MG) (Q : DEnv → Mem → Prop) : wG (gthen g1 g2) d δ μ Q E = wG g1 d δ μ (fun δ1 μ1 => wG g2 d δ1 μ1 Q noE) noE := by
  unfold wG gthen
  cases g1 d δ μ with
  | ok a μ1 => show wR (match g2 d a μ1 with | .ok δ2 μ2 => Res.ok δ2 μ2 | _ => Res.bad) Q E = wR (g2 d a μ1) Q noE; cases g2 d a μ1 <;> rfl
  | _ => rfl
theorem wG_sub (mo mi : ME) (Q : DEnv → Mem → Prop) : wG (gsub mo mi) d δ μ Q E = wE mo δ μ (fun x μ1 => wE mi δ μ1 (fun y μ2 => wR (setD x y d μ2) (fun _ μ3 => Q δ μ3) noE) E) E := by
  unfold wG gsub; rw [wR_bind]; show wR _ _ _ = wR _ _ _; congr; funext x μ1; rw [wR_bind]; show wR _ _ _ = wR _ _ _; congr; funext y μ2
  cases setD x y d μ2 <;> rfl
theorem wG_fld (Cs : List Addr) (f : Str) (mo : ME) (Q : DEnv → Mem → Prop) : wG (gfld Cs f mo) d δ μ Q E = wE mo δ μ (fun x μ1 => wR (setF Cs f x d μ1) (fun _ μ2 => Q δ μ2) noE) E := by
  unfold wG gfld; rw [wR_bind]; show wR _ _ _ = wR _ _ _; congr; funext x μ1
  cases setF Cs f x d μ1 <;> rfl
def qT (d : D) (Q : List D → Prop) : Prop := match d with
  | .tup ds => Q ds
  | _ => False
theorem qT_tup (ds : List D) (Q : List D → Prop) : qT (.tup ds) Q = Q ds := rfl
theorem wG_tup (n : Nat) (gs : MGs) (Q : DEnv → Mem → Prop) : wG (gtup n gs) d δ μ Q E = qT d fun ds => ds.length = n ∧ wGs gs ds δ μ Q := by
  unfold wG gtup
  cases d with
  | tup ds =>
    show wR (if _ then _ else _) _ _ = (_ ∧ _)
    split
    · rename_i h; simp only [h, true_and]; unfold wGs; cases gs ds δ μ <;> rfl
    · rename_i h; simp [wR, h]
  | _ => rfl
theorem wGs_nil (Q : DEnv → Mem → Prop) : wGs gnil [] δ μ Q = Q δ μ := rfl
theorem wGs_cons (g : MG) (gs : MGs) (d : D) (r : List D) (Q : DEnv → Mem → Prop) : wGs (gcons g gs) (d :: r) δ μ Q = wG g d δ μ (fun δ1 μ1 => wGs gs r δ1 μ1 Q) noE := by
  unfold wGs wG gcons; dsimp only; cases g d δ μ <;> rfl
end
def endB (Q : D → Mem → Prop) (E : EP) : Po := { nx := fun _ μ => Q .non μ, rt := Q, bk := fun _ _ => False, ct := fun _ _ => False, er := fun C w _ μ => E C w μ }
theorem w_run (n : Nat) (t : MS) (ds : List D) (μ : Mem) (Q : D → Mem → Prop) (E : EP) : wR (runB n t ds μ) Q E = wS t (startD n ds) μ (endB Q E) := by
  unfold runB wS; cases t (startD n ds) μ <;> rfl
theorem endB_nx (Q : D → Mem → Prop) (E : EP) : (endB Q E).nx = fun _ μ => Q .non μ := rfl
theorem endB_rt (Q : D → Mem → Prop) (E : EP) : (endB Q E).rt = Q := rfl
theorem endB_er (Q : D → Mem → Prop) (E : EP) : (endB Q E).er = fun C w _ μ => E C w μ := rfl
theorem endB_bk (Q : D → Mem → Prop) (E : EP) : (endB Q E).bk = fun _ _ => False := rfl
theorem endB_ct (Q : D → Mem → Prop) (E : EP) : (endB Q E).ct = fun _ _ => False := rfl
end Doz
end
section
namespace Doz
open PySem L2
section
variable {μ : Mem} {n m : Nat} {c c' : Cell}
theorem len_set : (μ.set n c).cells.length = μ.cells.length := by simp [Mem.set]
theorem len_push : (μ.push c).cells.length = μ.cells.length + 1 := by simp [Mem.push]
theorem lk_set : (μ.set n c).lk = μ.lk := rfl
theorem lk_push : (μ.push c).lk = μ.lk := rfl
theorem lkd_nil (h : μ.lk = []) : μ.lkd n = false := by unfold Mem.lkd; rw [h]; rfl
theorem lkd_set : (μ.set n c).lkd m = μ.lkd m := rfl
theorem lkd_push : (μ.push c).lkd m = μ.lkd m := rfl
theorem at_lt (h : μ.cells[n]? = some c) : n < μ.cells.length := (List.getElem?_eq_some_iff.mp h).1
theorem at_set (h : n < μ.cells.length) : (μ.set n c).cells[n]? = some c := by simp [Mem.set, h]
theorem at_setn (h : m ≠ n) : (μ.set n c).cells[m]? = μ.cells[m]? := by simp [Mem.set, Ne.symm h]
theorem at_push : (μ.push c).cells[μ.cells.length]? = some c := by simp [Mem.push]
theorem at_push2 (h : m = μ.cells.length) : (μ.push c).cells[m]? = some c := by subst h; exact at_push
theorem at_pushn (h : m < μ.cells.length) : (μ.push c).cells[m]? = μ.cells[m]? := by
  show (μ.cells ++ [c])[m]? = _
  exact List.getElem?_append_left h
theorem at_push_of (h : μ.cells[m]? = some c') : (μ.push c).cells[m]? = some c' := by rw [at_pushn (at_lt h)]; exact h
theorem at_setn_of (h : μ.cells[m]? = some c') (hn : m ≠ n) : (μ.set n c).cells[m]? = some c' := by rw [at_setn hn]; exact h
theorem set_set : (μ.set n c).set n c' = μ.set n c' := by simp [Mem.set]
theorem set_push_last : (μ.push c).set μ.cells.length c' = μ.push c' := by simp [Mem.set, Mem.push]
theorem set_push2 (h : n = μ.cells.length) : (μ.push c).set n c' = μ.push c' := by subst h; exact set_push_last
theorem set_pushn (h : n < μ.cells.length) : (μ.push c).set n c' = (μ.set n c').push c := by
  unfold Mem.set Mem.push; simp [List.set_append_left _ _ h]
theorem wC_set (h : n < μ.cells.length) (Q : Cell → Prop) : wC (μ.set n c) n Q = Q c := wC_of (at_set h) Q
theorem wC_setn (h : m ≠ n) (Q : Cell → Prop) : wC (μ.set n c) m Q = wC μ m Q := by unfold wC; rw [at_setn h]
theorem wC_push (Q : Cell → Prop) : wC (μ.push c) μ.cells.length Q = Q c := wC_of at_push Q
theorem wC_push2 (h : m = μ.cells.length) (Q : Cell → Prop) : wC (μ.push c) m Q = Q c := by subst h; exact wC_push Q
theorem wC_pushn (h : m < μ.cells.length) (Q : Cell → Prop) : wC (μ.push c) m Q = wC μ m Q := by unfold wC; rw [at_pushn h]
end
structure Fr (S : List Nat) (μ μ' : Mem) : Prop where
  le : μ.cells.length ≤ μ'.cells.length
  lk : μ'.lk = μ.lk
  eq : ∀ k, k ∉ S → k < μ.cells.length → μ'.cells[k]? = μ.cells[k]?
section
variable {S T : List Nat} {μ μ1 μ2 : Mem} {n k : Nat} {c : Cell}
theorem Fr.refl (S : List Nat) (μ : Mem) : Fr S μ μ := ⟨Nat.le_refl _, rfl, fun _ _ _ => rfl⟩
theorem Fr.trans (a : Fr S μ μ1) (b : Fr T μ1 μ2) (h : ∀ k ∈ T, k < μ.cells.length → k ∈ S := by intro k hk _; exact hk) : Fr S μ μ2 :=
  ⟨Nat.le_trans a.le b.le, b.lk.trans a.lk, fun k hk hl => by
    rw [b.eq k (fun z => hk (h k z hl)) (Nat.lt_of_lt_of_le hl a.le)]; exact a.eq k hk hl⟩
theorem Fr.mono (a : Fr T μ μ1) (h : ∀ k ∈ T, k < μ.cells.length → k ∈ S) : Fr S μ μ1 := ⟨a.le, a.lk, fun k hk hl => a.eq k (fun z => hk (h k z hl)) hl⟩
theorem Fr.set (n : Nat) (c : Cell) (h : n ∈ S ∨ μ.cells.length ≤ n := by simp) : Fr S μ (μ.set n c) := ⟨by rw [len_set]; exact Nat.le_refl _, rfl, fun k hk hl => at_setn fun z => by
  subst z
  rcases h with h | h
  · exact hk h
  · omega⟩
theorem Fr.push (S : List Nat) (μ : Mem) (c : Cell) : Fr S μ (μ.push c) := ⟨by rw [len_push]; omega, rfl, fun k hk hl => at_pushn hl⟩
theorem Fr.get (a : Fr S μ μ1) (h : μ.cells[k]? = some c) (hk : k ∉ S) : μ1.cells[k]? = some c := by rw [a.eq k hk (at_lt h)]; exact h
end
theorem Fr.set1 (μ : Mem) (n : Nat) (c : Cell) : Fr [n] μ (μ.set n c) := Fr.set n c (.inl (by simp))
theorem str_len_app (x y : Str) : (x ++ y).length = x.length + y.length := by
  show (x.cps ++ y.cps).size = _
  rw [Array.size_append]; rfl
theorem str_len_one (c : Nat) : (⟨#[c]⟩ : Str).length = 1 := rfl
theorem cut_len_le (x : Str) (lo hi : Option Int) : (cutS x lo hi).length ≤ x.length := by
  show (List.toArray _).size ≤ _
  rw [List.size_toArray, List.length_take, List.length_drop]
  have : x.cps.toList.length = x.length := by simp [Str.length]
  omega
theorem log2_lt {n k : Nat} (h : n < 2 ^ k) (hk : 0 < k) : n.log2 < k := by
  by_cases h0 : n = 0
  · subst h0; simpa using hk
  · exact (Nat.log2_lt h0).mpr h
theorem lg {i : Int} {k : Nat} (h1 : -(2 ^ k : Int) < i) (h2 : i < 2 ^ k) (hk : 0 < k) : i.natAbs.log2 < k := by
  refine log2_lt ?_ hk
  have : ((2 ^ k : Nat) : Int) = (2 : Int) ^ k := by simp
  omega
def MulOk (i j : Int) : Prop := i.natAbs.log2 + j.natAbs.log2 < 1000000
def DivOk (j : Int) : Prop := 0 < j ∧ j.natAbs.log2 < 9000
def PowOk (i j : Int) : Prop := 0 ≤ j ∧ j ≤ 1000000 ∧ i.natAbs < 2 ^ 64
def StrOk (i : Int) : Prop := i.natAbs.log2 < 1920
theorem mulOk {i j : Int} (h1 : -(2 ^ 400) < i) (h2 : i < 2 ^ 400) (h3 : -(2 ^ 400) < j) (h4 : j < 2 ^ 400) : MulOk i j := by
  have a := lg h1 h2 (by decide)
  have b := lg h3 h4 (by decide)
  unfold MulOk; omega
theorem divOk {j : Int} (h1 : 0 < j) (h2 : j < 2 ^ 400) : DivOk j := ⟨h1, Nat.lt_of_lt_of_le (lg (by omega) h2 (by decide)) (by decide)⟩
theorem powOk {i j : Int} (h1 : 0 ≤ j) (h2 : j ≤ 1000000) (h3 : -(2 ^ 64) < i) (h4 : i < 2 ^ 64) : PowOk i j := ⟨h1, h2, by omega⟩
theorem strOk' {i : Int} (h1 : -(2 ^ 400) < i) (h2 : i < 2 ^ 400) : StrOk i := Nat.lt_of_lt_of_le (lg h1 h2 (by decide)) (by decide)
def qO {α : Type} (o : Option α) (Q : α → Prop) : Prop := match o with
  | some a => Q a
  | none => False
theorem qO_some {α : Type} (a : α) (Q : α → Prop) : qO (some a) Q = Q a := rfl
theorem qO_of {α : Type} {o : Option α} {a : α} (h : o = some a) (Q : α → Prop) : qO o Q = Q a := by rw [h]; rfl
theorem qO_at0 {α : Type} (a : α) (r : List α) (Q : α → Prop) : qO (atI (a :: r) 0) Q = Q a := by
  have : atI (a :: r) 0 = some a := atI_nat (j := 0) rfl
  rw [this]; rfl
theorem qO_at1 {α : Type} (a b : α) (r : List α) (Q : α → Prop) : qO (atI (a :: b :: r) 1) Q = Q b := by
  have : atI (a :: b :: r) 1 = some b := atI_nat (j := 1) rfl
  rw [this]; rfl
theorem qO_at2 {α : Type} (a b c : α) (r : List α) (Q : α → Prop) : qO (atI (a :: b :: c :: r) 2) Q = Q c := by
  have : atI (a :: b :: c :: r) 2 = some c := atI_nat (j := 2) rfl
  rw [this]; rfl
theorem qO_at3 {α : Type} (a b c d : α) (r : List α) (Q : α → Prop) : qO (atI (a :: b :: c :: d :: r) 3) Q = Q d := by
  have : atI (a :: b :: c :: d :: r) 3 = some d := atI_nat (j := 3) rfl
  rw [this]; rfl
theorem qO_at4 {α : Type} (a b c d e : α) (r : List α) (Q : α → Prop) : qO (atI (a :: b :: c :: d :: e :: r) 4) Q = Q e := by
  have : atI (a :: b :: c :: d :: e :: r) 4 = some e := atI_nat (j := 4) rfl
  rw [this]; rfl
theorem qO_at5 {α : Type} (a b c d e f : α) (r : List α) (Q : α → Prop) : qO (atI (a :: b :: c :: d :: e :: f :: r) 5) Q = Q f := by
  have : atI (a :: b :: c :: d :: e :: f :: r) 5 = some f := atI_nat (j := 5) rfl
  rw [this]; rfl
theorem atI_lt {α : Type} {xs : List α} {i : Int} (h0 : 0 ≤ i) (h1 : i < xs.length) : ∃ v, atI xs i = some v ∧ xs[i.toNat]? = some v := by
  have hl : i.toNat < xs.length := by omega
  refine ⟨xs[i.toNat], ?_, List.getElem?_eq_getElem hl⟩
  have := atI_nat (xs := xs) (j := i.toNat) (List.getElem?_eq_getElem hl)
  rwa [Int.toNat_of_nonneg h0] at this
theorem atI_map {α β : Type} (f : α → β) (xs : List α) (i : Int) : atI (xs.map f) i = (atI xs i).map f := by
  unfold atI; rw [List.length_map]; cases ixN xs.length i <;> simp
theorem atI_mapI {xs : List Int} {i : Int} (h0 : 0 ≤ i) (h1 : i < xs.length) : ∃ v, atI (xs.map D.int) i = some (.int v) ∧ xs[i.toNat]? = some v := by
  obtain ⟨v, h, h'⟩ := atI_lt h0 h1
  exact ⟨v, by rw [atI_map, h]; rfl, h'⟩
section
variable (μ : Mem) (E : EP) (i j : Int) (x y : Str)
theorem w_add_int (Q : D → Mem → Prop) : wR (fAdd (.int i) (.int j) μ) Q E = Q (.int (i + j)) μ := rfl
theorem w_add_str (Q : D → Mem → Prop) : wR (fAdd (.str x) (.str y) μ) Q E = (x.length + y.length ≤ sizeLine ∧ Q (.str (x ++ y)) μ) := wR_ite _ _ _ _
theorem w_add_tup (xs ys : List D) (Q : D → Mem → Prop) : wR (fAdd (.tup xs) (.tup ys) μ) Q E = (xs.length + ys.length ≤ sizeLine ∧ Q (.tup (xs ++ ys)) μ) := wR_ite _ _ _ _
theorem w_add_lst (xs ys : List D) (Q : D → Mem → Prop) : wR (fAdd (.lst xs) (.lst ys) μ) Q E = (xs.length + ys.length ≤ sizeLine ∧ Q (.lst (xs ++ ys)) μ) := by
  show wR (match catL μ (.lst xs) (.lst ys) with | some zs => Res.ok (D.lst zs) μ | none => .bad) Q E = _
  have e : catL μ (.lst xs) (.lst ys) = if xs.length + ys.length ≤ sizeLine then some (xs ++ ys) else none := rfl
  rw [e]
  by_cases h : xs.length + ys.length ≤ sizeLine
  · rw [if_pos h]; simp [h, wR]
  · rw [if_neg h]; simp [h, wR]
theorem w_sub (Q : D → Mem → Prop) : wR (fSub (.int i) (.int j) μ) Q E = Q (.int (i - j)) μ := rfl
theorem w_mod (Q : D → Mem → Prop) : wR (fMod (.int i) (.int j) μ) Q E = (0 < j ∧ Q (.int (i % j)) μ) := wR_ite _ _ _ _
theorem w_div (Q : D → Mem → Prop) : wR (fDiv (.int i) (.int j) μ) Q E = (DivOk j ∧ Q (.int (i / j)) μ) := wR_ite _ _ _ _
theorem w_mul (Q : D → Mem → Prop) : wR (fMul (.int i) (.int j) μ) Q E = (MulOk i j ∧ Q (.int (i * j)) μ) := wR_ite _ _ _ _
theorem w_pow (Q : D → Mem → Prop) : wR (fPow (.int i) (.int j) μ) Q E = (PowOk i j ∧ Q (.int (i ^ j.toNat)) μ) := wR_ite _ _ _ _
theorem w_band (Q : D → Mem → Prop) : wR (fAnd (.int i) (.int j) μ) Q E = Q (.int (Builtin.bitAnd i j)) μ := rfl
theorem w_lt (Q : Bool → Mem → Prop) : wR (cLt (.int i) (.int j) μ) Q E = Q (decide (i < j)) μ := rfl
theorem w_le (Q : Bool → Mem → Prop) : wR (cLe (.int i) (.int j) μ) Q E = Q (decide (i ≤ j)) μ := rfl
theorem w_gt (Q : Bool → Mem → Prop) : wR (cGt (.int i) (.int j) μ) Q E = Q (decide (j < i)) μ := rfl
theorem w_ge (Q : Bool → Mem → Prop) : wR (cGe (.int i) (.int j) μ) Q E = Q (decide (j ≤ i)) μ := rfl
theorem w_is (d : D) (Q : Bool → Mem → Prop) : wR (cIs d .non μ) Q E = Q d.isNon μ := rfl
theorem w_isNot (d : D) (Q : Bool → Mem → Prop) : wR (cIsNot d .non μ) Q E = Q (!d.isNon) μ := rfl
theorem nonN : D.isNon .non = true := rfl
theorem nonI : D.isNon (.int i) = false := rfl
theorem nonS : D.isNon (.str x) = false := rfl
theorem nonT (ds : List D) : D.isNon (.tup ds) = false := rfl
theorem nonL (ds : List D) : D.isNon (.lst ds) = false := rfl
theorem nonLoc (n : Nat) : D.isNon (.loc n) = false := rfl
theorem w_eq_int (Q : Bool → Mem → Prop) : wR (cEqA (.int i) (.int j) μ) Q E = Q (i == j) μ := rfl
theorem w_ne_int (Q : Bool → Mem → Prop) : wR (cNeA (.int i) (.int j) μ) Q E = Q (!(i == j)) μ := rfl
theorem w_eq_str (Q : Bool → Mem → Prop) : wR (cEqA (.str x) (.str y) μ) Q E = Q (x == y) μ := rfl
theorem w_ne_str (Q : Bool → Mem → Prop) : wR (cNeA (.str x) (.str y) μ) Q E = Q (!(x == y)) μ := rfl
theorem w_eq_sc (d e : D) (hd : d.sc = true) (he : e.sc = true) (Q : Bool → Mem → Prop) : wR (cEqA d e μ) Q E = Q (D.eqv d e) μ := by
  cases d <;> cases e <;> first | rfl | (cases hd; done) | (cases he; done)
theorem w_ne_sc (d e : D) (hd : d.sc = true) (he : e.sc = true) (Q : Bool → Mem → Prop) : wR (cNeA d e μ) Q E = Q (!(D.eqv d e)) μ := by
  cases d <;> cases e <;> first | rfl | (cases hd; done) | (cases he; done)
theorem w_eq_of {μ : Mem} {d e p q : D} (hd : dcell μ d = none ∨ dcell μ e = none) (h1 : rsv μ 8 d = some p) (h2 : rsv μ 8 e = some q) (f1 : p.fits = true) (f2 : q.fits = true) (E : EP) (Q : Bool → Mem → Prop) (h : Q (D.eqv p q) μ) : wR (cEqA d e μ) Q E := by
  have e0 : cEqA d e μ = cEq d e μ := by
    unfold cEqA
    rcases hd with hd | hd
    · rw [hd]
    · rw [hd]; cases dcell μ d <;> rfl
  rw [e0]
  unfold cEq
  split
  · rename_i hs
    simp only [Bool.and_eq_true] at hs
    have : ∀ {d p : D}, d.sc = true → rsv μ 8 d = some p → d = p := fun hs h => by
      rename_i d p
      cases d <;> first | (cases hs; done) | exact Option.some.inj h
    rw [this hs.1 h1, this hs.2 h2]; exact h
  · rw [h1, h2]; simp only [f1, f2, Bool.and_self, if_true]; exact h
theorem w_ne_of {μ : Mem} {d e p q : D} (hd : dcell μ d = none ∨ dcell μ e = none) (h1 : rsv μ 8 d = some p) (h2 : rsv μ 8 e = some q) (f1 : p.fits = true) (f2 : q.fits = true) (E : EP) (Q : Bool → Mem → Prop) (h : Q (!(D.eqv p q)) μ) : wR (cNeA d e μ) Q E := by
  unfold cNeA
  rw [wR_bind]
  exact w_eq_of hd h1 h2 f1 f2 E _ h
def qIx (c : Cell) (i : Int) (Q : D → Prop) : Prop := match c with
  | .lst ds => qO (atI ds i) Q
  | .dK kds => qO (kget kds (.inl i)) Q
  | _ => False
theorem qIx_lst (ds : List D) (i : Int) (Q : D → Prop) : qIx (.lst ds) i Q = qO (atI ds i) Q := rfl
theorem qIx_dK (ds : List (Key × D)) (i : Int) (Q : D → Prop) : qIx (.dK ds) i Q = qO (kget ds (.inl i)) Q := rfl
def qIxS (c : Cell) (x : Str) (Q : D → Prop) : Prop := match c with
  | .dK kds => qO (kget kds (.inr x)) Q
  | _ => False
theorem qIxS_dK (ds : List (Key × D)) (x : Str) (Q : D → Prop) : qIxS (.dK ds) x Q = qO (kget ds (.inr x)) Q := rfl
theorem w_ix_loc (n : Nat) (Q : D → Mem → Prop) : wR (fIx (.loc n) (.int i) μ) Q E = wC μ n fun c => qIx c i fun r => Q r μ := by
  unfold fIx dfind dictOf wC seqOf lstOf
  dsimp only
  cases μ.cells[n]? with
  | none => rfl
  | some c =>
    cases c with
    | lst ds => show wR (match atI ds i with | some r => _ | none => _) Q E = qO (atI ds i) _; cases atI ds i <;> rfl
    | dK ds => show wR (match some (kget ds (.inl i)) with | some (some r) => _ | some none => _ | none => _) Q E = qO (kget ds (.inl i)) _; cases kget ds (.inl i) <;> rfl
    | _ => rfl
theorem w_ix_locS (n : Nat) (Q : D → Mem → Prop) : wR (fIx (.loc n) (.str x) μ) Q E = wC μ n fun c => qIxS c x fun r => Q r μ := by
  unfold fIx dfind dictOf wC
  dsimp only
  cases μ.cells[n]? with
  | none => rfl
  | some c =>
    cases c with
    | dK ds => show wR (match some (kget ds (.inr x)) with | some (some r) => _ | some none => _ | none => _) Q E = qO (kget ds (.inr x)) _; cases kget ds (.inr x) <;> rfl
    | _ => rfl
theorem w_ix_lst (ds : List D) (Q : D → Mem → Prop) : wR (fIx (.lst ds) (.int i) μ) Q E = qO (atI ds i) fun r => Q r μ := by
  show wR (match atI ds i with | some r => _ | none => _) Q E = qO (atI ds i) _; cases atI ds i <;> rfl
theorem w_ix_tup (ds : List D) (Q : D → Mem → Prop) : wR (fIx (.tup ds) (.int i) μ) Q E = qO (atI ds i) fun r => Q r μ := by
  show wR (match atI ds i with | some r => _ | none => _) Q E = qO (atI ds i) _; cases atI ds i <;> rfl
theorem w_ix_str (Q : D → Mem → Prop) : wR (fIx (.str x) (.int i) μ) Q E = (x.length ≤ sizeLine ∧ qO (atI x.cps.toList i) fun c => Q (.str ⟨#[c]⟩) μ) := by
  refine (wR_ite _ _ _ _).trans ?_
  cases atI x.cps.toList i <;> rfl
def qLS (ds : List D) (i : Int) (v : D) (Q : List D → Prop) : Prop := qO (ixN ds.length i) fun j => Q (ds.set j v)
theorem qLS_0 (a : D) (r : List D) (v : D) (Q : List D → Prop) : qLS (a :: r) 0 v Q = Q (v :: r) := by
  unfold qLS; rw [qO_of (show ixN (a :: r).length 0 = some 0 by simp [ixN])]; rfl
theorem qLS_1 (a b : D) (r : List D) (v : D) (Q : List D → Prop) : qLS (a :: b :: r) 1 v Q = Q (a :: v :: r) := by
  unfold qLS; rw [qO_of (show ixN (a :: b :: r).length 1 = some 1 by simp [ixN]; omega)]; rfl
theorem qLS_2 (a b c : D) (r : List D) (v : D) (Q : List D → Prop) : qLS (a :: b :: c :: r) 2 v Q = Q (a :: b :: v :: r) := by
  unfold qLS; rw [qO_of (show ixN (a :: b :: c :: r).length 2 = some 2 by simp [ixN]; omega)]; rfl
theorem qLS_3 (a b c d : D) (r : List D) (v : D) (Q : List D → Prop) : qLS (a :: b :: c :: d :: r) 3 v Q = Q (a :: b :: c :: v :: r) := by
  unfold qLS; rw [qO_of (show ixN (a :: b :: c :: d :: r).length 3 = some 3 by simp [ixN]; omega)]; rfl
def qSet (c : Cell) (i : Int) (v : D) (l : Bool) (Q : Cell → Prop) : Prop := match c with
  | .lst ds => qLS ds i v fun es => Q (.lst es)
  | .dK kds => (l = false ∧ kds.length < sizeLine) ∧ Q (.dK (kput kds (.inl i) v))
  | _ => False
theorem qSet_lst (ds : List D) (i : Int) (v : D) (l : Bool) (Q : Cell → Prop) : qSet (.lst ds) i v l Q = qLS ds i v fun es => Q (.lst es) := rfl
theorem qSet_dK (kds : List (Key × D)) (i : Int) (v : D) (l : Bool) (Q : Cell → Prop) : qSet (.dK kds) i v l Q = ((l = false ∧ kds.length < sizeLine) ∧ Q (.dK (kput kds (.inl i) v))) := rfl
def qSetS (c : Cell) (x : Str) (v : D) (l : Bool) (Q : Cell → Prop) : Prop := match c with
  | .dK kds => (l = false ∧ kds.length < sizeLine) ∧ Q (.dK (kput kds (.inr x) v))
  | _ => False
theorem qSetS_dK (kds : List (Key × D)) (x : Str) (v : D) (l : Bool) (Q : Cell → Prop) : qSetS (.dK kds) x v l Q = ((l = false ∧ kds.length < sizeLine) ∧ Q (.dK (kput kds (.inr x) v))) := rfl
theorem w_setI (n : Nat) (v : D) (Q : Unit → Mem → Prop) : wR (setD (.loc n) (.int i) v μ) Q E = wC μ n fun c => qSet c i v (μ.lkd n) fun c' => Q () (μ.set n c') := by
  unfold setD wC
  dsimp only
  cases μ.cells[n]? with
  | none => rfl
  | some c =>
    cases c with
    | lst ds => show wR (match ixN ds.length i with | some j => _ | none => _) Q E = qO (ixN ds.length i) _; cases ixN ds.length i <;> rfl
    | dK ds => exact wR_ite _ _ _ _
    | _ => rfl
theorem w_setS (n : Nat) (v : D) (Q : Unit → Mem → Prop) : wR (setD (.loc n) (.str x) v μ) Q E = wC μ n fun c => qSetS c x v (μ.lkd n) fun c' => Q () (μ.set n c') := by
  unfold setD wC
  dsimp only
  cases μ.cells[n]? with
  | none => rfl
  | some c =>
    cases c with
    | dK ds => exact wR_ite _ _ _ _
    | _ => rfl
def qF (c : Cell) (f : Str) (Q : D → Prop) : Prop := match c with
  | .ins _ fs => qO (fs.lookup f) Q
  | _ => False
theorem qF_ins (C : Addr) (fs : List (Str × D)) (f : Str) (Q : D → Prop) : qF (.ins C fs) f Q = qO (fs.lookup f) Q := rfl
theorem w_fld (n : Nat) (f : Str) (Q : D → Mem → Prop) : wR (fFld f (.loc n) μ) Q E = wC μ n fun c => qF c f fun r => Q r μ := by
  unfold fFld wC
  dsimp only
  cases μ.cells[n]? with
  | none => rfl
  | some c =>
    cases c with
    | ins C fs => show wR (match fs.lookup f with | some r => _ | none => _) Q E = qO (fs.lookup f) _; cases fs.lookup f <;> rfl
    | _ => rfl
def qSF (c : Cell) (Cs : List Addr) (f : Str) (v : D) (Q : Cell → Prop) : Prop := match c with
  | .ins C fs => (((fs.lookup f).isSome || Cs.contains C) = true ∧ fs.length < 1000) ∧ Q (.ins C (putFD f v fs))
  | _ => False
theorem qSF_ins (C : Addr) (fs : List (Str × D)) (Cs : List Addr) (f : Str) (v : D) (Q : Cell → Prop) : qSF (.ins C fs) Cs f v Q = ((((fs.lookup f).isSome || Cs.contains C) = true ∧ fs.length < 1000) ∧ Q (.ins C (putFD f v fs))) := rfl
theorem w_setF (n : Nat) (Cs : List Addr) (f : Str) (v : D) (Q : Unit → Mem → Prop) : wR (setF Cs f (.loc n) v μ) Q E = wC μ n fun c => qSF c Cs f v fun c' => Q () (μ.set n c') := by
  unfold setF wC
  dsimp only
  cases μ.cells[n]? with
  | none => rfl
  | some c =>
    cases c with
    | ins C fs => exact wR_ite _ _ _ _
    | _ => rfl
theorem w_len_str (Q : D → Mem → Prop) : wR (fLen [.str x] μ) Q E = (x.length ≤ sizeLine ∧ Q (.int x.length) μ) := wR_ite _ _ _ _
theorem w_len_lst (ds : List D) (Q : D → Mem → Prop) : wR (fLen [.lst ds] μ) Q E = Q (.int ds.length) μ := rfl
theorem w_len_tup (ds : List D) (Q : D → Mem → Prop) : wR (fLen [.tup ds] μ) Q E = Q (.int ds.length) μ := rfl
def qLen (c : Cell) (Q : Nat → Prop) : Prop := match c with
  | .lst ds => Q ds.length
  | .dK ds => Q ds.length
  | _ => False
theorem qLen_lst (ds : List D) (Q : Nat → Prop) : qLen (.lst ds) Q = Q ds.length := rfl
theorem qLen_dK (ds : List (Key × D)) (Q : Nat → Prop) : qLen (.dK ds) Q = Q ds.length := rfl
theorem w_len_loc (n : Nat) (Q : D → Mem → Prop) : wR (fLen [.loc n] μ) Q E = wC μ n fun c => qLen c fun k => Q (.int k) μ := by
  unfold fLen seqOf lstOf dictOf wC
  dsimp only
  cases μ.cells[n]? with
  | none => rfl
  | some c => cases c <;> rfl
theorem w_max (Q : D → Mem → Prop) : wR (fMax [.int i, .int j] μ) Q E = Q (.int (max i j)) μ := by
  show Q (.int (if j > i then j else i)) μ = _
  congr 2
  split <;> omega
theorem w_min (Q : D → Mem → Prop) : wR (fMin [.int i, .int j] μ) Q E = Q (.int (min i j)) μ := by
  show Q (.int (if j < i then j else i)) μ = _
  congr 2
  split <;> omega
theorem w_int_int (Q : D → Mem → Prop) : wR (fIntC [.int i] μ) Q E = Q (.int i) μ := rfl
theorem w_int_bl (b : Bool) (Q : D → Mem → Prop) : wR (fIntC [.bl b] μ) Q E = Q (.int (if b then 1 else 0)) μ := rfl
theorem w_str_int (Q : D → Mem → Prop) : wR (fStrC [.int i] μ) Q E = (StrOk i ∧ Q (.str (toString i)) μ) := wR_ite _ _ _ _
def qDc (c : Cell) (Q : List (Key × D) → Prop) : Prop := match c with
  | .dK ds => Q ds
  | _ => False
theorem qDc_dK (ds : List (Key × D)) (Q : List (Key × D) → Prop) : qDc (.dK ds) Q = Q ds := rfl
theorem w_dict (n : Nat) (Q : D → Mem → Prop) : wR (fDict [.loc n] μ) Q E = wC μ n fun c => qDc c fun ds => Q (.loc μ.cells.length) (μ.push (.dK ds)) := by
  unfold fDict dictOf wC
  dsimp only
  cases μ.cells[n]? with
  | none => rfl
  | some c => cases c <;> rfl
theorem w_tuple_lst (ds : List D) (Q : D → Mem → Prop) : wR (fTuple [.lst ds] μ) Q E = Q (.tup ds) μ := rfl
theorem w_tuple_tup (ds : List D) (Q : D → Mem → Prop) : wR (fTuple [.tup ds] μ) Q E = Q (.tup ds) μ := rfl
theorem w_tuple_loc (n : Nat) (Q : D → Mem → Prop) : wR (fTuple [.loc n] μ) Q E = wC μ n fun c => qCl c fun ds => Q (.tup ds) μ := by
  unfold fTuple seqOf lstOf wC
  dsimp only
  cases μ.cells[n]? with
  | none => rfl
  | some c => cases c <;> rfl
theorem w_list_lst (ds : List D) (Q : List D → Mem → Prop) : wR (fListN [.lst ds] μ) Q E = Q ds μ := rfl
theorem w_list_tup (ds : List D) (Q : List D → Mem → Prop) : wR (fListN [.tup ds] μ) Q E = Q ds μ := rfl
theorem w_iter_lst (ds : List D) (Q : Its0 → Mem → Prop) : wR (fIter (.lst ds) μ) Q E = Q (ds, fun _ => true) μ := rfl
theorem w_iter_tup (ds : List D) (Q : Its0 → Mem → Prop) : wR (fIter (.tup ds) μ) Q E = Q (ds, fun _ => true) μ := rfl
theorem w_iter_str (Q : Its0 → Mem → Prop) : wR (fIter (.str x) μ) Q E = Q (signs x, fun _ => true) μ := rfl
theorem w_iter_loc (n : Nat) (Q : Its0 → Mem → Prop) : wR (fIter (.loc n) μ) Q E = wC μ n fun c => qCl c fun ds => Q (ds, lstIs (.loc n) ds) μ := by
  unfold fIter lstOf wC
  dsimp only
  cases μ.cells[n]? with
  | none => rfl
  | some c => cases c <;> rfl
theorem w_rng1 (Q : Its0 → Mem → Prop) : wR (fRng1 [.int j] μ) Q E = ((-(2 ^ 62) ≤ j ∧ j < 2 ^ 62) ∧ Q (rngItems 0 j.toNat, fun _ => true) μ) := wR_ite _ _ _ _
theorem w_rng2 (Q : Its0 → Mem → Prop) : wR (fRng2 [.int i, .int j] μ) Q E = ((-(2 ^ 62) ≤ i ∧ i < 2 ^ 62 ∧ -(2 ^ 62) ≤ j ∧ j < 2 ^ 62) ∧ Q (rngItems i (j - i).toNat, fun _ => true) μ) := wR_ite _ _ _ _
theorem w_sl_str (lo hi : Option Int) (Q : D → Mem → Prop) : wR (fSl (.str x) lo hi μ) Q E = (x.length ≤ sizeLine ∧ Q (.str (cutS x lo hi)) μ) := wR_ite _ _ _ _
theorem w_sl_tup (ds : List D) (lo hi : Option Int) (Q : D → Mem → Prop) : wR (fSl (.tup ds) lo hi μ) Q E = Q (.tup (cutD ds lo hi)) μ := rfl
theorem w_sl_lst (ds : List D) (lo hi : Option Int) (Q : D → Mem → Prop) : wR (fSl (.lst ds) lo hi μ) Q E = Q (.lst (cutD ds lo hi)) μ := rfl
theorem w_join_lst (ds : List D) (Q : D → Mem → Prop) : wR (fJoin (.str x) [.lst ds] μ) Q E = qO (strsOf ds) fun ys => (ys.map (·.length)).sum + ys.length * x.length ≤ 16777216 ∧ Q (.str (Txt.join x ys)) μ := by
  show wR (match strsOf ds with | some ys => _ | none => _) Q E = qO (strsOf ds) _
  cases strsOf ds with
  | none => rfl
  | some ys => exact wR_ite _ _ _ _
theorem w_append (n : Nat) (y : D) (Q : D → Mem → Prop) : wR (fAppend (.loc n) [y] μ) Q E = wC μ n fun c => qCl c fun ds => ds.length < sizeLine ∧ Q .non (μ.set n (.lst (ds ++ [y]))) := by
  unfold fAppend lcell wC
  dsimp only
  cases μ.cells[n]? with
  | none => rfl
  | some c => cases c <;> first | exact wR_ite _ _ _ _ | rfl
theorem w_lclear (n : Nat) (Q : D → Mem → Prop) : wR (fLClear (.loc n) [] μ) Q E = wC μ n fun c => qCl c fun ds => Q .non (μ.set n (.lst [])) := by
  unfold fLClear lcell wC
  dsimp only
  cases μ.cells[n]? with
  | none => rfl
  | some c => cases c <;> rfl
theorem tyS_str : tyS (.str x) μ = true := rfl
theorem tyL_lst (ds : List D) : tyL (.lst ds) μ = true := rfl
theorem tyL_of {μ : Mem} {n : Nat} {ds : List D} (h : μ.cells[n]? = some (.lst ds)) : tyL (.loc n) μ = true := by unfold tyL lstOf; dsimp only; rw [h]; rfl
theorem tyDc_of {μ : Mem} {n : Nat} {ds : List (Key × D)} (h : μ.cells[n]? = some (.dK ds)) (hl : μ.lkd n = false) : tyDc (.loc n) μ = true := by unfold tyDc; dsimp only; rw [h]; simp [hl]
theorem w_dclear {μ : Mem} {n : Nat} {ds : List (Key × D)} (h : μ.cells[n]? = some (.dK ds)) (hl : μ.lkd n = false) (Q : D → Mem → Prop) : wR (fDClear (.loc n) [] μ) Q E = Q .non (μ.set n (.dK [])) := by
  unfold fDClear dcell; dsimp only; rw [h]; simp [hl, wR]
theorem insOf_of {μ : Mem} {n : Nat} {C : Addr} {fs : List (Str × D)} (h : μ.cells[n]? = some (.ins C fs)) : insOf μ (.loc n) = some (C, fs) := by unfold insOf; dsimp only; rw [h]
theorem w_in_dict {μ : Mem} {n : Nat} {ds : List (Key × D)} (h : μ.cells[n]? = some (.dK ds)) {d : D} {k : Key} (hk : keyOf d = some k) (Q : Bool → Mem → Prop) : wR (cIn d (.loc n) μ) Q E = Q (kget ds k).isSome μ := by
  have e : cIn d (.loc n) μ = .ok (kget ds k).isSome μ := by
    unfold cIn
    have : signIn d (.loc n) = none := by cases d <;> rfl
    rw [this]
    have : dfind μ (.loc n) d = some (kget ds k) := by unfold dfind dictOf; dsimp only; rw [h]; simp [hk]
    rw [this]
  rw [e]; rfl
theorem w_notIn_dict {μ : Mem} {n : Nat} {ds : List (Key × D)} (h : μ.cells[n]? = some (.dK ds)) {d : D} {k : Key} (hk : keyOf d = some k) (Q : Bool → Mem → Prop) : wR (cNotIn d (.loc n) μ) Q E = Q (!(kget ds k).isSome) μ := by
  unfold cNotIn; rw [wR_bind, w_in_dict _ h hk]; rfl
end
theorem w_in_dictS {μ : Mem} {n : Nat} {ds : List (Key × D)} (h : μ.cells[n]? = some (.dK ds)) (x : Str) (Q : Bool → Mem → Prop) (E : EP) : wR (cIn (.str x) (.loc n) μ) Q E = Q (kget ds (.inr x)).isSome μ := w_in_dict E h rfl Q
theorem w_in_dictI {μ : Mem} {n : Nat} {ds : List (Key × D)} (h : μ.cells[n]? = some (.dK ds)) (i : Int) (Q : Bool → Mem → Prop) (E : EP) : wR (cIn (.int i) (.loc n) μ) Q E = Q (kget ds (.inl i)).isSome μ := w_in_dict E h rfl Q
theorem w_notIn_dictS {μ : Mem} {n : Nat} {ds : List (Key × D)} (h : μ.cells[n]? = some (.dK ds)) (x : Str) (Q : Bool → Mem → Prop) (E : EP) : wR (cNotIn (.str x) (.loc n) μ) Q E = Q (!(kget ds (.inr x)).isSome) μ := w_notIn_dict E h rfl Q
theorem w_notIn_dictI {μ : Mem} {n : Nat} {ds : List (Key × D)} (h : μ.cells[n]? = some (.dK ds)) (i : Int) (Q : Bool → Mem → Prop) (E : EP) : wR (cNotIn (.int i) (.loc n) μ) Q E = Q (!(kget ds (.inl i)).isSome) μ := w_notIn_dict E h rfl Q
theorem qMc_ins {C : Addr} {fs : List (Str × D)} {nm : Str} {T : Addr → Option MM} {K : MM → Prop} (h : noFld fs nm = true) : qMc (.ins C fs) nm T K = qO (T C) K := by
  unfold qMc; simp only [h, true_and]; cases T C <;> rfl
theorem look1 {α : Type} (C : Addr) (x : α) (r : List (Addr × α)) (K : α → Prop) : qO (List.lookup C ((C, x) :: r)) K = K x := by simp [List.lookup, qO]
theorem look2 {α : Type} {C C' : Addr} (h : C ≠ C') (x : α) (r : List (Addr × α)) (K : α → Prop) : qO (List.lookup C ((C', x) :: r)) K = qO (List.lookup C r) K := by
  rw [List.lookup_cons, beq_eq_false_iff_ne.mpr h]
def loopP (P : Po) (I : DEnv → Mem → Prop) : Po := { nx := I, rt := P.rt, bk := P.nx, ct := I, er := P.er }
theorem loopP_nx (P : Po) (I : DEnv → Mem → Prop) : (loopP P I).nx = I := rfl
theorem loopP_ct (P : Po) (I : DEnv → Mem → Prop) : (loopP P I).ct = I := rfl
theorem loopP_bk (P : Po) (I : DEnv → Mem → Prop) : (loopP P I).bk = P.nx := rfl
theorem loopP_rt (P : Po) (I : DEnv → Mem → Prop) : (loopP P I).rt = P.rt := rfl
theorem loopP_er (P : Po) (I : DEnv → Mem → Prop) : (loopP P I).er = P.er := rfl
theorem w_loop {g : MG} {body : MS} {gd : Mem → Bool} {P : Po} (I : List D → DEnv → Mem → Prop) (hg : ∀ ds δ μ, I ds δ μ → gd μ = true)
    (hs : ∀ d ds δ μ, I (d :: ds) δ μ → wG g d δ μ (fun δ1 μ1 => wS body δ1 μ1 (loopP P (I ds))) noE) (he : ∀ δ μ, I [] δ μ → P.nx δ μ) :
    ∀ (ds : List D) (δ : DEnv) (μ : Mem), I ds δ μ → wS (mloop g body gd ds) δ μ P
  | [], δ, μ, h => by
    unfold wS mloop; rw [wP_ite]; exact ⟨hg _ _ _ h, he δ μ h⟩
  | d :: ds, δ, μ, h => by
    unfold wS mloop; rw [wP_ite]
    refine ⟨hg _ _ _ h, ?_⟩
    have z := hs d ds δ μ h
    unfold wG at z
    cases e : g d δ μ with
    | err C w μ1 => rw [e] at z; exact z.elim
    | bad => rw [e] at z; exact z
    | ok δ1 μ1 =>
      rw [e] at z
      have z : wP (body δ1 μ1) (loopP P (I ds)) := z
      dsimp only
      cases e2 : body δ1 μ1 with
      | nx δ2 μ2 => rw [e2] at z; exact w_loop I hg hs he ds δ2 μ2 z
      | ct δ2 μ2 => rw [e2] at z; exact w_loop I hg hs he ds δ2 μ2 z
      | bk δ2 μ2 => rw [e2] at z; exact z
      | rt d2 μ2 => rw [e2] at z; exact z
      | err C w δ2 μ2 => rw [e2] at z; exact z
      | bad => rw [e2] at z; exact z
theorem w_loopM {α : Type} {f : α → D} {g : MG} {body : MS} {gd : Mem → Bool} {P : Po} (I : List α → DEnv → Mem → Prop) (hg : ∀ ds δ μ, I ds δ μ → gd μ = true)
    (hs : ∀ a r δ μ, I (a :: r) δ μ → wG g (f a) δ μ (fun δ1 μ1 => wS body δ1 μ1 (loopP P (I r))) noE) (he : ∀ δ μ, I [] δ μ → P.nx δ μ)
    (xs : List α) (δ : DEnv) (μ : Mem) (h : I xs δ μ) : wS (mloop g body gd (xs.map f)) δ μ P := by
  refine w_loop (fun ds δ μ => ∃ xs : List α, ds = xs.map f ∧ I xs δ μ) (fun ds δ μ ⟨_, _, h⟩ => hg _ _ _ h) ?_ ?_ _ δ μ ⟨xs, rfl, h⟩
  · rintro d ds δ μ ⟨ys, e, h⟩
    cases ys with
    | nil => cases e
    | cons a r =>
      cases e
      have z := hs a r δ μ h
      unfold wG at z ⊢
      refine wR.imp z fun δ1 μ1 z => ?_
      refine wP.imp z ?_ ?_ ?_ ?_ ?_
      · exact fun δ μ h => ⟨r, rfl, h⟩
      · exact fun _ _ h => h
      · exact fun _ _ h => h
      · exact fun δ μ h => ⟨r, rfl, h⟩
      · exact fun _ _ _ _ h => h
  · rintro δ μ ⟨ys, e, h⟩
    cases ys with
    | nil => exact he δ μ h
    | cons a r => cases e
theorem w_range {g : MG} {body : MS} {P : Po} {lo : Int} {n : Nat} (I : Nat → DEnv → Mem → Prop) (δ : DEnv) (μ : Mem) (h0 : I 0 δ μ)
    (hs : ∀ i δ μ, i < n → I i δ μ → wG g (.int (lo + (i : Nat))) δ μ (fun δ1 μ1 => wS body δ1 μ1 (loopP P (I (i + 1)))) noE) (he : ∀ δ μ, I n δ μ → P.nx δ μ) :
    wS (mloop g body (fun _ => true) (rngItems lo n)) δ μ P := by
  unfold rngItems
  refine w_loopM (f := fun i : Nat => D.int (lo + (i : Nat))) (fun xs δ μ => ∃ k, k ≤ n ∧ xs = (List.range n).drop k ∧ I k δ μ) (fun _ _ _ _ => rfl) ?_ ?_ _ δ μ ⟨0, Nat.zero_le _, by simp, h0⟩
  · rintro a r δ μ ⟨k, hk, e, h⟩
    have hlt : k < n := by
      rcases Nat.lt_or_ge k n with h | h
      · exact h
      · rw [List.drop_eq_nil_of_le (by simpa using h)] at e; cases e
    rw [List.drop_eq_getElem_cons (by simpa using hlt)] at e
    simp only [List.cons.injEq, List.getElem_range] at e
    obtain ⟨rfl, rfl⟩ := e
    have z := hs a δ μ hlt h
    unfold wG at z ⊢
    refine wR.imp z fun δ1 μ1 z => wP.imp z ?_ ?_ ?_ ?_ ?_
    · exact fun δ μ h => ⟨a + 1, hlt, rfl, h⟩
    · exact fun _ _ h => h
    · exact fun _ _ h => h
    · exact fun δ μ h => ⟨a + 1, hlt, rfl, h⟩
    · exact fun _ _ _ _ h => h
  · rintro δ μ ⟨k, hk, e, h⟩
    have : k = n := by
      rcases Nat.lt_or_ge k n with h | h
      · have := congrArg List.length e
        simp at this
        omega
      · omega
    subst this
    exact he δ μ h
theorem w_comp {g : MG} {mt : MX Bool} {me : ME} {gd : Mem → Bool} {δ : DEnv} (I : List D → List D → Mem → Prop) (hg : ∀ ds ys μ, I ds ys μ → gd μ = true)
    (hs : ∀ d ds ys μ, I (d :: ds) ys μ → wG g d δ μ (fun δ1 μ1 => wE mt δ1 μ1 (fun b μ2 => if b = true then wE me δ1 μ2 (fun y μ3 => I ds (ys ++ [y]) μ3) noE else I ds ys μ2) noE) noE) :
    ∀ (ds ys : List D) (μ : Mem) (Q : List D → Mem → Prop) (E : EP), I ds ys μ → (∀ zs μ, I [] (ys ++ zs) μ → Q zs μ) → wR (compL g mt me gd δ ds μ) Q E
  | [], ys, μ, Q, E, h, hq => by
    unfold compL; rw [wR_ite]; exact ⟨hg _ _ _ h, hq [] μ (by simpa using h)⟩
  | d :: ds, ys, μ, Q, E, h, hq => by
    unfold compL; rw [wR_ite]
    refine ⟨hg _ _ _ h, ?_⟩
    have z := hs d ds ys μ h
    unfold wG at z
    cases e : g d δ μ with
    | err C w μ1 => rw [e] at z; exact z.elim
    | bad => rw [e] at z; exact z.elim
    | ok δ1 μ1 =>
      rw [e] at z
      have z : wR (mt δ1 μ1) _ noE := z
      dsimp only
      cases e1 : mt δ1 μ1 with
      | err C w μ1 => rw [e1] at z; exact z.elim
      | bad => rw [e1] at z; exact z.elim
      | ok b μ2 =>
        rw [e1] at z
        cases b with
        | false => exact w_comp I hg hs ds ys μ2 Q E z hq
        | true =>
          have z : wR (me δ1 μ2) _ noE := z
          dsimp only
          cases e2 : me δ1 μ2 with
          | err C w μ1 => rw [e2] at z; exact z.elim
          | bad => rw [e2] at z; exact z.elim
          | ok y μ3 =>
            rw [e2] at z
            dsimp only
            have ih := w_comp I hg hs ds (ys ++ [y]) μ3 (fun zs μ4 => Q (y :: zs) μ4) noE z (fun zs μ4 h4 => hq (y :: zs) μ4 (by simpa using h4))
            obtain ⟨zs, μ4, e4, q⟩ := wR.of ih
            rw [e4]; exact q
theorem wE_yes (δ : DEnv) (μ : Mem) (Q : Bool → Mem → Prop) (E : EP) : wE myes δ μ Q E = Q true μ := rfl
theorem w_compR {g : MG} {mt : MX Bool} {me : ME} {δ : DEnv} {μ : Mem} {lo : Int} {n : Nat} {Q : List D → Mem → Prop} {E : EP} (I : Nat → List D → Mem → Prop) (h0 : I 0 [] μ)
    (hs : ∀ i ys μ, i < n → I i ys μ → wG g (.int (lo + (i : Nat))) δ μ (fun δ1 μ1 => wE mt δ1 μ1 (fun b μ2 => if b = true then wE me δ1 μ2 (fun y μ3 => I (i + 1) (ys ++ [y]) μ3) noE else I (i + 1) ys μ2) noE) noE)
    (he : ∀ ys μ, I n ys μ → Q ys μ) : wR (compL g mt me (fun _ => true) δ (rngItems lo n) μ) Q E := by
  refine w_comp (δ := δ) (fun ds ys μ => ∃ k, k ≤ n ∧ ds = ((List.range n).drop k).map (fun i : Nat => D.int (lo + (i : Nat))) ∧ I k ys μ) (fun _ _ _ _ => rfl) ?_ _ [] μ Q E ⟨0, Nat.zero_le _, by simp [rngItems], h0⟩ ?_
  · rintro d r ys μ ⟨k, hk, e, h⟩
    have hlt : k < n := by
      rcases Nat.lt_or_ge k n with h | h
      · exact h
      · rw [List.drop_eq_nil_of_le (by simpa using h)] at e; cases e
    rw [List.drop_eq_getElem_cons (by simpa using hlt), List.map_cons] at e
    simp only [List.cons.injEq, List.getElem_range] at e
    obtain ⟨rfl, rfl⟩ := e
    have z := hs k ys μ hlt h
    unfold wG wE at z ⊢
    refine wR.imp z fun δ1 μ1 z => wR.imp z fun b μ2 z => ?_
    cases b with
    | true => exact wR.imp z fun y μ3 h => ⟨k + 1, hlt, rfl, h⟩
    | false => exact ⟨k + 1, hlt, rfl, z⟩
  · rintro zs μ ⟨k, hk, e, h⟩
    have : k = n := by
      rcases Nat.lt_or_ge k n with h | h
      · have := congrArg List.length e
        simp at this
        omega
      · omega
    subst this
    exact he zs μ (by simpa using h)
theorem wE_comp (vs : List Nat) (mi : MX Its0) (g : MG) (mt : MX Bool) (me : ME) (δ : DEnv) (μ : Mem) (E : EP) (Q : List D → Mem → Prop) : wE (mcomp vs mi g mt me) δ μ Q E = wE mi δ μ (fun it μ1 => it.1.length ≤ sizeLine ∧ wR (compL g mt me it.2 (wipeD δ vs) it.1 μ1) Q E) E := by
  unfold mcomp; rw [wE_bind]; congr; funext it μ1; exact wR_ite _ _ _ _
theorem w_compP {g : MG} {mt : MX Bool} {me : ME} {gd : Mem → Bool} {δ : DEnv} {μ : Mem} (f : D → Option D) (hg : gd μ = true) (ds : List D) (Q : List D → Mem → Prop) (E : EP)
    (hs : ∀ d ∈ ds, wG g d δ μ (fun δ1 μ1 => wE mt δ1 μ1 (fun b μ2 => if b = true then wE me δ1 μ2 (fun y μ3 => f d = some y ∧ μ3 = μ) noE else f d = none ∧ μ2 = μ) noE) noE)
    (hq : Q (ds.filterMap f) μ) : wR (compL g mt me gd δ ds μ) Q E := by
  refine w_comp (δ := δ) (fun rest ys μ' => μ' = μ ∧ ∃ pre, ds = pre ++ rest ∧ ys = pre.filterMap f) (fun _ _ _ h => h.1 ▸ hg) ?_ ds [] μ Q E ⟨rfl, [], rfl, rfl⟩ ?_
  · rintro d r ys μ' ⟨rfl, pre, e, rfl⟩
    have z := hs d (by rw [e]; simp)
    unfold wG wE at z ⊢
    refine wR.imp z fun δ1 μ1 z => wR.imp z fun b μ2 z => ?_
    cases b with
    | true => exact wR.imp z fun y μ3 ⟨h1, h2⟩ => ⟨h2, pre ++ [d], by simp [e], by simp [h1]⟩
    | false => exact ⟨z.2, pre ++ [d], by simp [e], by simp [z.1]⟩
  · rintro zs μ' ⟨rfl, pre, e, h⟩
    simp at e h
    rw [h, ← e]; exact hq
theorem w_compMap {α : Type} {f : α → D} {g : MG} {mt : MX Bool} {me : ME} {gd : Mem → Bool} {δ : DEnv} {μ : Mem} {xs : List α} {Q : List D → Mem → Prop} {E : EP} (h : α → D) (hg : gd μ = true)
    (hs : ∀ x ∈ xs, wG g (f x) δ μ (fun δ1 μ1 => wE mt δ1 μ1 (fun b μ2 => b = true ∧ wE me δ1 μ2 (fun y μ3 => y = h x ∧ μ3 = μ) noE) noE) noE)
    (hq : Q (xs.map h) μ) : wR (compL g mt me gd δ (xs.map f) μ) Q E := by
  refine w_comp (δ := δ) (fun rest ys μ' => μ' = μ ∧ ∃ pre post, xs = pre ++ post ∧ rest = post.map f ∧ ys = pre.map h) (fun _ _ _ h => h.1 ▸ hg) ?_ _ [] μ Q E ⟨rfl, [], xs, rfl, rfl, rfl⟩ ?_
  · rintro d r ys μ' ⟨rfl, pre, post, e, e2, rfl⟩
    cases post with
    | nil => cases e2
    | cons x post =>
      cases e2
      have z := hs x (by rw [e]; simp)
      unfold wG wE at z ⊢
      refine wR.imp z fun δ1 μ1 z => wR.imp z fun b μ2 z => ?_
      obtain ⟨rfl, z⟩ := z
      refine wR.imp z fun y μ3 z => ?_
      obtain ⟨rfl, rfl⟩ := z
      exact ⟨rfl, pre ++ [x], post, by simp [e], rfl, by simp⟩
  · rintro zs μ' ⟨rfl, pre, post, e, e2, h2⟩
    cases post with
    | cons x post => cases e2
    | nil =>
      simp at e h2
      subst e h2
      exact hq
theorem w_compFil {α : Type} {f : α → D} {g : MG} {mt : MX Bool} {me : ME} {gd : Mem → Bool} {δ : DEnv} {μ : Mem} {xs : List α} {Q : List D → Mem → Prop} {E : EP} (p : α → Bool) (h : α → D) (hg : gd μ = true)
    (hs : ∀ x ∈ xs, wG g (f x) δ μ (fun δ1 μ1 => wE mt δ1 μ1 (fun b μ2 => b = p x ∧ μ2 = μ ∧ (p x = true → wE me δ1 μ (fun y μ3 => y = h x ∧ μ3 = μ) noE)) noE) noE)
    (hq : Q ((xs.filter p).map h) μ) : wR (compL g mt me gd δ (xs.map f) μ) Q E := by
  refine w_comp (δ := δ) (fun rest ys μ' => μ' = μ ∧ ∃ pre post, xs = pre ++ post ∧ rest = post.map f ∧ ys = (pre.filter p).map h) (fun _ _ _ h => h.1 ▸ hg) ?_ _ [] μ Q E ⟨rfl, [], xs, rfl, rfl, rfl⟩ ?_
  · rintro d r ys μ' ⟨rfl, pre, post, e, e2, rfl⟩
    cases post with
    | nil => cases e2
    | cons x post =>
      cases e2
      have z := hs x (by rw [e]; simp)
      unfold wG wE at z ⊢
      refine wR.imp z fun δ1 μ1 z => wR.imp z fun b μ2 z => ?_
      obtain ⟨rfl, rfl, z⟩ := z
      cases hp : p x with
      | true =>
        refine wR.imp (z hp) fun y μ3 z => ?_
        obtain ⟨rfl, rfl⟩ := z
        exact ⟨rfl, pre ++ [x], post, by simp [e], rfl, by simp [hp]⟩
      | false => exact ⟨rfl, pre ++ [x], post, by simp [e], rfl, by simp [hp]⟩
  · rintro zs μ' ⟨rfl, pre, post, e, e2, h2⟩
    cases post with
    | cons x post => cases e2
    | nil =>
      simp at e h2
      subst e h2
      exact hq
theorem wE_revL (m : ME) (δ : DEnv) (μ : Mem) (Q : List D → Mem → Prop) (E : EP) : wE (mrevL m) δ μ Q E = wE m δ μ (fun d μ1 => qO (lstOf μ1 d) fun ds => Q ds.reverse μ1) E := by
  unfold mrevL; rw [wE_bind]; congr; funext d μ1
  show wR (match lstOf μ1 d with | some ds => _ | none => _) Q E = qO (lstOf μ1 d) _
  cases lstOf μ1 d <;> rfl
theorem qO_lst (μ : Mem) (ds : List D) (Q : List D → Prop) : qO (lstOf μ (.lst ds)) Q = Q ds := rfl
theorem isi_non_int  (μ : Mem) (Q : D → Mem → Prop) (E : EP) : wR (fIsi [.non, .ty "int"] μ) Q E = Q (.bl false) μ := by kernel_rfl
theorem isi_non_bool  (μ : Mem) (Q : D → Mem → Prop) (E : EP) : wR (fIsi [.non, .ty "bool"] μ) Q E = Q (.bl false) μ := by kernel_rfl
theorem isi_non_str  (μ : Mem) (Q : D → Mem → Prop) (E : EP) : wR (fIsi [.non, .ty "str"] μ) Q E = Q (.bl false) μ := by kernel_rfl
theorem isi_non_tuple  (μ : Mem) (Q : D → Mem → Prop) (E : EP) : wR (fIsi [.non, .ty "tuple"] μ) Q E = Q (.bl false) μ := by kernel_rfl
theorem isi_non_list  (μ : Mem) (Q : D → Mem → Prop) (E : EP) : wR (fIsi [.non, .ty "list"] μ) Q E = Q (.bl false) μ := by kernel_rfl
theorem isi_non_dict  (μ : Mem) (Q : D → Mem → Prop) (E : EP) : wR (fIsi [.non, .ty "dict"] μ) Q E = Q (.bl false) μ := by kernel_rfl
theorem isi_bl_int (b : Bool) (μ : Mem) (Q : D → Mem → Prop) (E : EP) : wR (fIsi [(.bl b), .ty "int"] μ) Q E = Q (.bl true) μ := by kernel_rfl
theorem isi_bl_bool (b : Bool) (μ : Mem) (Q : D → Mem → Prop) (E : EP) : wR (fIsi [(.bl b), .ty "bool"] μ) Q E = Q (.bl true) μ := by kernel_rfl
theorem isi_bl_str (b : Bool) (μ : Mem) (Q : D → Mem → Prop) (E : EP) : wR (fIsi [(.bl b), .ty "str"] μ) Q E = Q (.bl false) μ := by kernel_rfl
theorem isi_bl_tuple (b : Bool) (μ : Mem) (Q : D → Mem → Prop) (E : EP) : wR (fIsi [(.bl b), .ty "tuple"] μ) Q E = Q (.bl false) μ := by kernel_rfl
theorem isi_bl_list (b : Bool) (μ : Mem) (Q : D → Mem → Prop) (E : EP) : wR (fIsi [(.bl b), .ty "list"] μ) Q E = Q (.bl false) μ := by kernel_rfl
theorem isi_bl_dict (b : Bool) (μ : Mem) (Q : D → Mem → Prop) (E : EP) : wR (fIsi [(.bl b), .ty "dict"] μ) Q E = Q (.bl false) μ := by kernel_rfl
theorem isi_int_int (i : Int) (μ : Mem) (Q : D → Mem → Prop) (E : EP) : wR (fIsi [(.int i), .ty "int"] μ) Q E = Q (.bl true) μ := by kernel_rfl
theorem isi_int_bool (i : Int) (μ : Mem) (Q : D → Mem → Prop) (E : EP) : wR (fIsi [(.int i), .ty "bool"] μ) Q E = Q (.bl false) μ := by kernel_rfl
theorem isi_int_str (i : Int) (μ : Mem) (Q : D → Mem → Prop) (E : EP) : wR (fIsi [(.int i), .ty "str"] μ) Q E = Q (.bl false) μ := by kernel_rfl
theorem isi_int_tuple (i : Int) (μ : Mem) (Q : D → Mem → Prop) (E : EP) : wR (fIsi [(.int i), .ty "tuple"] μ) Q E = Q (.bl false) μ := by kernel_rfl
theorem isi_int_list (i : Int) (μ : Mem) (Q : D → Mem → Prop) (E : EP) : wR (fIsi [(.int i), .ty "list"] μ) Q E = Q (.bl false) μ := by kernel_rfl
theorem isi_int_dict (i : Int) (μ : Mem) (Q : D → Mem → Prop) (E : EP) : wR (fIsi [(.int i), .ty "dict"] μ) Q E = Q (.bl false) μ := by kernel_rfl
theorem isi_str_int (x : Str) (μ : Mem) (Q : D → Mem → Prop) (E : EP) : wR (fIsi [(.str x), .ty "int"] μ) Q E = Q (.bl false) μ := by kernel_rfl
theorem isi_str_bool (x : Str) (μ : Mem) (Q : D → Mem → Prop) (E : EP) : wR (fIsi [(.str x), .ty "bool"] μ) Q E = Q (.bl false) μ := by kernel_rfl
theorem isi_str_str (x : Str) (μ : Mem) (Q : D → Mem → Prop) (E : EP) : wR (fIsi [(.str x), .ty "str"] μ) Q E = Q (.bl true) μ := by kernel_rfl
theorem isi_str_tuple (x : Str) (μ : Mem) (Q : D → Mem → Prop) (E : EP) : wR (fIsi [(.str x), .ty "tuple"] μ) Q E = Q (.bl false) μ := by kernel_rfl
theorem isi_str_list (x : Str) (μ : Mem) (Q : D → Mem → Prop) (E : EP) : wR (fIsi [(.str x), .ty "list"] μ) Q E = Q (.bl false) μ := by kernel_rfl
theorem isi_str_dict (x : Str) (μ : Mem) (Q : D → Mem → Prop) (E : EP) : wR (fIsi [(.str x), .ty "dict"] μ) Q E = Q (.bl false) μ := by kernel_rfl
theorem isi_tup_int (ds : List D) (μ : Mem) (Q : D → Mem → Prop) (E : EP) : wR (fIsi [(.tup ds), .ty "int"] μ) Q E = Q (.bl false) μ := by kernel_rfl
theorem isi_tup_bool (ds : List D) (μ : Mem) (Q : D → Mem → Prop) (E : EP) : wR (fIsi [(.tup ds), .ty "bool"] μ) Q E = Q (.bl false) μ := by kernel_rfl
theorem isi_tup_str (ds : List D) (μ : Mem) (Q : D → Mem → Prop) (E : EP) : wR (fIsi [(.tup ds), .ty "str"] μ) Q E = Q (.bl false) μ := by kernel_rfl
theorem isi_tup_tuple (ds : List D) (μ : Mem) (Q : D → Mem → Prop) (E : EP) : wR (fIsi [(.tup ds), .ty "tuple"] μ) Q E = Q (.bl true) μ := by kernel_rfl
theorem isi_tup_list (ds : List D) (μ : Mem) (Q : D → Mem → Prop) (E : EP) : wR (fIsi [(.tup ds), .ty "list"] μ) Q E = Q (.bl false) μ := by kernel_rfl
theorem isi_tup_dict (ds : List D) (μ : Mem) (Q : D → Mem → Prop) (E : EP) : wR (fIsi [(.tup ds), .ty "dict"] μ) Q E = Q (.bl false) μ := by kernel_rfl
theorem isi_lst_int (ds : List D) (μ : Mem) (Q : D → Mem → Prop) (E : EP) : wR (fIsi [(.lst ds), .ty "int"] μ) Q E = Q (.bl false) μ := by kernel_rfl
theorem isi_lst_bool (ds : List D) (μ : Mem) (Q : D → Mem → Prop) (E : EP) : wR (fIsi [(.lst ds), .ty "bool"] μ) Q E = Q (.bl false) μ := by kernel_rfl
theorem isi_lst_str (ds : List D) (μ : Mem) (Q : D → Mem → Prop) (E : EP) : wR (fIsi [(.lst ds), .ty "str"] μ) Q E = Q (.bl false) μ := by kernel_rfl
theorem isi_lst_tuple (ds : List D) (μ : Mem) (Q : D → Mem → Prop) (E : EP) : wR (fIsi [(.lst ds), .ty "tuple"] μ) Q E = Q (.bl false) μ := by kernel_rfl
theorem isi_lst_list (ds : List D) (μ : Mem) (Q : D → Mem → Prop) (E : EP) : wR (fIsi [(.lst ds), .ty "list"] μ) Q E = Q (.bl true) μ := by kernel_rfl
theorem isi_lst_dict (ds : List D) (μ : Mem) (Q : D → Mem → Prop) (E : EP) : wR (fIsi [(.lst ds), .ty "dict"] μ) Q E = Q (.bl false) μ := by kernel_rfl
theorem w_all_lst (g : List Bool → Bool) (ds : List D) (μ : Mem) (Q : D → Mem → Prop) (E : EP) : wR (fAll g [.lst ds] μ) Q E = qO (blsOf ds) fun bs => Q (.bl (g bs)) μ := by
  show wR (match blsOf ds with | some bs => _ | none => _) Q E = qO (blsOf ds) _
  cases blsOf ds <;> rfl
theorem blsOf_map {α : Type} (p : α → Bool) : ∀ xs : List α, blsOf (xs.map fun x => .bl (p x)) = some (xs.map p)
  | [] => rfl
  | x :: xs => by simp [blsOf, blsOf_map p xs]
def nice : Nat → D → Bool
  | 0, _ => false
  | n + 1, .tup ds => ds.all (nice n)
  | n + 1, .lst ds => ds.all (nice n)
  | _ + 1, .str x => PyData.strOk x
  | _ + 1, .loc _ => false
  | _ + 1, .sta _ => false
  | _ + 1, .ty _ => false
  | _ + 1, _ => true
theorem mapM_self {f : D → Option D} : ∀ {ds : List D}, (∀ d ∈ ds, f d = some d) → ds.mapM f = some ds
  | [], _ => rfl
  | d :: ds, h => by
    rw [List.mapM_cons, h d (by simp), mapM_self fun e he => h e (by simp [he])]; rfl
theorem rsv_nice (μ : Mem) : ∀ (n : Nat) (d : D), nice n d = true → rsv μ n d = some d
  | 0, d, h => by cases h
  | n + 1, d, h => by
    cases d with
    | tup ds =>
      have h : ds.all (nice n) = true := h
      show (ds.mapM (rsv μ n)).map D.tup = _
      rw [mapM_self fun d hd => rsv_nice μ n d (List.all_eq_true.mp h d hd)]; rfl
    | lst ds =>
      have h : ds.all (nice n) = true := h
      show (ds.mapM (rsv μ n)).map D.lst = _
      rw [mapM_self fun d hd => rsv_nice μ n d (List.all_eq_true.mp h d hd)]; rfl
    | loc _ => cases h
    | sta _ => cases h
    | ty _ => cases h
    | _ => rfl
theorem toPys_map : ∀ ds : List D, toPys ds = ds.map toPy
  | [] => rfl
  | d :: ds => by rw [toPys, toPys_map ds]; rfl
theorem lay_nice : ∀ (n : Nat) (d : D), nice n d = true → (toPy d).canLay0 = true ∧ (toPy d).depth ≤ n
  | 0, d, h => by cases h
  | n + 1, d, h => by
    have all : ∀ ds : List D, ds.all (nice n) = true → PyData.canLayAll0 (toPys ds) = true ∧ PyData.depthAll (toPys ds) ≤ n := fun ds => by
      induction ds with
      | nil => intro _; simp [toPys, PyData.canLayAll0, PyData.depthAll]
      | cons d ds ih =>
        intro h
        simp only [List.all_cons, Bool.and_eq_true] at h
        have a := lay_nice n d h.1
        have b := ih h.2
        simp only [toPys, PyData.canLayAll0, PyData.depthAll, a.1, b.1, Bool.and_self, true_and]
        omega
    cases d with
    | tup ds => have := all ds h; simp only [toPy, PyData.canLay0, PyData.depth, this.1, true_and]; omega
    | lst ds => have := all ds h; simp only [toPy, PyData.canLay0, PyData.depth, this.1, true_and]; omega
    | loc _ => cases h
    | sta _ => cases h
    | ty _ => cases h
    | str x =>
      have h : PyData.strOk x = true := h
      simp [toPy, PyData.canLay0, PyData.depth, h]
    | _ => simp [toPy, PyData.canLay0, PyData.depth]
theorem fits_nice {n : Nat} {d : D} (h : nice n d = true) (hn : n ≤ 64) : d.fits = true := by
  have := lay_nice n d h
  unfold D.fits SeqAt.shaped
  simp only [this.1, Bool.true_and, decide_eq_true_eq]
  omega
theorem dcell_nice {μ : Mem} {n : Nat} {d : D} (h : nice n d = true) : dcell μ d = none := by
  cases d with
  | loc k => cases n <;> cases h
  | _ => rfl
theorem w_eq_nice {μ : Mem} {d e : D} (hd : nice 8 d = true) (he : nice 8 e = true) (Q : Bool → Mem → Prop) (E : EP) : wR (cEqA d e μ) Q E = Q (D.eqv d e) μ := by
  refine propext ⟨fun h => ?_, fun h => w_eq_of (.inl (dcell_nice hd)) (rsv_nice μ 8 d hd) (rsv_nice μ 8 e he) (fits_nice hd (by decide)) (fits_nice he (by decide)) E Q h⟩
  have : ∃ b, cEqA d e μ = .ok b μ ∧ b = D.eqv d e := by
    have := w_eq_of (μ := μ) (.inl (dcell_nice hd)) (rsv_nice μ 8 d hd) (rsv_nice μ 8 e he) (fits_nice hd (by decide)) (fits_nice he (by decide)) noE (fun b μ' => b = D.eqv d e ∧ μ' = μ) ⟨rfl, rfl⟩
    obtain ⟨b, μ', e1, e2, rfl⟩ := wR.of this
    exact ⟨b, e1, e2⟩
  obtain ⟨b, e1, rfl⟩ := this
  rw [e1] at h; exact h
theorem w_ne_nice {μ : Mem} {d e : D} (hd : nice 8 d = true) (he : nice 8 e = true) (Q : Bool → Mem → Prop) (E : EP) : wR (cNeA d e μ) Q E = Q (!(D.eqv d e)) μ := by
  unfold cNeA; rw [wR_bind, w_eq_nice hd he]; rfl
theorem pure_nice : ∀ (n : Nat) (d : D), nice n d = true → d.pure = true
  | 0, d, h => by cases h
  | n + 1, d, h => by
    have all : ∀ ds : List D, ds.all (nice n) = true → D.pures ds = true := fun ds => by
      induction ds with
      | nil => intro _; rfl
      | cons d ds ih =>
        intro h
        simp only [List.all_cons, Bool.and_eq_true] at h
        simp only [D.pures, pure_nice n d h.1, ih h.2, Bool.and_self]
    cases d with
    | tup ds => simp only [D.pure]; exact all ds h
    | lst ds => simp only [D.pure]; exact all ds h
    | loc _ => cases h
    | sta _ => cases h
    | ty _ => cases h
    | _ => rfl
theorem eqv_nice {n : Nat} {d : D} (h : nice n d = true) : D.eqv d d = true := D.eqv_refl d (pure_nice n d h)
end Doz
end
section
namespace Doz
open PySem L2
open TL (tl ext_tl tl_append)
def SrcAt (μ : Mem) (n : Nat) (B : Int) : Prop := ∃ a b c : Int, μ.cells[n]? = some (.lst [.int a, .int b, .int c]) ∧ 0 ≤ b ∧ b < 2 ^ 50 ∧ 0 ≤ c ∧ c ≤ B
local macro_rules | `(tactic| simp_arith only [$xs,*]) => `(tactic| simp -failIfUnchanged -implicitDefEqProofs (disch := (first | (simp only [Doz.len_push, Doz.len_set]; omega) | omega | assumption)) only [↓wR_ok, ↓wR_err, ↓wE_var0, ↓wE_varS, ↓wE_C, ↓wE_op, ↓wE_cmp, ↓wE_bl, ↓qB_bl, ↓wE_asB, ↓wE_and, ↓wE_or, ↓wE_not, ↓wE_andV, ↓wE_orV, ↓wE_notV, ↓wE_if, ↓wE_nil, ↓wE_cons, ↓wE_fz, ↓wE_lc, ↓wE_tup, ↓wE_lst, ↓wE_call, ↓wE_nopart, ↓qI_int, ↓wE_part, ↓wE_slice, ↓wE_fld, ↓wE_dnew, ↓wE_iter, ↓wE_rev, ↓wE_pos, ↓wE_kws, ↓wE_noa, ↓wE_both, ↓wE_fn, ↓wE_mth, ↓qN_non, ↓wE_mk, ↓wE_meth, ↓wE_neg, ↓wE_chain, ↓wE_comp, ↓wS_nx, ↓wS_bk, ↓wS_ct, ↓wS_seq, ↓wS_drop, ↓wS_ret, ↓wS_retN, ↓wS_if, ↓wS_asg, ↓qL_loc, ↓qCl_lst, ↓wS_retFz, ↓wS_raise, ↓wS_for, ↓wS_try, ↓wG_set0, ↓wG_setS, ↓wG_then, ↓wG_sub, ↓wG_fld, ↓qT_tup, ↓wG_tup, ↓wGs_nil, ↓wGs_cons, ↓endB_nx, ↓endB_rt, ↓endB_er, ↓endB_bk, ↓endB_ct, ↓loopP_nx, ↓loopP_ct, ↓loopP_bk, ↓loopP_rt, ↓loopP_er, ↓qO_some, ↓qO_at0, ↓qO_at1, ↓qO_at2, ↓qO_at3, ↓qO_at4, ↓qO_at5, ↓w_add_int, ↓w_add_str, ↓w_add_tup, ↓w_add_lst, ↓w_sub, ↓w_mod, ↓w_div, ↓w_mul, ↓w_pow, ↓w_band, ↓w_lt, ↓w_le, ↓w_gt, ↓w_ge, ↓w_is, ↓w_isNot, ↓nonN, ↓nonI, ↓nonS, ↓nonT, ↓nonL, ↓nonLoc, ↓w_eq_int, ↓w_ne_int, ↓w_eq_str, ↓w_ne_str, ↓qIx_lst, ↓qIx_dK, ↓qIxS_dK, ↓w_ix_loc, ↓w_ix_locS, ↓w_ix_lst, ↓w_ix_tup, ↓w_ix_str, ↓qLS_0, ↓qLS_1, ↓qLS_2, ↓qLS_3, ↓qSet_lst, ↓qSet_dK, ↓qSetS_dK, ↓w_setI, ↓w_setS, ↓qF_ins, ↓w_fld, ↓qSF_ins, ↓w_setF, ↓w_len_str, ↓w_len_lst, ↓w_len_tup, ↓qLen_lst, ↓qLen_dK, ↓w_len_loc, ↓w_max, ↓w_min, ↓w_int_int, ↓w_int_bl, ↓w_str_int, ↓qDc_dK, ↓w_dict, ↓w_tuple_lst, ↓w_tuple_tup, ↓w_tuple_loc, ↓w_list_lst, ↓w_list_tup, ↓w_iter_lst, ↓w_iter_tup, ↓w_iter_str, ↓w_iter_loc, ↓w_rng1, ↓w_rng2, ↓w_sl_str, ↓w_sl_tup, ↓w_sl_lst, ↓w_append, ↓w_lclear, ↓tyS_str, ↓tyL_lst, ↓qM_loc, ↓look1, ↓wC_set, ↓wC_setn, ↓wC_push2, ↓wC_pushn, ↓wE_yes, ↓wE_revL, ↓qO_lst, ↓w_all_lst, ↓w_join_lst, ↓isi_non_int, ↓isi_non_bool, ↓isi_non_str, ↓isi_non_tuple, ↓isi_non_list, ↓isi_non_dict, ↓isi_bl_int, ↓isi_bl_bool, ↓isi_bl_str, ↓isi_bl_tuple, ↓isi_bl_list, ↓isi_bl_dict, ↓isi_int_int, ↓isi_int_bool, ↓isi_int_str, ↓isi_int_tuple, ↓isi_int_list, ↓isi_int_dict, ↓isi_str_int, ↓isi_str_bool, ↓isi_str_str, ↓isi_str_tuple, ↓isi_str_list, ↓isi_str_dict, ↓isi_tup_int, ↓isi_tup_bool, ↓isi_tup_str, ↓isi_tup_tuple, ↓isi_tup_list, ↓isi_tup_dict, ↓isi_lst_int, ↓isi_lst_bool, ↓isi_lst_str, ↓isi_lst_tuple, ↓isi_lst_list, ↓isi_lst_dict, decide_eq_true_eq, beq_iff_eq, Bool.not_eq_true', Bool.not_eq_eq_eq_not, Bool.not_true, Bool.not_false, decide_eq_false_iff_not, beq_eq_false_iff_ne, ne_eq, true_and, and_true, if_true, if_false, ite_true, ite_false, reduceIte, Bool.false_eq_true, not_false_eq_true, not_true_eq_false, Int.reduceLT, Int.reduceLE, Int.reduceToNat, Nat.reduceLT, Nat.reduceLeDiff, Int.reducePow, Nat.reduceAdd, Int.reduceAdd, Int.reduceMul, Int.reduceSub, Int.reduceNeg, Nat.reducePow, Int.reduceEq, Nat.reduceEqDiff, List.length_cons, List.length_nil, PySem.sizeLine_eq, str_len_app, str_len_one, wipeD, List.set_cons_zero, List.set_cons_succ, $xs,*])
theorem draw_ok {c : Cl} {μ : Mem} {n : Nat} {B k : Int} (h : SrcAt μ n B) (hB : B < 2 ^ 40) (hk : 0 < k) (hk2 : k ≤ 10 ^ 60) :
    wR (m_x__law_draw c [.loc n, .int k] μ) (fun v μ' => ∃ d : Int, v = .int d ∧ 0 ≤ d ∧ d < k ∧ SrcAt μ' n (B + 1) ∧ Fr [n] μ μ') noE := by
  obtain ⟨x, y, z, hc, h0, h1, h2, h3⟩ := h
  have hl := at_lt hc
  unfold m_x__law_draw
  rw [w_run]
  show wS (t_x__law_draw c) [some (.loc n), some (.int k), none, none] μ _
  unfold t_x__law_draw
  simp_arith only [↓wC_of hc, ↓wC_set hl]
  split
  · repeat refine And.intro (by (first | exact mulOk (by omega) (by omega) (by omega) (by omega) | exact divOk (by omega) (by omega) | exact powOk (by omega) (by omega) (by omega) (by omega) | exact strOk' (by omega) (by omega) | assumption | omega | decide)) ?_
    refine ⟨_, rfl, Int.emod_nonneg _ (by omega), Int.emod_lt_of_pos _ hk, ⟨_, _, _, (by rw [set_set, at_set hl]), h0, h1, by omega, by omega⟩, (Fr.set1 _ n _).trans (Fr.set1 _ n _)⟩
  · have hp : 0 ≤ (y + 7919 * (z + 1)) ^ 5 % 2147483647 := Int.emod_nonneg _ (by decide)
    have hq : (y + 7919 * (z + 1)) ^ 5 % 2147483647 < 2147483647 := Int.emod_lt_of_pos _ (by decide)
    repeat refine And.intro (by (first | exact mulOk (by omega) (by omega) (by omega) (by omega) | exact divOk (by omega) (by omega) | exact powOk (by omega) (by omega) (by omega) (by omega) | exact strOk' (by omega) (by omega) | assumption | omega | decide)) ?_
    refine ⟨_, rfl, Int.emod_nonneg _ (by omega), Int.emod_lt_of_pos _ hk, ⟨_, _, _, at_set hl, h0, h1, by omega, by omega⟩, Fr.set1 _ n _⟩
theorem source_ok {c : Cl} {μ : Mem} {ns : List Int} {k : Int} (hk : 0 ≤ k) (hk2 : k < 2 ^ 20) (hn : ns.length ≤ 63) :
    wR (m_x__law_source c [.lst (ns.map D.int), .int k] μ) (fun v μ' => v = .loc μ.cells.length ∧ SrcAt μ' μ.cells.length 0 ∧ Fr [] μ μ') noE := by
  unfold m_x__law_source
  rw [w_run]
  show wS (t_x__law_source c) [some (.lst (ns.map D.int)), some (.int k), none, none] μ _
  unfold t_x__law_source
  have fin : ∀ a b : Int, 0 ≤ b → b < 2 ^ 50 → SrcAt (μ.push (.lst [.int a, .int b, .int 0])) μ.cells.length 0 ∧ Fr [] μ (μ.push (.lst [.int a, .int b, .int 0])) := fun a b h1 h2 => ⟨⟨_, _, _, at_push, h1, h2, by omega, by omega⟩, Fr.push _ _ _⟩
  by_cases h0 : ns.length = 0
  · simp_arith only [List.length_map, h0]
    split
    · omega
    · split
      · omega
      · repeat refine And.intro (by (first | exact mulOk (by omega) (by omega) (by omega) (by omega) | exact divOk (by omega) (by omega) | exact powOk (by omega) (by omega) (by omega) (by omega) | exact strOk' (by omega) (by omega) | assumption | omega | decide)) ?_
        exact fin _ _ (by omega) (by omega)
  · obtain ⟨v, hv, _⟩ := atI_mapI (xs := ns) (i := k % ns.length) (Int.emod_nonneg _ (by omega)) (Int.emod_lt_of_pos _ (by omega))
    simp_arith only [List.length_map, ↓qO_of hv]
    have b : 0 ≤ v % 2147483647 ∧ v % 2147483647 < 2147483647 := ⟨Int.emod_nonneg _ (by decide), Int.emod_lt_of_pos _ (by decide)⟩
    split
    · repeat refine And.intro (by (first | exact mulOk (by omega) (by omega) (by omega) (by omega) | exact divOk (by omega) (by omega) | exact powOk (by omega) (by omega) (by omega) (by omega) | exact strOk' (by omega) (by omega) | assumption | omega | decide)) ?_
      split
      · repeat refine And.intro (by (first | exact mulOk (by omega) (by omega) (by omega) (by omega) | exact divOk (by omega) (by omega) | exact powOk (by omega) (by omega) (by omega) (by omega) | exact strOk' (by omega) (by omega) | assumption | omega | decide)) ?_
        split
        · repeat refine And.intro (by (first | exact mulOk (by omega) (by omega) (by omega) (by omega) | exact divOk (by omega) (by omega) | exact powOk (by omega) (by omega) (by omega) (by omega) | exact strOk' (by omega) (by omega) | assumption | omega | decide)) ?_
          exact fin _ _ (by omega) (by omega)
        · repeat refine And.intro (by (first | exact mulOk (by omega) (by omega) (by omega) (by omega) | exact divOk (by omega) (by omega) | exact powOk (by omega) (by omega) (by omega) (by omega) | exact strOk' (by omega) (by omega) | assumption | omega | decide)) ?_
          exact fin _ _ (by omega) (by omega)
      · repeat refine And.intro (by (first | exact mulOk (by omega) (by omega) (by omega) (by omega) | exact divOk (by omega) (by omega) | exact powOk (by omega) (by omega) (by omega) (by omega) | exact strOk' (by omega) (by omega) | assumption | omega | decide)) ?_
        exact fin _ _ (by omega) (by omega)
    · omega
theorem SrcAt.fr {S : List Nat} {μ μ' : Mem} {n : Nat} {B : Int} (h : SrcAt μ n B) (f : Fr S μ μ') (hn : n ∉ S) : SrcAt μ' n B := by
  obtain ⟨a, b, c, h, r⟩ := h
  exact ⟨a, b, c, f.get h hn, r⟩
theorem SrcAt.push {μ : Mem} {n : Nat} {B : Int} (h : SrcAt μ n B) (c : Cell) : SrcAt (μ.push c) n B := h.fr (Fr.push [] μ c) (by simp)
theorem SrcAt.mono {μ : Mem} {n : Nat} {B B' : Int} (h : SrcAt μ n B) (hb : B ≤ B') : SrcAt μ n B' := by
  obtain ⟨a, b, c, h, h1, h2, h3, h4⟩ := h
  exact ⟨a, b, c, h, h1, h2, h3, by omega⟩
theorem SrcAt.lt {μ : Mem} {n : Nat} {B : Int} (h : SrcAt μ n B) : n < μ.cells.length := by obtain ⟨_, _, _, h, _⟩ := h; exact at_lt h
theorem len_tl (x : Str) : x.length = (tl x).length := by simp [Str.length]
theorem cut_tl_lo (x : Str) (k : Nat) : tl (cutS x none (some (k : Int))) = (tl x).take k := by
  show ((tl x).drop 0).take (HT.sIx x.length x.length (some (k : Int)) - 0) = _
  rw [HT.sIx_nat, len_tl]
  simp only [List.drop_zero, Nat.sub_zero]
  rcases Nat.le_total k (tl x).length with h | h
  · rw [Nat.min_eq_left h]
  · rw [Nat.min_eq_right h, List.take_of_length_le h, List.take_of_length_le (Nat.le_refl _)]
theorem cut_tl_hi (x : Str) (k : Nat) : tl (cutS x (some (k : Int)) none) = (tl x).drop k := by
  show ((tl x).drop (HT.sIx x.length 0 (some (k : Int)))).take (x.length - HT.sIx x.length 0 (some (k : Int))) = _
  rw [HT.sIx_nat, len_tl]
  rcases Nat.le_total k (tl x).length with h | h
  · rw [Nat.min_eq_left h, List.take_of_length_le (by simp)]
  · rw [Nat.min_eq_right h, List.drop_of_length_le (Nat.le_refl _), List.drop_of_length_le h]; simp
def Low (x : Str) : Prop := ∀ c ∈ tl x, 97 ≤ c ∧ c ≤ 122
theorem letters_tl : tl ("abcdefghijklmnopqrstuvwxyz" : Str) = (List.range 26).map (97 + ·) := by decide +kernel
theorem letters_len : ("abcdefghijklmnopqrstuvwxyz" : Str).length = 26 := by rw [len_tl, letters_tl]; simp
theorem letter_at {i : Int} (h0 : 0 ≤ i) (h1 : i < 26) : atI ("abcdefghijklmnopqrstuvwxyz" : Str).cps.toList i = some (97 + i.toNat) := by
  have e : ("abcdefghijklmnopqrstuvwxyz" : Str).cps.toList = (List.range 26).map (97 + ·) := letters_tl
  rw [e]
  obtain ⟨v, h, h'⟩ := atI_lt (xs := (List.range 26).map (97 + ·)) h0 (by simpa using h1)
  rw [h, ← h']
  rw [List.getElem?_map, List.getElem?_range (by omega)]; rfl
theorem pigeon {α : Type} [DecidableEq α] : ∀ {l r : List α}, l.Nodup → (∀ a ∈ l, a ∈ r) → l.length ≤ r.length
  | [], r, _, _ => Nat.zero_le _
  | a :: l, r, hn, hs => by
    have ha := hs a (by simp)
    have h := pigeon (l := l) (r := r.erase a) (List.nodup_cons.mp hn).2 fun b hb => by
      refine (List.mem_erase_of_ne fun e => ?_).mpr (hs b (by simp [hb]))
      subst e; exact (List.nodup_cons.mp hn).1 hb
    rw [List.length_erase_of_mem ha] at h
    have := List.length_pos_of_mem ha
    simp only [List.length_cons]; omega
theorem nodup_map_on {α β : Type} {f : α → β} : ∀ {l : List α}, (∀ x ∈ l, ∀ y ∈ l, f x = f y → x = y) → l.Nodup → (l.map f).Nodup
  | [], _, _ => List.nodup_nil
  | a :: l, hi, hn => by
    rw [List.map_cons, List.nodup_cons]
    refine ⟨fun hm => ?_, nodup_map_on (fun x hx y hy => hi x (by simp [hx]) y (by simp [hy])) (List.nodup_cons.mp hn).2⟩
    obtain ⟨b, hb, e⟩ := List.mem_map.mp hm
    have := hi b (by simp [hb]) a (by simp) e
    subst this
    exact (List.nodup_cons.mp hn).1 hb
def putIn (b : Str) (k : Nat) (c : Nat) : Str := cutS b none (some (k : Int)) ++ ⟨#[c]⟩ ++ cutS b (some (k : Int)) none
theorem putIn_tl (b : Str) (k c : Nat) : tl (putIn b k c) = (tl b).take k ++ c :: (tl b).drop k := by
  unfold putIn; rw [tl_append, tl_append, cut_tl_lo, cut_tl_hi]; simp [tl]
theorem putIn_inj {b : Str} {k c d : Nat} (h : putIn b k c = putIn b k d) : c = d := by
  have := congrArg tl h
  rw [putIn_tl, putIn_tl] at this
  simpa using (List.append_cancel_left this)
theorem putIn_len (b : Str) (k c : Nat) : (putIn b k c).length = b.length + 1 := by
  rw [len_tl, putIn_tl, len_tl]; simp; omega
theorem putIn_low {b : Str} {k c : Nat} (hb : Low b) (hc : 97 ≤ c ∧ c ≤ 122) : Low (putIn b k c) := by
  intro d hd
  rw [putIn_tl] at hd
  rcases List.mem_append.mp hd with hd | hd
  · exact hb d (List.mem_of_mem_take hd)
  · rcases List.mem_cons.mp hd with rfl | hd
    · exact hc
    · exact hb d (List.mem_of_mem_drop hd)
def words (xs : List Str) : List D := xs.map D.str
theorem strsOf_words : ∀ xs : List Str, strsOf (xs.map D.str) = some xs
  | [] => rfl
  | x :: xs => by simp [strsOf, strsOf_words xs]
theorem in_words {x : Str} : ∀ {ws : List Str}, ((ws.map D.str).any fun z => D.eqv z (.str x)) = decide (x ∈ ws)
  | [] => by simp
  | w :: ws => by
    rw [List.map_cons, List.any_cons, in_words]
    have : D.eqv (.str w) (.str x) = decide (x = w) := by simp [D.eqv, eq_comm, Bool.beq_eq_decide_eq]
    rw [this]; simp
theorem all_sc_words (ws : List Str) : (ws.map D.str).all D.sc = true := by simp [D.sc]
theorem w_notIn_words {μ : Mem} {n : Nat} {ws : List Str} (h : μ.cells[n]? = some (.lst (ws.map D.str))) (x : Str) (E : EP) (Q : Bool → Mem → Prop) : wR (cNotIn (.str x) (.loc n) μ) Q E = Q (!decide (x ∈ ws)) μ := by
  have e : cIn (.str x) (.loc n) μ = .ok (decide (x ∈ ws)) μ := by
    unfold cIn
    have h1 : signIn (.str x) (.loc n) = none := rfl
    have h2 : dfind μ (.loc n) (.str x) = none := by unfold dfind dictOf; dsimp only; rw [h]; rfl
    have h3 : seqOf μ (.loc n) = some (ws.map D.str) := by unfold seqOf lstOf; dsimp only; rw [h]
    rw [h1, h2]
    dsimp only
    rw [h3]
    dsimp only
    rw [all_sc_words, in_words]
    rfl
  unfold cNotIn; rw [wR_bind, e]; rfl
structure Word (w : Str) : Prop where
  pos : 1 ≤ w.length
  le : w.length ≤ 7
  low : Low w
theorem Low.ok {w : Str} (h : Low w) : PyData.strOk w = true := by
  unfold PyData.strOk
  rw [Array.all_eq_true']
  intro c hc
  have := h c (by simpa [tl] using hc)
  simp; omega
theorem Word.ok {w : Str} (h : Word w) : PyData.strOk w = true := h.low.ok
theorem join_chars (cs : List Nat) : tl (Txt.join ("" : Str) (cs.map fun c => (⟨#[c]⟩ : Str))) = cs := by
  rw [TL.join_eq, TL.tl_join]
  have e : tl ("" : Str) = [] := by decide +kernel
  rw [e]
  have : ∀ cs : List Nat, TL.joinL [] ((cs.map fun c => (⟨#[c]⟩ : Str)).map tl) = cs := fun cs => by
    induction cs with
    | nil => rfl
    | cons c r ih =>
      cases r with
      | nil => rfl
      | cons d r => show [c] ++ ([] ++ TL.joinL [] (List.map tl (List.map (fun c => (⟨#[c]⟩ : Str)) (d :: r)))) = _; rw [List.nil_append, ih]; rfl
  exact this cs
theorem low_nil : Low "" := by intro c hc; rw [show tl ("" : Str) = [] by decide +kernel] at hc; cases hc
def nmE (n : Nat) (k : Int) (p : Nat) (body : Str) (b : Bool) (x6 x7 x8 x9 x10 x11 : Option D) : DEnv := [some (.loc n), some (.int k), some (.str "abcdefghijklmnopqrstuvwxyz"), some (.loc p), some (.str body), some (.bl b), x6, x7, x8, x9, x10, x11]
theorem names_ok {c : Cl} {μ : Mem} {n : Nat} {B k : Int} (h : SrcAt μ n B) (hB : B + 1 + 9 * k < 2 ^ 40) (hB0 : 0 ≤ B) (hk : 0 ≤ k) (hk2 : k ≤ 20) (hl : μ.lk = []) :
    wR (m_x__law_names c [.loc n, .int k] μ) (fun v μ' => ∃ ws : List Str, v = .lst (ws.map D.str) ∧ (ws.length : Int) = k ∧ ws.Nodup ∧ (∀ w ∈ ws, Word w) ∧ SrcAt μ' n (B + 1 + 9 * k) ∧ Fr [n] μ μ') noE := by
  have hn : n < μ.cells.length := by obtain ⟨_, _, _, h, _⟩ := h; exact at_lt h
  unfold m_x__law_names
  rw [w_run]
  show wS (t_x__law_names c) [some (.loc n), some (.int k), none, none, none, none, none, none, none, none, none, none] μ _
  unfold t_x__law_names
  simp_arith only [id_eq]
  refine (draw_ok (h.push _) (by omega) (by omega) (by omega)).go ?_
  rintro _ μ1 ⟨a, rfl, ha0, ha1, hs1, f1⟩
  simp_arith only [id_eq]
  refine ⟨by omega, ?_⟩
  have p1 : μ1.cells[μ.cells.length]? = some (.lst []) := f1.get at_push (by simp; omega)
  have g1 : Fr [n] μ μ1 := (Fr.push _ _ _).trans f1
  refine w_range (fun i δ μ' => ∃ (ws : List Str) (body : Str) (x6 x7 x8 x9 x10 x11 : Option D), δ = nmE n k μ.cells.length body (a == 1) x6 x7 x8 x9 x10 x11
    ∧ ws.length = i ∧ ws.Nodup ∧ (∀ w ∈ ws, Word w) ∧ body.length ≤ 6 ∧ Low body ∧ μ'.cells[μ.cells.length]? = some (.lst (ws.map D.str)) ∧ SrcAt μ' n (B + 1 + 9 * i) ∧ Fr [n] μ μ') _ _ ?_ ?_ ?_
  · refine ⟨[], "", none, none, none, none, none, none, rfl, rfl, List.nodup_nil, fun w hw => (by cases hw), (by decide), low_nil, p1, ?_, g1⟩
    simpa using hs1
  · rintro i δ μ2 hi ⟨ws, body, x6, x7, x8, x9, x10, x11, rfl, hw1, hw2, hw3, hb1, hb2, hp, hs2, f2⟩
    simp only [nmE, ↓wG_set0, ↓wG_setS]
    refine wS_cut (fun δ' μ' => ∃ (body : Str), δ' = nmE n k μ.cells.length body (a == 1) (some (.int (0 + (i : Nat)))) x7 x8 x9 x10 x11
      ∧ body.length ≤ 6 ∧ Low body ∧ μ'.cells[μ.cells.length]? = some (.lst (ws.map D.str)) ∧ SrcAt μ' n (B + 1 + 9 * i + 7) ∧ Fr [n] μ μ') ?_ ?_
    · rw [wS_if]
      refine wE_cut (fun b μ' => μ' = μ2) (by simp_arith only [id_eq]; split <;> trivial) ?_
      rintro b _ rfl
      cases b with
      | false =>
        simp_arith only [id_eq]
        exact ⟨body, rfl, hb1, hb2, hp, hs2.mono (by omega), f2⟩
      | true =>
        simp_arith only [id_eq]
        refine (draw_ok hs2 (by omega) (by omega) (by omega)).go ?_
        rintro _ μ3 ⟨d, rfl, hd0, hd1, hs3, f3⟩
        simp_arith only [id_eq]
        refine ⟨by omega, by simp [rngItems]; omega, ?_⟩
        refine w_compR (lo := 0) (n := d.toNat) (fun j ys μ' => ∃ cs : List Nat, ys = (cs.map fun c => (⟨#[c]⟩ : Str)).map D.str ∧ cs.length = j ∧ (∀ c ∈ cs, 97 ≤ c ∧ c ≤ 122) ∧ SrcAt μ' n (B + 1 + 9 * i + 1 + j) ∧ Fr [n] μ3 μ') ?_ ?_ ?_
        · exact ⟨[], rfl, rfl, by simp, by simpa using hs3, Fr.refl _ _⟩
        · rintro j ys μ4 hj ⟨cs, rfl, hc1, hc2, hs4, f4⟩
          simp only [wipeD, List.set, ↓wR_ok, ↓wR_err, ↓wE_var0, ↓wE_varS, ↓wE_C, ↓wE_op, ↓wE_cmp, ↓wE_bl, ↓qB_bl, ↓wE_asB, ↓wE_and, ↓wE_or, ↓wE_not, ↓wE_andV, ↓wE_orV, ↓wE_notV, ↓wE_if, ↓wE_nil, ↓wE_cons, ↓wE_fz, ↓wE_lc, ↓wE_tup, ↓wE_lst, ↓wE_call, ↓wE_nopart, ↓qI_int, ↓wE_part, ↓wE_slice, ↓wE_fld, ↓wE_dnew, ↓wE_iter, ↓wE_rev, ↓wE_pos, ↓wE_kws, ↓wE_noa, ↓wE_both, ↓wE_fn, ↓wE_mth, ↓qN_non, ↓wE_mk, ↓wE_meth, ↓wE_neg, ↓wE_chain, ↓wE_comp, ↓wS_nx, ↓wS_bk, ↓wS_ct, ↓wS_seq, ↓wS_drop, ↓wS_ret, ↓wS_retN, ↓wS_if, ↓wS_asg, ↓qL_loc, ↓qCl_lst, ↓wS_retFz, ↓wS_raise, ↓wS_for, ↓wS_try, ↓wG_set0, ↓wG_setS, ↓wG_then, ↓wG_sub, ↓wG_fld, ↓qT_tup, ↓wG_tup, ↓wGs_nil, ↓wGs_cons, ↓endB_nx, ↓endB_rt, ↓endB_er, ↓endB_bk, ↓endB_ct, ↓loopP_nx, ↓loopP_ct, ↓loopP_bk, ↓loopP_rt, ↓loopP_er, ↓qO_some, ↓qO_at0, ↓qO_at1, ↓qO_at2, ↓qO_at3, ↓qO_at4, ↓qO_at5, ↓w_add_int, ↓w_add_str, ↓w_add_tup, ↓w_add_lst, ↓w_sub, ↓w_mod, ↓w_div, ↓w_mul, ↓w_pow, ↓w_band, ↓w_lt, ↓w_le, ↓w_gt, ↓w_ge, ↓w_is, ↓w_isNot, ↓nonN, ↓nonI, ↓nonS, ↓nonT, ↓nonL, ↓nonLoc, ↓w_eq_int, ↓w_ne_int, ↓w_eq_str, ↓w_ne_str, ↓qIx_lst, ↓qIx_dK, ↓qIxS_dK, ↓w_ix_loc, ↓w_ix_locS, ↓w_ix_lst, ↓w_ix_tup, ↓w_ix_str, ↓qLS_0, ↓qLS_1, ↓qLS_2, ↓qLS_3, ↓qSet_lst, ↓qSet_dK, ↓qSetS_dK, ↓w_setI, ↓w_setS, ↓qF_ins, ↓w_fld, ↓qSF_ins, ↓w_setF, ↓w_len_str, ↓w_len_lst, ↓w_len_tup, ↓qLen_lst, ↓qLen_dK, ↓w_len_loc, ↓w_max, ↓w_min, ↓w_int_int, ↓w_int_bl, ↓w_str_int, ↓qDc_dK, ↓w_dict, ↓w_tuple_lst, ↓w_tuple_tup, ↓w_tuple_loc, ↓w_list_lst, ↓w_list_tup, ↓w_iter_lst, ↓w_iter_tup, ↓w_iter_str, ↓w_iter_loc, ↓w_rng1, ↓w_rng2, ↓w_sl_str, ↓w_sl_tup, ↓w_sl_lst, ↓w_append, ↓w_lclear, ↓tyS_str, ↓tyL_lst, ↓qM_loc, ↓look1, ↓wC_set, ↓wC_setn, ↓wC_push2, ↓wC_pushn, ↓wE_yes, ↓wE_revL, ↓qO_lst, ↓w_all_lst, ↓w_join_lst, ↓isi_non_int, ↓isi_non_bool, ↓isi_non_str, ↓isi_non_tuple, ↓isi_non_list, ↓isi_non_dict, ↓isi_bl_int, ↓isi_bl_bool, ↓isi_bl_str, ↓isi_bl_tuple, ↓isi_bl_list, ↓isi_bl_dict, ↓isi_int_int, ↓isi_int_bool, ↓isi_int_str, ↓isi_int_tuple, ↓isi_int_list, ↓isi_int_dict, ↓isi_str_int, ↓isi_str_bool, ↓isi_str_str, ↓isi_str_tuple, ↓isi_str_list, ↓isi_str_dict, ↓isi_tup_int, ↓isi_tup_bool, ↓isi_tup_str, ↓isi_tup_tuple, ↓isi_tup_list, ↓isi_tup_dict, ↓isi_lst_int, ↓isi_lst_bool, ↓isi_lst_str, ↓isi_lst_tuple, ↓isi_lst_list, ↓isi_lst_dict, decide_eq_true_eq, beq_iff_eq, Bool.not_eq_true', Bool.not_eq_eq_eq_not, Bool.not_true, Bool.not_false, decide_eq_false_iff_not, beq_eq_false_iff_ne, ne_eq, true_and, and_true, if_true, if_false, ite_true, ite_false, reduceIte, Bool.false_eq_true, not_false_eq_true, not_true_eq_false, Int.reduceLT, Int.reduceLE, Int.reduceToNat, Nat.reduceLT, Nat.reduceLeDiff, Int.reducePow, Nat.reduceAdd, Int.reduceAdd, Int.reduceMul, Int.reduceSub, Int.reduceNeg, Nat.reducePow, Int.reduceEq, Nat.reduceEqDiff, List.length_cons, List.length_nil, PySem.sizeLine_eq, str_len_app, str_len_one, wipeD, List.set_cons_zero, List.set_cons_succ, ↓wE_yes]
          refine (draw_ok hs4 (by omega) (by omega) (by omega)).go ?_
          rintro _ μ5 ⟨e, rfl, he0, he1, hs5, f5⟩
          simp_arith only [↓qO_of (letter_at he0 he1), letters_len]
          refine ⟨cs ++ [97 + e.toNat], by simp, by simp [hc1], ?_, hs5.mono (by omega), f4.trans f5⟩
          intro c hc
          rcases List.mem_append.mp hc with hc | hc
          · exact hc2 c hc
          · simp at hc; omega
        · rintro ys μ4 ⟨cs, rfl, hc1, hc2, hs4, f4⟩
          have hl : ((cs.map fun c => (⟨#[c]⟩ : Str)).map (·.length)).sum = cs.length := by
            clear hc1 hc2
            induction cs with
            | nil => rfl
            | cons c r ih => simp [Str.length] at ih ⊢; omega
          have ht := join_chars cs
          simp_arith only [↓w_join_lst, ↓qO_of (strsOf_words _)]
          have e0 : ("" : Str).length = 0 := by decide
          refine ⟨by rw [hl, e0]; simp; omega, _, rfl, ?_, ?_, ?_, hs4.mono (by omega), f2.trans (f3.trans f4)⟩
          · rw [len_tl, ht]; omega
          · intro c hc
            rw [ht] at hc; exact hc2 c hc
          · exact f4.get (f3.get hp (by simp; omega)) (by simp; omega)
    · rintro δ' μ3 ⟨body', rfl, hb1, hb2, hp, hs3, f3⟩
      simp_arith only [nmE]
      refine ⟨by omega, ?_⟩
      refine (draw_ok hs3 (by omega) (by omega) (by omega)).go ?_
      rintro _ μ4 ⟨d, rfl, hd0, hd1, hs4, f4⟩
      simp_arith only [id_eq]
      refine (draw_ok hs4 (by omega) (by omega) (by omega)).go ?_
      rintro _ μ5 ⟨e, rfl, he0, he1, hs5, f5⟩
      simp_arith only [id_eq]
      have hp5 : μ5.cells[μ.cells.length]? = some (.lst (ws.map D.str)) := f5.get (f4.get hp (by simp; omega)) (by simp; omega)
      have g5 : Fr [n] μ μ5 := f3.trans (f4.trans f5)
      let cand : Nat → Str := fun j => putIn body' d.toNat (97 + ((e + j) % 26).toNat)
      refine w_range (fun j δ μ' => μ' = μ5 ∧ ∃ (found : Str) (x10 x11 : Option D), δ = [some (.loc n), some (.int k), some (.str "abcdefghijklmnopqrstuvwxyz"), some (.loc μ.cells.length), some (.str body'), some (.bl (a == 1)), some (.int (0 + (i : Nat))), some (.int d), some (.int e), some (.str found), x10, x11] ∧
        ((found = "" ∧ ∀ j' < j, cand j' ∈ ws) ∨ ∃ j' < 26, found = cand j' ∧ found ∉ ws)) _ _ ?_ ?_ ?_
      · exact ⟨rfl, "", _, _, rfl, .inl ⟨rfl, by simp⟩⟩
      · rintro j δ _ hj ⟨rfl, found, x10, x11, rfl, hf⟩
        have h26 : 0 ≤ (e + (0 + (j : Int))) % 26 ∧ (e + (0 + (j : Int))) % 26 < 26 := ⟨Int.emod_nonneg _ (by decide), Int.emod_lt_of_pos _ (by decide)⟩
        have ec : cutS body' none (some d) ++ ⟨#[97 + ((e + (0 + (j : Int))) % 26).toNat]⟩ ++ cutS body' (some d) none = cand j := by
          show _ = putIn body' d.toNat _
          unfold putIn
          rw [Int.toNat_of_nonneg hd0, Int.zero_add]
        have el := putIn_len body' d.toNat (97 + ((e + (0 + (j : Int))) % 26).toNat)
        simp_arith only [↓qO_of (letter_at h26.1 h26.2), letters_len, ec, ↓w_notIn_words hp5]
        have l1 := cut_len_le body' none (some d)
        have l2 := cut_len_le body' (some d) none
        repeat refine And.intro (by (first | exact mulOk (by omega) (by omega) (by omega) (by omega) | exact divOk (by omega) (by omega) | exact powOk (by omega) (by omega) (by omega) (by omega) | exact strOk' (by omega) (by omega) | assumption | omega | decide)) ?_
        split
        · split
          · rename_i hj1
            exact ⟨_, _, _, rfl, .inr ⟨j, hj, rfl, hj1⟩⟩
          · rename_i hf0 hj1
            refine ⟨_, _, _, rfl, ?_⟩
            rcases hf with ⟨_, hf⟩ | hf
            · refine .inl ⟨hf0, fun j' hj' => ?_⟩
              rcases Nat.lt_or_ge j' j with h | h
              · exact hf j' h
              · have : j' = j := by omega
                subst this; exact Decidable.not_not.mp hj1
            · exact .inr hf
        · rename_i hf0
          refine ⟨_, _, _, rfl, ?_⟩
          rcases hf with ⟨h, _⟩ | hf
          · exact absurd h hf0
          · exact .inr hf
      · rintro δ _ ⟨rfl, found, x10, x11, rfl, hf⟩
        have hf : ∃ j' < 26, found = cand j' ∧ found ∉ ws := by
          rcases hf with ⟨_, hf⟩ | hf
          · exfalso
            have hnd : ((List.range 26).map cand).Nodup := by
              refine nodup_map_on ?_ List.nodup_range
              intro x hx y hy hxy
              have := putIn_inj hxy
              simp at hx hy
              omega
            have := pigeon hnd (r := ws) fun z hz => by
              obtain ⟨j, hj, rfl⟩ := List.mem_map.mp hz
              exact hf j (by simpa using hj)
            simp at this
            omega
          · exact hf
        obtain ⟨j, hj, rfl, hnot⟩ := hf
        have h26 : 0 ≤ (e + (j : Int)) % 26 ∧ (e + (j : Int)) % 26 < 26 := ⟨Int.emod_nonneg _ (by decide), Int.emod_lt_of_pos _ (by decide)⟩
        have hcl : (cand j).length = body'.length + 1 := putIn_len _ _ _
        have hlt := at_lt hp5
        simp_arith only [↓wC_of hp5, tyL_of hp5, List.length_map]
        refine ⟨by omega, ws ++ [cand j], body', _, _, _, _, _, _, rfl, by simp [hw1], ?_, ?_, hb1, hb2, ?_, ?_, g5.trans (Fr.set1 _ _ _) (by intro k hk _; simp at hk; omega)⟩
        · rw [List.nodup_append]
          refine ⟨hw2, by simp, fun x hx y hy => ?_⟩
          have : y = cand j := by simpa using hy
          subst this
          exact fun z => hnot (z ▸ hx)
        · intro w hw
          rcases List.mem_append.mp hw with hw | hw
          · exact hw3 w hw
          · have : w = cand j := by simpa using hw
            subst this
            exact ⟨by omega, by omega, putIn_low hb2 (by omega)⟩
        · rw [at_set hlt, List.map_append]; rfl
        · refine (hs5.fr (Fr.set1 _ μ.cells.length _) (by simp; omega)).mono (by omega)
  · rintro δ μ2 ⟨ws, body, x6, x7, x8, x9, x10, x11, rfl, hw1, hw2, hw3, hb1, hb2, hp, hs2, f2⟩
    simp_arith only [nmE, ↓wC_of hp]
    refine ⟨lkd_nil (f2.lk.trans hl), ws, rfl, by omega, hw2, hw3, ?_, f2.trans (Fr.set1 _ _ _) (by intro k hk _; simp at hk; omega)⟩
    exact (hs2.fr (Fr.set1 _ μ.cells.length _) (by simp; omega)).mono (by omega)
theorem number_ok {c : Cl} {μ : Mem} {n : Nat} {B : Int} (h : SrcAt μ n B) (hB : B + 2 < 2 ^ 40) :
    wR (m_x__law_number c [.loc n] μ) (fun v μ' => ∃ d : Int, v = .int d ∧ -(10 ^ 60) < d ∧ d < 10 ^ 60 ∧ SrcAt μ' n (B + 2) ∧ Fr [n] μ μ') noE := by
  unfold m_x__law_number
  rw [w_run]
  show wS (t_x__law_number c) [some (.loc n), none] μ _
  unfold t_x__law_number
  simp_arith only [id_eq]
  refine (draw_ok h (by omega) (by omega) (by omega)).go ?_
  rintro _ μ1 ⟨a, rfl, ha0, ha1, hs1, f1⟩
  simp_arith only [id_eq]
  split
  · repeat refine And.intro (by (first | exact mulOk (by omega) (by omega) (by omega) (by omega) | exact divOk (by omega) (by omega) | exact powOk (by omega) (by omega) (by omega) (by omega) | exact strOk' (by omega) (by omega) | assumption | omega | decide)) ?_
    refine (draw_ok hs1 (by omega) (by omega) (by omega)).go ?_
    rintro _ μ2 ⟨b, rfl, hb0, hb1, hs2, f2⟩
    exact ⟨b, rfl, by omega, by omega, hs2.mono (by omega), f1.trans f2⟩
  · split
    · repeat refine And.intro (by (first | exact mulOk (by omega) (by omega) (by omega) (by omega) | exact divOk (by omega) (by omega) | exact powOk (by omega) (by omega) (by omega) (by omega) | exact strOk' (by omega) (by omega) | assumption | omega | decide)) ?_
      refine (draw_ok hs1 (by omega) (by omega) (by omega)).go ?_
      rintro _ μ2 ⟨b, rfl, hb0, hb1, hs2, f2⟩
      simp_arith only [id_eq]
      exact ⟨_, rfl, by omega, by omega, hs2.mono (by omega), f1.trans f2⟩
    · refine (draw_ok hs1 (by omega) (by omega) (by omega)).go ?_
      rintro _ μ2 ⟨b, rfl, hb0, hb1, hs2, f2⟩
      simp_arith only [id_eq]
      exact ⟨_, rfl, by omega, by omega, hs2.mono (by omega), f1.trans f2⟩
end Doz
end
section
namespace Doz
open PySem L2
section
variable {α β γ : Type} [DecidableEq α]
def aget (l : List (α × β)) (k : α) : Option β := (l.find? fun p => decide (p.1 = k)).map (·.2)
def aput (l : List (α × β)) (k : α) (v : β) : List (α × β) := if (l.any fun p => decide (p.1 = k)) = true then l.map (fun p => if p.1 = k then (p.1, v) else p) else l ++ [(k, v)]
def adrop (l : List (α × β)) (k : α) : List (α × β) := l.filter fun p => decide (p.1 ≠ k)
def enc (f : α → Key) (g : β → D) (l : List (α × β)) : List (Key × D) := l.map fun p => (f p.1, g p.2)
variable {f : α → Key} {g : β → D} (hf : ∀ a b, f a = f b → a = b)
theorem enc_len (l : List (α × β)) : (enc f g l).length = l.length := by simp [enc]
include hf
theorem dec_inj (a b : α) : decide (f a = f b) = decide (a = b) := by
  by_cases h : a = b
  · subst h; simp
  · have : ¬ f a = f b := fun z => h (hf a b z)
    simp [h, this]
theorem enc_get (l : List (α × β)) (k : α) : kget (enc f g l) (f k) = (aget l k).map g := by
  unfold kget aget enc
  rw [List.find?_map]
  have : ((fun kv : Key × D => decide (kv.1 = f k)) ∘ fun p : α × β => (f p.1, g p.2)) = fun p => decide (p.1 = k) := by
    funext p; exact dec_inj hf p.1 k
  rw [this]
  cases l.find? fun p => decide (p.1 = k) <;> rfl
theorem enc_any (l : List (α × β)) (k : α) : ((enc f g l).any fun kv => decide (kv.1 = f k)) = l.any fun p => decide (p.1 = k) := by
  unfold enc
  rw [List.any_map]
  congr; funext p; exact dec_inj hf p.1 k
theorem enc_put (l : List (α × β)) (k : α) (v : β) : kput (enc f g l) (f k) (g v) = enc f g (aput l k v) := by
  unfold kput aput
  rw [enc_any hf]
  split
  · unfold enc
    rw [List.map_map, List.map_map]
    refine List.map_congr_left fun p _ => ?_
    show (if f p.1 = f k then (f p.1, g v) else (f p.1, g p.2)) = _
    by_cases h : p.1 = k
    · simp [h]
    · have : ¬ f p.1 = f k := fun z => h (hf _ _ z)
      simp [h, this]
  · simp [enc]
theorem enc_drop (l : List (α × β)) (k : α) : kdrop (enc f g l) (f k) = enc f g (adrop l k) := by
  unfold kdrop adrop enc
  rw [List.filter_map]
  congr
  funext p
  show decide (f p.1 ≠ f k) = decide (p.1 ≠ k)
  by_cases h : p.1 = k
  · simp [h]
  · have : ¬ f p.1 = f k := fun z => h (hf _ _ z)
    simp [h, this]
end
section
variable {α β : Type} [DecidableEq α]
theorem aget_nil (k : α) : aget ([] : List (α × β)) k = none := rfl
theorem aget_cons (p : α × β) (l : List (α × β)) (k : α) : aget (p :: l) k = if p.1 = k then some p.2 else aget l k := by
  unfold aget; rw [List.find?_cons]
  by_cases h : p.1 = k <;> simp [h]
theorem aget_some {l : List (α × β)} {k : α} {v : β} (h : aget l k = some v) : (k, v) ∈ l := by
  induction l with
  | nil => cases h
  | cons p l ih =>
    rw [aget_cons] at h
    split at h
    · rename_i e; cases h; subst e; simp
    · exact List.mem_cons_of_mem _ (ih h)
theorem aget_none {l : List (α × β)} {k : α} : aget l k = none ↔ k ∉ l.map (·.1) := by
  induction l with
  | nil => simp [aget_nil]
  | cons p l ih =>
    rw [aget_cons]
    by_cases e : p.1 = k
    · simp [e]
    · simp only [e, if_false, ih, List.map_cons, List.mem_cons, not_or]
      exact ⟨fun h => ⟨fun z => e z.symm, h⟩, fun h => h.2⟩
theorem any_mem (l : List (α × β)) (k : α) : (l.any fun p => decide (p.1 = k)) = decide (k ∈ l.map (·.1)) := by
  induction l with
  | nil => simp
  | cons p l ih =>
    rw [List.any_cons, ih]
    by_cases h : p.1 = k
    · simp [h]
    · have : ¬ k = p.1 := fun z => h z.symm
      simp only [List.map_cons, List.mem_cons, h, this, false_or, decide_false, Bool.false_or]
theorem aget_isSome (l : List (α × β)) (k : α) : (aget l k).isSome = decide (k ∈ l.map (·.1)) := by
  cases h : aget l k with
  | none => simp [aget_none.mp h]
  | some v => simp; exact ⟨v, aget_some h⟩
theorem aget_of_mem {l : List (α × β)} {k : α} {v : β} (hn : (l.map (·.1)).Nodup) (h : (k, v) ∈ l) : aget l k = some v := by
  induction l with
  | nil => cases h
  | cons p l ih =>
    rw [aget_cons]
    rw [List.map_cons, List.nodup_cons] at hn
    rcases List.mem_cons.mp h with h | h
    · subst h; simp
    · split
      · rename_i e; exfalso; apply hn.1; rw [e]; exact List.mem_map_of_mem (f := (·.1)) h
      · exact ih hn.2 h
theorem aget_app (l r : List (α × β)) (k : α) : aget (l ++ r) k = (aget l k).or (aget r k) := by
  induction l with
  | nil => simp [aget_nil]
  | cons p l ih =>
    rw [List.cons_append, aget_cons, aget_cons, ih]
    split <;> simp
theorem aget_mapv {γ : Type} (l : List (α × β)) (k : α) (g : β → γ) : aget (l.map fun p => (p.1, g p.2)) k = (aget l k).map g := by
  induction l with
  | nil => rfl
  | cons p l ih => rw [List.map_cons, aget_cons, aget_cons, ih]; split <;> simp
theorem aput_old {l : List (α × β)} {k : α} (h : k ∈ l.map (·.1)) (v : β) : aput l k v = l.map (fun p => if p.1 = k then (p.1, v) else p) := by
  unfold aput; rw [any_mem]; simp only [h, decide_true, if_true]
theorem aput_new {l : List (α × β)} {k : α} (h : k ∉ l.map (·.1)) (v : β) : aput l k v = l ++ [(k, v)] := by
  unfold aput; rw [any_mem]; simp only [h, decide_false]; rfl
theorem aput_keys_old {l : List (α × β)} {k : α} (h : k ∈ l.map (·.1)) (v : β) : (aput l k v).map (·.1) = l.map (·.1) := by
  rw [aput_old h, List.map_map]
  refine List.map_congr_left fun p _ => ?_
  show (if p.1 = k then (p.1, v) else p).1 = p.1
  split <;> rfl
theorem aput_keys_new {l : List (α × β)} {k : α} (h : k ∉ l.map (·.1)) (v : β) : (aput l k v).map (·.1) = l.map (·.1) ++ [k] := by
  rw [aput_new h]; simp
theorem aput_nodup {l : List (α × β)} {k : α} {v : β} (hn : (l.map (·.1)).Nodup) : ((aput l k v).map (·.1)).Nodup := by
  by_cases h : k ∈ l.map (·.1)
  · rw [aput_keys_old h]; exact hn
  · rw [aput_keys_new h, List.nodup_append]
    exact ⟨hn, by simp, fun a ha b hb => by
      have : b = k := by simpa using hb
      subst this; exact fun z => h (z ▸ ha)⟩
theorem aput_len (l : List (α × β)) (k : α) (v : β) : (aput l k v).length ≤ l.length + 1 := by
  by_cases h : k ∈ l.map (·.1)
  · rw [aput_old h]; simp
  · rw [aput_new h]; simp
theorem aget_put (l : List (α × β)) (k j : α) (v : β) : aget (aput l k v) j = if j = k then some v else aget l j := by
  by_cases h : k ∈ l.map (·.1)
  · rw [aput_old h]
    induction l with
    | nil => cases h
    | cons p l ih =>
      rw [List.map_cons, aget_cons, aget_cons]
      by_cases hp : p.1 = k
      · rw [if_pos hp]
        by_cases hj : j = k
        · subst hj; simp [hp]
        · have : ¬ p.1 = j := fun z => hj (z.symm.trans hp)
          simp only [this, if_false, hj]
          clear ih h
          induction l with
          | nil => rfl
          | cons q l ih2 =>
            rw [List.map_cons, aget_cons, aget_cons, ih2]
            by_cases hq : q.1 = k
            · have hq' : ¬ q.1 = j := fun z => hj (z.symm.trans hq)
              have hq2 : ¬ k = j := fun z => hj z.symm
              simp [hq, hq2]
            · simp [hq]
      · rw [if_neg hp]
        have hk : k ∈ l.map (·.1) := by
          rcases List.mem_cons.mp h with h | h
          · exact absurd h.symm hp
          · exact h
        rw [ih hk]
        by_cases hj : p.1 = j
        · have : ¬ j = k := fun z => hp (hj.trans z)
          simp [hj, this]
        · simp [hj]
  · rw [aput_new h, aget_app, aget_cons, aget_nil]
    by_cases hj : j = k
    · subst hj
      have := aget_none.mpr h
      simp [this]
    · have : ¬ k = j := fun z => hj z.symm
      simp [hj, this]
theorem aget_drop (l : List (α × β)) (k j : α) : aget (adrop l k) j = if j = k then none else aget l j := by
  induction l with
  | nil => simp [adrop, aget_nil]
  | cons p l ih =>
    unfold adrop at ih ⊢
    rw [List.filter_cons]
    by_cases hp : p.1 = k
    · simp only [hp, ne_eq, not_true_eq_false, decide_false, Bool.false_eq_true, if_false, ih, aget_cons]
      by_cases hj : j = k
      · simp [hj]
      · have : ¬ k = j := fun z => hj z.symm
        simp [hj, this]
    · simp only [hp, ne_eq, not_false_eq_true, decide_true, if_true, aget_cons, ih]
      by_cases hj : p.1 = j
      · have : ¬ j = k := fun z => hp (hj.trans z)
        simp [hj, this]
      · simp [hj]
theorem adrop_keys (l : List (α × β)) (k : α) : (adrop l k).map (·.1) = (l.map (·.1)).filter fun a => decide (a ≠ k) := by
  unfold adrop; rw [List.filter_map]; rfl
theorem adrop_nodup {l : List (α × β)} {k : α} (hn : (l.map (·.1)).Nodup) : ((adrop l k).map (·.1)).Nodup := by
  rw [adrop_keys]; exact hn.filter _
theorem adrop_len (l : List (α × β)) (k : α) : (adrop l k).length ≤ l.length := List.length_filter_le _ _
end
theorem w_eq_tab {μ : Mem} {m n : Nat} {ks ls : List (Key × D)} (h1 : μ.cells[m]? = some (.dK ks)) (h2 : μ.cells[n]? = some (.dK ls)) (k1 : μ.lkd m = false) (k2 : μ.lkd n = false) (ht : ks.length = ls.length ∧ tabEq ks ls = true) (Q : Bool → Mem → Prop) (E : EP) : wR (cEqA (.loc m) (.loc n) μ) Q E = Q true μ := by
  have e1 : dcell μ (.loc m) = some (m, ks) := by unfold dcell; dsimp only; rw [h1]; simp [k1]
  have e2 : dcell μ (.loc n) = some (n, ls) := by unfold dcell; dsimp only; rw [h2]; simp [k2]
  unfold cEqA; rw [e1, e2]; simp [ht.1, ht.2, wR]
theorem w_ne_tab {μ : Mem} {m n : Nat} {ks ls : List (Key × D)} (h1 : μ.cells[m]? = some (.dK ks)) (h2 : μ.cells[n]? = some (.dK ls)) (k1 : μ.lkd m = false) (k2 : μ.lkd n = false) (ht : ks.length = ls.length ∧ tabEq ks ls = true) (Q : Bool → Mem → Prop) (E : EP) : wR (cNeA (.loc m) (.loc n) μ) Q E = Q false μ := by
  unfold cNeA; rw [wR_bind, w_eq_tab h1 h2 k1 k2 ht]; rfl
theorem tab_enc {α β : Type} [DecidableEq α] {f : α → Key} {g : β → D} (hf : ∀ a b, f a = f b → a = b) (hg : ∀ b, (g b).flat = true) {l : List (α × β)} (hn : (l.map (·.1)).Nodup) : (enc f g l).length = (enc f g l).length ∧ tabEq (enc f g l) (enc f g l) = true := by
  refine ⟨rfl, ?_⟩
  unfold tabEq
  rw [List.all_eq_true]
  intro p hp
  obtain ⟨q, hq, rfl⟩ := List.mem_map.mp hp
  simp only [hg, Bool.true_and]
  rw [enc_get hf, aget_of_mem hn hq]
  exact D.same_refl _
theorem tab_self {l : List (Str × Int)} (hn : (l.map (·.1)).Nodup) : (enc (Sum.inr : Str → Key) D.int l).length = (enc (Sum.inr : Str → Key) D.int l).length ∧ tabEq (enc (Sum.inr : Str → Key) D.int l) (enc (Sum.inr : Str → Key) D.int l) = true :=
  tab_enc (fun a b h => by injection h) (fun _ => rfl) hn
theorem inl_inj (a b : Int) (h : (Sum.inl a : Key) = Sum.inl b) : a = b := by injection h
theorem inr_inj (a b : Str) (h : (Sum.inr a : Key) = Sum.inr b) : a = b := by injection h
abbrev encI {β : Type} (g : β → D) (l : List (Int × β)) : List (Key × D) := enc (Sum.inl : Int → Key) g l
abbrev encS {β : Type} (g : β → D) (l : List (Str × β)) : List (Key × D) := enc (Sum.inr : Str → Key) g l
theorem encI_get {β : Type} (g : β → D) (l : List (Int × β)) (k : Int) : kget (encI g l) (.inl k) = (aget l k).map g := enc_get inl_inj l k
theorem encS_get {β : Type} (g : β → D) (l : List (Str × β)) (k : Str) : kget (encS g l) (.inr k) = (aget l k).map g := enc_get inr_inj l k
theorem encI_put {β : Type} (g : β → D) (l : List (Int × β)) (k : Int) (v : β) : kput (encI g l) (.inl k) (g v) = encI g (aput l k v) := enc_put inl_inj l k v
theorem encS_put {β : Type} (g : β → D) (l : List (Str × β)) (k : Str) (v : β) : kput (encS g l) (.inr k) (g v) = encS g (aput l k v) := enc_put inr_inj l k v
theorem encI_drop {β : Type} (g : β → D) (l : List (Int × β)) (k : Int) : kdrop (encI g l) (.inl k) = encI g (adrop l k) := enc_drop inl_inj l k
theorem encS_drop {β : Type} (g : β → D) (l : List (Str × β)) (k : Str) : kdrop (encS g l) (.inr k) = encS g (adrop l k) := enc_drop inr_inj l k
end Doz
end
section
namespace Doz
open PySem L2
structure BedS where
  at_ : Nat
  place : Str
  turn : Int
  since : Int
  until_ : Option Int
  mask : Int
def oI : Option Int → D
  | none => .non
  | some i => .int i
def bedF (b : BedS) : List (Str × D) := [("place", .str b.place), ("turn", .int b.turn), ("since", .int b.since), ("until", oI b.until_), ("mask", .int b.mask)]
structure HS where
  num : List (Str × Int)
  beds : List (Int × BedS) := []
  ranks : List (Int × Int) := []
  ends : List (Int × Str) := []
  clock : Int := 0
  turns : Int := 0
  begun : Int := 0
  log : List D := []
structure HA where
  a : Nat
  aN : Nat
  aB : Nat
  aR : Nat
  aE : Nat
  aL : Nat
def HA.list (A : HA) : List Nat := [A.a, A.aN, A.aB, A.aR, A.aE, A.aL]
def foot (A : HA) (S : HS) : List Nat := A.list ++ S.beds.map fun p => p.2.at_
def hallF (A : HA) (S : HS) : List (Str × D) := [("numbers", .loc A.aN), ("beds", .loc A.aB), ("ranks", .loc A.aR), ("endings", .loc A.aE), ("clock", .int S.clock), ("turns", .int S.turns), ("begun", .int S.begun), ("entries", .loc A.aL)]
structure HallAt (c : Cl) (μ : Mem) (A : HA) (S : HS) : Prop where
  lk : μ.lk = []
  nd : (foot A S).Nodup
  hh : μ.cells[A.a]? = some (.ins c.n_Hall (hallF A S))
  hN : μ.cells[A.aN]? = some (.dK (encS D.int S.num))
  hB : μ.cells[A.aB]? = some (.dK (encI (fun b => D.loc b.at_) S.beds))
  hR : μ.cells[A.aR]? = some (.dK (encI D.int S.ranks))
  hE : μ.cells[A.aE]? = some (.dK (encI D.str S.ends))
  hL : μ.cells[A.aL]? = some (.lst S.log)
  hb : ∀ p ∈ S.beds, μ.cells[p.2.at_]? = some (.ins c.n_Bed (bedF p.2))
  nN : (S.num.map (·.1)).Nodup
  nB : (S.beds.map (·.1)).Nodup
  nR : (S.ranks.map (·.1)).Nodup
  nE : (S.ends.map (·.1)).Nodup
structure HallTo (c : Cl) (μ : Mem) (A : HA) (S : HS) (μ' : Mem) (S' : HS) : Prop where
  h : HallAt c μ' A S'
  f : Fr (foot A S) μ μ'
  new : ∀ k ∈ foot A S', k ∈ foot A S ∨ μ.cells.length ≤ k
theorem HallAt.ne {c : Cl} {μ : Mem} {A : HA} {S : HS} (h : HallAt c μ A S) : (A.a ≠ A.aN ∧ A.a ≠ A.aB ∧ A.a ≠ A.aR ∧ A.a ≠ A.aE ∧ A.a ≠ A.aL) ∧ (A.aN ≠ A.aB ∧ A.aN ≠ A.aR ∧ A.aN ≠ A.aE ∧ A.aN ≠ A.aL) ∧ (A.aB ≠ A.aR ∧ A.aB ≠ A.aE ∧ A.aB ≠ A.aL) ∧ (A.aR ≠ A.aE ∧ A.aR ≠ A.aL) ∧ A.aE ≠ A.aL := by
  have := (List.nodup_append.mp h.nd).1
  simp [HA.list] at this
  omega
theorem HallAt.neb {c : Cl} {μ : Mem} {A : HA} {S : HS} (h : HallAt c μ A S) {p : Int × BedS} (hp : p ∈ S.beds) : p.2.at_ ≠ A.a ∧ p.2.at_ ≠ A.aN ∧ p.2.at_ ≠ A.aB ∧ p.2.at_ ≠ A.aR ∧ p.2.at_ ≠ A.aE ∧ p.2.at_ ≠ A.aL := by
  have := (List.nodup_append.mp h.nd).2.2
  have hm : p.2.at_ ∈ S.beds.map fun p => p.2.at_ := List.mem_map_of_mem (f := fun p : Int × BedS => p.2.at_) hp
  refine ⟨?_, ?_, ?_, ?_, ?_, ?_⟩ <;> exact fun z => this _ (by simp [HA.list]) _ hm z.symm
theorem mem_foot {A : HA} {S : HS} : A.a ∈ foot A S ∧ A.aN ∈ foot A S ∧ A.aB ∈ foot A S ∧ A.aR ∈ foot A S ∧ A.aE ∈ foot A S ∧ A.aL ∈ foot A S := by simp [foot, HA.list]
theorem HallAt.fr {c : Cl} {μ μ' : Mem} {A : HA} {S : HS} {F : List Nat} (h : HallAt c μ A S) (f : Fr F μ μ') (hd : ∀ k ∈ foot A S, k ∉ F) : HallAt c μ' A S :=
  have m := mem_foot (A := A) (S := S)
  ⟨f.lk.trans h.lk, h.nd, f.get h.hh (hd _ m.1), f.get h.hN (hd _ m.2.1), f.get h.hB (hd _ m.2.2.1), f.get h.hR (hd _ m.2.2.2.1), f.get h.hE (hd _ m.2.2.2.2.1), f.get h.hL (hd _ m.2.2.2.2.2),
    fun p hp => f.get (h.hb p hp) (hd _ (by unfold foot; exact List.mem_append_right _ (List.mem_map_of_mem (f := fun p : Int × BedS => p.2.at_) hp))), h.nN, h.nB, h.nR, h.nE⟩
theorem HallAt.lt {c : Cl} {μ : Mem} {A : HA} {S : HS} (h : HallAt c μ A S) {k : Nat} (hk : k ∈ foot A S) : k < μ.cells.length := by
  unfold foot at hk
  rcases List.mem_append.mp hk with hk | hk
  · simp [HA.list] at hk
    rcases hk with rfl | rfl | rfl | rfl | rfl | rfl
    · exact at_lt h.hh
    · exact at_lt h.hN
    · exact at_lt h.hB
    · exact at_lt h.hR
    · exact at_lt h.hE
    · exact at_lt h.hL
  · obtain ⟨p, hp, rfl⟩ := List.mem_map.mp hk
    exact at_lt (h.hb p hp)
section
variable (A : HA) (S : HS) (Q : D → Prop)
theorem hf_numbers : qO ((hallF A S).lookup ("numbers" : Str)) Q = Q (.loc A.aN) := by kernel_rfl
theorem hf_beds : qO ((hallF A S).lookup ("beds" : Str)) Q = Q (.loc A.aB) := by kernel_rfl
theorem hf_ranks : qO ((hallF A S).lookup ("ranks" : Str)) Q = Q (.loc A.aR) := by kernel_rfl
theorem hf_endings : qO ((hallF A S).lookup ("endings" : Str)) Q = Q (.loc A.aE) := by kernel_rfl
theorem hf_clock : qO ((hallF A S).lookup ("clock" : Str)) Q = Q (.int S.clock) := by kernel_rfl
theorem hf_turns : qO ((hallF A S).lookup ("turns" : Str)) Q = Q (.int S.turns) := by kernel_rfl
theorem hf_begun : qO ((hallF A S).lookup ("begun" : Str)) Q = Q (.int S.begun) := by kernel_rfl
theorem hf_entries : qO ((hallF A S).lookup ("entries" : Str)) Q = Q (.loc A.aL) := by kernel_rfl
end
theorem pfh0 (v : D) : putFD "numbers" v [] = [(("numbers" : Str), v)] := by kernel_rfl
theorem pfh1 (x0 v : D) : putFD "beds" v [(("numbers" : Str), x0)] = [(("numbers" : Str), x0), (("beds" : Str), v)] := by kernel_rfl
theorem pfh2 (x0 x1 v : D) : putFD "ranks" v [(("numbers" : Str), x0), (("beds" : Str), x1)] = [(("numbers" : Str), x0), (("beds" : Str), x1), (("ranks" : Str), v)] := by kernel_rfl
theorem pfh3 (x0 x1 x2 v : D) : putFD "endings" v [(("numbers" : Str), x0), (("beds" : Str), x1), (("ranks" : Str), x2)] = [(("numbers" : Str), x0), (("beds" : Str), x1), (("ranks" : Str), x2), (("endings" : Str), v)] := by kernel_rfl
theorem pfh4 (x0 x1 x2 x3 v : D) : putFD "clock" v [(("numbers" : Str), x0), (("beds" : Str), x1), (("ranks" : Str), x2), (("endings" : Str), x3)] = [(("numbers" : Str), x0), (("beds" : Str), x1), (("ranks" : Str), x2), (("endings" : Str), x3), (("clock" : Str), v)] := by kernel_rfl
theorem pfh5 (x0 x1 x2 x3 x4 v : D) : putFD "turns" v [(("numbers" : Str), x0), (("beds" : Str), x1), (("ranks" : Str), x2), (("endings" : Str), x3), (("clock" : Str), x4)] = [(("numbers" : Str), x0), (("beds" : Str), x1), (("ranks" : Str), x2), (("endings" : Str), x3), (("clock" : Str), x4), (("turns" : Str), v)] := by kernel_rfl
theorem pfh6 (x0 x1 x2 x3 x4 x5 v : D) : putFD "begun" v [(("numbers" : Str), x0), (("beds" : Str), x1), (("ranks" : Str), x2), (("endings" : Str), x3), (("clock" : Str), x4), (("turns" : Str), x5)] = [(("numbers" : Str), x0), (("beds" : Str), x1), (("ranks" : Str), x2), (("endings" : Str), x3), (("clock" : Str), x4), (("turns" : Str), x5), (("begun" : Str), v)] := by kernel_rfl
theorem pfh7 (x0 x1 x2 x3 x4 x5 x6 v : D) : putFD "entries" v [(("numbers" : Str), x0), (("beds" : Str), x1), (("ranks" : Str), x2), (("endings" : Str), x3), (("clock" : Str), x4), (("turns" : Str), x5), (("begun" : Str), x6)] = [(("numbers" : Str), x0), (("beds" : Str), x1), (("ranks" : Str), x2), (("endings" : Str), x3), (("clock" : Str), x4), (("turns" : Str), x5), (("begun" : Str), x6), (("entries" : Str), v)] := by kernel_rfl
theorem noFld_of {fs : List (Str × D)} {nm : Str} (l : List Str) (h : fs.map (·.1) = l) (k : (l.all fun x => !(x == nm)) = true) : noFld fs nm = true := by
  unfold noFld; subst h; rw [List.all_map] at k; exact k
def hallKeys : List Str := ["numbers", "beds", "ranks", "endings", "clock", "turns", "begun", "entries"]
theorem hall_keys (A : HA) (S : HS) : (hallF A S).map (·.1) = hallKeys := rfl
theorem hall_nofld (A : HA) (S : HS) (nm : Str) (k : (hallKeys.all fun x => !(x == nm)) = true) : noFld (hallF A S) nm = true := noFld_of _ (hall_keys A S) k
section
variable (C : Addr) (A : HA) (S : HS) (T : Addr → Option MM) (K : MM → Prop)
theorem hm_look_for : qMc (.ins C (hallF A S)) "look_for" T K = qO (T C) K := qMc_ins (hall_nofld A S _ (by decide +kernel))
theorem hm_look_awake : qMc (.ins C (hallF A S)) "look_awake" T K = qO (T C) K := qMc_ins (hall_nofld A S _ (by decide +kernel))
theorem hm_next_turn : qMc (.ins C (hallF A S)) "next_turn" T K = qO (T C) K := qMc_ins (hall_nofld A S _ (by decide +kernel))
theorem hm_lie_down : qMc (.ins C (hallF A S)) "lie_down" T K = qO (T C) K := qMc_ins (hall_nofld A S _ (by decide +kernel))
theorem hm_rise : qMc (.ins C (hallF A S)) "rise" T K = qO (T C) K := qMc_ins (hall_nofld A S _ (by decide +kernel))
theorem hm_is_over : qMc (.ins C (hallF A S)) "is_over" T K = qO (T C) K := qMc_ins (hall_nofld A S _ (by decide +kernel))
theorem hm_put : qMc (.ins C (hallF A S)) "put" T K = qO (T C) K := qMc_ins (hall_nofld A S _ (by decide +kernel))
theorem hm_sleep : qMc (.ins C (hallF A S)) "sleep" T K = qO (T C) K := qMc_ins (hall_nofld A S _ (by decide +kernel))
theorem hm_wake : qMc (.ins C (hallF A S)) "wake" T K = qO (T C) K := qMc_ins (hall_nofld A S _ (by decide +kernel))
theorem hm_move : qMc (.ins C (hallF A S)) "move" T K = qO (T C) K := qMc_ins (hall_nofld A S _ (by decide +kernel))
theorem hm_tick : qMc (.ins C (hallF A S)) "tick" T K = qO (T C) K := qMc_ins (hall_nofld A S _ (by decide +kernel))
theorem hm_lateness : qMc (.ins C (hallF A S)) "lateness" T K = qO (T C) K := qMc_ins (hall_nofld A S _ (by decide +kernel))
theorem hm_nudge : qMc (.ins C (hallF A S)) "nudge" T K = qO (T C) K := qMc_ins (hall_nofld A S _ (by decide +kernel))
theorem hm_rank : qMc (.ins C (hallF A S)) "rank" T K = qO (T C) K := qMc_ins (hall_nofld A S _ (by decide +kernel))
theorem hm_number : qMc (.ins C (hallF A S)) "number" T K = qO (T C) K := qMc_ins (hall_nofld A S _ (by decide +kernel))
theorem hm_line : qMc (.ins C (hallF A S)) "line" T K = qO (T C) K := qMc_ins (hall_nofld A S _ (by decide +kernel))
theorem hm_line_at : qMc (.ins C (hallF A S)) "line_at" T K = qO (T C) K := qMc_ins (hall_nofld A S _ (by decide +kernel))
theorem hm_order : qMc (.ins C (hallF A S)) "order" T K = qO (T C) K := qMc_ins (hall_nofld A S _ (by decide +kernel))
theorem hm_asleep : qMc (.ins C (hallF A S)) "asleep" T K = qO (T C) K := qMc_ins (hall_nofld A S _ (by decide +kernel))
theorem hm_sleeper : qMc (.ins C (hallF A S)) "sleeper" T K = qO (T C) K := qMc_ins (hall_nofld A S _ (by decide +kernel))
theorem hm_ending : qMc (.ins C (hallF A S)) "ending" T K = qO (T C) K := qMc_ins (hall_nofld A S _ (by decide +kernel))
theorem hm_standing : qMc (.ins C (hallF A S)) "standing" T K = qO (T C) K := qMc_ins (hall_nofld A S _ (by decide +kernel))
theorem hm_now : qMc (.ins C (hallF A S)) "now" T K = qO (T C) K := qMc_ins (hall_nofld A S _ (by decide +kernel))
theorem hm_log : qMc (.ins C (hallF A S)) "log" T K = qO (T C) K := qMc_ins (hall_nofld A S _ (by decide +kernel))
theorem hm_who : qMc (.ins C (hallF A S)) "who" T K = qO (T C) K := qMc_ins (hall_nofld A S _ (by decide +kernel))
theorem hm_filled : qMc (.ins C (hallF A S)) "filled" T K = qO (T C) K := qMc_ins (hall_nofld A S _ (by decide +kernel))
theorem hm_twin : qMc (.ins C (hallF A S)) "twin" T K = qO (T C) K := qMc_ins (hall_nofld A S _ (by decide +kernel))
end
local macro_rules | `(tactic| simp_arith only [$xs,*]) => `(tactic| simp -failIfUnchanged -implicitDefEqProofs (disch := (first | (simp only [Doz.len_push, Doz.len_set]; omega) | omega | assumption)) only [↓wR_ok, ↓wR_err, ↓wE_var0, ↓wE_varS, ↓wE_C, ↓wE_op, ↓wE_cmp, ↓wE_bl, ↓qB_bl, ↓wE_asB, ↓wE_and, ↓wE_or, ↓wE_not, ↓wE_andV, ↓wE_orV, ↓wE_notV, ↓wE_if, ↓wE_nil, ↓wE_cons, ↓wE_fz, ↓wE_lc, ↓wE_tup, ↓wE_lst, ↓wE_call, ↓wE_nopart, ↓qI_int, ↓wE_part, ↓wE_slice, ↓wE_fld, ↓wE_dnew, ↓wE_iter, ↓wE_rev, ↓wE_pos, ↓wE_kws, ↓wE_noa, ↓wE_both, ↓wE_fn, ↓wE_mth, ↓qN_non, ↓wE_mk, ↓wE_meth, ↓wE_neg, ↓wE_chain, ↓wE_comp, ↓wS_nx, ↓wS_bk, ↓wS_ct, ↓wS_seq, ↓wS_drop, ↓wS_ret, ↓wS_retN, ↓wS_if, ↓wS_asg, ↓qL_loc, ↓qCl_lst, ↓wS_retFz, ↓wS_raise, ↓wS_for, ↓wS_try, ↓wG_set0, ↓wG_setS, ↓wG_then, ↓wG_sub, ↓wG_fld, ↓qT_tup, ↓wG_tup, ↓wGs_nil, ↓wGs_cons, ↓endB_nx, ↓endB_rt, ↓endB_er, ↓endB_bk, ↓endB_ct, ↓loopP_nx, ↓loopP_ct, ↓loopP_bk, ↓loopP_rt, ↓loopP_er, ↓qO_some, ↓qO_at0, ↓qO_at1, ↓qO_at2, ↓qO_at3, ↓qO_at4, ↓qO_at5, ↓w_add_int, ↓w_add_str, ↓w_add_tup, ↓w_add_lst, ↓w_sub, ↓w_mod, ↓w_div, ↓w_mul, ↓w_pow, ↓w_band, ↓w_lt, ↓w_le, ↓w_gt, ↓w_ge, ↓w_is, ↓w_isNot, ↓nonN, ↓nonI, ↓nonS, ↓nonT, ↓nonL, ↓nonLoc, ↓w_eq_int, ↓w_ne_int, ↓w_eq_str, ↓w_ne_str, ↓qIx_lst, ↓qIx_dK, ↓qIxS_dK, ↓w_ix_loc, ↓w_ix_locS, ↓w_ix_lst, ↓w_ix_tup, ↓w_ix_str, ↓qLS_0, ↓qLS_1, ↓qLS_2, ↓qLS_3, ↓qSet_lst, ↓qSet_dK, ↓qSetS_dK, ↓w_setI, ↓w_setS, ↓qF_ins, ↓w_fld, ↓qSF_ins, ↓w_setF, ↓w_len_str, ↓w_len_lst, ↓w_len_tup, ↓qLen_lst, ↓qLen_dK, ↓w_len_loc, ↓w_max, ↓w_min, ↓w_int_int, ↓w_int_bl, ↓w_str_int, ↓qDc_dK, ↓w_dict, ↓w_tuple_lst, ↓w_tuple_tup, ↓w_tuple_loc, ↓w_list_lst, ↓w_list_tup, ↓w_iter_lst, ↓w_iter_tup, ↓w_iter_str, ↓w_iter_loc, ↓w_rng1, ↓w_rng2, ↓w_sl_str, ↓w_sl_tup, ↓w_sl_lst, ↓w_append, ↓w_lclear, ↓tyS_str, ↓tyL_lst, ↓qM_loc, ↓look1, ↓wC_set, ↓wC_setn, ↓wC_push2, ↓wC_pushn, ↓wE_yes, ↓wE_revL, ↓qO_lst, ↓w_all_lst, ↓w_join_lst, ↓isi_non_int, ↓isi_non_bool, ↓isi_non_str, ↓isi_non_tuple, ↓isi_non_list, ↓isi_non_dict, ↓isi_bl_int, ↓isi_bl_bool, ↓isi_bl_str, ↓isi_bl_tuple, ↓isi_bl_list, ↓isi_bl_dict, ↓isi_int_int, ↓isi_int_bool, ↓isi_int_str, ↓isi_int_tuple, ↓isi_int_list, ↓isi_int_dict, ↓isi_str_int, ↓isi_str_bool, ↓isi_str_str, ↓isi_str_tuple, ↓isi_str_list, ↓isi_str_dict, ↓isi_tup_int, ↓isi_tup_bool, ↓isi_tup_str, ↓isi_tup_tuple, ↓isi_tup_list, ↓isi_tup_dict, ↓isi_lst_int, ↓isi_lst_bool, ↓isi_lst_str, ↓isi_lst_tuple, ↓isi_lst_list, ↓isi_lst_dict, ↓hm_look_for, ↓hm_look_awake, ↓hm_next_turn, ↓hm_lie_down, ↓hm_rise, ↓hm_is_over, ↓hm_put, ↓hm_sleep, ↓hm_wake, ↓hm_move, ↓hm_tick, ↓hm_lateness, ↓hm_nudge, ↓hm_rank, ↓hm_number, ↓hm_line, ↓hm_line_at, ↓hm_order, ↓hm_asleep, ↓hm_sleeper, ↓hm_ending, ↓hm_standing, ↓hm_now, ↓hm_log, ↓hm_who, ↓hm_filled, ↓hm_twin, ↓hf_numbers, ↓hf_beds, ↓hf_ranks, ↓hf_endings, ↓hf_clock, ↓hf_turns, ↓hf_begun, ↓hf_entries, decide_eq_true_eq, beq_iff_eq, Bool.not_eq_true', Bool.not_eq_eq_eq_not, Bool.not_true, Bool.not_false, decide_eq_false_iff_not, beq_eq_false_iff_ne, ne_eq, true_and, and_true, if_true, if_false, ite_true, ite_false, reduceIte, Bool.false_eq_true, not_false_eq_true, not_true_eq_false, Int.reduceLT, Int.reduceLE, Int.reduceToNat, Nat.reduceLT, Nat.reduceLeDiff, Int.reducePow, Nat.reduceAdd, Int.reduceAdd, Int.reduceMul, Int.reduceSub, Int.reduceNeg, Nat.reducePow, Int.reduceEq, Nat.reduceEqDiff, List.length_cons, List.length_nil, PySem.sizeLine_eq, str_len_app, str_len_one, wipeD, List.set_cons_zero, List.set_cons_succ, $xs,*])
theorem look_for_ok {c : Cl} {μ : Mem} {A : HA} {S : HS} (h : HallAt c μ A S) (r : Str) :
    wR (m_n_Hall_look_for c [.loc A.a, .str r] μ) (fun v μ' => v = .non ∧ μ' = μ ∧ r ∈ S.num.map (·.1)) (fun C w μ' => C = c.n_NoRoom ∧ w = .str r ∧ μ' = μ ∧ r ∉ S.num.map (·.1)) := by
  unfold m_n_Hall_look_for
  rw [w_run]
  show wS (t_n_Hall_look_for c) [some (.loc A.a), some (.str r)] μ _
  unfold t_n_Hall_look_for
  simp_arith only [↓wC_of h.hh, ↓hf_numbers, ↓w_notIn_dictS h.hN, encS_get, Option.isSome_map, aget_isSome]
  split
  · rename_i hr; simpa using hr
  · rename_i hr; simpa using hr
theorem number_in {c : Cl} {μ : Mem} {A : HA} {S : HS} (h : HallAt c μ A S) {r : Str} {v : Int} (hr : aget S.num r = some v) :
    wR (m_n_Hall_number c [.loc A.a, .str r] μ) (fun d μ' => d = .int v ∧ μ' = μ) noE := by
  unfold m_n_Hall_number
  rw [w_run]
  show wS (t_n_Hall_number c) [some (.loc A.a), some (.str r)] μ _
  unfold t_n_Hall_number
  simp_arith only [↓wC_of h.hh]
  refine (look_for_ok h r).imp2 ?_ ?_
  · rintro _ _ ⟨rfl, rfl, _⟩
    simp_arith only [↓wC_of h.hh, ↓hf_numbers, ↓wC_of h.hN, ↓qO_of (show kget (encS D.int S.num) (.inr r) = some (.int v) by rw [encS_get, hr]; rfl)]
  · rintro _ _ _ ⟨_, _, _, hn⟩
    exact hn (List.mem_map_of_mem (f := (·.1)) (aget_some hr))
theorem number_out {c : Cl} {μ : Mem} {A : HA} {S : HS} (h : HallAt c μ A S) {r : Str} (hr : r ∉ S.num.map (·.1)) :
    wR (m_n_Hall_number c [.loc A.a, .str r] μ) (fun _ _ => False) (fun C w μ' => C = c.n_NoRoom ∧ w = .str r ∧ μ' = μ) := by
  unfold m_n_Hall_number
  rw [w_run]
  show wS (t_n_Hall_number c) [some (.loc A.a), some (.str r)] μ _
  unfold t_n_Hall_number
  simp_arith only [↓wC_of h.hh]
  refine (look_for_ok h r).imp2 ?_ ?_
  · rintro _ _ ⟨_, _, hn⟩
    exact absurd hn hr
  · rintro _ _ _ ⟨rfl, rfl, rfl, _⟩
    exact ⟨rfl, rfl, rfl⟩
def HS.put (S : HS) (r : Str) (v : Int) : HS := { S with num := aput S.num r v, log := S.log ++ [.tup [.str "put", .str r, .int v]] }
theorem put_in {c : Cl} {μ : Mem} {A : HA} {S : HS} (h : HallAt c μ A S) {r : Str} {v : Int} (hr : r ∈ S.num.map (·.1)) (hl : S.log.length < 16777216) (hn : S.num.length < 16777216) :
    wR (m_n_Hall_put c [.loc A.a, .str r, .int v] μ) (fun d μ' => d = .non ∧ HallTo c μ A S μ' (S.put r v)) noE := by
  unfold m_n_Hall_put
  rw [w_run]
  show wS (t_n_Hall_put c) [some (.loc A.a), some (.str r), some (.int v)] μ _
  unfold t_n_Hall_put
  simp_arith only [↓wC_of h.hh]
  refine (look_for_ok h r).imp2 ?_ (fun _ _ _ z => absurd hr z.2.2.2)
  rintro _ _ ⟨rfl, rfl, _⟩
  have ne := h.ne
  have ne1 : A.aL ≠ A.aN := by omega
  simp_arith only [↓wC_of h.hh, ↓wC_of h.hN, enc_len, ↓wC_setn ne.1.1, ↓wC_setn ne1, ↓wC_of h.hL, lkd_nil h.lk, tyL_of (at_setn_of h.hL ne1)]
  repeat refine And.intro (by (first | exact mulOk (by omega) (by omega) (by omega) (by omega) | exact divOk (by omega) (by omega) | exact powOk (by omega) (by omega) (by omega) (by omega) | exact strOk' (by omega) (by omega) | assumption | omega | decide)) ?_
  have mf := mem_foot (A := A) (S := S)
  have lN := at_lt h.hN
  have lL := at_lt h.hL
  refine ⟨⟨h.lk, h.nd, at_setn_of (at_setn_of h.hh (by omega)) (by omega), ?_, at_setn_of (at_setn_of h.hB (by omega)) (by omega), at_setn_of (at_setn_of h.hR (by omega)) (by omega), at_setn_of (at_setn_of h.hE (by omega)) (by omega), at_set (by rw [len_set]; exact lL),
    fun p hp => ?_, aput_nodup h.nN, h.nB, h.nR, h.nE⟩, ?_, fun k hk => .inl hk⟩
  · rw [at_setn (by omega), at_set lN, encS_put]; rfl
  · have := h.neb hp
    exact at_setn_of (at_setn_of (h.hb p hp) (by omega)) (by omega)
  · exact ((Fr.set1 _ _ _).mono (by intro k hk _; simp at hk; subst hk; exact mf.2.1)).trans (Fr.set1 _ _ _) (by intro k hk _; simp at hk; subst hk; exact mf.2.2.2.2.2)
theorem put_out {c : Cl} {μ : Mem} {A : HA} {S : HS} (h : HallAt c μ A S) {r : Str} {v : D} (hr : r ∉ S.num.map (·.1)) :
    wR (m_n_Hall_put c [.loc A.a, .str r, v] μ) (fun _ _ => False) (fun C w μ' => C = c.n_NoRoom ∧ w = .str r ∧ μ' = μ) := by
  unfold m_n_Hall_put
  rw [w_run]
  show wS (t_n_Hall_put c) [some (.loc A.a), some (.str r), some v] μ _
  unfold t_n_Hall_put
  simp_arith only [↓wC_of h.hh]
  refine (look_for_ok h r).imp2 ?_ ?_
  · rintro _ _ ⟨_, _, hn⟩
    exact absurd hn hr
  · rintro _ _ _ ⟨rfl, rfl, rfl, _⟩
    exact ⟨rfl, rfl, rfl⟩
theorem init_ok {c : Cl} {μ : Mem} {r : Nat} {num : List (Str × Int)} (hl : μ.lk = []) (hr : μ.cells[r]? = some (.dK (encS D.int num))) (hn : (num.map (·.1)).Nodup) :
    wR (m_n_Halldd_initdd c [.loc μ.cells.length, .loc r] (μ.push (.ins c.n_Hall []))) (fun d μ' => d = .non ∧ ∃ A : HA, A.a = μ.cells.length ∧ HallAt c μ' A { num := num } ∧ Fr [] μ μ' ∧ ∀ k ∈ foot A { num := num }, μ.cells.length ≤ k) noE := by
  unfold m_n_Halldd_initdd
  rw [w_run]
  show wS (t_n_Halldd_initdd c) [some (.loc μ.cells.length), some (.loc r)] (μ.push (.ins c.n_Hall [])) _
  unfold t_n_Halldd_initdd
  have hlr := at_lt hr
  simp_arith only [↓wC_of hr, pfh0, pfh1, pfh2, pfh3, pfh4, pfh5, pfh6, pfh7, len_push, len_set, set_push2, set_pushn, set_set, List.contains_cons, beq_self_eq_true, Bool.true_or, Bool.or_true]
  repeat refine And.intro (by (first | exact mulOk (by omega) (by omega) (by omega) (by omega) | exact divOk (by omega) (by omega) | exact powOk (by omega) (by omega) (by omega) (by omega) | exact strOk' (by omega) (by omega) | assumption | omega | decide)) ?_
  have q : ∀ k, μ.cells.length + k ≠ r := by omega
  refine ⟨⟨μ.cells.length, μ.cells.length + 1, μ.cells.length + 1 + 1, μ.cells.length + 1 + 1 + 1, μ.cells.length + 1 + 1 + 1 + 1, μ.cells.length + 1 + 1 + 1 + 1 + 1⟩, rfl, ⟨hl, ?_, ?_, ?_, ?_, ?_, ?_, ?_, fun p hp => (by cases hp), hn, List.nodup_nil, List.nodup_nil, List.nodup_nil⟩, ?_, ?_⟩
  · simp [foot, HA.list]; omega
  · exact at_push_of (at_push_of (at_push_of (at_push_of (at_push_of at_push))))
  · exact at_push_of (at_push_of (at_push_of (at_push_of (at_push2 (by simp only [len_push])))))
  · exact at_push_of (at_push_of (at_push_of (at_push2 (by simp only [len_push]))))
  · exact at_push_of (at_push_of (at_push2 (by simp only [len_push])))
  · exact at_push_of (at_push2 (by simp only [len_push]))
  · exact at_push2 (by simp only [len_push])
  · exact (Fr.push _ _ _).trans ((Fr.push [] _ _).trans ((Fr.push [] _ _).trans ((Fr.push [] _ _).trans ((Fr.push [] _ _).trans (Fr.push [] _ _)))))
  · intro k hk; simp [foot, HA.list] at hk; omega
end Doz
end
section
namespace Doz
open PySem L2
section
variable {δ : DEnv} {μ : Mem} {E : EP}
theorem wR_qO {α β : Type} (o : Option α) (k : α → Res β) (Q : β → Mem → Prop) : wR (match o with | some a => k a | none => .bad) Q E = qO o fun a => wR (k a) Q E := by cases o <;> rfl
theorem wE_get1 (mo mk : ME) (Q : D → Mem → Prop) : wE (mget1 mo mk) δ μ Q E = wE mo δ μ (fun d μ1 => qO (dictOf μ1 d) fun _ => wE mk δ μ1 (fun k μ2 => qO (dfind μ2 d k) fun o => Q (o.getD .non) μ2) E) E := by
  unfold mget1
  rw [wE_bind]
  congr 1; funext d μ1
  show wR (match dictOf μ1 d with | some _ => _ | none => _) Q E = _
  cases dictOf μ1 d with
  | none => rfl
  | some kds =>
    show wR ((mk δ μ1).bind _) Q E = _
    rw [wR_bind]
    show _ = wR (mk δ μ1) _ E
    congr 1; funext k μ2
    cases dfind μ2 d k <;> rfl
theorem wE_get2 (mo mk mz : ME) (Q : D → Mem → Prop) : wE (mget2 mo mk mz) δ μ Q E = wE mo δ μ (fun d μ1 => qO (dictOf μ1 d) fun _ => wE mk δ μ1 (fun k μ2 => wE mz δ μ2 (fun z μ3 => qO (dfind μ3 d k) fun o => Q (o.getD z) μ3) E) E) E := by
  unfold mget2
  rw [wE_bind]
  congr 1; funext d μ1
  show wR (match dictOf μ1 d with | some _ => _ | none => _) Q E = _
  cases dictOf μ1 d with
  | none => rfl
  | some kds =>
    show wR ((mk δ μ1).bind _) Q E = _
    rw [wR_bind]
    show _ = wR (mk δ μ1) _ E
    congr 1; funext k μ2
    rw [wR_bind]
    show _ = wR (mz δ μ2) _ E
    congr 1; funext z μ3
    cases dfind μ3 d k <;> rfl
theorem wE_pop1 (mo mk : ME) (Q : D → Mem → Prop) : wE (mpop1 mo mk) δ μ Q E = wE mo δ μ (fun d μ1 => qO (dictOf μ1 d) fun _ => wE mk δ μ1 (fun k μ2 => qO (dcell μ2 d) fun nk => qO (keyOf k) fun key => qO (kget nk.2 key) fun v => Q v (μ2.set nk.1 (.dK (kdrop nk.2 key)))) E) E := by
  unfold mpop1
  rw [wE_bind]
  congr 1; funext d μ1
  show wR (match dictOf μ1 d with | some _ => _ | none => _) Q E = _
  cases dictOf μ1 d with
  | none => rfl
  | some kds =>
    show wR ((mk δ μ1).bind _) Q E = _
    rw [wR_bind]
    show _ = wR (mk δ μ1) _ E
    congr 1; funext k μ2
    cases dcell μ2 d with
    | none => rfl
    | some nk =>
      obtain ⟨n, kds⟩ := nk
      cases keyOf k with
      | none => rfl
      | some key =>
        dsimp only [qO]
        cases kget kds key <;> rfl
theorem qO_dict {n : Nat} {kds : List (Key × D)} (h : μ.cells[n]? = some (.dK kds)) (Q : List (Key × D) → Prop) : qO (dictOf μ (.loc n)) Q = Q kds := by
  unfold dictOf; dsimp only; rw [h]; rfl
theorem qO_dfindI {n : Nat} {kds : List (Key × D)} (h : μ.cells[n]? = some (.dK kds)) (i : Int) (Q : Option D → Prop) : qO (dfind μ (.loc n) (.int i)) Q = Q (kget kds (.inl i)) := by
  unfold dfind dictOf; dsimp only; rw [h]; rfl
theorem qO_dfindS {n : Nat} {kds : List (Key × D)} (h : μ.cells[n]? = some (.dK kds)) (x : Str) (Q : Option D → Prop) : qO (dfind μ (.loc n) (.str x)) Q = Q (kget kds (.inr x)) := by
  unfold dfind dictOf; dsimp only; rw [h]; rfl
theorem qO_dcell {n : Nat} {kds : List (Key × D)} (h : μ.cells[n]? = some (.dK kds)) (hl : μ.lkd n = false) (Q : Nat × List (Key × D) → Prop) : qO (dcell μ (.loc n)) Q = Q (n, kds) := by
  unfold dcell; dsimp only; rw [h]; dsimp only; rw [hl]; rfl
theorem qO_keyI (i : Int) (Q : Key → Prop) : qO (keyOf (.int i)) Q = Q (.inl i) := rfl
theorem qO_keyS (x : Str) (Q : Key → Prop) : qO (keyOf (.str x)) Q = Q (.inr x) := rfl
def qIns (c : Cell) (Q : Addr → List (Str × D) → Prop) : Prop := match c with
  | .ins C fs => Q C fs
  | _ => False
theorem qIns_ins (C : Addr) (fs : List (Str × D)) (Q : Addr → List (Str × D) → Prop) : qIns (.ins C fs) Q = Q C fs := rfl
theorem wS_faug {P : Po} (g : Int → Int → Int) (f : Str) (mo me : ME) : wS (mfaug g f mo me) δ μ P = wE mo δ μ (fun d μ1 => qL d fun n => wC μ1 n fun c => qIns c fun C fs => qO (fs.lookup f) fun v => qI v fun i =>
    wE me δ μ1 (fun y μ2 => wC μ2 n fun c' => qIns c' fun C' fs' => qI y fun j => (C' = C ∧ (fs'.lookup f).isSome = true ∧ fs'.length < 1000) ∧ P.nx δ (μ2.set n (.ins C' (putFD f (.int (g i j)) fs')))) (fun C w μ2 => P.er C w δ μ2)) (fun C w μ1 => P.er C w δ μ1) := by
  unfold mfaug
  rw [wS_ofE]
  congr 1; funext d μ1
  unfold wS
  cases d with
  | loc n =>
    show wP (match insAt μ1 (.loc n) with | some (_, C, fs) => _ | none => _) P = wC μ1 n _
    unfold insAt wC
    dsimp only
    cases μ1.cells[n]? with
    | none => rfl
    | some c =>
      cases c with
      | ins C fs =>
        dsimp only [qIns]
        cases fs.lookup f with
        | none => rfl
        | some v =>
          cases v with
          | int i =>
            dsimp only [qO, qI]
            show wS (ofE me _) δ μ1 P = _
            rw [wS_ofE]
            congr 1; funext y μ2
            show wP (match insAt μ2 (.loc n), y with | some (n, C', fs'), .int j => _ | _, _ => _) P = _
            unfold insAt
            dsimp only
            cases μ2.cells[n]? with
            | none => rfl
            | some c' =>
              cases c' with
              | ins C' fs' =>
                cases y with
                | int j => dsimp only; rw [wP_ite]; rfl
                | _ => rfl
              | _ => rfl
          | _ => rfl
      | _ => rfl
  | _ => rfl
theorem wE_disp (ps : MP) (Q : D → Mem → Prop) : wE (mdisp ps) δ μ Q E = wE (mpairs ps) δ μ (fun kvs μ1 => qO (keysOf kvs) fun kds => kds.length ≤ 15 ∧ Q (.loc μ1.cells.length) (μ1.push (.dK (kmerge [] kds)))) E := by
  unfold mdisp
  rw [wE_bind]
  congr 1; funext kvs μ1
  show wR (match keysOf kvs with | some kds => _ | none => _) Q E = _
  cases keysOf kvs with
  | none => rfl
  | some kds => dsimp only [qO]; rw [wR_ite]; rfl
theorem wE_pairs0 (Q : List (D × D) → Mem → Prop) : wE (mpairs []) δ μ Q E = Q [] μ := rfl
theorem wE_pairsC (mk mv : ME) (r : MP) (Q : List (D × D) → Mem → Prop) : wE (mpairs ((mk, mv) :: r)) δ μ Q E = wE mk δ μ (fun k μ1 => wE mv δ μ1 (fun v μ2 => wE (mpairs r) δ μ2 (fun ps μ3 => Q ((k, v) :: ps) μ3) E) E) E := by
  show wE (bindM mk fun k => bindM mv fun v => bindM (mpairs r) fun ps => fun _ μ => .ok ((k, v) :: ps) μ) δ μ Q E = _
  rw [wE_bind]; congr 1; funext k μ1; rw [wE_bind]; congr 1; funext v μ2; rw [wE_bind]; rfl
theorem keysOf0 (Q : List (Key × D) → Prop) : qO (keysOf []) Q = Q [] := rfl
theorem keysOfS (x : Str) (v : D) (r : List (D × D)) (Q : List (Key × D) → Prop) : qO (keysOf ((.str x, v) :: r)) Q = qO (keysOf r) fun ks => Q ((.inr x, v) :: ks) := by
  show qO (match keyOf (.str x), keysOf r with | some k, some ks => _ | _, _ => _) Q = _
  cases keysOf r <;> rfl
theorem keysOfI (i : Int) (v : D) (r : List (D × D)) (Q : List (Key × D) → Prop) : qO (keysOf ((.int i, v) :: r)) Q = qO (keysOf r) fun ks => Q ((.inl i, v) :: ks) := by
  show qO (match keyOf (.int i), keysOf r with | some k, some ks => _ | _, _ => _) Q = _
  cases keysOf r <;> rfl
theorem w_lockN {sel : Sel} {m : MX (List D)} {n : Nat} {Q : List D → Mem → Prop} (hs : sel δ μ = some n) (hl : μ.lkd n = false) {kds : List (Key × D)} (hd : μ.cells[n]? = some (.dK kds))
    (h : wE m δ (lockM n μ) (fun a μ1 => μ1.lk = n :: μ.lk ∧ Q a (openM μ.lk μ1)) noE) : wE (mlockN sel m) δ μ Q E := by
  unfold wE mlockN
  rw [hs]; dsimp only
  rw [if_neg (by rw [hl]; simp), if_pos (by unfold isDK; rw [hd])]
  obtain ⟨a, μ1, e, h1, h2⟩ := wR.of h
  rw [e]
  show wR (if μ1.lk = n :: μ.lk then _ else _) Q E
  rw [if_pos h1]; exact h2
theorem w_lockS {sel : Sel} {ms : MS} {n : Nat} {P : Po} (hs : sel δ μ = some n) (hl : μ.lkd n = false) {kds : List (Key × D)} (hd : μ.cells[n]? = some (.dK kds))
    (h : wS ms δ (lockM n μ) { nx := fun δ1 μ1 => μ1.lk = n :: μ.lk ∧ P.nx δ1 (openM μ.lk μ1), rt := fun d μ1 => μ1.lk = n :: μ.lk ∧ P.rt d (openM μ.lk μ1), bk := fun δ1 μ1 => μ1.lk = n :: μ.lk ∧ P.bk δ1 (openM μ.lk μ1), ct := fun δ1 μ1 => μ1.lk = n :: μ.lk ∧ P.ct δ1 (openM μ.lk μ1), er := fun _ _ _ _ => False }) : wS (mlockS sel ms) δ μ P := by
  unfold wS mlockS
  rw [hs]; dsimp only
  rw [if_neg (by rw [hl]; simp), if_pos (by unfold isDK; rw [hd])]
  unfold wS at h
  cases e : ms δ (lockM n μ) with
  | nx δ1 μ1 => rw [e] at h; show wP (if _ then _ else _) P; rw [if_pos h.1]; exact h.2
  | rt d μ1 => rw [e] at h; show wP (if _ then _ else _) P; rw [if_pos h.1]; exact h.2
  | bk δ1 μ1 => rw [e] at h; show wP (if _ then _ else _) P; rw [if_pos h.1]; exact h.2
  | ct δ1 μ1 => rw [e] at h; show wP (if _ then _ else _) P; rw [if_pos h.1]; exact h.2
  | err C w δ1 μ1 => rw [e] at h; exact h.elim
  | bad => rw [e] at h; exact h.elim
theorem sel_of {m : ME} {n : Nat} (h : wE m δ μ (fun d _ => d = .loc n) noE) : selOf m δ μ = some n := by
  obtain ⟨a, μ1, e, rfl⟩ := wR.of h
  unfold selOf; rw [e]
theorem wE_keys (m : ME) (Q : Its0 → Mem → Prop) : wE (mkeys m) δ μ Q E = wE m δ μ (fun d μ1 => qL d fun n => wC μ1 n fun c => qDc c fun kds => μ1.lkd n = true ∧ Q (kds.map fun k => keyD k.1, fun _ => true) μ1) E := by
  unfold mkeys
  rw [wE_bind]
  congr 1; funext d μ1
  cases d with
  | loc n =>
    show wR (match μ1.cells[n]? with | some (.dK kds) => _ | _ => _) Q E = wC μ1 n _
    unfold wC
    cases μ1.cells[n]? with
    | none => rfl
    | some c =>
      cases c with
      | dK kds => dsimp only [qDc]; rw [wR_ite]; rfl
      | _ => rfl
  | _ => rfl
theorem lkd_lock (n : Nat) : (lockM n μ).lkd n = true := by simp [Mem.lkd, lockM]
theorem open_lock (n : Nat) : openM μ.lk (lockM n μ) = μ := rfl
theorem keysI {β : Type} (g : β → D) (l : List (Int × β)) : (encI g l).map (fun k => keyD k.1) = l.map fun p => D.int p.1 := by simp [encI, enc, keyD, Function.comp_def]
theorem keysS {β : Type} (g : β → D) (l : List (Str × β)) : (encS g l).map (fun k => keyD k.1) = l.map fun p => D.str p.1 := by simp [encS, enc, keyD, Function.comp_def]
theorem wE_sliceN (a : ME) (l u : MX (Option Int)) (Q : List D → Mem → Prop) : wE (msliceN a l u) δ μ Q E = wE a δ μ (fun x μ1 => wE l δ μ1 (fun lo μ2 => wE u δ μ2 (fun hi μ3 => qO (lstOf μ3 x) fun ds => Q (cutD ds lo hi) μ3) E) E) E := by
  unfold msliceN
  rw [wE_bind]; congr 1; funext x μ1; rw [wE_bind]; congr 1; funext lo μ2; rw [wE_bind]; congr 1; funext hi μ3
  show wR (match lstOf μ3 x with | some ds => _ | none => _) Q E = _
  cases lstOf μ3 x <;> rfl
theorem qO_lstLoc {n : Nat} {ds : List D} (h : μ.cells[n]? = some (.lst ds)) (Q : List D → Prop) : qO (lstOf μ (.loc n)) Q = Q ds := by
  unfold lstOf; dsimp only; rw [h]; rfl
def sortK (nm : Str) (T : Addr → Option MF) (xs d : D) (μ : Mem) : Res (List D) := match lstOf μ xs, insOf μ d with
  | some ds, some (C, fs) => if noFld fs nm = true then match T C with
      | some m => match ds.mapM (keyL m d μ) with
        | some ks => match ks.mapM (rsv μ 8) with
          | some ps => if keysOk ps = true then .ok (sortBy (ds.zip ps)) μ else .bad
          | none => .bad
        | none => .bad
      | none => .bad
    else .bad
  | _, _ => .bad
theorem wE_sortK (nm : Str) (T : Addr → Option MF) (me mo : ME) (Q : List D → Mem → Prop) : wE (msortK nm T me mo) δ μ Q E = wE me δ μ (fun xs μ1 => wE mo δ μ1 (fun d μ2 => wR (sortK nm T xs d μ2) Q E) E) E := by
  unfold msortK
  rw [wE_bind]; congr 1; funext x μ1; rw [wE_bind]; rfl
end
theorem lexC (x : Int) (r t : List (Int ⊕ List Nat)) : PyProof.Rows.lexLt PyProof.Rows.itemOrd (.inl x :: r) (.inl x :: t) = PyProof.Rows.lexLt PyProof.Rows.itemOrd r t := PyProof.Rows.lex_self (O := PyProof.Rows.itemOrd) _ _ _
theorem lexD {x y : Int} (r t : List (Int ⊕ List Nat)) (h : x ≠ y) : PyProof.Rows.lexLt PyProof.Rows.itemOrd (.inl x :: r) (.inl y :: t) = decide (x < y) := (PyProof.Rows.lex_diff (O := PyProof.Rows.itemOrd) (x := .inl x) (y := .inl y) (fun z => h (Sum.inl.inj z))).trans rfl
def le2 (p q : Int × Int) : Bool := decide (p.1 < q.1 ∨ (p.1 = q.1 ∧ p.2 ≤ q.2))
def pairD (p : Int × Int) : D := .tup [.int p.1, .int p.2]
theorem le2_ok {α : Type} (x y : α) (p q : Int × Int) : PySem.W.dataLe false (fun b : α × D => toPy b.2) (x, pairD p) (y, pairD q) = le2 p q := by
  obtain ⟨a, b⟩ := p
  obtain ⟨c, d⟩ := q
  show (!PyProof.Rows.lexLt PyProof.Rows.itemOrd [.inl 1, .inl c, .inl 1, .inl d, .inl 0] [.inl 1, .inl a, .inl 1, .inl b, .inl 0]) = le2 (a, b) (c, d)
  unfold le2
  rw [lexC]
  by_cases h : c = a
  · subst h
    rw [lexC, lexC]
    by_cases h : d = b
    · subst h
      rw [lexC, lexC]
      have : PyProof.Rows.lexLt PyProof.Rows.itemOrd [] [] = false := rfl
      rw [this]; simp
    · rw [lexD _ _ h]
      by_cases h2 : d < b
      · simp [h2]; try omega
      · simp [h2]; try omega
  · rw [lexD _ _ h]
    by_cases h2 : c < a
    · simp [h2]; omega
    · simp [h2]; omega
theorem pures_map {α : Type} {f : α → D} (h : ∀ a, (f a).pure = true) : ∀ xs : List α, D.pures (xs.map f) = true
  | [] => by simp [D.pures]
  | x :: xs => by simp [D.pures, h x, pures_map h xs]
theorem keysOk_pairs {α : Type} (f : α → Int × Int) (xs : List α) : keysOk (xs.map fun x => pairD (f x)) = true := by
  unfold keysOk
  simp only [Bool.and_eq_true]
  refine ⟨pures_map (fun a => by simp [pairD, D.pure, D.pures]) xs, ?_, ?_, ?_⟩
  · unfold alikeB
    simp [List.all_map, List.all_eq_true, pairD, toPy, toPys, PySem.W.alike, PySem.W.alikeAll]
  · unfold sortB
    simp [List.all_map, List.all_eq_true, pairD, tupB]
  · rw [List.all_map, List.all_eq_true]
    intro a _
    have z := (lay_nice 8 (pairD (f a)) rfl).2
    exact decide_eq_true (show (toPy (pairD (f a))).depth ≤ 64 by omega)
theorem mapM_map {α β : Type} {g : α → D} {h : α → β} {f : D → Option β} : ∀ {xs : List α}, (∀ a ∈ xs, f (g a) = some (h a)) → (xs.map g).mapM f = some (xs.map h)
  | [], _ => rfl
  | d :: ds, k => by
    rw [List.map_cons, List.mapM_cons, k d (by simp), mapM_map fun e he => k e (by simp [he])]; rfl
theorem w_sortP {α : Type} {nm : Str} {T : Addr → Option MF} {n : Nat} {μ : Mem} {C : Addr} {fs : List (Str × D)} {m : MF} {xs : List α} {g : α → D} {key : α → Int × Int} {Q : List D → Mem → Prop} {E : EP}
    (hc : μ.cells[n]? = some (.ins C fs)) (hf : noFld fs nm = true) (hT : T C = some m) (hk : ∀ a ∈ xs, wR (m [.loc n, g a] μ) (fun k _ => k = pairD (key a)) noE)
    (hq : Q ((xs.mergeSort fun a b => le2 (key a) (key b)).map g) μ) : wR (sortK nm T (.lst (xs.map g)) (.loc n) μ) Q E := by
  unfold sortK
  rw [insOf_of hc]
  show wR (if noFld fs nm = true then _ else _) Q E
  rw [if_pos hf, hT]
  dsimp only
  rw [mapM_map (h := fun a => pairD (key a)) fun a ha => by
    obtain ⟨k, μ', e, rfl⟩ := wR.of (hk a ha)
    unfold keyL; rw [e]]
  dsimp only
  rw [mapM_self (f := rsv μ 8) (fun d hd => by
    obtain ⟨a, _, rfl⟩ := List.mem_map.mp hd
    exact rsv_nice μ 8 _ rfl)]
  dsimp only
  rw [if_pos (keysOk_pairs key xs)]
  have e : sortBy ((xs.map g).zip (xs.map fun a => pairD (key a))) = (xs.mergeSort fun a b => le2 (key a) (key b)).map g := by
    unfold sortBy
    have z : (xs.map g).zip (xs.map fun a => pairD (key a)) = xs.map fun a => (g a, pairD (key a)) := by
      rw [List.zip_map']
    rw [z, ← List.map_mergeSort (r := fun a b => le2 (key a) (key b)) (fun a _ b _ => (le2_ok _ _ _ _).symm), List.map_map]
    rfl
  rw [e]; exact hq
end Doz
end
section
namespace Doz
open PySem L2
section
variable (b : BedS) (Q : D → Prop)
theorem hb_place : qO ((bedF b).lookup ("place" : Str)) Q = Q (.str b.place) := by kernel_rfl
theorem hb_turn : qO ((bedF b).lookup ("turn" : Str)) Q = Q (.int b.turn) := by kernel_rfl
theorem hb_since : qO ((bedF b).lookup ("since" : Str)) Q = Q (.int b.since) := by kernel_rfl
theorem hb_until : qO ((bedF b).lookup ("until" : Str)) Q = Q (oI b.until_) := by kernel_rfl
theorem hb_mask : qO ((bedF b).lookup ("mask" : Str)) Q = Q (.int b.mask) := by kernel_rfl
end
def bedKeys : List Str := ["place", "turn", "since", "until", "mask"]
theorem bed_nofld (b : BedS) (nm : Str) (k : (bedKeys.all fun x => !(x == nm)) = true) : noFld (bedF b) nm = true := noFld_of bedKeys rfl k
section
variable (C : Addr) (b : BedS) (T : Addr → Option MM) (K : MM → Prop)
theorem hbm_meets : qMc (.ins C (bedF b)) "meets" T K = qO (T C) K := qMc_ins (bed_nofld b _ (by decide +kernel))
theorem hbm_is_over : qMc (.ins C (bedF b)) "is_over" T K = qO (T C) K := qMc_ins (bed_nofld b _ (by decide +kernel))
theorem hbm_twin : qMc (.ins C (bedF b)) "twin" T K = qO (T C) K := qMc_ins (bed_nofld b _ (by decide +kernel))
end
section
variable (A : HA) (S : HS) (v : Int)
theorem ph_turns : putFD "turns" (.int v) (hallF A S) = hallF A { S with turns := v } := by kernel_rfl
theorem ph_begun : putFD "begun" (.int v) (hallF A S) = hallF A { S with begun := v } := by kernel_rfl
theorem ph_clock : putFD "clock" (.int v) (hallF A S) = hallF A { S with clock := v } := by kernel_rfl
theorem hs_turns : ((hallF A S).lookup ("turns" : Str)).isSome = true := by kernel_rfl
theorem hs_begun : ((hallF A S).lookup ("begun" : Str)).isSome = true := by kernel_rfl
theorem hs_clock : ((hallF A S).lookup ("clock" : Str)).isSome = true := by kernel_rfl
theorem h_len8 : (hallF A S).length = 8 := rfl
end
theorem pfb0 (v : D) : putFD "place" v [] = [(("place" : Str), v)] := by kernel_rfl
theorem pfb1 (x0 v : D) : putFD "turn" v [(("place" : Str), x0)] = [(("place" : Str), x0), (("turn" : Str), v)] := by kernel_rfl
theorem pfb2 (x0 x1 v : D) : putFD "since" v [(("place" : Str), x0), (("turn" : Str), x1)] = [(("place" : Str), x0), (("turn" : Str), x1), (("since" : Str), v)] := by kernel_rfl
theorem pfb3 (x0 x1 x2 v : D) : putFD "until" v [(("place" : Str), x0), (("turn" : Str), x1), (("since" : Str), x2)] = [(("place" : Str), x0), (("turn" : Str), x1), (("since" : Str), x2), (("until" : Str), v)] := by kernel_rfl
theorem pfb4 (x0 x1 x2 x3 v : D) : putFD "mask" v [(("place" : Str), x0), (("turn" : Str), x1), (("since" : Str), x2), (("until" : Str), x3)] = [(("place" : Str), x0), (("turn" : Str), x1), (("since" : Str), x2), (("until" : Str), x3), (("mask" : Str), v)] := by kernel_rfl
theorem HallTo.refl {c : Cl} {μ : Mem} {A : HA} {S : HS} (h : HallAt c μ A S) : HallTo c μ A S μ S := ⟨h, Fr.refl _ _, fun _ hk => .inl hk⟩
theorem HallTo.trans {c : Cl} {μ μ1 μ2 : Mem} {A : HA} {S S1 S2 : HS} (a : HallTo c μ A S μ1 S1) (b : HallTo c μ1 A S1 μ2 S2) : HallTo c μ A S μ2 S2 :=
  ⟨b.h, a.f.trans b.f (fun k hk hl => (a.new k hk).resolve_right (by omega)), fun k hk => (b.new k hk).elim (a.new k) fun h => .inr (Nat.le_trans a.f.le h)⟩
theorem HallTo.fr {c : Cl} {μ μ1 μ2 : Mem} {A : HA} {S S1 : HS} (a : HallTo c μ A S μ1 S1) {F : List Nat} (b : Fr F μ1 μ2) (hd : ∀ k ∈ F, k ∉ foot A S1 ∧ μ.cells.length ≤ k) : HallTo c μ A S μ2 S1 :=
  ⟨a.h.fr b fun k hk hf => (hd k hf).1 hk, a.f.trans b fun k hk hl => by have := (hd k hk).2; omega, a.new⟩
section
variable {c : Cl} {μ : Mem} {A : HA} {S : HS}
theorem upd_rec (h : HallAt c μ A S) (x y z : Int) : HallTo c μ A S (μ.set A.a (.ins c.n_Hall (hallF A { S with clock := x, turns := y, begun := z }))) { S with clock := x, turns := y, begun := z } := by
  have ne := h.ne
  have mf := mem_foot (A := A) (S := S)
  exact ⟨⟨h.lk, h.nd, at_set (at_lt h.hh), at_setn_of h.hN (by omega), at_setn_of h.hB (by omega), at_setn_of h.hR (by omega), at_setn_of h.hE (by omega), at_setn_of h.hL (by omega), fun p hp => at_setn_of (h.hb p hp) (by have := h.neb hp; omega), h.nN, h.nB, h.nR, h.nE⟩,
    (Fr.set1 _ _ _).mono (by intro k hk _; simp at hk; subst hk; exact mf.1), fun k hk => .inl hk⟩
theorem upd_ends (h : HallAt c μ A S) (g : Int) (a : Str) : HallTo c μ A S (μ.set A.aE (.dK (encI D.str (aput S.ends g a)))) { S with ends := aput S.ends g a } := by
  have ne := h.ne
  have mf := mem_foot (A := A) (S := S)
  exact ⟨⟨h.lk, h.nd, at_setn_of h.hh (by omega), at_setn_of h.hN (by omega), at_setn_of h.hB (by omega), at_setn_of h.hR (by omega), at_set (at_lt h.hE), at_setn_of h.hL (by omega), fun p hp => at_setn_of (h.hb p hp) (by have := h.neb hp; omega), h.nN, h.nB, h.nR, aput_nodup h.nE⟩,
    (Fr.set1 _ _ _).mono (by intro k hk _; simp at hk; subst hk; exact mf.2.2.2.2.1), fun k hk => .inl hk⟩
theorem upd_ranks (h : HallAt c μ A S) (g a : Int) : HallTo c μ A S (μ.set A.aR (.dK (encI D.int (aput S.ranks g a)))) { S with ranks := aput S.ranks g a } := by
  have ne := h.ne
  have mf := mem_foot (A := A) (S := S)
  exact ⟨⟨h.lk, h.nd, at_setn_of h.hh (by omega), at_setn_of h.hN (by omega), at_setn_of h.hB (by omega), at_set (at_lt h.hR), at_setn_of h.hE (by omega), at_setn_of h.hL (by omega), fun p hp => at_setn_of (h.hb p hp) (by have := h.neb hp; omega), h.nN, h.nB, aput_nodup h.nR, h.nE⟩,
    (Fr.set1 _ _ _).mono (by intro k hk _; simp at hk; subst hk; exact mf.2.2.2.1), fun k hk => .inl hk⟩
theorem upd_log (h : HallAt c μ A S) (l : List D) : HallTo c μ A S (μ.set A.aL (.lst l)) { S with log := l } := by
  have ne := h.ne
  have mf := mem_foot (A := A) (S := S)
  exact ⟨⟨h.lk, h.nd, at_setn_of h.hh (by omega), at_setn_of h.hN (by omega), at_setn_of h.hB (by omega), at_setn_of h.hR (by omega), at_setn_of h.hE (by omega), at_set (at_lt h.hL), fun p hp => at_setn_of (h.hb p hp) (by have := h.neb hp; omega), h.nN, h.nB, h.nR, h.nE⟩,
    (Fr.set1 _ _ _).mono (by intro k hk _; simp at hk; subst hk; exact mf.2.2.2.2.2), fun k hk => .inl hk⟩
theorem upd_drop (h : HallAt c μ A S) (g : Int) : HallTo c μ A S (μ.set A.aB (.dK (encI (fun b : BedS => D.loc b.at_) (adrop S.beds g)))) { S with beds := adrop S.beds g } := by
  have ne := h.ne
  have mf := mem_foot (A := A) (S := S)
  have sub : List.Sublist (foot A { S with beds := adrop S.beds g }) (foot A S) := by
    unfold foot
    exact (List.Sublist.refl _).append (List.Sublist.map _ List.filter_sublist)
  exact ⟨⟨h.lk, h.nd.sublist sub, at_setn_of h.hh (by omega), at_setn_of h.hN (by omega), at_set (at_lt h.hB), at_setn_of h.hR (by omega), at_setn_of h.hE (by omega), at_setn_of h.hL (by omega), fun p hp => at_setn_of (h.hb p (List.mem_filter.mp hp).1) (by have := h.neb (List.mem_filter.mp hp).1; omega), h.nN, adrop_nodup h.nB, h.nR, h.nE⟩,
    (Fr.set1 _ _ _).mono (by intro k hk _; simp at hk; subst hk; exact mf.2.2.1), fun k hk => .inl (sub.subset hk)⟩
theorem upd_lie (h : HallAt c μ A S) {g : Int} {b : BedS} (hb : b.at_ = μ.cells.length) (hg : g ∉ S.beds.map (·.1)) : HallTo c μ A S ((μ.push (.ins c.n_Bed (bedF b))).set A.aB (.dK (encI (fun b : BedS => D.loc b.at_) (aput S.beds g b)))) { S with beds := S.beds ++ [(g, b)] } := by
  have ne := h.ne
  have mf := mem_foot (A := A) (S := S)
  have lB := at_lt h.hB
  have ft : foot A { S with beds := S.beds ++ [(g, b)] } = foot A S ++ [μ.cells.length] := by simp [foot, hb]
  refine ⟨⟨h.lk, ?_, at_setn_of (at_push_of h.hh) (by omega), at_setn_of (at_push_of h.hN) (by omega), ?_, at_setn_of (at_push_of h.hR) (by omega), at_setn_of (at_push_of h.hE) (by omega), at_setn_of (at_push_of h.hL) (by omega), ?_, h.nN, ?_, h.nR, h.nE⟩, ?_, ?_⟩
  · rw [ft, List.nodup_append]
    exact ⟨h.nd, by simp, fun x hx y hy => by simp at hy; subst hy; have := h.lt hx; omega⟩
  · rw [at_set (by rw [len_push]; omega), aput_new hg]
  · intro p hp
    rcases List.mem_append.mp hp with hp | hp
    · exact at_setn_of (at_push_of (h.hb p hp)) (by have := h.neb hp; omega)
    · simp at hp; subst hp; exact at_setn_of (at_push2 hb) (by show b.at_ ≠ A.aB; omega)
  · simp only [List.map_append, List.map_cons, List.map_nil]
    rw [List.nodup_append]
    exact ⟨h.nB, by simp, fun x hx y hy => by simp at hy; subst hy; exact fun z => hg (z ▸ hx)⟩
  · exact (Fr.push _ _ _).trans (Fr.set1 _ _ _) (by intro k hk _; simp at hk; subst hk; exact mf.2.2.1)
  · intro k hk
    rw [ft] at hk
    rcases List.mem_append.mp hk with hk | hk
    · exact .inl hk
    · simp at hk; exact .inr (by omega)
local macro_rules | `(tactic| simp_arith only [$xs,*]) => `(tactic| simp -failIfUnchanged -implicitDefEqProofs (disch := (first | (simp only [Doz.len_push, Doz.len_set]; omega) | omega | assumption)) only [↓wR_ok, ↓wR_err, ↓wE_var0, ↓wE_varS, ↓wE_C, ↓wE_op, ↓wE_cmp, ↓wE_bl, ↓qB_bl, ↓wE_asB, ↓wE_and, ↓wE_or, ↓wE_not, ↓wE_andV, ↓wE_orV, ↓wE_notV, ↓wE_if, ↓wE_nil, ↓wE_cons, ↓wE_fz, ↓wE_lc, ↓wE_tup, ↓wE_lst, ↓wE_call, ↓wE_nopart, ↓qI_int, ↓wE_part, ↓wE_slice, ↓wE_fld, ↓wE_dnew, ↓wE_iter, ↓wE_rev, ↓wE_pos, ↓wE_kws, ↓wE_noa, ↓wE_both, ↓wE_fn, ↓wE_mth, ↓qN_non, ↓wE_mk, ↓wE_meth, ↓wE_neg, ↓wE_chain, ↓wE_comp, ↓wS_nx, ↓wS_bk, ↓wS_ct, ↓wS_seq, ↓wS_drop, ↓wS_ret, ↓wS_retN, ↓wS_if, ↓wS_asg, ↓qL_loc, ↓qCl_lst, ↓wS_retFz, ↓wS_raise, ↓wS_for, ↓wS_try, ↓wG_set0, ↓wG_setS, ↓wG_then, ↓wG_sub, ↓wG_fld, ↓qT_tup, ↓wG_tup, ↓wGs_nil, ↓wGs_cons, ↓endB_nx, ↓endB_rt, ↓endB_er, ↓endB_bk, ↓endB_ct, ↓loopP_nx, ↓loopP_ct, ↓loopP_bk, ↓loopP_rt, ↓loopP_er, ↓qO_some, ↓qO_at0, ↓qO_at1, ↓qO_at2, ↓qO_at3, ↓qO_at4, ↓qO_at5, ↓w_add_int, ↓w_add_str, ↓w_add_tup, ↓w_add_lst, ↓w_sub, ↓w_mod, ↓w_div, ↓w_mul, ↓w_pow, ↓w_band, ↓w_lt, ↓w_le, ↓w_gt, ↓w_ge, ↓w_is, ↓w_isNot, ↓nonN, ↓nonI, ↓nonS, ↓nonT, ↓nonL, ↓nonLoc, ↓w_eq_int, ↓w_ne_int, ↓w_eq_str, ↓w_ne_str, ↓qIx_lst, ↓qIx_dK, ↓qIxS_dK, ↓w_ix_loc, ↓w_ix_locS, ↓w_ix_lst, ↓w_ix_tup, ↓w_ix_str, ↓qLS_0, ↓qLS_1, ↓qLS_2, ↓qLS_3, ↓qSet_lst, ↓qSet_dK, ↓qSetS_dK, ↓w_setI, ↓w_setS, ↓qF_ins, ↓w_fld, ↓qSF_ins, ↓w_setF, ↓w_len_str, ↓w_len_lst, ↓w_len_tup, ↓qLen_lst, ↓qLen_dK, ↓w_len_loc, ↓w_max, ↓w_min, ↓w_int_int, ↓w_int_bl, ↓w_str_int, ↓qDc_dK, ↓w_dict, ↓w_tuple_lst, ↓w_tuple_tup, ↓w_tuple_loc, ↓w_list_lst, ↓w_list_tup, ↓w_iter_lst, ↓w_iter_tup, ↓w_iter_str, ↓w_iter_loc, ↓w_rng1, ↓w_rng2, ↓w_sl_str, ↓w_sl_tup, ↓w_sl_lst, ↓w_append, ↓w_lclear, ↓tyS_str, ↓tyL_lst, ↓qM_loc, ↓look1, ↓wC_set, ↓wC_setn, ↓wC_push2, ↓wC_pushn, ↓wE_yes, ↓wE_revL, ↓qO_lst, ↓w_all_lst, ↓w_join_lst, ↓wE_get1, ↓wE_get2, ↓wE_pop1, ↓qO_keyI, ↓qO_keyS, ↓qIns_ins, ↓wS_faug, ↓wE_disp, ↓wE_pairs0, ↓wE_pairsC, ↓keysOf0, ↓keysOfS, ↓keysOfI, ↓wE_keys, ↓wE_sliceN, ↓wE_sortK, ↓hb_place, ↓hb_turn, ↓hb_since, ↓hb_until, ↓hb_mask, ↓hbm_meets, ↓hbm_is_over, ↓hbm_twin, ↓isi_non_int, ↓isi_non_bool, ↓isi_non_str, ↓isi_non_tuple, ↓isi_non_list, ↓isi_non_dict, ↓isi_bl_int, ↓isi_bl_bool, ↓isi_bl_str, ↓isi_bl_tuple, ↓isi_bl_list, ↓isi_bl_dict, ↓isi_int_int, ↓isi_int_bool, ↓isi_int_str, ↓isi_int_tuple, ↓isi_int_list, ↓isi_int_dict, ↓isi_str_int, ↓isi_str_bool, ↓isi_str_str, ↓isi_str_tuple, ↓isi_str_list, ↓isi_str_dict, ↓isi_tup_int, ↓isi_tup_bool, ↓isi_tup_str, ↓isi_tup_tuple, ↓isi_tup_list, ↓isi_tup_dict, ↓isi_lst_int, ↓isi_lst_bool, ↓isi_lst_str, ↓isi_lst_tuple, ↓isi_lst_list, ↓isi_lst_dict, ↓hm_look_for, ↓hm_look_awake, ↓hm_next_turn, ↓hm_lie_down, ↓hm_rise, ↓hm_is_over, ↓hm_put, ↓hm_sleep, ↓hm_wake, ↓hm_move, ↓hm_tick, ↓hm_lateness, ↓hm_nudge, ↓hm_rank, ↓hm_number, ↓hm_line, ↓hm_line_at, ↓hm_order, ↓hm_asleep, ↓hm_sleeper, ↓hm_ending, ↓hm_standing, ↓hm_now, ↓hm_log, ↓hm_who, ↓hm_filled, ↓hm_twin, ↓hf_numbers, ↓hf_beds, ↓hf_ranks, ↓hf_endings, ↓hf_clock, ↓hf_turns, ↓hf_begun, ↓hf_entries, decide_eq_true_eq, beq_iff_eq, Bool.not_eq_true', Bool.not_eq_eq_eq_not, Bool.not_true, Bool.not_false, decide_eq_false_iff_not, beq_eq_false_iff_ne, ne_eq, true_and, and_true, if_true, if_false, ite_true, ite_false, reduceIte, Bool.false_eq_true, not_false_eq_true, not_true_eq_false, Int.reduceLT, Int.reduceLE, Int.reduceToNat, Nat.reduceLT, Nat.reduceLeDiff, Int.reducePow, Nat.reduceAdd, Int.reduceAdd, Int.reduceMul, Int.reduceSub, Int.reduceNeg, Nat.reducePow, Int.reduceEq, Nat.reduceEqDiff, List.length_cons, List.length_nil, PySem.sizeLine_eq, str_len_app, str_len_one, wipeD, List.set_cons_zero, List.set_cons_succ, $xs,*])
theorem counts_in {cs ms : List Int} (hc : ∀ x ∈ cs, 0 ≤ x) (hm : ∀ x ∈ ms, 1 ≤ x ∧ x ≤ 255) :
    wR (m_n_look_at_counts c [.tup (cs.map D.int), .tup (ms.map D.int)] μ) (fun v μ' => v = .non ∧ μ' = μ) noE := by
  unfold m_n_look_at_counts
  rw [w_run]
  show wS (t_n_look_at_counts c) [some (.tup (cs.map D.int)), some (.tup (ms.map D.int)), none, none] μ _
  unfold t_n_look_at_counts
  simp_arith only [id_eq]
  refine w_loopM (fun rest δ μ' => (∀ x ∈ rest, 0 ≤ x) ∧ μ' = μ ∧ ∃ x2, δ = [some (.tup (cs.map D.int)), some (.tup (ms.map D.int)), x2, none]) (fun _ _ _ _ => rfl) ?_ ?_ cs _ _ ⟨hc, rfl, none, rfl⟩
  · rintro a r δ μ1 ⟨hr, rfl, x2, rfl⟩
    have h0 : ¬ a < 0 := by have := hr a (by simp); omega
    simp_arith only [h0]
    exact ⟨fun x hx => hr x (by simp [hx]), _, rfl⟩
  rintro δ μ1 ⟨_, rfl, x2, rfl⟩
  simp_arith only [id_eq]
  refine w_loopM (fun rest δ μ' => (∀ x ∈ rest, 1 ≤ x ∧ x ≤ 255) ∧ μ' = μ1 ∧ ∃ x3, δ = [some (.tup (cs.map D.int)), some (.tup (ms.map D.int)), x2, x3]) (fun _ _ _ _ => rfl) ?_ ?_ ms _ _ ⟨hm, rfl, none, rfl⟩
  · rintro a r δ μ1 ⟨hr, rfl, x3, rfl⟩
    have h0 := hr a (by simp)
    have h1 : 1 ≤ a := h0.1
    have h2 : a ≤ 255 := h0.2
    simp_arith only [h1, h2]
    exact ⟨fun x hx => hr x (by simp [hx]), _, rfl⟩
  rintro δ μ1 ⟨_, rfl, x3, rfl⟩
  simp_arith only [id_eq]
theorem look_awake_ok (h : HallAt c μ A S) (g : Int) :
    wR (m_n_Hall_look_awake c [.loc A.a, .int g] μ) (fun v μ' => v = .non ∧ μ' = μ ∧ g ∉ S.beds.map (·.1)) (fun C w μ' => C = c.n_Asleep ∧ w = .int g ∧ μ' = μ ∧ g ∈ S.beds.map (·.1)) := by
  unfold m_n_Hall_look_awake
  rw [w_run]
  show wS (t_n_Hall_look_awake c) [some (.loc A.a), some (.int g)] μ _
  unfold t_n_Hall_look_awake
  simp_arith only [↓wC_of h.hh, ↓hf_beds, ↓w_in_dictI h.hB, encI_get, Option.isSome_map, aget_isSome]
  split
  · rename_i hr; simpa using hr
  · rename_i hr; simpa using hr
def overAt (u : Option Int) (t : Int) : Bool := match u with
  | none => false
  | some x => decide (x ≤ t)
theorem is_over_ok (h : HallAt c μ A S) (u : Option Int) :
    wR (m_n_Hall_is_over c [.loc A.a, oI u] μ) (fun v μ' => v = .bl (overAt u S.clock) ∧ μ' = μ) noE := by
  unfold m_n_Hall_is_over
  rw [w_run]
  show wS (t_n_Hall_is_over c) [some (.loc A.a), some (oI u)] μ _
  unfold t_n_Hall_is_over
  cases u with
  | none => simp_arith only [oI, overAt]
  | some x => simp_arith only [oI, overAt, ↓wC_of h.hh, ↓hf_clock]
theorem next_turn_ok (h : HallAt c μ A S) :
    wR (m_n_Hall_next_turn c [.loc A.a] μ) (fun v μ' => v = .int (S.turns + 1) ∧ μ'.cells.length = μ.cells.length ∧ HallTo c μ A S μ' { S with turns := S.turns + 1 }) noE := by
  unfold m_n_Hall_next_turn
  rw [w_run]
  show wS (t_n_Hall_next_turn c) [some (.loc A.a)] μ _
  unfold t_n_Hall_next_turn
  have la := at_lt h.hh
  simp_arith only [↓wC_of h.hh, ↓hf_turns, hs_turns, h_len8, ph_turns]
  exact ⟨len_set, upd_rec h S.clock (S.turns + 1) S.begun⟩
theorem bed_init_ok (b : BedS) :
    wR (m_n_Beddd_initdd c [.loc μ.cells.length, .str b.place, .int b.turn, .int b.since, oI b.until_, .int b.mask] (μ.push (.ins c.n_Bed []))) (fun d μ' => d = .non ∧ μ' = μ.push (.ins c.n_Bed (bedF b))) noE := by
  unfold m_n_Beddd_initdd
  rw [w_run]
  show wS (t_n_Beddd_initdd c) [some (.loc μ.cells.length), some (.str b.place), some (.int b.turn), some (.int b.since), some (oI b.until_), some (.int b.mask)] (μ.push (.ins c.n_Bed [])) _
  unfold t_n_Beddd_initdd
  simp_arith only [pfb0, pfb1, pfb2, pfb3, pfb4, len_push, set_push2, List.contains_cons, beq_self_eq_true, Bool.true_or, Bool.or_true]
  repeat refine And.intro (by (first | exact mulOk (by omega) (by omega) (by omega) (by omega) | exact divOk (by omega) (by omega) | exact powOk (by omega) (by omega) (by omega) (by omega) | exact strOk' (by omega) (by omega) | assumption | omega | decide)) ?_
  rfl
def HS.lie (S : HS) (n : Nat) (g : Int) (r : Str) (u : Option Int) (m : Int) : HS := { S with beds := S.beds ++ [(g, ⟨n, r, S.turns + 1, S.begun + 1, u, m⟩)], turns := S.turns + 1, begun := S.begun + 1 }
theorem lie_down_ok (h : HallAt c μ A S) {g : Int} (hg : g ∉ S.beds.map (·.1)) (r : Str) (u : Option Int) (m : Int) (hl : S.beds.length < 16777216) :
    wR (m_n_Hall_lie_down c [.loc A.a, .int g, .str r, oI u, .int m] μ) (fun d μ' => d = .non ∧ HallTo c μ A S μ' (S.lie μ.cells.length g r u m)) noE := by
  unfold m_n_Hall_lie_down
  rw [w_run]
  show wS (t_n_Hall_lie_down c) [some (.loc A.a), some (.int g), some (.str r), some (oI u), some (.int m)] μ _
  unfold t_n_Hall_lie_down
  have la := at_lt h.hh
  have t1 := upd_rec h S.clock S.turns (S.begun + 1)
  have e1 : (μ.set A.a (.ins c.n_Hall (hallF A { S with begun := S.begun + 1 }))).cells.length = μ.cells.length := len_set
  simp_arith only [↓wC_of h.hh, hs_begun, h_len8, ph_begun]
  refine (next_turn_ok t1.h).go ?_
  rintro _ μ2 ⟨rfl, e2, t2⟩
  have t2' := t1.trans t2
  simp_arith only [↓wC_of t2.h.hh]
  refine (bed_init_ok (μ := μ2) ⟨μ.cells.length, r, S.turns + 1, S.begun + 1, u, m⟩).go ?_
  rintro _ _ ⟨rfl, rfl⟩
  have hb : μ2.cells.length = μ.cells.length := e2.trans e1
  have t3 := upd_lie (g := g) (b := ⟨μ.cells.length, r, S.turns + 1, S.begun + 1, u, m⟩) t2.h hb.symm hg
  have hB := at_push_of (c := Cell.ins c.n_Bed (bedF ⟨μ.cells.length, r, S.turns + 1, S.begun + 1, u, m⟩)) t2.h.hB
  simp_arith only [↓wC_of (at_push_of t2.h.hh), ↓wC_of hB, enc_len, lkd_nil (μ := μ2.push _) t2.h.lk]
  refine ⟨hl, ?_⟩
  have z := t2'.trans t3
  rw [← encI_put (fun b : BedS => D.loc b.at_)] at z
  rw [hb]
  exact z
end
end Doz
end
section
open PySem L2 Doz
local macro_rules | `(tactic| simp_arith only [$xs,*]) => `(tactic| simp -failIfUnchanged -implicitDefEqProofs (disch := (first | (simp only [Doz.len_push, Doz.len_set]; omega) | omega | assumption)) only [↓wR_ok, ↓wR_err, ↓wE_var0, ↓wE_varS, ↓wE_C, ↓wE_op, ↓wE_cmp, ↓wE_bl, ↓qB_bl, ↓wE_asB, ↓wE_and, ↓wE_or, ↓wE_not, ↓wE_andV, ↓wE_orV, ↓wE_notV, ↓wE_if, ↓wE_nil, ↓wE_cons, ↓wE_fz, ↓wE_lc, ↓wE_tup, ↓wE_lst, ↓wE_call, ↓wE_nopart, ↓qI_int, ↓wE_part, ↓wE_slice, ↓wE_fld, ↓wE_dnew, ↓wE_iter, ↓wE_rev, ↓wE_pos, ↓wE_kws, ↓wE_noa, ↓wE_both, ↓wE_fn, ↓wE_mth, ↓qN_non, ↓wE_mk, ↓wE_meth, ↓wE_neg, ↓wE_chain, ↓wE_comp, ↓wS_nx, ↓wS_bk, ↓wS_ct, ↓wS_seq, ↓wS_drop, ↓wS_ret, ↓wS_retN, ↓wS_if, ↓wS_asg, ↓qL_loc, ↓qCl_lst, ↓wS_retFz, ↓wS_raise, ↓wS_for, ↓wS_try, ↓wG_set0, ↓wG_setS, ↓wG_then, ↓wG_sub, ↓wG_fld, ↓qT_tup, ↓wG_tup, ↓wGs_nil, ↓wGs_cons, ↓endB_nx, ↓endB_rt, ↓endB_er, ↓endB_bk, ↓endB_ct, ↓loopP_nx, ↓loopP_ct, ↓loopP_bk, ↓loopP_rt, ↓loopP_er, ↓qO_some, ↓qO_at0, ↓qO_at1, ↓qO_at2, ↓qO_at3, ↓qO_at4, ↓qO_at5, ↓w_add_int, ↓w_add_str, ↓w_add_tup, ↓w_add_lst, ↓w_sub, ↓w_mod, ↓w_div, ↓w_mul, ↓w_pow, ↓w_band, ↓w_lt, ↓w_le, ↓w_gt, ↓w_ge, ↓w_is, ↓w_isNot, ↓nonN, ↓nonI, ↓nonS, ↓nonT, ↓nonL, ↓nonLoc, ↓w_eq_int, ↓w_ne_int, ↓w_eq_str, ↓w_ne_str, ↓qIx_lst, ↓qIx_dK, ↓qIxS_dK, ↓w_ix_loc, ↓w_ix_locS, ↓w_ix_lst, ↓w_ix_tup, ↓w_ix_str, ↓qLS_0, ↓qLS_1, ↓qLS_2, ↓qLS_3, ↓qSet_lst, ↓qSet_dK, ↓qSetS_dK, ↓w_setI, ↓w_setS, ↓qF_ins, ↓w_fld, ↓qSF_ins, ↓w_setF, ↓w_len_str, ↓w_len_lst, ↓w_len_tup, ↓qLen_lst, ↓qLen_dK, ↓w_len_loc, ↓w_max, ↓w_min, ↓w_int_int, ↓w_int_bl, ↓w_str_int, ↓qDc_dK, ↓w_dict, ↓w_tuple_lst, ↓w_tuple_tup, ↓w_tuple_loc, ↓w_list_lst, ↓w_list_tup, ↓w_iter_lst, ↓w_iter_tup, ↓w_iter_str, ↓w_iter_loc, ↓w_rng1, ↓w_rng2, ↓w_sl_str, ↓w_sl_tup, ↓w_sl_lst, ↓w_append, ↓w_lclear, ↓tyS_str, ↓tyL_lst, ↓qM_loc, ↓look1, ↓wC_set, ↓wC_setn, ↓wC_push2, ↓wC_pushn, ↓wE_yes, ↓wE_revL, ↓qO_lst, ↓w_all_lst, ↓w_join_lst, ↓wE_get1, ↓wE_get2, ↓wE_pop1, ↓qO_keyI, ↓qO_keyS, ↓qIns_ins, ↓wS_faug, ↓wE_disp, ↓wE_pairs0, ↓wE_pairsC, ↓keysOf0, ↓keysOfS, ↓keysOfI, ↓wE_keys, ↓wE_sliceN, ↓wE_sortK, ↓hb_place, ↓hb_turn, ↓hb_since, ↓hb_until, ↓hb_mask, ↓hbm_meets, ↓hbm_is_over, ↓hbm_twin, ↓isi_non_int, ↓isi_non_bool, ↓isi_non_str, ↓isi_non_tuple, ↓isi_non_list, ↓isi_non_dict, ↓isi_bl_int, ↓isi_bl_bool, ↓isi_bl_str, ↓isi_bl_tuple, ↓isi_bl_list, ↓isi_bl_dict, ↓isi_int_int, ↓isi_int_bool, ↓isi_int_str, ↓isi_int_tuple, ↓isi_int_list, ↓isi_int_dict, ↓isi_str_int, ↓isi_str_bool, ↓isi_str_str, ↓isi_str_tuple, ↓isi_str_list, ↓isi_str_dict, ↓isi_tup_int, ↓isi_tup_bool, ↓isi_tup_str, ↓isi_tup_tuple, ↓isi_tup_list, ↓isi_tup_dict, ↓isi_lst_int, ↓isi_lst_bool, ↓isi_lst_str, ↓isi_lst_tuple, ↓isi_lst_list, ↓isi_lst_dict, ↓hm_look_for, ↓hm_look_awake, ↓hm_next_turn, ↓hm_lie_down, ↓hm_rise, ↓hm_is_over, ↓hm_put, ↓hm_sleep, ↓hm_wake, ↓hm_move, ↓hm_tick, ↓hm_lateness, ↓hm_nudge, ↓hm_rank, ↓hm_number, ↓hm_line, ↓hm_line_at, ↓hm_order, ↓hm_asleep, ↓hm_sleeper, ↓hm_ending, ↓hm_standing, ↓hm_now, ↓hm_log, ↓hm_who, ↓hm_filled, ↓hm_twin, ↓hf_numbers, ↓hf_beds, ↓hf_ranks, ↓hf_endings, ↓hf_clock, ↓hf_turns, ↓hf_begun, ↓hf_entries, decide_eq_true_eq, beq_iff_eq, Bool.not_eq_true', Bool.not_eq_eq_eq_not, Bool.not_true, Bool.not_false, decide_eq_false_iff_not, beq_eq_false_iff_ne, ne_eq, true_and, and_true, if_true, if_false, ite_true, ite_false, reduceIte, Bool.false_eq_true, not_false_eq_true, not_true_eq_false, Int.reduceLT, Int.reduceLE, Int.reduceToNat, Nat.reduceLT, Nat.reduceLeDiff, Int.reducePow, Nat.reduceAdd, Int.reduceAdd, Int.reduceMul, Int.reduceSub, Int.reduceNeg, Nat.reducePow, Int.reduceEq, Nat.reduceEqDiff, List.length_cons, List.length_nil, PySem.sizeLine_eq, str_len_app, str_len_one, wipeD, List.set_cons_zero, List.set_cons_succ, $xs,*])
section
namespace Doz
open PySem L2
section
variable {c : Cl} {μ : Mem} {A : HA} {S : HS}
def HS.Sz (S : HS) (n : Nat) : Prop := S.beds.length ≤ n ∧ S.ranks.length ≤ n ∧ S.ends.length ≤ n ∧ S.log.length ≤ n
def HS.noted (S : HS) (g : Int) (a : Str) : HS := { S with ends := aput S.ends g a }
def HS.logged (S : HS) (d : D) : HS := { S with log := S.log ++ [d] }
def HS.sleepA (S : HS) (r : Str) (s : Int) (u : Option Int) : Str := if (aget S.num r).getD 0 = s then (if overAt u S.clock = true then "past" else "asleep") else "changed"
def HS.sleep (S : HS) (n : Nat) (g : Int) (r : Str) (s : Int) (u : Option Int) (m : Int) : HS :=
  ((if S.sleepA r s u = "asleep" then S.lie n g r u m else S).noted g (S.sleepA r s u)).logged (.tup [.str "sleep", .int g, .str r, .int s, oI u, .int m, .str (S.sleepA r s u)])
theorem sleep_in (h : HallAt c μ A S) {g : Int} (hg : g ∉ S.beds.map (·.1)) {r : Str} {v : Int} (hr : aget S.num r = some v) (s : Int) (u : Option Int) {m : Int} (hm : 1 ≤ m ∧ m ≤ 255) {n : Nat} (hz : S.Sz n) (hn : n < 16777200) :
    wR (m_n_Hall_sleep c [.loc A.a, .int g, .str r, .int s, oI u, .int m] μ) (fun d μ' => d = .str (S.sleepA r s u) ∧ HallTo c μ A S μ' (S.sleep μ.cells.length g r s u m)) noE := by
  have hrm : r ∈ S.num.map (·.1) := List.mem_map_of_mem (f := (·.1)) (aget_some hr)
  obtain ⟨z1, z2, z3, z4⟩ := hz
  unfold m_n_Hall_sleep
  rw [w_run]
  show wS (t_n_Hall_sleep c) [some (.loc A.a), some (.int g), some (.str r), some (.int s), some (oI u), some (.int m), none] μ _
  unfold t_n_Hall_sleep
  refine wS_cut (fun δ μ' => δ = [some (.loc A.a), some (.int g), some (.str r), some (.int s), some (oI u), some (.int m), none] ∧ μ' = μ) ?_ ?_
  · simp_arith only [↓wC_of h.hh]
    refine (look_for_ok h r).imp2 ?_ (fun _ _ _ z => absurd hrm z.2.2.2)
    rintro _ _ ⟨_, e0, _⟩
    exact e0
  rintro _ _ ⟨rfl, e0⟩
  replace e0 := e0.symm
  subst e0
  refine wS_cut (fun δ μ' => δ = [some (.loc A.a), some (.int g), some (.str r), some (.int s), some (oI u), some (.int m), none] ∧ μ' = μ) ?_ ?_
  · simp_arith only [↓wC_of h.hh]
    refine (look_awake_ok h g).imp2 ?_ (fun _ _ _ z => absurd z.2.2.2 hg)
    rintro _ _ ⟨_, e0, _⟩
    exact e0
  rintro _ _ ⟨rfl, e0⟩
  replace e0 := e0.symm
  subst e0
  refine wS_cut (fun δ μ' => δ = [some (.loc A.a), some (.int g), some (.str r), some (.int s), some (oI u), some (.int m), none] ∧ μ' = μ) ?_ ?_
  · simp_arith only [id_eq]
    refine (counts_in (cs := []) (ms := [m]) (by simp) (by simpa using hm)).go ?_
    rintro _ _ ⟨_, e0⟩
    exact e0
  rintro _ _ ⟨rfl, e0⟩
  replace e0 := e0.symm
  subst e0
  refine wS_cut (fun δ μ' => δ = [some (.loc A.a), some (.int g), some (.str r), some (.int s), some (oI u), some (.int m), some (.str "asleep")] ∧ μ' = μ) ?_ ?_
  · simp_arith only [id_eq]
  rintro _ _ ⟨rfl, e0⟩
  replace e0 := e0.symm
  subst e0
  refine wS_cut (fun δ μ' => δ = [some (.loc A.a), some (.int g), some (.str r), some (.int s), some (oI u), some (.int m), some (.str (S.sleepA r s u))] ∧ HallTo c μ A S μ' (if S.sleepA r s u = "asleep" then S.lie μ.cells.length g r u m else S)) ?_ ?_
  · simp_arith only [↓wC_of h.hh, ↓hf_numbers, ↓wC_of h.hN, ↓qO_of (show kget (encS D.int S.num) (.inr r) = some (.int v) by rw [encS_get, hr]; rfl)]
    by_cases e : v = s
    · subst e
      simp_arith only [↓wC_of h.hh]
      refine (is_over_ok h u).go ?_
      rintro _ _ ⟨rfl, e0⟩
      replace e0 := e0.symm
      subst e0
      cases ho : overAt u S.clock with
      | true =>
        have ea : S.sleepA r v u = "past" := by simp [HS.sleepA, hr, ho]
        simp_arith only [ea, reduceCtorEq]
        rw [if_neg (by decide)]
        exact HallTo.refl h
      | false =>
        have ea : S.sleepA r v u = "asleep" := by simp [HS.sleepA, hr, ho]
        simp_arith only [↓wC_of h.hh]
        refine (lie_down_ok h hg r u m (by omega)).go ?_
        rintro _ μ2 ⟨rfl, t⟩
        rw [ea, if_pos rfl]
        exact ⟨rfl, t⟩
    · have ea : S.sleepA r s u = "changed" := by simp [HS.sleepA, hr, e]
      simp_arith only [e]
      rw [ea, if_neg (by decide)]
      exact ⟨rfl, HallTo.refl h⟩
  · rintro _ μ2 ⟨rfl, t⟩
    generalize hS1 : (if S.sleepA r s u = "asleep" then S.lie μ.cells.length g r u m else S) = S1 at t
    have eE : S1.ends = S.ends := by subst hS1; split <;> rfl
    have eL : S1.log = S.log := by subst hS1; split <;> rfl
    have l2 : ∀ k, μ2.lkd k = false := fun k => lkd_nil t.h.lk
    have ne := t.h.ne
    have lE : S1.ends.length < 16777216 := by rw [eE]; omega
    have lL : S1.log.length < 16777216 := by rw [eL]; omega
    have t2 := upd_ends t.h g (S.sleepA r s u)
    have t3 := upd_log t2.h (S1.log ++ [.tup [.str "sleep", .int g, .str r, .int s, oI u, .int m, .str (S.sleepA r s u)]])
    have ne1 : A.a ≠ A.aE := by omega
    have ne2 : A.aL ≠ A.aE := by omega
    have e0 := encI_put D.str S1.ends g (S.sleepA r s u)
    simp_arith only [↓wC_of t.h.hh, ↓wC_of t.h.hE, enc_len, l2, e0, ↓wC_of t2.h.hh, ↓wC_of t.h.hL, ↓wC_of t2.h.hL, tyL_of t2.h.hL]
    refine ⟨lE, lL, ?_⟩
    unfold HS.sleep
    rw [hS1]
    exact (t.trans t2).trans t3
theorem sleep_sz {n k : Nat} (hz : S.Sz n) (g : Int) (r : Str) (s : Int) (u : Option Int) (m : Int) : (S.sleep k g r s u m).Sz (n + 1) := by
  obtain ⟨z1, z2, z3, z4⟩ := hz
  have := aput_len S.ends g (S.sleepA r s u)
  unfold HS.sleep
  split <;> refine ⟨?_, ?_, ?_, ?_⟩ <;> simp [HS.noted, HS.logged, HS.lie] <;> omega
def HS.rise (S : HS) (g : Int) (a : Str) : HS := { S with beds := adrop S.beds g, ends := aput S.ends g a }
theorem rise_ok (h : HallAt c μ A S) {g : Int} (hg : g ∈ S.beds.map (·.1)) (a : Str) (he : S.ends.length < 16777216) :
    wR (m_n_Hall_rise c [.loc A.a, .int g, .str a] μ) (fun d μ' => d = .non ∧ HallTo c μ A S μ' (S.rise g a)) noE := by
  unfold m_n_Hall_rise
  rw [w_run]
  show wS (t_n_Hall_rise c) [some (.loc A.a), some (.int g), some (.str a)] μ _
  unfold t_n_Hall_rise
  have hs := aget_isSome S.beds g
  simp only [hg, decide_true] at hs
  obtain ⟨b, hb⟩ := Option.isSome_iff_exists.mp hs
  have t1 := upd_drop h g
  have t2 := upd_ends t1.h g a
  have lk := lkd_nil (n := A.aB) h.lk
  have lk2 := lkd_nil (n := A.aE) t1.h.lk
  have e1 := encI_drop (fun b : BedS => D.loc b.at_) S.beds g
  have e2 := encI_put D.str S.ends g a
  simp_arith only [↓wC_of h.hh, ↓qO_dict h.hB, ↓qO_dcell h.hB lk, ↓qO_of (show kget (encI (fun b : BedS => D.loc b.at_) S.beds) (.inl g) = some (.loc b.at_) by rw [encI_get, hb]; rfl), e1, ↓wC_of t1.h.hh, ↓wC_of t1.h.hE, lk2, enc_len, e2]
  exact ⟨he, t1.trans t2⟩
def HS.key (S : HS) (p : Int × BedS) : Int × Int := (0 - (aget S.ranks p.1).getD 0, p.2.turn)
def HS.lineB (S : HS) (r : Str) : List (Int × BedS) := (S.beds.filter fun p => p.2.place == r).mergeSort fun p q => le2 (S.key p) (S.key q)
def HS.line (S : HS) (r : Str) : List Int := (S.lineB r).map (·.1)
theorem standing_ok (h : HallAt c μ A S) (g : Int) : wR (m_n_Hall_standing c [.loc A.a, .int g] μ) (fun d μ' => d = .int ((aget S.ranks g).getD 0) ∧ μ' = μ) noE := by
  unfold m_n_Hall_standing
  rw [w_run]
  show wS (t_n_Hall_standing c) [some (.loc A.a), some (.int g)] μ _
  unfold t_n_Hall_standing
  simp_arith only [↓wC_of h.hh, ↓qO_dict h.hR, ↓qO_dfindI h.hR, encI_get]
  cases aget S.ranks g <;> rfl
theorem order_ok (h : HallAt c μ A S) {p : Int × BedS} (hp : p ∈ S.beds) : wR (m_n_Hall_order c [.loc A.a, .int p.1] μ) (fun d μ' => d = pairD (S.key p)) noE := by
  unfold m_n_Hall_order
  rw [w_run]
  show wS (t_n_Hall_order c) [some (.loc A.a), some (.int p.1)] μ _
  unfold t_n_Hall_order
  simp_arith only [↓wC_of h.hh]
  refine (standing_ok h p.1).go ?_
  rintro _ _ ⟨rfl, rfl⟩
  simp_arith only [↓wC_of h.hh, ↓wC_of h.hB, ↓qO_of (show kget (encI (fun b : BedS => D.loc b.at_) S.beds) (.inl p.1) = some (.loc p.2.at_) by rw [encI_get, aget_of_mem h.nB hp]; rfl), ↓wC_of (h.hb p hp)]
  rfl
theorem line_at_ok (h : HallAt c μ A S) (r : Str) (hl : S.beds.length ≤ 16777216) : wR (m_n_Hall_line_at c [.loc A.a, .str r] μ) (fun d μ' => d = .loc μ.cells.length ∧ μ' = μ.push (.lst ((S.line r).map D.int))) noE := by
  unfold m_n_Hall_line_at
  rw [w_run]
  show wS (t_n_Hall_line_at c) [some (.loc A.a), some (.str r), none] μ _
  unfold t_n_Hall_line_at
  have lk := lkd_nil (n := A.aB) h.lk
  simp_arith only [id_eq]
  refine w_lockN (n := A.aB) (sel_of (by simp_arith only [↓wC_of h.hh])) lk h.hB ?_
  have hh' : (lockM A.aB μ).cells[A.a]? = some (.ins c.n_Hall (hallF A S)) := h.hh
  have hB' : (lockM A.aB μ).cells[A.aB]? = some (.dK (encI (fun b : BedS => D.loc b.at_) S.beds)) := h.hB
  simp_arith only [↓wC_of hh', ↓wC_of hB', lkd_lock, keysI, List.length_map, startD]
  refine ⟨hl, ?_⟩
  refine w_compFil (f := fun p : Int × BedS => D.int p.1) (fun p => p.2.place == r) (fun p => D.int p.1) rfl (fun p hp => ?_) ?_
  · have hb' : (lockM A.aB μ).cells[p.2.at_]? = some (.ins c.n_Bed (bedF p.2)) := h.hb p hp
    simp_arith only [↓wC_of hh', ↓wC_of hB', ↓qO_of (show kget (encI (fun b : BedS => D.loc b.at_) S.beds) (.inl p.1) = some (.loc p.2.at_) by rw [encI_get, aget_of_mem h.nB hp]; rfl), ↓wC_of hb', implies_true]
  refine ⟨rfl, ?_⟩
  rw [open_lock]
  simp_arith only [id_eq]
  refine w_sortP (m := m_n_Hall_order c) (key := S.key) h.hh (hall_nofld A S _ (by decide +kernel)) (by simp [List.lookup]) (fun p hp => order_ok h (List.mem_filter.mp hp).1) ?_
  simp_arith only [HS.line, HS.lineB, List.map_map]
  rfl
theorem line_ok (h : HallAt c μ A S) {r : Str} (hr : r ∈ S.num.map (·.1)) (hl : S.beds.length ≤ 16777216) : wR (m_n_Hall_line c [.loc A.a, .str r] μ) (fun d μ' => d = .loc μ.cells.length ∧ μ' = μ.push (.lst ((S.line r).map D.int))) noE := by
  unfold m_n_Hall_line
  rw [w_run]
  show wS (t_n_Hall_line c) [some (.loc A.a), some (.str r)] μ _
  unfold t_n_Hall_line
  simp_arith only [↓wC_of h.hh]
  refine (look_for_ok h r).imp2 ?_ (fun _ _ _ z => absurd hr z.2.2.2)
  rintro _ _ ⟨rfl, rfl, _⟩
  simp_arith only [↓wC_of h.hh]
  exact line_at_ok h r hl
theorem ending_ok (h : HallAt c μ A S) (g : Int) : wR (m_n_Hall_ending c [.loc A.a, .int g] μ) (fun d μ' => d = .str ((aget S.ends g).getD "new") ∧ μ' = μ) noE := by
  unfold m_n_Hall_ending
  rw [w_run]
  show wS (t_n_Hall_ending c) [some (.loc A.a), some (.int g)] μ _
  unfold t_n_Hall_ending
  simp_arith only [↓wC_of h.hh, ↓qO_dict h.hE, ↓qO_dfindI h.hE, encI_get]
  cases aget S.ends g <;> rfl
def sleeperD (o : Option BedS) : D := match o with
  | none => .non
  | some b => .tup [.str b.place, oI b.until_, .int b.mask]
theorem sleeper_ok (h : HallAt c μ A S) (g : Int) : wR (m_n_Hall_sleeper c [.loc A.a, .int g] μ) (fun d μ' => d = sleeperD (aget S.beds g) ∧ μ' = μ) noE := by
  unfold m_n_Hall_sleeper
  rw [w_run]
  show wS (t_n_Hall_sleeper c) [some (.loc A.a), some (.int g), none] μ _
  unfold t_n_Hall_sleeper
  simp_arith only [↓wC_of h.hh, ↓w_notIn_dictI h.hB, encI_get, Option.isSome_map]
  cases e : aget S.beds g with
  | none => simp_arith only [Option.isSome_none, Bool.not_false, sleeperD]
  | some b =>
    simp_arith only [Option.isSome_some, Bool.not_true, Bool.true_eq_false, ↓wC_of h.hh, ↓wC_of h.hB, ↓qO_of (show kget (encI (fun b : BedS => D.loc b.at_) S.beds) (.inl g) = some (.loc b.at_) by rw [encI_get, e]; rfl), ↓wC_of (h.hb (g, b) (aget_some e)), sleeperD]
def meetsB (m : Int) (p : Int × BedS) : Bool := !(Builtin.bitAnd p.2.mask m == 0)
theorem meets_ok {b : BedS} (h : μ.cells[b.at_]? = some (.ins c.n_Bed (bedF b))) (m : Int) : wR (m_n_Bed_meets c [.loc b.at_, .int m] μ) (fun d μ' => d = .bl (!(Builtin.bitAnd b.mask m == 0)) ∧ μ' = μ) noE := by
  unfold m_n_Bed_meets
  rw [w_run]
  show wS (t_n_Bed_meets c) [some (.loc b.at_), some (.int m)] μ _
  unfold t_n_Bed_meets
  simp_arith only [↓wC_of h]
def HS.wakeL (S : HS) (r : Str) (k m : Int) : List (Int × BedS) := ((S.lineB r).filter (meetsB m)).take k.toNat
def HS.rises (S : HS) (gs : List Int) (a : Str) : HS := gs.foldl (fun S g => S.rise g a) S
def HS.wake (S : HS) (r : Str) (k m : Int) : HS := (S.rises ((S.wakeL r k m).map (·.1)) "woken").logged (.tup [.str "wake", .str r, .int k, .int m, .tup ((S.wakeL r k m).map fun p => D.int p.1)])
theorem cutD_to {α : Type} (xs : List α) {k : Int} (hk : 0 ≤ k) : cutD xs none (some k) = xs.take k.toNat := by
  unfold cutD
  obtain ⟨n, rfl⟩ := Int.eq_ofNat_of_zero_le hk
  show (xs.drop 0).take (HT.sIx xs.length xs.length (some (n : Int)) - 0) = _
  rw [HT.sIx_nat, List.drop_zero, Nat.sub_zero, Int.toNat_natCast]
  rcases Nat.le_total n xs.length with h | h
  · rw [Nat.min_eq_left h]
  · rw [Nat.min_eq_right h, List.take_of_length_le h, List.take_of_length_le (Nat.le_refl _)]
theorem lineB_mem {r : Str} {p : Int × BedS} (h : p ∈ S.lineB r) : p ∈ S.beds ∧ p.2.place = r := by
  have := (List.mergeSort_perm _ _).mem_iff.mp h
  simpa using this
theorem lineB_len (r : Str) : (S.lineB r).length ≤ S.beds.length := by
  unfold HS.lineB
  rw [(List.mergeSort_perm _ _).length_eq]
  exact List.length_filter_le _ _
theorem lineB_nodup (h : (S.beds.map (·.1)).Nodup) (r : Str) : (S.line r).Nodup := by
  unfold HS.line HS.lineB
  rw [((List.mergeSort_perm _ _).map _).nodup_iff]
  exact h.sublist (List.Sublist.map _ List.filter_sublist)
theorem wakeL_sub (r : Str) (k m : Int) : List.Sublist (S.wakeL r k m) (S.lineB r) := (List.take_sublist _ _).trans List.filter_sublist
theorem sames_refl' (ds : List D) (n : Nat) (h : μ.cells[n]? = some (.lst ds)) : lstIs (.loc n) ds μ = true := by
  unfold lstIs lstOf; dsimp only; rw [h]; exact D.sames_refl ds
theorem wake_in (h : HallAt c μ A S) {r : Str} (hr : r ∈ S.num.map (·.1)) {k m : Int} (hk : 0 ≤ k) (hm : 1 ≤ m ∧ m ≤ 255) {n : Nat} (hz : S.Sz n) (hn : n < 1000000) :
    wR (m_n_Hall_wake c [.loc A.a, .str r, .int k, .int m] μ) (fun d μ' => ∃ l, d = .loc l ∧ μ.cells.length ≤ l ∧ l ∉ foot A (S.wake r k m) ∧ μ'.cells[l]? = some (.lst ((S.wakeL r k m).map fun p => D.int p.1)) ∧ HallTo c μ A S μ' (S.wake r k m)) noE := by
  obtain ⟨z1, z2, z3, z4⟩ := hz
  unfold m_n_Hall_wake
  rw [w_run]
  show wS (t_n_Hall_wake c) [some (.loc A.a), some (.str r), some (.int k), some (.int m), none, none] μ _
  unfold t_n_Hall_wake
  simp_arith only [↓wC_of h.hh]
  refine (look_for_ok h r).imp2 ?_ (fun _ _ _ z => absurd hr z.2.2.2)
  rintro _ _ ⟨rfl, e0, _⟩
  replace e0 := e0.symm
  subst e0
  simp_arith only [id_eq]
  refine (counts_in (cs := [k]) (ms := [m]) (by simpa using hk) (by simpa using hm)).go ?_
  rintro _ _ ⟨rfl, e0⟩
  replace e0 := e0.symm
  subst e0
  simp_arith only [↓wC_of h.hh]
  refine (line_ok h hr (by omega)).go ?_
  rintro _ μ1 ⟨rfl, rfl⟩
  have f1 : Fr [] μ (μ.push (.lst ((S.line r).map D.int))) := Fr.push _ _ _
  have h1 := h.fr f1 (by simp)
  have hc1 : (μ.push (.lst ((S.line r).map D.int))).cells[μ.cells.length]? = some (.lst ((S.line r).map D.int)) := at_push
  generalize hμ1 : μ.push (.lst ((S.line r).map D.int)) = μ1 at *
  have len1 : μ1.cells.length = μ.cells.length + 1 := by rw [← hμ1, len_push]
  have ll := lineB_len (S := S) r
  have e1 : (S.line r).map D.int = (S.lineB r).map fun p => D.int p.1 := by simp [HS.line, Function.comp_def]
  rw [e1] at hc1
  simp_arith only [↓wC_of hc1, List.length_map]
  refine ⟨by omega, ?_⟩
  refine w_compFil (f := fun p : Int × BedS => D.int p.1) (meetsB m) (fun p => D.int p.1) (sames_refl' _ _ hc1) (fun p hp => ?_) ?_
  · have hpb := (lineB_mem hp).1
    have hb := h1.hb p hpb
    simp_arith only [↓wC_of h1.hh, ↓wC_of h1.hB, ↓qO_of (show kget (encI (fun b : BedS => D.loc b.at_) S.beds) (.inl p.1) = some (.loc p.2.at_) by rw [encI_get, aget_of_mem h.nB hpb]; rfl), ↓wC_of hb]
    refine (meets_ok hb m).go ?_
    rintro _ _ ⟨rfl, e0⟩
    replace e0 := e0.symm
    subst e0
    simp_arith only [implies_true]
    simp [meetsB]
  have e2 : cutD (((S.lineB r).filter (meetsB m)).map fun p => D.int p.1) none (some k) = (S.wakeL r k m).map fun p => D.int p.1 := by rw [cutD_to _ hk, HS.wakeL, List.map_take]
  simp_arith only [e2]
  have f2 : Fr [] μ1 (μ1.push (.lst ((S.wakeL r k m).map fun p => D.int p.1))) := Fr.push _ _ _
  have h2 := h1.fr f2 (by simp)
  have hc2 : (μ1.push (.lst ((S.wakeL r k m).map fun p => D.int p.1))).cells[μ1.cells.length]? = some (.lst ((S.wakeL r k m).map fun p => D.int p.1)) := at_push
  generalize hμ2 : μ1.push (.lst ((S.wakeL r k m).map fun p => D.int p.1)) = μ2 at *
  have len2 : μ2.cells.length = μ.cells.length + 2 := by rw [← hμ2, len_push, len1]
  have f12 : Fr [] μ μ2 := f1.trans f2
  have t2 : HallTo c μ A S μ2 S := ⟨h2, f12.mono (by simp), fun k hk => .inl hk⟩
  have nl : ∀ S' μ', HallTo c μ2 A S μ' S' → μ1.cells.length ∉ foot A S' := fun S' μ' t hk => (t.new _ hk).elim (fun z => by have := h.lt z; omega) (fun z => by omega)
  have hsub := wakeL_sub (S := S) r k m
  have hnd : ((S.wakeL r k m).map (·.1)).Nodup := (lineB_nodup h.nB r).sublist (hsub.map _)
  have hin : ∀ p ∈ S.wakeL r k m, p.1 ∈ S.beds.map (·.1) := fun p hp => List.mem_map_of_mem (f := (·.1)) (lineB_mem (hsub.subset hp)).1
  have hwl : (S.wakeL r k m).length ≤ n := Nat.le_trans hsub.length_le (by omega)
  generalize hW : S.wakeL r k m = W at *
  refine w_loopM (f := fun p : Int × BedS => D.int p.1) (fun rest δ μ' => ∃ (pre : List (Int × BedS)) (x5 : Option D), W = pre ++ rest ∧ δ = [some (.loc A.a), some (.str r), some (.int k), some (.int m), some (.loc μ1.cells.length), x5]
    ∧ HallTo c μ2 A S μ' (S.rises (pre.map (·.1)) "woken") ∧ (S.rises (pre.map (·.1)) "woken").ends.length ≤ n + pre.length ∧ (∀ p ∈ rest, p.1 ∈ (S.rises (pre.map (·.1)) "woken").beds.map (·.1)) ∧ (S.rises (pre.map (·.1)) "woken").log = S.log)
    ?_ ?_ ?_ W _ _ ⟨[], none, rfl, rfl, HallTo.refl h2, by simpa [HS.rises] using z3, by simpa [HS.rises] using hin, rfl⟩
  · rintro ds δ μ' ⟨pre, x5, e, rfl, t, _, _, _⟩
    have := t.f.get hc2 (fun hk => by have := h.lt hk; omega)
    exact sames_refl' _ _ this
  · rintro p rest δ μ3 ⟨pre, x5, e, rfl, t, hl, hi, hlog⟩
    have hpl : pre.length < n + 1 := by have := congrArg List.length e; simp at this; omega
    simp_arith only [↓wC_of t.h.hh]
    refine (rise_ok t.h (hi p (by simp)) "woken" (by omega)).go ?_
    rintro _ μ4 ⟨rfl, t4⟩
    have er : S.rises ((pre ++ [p]).map (·.1)) "woken" = (S.rises (pre.map (·.1)) "woken").rise p.1 "woken" := by simp [HS.rises, List.foldl_append]
    refine ⟨pre ++ [p], _, by simp [e], rfl, ?_, ?_, ?_, ?_⟩
    · rw [er]; exact t.trans t4
    · rw [er]
      have := aput_len (S.rises (pre.map (·.1)) "woken").ends p.1 "woken"
      simp [HS.rise]; omega
    · intro q hq
      rw [er]
      show q.1 ∈ (adrop _ _).map (·.1)
      rw [adrop_keys]
      refine List.mem_filter.mpr ⟨hi q (by simp [hq]), ?_⟩
      rw [e] at hnd
      simp only [List.map_append, List.map_cons] at hnd
      have := (List.nodup_append.mp hnd).2.1
      simp only [List.nodup_cons] at this
      simp only [decide_eq_true_eq]
      exact fun z => this.1 (z ▸ List.mem_map_of_mem (f := (·.1)) hq)
    · rw [er]; exact hlog
  · rintro δ μ3 ⟨pre, x5, e, rfl, t, hl, hi, hlog⟩
    rw [List.append_nil] at e
    subst e
    have hc3 := t.f.get hc2 (fun hk => by have := h.lt hk; omega)
    have lL : (S.rises (W.map (·.1)) "woken").log.length < 16777216 := by rw [hlog]; omega
    have t4 := upd_log t.h ((S.rises (W.map (·.1)) "woken").log ++ [.tup [.str "wake", .str r, .int k, .int m, .tup (W.map fun p => D.int p.1)]])
    have hne : μ1.cells.length ≠ A.aL := fun z => nl _ _ t (z ▸ (mem_foot (A := A)).2.2.2.2.2)
    have hc4 := at_setn_of (c := .lst ((S.rises (W.map (·.1)) "woken").log ++ [.tup [.str "wake", .str r, .int k, .int m, .tup (W.map fun p => D.int p.1)]])) hc3 hne
    simp_arith only [↓wC_of t.h.hh, ↓wC_of hc3, ↓wC_of t.h.hL, tyL_of t.h.hL]
    refine ⟨lL, _, rfl, by omega, ?_, hc4, ?_⟩
    · unfold HS.wake; rw [hW]; exact nl _ _ (t.trans t4)
    · unfold HS.wake; rw [hW]; exact t2.trans (t.trans t4)
end
end Doz
end
section
namespace Doz
open PySem L2
theorem w_eq_rs {μ : Mem} {d e p q : D} (hd : dcell μ d = none) (h1 : rsv μ 8 d = some p) (h2 : rsv μ 8 e = some q) (f1 : p.fits = true) (f2 : q.fits = true) (Q : Bool → Mem → Prop) (E : EP) : wR (cEqA d e μ) Q E = Q (D.eqv p q) μ := by
  refine propext ⟨fun h => ?_, fun h => w_eq_of (.inl hd) h1 h2 f1 f2 E Q h⟩
  obtain ⟨b, μ', e1, e2, rfl⟩ := wR.of (w_eq_of (μ := μ) (.inl hd) h1 h2 f1 f2 noE (fun b μ' => b = D.eqv p q ∧ μ' = μ) ⟨rfl, rfl⟩)
  subst e2
  rw [e1] at h; exact h
theorem w_ne_rs {μ : Mem} {d e p q : D} (hd : dcell μ d = none) (h1 : rsv μ 8 d = some p) (h2 : rsv μ 8 e = some q) (f1 : p.fits = true) (f2 : q.fits = true) (Q : Bool → Mem → Prop) (E : EP) : wR (cNeA d e μ) Q E = Q (!(D.eqv p q)) μ := by
  unfold cNeA; rw [wR_bind, w_eq_rs hd h1 h2 f1 f2]; rfl
theorem rsv_loc {μ : Mem} {n : Nat} {ds : List D} (h : μ.cells[n]? = some (.lst ds)) (hn : nice 8 (.lst ds) = true) : rsv μ 8 (.loc n) = some (.lst ds) := by
  have := rsv_nice μ 8 (.lst ds) hn
  show (match μ.cells[n]? with | some (.lst ds) => (ds.mapM (rsv μ 7)).map D.lst | _ => none) = _
  rw [h]; exact this
theorem dcell_lst {μ : Mem} {n : Nat} {ds : List D} (h : μ.cells[n]? = some (.lst ds)) : dcell μ (.loc n) = none := by unfold dcell; dsimp only; rw [h]
theorem w_eq_loc {μ : Mem} {n : Nat} {ds : List D} {e : D} (h : μ.cells[n]? = some (.lst ds)) (hn : nice 8 (.lst ds) = true) (he : nice 8 e = true) (Q : Bool → Mem → Prop) (E : EP) : wR (cEqA (.loc n) e μ) Q E = Q (D.eqv (.lst ds) e) μ :=
  w_eq_rs (dcell_lst h) (rsv_loc h hn) (rsv_nice μ 8 e he) (fits_nice hn (by decide)) (fits_nice he (by decide)) Q E
theorem w_ne_loc {μ : Mem} {n : Nat} {ds : List D} {e : D} (h : μ.cells[n]? = some (.lst ds)) (hn : nice 8 (.lst ds) = true) (he : nice 8 e = true) (Q : Bool → Mem → Prop) (E : EP) : wR (cNeA (.loc n) e μ) Q E = Q (!(D.eqv (.lst ds) e)) μ :=
  w_ne_rs (dcell_lst h) (rsv_loc h hn) (rsv_nice μ 8 e he) (fits_nice hn (by decide)) (fits_nice he (by decide)) Q E
theorem nice_map {α : Type} {f : α → D} (h : ∀ a, nice 7 (f a) = true) (xs : List α) : nice 8 (.lst (xs.map f)) = true := by
  show (xs.map f).all (nice 7) = true
  rw [List.all_map, List.all_eq_true]; exact fun a _ => h a
theorem nice_ints (xs : List Int) : nice 8 (.lst (xs.map D.int)) = true := nice_map (fun _ => rfl) xs
theorem nice_pairs (xs : List (Int × Int)) : nice 8 (.lst (xs.map pairD)) = true := nice_map (fun _ => rfl) xs
theorem isi_loc_list {μ : Mem} {n : Nat} {ds : List D} (h : μ.cells[n]? = some (.lst ds)) (Q : D → Mem → Prop) (E : EP) : wR (fIsi [.loc n, .ty "list"] μ) Q E = Q (.bl true) μ := by
  have e : fIsi [.loc n, .ty "list"] μ = .ok (.bl true) μ := by
    unfold fIsi tyName; dsimp only; rw [h]; kernel_rfl
  rw [e]; rfl
theorem isi_loc_dict {μ : Mem} {n : Nat} {ds : List (Key × D)} (h : μ.cells[n]? = some (.dK ds)) (Q : D → Mem → Prop) (E : EP) : wR (fIsi [.loc n, .ty "dict"] μ) Q E = Q (.bl true) μ := by
  have e : fIsi [.loc n, .ty "dict"] μ = .ok (.bl true) μ := by
    unfold fIsi tyName; dsimp only; rw [h]; kernel_rfl
  rw [e]; rfl
theorem eqv_pair (p q : Int × Int) : D.eqv (pairD p) (pairD q) = decide (p = q) := by
  obtain ⟨a, b⟩ := p
  obtain ⟨c, d⟩ := q
  simp [pairD, D.eqv, D.eqvs, Bool.beq_eq_decide_eq]
theorem any_pairs (x : Int × Int) : ∀ xs : List (Int × Int), ((xs.map pairD).any fun z => D.eqv z (pairD x)) = decide (x ∈ xs)
  | [] => by simp
  | y :: xs => by
    rw [List.map_cons, List.any_cons, any_pairs, eqv_pair]
    simp [eq_comm]
theorem in_pairs {μ : Mem} (x : Int × Int) (xs : List (Int × Int)) : cIn (pairD x) (.lst (xs.map pairD)) μ = .ok (decide (x ∈ xs)) μ := by
  unfold cIn
  have h1 : signIn (pairD x) (.lst (xs.map pairD)) = none := rfl
  have h2 : dfind μ (.lst (xs.map pairD)) (pairD x) = none := rfl
  have h3 : seqOf μ (.lst (xs.map pairD)) = some (xs.map pairD) := rfl
  have h4 : D.sc (pairD x) = false := rfl
  have f1 : (pairD x).fits = true := fits_nice (n := 8) rfl (by decide)
  have f2 : (D.lst (xs.map pairD)).fits = true := fits_nice (nice_pairs xs) (by decide)
  rw [h1, h2]; dsimp only
  rw [h3]; dsimp only
  rw [h4, Bool.false_and, if_neg (by simp), rsv_nice μ 8 (pairD x) rfl, rsv_nice μ 8 _ (nice_pairs xs)]
  dsimp only
  rw [f1, f2, any_pairs]; rfl
theorem w_in_pairs {μ : Mem} (x : Int × Int) (xs : List (Int × Int)) (Q : Bool → Mem → Prop) (E : EP) : wR (cIn (pairD x) (.lst (xs.map pairD)) μ) Q E = Q (decide (x ∈ xs)) μ := by rw [in_pairs]; rfl
theorem w_notIn_pairs {μ : Mem} (x : Int × Int) (xs : List (Int × Int)) (Q : Bool → Mem → Prop) (E : EP) : wR (cNotIn (pairD x) (.lst (xs.map pairD)) μ) Q E = Q (!decide (x ∈ xs)) μ := by unfold cNotIn; rw [wR_bind, in_pairs]; rfl
theorem mask_ok {c : Cl} {μ : Mem} {n : Nat} {B : Int} (h : SrcAt μ n B) (hB : B + 2 < 2 ^ 40) :
    wR (m_x__law_mask c [.loc n] μ) (fun v μ' => ∃ m : Int, v = .int m ∧ (1 ≤ m ∧ m ≤ 255) ∧ SrcAt μ' n (B + 2) ∧ Fr [n] μ μ') noE := by
  unfold m_x__law_mask
  rw [w_run]
  show wS (t_x__law_mask c) [some (.loc n), none, none] μ _
  unfold t_x__law_mask
  simp_arith only [id_eq]
  refine (draw_ok h (by omega) (by omega) (by omega)).go ?_
  rintro _ μ1 ⟨a, rfl, ha0, ha1, hs1, f1⟩
  simp_arith only [id_eq]
  refine (draw_ok hs1 (by omega) (by omega) (by omega)).go ?_
  rintro _ μ2 ⟨b, rfl, hb0, hb1, hs2, f2⟩
  have f := f1.trans f2
  have hs2 := hs2.mono (B' := B + 2) (by omega)
  have fin : ∀ m : Int, 1 ≤ m → m ≤ 255 → ∃ m' : Int, D.int m = .int m' ∧ (1 ≤ m' ∧ m' ≤ 255) ∧ SrcAt μ2 n (B + 2) ∧ Fr [n] μ μ2 := fun m h1 h2 => ⟨m, rfl, ⟨h1, h2⟩, hs2, f⟩
  have h8 : 0 ≤ b % 8 ∧ b % 8 < 8 := by omega
  obtain ⟨w, ew, ew'⟩ := atI_lt (xs := [1, 2, 4, 8, 16, 32, 64, (128 : Int)]) h8.1 (by simpa using h8.2)
  have hw : 1 ≤ w ∧ w ≤ 255 := by
    have := List.mem_of_getElem? ew'
    simp at this; omega
  have ew2 : atI [D.int 1, .int 2, .int 4, .int 8, .int 16, .int 32, .int 64, .int 128] (b % 8) = some (.int w) := by
    have := atI_map D.int [1, 2, 4, 8, 16, 32, 64, (128 : Int)] (b % 8)
    rw [ew] at this; exact this
  simp_arith only [↓qO_of ew2]
  rcases (by omega : a = 0 ∨ a = 1 ∨ a = 2) with rfl | rfl | rfl
  · simp_arith only [id_eq]
    exact fin _ hw.1 hw.2
  · simp_arith only [id_eq]
    exact fin _ (by omega) (by omega)
  · simp_arith only [id_eq]
    exact fin _ (by omega) (by omega)
theorem count_ok {c : Cl} {μ : Mem} {n : Nat} {B : Int} (h : SrcAt μ n B) (hB : B + 2 < 2 ^ 40) :
    wR (m_x__law_count c [.loc n] μ) (fun v μ' => ∃ m : Int, v = .int m ∧ 0 ≤ m ∧ SrcAt μ' n (B + 1) ∧ Fr [n] μ μ') noE := by
  unfold m_x__law_count
  rw [w_run]
  show wS (t_x__law_count c) [some (.loc n)] μ _
  unfold t_x__law_count
  have hp : PowOk 10 30 := powOk (by omega) (by omega) (by omega) (by omega)
  simp_arith only [hp]
  refine (draw_ok h (by omega) (by omega) (by omega)).go ?_
  rintro _ μ1 ⟨a, rfl, ha0, ha1, hs1, f1⟩
  obtain ⟨w, ew, ew'⟩ := atI_lt (xs := [0, 1, 1, 2, 3, 5, 1000, (1000000000000000000000000000000 : Int)]) ha0 (by simpa using ha1)
  have hw : 0 ≤ w := by
    have := List.mem_of_getElem? ew'
    simp at this; omega
  have ew2 : atI [D.int 0, .int 1, .int 1, .int 2, .int 3, .int 5, .int 1000, .int 1000000000000000000000000000000] a = some (.int w) := by
    have := atI_map D.int [0, 1, 1, 2, 3, 5, 1000, (1000000000000000000000000000000 : Int)] a
    rw [ew] at this; exact this
  rw [w_ix_lst, qO_of ew2]
  exact ⟨w, rfl, hw, hs1, f1⟩
structure Calm (S : HS) : Prop where
  r : S.ranks = []
  o : S.beds.Pairwise fun p q => p.2.turn < q.2.turn
  t : ∀ p ∈ S.beds, p.2.turn ≤ S.turns
theorem Calm.line {S : HS} (h : Calm S) (r : Str) : S.lineB r = S.beds.filter fun p => p.2.place == r := by
  unfold HS.lineB
  refine List.mergeSort_of_pairwise ((h.o.sublist List.filter_sublist).imp fun {p q} hpq => ?_)
  simp [le2, HS.key, h.r, aget_nil]; omega
theorem Calm.lie {S : HS} (h : Calm S) (n : Nat) (g : Int) (r : Str) (u : Option Int) (m : Int) : Calm (S.lie n g r u m) := by
  refine ⟨h.r, ?_, ?_⟩
  · show (S.beds ++ [_]).Pairwise _
    rw [List.pairwise_append]
    exact ⟨h.o, by simp, fun p hp q hq => by simp at hq; subst hq; have := h.t p hp; simp; omega⟩
  · intro p hp
    rcases List.mem_append.mp (show p ∈ S.beds ++ [_] from hp) with hp | hp
    · have := h.t p hp; simp [HS.lie]; omega
    · simp at hp; subst hp; simp [HS.lie]
theorem Calm.sub {S S' : HS} (h : Calm S) (h1 : S'.ranks = S.ranks) (h2 : List.Sublist S'.beds S.beds) (h3 : S'.turns = S.turns) : Calm S' :=
  ⟨h1.trans h.r, h.o.sublist h2, fun p hp => by rw [h3]; exact h.t p (h2.subset hp)⟩
theorem rises_eq (S : HS) (a : Str) : ∀ gs : List Int, (S.rises gs a).beds = S.beds.filter (fun p => !decide (p.1 ∈ gs)) ∧ (S.rises gs a).ranks = S.ranks ∧ (S.rises gs a).turns = S.turns ∧ (S.rises gs a).num = S.num ∧ (S.rises gs a).log = S.log ∧ (S.rises gs a).clock = S.clock ∧ (S.rises gs a).begun = S.begun := by
  intro gs
  induction gs generalizing S with
  | nil => simp [HS.rises]; rw [List.filter_eq_self.mpr]; simp
  | cons g gs ih =>
    have := ih (S.rise g a)
    have e : S.rises (g :: gs) a = (S.rise g a).rises gs a := rfl
    rw [e]
    refine ⟨this.1.trans ?_, this.2⟩
    show (adrop S.beds g).filter _ = _
    unfold adrop
    rw [List.filter_filter]
    congr 1; funext p
    by_cases h : p.1 = g <;> simp [h]
theorem rises_ends (S : HS) (a : Str) : ∀ (gs : List Int) (g : Int), aget (S.rises gs a).ends g = if g ∈ gs then some a else aget S.ends g := by
  intro gs
  induction gs generalizing S with
  | nil => intro g; simp [HS.rises]
  | cons x gs ih =>
    intro g
    have e : S.rises (x :: gs) a = (S.rise x a).rises gs a := rfl
    rw [e, ih, HS.rise]
    dsimp only
    rw [aget_put]
    by_cases h : g ∈ gs
    · simp [h]
    · by_cases h2 : g = x <;> simp [h, h2]
theorem rises_len (S : HS) (a : Str) : ∀ gs : List Int, (S.rises gs a).ends.length ≤ S.ends.length + gs.length := by
  intro gs
  induction gs generalizing S with
  | nil => simp [HS.rises]
  | cons x gs ih =>
    have e : S.rises (x :: gs) a = (S.rise x a).rises gs a := rfl
    have := ih (S.rise x a)
    have h2 := aput_len S.ends x a
    rw [e]
    simp [HS.rise] at this ⊢; omega
end Doz
end
section
namespace Doz
open PySem L2
theorem sortK_of {nm : Str} {T : Addr → Option MF} {x d : D} {μ : Mem} {ds : List D} (h : lstOf μ x = some ds) : sortK nm T x d μ = sortK nm T (.lst ds) d μ := by
  unfold sortK; rw [h]; rfl
theorem lstOf_loc {μ : Mem} {n : Nat} {ds : List D} (h : μ.cells[n]? = some (.lst ds)) : lstOf μ (.loc n) = some ds := by unfold lstOf; dsimp only; rw [h]
theorem intsOf_enc {β : Type} (g : β → D) : ∀ l : List (Int × β), intsOf (encI g l) = some (l.map (·.1))
  | [] => rfl
  | p :: l => by
    show (intsOf (encI g l)).map (p.1 :: ·) = _
    rw [intsOf_enc g l]; rfl
theorem w_sortDI {β : Type} {μ : Mem} {n : Nat} {g : β → D} {l : List (Int × β)} (h : μ.cells[n]? = some (.dK (encI g l))) (hl : l.length ≤ 16777216) (Q : List D → Mem → Prop) (E : EP) : wR (fSortDN [.loc n] μ) Q E = Q ((sortInts (l.map (·.1))).map D.int) μ := by
  have e : fSortDN [.loc n] μ = .ok ((sortInts (l.map (·.1))).map D.int) μ := by
    unfold fSortDN
    have : dictOf μ (.loc n) = some (encI g l) := by unfold dictOf; dsimp only; rw [h]
    dsimp only
    rw [this]; dsimp only
    rw [intsOf_enc]; dsimp only
    rw [if_pos (by rw [sizeLine_eq, List.length_map]; exact hl)]
  rw [e]; rfl
section
variable {c : Cl} {μ : Mem} {A : HA} {S : HS}
def HS.rank (S : HS) (g r : Int) : HS := ({ S with ranks := aput S.ranks g r } : HS).logged (.tup [.str "rank", .int g, .int r])
theorem rank_ok (h : HallAt c μ A S) (g r : Int) {n : Nat} (hz : S.Sz n) (hn : n < 16777200) :
    wR (m_n_Hall_rank c [.loc A.a, .int g, .int r] μ) (fun d μ' => d = .non ∧ HallTo c μ A S μ' (S.rank g r)) noE := by
  obtain ⟨z1, z2, z3, z4⟩ := hz
  unfold m_n_Hall_rank
  rw [w_run]
  show wS (t_n_Hall_rank c) [some (.loc A.a), some (.int g), some (.int r)] μ _
  unfold t_n_Hall_rank
  have ne := h.ne
  have t1 := upd_ranks h g r
  have t2 := upd_log t1.h (S.log ++ [.tup [.str "rank", .int g, .int r]])
  have e0 := encI_put D.int S.ranks g r
  have lk := lkd_nil (n := A.aR) h.lk
  simp_arith only [↓wC_of h.hh, ↓wC_of h.hR, enc_len, lk, e0, ↓wC_of t1.h.hh, ↓wC_of h.hL, ↓wC_of t1.h.hL, tyL_of t1.h.hL]
  exact ⟨by omega, by omega, t1.trans t2⟩
theorem now_ok (h : HallAt c μ A S) : wR (m_n_Hall_now c [.loc A.a] μ) (fun d μ' => d = .int S.clock ∧ μ' = μ) noE := by
  unfold m_n_Hall_now
  rw [w_run]
  show wS (t_n_Hall_now c) [some (.loc A.a)] μ _
  unfold t_n_Hall_now
  simp_arith only [↓wC_of h.hh]
theorem asleep_ok (h : HallAt c μ A S) (hl : S.beds.length ≤ 16777216) : wR (m_n_Hall_asleep c [.loc A.a] μ) (fun d μ' => d = .loc μ.cells.length ∧ μ' = μ.push (.lst ((sortInts (S.beds.map (·.1))).map D.int))) noE := by
  unfold m_n_Hall_asleep
  rw [w_run]
  show wS (t_n_Hall_asleep c) [some (.loc A.a)] μ _
  unfold t_n_Hall_asleep
  simp_arith only [↓wC_of h.hh, ↓w_sortDI h.hB hl]
def lateKey (p : Int × BedS) : Int × Int := (p.2.until_.getD 0, p.2.since)
def HS.lateB (S : HS) (t : Int) : List (Int × BedS) := (S.beds.filter fun p => overAt p.2.until_ t).mergeSort fun p q => le2 (lateKey p) (lateKey q)
def HS.tick (S : HS) (y : Int) : HS := (({ S with clock := S.clock + y } : HS).rises ((S.lateB (S.clock + y)).map (·.1)) "late").logged (.tup [.str "tick", .int y, .tup ((S.lateB (S.clock + y)).map fun p => D.int p.1)])
theorem bed_over_ok {b : BedS} (h : μ.cells[b.at_]? = some (.ins c.n_Bed (bedF b))) (t : Int) : wR (m_n_Bed_is_over c [.loc b.at_, .int t] μ) (fun d μ' => d = .bl (overAt b.until_ t) ∧ μ' = μ) noE := by
  unfold m_n_Bed_is_over
  rw [w_run]
  show wS (t_n_Bed_is_over c) [some (.loc b.at_), some (.int t)] μ _
  unfold t_n_Bed_is_over
  simp_arith only [↓wC_of h]
  cases e : b.until_ with
  | none => simp_arith only [oI, overAt, Bool.true_eq_false]
  | some x => simp_arith only [oI, overAt]
theorem lateness_ok (h : HallAt c μ A S) {p : Int × BedS} (hp : p ∈ S.beds) {t : Int} (ho : overAt p.2.until_ t = true) : wR (m_n_Hall_lateness c [.loc A.a, .int p.1] μ) (fun d μ' => d = pairD (lateKey p)) noE := by
  unfold m_n_Hall_lateness
  rw [w_run]
  show wS (t_n_Hall_lateness c) [some (.loc A.a), some (.int p.1)] μ _
  unfold t_n_Hall_lateness
  simp_arith only [↓wC_of h.hh, ↓wC_of h.hB, ↓qO_of (show kget (encI (fun b : BedS => D.loc b.at_) S.beds) (.inl p.1) = some (.loc p.2.at_) by rw [encI_get, aget_of_mem h.nB hp]; rfl), ↓wC_of (h.hb p hp)]
  cases e : p.2.until_ with
  | none => rw [e] at ho; cases ho
  | some x => simp [lateKey, pairD, e, oI]
theorem lateB_mem {t : Int} {p : Int × BedS} (h : p ∈ S.lateB t) : p ∈ S.beds ∧ overAt p.2.until_ t = true := by
  have := (List.mergeSort_perm _ _).mem_iff.mp h
  simpa using this
theorem lateB_len (t : Int) : (S.lateB t).length ≤ S.beds.length := by
  unfold HS.lateB
  rw [(List.mergeSort_perm _ _).length_eq]
  exact List.length_filter_le _ _
theorem lateB_nodup (h : (S.beds.map (·.1)).Nodup) (t : Int) : ((S.lateB t).map (·.1)).Nodup := by
  unfold HS.lateB
  rw [((List.mergeSort_perm _ _).map _).nodup_iff]
  exact h.sublist (List.Sublist.map _ List.filter_sublist)
theorem tick_in (h : HallAt c μ A S) {y : Int} (hy : 0 ≤ y) {n : Nat} (hz : S.Sz n) (hn : n < 1000000) :
    wR (m_n_Hall_tick c [.loc A.a, .int y] μ) (fun d μ' => ∃ l, d = .loc l ∧ μ.cells.length ≤ l ∧ l ∉ foot A (S.tick y) ∧ μ'.cells[l]? = some (.lst ((S.lateB (S.clock + y)).map fun p => D.int p.1)) ∧ HallTo c μ A S μ' (S.tick y)) noE := by
  obtain ⟨z1, z2, z3, z4⟩ := hz
  unfold m_n_Hall_tick
  rw [w_run]
  show wS (t_n_Hall_tick c) [some (.loc A.a), some (.int y), none, none] μ _
  unfold t_n_Hall_tick
  refine wS_cut (fun δ μ' => δ = [some (.loc A.a), some (.int y), none, none] ∧ μ' = μ) ?_ ?_
  · simp_arith only [id_eq]
    refine (counts_in (cs := [y]) (ms := []) (by simpa using hy) (by simp)).go ?_
    rintro _ _ ⟨_, e0⟩
    exact e0
  rintro _ _ ⟨rfl, e0⟩
  replace e0 := e0.symm
  subst e0
  have t1 := upd_rec h (S.clock + y) S.turns S.begun
  refine wS_cut (fun δ μ' => δ = [some (.loc A.a), some (.int y), none, none] ∧ μ' = μ.set A.a (.ins c.n_Hall (hallF A { S with clock := S.clock + y }))) ?_ ?_
  · simp_arith only [↓wC_of h.hh, hs_clock, h_len8, ph_clock]
  rintro _ _ ⟨rfl, rfl⟩
  have e1 : (μ.set A.a (.ins c.n_Hall (hallF A { S with clock := S.clock + y }))).cells.length = μ.cells.length := len_set
  generalize μ.set A.a (.ins c.n_Hall (hallF A { S with clock := S.clock + y })) = μ1 at *
  generalize hS1 : ({ S with clock := S.clock + y } : HS) = S1 at *
  have eb : S1.beds = S.beds := by subst hS1; rfl
  have ec : S1.clock = S.clock + y := by subst hS1; rfl
  have h1 : HallAt c μ1 A S1 := t1.h
  have lk := lkd_nil (n := A.aB) h1.lk
  have hh' : (lockM A.aB μ1).cells[A.a]? = some (.ins c.n_Hall (hallF A S1)) := h1.hh
  have hB' : (lockM A.aB μ1).cells[A.aB]? = some (.dK (encI (fun b : BedS => D.loc b.at_) S1.beds)) := h1.hB
  refine wS_cut (fun δ μ' => δ = [some (.loc A.a), some (.int y), some (.loc μ1.cells.length), none] ∧ μ' = μ1.push (.lst ((S1.beds.filter fun p => overAt p.2.until_ S1.clock).map fun p => D.int p.1))) ?_ ?_
  · refine w_lockS (n := A.aB) (sel_of (by simp_arith only [↓wC_of h1.hh])) lk h1.hB ?_
    simp_arith only [↓wC_of hh', ↓wC_of hB', lkd_lock, keysI, List.length_map]
    refine ⟨by rw [eb]; omega, ?_⟩
    refine w_compFil (f := fun p : Int × BedS => D.int p.1) (fun p => overAt p.2.until_ S1.clock) (fun p => D.int p.1) rfl (fun p hp => ?_) ?_
    · have hb' : (lockM A.aB μ1).cells[p.2.at_]? = some (.ins c.n_Bed (bedF p.2)) := h1.hb p hp
      simp_arith only [↓wC_of hh', ↓wC_of hB', ↓qO_of (show kget (encI (fun b : BedS => D.loc b.at_) S1.beds) (.inl p.1) = some (.loc p.2.at_) by rw [encI_get, aget_of_mem h1.nB hp]; rfl), ↓wC_of hb']
      refine (bed_over_ok hb' S1.clock).go ?_
      rintro _ _ ⟨rfl, rfl⟩
      simp_arith only [implies_true]
    simp_arith only [id_eq]
    exact ⟨rfl, rfl, rfl⟩
  rintro _ _ ⟨rfl, rfl⟩
  have f2 : Fr [] μ1 (μ1.push (.lst ((S1.beds.filter fun p => overAt p.2.until_ S1.clock).map fun p => D.int p.1))) := Fr.push _ _ _
  have h2 := h1.fr f2 (by simp)
  have hc2 : (μ1.push (.lst ((S1.beds.filter fun p => overAt p.2.until_ S1.clock).map fun p => D.int p.1))).cells[μ1.cells.length]? = some (.lst ((S1.beds.filter fun p => overAt p.2.until_ S1.clock).map fun p => D.int p.1)) := at_push
  have len2 : (μ1.push (.lst ((S1.beds.filter fun p => overAt p.2.until_ S1.clock).map fun p => D.int p.1))).cells.length = μ.cells.length + 1 := by rw [len_push, e1]
  generalize μ1.push (.lst ((S1.beds.filter fun p => overAt p.2.until_ S1.clock).map fun p => D.int p.1)) = μ2 at *
  refine wS_cut (fun δ μ' => δ = [some (.loc A.a), some (.int y), some (.loc μ2.cells.length), none] ∧ μ' = μ2.push (.lst ((S1.lateB S1.clock).map fun p => D.int p.1))) ?_ ?_
  · simp_arith only [id_eq]
    rw [sortK_of (lstOf_loc hc2)]
    refine w_sortP (m := m_n_Hall_lateness c) (key := lateKey) h2.hh (hall_nofld A S1 _ (by decide +kernel)) (by simp [List.lookup]) (fun p hp => lateness_ok h2 (List.mem_filter.mp hp).1 (List.mem_filter.mp hp).2) ?_
    simp_arith only [HS.lateB]
  rintro _ _ ⟨rfl, rfl⟩
  have f3 : Fr [] μ2 (μ2.push (.lst ((S1.lateB S1.clock).map fun p => D.int p.1))) := Fr.push _ _ _
  have h3 := h2.fr f3 (by simp)
  have hc3 : (μ2.push (.lst ((S1.lateB S1.clock).map fun p => D.int p.1))).cells[μ2.cells.length]? = some (.lst ((S1.lateB S1.clock).map fun p => D.int p.1)) := at_push
  have len3 : (μ2.push (.lst ((S1.lateB S1.clock).map fun p => D.int p.1))).cells.length = μ.cells.length + 2 := by rw [len_push, len2]
  generalize μ2.push (.lst ((S1.lateB S1.clock).map fun p => D.int p.1)) = μ3 at *
  have t3 : HallTo c μ A S μ3 S1 := ⟨h3, (t1.f.trans (f2.trans f3) (by simp)), fun k hk => t1.new k hk⟩
  have nl : ∀ S' μ', HallTo c μ3 A S1 μ' S' → μ2.cells.length ∉ foot A S' := fun S' μ' t hk => (t.new _ hk).elim (fun z => (t1.new _ z).elim (fun z => by have := h.lt z; omega) (fun z => by have := h1.lt ‹_›; omega)) (fun z => by omega)
  have hnd := lateB_nodup h1.nB S1.clock
  have hin : ∀ p ∈ S1.lateB S1.clock, p.1 ∈ S1.beds.map (·.1) := fun p hp => List.mem_map_of_mem (f := (·.1)) (lateB_mem hp).1
  have hwl : (S1.lateB S1.clock).length ≤ n := Nat.le_trans (lateB_len _) (by rw [eb]; exact z1)
  have eW : S.lateB (S.clock + y) = S1.lateB S1.clock := by unfold HS.lateB; rw [eb, ec]
  have eT : S.tick y = (S1.rises ((S1.lateB S1.clock).map (·.1)) "late").logged (.tup [.str "tick", .int y, .tup ((S1.lateB S1.clock).map fun p => D.int p.1)]) := by unfold HS.tick; rw [eW, hS1]
  rw [eT, eW]
  generalize hW : S1.lateB S1.clock = W at *
  have zE : S1.ends.length ≤ n := by subst hS1; exact z3
  have zL : S1.log.length ≤ n := by subst hS1; exact z4
  refine wS_cut (fun δ μ' => ∃ x3, δ = [some (.loc A.a), some (.int y), some (.loc μ2.cells.length), x3] ∧ HallTo c μ3 A S1 μ' (S1.rises (W.map (·.1)) "late")) ?_ ?_
  · simp_arith only [↓wC_of hc3]
    refine w_loopM (f := fun p : Int × BedS => D.int p.1) (fun rest δ μ' => ∃ (pre : List (Int × BedS)) (x3 : Option D), W = pre ++ rest ∧ δ = [some (.loc A.a), some (.int y), some (.loc μ2.cells.length), x3]
      ∧ HallTo c μ3 A S1 μ' (S1.rises (pre.map (·.1)) "late") ∧ (S1.rises (pre.map (·.1)) "late").ends.length ≤ n + pre.length ∧ (∀ p ∈ rest, p.1 ∈ (S1.rises (pre.map (·.1)) "late").beds.map (·.1)))
      ?_ ?_ ?_ W _ _ ⟨[], none, rfl, rfl, HallTo.refl h3, by simpa [HS.rises] using zE, by simpa [HS.rises] using hin⟩
    · rintro ds δ μ' ⟨pre, x5, e, rfl, t, _, _⟩
      exact sames_refl' _ _ (t.f.get hc3 (nl _ _ (HallTo.refl h3)))
    · rintro p rest δ μ4 ⟨pre, x5, e, rfl, t, hl, hi⟩
      have hpl : pre.length < n + 1 := by have := congrArg List.length e; simp at this; omega
      simp_arith only [↓wC_of t.h.hh]
      refine (rise_ok t.h (hi p (by simp)) "late" (by omega)).go ?_
      rintro _ μ5 ⟨rfl, t5⟩
      have er : S1.rises ((pre ++ [p]).map (·.1)) "late" = (S1.rises (pre.map (·.1)) "late").rise p.1 "late" := by simp [HS.rises, List.foldl_append]
      refine ⟨pre ++ [p], _, by simp [e], rfl, ?_, ?_, ?_⟩
      · rw [er]; exact t.trans t5
      · rw [er]
        have := aput_len (S1.rises (pre.map (·.1)) "late").ends p.1 "late"
        simp [HS.rise]; omega
      · intro q hq
        rw [er]
        show q.1 ∈ (adrop _ _).map (·.1)
        rw [adrop_keys]
        refine List.mem_filter.mpr ⟨hi q (by simp [hq]), ?_⟩
        rw [e] at hnd
        simp only [List.map_append, List.map_cons] at hnd
        have := (List.nodup_append.mp hnd).2.1
        simp only [List.nodup_cons] at this
        simp only [decide_eq_true_eq]
        exact fun z => this.1 (z ▸ List.mem_map_of_mem (f := (·.1)) hq)
    · rintro δ μ4 ⟨pre, x5, e, rfl, t, hl, hi⟩
      rw [List.append_nil] at e
      subst e
      exact ⟨_, rfl, t⟩
  rintro _ μ4 ⟨x3, rfl, t⟩
  have hlog : (S1.rises (W.map (·.1)) "late").log = S1.log := (rises_eq S1 "late" _).2.2.2.2.1
  have hc4 := t.f.get hc3 (nl _ _ (HallTo.refl h3))
  have lL : (S1.rises (W.map (·.1)) "late").log.length < 16777216 := by rw [hlog]; omega
  have t5 := upd_log t.h ((S1.rises (W.map (·.1)) "late").log ++ [.tup [.str "tick", .int y, .tup (W.map fun p => D.int p.1)]])
  have hne : μ2.cells.length ≠ A.aL := fun z => nl _ _ t (z ▸ (mem_foot (A := A)).2.2.2.2.2)
  have hc5 := at_setn_of (c := .lst ((S1.rises (W.map (·.1)) "late").log ++ [.tup [.str "tick", .int y, .tup (W.map fun p => D.int p.1)]])) hc4 hne
  simp_arith only [↓wC_of t.h.hh, ↓wC_of hc4, ↓wC_of t.h.hL, tyL_of t.h.hL]
  exact ⟨lL, _, rfl, by omega, nl _ _ (t.trans t5), hc5, t3.trans (t.trans t5)⟩
end
end Doz
end
section
namespace Doz
open PySem L2
section
variable {c : Cl} {μ : Mem} {A : HA} {S : HS}
def HS.nudge (S : HS) (g : Int) : HS := (S.rise g "nudged").logged (.tup [.str "nudge", .int g])
theorem nudge_in (h : HallAt c μ A S) {g : Int} (hg : g ∈ S.beds.map (·.1)) {n : Nat} (hz : S.Sz n) (hn : n < 16777200) :
    wR (m_n_Hall_nudge c [.loc A.a, .int g] μ) (fun d μ' => d = .non ∧ HallTo c μ A S μ' (S.nudge g)) noE := by
  obtain ⟨z1, z2, z3, z4⟩ := hz
  unfold m_n_Hall_nudge
  rw [w_run]
  show wS (t_n_Hall_nudge c) [some (.loc A.a), some (.int g)] μ _
  unfold t_n_Hall_nudge
  refine wS_cut (fun δ μ' => δ = [some (.loc A.a), some (.int g)] ∧ μ' = μ) ?_ ?_
  · simp_arith only [↓wC_of h.hh, ↓w_notIn_dictI h.hB, encI_get, Option.isSome_map, aget_isSome, hg, decide_true, Bool.true_eq_false]
  rintro _ _ ⟨rfl, e0⟩
  replace e0 := e0.symm
  subst e0
  simp_arith only [↓wC_of h.hh]
  refine (rise_ok h hg "nudged" (by omega)).go ?_
  rintro _ μ1 ⟨rfl, t⟩
  have t2 := upd_log t.h (S.log ++ [.tup [.str "nudge", .int g]])
  have hL : μ1.cells[A.aL]? = some (.lst S.log) := t.h.hL
  simp_arith only [↓wC_of t.h.hh, ↓wC_of hL, tyL_of hL]
  exact ⟨by omega, t.trans t2⟩
theorem nudge_out (h : HallAt c μ A S) {g : Int} (hg : g ∉ S.beds.map (·.1)) :
    wR (m_n_Hall_nudge c [.loc A.a, .int g] μ) (fun _ _ => False) (fun C w μ' => C = c.n_Awake ∧ w = .int g ∧ μ' = μ) := by
  unfold m_n_Hall_nudge
  rw [w_run]
  show wS (t_n_Hall_nudge c) [some (.loc A.a), some (.int g)] μ _
  unfold t_n_Hall_nudge
  simp_arith only [↓wC_of h.hh, ↓w_notIn_dictI h.hB, encI_get, Option.isSome_map, aget_isSome, hg, decide_false]
theorem map_inj {α β : Type} {f : α → β} : ∀ {l : List α}, (l.map f).Nodup → ∀ {x y : α}, x ∈ l → y ∈ l → f x = f y → x = y
  | [], _, x, y, hx, _, _ => by cases hx
  | a :: l, h, x, y, hx, hy, e => by
    rw [List.map_cons, List.nodup_cons] at h
    rcases List.mem_cons.mp hx with hx1 | hx1
    · rcases List.mem_cons.mp hy with hy1 | hy1
      · rw [hx1, hy1]
      · exact absurd (by rw [← hx1, e]; exact List.mem_map_of_mem (f := f) hy1) h.1
    · rcases List.mem_cons.mp hy with hy1 | hy1
      · exact absurd (by rw [← hy1, ← e]; exact List.mem_map_of_mem (f := f) hx1) h.1
      · exact map_inj h.2 hx1 hy1 e
theorem ph_place (b : BedS) (r : Str) : putFD "place" (.str r) (bedF b) = bedF { b with place := r } := by kernel_rfl
theorem ph_turn (b : BedS) (v : Int) : putFD "turn" (.int v) (bedF b) = bedF { b with turn := v } := by kernel_rfl
theorem bl5 (b : BedS) : (bedF b).length = 5 := rfl
theorem bs_place (b : BedS) : ((bedF b).lookup ("place" : Str)).isSome = true := by kernel_rfl
theorem bs_turn (b : BedS) : ((bedF b).lookup ("turn" : Str)).isSome = true := by kernel_rfl
theorem upd_bed (h : HallAt c μ A S) {g : Int} {b b' : BedS} (hb : aget S.beds g = some b) (ha : b'.at_ = b.at_) : HallTo c μ A S (μ.set b.at_ (.ins c.n_Bed (bedF b'))) { S with beds := aput S.beds g b' } := by
  have hm : (g, b) ∈ S.beds := aget_some hb
  have hk : g ∈ S.beds.map (·.1) := List.mem_map_of_mem (f := (·.1)) hm
  have neb : b.at_ ≠ A.a ∧ b.at_ ≠ A.aN ∧ b.at_ ≠ A.aB ∧ b.at_ ≠ A.aR ∧ b.at_ ≠ A.aE ∧ b.at_ ≠ A.aL := h.neb hm
  have nat : (S.beds.map fun p => p.2.at_).Nodup := (List.nodup_append.mp h.nd).2.1
  have one : ∀ p ∈ S.beds, p.1 = g → p = (g, b) := fun p hp e => map_inj h.nB hp hm e
  have mp : ∀ {γ : Type} (f : Int × BedS → γ), f (g, b') = f (g, b) → (aput S.beds g b').map f = S.beds.map f := fun f hf => by
    rw [aput_old hk, List.map_map]
    refine List.map_congr_left fun p hp => ?_
    show f (if p.1 = g then (p.1, b') else p) = f p
    split
    · rename_i e; rw [one p hp e]; exact hf
    · rfl
  have eB : encI (fun b : BedS => D.loc b.at_) (aput S.beds g b') = encI (fun b : BedS => D.loc b.at_) S.beds := mp (fun p => ((Sum.inl p.1 : Key), D.loc p.2.at_)) (by simp [ha])
  have ft : foot A { S with beds := aput S.beds g b' } = foot A S := by
    unfold foot
    rw [mp (fun p => p.2.at_) (by simp [ha])]
  have mf : b.at_ ∈ foot A S := by
    unfold foot
    exact List.mem_append_right _ (List.mem_map_of_mem (f := fun p : Int × BedS => p.2.at_) hm)
  refine ⟨⟨h.lk, by rw [ft]; exact h.nd, at_setn_of h.hh (by omega), at_setn_of h.hN (by omega), ?_, at_setn_of h.hR (by omega), at_setn_of h.hE (by omega), at_setn_of h.hL (by omega), ?_, h.nN, aput_nodup h.nB, h.nR, h.nE⟩, ?_, ?_⟩
  · show _ = some (Cell.dK (encI _ (aput S.beds g b')))
    rw [eB]; exact at_setn_of h.hB (by omega)
  · intro p hp
    have hp : p ∈ aput S.beds g b' := hp
    rw [aput_old hk] at hp
    obtain ⟨p0, hp0, e⟩ := List.mem_map.mp hp
    by_cases e1 : p0.1 = g
    · rw [if_pos e1] at e
      subst e
      show (μ.set b.at_ _).cells[b'.at_]? = _
      rw [ha]; exact at_set (at_lt (h.hb _ hm))
    · rw [if_neg e1] at e
      subst e
      exact at_setn_of (h.hb p0 hp0) fun z => e1 (congrArg Prod.fst (map_inj nat hp0 hm z))
  · exact (Fr.set1 _ _ _).mono (by intro k hk _; simp at hk; subst hk; exact mf)
  · intro k hk; rw [ft] at hk; exact .inl hk
end
end Doz
end
section
namespace Doz
open PySem L2
def le3 (p q : Int × Int × Int) : Bool := decide (p.1 < q.1 ∨ (p.1 = q.1 ∧ (p.2.1 < q.2.1 ∨ (p.2.1 = q.2.1 ∧ p.2.2 ≤ q.2.2))))
def tripD (p : Int × Int × Int) : D := .tup [.int p.1, .int p.2.1, .int p.2.2]
theorem le3_ok {α : Type} (x y : α) (p q : Int × Int × Int) : PySem.W.dataLe false (fun b : α × D => toPy b.2) (x, tripD p) (y, tripD q) = le3 p q := by
  obtain ⟨a, b, e⟩ := p
  obtain ⟨c, d, f⟩ := q
  show (!PyProof.Rows.lexLt PyProof.Rows.itemOrd [.inl 1, .inl c, .inl 1, .inl d, .inl 1, .inl f, .inl 0] [.inl 1, .inl a, .inl 1, .inl b, .inl 1, .inl e, .inl 0]) = le3 (a, b, e) (c, d, f)
  unfold le3
  rw [lexC]
  by_cases h : c = a
  · subst h
    rw [lexC, lexC]
    by_cases h : d = b
    · subst h
      rw [lexC, lexC]
      by_cases h : f = e
      · subst h
        rw [lexC, lexC]
        have : PyProof.Rows.lexLt PyProof.Rows.itemOrd [] [] = false := rfl
        rw [this]; simp
      · rw [lexD _ _ h]
        by_cases h2 : f < e
        · simp [h2]; try omega
        · simp [h2]; try omega
    · rw [lexD _ _ h]
      by_cases h2 : d < b
      · simp [h2]; try omega
      · simp [h2]; try omega
  · rw [lexD _ _ h]
    by_cases h2 : c < a
    · simp [h2]; omega
    · simp [h2]; omega
theorem keysOk_trips {α : Type} (f : α → Int × Int × Int) (xs : List α) : keysOk (xs.map fun x => tripD (f x)) = true := by
  unfold keysOk
  simp only [Bool.and_eq_true]
  refine ⟨pures_map (fun a => by simp [tripD, D.pure, D.pures]) xs, ?_, ?_, ?_⟩
  · unfold alikeB
    simp [List.all_map, List.all_eq_true, tripD, toPy, toPys, PySem.W.alike, PySem.W.alikeAll]
  · unfold sortB
    simp [List.all_map, List.all_eq_true, tripD, tupB]
  · rw [List.all_map, List.all_eq_true]
    intro a _
    have z := (lay_nice 8 (tripD (f a)) rfl).2
    exact decide_eq_true (show (toPy (tripD (f a))).depth ≤ 64 by omega)
theorem w_sort3 {α : Type} {μ : Mem} (f : α → Int × Int × Int) (xs : List α) (Q : List D → Mem → Prop) (E : EP) : wR (fSortDN [.lst (xs.map fun x => tripD (f x))] μ) Q E = Q ((xs.mergeSort fun a b => le3 (f a) (f b)).map fun x => tripD (f x)) μ := by
  have e : fSortDN [.lst (xs.map fun x => tripD (f x))] μ = .ok ((xs.mergeSort fun a b => le3 (f a) (f b)).map fun x => tripD (f x)) μ := by
    show fSortN [.lst (xs.map fun x => tripD (f x))] μ = _
    show (match (xs.map fun x => tripD (f x)).mapM (rsv μ 8) with | some ps => if keysOk ps = true then Res.ok (sortBy ((xs.map fun x => tripD (f x)).zip ps)) μ else .bad | none => .bad) = _
    rw [mapM_self (f := rsv μ 8) (fun d hd => by
      obtain ⟨a, _, rfl⟩ := List.mem_map.mp hd
      exact rsv_nice μ 8 _ rfl)]
    dsimp only
    rw [if_pos (keysOk_trips f xs)]
    congr 1
    unfold sortBy
    have z : (xs.map fun x => tripD (f x)).zip (xs.map fun x => tripD (f x)) = xs.map fun a => (tripD (f a), tripD (f a)) := by rw [List.zip_map']
    rw [z, ← List.map_mergeSort (r := fun a b => le3 (f a) (f b)) (fun a _ b _ => (le3_ok _ _ _ _).symm), List.map_map]
    rfl
  rw [e]; rfl
end Doz
end
section
namespace Doz
open PySem L2
theorem filter_sort {α : Type} {le : α → α → Bool} (tr : ∀ a b c, le a b = true → le b c = true → le a c = true) (tot : ∀ a b, (le a b || le b a) = true) {l : List α} (an : ∀ a b, a ∈ l → b ∈ l → le a b = true → le b a = true → a = b) (p : α → Bool) : (l.mergeSort le).filter p = (l.filter p).mergeSort le := by
  refine List.Perm.eq_of_pairwise (le := fun a b => le a b = true) ?_ ((List.pairwise_mergeSort tr tot l).sublist List.filter_sublist) (List.pairwise_mergeSort tr tot _) (((List.mergeSort_perm l le).filter p).trans (List.mergeSort_perm _ _).symm)
  intro a b ha hb h1 h2
  refine an a b ?_ ?_ h1 h2
  · exact (List.mergeSort_perm l le).mem_iff.mp (List.mem_filter.mp ha).1
  · exact (List.mem_filter.mp ((List.mergeSort_perm _ le).mem_iff.mp hb)).1
theorem le2_tr (f : Int × BedS → Int × Int) : ∀ a b c, le2 (f a) (f b) = true → le2 (f b) (f c) = true → le2 (f a) (f c) = true := fun a b c h1 h2 => by simp only [le2, decide_eq_true_eq] at *; omega
theorem le2_tot (f : Int × BedS → Int × Int) : ∀ a b, (le2 (f a) (f b) || le2 (f b) (f a)) = true := fun a b => by simp only [le2, Bool.or_eq_true, decide_eq_true_eq]; omega
theorem turn_inj {l : List (Int × BedS)} (h : l.Pairwise fun p q => p.2.turn ≠ q.2.turn) {p q : Int × BedS} (hp : p ∈ l) (hq : q ∈ l) (e : p.2.turn = q.2.turn) : p = q := by
  have : (l.map fun p => p.2.turn).Nodup := List.pairwise_map.mpr h
  exact map_inj this hp hq e
theorem lineB_filter {S S' : HS} (q : Int × BedS → Bool) (hb : S'.beds = S.beds.filter q) (hr : S'.ranks = S.ranks) (inj : S.beds.Pairwise fun p q => p.2.turn ≠ q.2.turn) (w : Str) : S'.lineB w = (S.lineB w).filter q := by
  have ek : S'.key = S.key := by unfold HS.key; rw [hr]
  unfold HS.lineB
  rw [filter_sort (le2_tr S.key) (le2_tot S.key) (fun a b ha hb h1 h2 => ?_) q, hb, ek, List.filter_filter, List.filter_filter]
  · congr 2; funext p; exact Bool.and_comm _ _
  · have ha := (List.mem_filter.mp ha).1
    have hb := (List.mem_filter.mp hb).1
    refine turn_inj inj ha hb ?_
    have h1 : le2 (S.key a) (S.key b) = true := h1
    have h2 : le2 (S.key b) (S.key a) = true := h2
    unfold le2 HS.key at h1 h2
    have h1 := of_decide_eq_true h1
    have h2 := of_decide_eq_true h2
    dsimp only at h1 h2
    omega
theorem filter_take {α : Type} [DecidableEq α] : ∀ {l : List α} (k : Nat), l.Nodup → l.filter (fun x => !decide (x ∈ l.take k)) = l.drop k
  | [], k, _ => by simp
  | x :: l, 0, _ => by simp
  | x :: l, k + 1, h => by
    rw [List.nodup_cons] at h
    rw [List.take_succ_cons, List.drop_succ_cons, List.filter_cons]
    simp only [List.mem_cons, true_or, decide_true, Bool.not_true, Bool.false_eq_true, if_false]
    rw [← filter_take k h.2]
    refine List.filter_congr fun y hy => ?_
    have : y ≠ x := fun z => h.1 (z ▸ hy)
    simp [this]
theorem filter_takeM {α β : Type} [DecidableEq β] {f : α → β} : ∀ {l : List α} (k : Nat), (l.map f).Nodup → l.filter (fun x => !decide (f x ∈ (l.take k).map f)) = l.drop k
  | [], k, _ => by simp
  | x :: l, 0, _ => by simp
  | x :: l, k + 1, h => by
    rw [List.map_cons, List.nodup_cons] at h
    rw [List.take_succ_cons, List.drop_succ_cons, List.filter_cons]
    simp only [List.map_cons, List.mem_cons, true_or, decide_true, Bool.not_true, Bool.false_eq_true, if_false]
    rw [← filter_takeM k h.2]
    refine List.filter_congr fun y hy => ?_
    have : f y ≠ f x := fun z => h.1 (z ▸ List.mem_map_of_mem hy)
    simp [this]
theorem rises_line {S S' : HS} {w : Str} {k : Nat} (hb : S'.beds = S.beds.filter fun p => !decide (p.1 ∈ ((S.lineB w).take k).map (·.1))) (hr : S'.ranks = S.ranks) (inj : S.beds.Pairwise fun p q => p.2.turn ≠ q.2.turn) (hn : (S.beds.map (·.1)).Nodup) : S'.lineB w = (S.lineB w).drop k ∧ ∀ w', w' ≠ w → S'.lineB w' = S.lineB w' := by
  have h := lineB_filter _ hb hr inj
  refine ⟨?_, fun w' hw => ?_⟩
  · rw [h w]; exact filter_takeM (f := fun p : Int × BedS => p.1) k (lineB_nodup hn w)
  · rw [h w']
    refine List.filter_eq_self.mpr fun p hp => ?_
    obtain ⟨p1, p2⟩ := lineB_mem hp
    simp only [Bool.not_eq_true', decide_eq_false_iff_not]
    intro hm
    obtain ⟨q, hq, e⟩ := List.mem_map.mp hm
    obtain ⟨q1, q2⟩ := lineB_mem (List.mem_of_mem_take hq)
    have := map_inj (f := fun p : Int × BedS => p.1) hn q1 p1 e
    subst this
    exact hw (p2.symm.trans q2)
end Doz
end
section
namespace Doz
open PySem L2
section
variable {δ : DEnv} {μ : Mem} {E : EP}
theorem wE_chainV (c c' : D → D → Mem → Res Bool) (a b z : ME) (Q : D → Mem → Prop) : wE (mchainV c c' a b z) δ μ Q E = wE a δ μ (fun x μ1 => wE b δ μ1 (fun y μ2 => wR (c x y μ2) (fun k μ3 => if k = true then wE z δ μ3 (fun w μ4 => wR (c' y w μ4) (fun b μ5 => Q (.bl b) μ5) E) E else Q (.bl false) μ3) E) E) E := by
  unfold mchainV; rw [wE_bind]; congr; funext x μ1; rw [wE_bind]; congr; funext y μ2
  show wR (Res.bind _ _) _ _ = _
  rw [wR_bind]; congr; funext k μ3
  cases k with
  | true => show wR (Res.bind _ _) _ _ = _; rw [wR_bind]; show wR _ _ _ = wR _ _ _; congr; funext w μ4; rw [wR_bind]; rfl
  | false => rfl
theorem wS_aug {P : Po} (g : Int → Int → Int) (i : Nat) (me : ME) : wS (maug g i me) δ μ P = wE (mvar i) δ μ (fun x _ => qI x fun x => wE me δ μ (fun y μ1 => qI y fun y => wG (gset i) (.int (g x y)) δ μ1 P.nx noE) (fun C w μ1 => P.er C w δ μ1)) noE := by
  unfold maug wE mvar wS
  dsimp only
  cases δ[i]? with
  | none => rfl
  | some o =>
    cases o with
    | none => rfl
    | some d =>
      cases d with
      | int x =>
        refine (wS_ofE (P := P) δ μ me _).trans ?_
        show wE me δ μ _ _ = wE me δ μ (fun y μ1 => qI y fun y => wG (gset i) (.int (g x y)) δ μ1 P.nx noE) (fun C w μ1 => P.er C w δ μ1)
        congr; funext y μ1
        cases y <;> rfl
      | _ => rfl
theorem w_while {t : MX Bool} {body : MS} {P : Po} (I : Nat → DEnv → Mem → Prop) (hs : ∀ m δ μ, I m δ μ → wE t δ μ (fun b μ1 => if b = true then wS body δ μ1 (loopP P fun δ' μ' => ∃ m', m' < m ∧ I m' δ' μ') else P.nx δ μ1) (fun C w μ1 => P.er C w δ μ1)) :
    ∀ (f m : Nat) (δ : DEnv) (μ : Mem), m < f → I m δ μ → wS (mwhile t body f) δ μ P
  | 0, _, _, _, h, _ => absurd h (by omega)
  | f + 1, m, δ, μ, h, hi => by
    have z := hs m δ μ hi
    unfold wE at z
    unfold wS mwhile
    cases et : t δ μ with
    | err C w μ1 => rw [et] at z; exact z
    | bad => rw [et] at z; exact z
    | ok b μ1 =>
      rw [et] at z
      cases b with
      | false => exact z
      | true =>
        have z : wP (body δ μ1) (loopP P fun δ' μ' => ∃ m', m' < m ∧ I m' δ' μ') := z
        dsimp only
        cases eb : body δ μ1 with
        | nx δ2 μ2 => rw [eb] at z; obtain ⟨m', hm, hi'⟩ := z; exact w_while I hs f m' δ2 μ2 (by omega) hi'
        | ct δ2 μ2 => rw [eb] at z; obtain ⟨m', hm, hi'⟩ := z; exact w_while I hs f m' δ2 μ2 (by omega) hi'
        | bk δ2 μ2 => rw [eb] at z; exact z
        | rt d μ2 => rw [eb] at z; exact z
        | err C w δ2 μ2 => rw [eb] at z; exact z
        | bad => rw [eb] at z; exact z
theorem findIdx_strs (ws : List Str) (w : Str) : (ws.map D.str).findIdx? (fun z => D.same z (.str w)) = ws.findIdx? fun z => z == w := by
  rw [List.findIdx?_map]; congr 1
theorem w_index {ws : List Str} {w : Str} {j : Nat} (h : ws.findIdx? (fun z => z == w) = some j) (Q : D → Mem → Prop) : wR (fIndex (.lst (ws.map D.str)) [.str w] μ) Q E = Q (.int (j : Nat)) μ := by
  have e : fIndex (.lst (ws.map D.str)) [.str w] μ = .ok (.int (j : Nat)) μ := by
    show (if (D.ntx (.str w) && (ws.map D.str).all D.ntx) = true then match (ws.map D.str).findIdx? (fun z => D.same z (.str w)) with | some j => Res.ok (D.int (j : Nat)) μ | none => .bad else .bad) = _
    rw [if_pos (by simp [D.ntx]), findIdx_strs, h]
  rw [e]; rfl
theorem index_at {ws : List Str} {w : Str} (h : w ∈ ws) : ∃ j, ws.findIdx? (fun z => z == w) = some j ∧ j < ws.length ∧ ws[j]? = some w := by
  cases e : ws.findIdx? fun z => z == w with
  | none => rw [List.findIdx?_eq_none_iff] at e; have := e w h; simp at this
  | some j =>
    obtain ⟨h1, h2, _⟩ := List.findIdx?_eq_some_iff_getElem.mp e
    exact ⟨j, rfl, h1, by rw [List.getElem?_eq_getElem h1]; congr 1; simpa using h2⟩
theorem w_popAt {n : Nat} {ds : List D} {i : Int} {y : D} (h : μ.cells[n]? = some (.lst ds)) (h0 : 0 ≤ i) (h1 : i < 2 ^ 63) (hy : ds[i.toNat]? = some y) (Q : D → Mem → Prop) : wR (fPopAt (.loc n) [.int i] μ) Q E = Q y (μ.set n (.lst (ds.eraseIdx i.toNat))) := by
  have hl : i.toNat < ds.length := (List.getElem?_eq_some_iff.mp hy).1
  have e : fPopAt (.loc n) [.int i] μ = .ok y (μ.set n (.lst (ds.eraseIdx i.toNat))) := by
    unfold fPopAt lcell; dsimp only; rw [h]; dsimp only
    rw [if_pos (by omega)]
    have : seqIndex? i ds.length = some i.toNat := by
      unfold seqIndex?
      first
        | (rw [if_neg (by omega)]; rw [if_pos (by omega)])
        | (simp; omega)
    rw [this]; dsimp only; rw [hy]
  rw [e]; rfl
theorem w_pop {n : Nat} {ds : List D} {y : D} (h : μ.cells[n]? = some (.lst (ds ++ [y]))) (Q : D → Mem → Prop) : wR (fPop (.loc n) [] μ) Q E = Q y (μ.set n (.lst ds)) := by
  have e : fPop (.loc n) [] μ = .ok y (μ.set n (.lst ds)) := by
    unfold fPop lcell; dsimp only; rw [h]; simp
  rw [e]; rfl
theorem wG_star (n i : Nat) (gs : MGs) (ds : List D) (Q : DEnv → Mem → Prop) : wG (gstar n i gs) (.tup ds) δ μ Q E = (n ≤ ds.length + 1 ∧ wGs gs (ds.take i ++ [.lst ((ds.drop i).take (ds.length - (n - 1)))] ++ ds.drop (ds.length - (n - 1 - i))) δ μ Q) := by
  unfold wG gstar
  show wR (if _ then _ else _) _ _ = (_ ∧ _)
  split
  · rename_i h; simp only [h, true_and]; unfold wGs; cases gs (ds.take i ++ [.lst ((ds.drop i).take (ds.length - (n - 1)))] ++ ds.drop (ds.length - (n - 1 - i))) δ μ <;> rfl
  · rename_i h; simp [wR, h]
theorem wG_unl (n : Nat) (gs : MGs) (ds : List D) (Q : DEnv → Mem → Prop) : wG (gunl n gs) (.lst ds) δ μ Q E = (ds.length = n ∧ wGs gs ds δ μ Q) := by
  unfold wG gunl
  show wR (if _ then _ else _) _ _ = (_ ∧ _)
  split
  · rename_i h; simp only [h, true_and]; unfold wGs; cases gs ds δ μ <;> rfl
  · rename_i h; simp [wR, h]
theorem wE_repN (na : MX (List D)) (mb : ME) (Q : List D → Mem → Prop) : wE (mrepN na mb) δ μ Q E = wE na δ μ (fun ds μ1 => wE mb δ μ1 (fun k μ2 => qI k fun k => (-(2 ^ 63) ≤ k ∧ k < 2 ^ 63 ∧ ds.length * k.toNat ≤ sizeLine) ∧ Q (List.replicate k.toNat ds).flatten μ2) E) E := by
  unfold mrepN; rw [wE_bind]; congr; funext ds μ1; rw [wE_bind]; congr; funext k μ2
  cases k with
  | int k => exact wR_ite _ _ _ _
  | _ => rfl
theorem w_in_tupS (x : Str) (ss : List Str) (Q : Bool → Mem → Prop) : wR (cIn (.str x) (.tup (ss.map D.str)) μ) Q E = Q (ss.any fun z => z == x) μ := by
  have e : cIn (.str x) (.tup (ss.map D.str)) μ = .ok (ss.any fun z => z == x) μ := by
    show (if (D.sc (.str x) && (ss.map D.str).all D.sc) = true then Res.ok ((ss.map D.str).any fun z => D.eqv z (.str x)) μ else _) = _
    rw [if_pos (by simp [D.sc]), List.any_map]; rfl
  rw [e]; rfl
theorem w_in2 (x a b : Str) (Q : Bool → Mem → Prop) : wR (cIn (.str x) (.tup [.str a, .str b]) μ) Q E = Q (a == x || b == x) μ := by
  refine (w_in_tupS x [a, b] Q).trans ?_
  simp
theorem w_in5 (x a b c d e : Str) (Q : Bool → Mem → Prop) : wR (cIn (.str x) (.tup [.str a, .str b, .str c, .str d, .str e]) μ) Q E = Q (a == x || (b == x || (c == x || (d == x || e == x)))) μ := by
  refine (w_in_tupS x [a, b, c, d, e] Q).trans ?_
  simp
theorem ints_in (i : Int) (xs : List Int) : ((xs.map D.int).any fun z => D.eqv z (.int i)) = decide (i ∈ xs) := by
  induction xs with
  | nil => simp
  | cons x xs ih =>
    rw [List.map_cons, List.any_cons, ih]
    have : D.eqv (.int x) (.int i) = decide (x = i) := by
      show (x == i) = _
      by_cases h : x = i <;> simp [h]
    rw [this]
    by_cases h : x = i
    · simp [h]
    · have : ¬ i = x := fun z => h z.symm
      simp [h, this]
theorem w_in_tupI (i : Int) (xs : List Int) (Q : Bool → Mem → Prop) : wR (cIn (.int i) (.tup (xs.map D.int)) μ) Q E = Q (decide (i ∈ xs)) μ := by
  have e : cIn (.int i) (.tup (xs.map D.int)) μ = .ok (decide (i ∈ xs)) μ := by
    show (if (D.sc (.int i) && (xs.map D.int).all D.sc) = true then Res.ok ((xs.map D.int).any fun z => D.eqv z (.int i)) μ else _) = _
    rw [if_pos (by simp [D.sc]), ints_in]
  rw [e]; rfl
theorem w_in_lstI (i : Int) (xs : List Int) (Q : Bool → Mem → Prop) : wR (cIn (.int i) (.lst (xs.map D.int)) μ) Q E = Q (decide (i ∈ xs)) μ := by
  have e : cIn (.int i) (.lst (xs.map D.int)) μ = .ok (decide (i ∈ xs)) μ := by
    show (if (D.sc (.int i) && (xs.map D.int).all D.sc) = true then Res.ok ((xs.map D.int).any fun z => D.eqv z (.int i)) μ else _) = _
    rw [if_pos (by simp [D.sc]), ints_in]
  rw [e]; rfl
theorem w_loopU {gd : Mem → Bool} {stp : D → Mem → Res Unit} {Q : Unit → Mem → Prop} (I : List D → Mem → Prop) (hg : ∀ ds μ, I ds μ → gd μ = true) (hs : ∀ d ds μ, I (d :: ds) μ → wR (stp d μ) (fun _ μ' => I ds μ') noE) (he : ∀ μ, I [] μ → Q () μ) :
    ∀ (ds : List D) (μ : Mem), I ds μ → wR (loopU gd stp ds μ) Q E
  | [], μ, h => by unfold loopU; rw [if_pos (hg _ _ h)]; exact he μ h
  | d :: ds, μ, h => by
    unfold loopU; rw [if_pos (hg _ _ h)]
    obtain ⟨a, μ1, e, h1⟩ := wR.of (hs d ds μ h)
    rw [e]
    exact w_loopU I hg hs he ds μ1 h1
theorem w_stp1 {n : Nat} {g : MG} {mt : MX Bool} {mk mv : ME} {d : D} {Q : Unit → Mem → Prop} (h : wG g d δ μ (fun δ1 μ1 => wE mt δ1 μ1 (fun b μ2 => if b = true then wE mk δ1 μ2 (fun k μ3 => wE mv δ1 μ3 (fun v μ4 => isDK μ4 n = true ∧ wR (setD (.loc n) k v μ4) Q noE) noE) noE else Q () μ2) noE) noE) : wR (stp1 n g mt mk mv δ d μ) Q E := by
  unfold wG at h
  obtain ⟨δ1, μ1, e1, h⟩ := wR.of h
  unfold wE at h
  obtain ⟨b, μ2, e2, h⟩ := wR.of h
  unfold stp1
  rw [e1]; dsimp only; rw [e2]
  cases b with
  | false => exact h
  | true =>
    obtain ⟨k, μ3, e3, h⟩ := wR.of h
    obtain ⟨v, μ4, e4, h⟩ := wR.of h
    dsimp only; rw [e3]; dsimp only; rw [e4]; dsimp only
    rw [if_pos h.1]; exact h.2.go fun _ _ h => h
theorem w_stp0 {n : Nat} {vs1 : List Nat} {g g1 : MG} {mt mt1 : MX Bool} {mj : MX Its0} {mk mv : ME} {d : D} {Q : Unit → Mem → Prop} (h : wG g d δ μ (fun δ1 μ1 => wE mt δ1 μ1 (fun b μ2 => if b = true then wE mj δ1 μ2 (fun it μ3 => wR (loopU it.2 (stp1 n g1 mt1 mk mv (wipeD δ1 vs1)) it.1 μ3) Q noE) noE else Q () μ2) noE) noE) : wR (stp0 n vs1 g mt mj g1 mt1 mk mv δ d μ) Q E := by
  unfold wG at h
  obtain ⟨δ1, μ1, e1, h⟩ := wR.of h
  unfold wE at h
  obtain ⟨b, μ2, e2, h⟩ := wR.of h
  unfold stp0
  rw [e1]; dsimp only; rw [e2]
  cases b with
  | false => exact h
  | true =>
    obtain ⟨k, μ3, e3, h⟩ := wR.of h
    dsimp only; rw [e3]; exact h.go fun _ _ h => h
theorem wE_dc2 (vs vs1 : List Nat) (mi : MX Its0) (g : MG) (mt : MX Bool) (mj : MX Its0) (g1 : MG) (mt1 : MX Bool) (mk mv : ME) (Q : D → Mem → Prop) : wE (mdc2 vs vs1 mi g mt mj g1 mt1 mk mv) δ μ Q E = wE mi δ μ (fun it μ1 => wR (loopU it.2 (stp0 μ1.cells.length vs1 g mt mj g1 mt1 mk mv (wipeD δ vs)) it.1 (μ1.push (.dK []))) (fun _ μ2 => Q (.loc μ1.cells.length) μ2) noE) E := by
  unfold mdc2; rw [wE_bind]; congr; funext it μ1
  show wR (match loopU it.2 (stp0 μ1.cells.length vs1 g mt mj g1 mt1 mk mv (wipeD δ vs)) it.1 (μ1.push (.dK [])) with | .ok _ μ1' => _ | _ => _) Q E = _
  cases loopU it.2 (stp0 μ1.cells.length vs1 g mt mj g1 mt1 mk mv (wipeD δ vs)) it.1 (μ1.push (.dK [])) <;> rfl
theorem wE_dc (vs : List Nat) (mi : MX Its0) (g : MG) (mt : MX Bool) (mk mv : ME) (Q : D → Mem → Prop) : wE (mdc vs mi g mt mk mv) δ μ Q E = wE mi δ μ (fun it μ1 => wR (loopU it.2 (stp1 μ1.cells.length g mt mk mv (wipeD δ vs)) it.1 (μ1.push (.dK []))) (fun _ μ2 => Q (.loc μ1.cells.length) μ2) noE) E := by
  unfold mdc; rw [wE_bind]; congr; funext it μ1
  show wR (match loopU it.2 (stp1 μ1.cells.length g mt mk mv (wipeD δ vs)) it.1 (μ1.push (.dK [])) with | .ok _ μ1' => _ | _ => _) Q E = _
  cases loopU it.2 (stp1 μ1.cells.length g mt mk mv (wipeD δ vs)) it.1 (μ1.push (.dK [])) <;> rfl
end
end Doz
end
end
section
namespace Doz
open PySem L2
theorem aput_aput {α β : Type} [DecidableEq α] (l : List (α × β)) (k : α) (a b : β) : aput (aput l k a) k b = aput l k b := by
  by_cases h : k ∈ l.map (·.1)
  · rw [aput_old h, aput_old h, aput_old (by
      rw [List.map_map]
      have e : ((fun x : α × β => x.1) ∘ fun p => if p.1 = k then (p.1, a) else p) = fun x => x.1 := by
        funext p; show (if p.1 = k then (p.1, a) else p).1 = p.1; split <;> rfl
      rw [e]; exact h), List.map_map]
    refine List.map_congr_left fun p _ => ?_
    show (if (if p.1 = k then (p.1, a) else p).1 = k then ((if p.1 = k then (p.1, a) else p).1, b) else (if p.1 = k then (p.1, a) else p)) = _
    by_cases e : p.1 = k
    · simp [e]
    · simp [e]
  · rw [aput_new h, aput_new h, aput_old (by simp)]
    rw [List.map_append]
    congr 1
    · conv => rhs; rw [← List.map_id l]
      refine List.map_congr_left fun p hp => ?_
      have hne : p.1 ≠ k := fun e => h (by rw [← e]; exact List.mem_map_of_mem (f := (·.1)) hp)
      rw [if_neg hne]; rfl
    · simp
def HS.shift (S : HS) (r : Str) (g : Int) : HS := match aget S.beds g with
  | some b => { S with beds := aput S.beds g { b with place := r, turn := S.turns + 1 }, turns := S.turns + 1 }
  | none => S
def HS.shifts (S : HS) (r : Str) (gs : List Int) : HS := gs.foldl (fun S g => S.shift r g) S
theorem shift_keys (S : HS) (r : Str) (g : Int) : (S.shift r g).beds.map (·.1) = S.beds.map (·.1) := by
  unfold HS.shift
  split
  · rename_i b e
    have hk : g ∈ S.beds.map (·.1) := List.mem_map_of_mem (f := (·.1)) (aget_some e)
    show (aput S.beds g _).map (·.1) = _
    rw [aput_old hk, List.map_map]
    refine List.map_congr_left fun p _ => ?_
    show (if p.1 = g then _ else p).1 = p.1
    split <;> rfl
  · rfl
theorem shift_rest (S : HS) (r : Str) (g : Int) : (S.shift r g).num = S.num ∧ (S.shift r g).ranks = S.ranks ∧ (S.shift r g).ends = S.ends ∧ (S.shift r g).clock = S.clock ∧ (S.shift r g).begun = S.begun ∧ (S.shift r g).log = S.log := by
  unfold HS.shift; split <;> exact ⟨rfl, rfl, rfl, rfl, rfl, rfl⟩
theorem shifts_rest (r : Str) : ∀ (gs : List Int) (S : HS), (S.shifts r gs).beds.map (·.1) = S.beds.map (·.1) ∧ (S.shifts r gs).num = S.num ∧ (S.shifts r gs).ranks = S.ranks ∧ (S.shifts r gs).ends = S.ends ∧ (S.shifts r gs).clock = S.clock ∧ (S.shifts r gs).begun = S.begun ∧ (S.shifts r gs).log = S.log
  | [], S => ⟨rfl, rfl, rfl, rfl, rfl, rfl, rfl⟩
  | g :: gs, S => by
    obtain ⟨q0, q1, q2, q3, q4, q5, q6⟩ := shifts_rest r gs (S.shift r g)
    obtain ⟨p1, p2, p3, p4, p5, p6⟩ := shift_rest S r g
    exact ⟨q0.trans (shift_keys S r g), q1.trans p1, q2.trans p2, q3.trans p3, q4.trans p4, q5.trans p5, q6.trans p6⟩
section
variable {c : Cl} {μ : Mem} {A : HA} {S : HS}
local macro_rules | `(tactic| simp_arith only [$xs,*]) => `(tactic| simp -failIfUnchanged -implicitDefEqProofs (disch := (first | (simp only [Doz.len_push, Doz.len_set]; omega) | omega | assumption)) only [↓wR_ok, ↓wR_err, ↓wE_var0, ↓wE_varS, ↓wE_C, ↓wE_op, ↓wE_cmp, ↓wE_bl, ↓qB_bl, ↓wE_asB, ↓wE_and, ↓wE_or, ↓wE_not, ↓wE_andV, ↓wE_orV, ↓wE_notV, ↓wE_if, ↓wE_nil, ↓wE_cons, ↓wE_fz, ↓wE_lc, ↓wE_tup, ↓wE_lst, ↓wE_call, ↓wE_nopart, ↓qI_int, ↓wE_part, ↓wE_slice, ↓wE_fld, ↓wE_dnew, ↓wE_iter, ↓wE_rev, ↓wE_pos, ↓wE_kws, ↓wE_noa, ↓wE_both, ↓wE_fn, ↓wE_mth, ↓qN_non, ↓wE_mk, ↓wE_meth, ↓wE_neg, ↓wE_chain, ↓wE_comp, ↓wS_nx, ↓wS_bk, ↓wS_ct, ↓wS_seq, ↓wS_drop, ↓wS_ret, ↓wS_retN, ↓wS_if, ↓wS_asg, ↓qL_loc, ↓qCl_lst, ↓wS_retFz, ↓wS_raise, ↓wS_for, ↓wS_try, ↓wG_set0, ↓wG_setS, ↓wG_then, ↓wG_sub, ↓wG_fld, ↓qT_tup, ↓wG_tup, ↓wGs_nil, ↓wGs_cons, ↓endB_nx, ↓endB_rt, ↓endB_er, ↓endB_bk, ↓endB_ct, ↓loopP_nx, ↓loopP_ct, ↓loopP_bk, ↓loopP_rt, ↓loopP_er, ↓qO_some, ↓qO_at0, ↓qO_at1, ↓qO_at2, ↓qO_at3, ↓qO_at4, ↓qO_at5, ↓w_add_int, ↓w_add_str, ↓w_add_tup, ↓w_add_lst, ↓w_sub, ↓w_mod, ↓w_div, ↓w_mul, ↓w_pow, ↓w_band, ↓w_lt, ↓w_le, ↓w_gt, ↓w_ge, ↓w_is, ↓w_isNot, ↓nonN, ↓nonI, ↓nonS, ↓nonT, ↓nonL, ↓nonLoc, ↓w_eq_int, ↓w_ne_int, ↓w_eq_str, ↓w_ne_str, ↓qIx_lst, ↓qIx_dK, ↓qIxS_dK, ↓w_ix_loc, ↓w_ix_locS, ↓w_ix_lst, ↓w_ix_tup, ↓w_ix_str, ↓qLS_0, ↓qLS_1, ↓qLS_2, ↓qLS_3, ↓qSet_lst, ↓qSet_dK, ↓qSetS_dK, ↓w_setI, ↓w_setS, ↓qF_ins, ↓w_fld, ↓qSF_ins, ↓w_setF, ↓w_len_str, ↓w_len_lst, ↓w_len_tup, ↓qLen_lst, ↓qLen_dK, ↓w_len_loc, ↓w_max, ↓w_min, ↓w_int_int, ↓w_int_bl, ↓w_str_int, ↓qDc_dK, ↓w_dict, ↓w_tuple_lst, ↓w_tuple_tup, ↓w_tuple_loc, ↓w_list_lst, ↓w_list_tup, ↓w_iter_lst, ↓w_iter_tup, ↓w_iter_str, ↓w_iter_loc, ↓w_rng1, ↓w_rng2, ↓w_sl_str, ↓w_sl_tup, ↓w_sl_lst, ↓w_append, ↓w_lclear, ↓tyS_str, ↓tyL_lst, ↓qM_loc, ↓look1, ↓wC_set, ↓wC_setn, ↓wC_push2, ↓wC_pushn, ↓wE_yes, ↓wE_revL, ↓qO_lst, ↓w_all_lst, ↓w_join_lst, ↓wE_get1, ↓wE_get2, ↓wE_pop1, ↓qO_keyI, ↓qO_keyS, ↓qIns_ins, ↓wS_faug, ↓wE_disp, ↓wE_pairs0, ↓wE_pairsC, ↓keysOf0, ↓keysOfS, ↓keysOfI, ↓wE_keys, ↓wE_sliceN, ↓wE_sortK, ↓hb_place, ↓hb_turn, ↓hb_since, ↓hb_until, ↓hb_mask, ↓hbm_meets, ↓hbm_is_over, ↓hbm_twin, ↓isi_non_int, ↓isi_non_bool, ↓isi_non_str, ↓isi_non_tuple, ↓isi_non_list, ↓isi_non_dict, ↓isi_bl_int, ↓isi_bl_bool, ↓isi_bl_str, ↓isi_bl_tuple, ↓isi_bl_list, ↓isi_bl_dict, ↓isi_int_int, ↓isi_int_bool, ↓isi_int_str, ↓isi_int_tuple, ↓isi_int_list, ↓isi_int_dict, ↓isi_str_int, ↓isi_str_bool, ↓isi_str_str, ↓isi_str_tuple, ↓isi_str_list, ↓isi_str_dict, ↓isi_tup_int, ↓isi_tup_bool, ↓isi_tup_str, ↓isi_tup_tuple, ↓isi_tup_list, ↓isi_tup_dict, ↓isi_lst_int, ↓isi_lst_bool, ↓isi_lst_str, ↓isi_lst_tuple, ↓isi_lst_list, ↓isi_lst_dict, ↓hm_look_for, ↓hm_look_awake, ↓hm_next_turn, ↓hm_lie_down, ↓hm_rise, ↓hm_is_over, ↓hm_put, ↓hm_sleep, ↓hm_wake, ↓hm_move, ↓hm_tick, ↓hm_lateness, ↓hm_nudge, ↓hm_rank, ↓hm_number, ↓hm_line, ↓hm_line_at, ↓hm_order, ↓hm_asleep, ↓hm_sleeper, ↓hm_ending, ↓hm_standing, ↓hm_now, ↓hm_log, ↓hm_who, ↓hm_filled, ↓hm_twin, ↓hf_numbers, ↓hf_beds, ↓hf_ranks, ↓hf_endings, ↓hf_clock, ↓hf_turns, ↓hf_begun, ↓hf_entries, ↓wE_chainV, ↓wS_aug, ↓wG_unl, ↓wE_repN, ↓wE_dc2, ↓wE_dc, ↓w_in2, ↓w_in5, decide_eq_true_eq, beq_iff_eq, Bool.not_eq_true', Bool.not_eq_eq_eq_not, Bool.not_true, Bool.not_false, decide_eq_false_iff_not, beq_eq_false_iff_ne, ne_eq, true_and, and_true, if_true, if_false, ite_true, ite_false, reduceIte, Bool.false_eq_true, not_false_eq_true, not_true_eq_false, Int.reduceLT, Int.reduceLE, Int.reduceToNat, Nat.reduceLT, Nat.reduceLeDiff, Int.reducePow, Nat.reduceAdd, Int.reduceAdd, Int.reduceMul, Int.reduceSub, Int.reduceNeg, Nat.reducePow, Int.reduceEq, Nat.reduceEqDiff, List.length_cons, List.length_nil, PySem.sizeLine_eq, str_len_app, str_len_one, wipeD, List.set_cons_zero, List.set_cons_succ, $xs,*])
theorem shift_ok {P : Po} {g : Int} {b : BedS} {r : Str} {x1 x3 x4 x5 x6 x7 x8 : Option D} (h : HallAt c μ A S) (hb : aget S.beds g = some b)
    (hP : ∀ μ', HallTo c μ A S μ' (S.shift r g) → P.nx [some (.loc A.a), x1, some (.str r), x3, x4, x5, x6, x7, x8, some (.int g)] μ') :
    wS (mseq (masg (mvar 2) (gfld [c.n_Bed] ("place" : Str) (mop fIx (mfld ("beds" : Str) (mvar 0)) (mvar 9))))
      (masg (mmth ("next_turn" : Str) 0 0 (fun C => List.lookup C [(c.n_Hall, fun x ds ez μ => m_n_Hall_next_turn c ((fun ds _ => ds) (x :: ds) ez) μ)]) (mvar 0) mnoa) (gfld [c.n_Bed] ("turn" : Str) (mop fIx (mfld ("beds" : Str) (mvar 0)) (mvar 9))))) [some (.loc A.a), x1, some (.str r), x3, x4, x5, x6, x7, x8, some (.int g)] μ P := by
  have kg : ∀ (S : HS) (b : BedS), aget S.beds g = some b → kget (encI (fun b : BedS => D.loc b.at_) S.beds) (.inl g) = some (.loc b.at_) := fun S b hb => by rw [encI_get, hb]; rfl
  refine wS_cut (fun δ' μ' => δ' = [some (.loc A.a), x1, some (.str r), x3, x4, x5, x6, x7, x8, some (.int g)] ∧ HallTo c μ A S μ' { S with beds := aput S.beds g { b with place := r } }) ?_ ?_
  · simp_arith only [↓wC_of h.hh, ↓wC_of h.hB, ↓qO_of (kg S b hb), ↓wC_of (h.hb (g, b) (aget_some hb)), ph_place, bl5, bs_place]
    exact ⟨by simp, upd_bed (b' := { b with place := r }) h hb rfl⟩
  rintro _ μ1 ⟨rfl, t1⟩
  generalize hS1 : ({ S with beds := aput S.beds g { b with place := r } } : HS) = S1 at *
  have hb1 : aget S1.beds g = some { b with place := r } := by rw [← hS1]; show aget (aput S.beds g _) g = _; rw [aget_put, if_pos rfl]
  simp_arith only [↓wC_of t1.h.hh]
  refine (next_turn_ok t1.h).go ?_
  rintro _ μ2 ⟨rfl, _, t2⟩
  have hb2 : aget ({ S1 with turns := S1.turns + 1 } : HS).beds g = some { b with place := r } := hb1
  simp_arith only [↓wC_of t2.h.hh, ↓wC_of t2.h.hB, ↓qO_of (kg _ _ hb2), ↓wC_of (t2.h.hb (g, { b with place := r }) (aget_some hb2)), ph_turn, bl5, bs_turn]
  refine ⟨by simp, ?_⟩
  have t3 := upd_bed (b' := { b with place := r, turn := S1.turns + 1 }) t2.h hb2 rfl
  have t := (t1.trans t2).trans t3
  have e : ({ ({ S1 with turns := S1.turns + 1 } : HS) with beds := aput ({ S1 with turns := S1.turns + 1 } : HS).beds g { b with place := r, turn := S1.turns + 1 } } : HS) = S.shift r g := by
    unfold HS.shift
    rw [hb, ← hS1]
    show ({ S with beds := aput (aput S.beds g _) g _, turns := S.turns + 1 } : HS) = _
    rw [aput_aput]
  rw [e] at t
  exact hP _ t
theorem cutD_mid {α : Type} (xs : List α) {i j : Int} (hi : 0 ≤ i) (hj : 0 ≤ j) : cutD xs (some i) (some (i + j)) = (xs.drop i.toNat).take j.toNat := by
  obtain ⟨m, rfl⟩ := Int.eq_ofNat_of_zero_le hi
  obtain ⟨n, rfl⟩ := Int.eq_ofNat_of_zero_le hj
  have e : ((m : Int) + (n : Int)) = ((m + n : Nat) : Int) := by omega
  unfold cutD
  rw [e, HT.sIx_nat, HT.sIx_nat, Int.toNat_natCast, Int.toNat_natCast]
  by_cases h : m ≤ xs.length
  · rw [Nat.min_eq_left h]
    by_cases h2 : m + n ≤ xs.length
    · rw [Nat.min_eq_left h2]; congr 1; omega
    · rw [Nat.min_eq_right (by omega), List.take_of_length_le (by simp), List.take_of_length_le (by simp; omega)]
  · have e1 : min m xs.length = xs.length := by omega
    rw [e1, List.drop_of_length_le (Nat.le_refl _), List.drop_of_length_le (show xs.length ≤ m by omega)]; simp
end
end Doz
end
section
open PySem L2 Doz
local macro_rules | `(tactic| simp_arith only [$xs,*]) => `(tactic| simp -failIfUnchanged -implicitDefEqProofs (disch := (first | (simp only [Doz.len_push, Doz.len_set]; omega) | omega | assumption)) only [↓wR_ok, ↓wR_err, ↓wE_var0, ↓wE_varS, ↓wE_C, ↓wE_op, ↓wE_cmp, ↓wE_bl, ↓qB_bl, ↓wE_asB, ↓wE_and, ↓wE_or, ↓wE_not, ↓wE_andV, ↓wE_orV, ↓wE_notV, ↓wE_if, ↓wE_nil, ↓wE_cons, ↓wE_fz, ↓wE_lc, ↓wE_tup, ↓wE_lst, ↓wE_call, ↓wE_nopart, ↓qI_int, ↓wE_part, ↓wE_slice, ↓wE_fld, ↓wE_dnew, ↓wE_iter, ↓wE_rev, ↓wE_pos, ↓wE_kws, ↓wE_noa, ↓wE_both, ↓wE_fn, ↓wE_mth, ↓qN_non, ↓wE_mk, ↓wE_meth, ↓wE_neg, ↓wE_chain, ↓wE_comp, ↓wS_nx, ↓wS_bk, ↓wS_ct, ↓wS_seq, ↓wS_drop, ↓wS_ret, ↓wS_retN, ↓wS_if, ↓wS_asg, ↓qL_loc, ↓qCl_lst, ↓wS_retFz, ↓wS_raise, ↓wS_for, ↓wS_try, ↓wG_set0, ↓wG_setS, ↓wG_then, ↓wG_sub, ↓wG_fld, ↓qT_tup, ↓wG_tup, ↓wGs_nil, ↓wGs_cons, ↓endB_nx, ↓endB_rt, ↓endB_er, ↓endB_bk, ↓endB_ct, ↓loopP_nx, ↓loopP_ct, ↓loopP_bk, ↓loopP_rt, ↓loopP_er, ↓qO_some, ↓qO_at0, ↓qO_at1, ↓qO_at2, ↓qO_at3, ↓qO_at4, ↓qO_at5, ↓w_add_int, ↓w_add_str, ↓w_add_tup, ↓w_add_lst, ↓w_sub, ↓w_mod, ↓w_div, ↓w_mul, ↓w_pow, ↓w_band, ↓w_lt, ↓w_le, ↓w_gt, ↓w_ge, ↓w_is, ↓w_isNot, ↓nonN, ↓nonI, ↓nonS, ↓nonT, ↓nonL, ↓nonLoc, ↓w_eq_int, ↓w_ne_int, ↓w_eq_str, ↓w_ne_str, ↓qIx_lst, ↓qIx_dK, ↓qIxS_dK, ↓w_ix_loc, ↓w_ix_locS, ↓w_ix_lst, ↓w_ix_tup, ↓w_ix_str, ↓qLS_0, ↓qLS_1, ↓qLS_2, ↓qLS_3, ↓qSet_lst, ↓qSet_dK, ↓qSetS_dK, ↓w_setI, ↓w_setS, ↓qF_ins, ↓w_fld, ↓qSF_ins, ↓w_setF, ↓w_len_str, ↓w_len_lst, ↓w_len_tup, ↓qLen_lst, ↓qLen_dK, ↓w_len_loc, ↓w_max, ↓w_min, ↓w_int_int, ↓w_int_bl, ↓w_str_int, ↓qDc_dK, ↓w_dict, ↓w_tuple_lst, ↓w_tuple_tup, ↓w_tuple_loc, ↓w_list_lst, ↓w_list_tup, ↓w_iter_lst, ↓w_iter_tup, ↓w_iter_str, ↓w_iter_loc, ↓w_rng1, ↓w_rng2, ↓w_sl_str, ↓w_sl_tup, ↓w_sl_lst, ↓w_append, ↓w_lclear, ↓tyS_str, ↓tyL_lst, ↓qM_loc, ↓look1, ↓wC_set, ↓wC_setn, ↓wC_push2, ↓wC_pushn, ↓wE_yes, ↓wE_revL, ↓qO_lst, ↓w_all_lst, ↓w_join_lst, ↓wE_get1, ↓wE_get2, ↓wE_pop1, ↓qO_keyI, ↓qO_keyS, ↓qIns_ins, ↓wS_faug, ↓wE_disp, ↓wE_pairs0, ↓wE_pairsC, ↓keysOf0, ↓keysOfS, ↓keysOfI, ↓wE_keys, ↓wE_sliceN, ↓wE_sortK, ↓hb_place, ↓hb_turn, ↓hb_since, ↓hb_until, ↓hb_mask, ↓hbm_meets, ↓hbm_is_over, ↓hbm_twin, ↓isi_non_int, ↓isi_non_bool, ↓isi_non_str, ↓isi_non_tuple, ↓isi_non_list, ↓isi_non_dict, ↓isi_bl_int, ↓isi_bl_bool, ↓isi_bl_str, ↓isi_bl_tuple, ↓isi_bl_list, ↓isi_bl_dict, ↓isi_int_int, ↓isi_int_bool, ↓isi_int_str, ↓isi_int_tuple, ↓isi_int_list, ↓isi_int_dict, ↓isi_str_int, ↓isi_str_bool, ↓isi_str_str, ↓isi_str_tuple, ↓isi_str_list, ↓isi_str_dict, ↓isi_tup_int, ↓isi_tup_bool, ↓isi_tup_str, ↓isi_tup_tuple, ↓isi_tup_list, ↓isi_tup_dict, ↓isi_lst_int, ↓isi_lst_bool, ↓isi_lst_str, ↓isi_lst_tuple, ↓isi_lst_list, ↓isi_lst_dict, ↓hm_look_for, ↓hm_look_awake, ↓hm_next_turn, ↓hm_lie_down, ↓hm_rise, ↓hm_is_over, ↓hm_put, ↓hm_sleep, ↓hm_wake, ↓hm_move, ↓hm_tick, ↓hm_lateness, ↓hm_nudge, ↓hm_rank, ↓hm_number, ↓hm_line, ↓hm_line_at, ↓hm_order, ↓hm_asleep, ↓hm_sleeper, ↓hm_ending, ↓hm_standing, ↓hm_now, ↓hm_log, ↓hm_who, ↓hm_filled, ↓hm_twin, ↓hf_numbers, ↓hf_beds, ↓hf_ranks, ↓hf_endings, ↓hf_clock, ↓hf_turns, ↓hf_begun, ↓hf_entries, ↓wE_chainV, ↓wS_aug, ↓wG_unl, ↓wE_repN, ↓wE_dc2, ↓wE_dc, ↓w_in2, ↓w_in5, decide_eq_true_eq, beq_iff_eq, Bool.not_eq_true', Bool.not_eq_eq_eq_not, Bool.not_true, Bool.not_false, decide_eq_false_iff_not, beq_eq_false_iff_ne, ne_eq, true_and, and_true, if_true, if_false, ite_true, ite_false, reduceIte, Bool.false_eq_true, not_false_eq_true, not_true_eq_false, Int.reduceLT, Int.reduceLE, Int.reduceToNat, Nat.reduceLT, Nat.reduceLeDiff, Int.reducePow, Nat.reduceAdd, Int.reduceAdd, Int.reduceMul, Int.reduceSub, Int.reduceNeg, Nat.reducePow, Int.reduceEq, Nat.reduceEqDiff, List.length_cons, List.length_nil, PySem.sizeLine_eq, str_len_app, str_len_one, wipeD, List.set_cons_zero, List.set_cons_succ, $xs,*])
section
namespace Doz
open PySem L2
section
variable {c : Cl} {μ : Mem} {A : HA} {S : HS}
def HS.wokenL (S : HS) (r : Str) (w : Int) : List (Int × BedS) := (S.lineB r).take w.toNat
def HS.movedL (S : HS) (r : Str) (w m : Int) : List (Int × BedS) := ((S.lineB r).drop w.toNat).take m.toNat
abbrev gD1 (l : List (Int × BedS)) : List D := l.map fun p => D.int p.1
def HS.moved (S : HS) (r o : Str) (w m : Int) : HS := (S.rises ((S.wokenL r w).map (·.1)) "woken").shifts o ((S.movedL r w m).map (·.1))
def HS.move (S : HS) (r o : Str) (st : Option Int) (w m : Int) : HS := (S.moved r o w m).logged (.tup [.str "move", .str r, .str o, oI st, .int w, .int m, .tup [.tup (gD1 (S.wokenL r w)), .tup (gD1 (S.movedL r w m))]])
theorem w_ifT {t : MX Bool} {a b : MS} {δ : DEnv} {μ : Mem} {P : Po} (ht : wE t δ μ (fun b μ' => b = true ∧ μ' = μ) noE) (ha : wS a δ μ P) : wS (mifS t a b) δ μ P := by
  rw [wS_if]
  refine wR.go (show wR (t δ μ) _ noE from ht) ?_
  rintro _ _ ⟨rfl, rfl⟩
  rw [if_pos rfl]; exact ha
theorem move_in (h : HallAt c μ A S) {r o : Str} (hr : r ∈ S.num.map (·.1)) (ho : o ∈ S.num.map (·.1)) (hne : r ≠ o) {w m : Int} (hw : 0 ≤ w) (hm : 0 ≤ m) {st : Option Int} (hst : st = none ∨ aget S.num r = st) {n : Nat} (hz : S.Sz n) (hn : n < 1000000) :
    wR (m_n_Hall_move c [.loc A.a, .str r, .str o, oI st, .int w, .int m] μ) (fun d μ' => ∃ l1 l2, d = .tup [.loc l1, .loc l2] ∧ μ.cells.length ≤ l1 ∧ l1 < l2 ∧ l1 ∉ foot A (S.move r o st w m) ∧ l2 ∉ foot A (S.move r o st w m) ∧ μ'.cells[l1]? = some (.lst (gD1 (S.wokenL r w))) ∧ μ'.cells[l2]? = some (.lst (gD1 (S.movedL r w m))) ∧ HallTo c μ A S μ' (S.move r o st w m)) noE := by
  obtain ⟨z1, z2, z3, z4⟩ := hz
  unfold m_n_Hall_move
  rw [w_run]
  show wS (t_n_Hall_move c) [some (.loc A.a), some (.str r), some (.str o), some (oI st), some (.int w), some (.int m), none, none, none, none] μ _
  unfold t_n_Hall_move
  generalize hδ : ([some (.loc A.a), some (.str r), some (.str o), some (oI st), some (.int w), some (.int m), none, none, none, none] : DEnv) = δ0
  refine wS_cut (fun δ μ' => δ = [some (.loc A.a), some (.str r), some (.str o), some (oI st), some (.int w), some (.int m), none, none, none, none] ∧ μ' = μ) ?_ ?_
  · subst hδ
    simp_arith only [↓wC_of h.hh]
    refine (look_for_ok h r).imp2 ?_ (fun _ _ _ z => absurd hr z.2.2.2)
    rintro _ _ ⟨rfl, e0, _⟩
    exact e0
  rintro δ1 _ ⟨e1, e0⟩
  replace e0 := e0.symm
  subst e0
  refine wS_cut (fun δ μ' => δ = [some (.loc A.a), some (.str r), some (.str o), some (oI st), some (.int w), some (.int m), none, none, none, none] ∧ μ' = μ) ?_ ?_
  · subst e1
    simp_arith only [↓wC_of h.hh]
    refine (look_for_ok h o).imp2 ?_ (fun _ _ _ z => absurd ho z.2.2.2)
    rintro _ _ ⟨rfl, e0, _⟩
    exact e0
  rintro δ2 _ ⟨e2, e0⟩
  replace e0 := e0.symm
  subst e0
  refine wS_cut (fun δ μ' => δ = [some (.loc A.a), some (.str r), some (.str o), some (oI st), some (.int w), some (.int m), none, none, none, none] ∧ μ' = μ) ?_ ?_
  · subst e2
    have hb : (r == o) = false := by simpa using hne
    simp_arith only [hb]
  rintro δ3 _ ⟨e3, e0⟩
  replace e0 := e0.symm
  subst e0
  refine wS_cut (fun δ μ' => δ = [some (.loc A.a), some (.str r), some (.str o), some (oI st), some (.int w), some (.int m), none, none, none, none] ∧ μ' = μ) ?_ ?_
  · subst e3
    simp_arith only [id_eq]
    refine (counts_in (cs := [w, m]) (ms := []) (by intro x hx; simp at hx; rcases hx with rfl | rfl <;> assumption) (by simp)).go ?_
    rintro _ _ ⟨_, e0⟩
    exact e0
  rintro δ4 _ ⟨e4, e0⟩
  replace e0 := e0.symm
  subst e0
  refine wS_cut (fun δ μ' => δ = [some (.loc A.a), some (.str r), some (.str o), some (oI st), some (.int w), some (.int m), some .non, some .non, none, none] ∧ μ' = μ) ?_ ?_
  · subst e4
    simp_arith only [id_eq]
  rintro δ5 _ ⟨e5, e0⟩
  replace e0 := e0.symm
  subst e0
  refine wS_cut (fun δ μ' => ∃ l1 l2 x8 x9, δ = [some (.loc A.a), some (.str r), some (.str o), some (oI st), some (.int w), some (.int m), some (.tup [.loc l1, .loc l2]), some (.tup [.tup (gD1 (S.wokenL r w)), .tup (gD1 (S.movedL r w m))]), x8, x9] ∧ μ.cells.length ≤ l1 ∧ l1 < l2 ∧ l1 ∉ foot A (S.moved r o w m) ∧ l2 ∉ foot A (S.moved r o w m) ∧ μ'.cells[l1]? = some (.lst (gD1 (S.wokenL r w))) ∧ μ'.cells[l2]? = some (.lst (gD1 (S.movedL r w m))) ∧ HallTo c μ A S μ' (S.moved r o w m)) ?_ ?_
  · refine w_ifT ?_ ?_
    · subst e5
      obtain ⟨v, hv⟩ : ∃ v, aget S.num r = some v := by
        cases hx : aget S.num r with
        | some v => exact ⟨v, rfl⟩
        | none => exact absurd hr (aget_none.mp hx)
      cases st with
      | none =>
        simp_arith only [oI]
      | some x =>
        have hx : v = x := by rcases hst with z | z; cases z; rw [hv] at z; exact Option.some.inj z
        subst hx
        simp_arith only [oI, ↓wC_of h.hh, ↓wC_of h.hN, ↓qO_of (show kget (encS D.int S.num) (.inr r) = some (.int v) by rw [encS_get, hv]; rfl), beq_self_eq_true]
    have e1 : (S.line r).map D.int = gD1 (S.lineB r) := by simp [HS.line, Function.comp_def]
    refine wS_cut (fun δ μ' => ∃ k, k = μ.cells.length ∧ δ = [some (.loc A.a), some (.str r), some (.str o), some (oI st), some (.int w), some (.int m), some .non, some .non, some (.loc k), none] ∧ μ' = μ.push (.lst (gD1 (S.lineB r)))) ?_ ?_
    · subst e5
      simp_arith only [↓wC_of h.hh]
      refine (line_ok h hr (by omega)).go ?_
      rintro _ μ1 ⟨rfl, rfl⟩
      rw [e1]
      exact ⟨_, rfl, rfl, rfl⟩
    rintro δ6 μ6 ⟨k, hk, e6, hμ6⟩
    have f6 : Fr [] μ μ6 := by rw [hμ6]; exact Fr.push [] _ _
    have hc6 : μ6.cells[k]? = some (.lst (gD1 (S.lineB r))) := by rw [hμ6, hk]; exact at_push
    have len6 : μ6.cells.length = μ.cells.length + 1 := by rw [hμ6, len_push]
    have ew : cutD (gD1 (S.lineB r)) none (some w) = gD1 (S.wokenL r w) := by unfold gD1; rw [cutD_to _ hw, HS.wokenL, List.map_take]
    have em : cutD (gD1 (S.lineB r)) (some w) (some (w + m)) = gD1 (S.movedL r w m) := by unfold gD1; rw [cutD_mid _ hw hm, HS.movedL, List.map_take, List.map_drop]
    refine wS_cut (fun δ μ' => ∃ l1 l2, l1 = μ6.cells.length ∧ l2 = μ6.cells.length + 1 ∧ δ = [some (.loc A.a), some (.str r), some (.str o), some (oI st), some (.int w), some (.int m), some (.tup [.loc l1, .loc l2]), some .non, some (.loc k), none] ∧ μ'.cells[l1]? = some (.lst (gD1 (S.wokenL r w))) ∧ μ'.cells[l2]? = some (.lst (gD1 (S.movedL r w m))) ∧ μ'.cells.length = μ6.cells.length + 2 ∧ Fr [] μ μ') ?_ ?_
    · have hc6' : (μ6.push (.lst (cutD (gD1 (S.lineB r)) none (some w)))).cells[k]? = some (.lst (gD1 (S.lineB r))) := at_push_of hc6
      subst e6
      simp_arith only [↓qO_of (lstOf_loc hc6), ↓qO_of (lstOf_loc hc6')]
      rw [ew, em]
      refine ⟨_, _, rfl, rfl, by rw [len_push], at_push_of at_push, ?_, by rw [len_push, len_push], f6.trans ((Fr.push [] _ _).trans (Fr.push [] _ _))⟩
      rw [← len_push (μ := μ6) (c := .lst (gD1 (S.wokenL r w)))]; exact at_push
    rintro δ7 μ7 ⟨l1, l2, hl1, hl2, e7, c1, c2, len7, f7⟩
    have h7 := h.fr f7 (by simp)
    have t7 : HallTo c μ A S μ7 S := ⟨h7, f7.mono (by simp), fun k hk => .inl hk⟩
    have hN1 : ∀ {S' : HS} {μ' : Mem}, HallTo c μ7 A S μ' S' → l1 ∉ foot A S' := fun t hk => (t.new _ hk).elim (fun z => by have := h.lt z; omega) (fun z => by omega)
    have hN2 : ∀ {S' : HS} {μ' : Mem}, HallTo c μ7 A S μ' S' → l2 ∉ foot A S' := fun t hk => (t.new _ hk).elim (fun z => by have := h.lt z; omega) (fun z => by omega)
    have hN1' : l1 ∉ foot A S := fun z => by have := h.lt z; omega
    have hN2' : l2 ∉ foot A S := fun z => by have := h.lt z; omega
    refine wS_cut (fun δ μ' => δ = [some (.loc A.a), some (.str r), some (.str o), some (oI st), some (.int w), some (.int m), some (.tup [.loc l1, .loc l2]), some (.tup [.tup (gD1 (S.wokenL r w)), .tup (gD1 (S.movedL r w m))]), some (.loc k), none] ∧ μ' = μ7) ?_ ?_
    · subst e7
      simp_arith only [↓wC_of c1, ↓wC_of c2]
    rintro δ8 μ8 ⟨e8, e0⟩
    replace e0 := e0.symm
    subst e0
    have ll := lineB_len (S := S) r
    have hWs : List.Sublist (S.wokenL r w) (S.lineB r) := List.take_sublist _ _
    have hMs : List.Sublist (S.movedL r w m) (S.lineB r) := (List.take_sublist _ _).trans (List.drop_sublist _ _)
    have hnd : ((S.wokenL r w ++ S.movedL r w m).map (·.1)).Nodup := by
      have hs : List.Sublist (S.wokenL r w ++ S.movedL r w m) (S.lineB r) := by
        conv => rhs; rw [← List.take_append_drop w.toNat (S.lineB r)]
        exact List.Sublist.append (List.Sublist.refl _) (List.take_sublist _ _)
      exact (lineB_nodup h.nB r).sublist (hs.map _)
    have hinW : ∀ p ∈ S.wokenL r w, p.1 ∈ S.beds.map (·.1) := fun p hp => List.mem_map_of_mem (f := (·.1)) (lineB_mem (hWs.subset hp)).1
    have hinM : ∀ p ∈ S.movedL r w m, p.1 ∈ S.beds.map (·.1) := fun p hp => List.mem_map_of_mem (f := (·.1)) (lineB_mem (hMs.subset hp)).1
    have hwl : (S.wokenL r w).length ≤ n := Nat.le_trans hWs.length_le (by omega)
    unfold HS.moved
    generalize hW : S.wokenL r w = W at *
    generalize hM : S.movedL r w m = M at *
    refine wS_cut (fun δ μ' => ∃ x9, δ = [some (.loc A.a), some (.str r), some (.str o), some (oI st), some (.int w), some (.int m), some (.tup [.loc l1, .loc l2]), some (.tup [.tup (gD1 W), .tup (gD1 M)]), some (.loc k), x9] ∧ HallTo c μ7 A S μ' (S.rises (W.map (·.1)) "woken")) ?_ ?_
    · subst e8
      simp_arith only [id_eq]
      refine w_loopM (f := fun p : Int × BedS => D.int p.1) (fun rest δ μ' => ∃ (pre : List (Int × BedS)) (x9 : Option D), W = pre ++ rest ∧ δ = [some (.loc A.a), some (.str r), some (.str o), some (oI st), some (.int w), some (.int m), some (.tup [.loc l1, .loc l2]), some (.tup [.tup (gD1 W), .tup (gD1 M)]), some (.loc k), x9]
        ∧ HallTo c μ7 A S μ' (S.rises (pre.map (·.1)) "woken") ∧ (S.rises (pre.map (·.1)) "woken").ends.length ≤ n + pre.length ∧ (∀ p ∈ rest, p.1 ∈ (S.rises (pre.map (·.1)) "woken").beds.map (·.1))) (fun _ _ _ _ => rfl)
        ?_ ?_ W _ _ ⟨[], none, rfl, rfl, HallTo.refl h7, by simpa [HS.rises] using z3, by simpa [HS.rises] using hinW⟩
      · rintro p rest δ μ3 ⟨pre, x9, e, rfl, t, hl, hi⟩
        have hpl : pre.length < n + 1 := by have := congrArg List.length e; simp at this; omega
        simp_arith only [↓wC_of t.h.hh]
        refine (rise_ok t.h (hi p (by simp)) "woken" (by omega)).go ?_
        rintro _ μ4 ⟨rfl, t4⟩
        have er : S.rises ((pre ++ [p]).map (·.1)) "woken" = (S.rises (pre.map (·.1)) "woken").rise p.1 "woken" := by simp [HS.rises, List.foldl_append]
        refine ⟨pre ++ [p], _, by simp [e], rfl, ?_, ?_, ?_⟩
        · rw [er]; exact t.trans t4
        · rw [er]
          have := aput_len (S.rises (pre.map (·.1)) "woken").ends p.1 "woken"
          simp [HS.rise]; omega
        · intro q hq
          rw [er]
          show q.1 ∈ (adrop _ _).map (·.1)
          rw [adrop_keys]
          refine List.mem_filter.mpr ⟨hi q (by simp [hq]), ?_⟩
          rw [List.map_append] at hnd
          have hnd := (List.nodup_append.mp hnd).1
          rw [e] at hnd
          simp only [List.map_append, List.map_cons] at hnd
          have := (List.nodup_append.mp hnd).2.1
          simp only [List.nodup_cons] at this
          simp only [decide_eq_true_eq]
          exact fun z => this.1 (z ▸ List.mem_map_of_mem (f := (·.1)) hq)
      · rintro δ μ3 ⟨pre, x9, e, rfl, t, hl, hi⟩
        rw [List.append_nil] at e
        subst e
        exact ⟨x9, rfl, t⟩
    rintro δ9 μ9 ⟨x9, e9, t9⟩
    have hkeys : ∀ p ∈ M, p.1 ∈ (S.rises (W.map (·.1)) "woken").beds.map (·.1) := fun p hp => by
      obtain ⟨q, hq, eq⟩ := List.mem_map.mp (hinM p hp)
      rw [(rises_eq S "woken" (W.map (·.1))).1]
      refine List.mem_map.mpr ⟨q, List.mem_filter.mpr ⟨hq, ?_⟩, eq⟩
      rw [List.map_append] at hnd
      have hd := (List.nodup_append.mp hnd).2.2
      simp only [Bool.not_eq_true', decide_eq_false_iff_not]
      intro hx
      exact hd _ hx _ (List.mem_map_of_mem (f := (·.1)) hp) eq
    generalize hS9 : S.rises (W.map (·.1)) "woken" = S9 at *
    subst e9
    simp_arith only [id_eq]
    refine w_loopM (f := fun p : Int × BedS => D.int p.1) (fun rest δ μ' => ∃ (pre : List (Int × BedS)) (x9 : Option D), M = pre ++ rest ∧ δ = [some (.loc A.a), some (.str r), some (.str o), some (oI st), some (.int w), some (.int m), some (.tup [.loc l1, .loc l2]), some (.tup [.tup (gD1 W), .tup (gD1 M)]), some (.loc k), x9]
        ∧ HallTo c μ7 A S μ' (S9.shifts o (pre.map (·.1)))) (fun _ _ _ _ => rfl)
        ?_ ?_ M _ _ ⟨[], x9, rfl, rfl, t9⟩
    · rintro p rest δ μ3 ⟨pre, x9, e, rfl, t⟩
      have hk' : p.1 ∈ (S9.shifts o (pre.map (·.1))).beds.map (·.1) := by
        rw [(shifts_rest o (pre.map (·.1)) S9).1]; exact hkeys p (by rw [e]; simp)
      have hs := aget_isSome (S9.shifts o (pre.map (·.1))).beds p.1
      simp only [hk', decide_true] at hs
      obtain ⟨b, hb⟩ := Option.isSome_iff_exists.mp hs
      simp only [wG_setS, wG_set0]
      refine shift_ok t.h hb ?_
      intro μ4 t4
      have er : S9.shifts o ((pre ++ [p]).map (·.1)) = (S9.shifts o (pre.map (·.1))).shift o p.1 := by simp [HS.shifts, List.foldl_append]
      refine ⟨pre ++ [p], _, by simp [e], rfl, ?_⟩
      rw [er]; exact t.trans t4
    · rintro δ μ3 ⟨pre, x9, e, rfl, t⟩
      rw [List.append_nil] at e
      subst e
      refine ⟨l1, l2, _, _, rfl, by omega, by omega, hN1 t, hN2 t, t.f.get c1 hN1', t.f.get c2 hN2', t7.trans t⟩
  rintro δ10 μ10 ⟨l1, l2, x8, x9, e10, hl1, hl2, n1, n2, c1, c2, t⟩
  have lL : (S.moved r o w m).log.length < 16777216 := by
    have e1 := (rises_eq S "woken" ((S.wokenL r w).map (·.1))).2.2.2.2
    have e2 := (shifts_rest o ((S.movedL r w m).map (·.1)) (S.rises ((S.wokenL r w).map (·.1)) "woken")).2.2.2.2.2.2
    have e3 : (S.moved r o w m).log = S.log := e2.trans e1.1
    rw [e3]; omega
  have t4 := upd_log t.h ((S.moved r o w m).log ++ [.tup [.str "move", .str r, .str o, oI st, .int w, .int m, .tup [.tup (gD1 (S.wokenL r w)), .tup (gD1 (S.movedL r w m))]]])
  have mf := mem_foot (A := A) (S := S.moved r o w m)
  have m1 : l1 ≠ A.aL := fun z => n1 (z ▸ mf.2.2.2.2.2)
  have m2 : l2 ≠ A.aL := fun z => n2 (z ▸ mf.2.2.2.2.2)
  have tt := t.trans t4
  subst e10
  simp_arith only [↓wC_of t.h.hh, ↓wC_of t.h.hL, tyL_of t.h.hL]
  exact ⟨lL, l1, l2, rfl, hl1, hl2, n1, n2, at_setn_of c1 m1, at_setn_of c2 m2, tt⟩
end
end Doz
end
section
namespace Doz
open PySem L2
theorem put_all {β : Type} : ∀ (l pre : List (Str × β)), ((pre ++ l).map (·.1)).Nodup → l.foldl (fun a p => aput a p.1 p.2) pre = pre ++ l
  | [], pre, _ => by simp
  | p :: l, pre, h => by
    have hp : p.1 ∉ pre.map (·.1) := by
      intro hm
      rw [List.map_append, List.nodup_append] at h
      exact h.2.2 _ hm _ (by simp) rfl
    show l.foldl _ (aput pre p.1 p.2) = _
    rw [aput_new hp, put_all l (pre ++ [(p.1, p.2)]) (by simpa using h)]
    simp
theorem merge_enc {β : Type} (g : β → D) : ∀ (l pre : List (Str × β)), kmerge (encS g pre) (encS g l) = encS g (l.foldl (fun a p => aput a p.1 p.2) pre)
  | [], pre => rfl
  | p :: l, pre => by
    show kmerge (kput (encS g pre) (.inr p.1) (g p.2)) (encS g l) = _
    rw [encS_put, merge_enc g l]; rfl
theorem pairs_enc : ∀ l : List (Str × Int), pairsOf (l.map fun p => D.tup [.str p.1, .int p.2]) = some (encS D.int l)
  | [] => rfl
  | p :: l => by
    show (match keyOf (.str p.1), pairsOf (l.map fun p => D.tup [.str p.1, .int p.2]) with | some key, some ks => some ((key, D.int p.2) :: ks) | _, _ => none) = _
    rw [pairs_enc l]; rfl
theorem w_dictP {μ : Mem} {E : EP} {l : List (Str × Int)} (h : (l.map (·.1)).Nodup) (Q : D → Mem → Prop) : wR (fDictP [.lst (l.map fun p => D.tup [.str p.1, .int p.2])] μ) Q E = Q (.loc μ.cells.length) (μ.push (.dK (encS D.int l))) := by
  have e : fDictP [.lst (l.map fun p => D.tup [.str p.1, .int p.2])] μ = .ok (.loc μ.cells.length) (μ.push (.dK (encS D.int l))) := by
    unfold fDictP lstOf; dsimp only
    rw [pairs_enc]; dsimp only
    have z := merge_enc D.int l []
    rw [put_all l [] (by simpa using h)] at z
    have z2 : kmerge [] (encS D.int l) = encS D.int l := z
    rw [z2]
  rw [e]; rfl
def lenO (T : Addr → Option MM) (d : D) (μ : Mem) : Res D := match insOf μ d with
  | some (C, _) => match T C with
    | some mm => lenR (mm d [] [] μ)
    | none => .bad
  | none => .bad
theorem wE_lenO {δ : DEnv} {μ : Mem} {E : EP} (T : Addr → Option MM) (mo : ME) (Q : D → Mem → Prop) : wE (mlenO T (mcons mo mnil)) δ μ Q E = wE mo δ μ (fun d μ1 => wR (lenO T d μ1) Q E) E := by
  unfold mlenO; rw [wE_bind, wE_cons]; rfl
section
variable {c : Cl} {μ : Mem} {A : HA} {S : HS}
theorem hall_len (h : HallAt c μ A S) : wR (m_n_Halldd_lendd c [.loc A.a] μ) (fun v μ' => v = .int S.beds.length ∧ μ' = μ) noE := by
  unfold m_n_Halldd_lendd
  rw [w_run]
  show wS (t_n_Halldd_lendd c) [some (.loc A.a)] μ _
  unfold t_n_Halldd_lendd
  simp_arith only [↓wC_of h.hh, ↓wC_of h.hB, enc_len]
theorem len_hall (h : HallAt c μ A S) (hl : S.beds.length < 64) (Q : D → Mem → Prop) (E : EP) (hq : Q (.int S.beds.length) μ) :
    wR (lenO (fun C => List.lookup C [(c.n_Hall, fun x ds ez μ => m_n_Halldd_lendd c ((fun ds _ => ds) (x :: ds) ez) μ)]) (.loc A.a) μ) Q E := by
  unfold lenO
  have e1 : insOf μ (.loc A.a) = some (c.n_Hall, hallF A S) := by unfold insOf; dsimp only; rw [h.hh]
  rw [e1]; dsimp only
  have e2 : List.lookup c.n_Hall [(c.n_Hall, fun (x : D) (ds ez : List D) (μ : Mem) => m_n_Halldd_lendd c ((fun ds _ => ds) (x :: ds) ez) μ)] = some (fun (x : D) (ds ez : List D) (μ : Mem) => m_n_Halldd_lendd c ((fun ds _ => ds) (x :: ds) ez) μ) := by simp [List.lookup]
  rw [e2]; dsimp only
  unfold lenR
  rw [wR_bind]
  refine (hall_len h).go ?_
  rintro _ _ ⟨rfl, rfl⟩
  dsimp only
  rw [if_pos ⟨by omega, by omega⟩]
  exact hq
end
theorem leI_ok {α : Type} (x y : α) (a b : Int) : PySem.W.dataLe false (fun b : α × D => toPy b.2) (x, .int a) (y, .int b) = decide (a ≤ b) := by
  show (!PyProof.Rows.lexLt PyProof.Rows.itemOrd [.inl b] [.inl a]) = _
  have z : PyProof.Rows.lexLt PyProof.Rows.itemOrd [] [] = false := rfl
  by_cases h : b = a
  · subst h
    rw [lexC, z]; simp
  · rw [lexD _ _ h]
    by_cases h2 : b < a
    · simp [h2]
    · simp [h2]; omega
theorem keysOk_ints (xs : List Int) : keysOk (xs.map D.int) = true := by
  unfold keysOk
  simp only [Bool.and_eq_true]
  refine ⟨?_, ?_, ?_, ?_⟩
  · exact pures_map (fun a => rfl) xs
  · unfold alikeB
    simp [List.all_map, List.all_eq_true, toPy, PySem.W.alike]
  · unfold sortB
    simp [List.all_map, List.all_eq_true, tupB, othB]
  · rw [List.all_map, List.all_eq_true]
    intro a ha
    have z := (lay_nice 8 (.int a) rfl).2
    exact decide_eq_true (show (toPy (.int a)).depth ≤ 64 by omega)
theorem sortN_ints {μ : Mem} {d : D} {xs : List Int} (h : lstOf μ d = some (xs.map D.int)) : fSortN [d] μ = .ok ((sortInts xs).map D.int) μ := by
  unfold fSortN
  dsimp only
  rw [h]
  dsimp only
  rw [mapM_self (f := rsv μ 8) (fun d hd => by
      obtain ⟨a, ha, rfl⟩ := List.mem_map.mp hd
      exact rsv_nice μ 8 _ rfl)]
  dsimp only
  rw [if_pos (keysOk_ints xs)]
  congr 1
  unfold sortBy sortInts
  have z : (xs.map D.int).zip (xs.map D.int) = xs.map fun a => (D.int a, D.int a) := by rw [List.zip_map']
  rw [z, ← List.map_mergeSort (r := fun a b : Int => decide (a ≤ b)) (fun a _ b _ => (leI_ok _ _ _ _).symm), List.map_map]
  rfl
theorem w_sortI {μ : Mem} {xs : List Int} (Q : List D → Mem → Prop) (E : EP) : wR (fSortDN [.lst (xs.map D.int)] μ) Q E = Q ((sortInts xs).map D.int) μ := by
  have e : fSortDN [.lst (xs.map D.int)] μ = .ok ((sortInts xs).map D.int) μ := by
    show fSortN [.lst (xs.map D.int)] μ = _
    exact sortN_ints rfl
  rw [e]; rfl
theorem w_sortIL {μ : Mem} {n : Nat} {xs : List Int} (h : μ.cells[n]? = some (.lst (xs.map D.int))) (Q : List D → Mem → Prop) (E : EP) : wR (fSortDN [.loc n] μ) Q E = Q ((sortInts xs).map D.int) μ := by
  have e : fSortDN [.loc n] μ = .ok ((sortInts xs).map D.int) μ := by
    have e1 : dictOf μ (.loc n) = none := by unfold dictOf; dsimp only; rw [h]
    show (match dictOf μ (.loc n) with | some kds => _ | none => fSortN [.loc n] μ) = _
    rw [e1]; exact sortN_ints (lstOf_loc h)
  rw [e]; rfl
structure GL (μ : Mem) (d : Nat) (at_ : Int → Nat) (f : BedS → List D) (bs : List (Int × BedS)) : Prop where
  hd : μ.cells[d]? = some (.dK (encI D.loc (bs.map fun p => (p.1, at_ p.1))))
  hc : ∀ p ∈ bs, μ.cells[at_ p.1]? = some (.lst (f p.2))
  nd : ∀ p ∈ bs, at_ p.1 ≠ d
  inj : ∀ p ∈ bs, ∀ q ∈ bs, at_ p.1 = at_ q.1 → p.1 = q.1
  key : (bs.map (·.1)).Nodup
def glf (d : Nat) (at_ : Int → Nat) (bs : List (Int × BedS)) : List Nat := d :: bs.map fun p => at_ p.1
section
variable {μ μ' : Mem} {d : Nat} {at_ : Int → Nat} {f : BedS → List D} {bs : List (Int × BedS)}
theorem glf_d : d ∈ glf d at_ bs := by simp [glf]
theorem glf_m {p : Int × BedS} (h : p ∈ bs) : at_ p.1 ∈ glf d at_ bs := List.mem_cons_of_mem _ (List.mem_map_of_mem (f := fun p : Int × BedS => at_ p.1) h)
theorem GL.lt (h : GL μ d at_ f bs) {k : Nat} (hk : k ∈ glf d at_ bs) : k < μ.cells.length := by
  rcases List.mem_cons.mp hk with rfl | hk
  · exact at_lt h.hd
  · obtain ⟨p, hp, rfl⟩ := List.mem_map.mp hk
    exact at_lt (h.hc p hp)
theorem GL.fr {F : List Nat} (h : GL μ d at_ f bs) (fr : Fr F μ μ') (hn : ∀ k ∈ glf d at_ bs, k ∉ F) : GL μ' d at_ f bs :=
  ⟨fr.get h.hd (hn _ glf_d), fun p hp => fr.get (h.hc p hp) (hn _ (glf_m hp)), h.nd, h.inj, h.key⟩
theorem GL.kg (h : GL μ d at_ f bs) {g : Int} {b : BedS} (hb : aget bs g = some b) : kget (encI D.loc (bs.map fun p => (p.1, at_ p.1))) (.inl g) = some (.loc (at_ g)) := by
  have hm := aget_some hb
  rw [encI_get, aget_of_mem (l := bs.map fun p => (p.1, at_ p.1)) (by rw [List.map_map]; exact h.key) (List.mem_map_of_mem (f := fun p : Int × BedS => (p.1, at_ p.1)) hm)]
  rfl
theorem aget_in {g : Int} (h : g ∈ bs.map (·.1)) : ∃ b, aget bs g = some b := by
  have hs := aget_isSome bs g
  simp only [h, decide_true] at hs
  exact Option.isSome_iff_exists.mp hs
theorem keys_enc (bs : List (Int × BedS)) (at_ : Int → Nat) : (bs.map fun p => (p.1, at_ p.1)).map (fun p => D.int p.1) = bs.map fun p => D.int p.1 := by rw [List.map_map]; rfl
theorem GL.add (h : GL μ d at_ f bs) {g : Int} {b : BedS} (hg : g ∉ bs.map (·.1)) :
    kput (encI D.loc (bs.map fun p => (p.1, at_ p.1))) (.inl g) (.loc μ.cells.length) = encI D.loc ((bs ++ [(g, b)]).map fun p => (p.1, if p.1 = g then μ.cells.length else at_ p.1)) ∧
    GL ((μ.push (.lst (f b))).set d (.dK (encI D.loc ((bs ++ [(g, b)]).map fun p => (p.1, if p.1 = g then μ.cells.length else at_ p.1))))) d (fun x => if x = g then μ.cells.length else at_ x) f (bs ++ [(g, b)]) := by
  have hd := at_lt h.hd
  have hng : ∀ p ∈ bs, p.1 ≠ g := fun p hp e => hg (e ▸ List.mem_map_of_mem (f := (·.1)) hp)
  have hle : ∀ p ∈ bs, at_ p.1 < μ.cells.length := fun p hp => at_lt (h.hc p hp)
  have e1 : (bs.map fun p => (p.1, at_ p.1)) ++ [(g, μ.cells.length)] = (bs ++ [(g, b)]).map fun p => (p.1, if p.1 = g then μ.cells.length else at_ p.1) := by
    rw [List.map_append]
    congr 1
    · refine List.map_congr_left fun p hp => ?_
      rw [if_neg (hng p hp)]
    · simp
  refine ⟨?_, ?_, ?_, ?_, ?_, ?_⟩
  · rw [encI_put, aput_new (by rw [List.map_map]; exact hg), e1]
  · exact at_set (by rw [len_push]; omega)
  · intro p hp
    rcases List.mem_append.mp hp with hp | hp
    · rw [if_neg (hng p hp)]
      exact at_setn_of (at_push_of (h.hc p hp)) (h.nd p hp)
    · rw [List.mem_singleton.mp hp, if_pos rfl]
      exact at_setn_of at_push (by omega)
  · intro p hp
    rcases List.mem_append.mp hp with hp | hp
    · rw [if_neg (hng p hp)]; exact h.nd p hp
    · rw [List.mem_singleton.mp hp, if_pos rfl]; omega
  · intro p hp q hq e
    rcases List.mem_append.mp hp with hp | hp <;> rcases List.mem_append.mp hq with hq | hq
    · rw [if_neg (hng p hp), if_neg (hng q hq)] at e; exact h.inj p hp q hq e
    · rw [if_neg (hng p hp), List.mem_singleton.mp hq, if_pos rfl] at e
      have := hle p hp; omega
    · rw [List.mem_singleton.mp hp, if_pos rfl, if_neg (hng q hq)] at e
      have := hle q hq; omega
    · rw [List.mem_singleton.mp hp, List.mem_singleton.mp hq]
  · rw [List.map_append, List.nodup_append]
    refine ⟨h.key, by simp, fun a ha x hx => ?_⟩
    rw [List.mem_singleton.mp hx]
    intro e
    exact hg ((show a = g from e) ▸ ha)
theorem GL.drop (h : GL μ d at_ f bs) (g : Int) :
    kdrop (encI D.loc (bs.map fun p => (p.1, at_ p.1))) (.inl g) = encI D.loc ((adrop bs g).map fun p => (p.1, at_ p.1)) ∧
    GL (μ.set d (.dK (encI D.loc ((adrop bs g).map fun p => (p.1, at_ p.1))))) d at_ f (adrop bs g) := by
  have hd := at_lt h.hd
  have hs : ∀ p ∈ adrop bs g, p ∈ bs := fun p hp => (List.mem_filter.mp hp).1
  refine ⟨?_, ?_, ?_, ?_, ?_, ?_⟩
  · rw [encI_drop]
    congr 1
    unfold adrop
    rw [List.filter_map]; rfl
  · exact at_set hd
  · exact fun p hp => at_setn_of (h.hc p (hs p hp)) (h.nd p (hs p hp))
  · exact fun p hp => h.nd p (hs p hp)
  · exact fun p hp q hq => h.inj p (hs p hp) q (hs q hq)
  · exact h.key.sublist (List.filter_sublist.map _)
theorem GL.put (h : GL μ d at_ f bs) {g : Int} {b b' : BedS} (hb : aget bs g = some b) : GL (μ.set (at_ g) (.lst (f b'))) d at_ f (aput bs g b') := by
  have hm := aget_some hb
  have hin : g ∈ bs.map (·.1) := List.mem_map_of_mem (f := (·.1)) hm
  have hl := at_lt (h.hc _ hm)
  have hk : ∀ p ∈ aput bs g b', p.1 ∈ bs.map (·.1) := fun p hp => by
    rw [aput_old hin] at hp
    obtain ⟨q, hq, rfl⟩ := List.mem_map.mp hp
    split
    · exact List.mem_map_of_mem (f := (·.1)) hq
    · exact List.mem_map_of_mem (f := (·.1)) hq
  have hkey : (aput bs g b').map (·.1) = bs.map (·.1) := by
    rw [aput_old hin, List.map_map]
    refine List.map_congr_left fun p hp => ?_
    show (if p.1 = g then (p.1, b') else p).1 = p.1
    split <;> rfl
  have hat : (aput bs g b').map (fun p => (p.1, at_ p.1)) = bs.map (fun p => (p.1, at_ p.1)) := by
    have := congrArg (List.map fun x => (x, at_ x)) hkey
    rw [List.map_map, List.map_map] at this
    exact this
  refine ⟨?_, ?_, ?_, ?_, ?_⟩
  · rw [hat]; exact at_setn_of h.hd (h.nd _ hm).symm
  · intro p hp
    rw [aput_old hin] at hp
    obtain ⟨q, hq, rfl⟩ := List.mem_map.mp hp
    by_cases e : q.1 = g
    · rw [if_pos e]
      show (μ.set (at_ g) _).cells[at_ q.1]? = _
      rw [e]; exact at_set hl
    · rw [if_neg e]
      exact at_setn_of (h.hc q hq) fun z => e (h.inj q hq _ hm z)
  · intro p hp
    obtain ⟨q, hq, e⟩ := List.mem_map.mp (hk p hp)
    rw [← e]; exact h.nd q hq
  · intro p hp q hq e
    obtain ⟨p', hp', ep⟩ := List.mem_map.mp (hk p hp)
    obtain ⟨q', hq', eq⟩ := List.mem_map.mp (hk q hq)
    rw [← ep, ← eq] at e ⊢
    exact h.inj p' hp' q' hq' e
  · rw [hkey]; exact h.key
end
end Doz
end
section
namespace Doz
open PySem L2
theorem sortInts_perm {xs ys : List Int} (h : xs.Perm ys) : sortInts xs = sortInts ys := by
  have h2 : (sortInts xs).Pairwise (fun a b => decide (a ≤ b) = true) := List.pairwise_mergeSort (fun a b c h1 h2 => by simp at *; omega) (fun a b => by simp; omega) xs
  exact sortInts_unique ((List.mergeSort_perm _ _).trans h) (h2.imp fun h => by simpa using h)
theorem aput_keys_in {α β : Type} [DecidableEq α] {l : List (α × β)} {k : α} (h : k ∈ l.map (·.1)) (v : β) : (aput l k v).map (·.1) = l.map (·.1) := by
  rw [aput_old h, List.map_map]
  refine List.map_congr_left fun p hp => ?_
  show (if p.1 = k then (p.1, v) else p).1 = p.1
  split <;> rfl
theorem rises_keys (a : Str) : ∀ (gs : List Int) (S : HS), (∀ g ∈ gs, g ∈ S.ends.map (·.1)) → (S.rises gs a).ends.map (·.1) = S.ends.map (·.1)
  | [], S, _ => rfl
  | g :: gs, S, h => by
    show ((S.rise g a).rises gs a).ends.map (·.1) = _
    have e : (S.rise g a).ends.map (·.1) = S.ends.map (·.1) := aput_keys_in (h g (by simp)) a
    rw [rises_keys a gs _ (fun g' hg => by rw [e]; exact h g' (by simp [hg])), e]
def HS.BE (S : HS) : Prop := ∀ p ∈ S.beds, p.1 ∈ S.ends.map (·.1)
theorem BE.mem {S : HS} (h : S.BE) {g : Int} (hg : g ∈ S.beds.map (·.1)) : g ∈ S.ends.map (·.1) := by
  obtain ⟨p, hp, rfl⟩ := List.mem_map.mp hg
  exact h p hp
theorem keys_len {α β : Type} {l l' : List (α × β)} (h : l.map (·.1) = l'.map (·.1)) : l.length = l'.length := by
  have := congrArg List.length h
  simpa using this
theorem rises_sz {S : HS} (hb : S.BE) {gs : List Int} (hg : ∀ g ∈ gs, g ∈ S.beds.map (·.1)) (a : Str) : (S.rises gs a).ends.map (·.1) = S.ends.map (·.1) ∧ (S.rises gs a).beds = S.beds.filter (fun p => !decide (p.1 ∈ gs)) ∧ (S.rises gs a).ranks = S.ranks ∧ (S.rises gs a).turns = S.turns ∧ (S.rises gs a).num = S.num ∧ (S.rises gs a).log = S.log ∧ (S.rises gs a).clock = S.clock ∧ (S.rises gs a).begun = S.begun ∧ (S.rises gs a).BE := by
  have e := rises_eq S a gs
  have k := rises_keys a gs S fun g h => BE.mem hb (hg g h)
  refine ⟨k, e.1, e.2.1, e.2.2.1, e.2.2.2.1, e.2.2.2.2.1, e.2.2.2.2.2.1, e.2.2.2.2.2.2, fun p hp => ?_⟩
  rw [k]
  rw [e.1] at hp
  exact hb p (List.mem_filter.mp hp).1
theorem late_iff {S : HS} (hn : (S.beds.map (·.1)).Nodup) {t : Int} {p : Int × BedS} (hp : p ∈ S.beds) : p.1 ∈ (S.lateB t).map (·.1) ↔ overAt p.2.until_ t = true := by
  constructor
  · intro hk
    obtain ⟨q, hq, e⟩ := List.mem_map.mp hk
    obtain ⟨hq1, hq2⟩ := lateB_mem hq
    rw [← map_inj (f := fun p : Int × BedS => p.1) hn hq1 hp e]; exact hq2
  · intro ho
    exact List.mem_map_of_mem (f := (·.1)) ((List.mergeSort_perm _ _).mem_iff.mpr (List.mem_filter (p := fun p : Int × BedS => overAt p.2.until_ t) |>.mpr ⟨hp, ho⟩))
theorem tick_eq {S : HS} (hb : S.BE) (hn : (S.beds.map (·.1)).Nodup) (y : Int) : (S.tick y).beds = S.beds.filter (fun p => !decide (p.1 ∈ (S.lateB (S.clock + y)).map (·.1))) ∧ (S.tick y).ends.map (·.1) = S.ends.map (·.1) ∧ (S.tick y).ranks = S.ranks ∧ (S.tick y).turns = S.turns ∧ (S.tick y).num = S.num ∧ (S.tick y).log.length = S.log.length + 1 ∧ (S.tick y).clock = S.clock + y ∧ (S.tick y).begun = S.begun ∧ (S.tick y).BE ∧ ∀ g, aget (S.tick y).ends g = if g ∈ (S.lateB (S.clock + y)).map (·.1) then some ("late" : Str) else aget S.ends g := by
  have hb' : ({ S with clock := S.clock + y } : HS).BE := hb
  have hm : ∀ g ∈ (S.lateB (S.clock + y)).map (·.1), g ∈ ({ S with clock := S.clock + y } : HS).beds.map (·.1) := fun g hg => by
    obtain ⟨p, hp, rfl⟩ := List.mem_map.mp hg
    exact List.mem_map_of_mem (f := (·.1)) (lateB_mem hp).1
  obtain ⟨k, e1, e2, e3, e4, e5, e6, e7, e8⟩ := rises_sz hb' hm "late"
  refine ⟨e1, k, e2, e3, e4, ?_, e6, e7, e8, fun g => rises_ends _ _ _ g⟩
  show (HS.log _ ++ [_]).length = _
  rw [List.length_append, e5]; rfl
theorem wake_eq {S : HS} (hb : S.BE) (r : Str) (k m : Int) : (S.wake r k m).beds = S.beds.filter (fun p => !decide (p.1 ∈ (S.wakeL r k m).map (·.1))) ∧ (S.wake r k m).ends.map (·.1) = S.ends.map (·.1) ∧ (S.wake r k m).ranks = S.ranks ∧ (S.wake r k m).turns = S.turns ∧ (S.wake r k m).num = S.num ∧ (S.wake r k m).log.length = S.log.length + 1 ∧ (S.wake r k m).clock = S.clock ∧ (S.wake r k m).begun = S.begun ∧ (S.wake r k m).BE ∧ ∀ g, aget (S.wake r k m).ends g = if g ∈ (S.wakeL r k m).map (·.1) then some ("woken" : Str) else aget S.ends g := by
  have hm : ∀ g ∈ (S.wakeL r k m).map (·.1), g ∈ S.beds.map (·.1) := fun g hg => by
    obtain ⟨p, hp, rfl⟩ := List.mem_map.mp hg
    exact List.mem_map_of_mem (f := (·.1)) (lineB_mem ((wakeL_sub r k m).subset hp)).1
  obtain ⟨k', e1, e2, e3, e4, e5, e6, e7, e8⟩ := rises_sz hb hm "woken"
  refine ⟨e1, k', e2, e3, e4, ?_, e6, e7, e8, fun g => rises_ends _ _ _ g⟩
  show (HS.log _ ++ [_]).length = _
  rw [List.length_append, e5]; rfl
abbrev keepB (p : Int × BedS) : Int × Nat × Int × Option Int × Int := (p.1, p.2.at_, p.2.since, p.2.until_, p.2.mask)
theorem aput_map {α β γ : Type} [DecidableEq α] {l : List (α × β)} {k : α} {b b' : β} (f : α × β → γ) (hn : (l.map (·.1)).Nodup) (h : aget l k = some b) (e : f (k, b') = f (k, b)) : (aput l k b').map f = l.map f := by
  have hm := aget_some h
  rw [aput_old (List.mem_map_of_mem (f := (·.1)) hm), List.map_map]
  refine List.map_congr_left fun p hp => ?_
  show f (if p.1 = k then (p.1, b') else p) = f p
  by_cases hk : p.1 = k
  · rw [if_pos hk]
    have : p = (k, b) := map_inj (f := fun p : α × β => p.1) hn hp hm hk
    rw [this]; exact e
  · rw [if_neg hk]
theorem shift_keep {S : HS} (hn : (S.beds.map (·.1)).Nodup) (r : Str) (g : Int) : (S.shift r g).beds.map keepB = S.beds.map keepB := by
  unfold HS.shift
  split
  · rename_i b e
    exact aput_map keepB hn e rfl
  · rfl
theorem shifts_keep (r : Str) : ∀ (gs : List Int) {S : HS} (hn : (S.beds.map (·.1)).Nodup), (S.shifts r gs).beds.map keepB = S.beds.map keepB
  | [], S, _ => rfl
  | g :: gs, S, hn => by
    show ((S.shift r g).shifts r gs).beds.map keepB = _
    rw [shifts_keep r gs (by rw [shift_keys]; exact hn), shift_keep hn]
theorem aput_place {S : HS} (hn : (S.beds.map (·.1)).Nodup) (r : Str) (g : Int) : (S.shift r g).beds.map (fun p => (p.1, p.2.place)) = S.beds.map fun p => (p.1, if p.1 = g then r else p.2.place) := by
  unfold HS.shift
  split
  · rename_i b e
    have hm := aget_some e
    show (aput S.beds g _).map _ = _
    rw [aput_old (List.mem_map_of_mem (f := (·.1)) hm), List.map_map]
    refine List.map_congr_left fun p hp => ?_
    show ((if p.1 = g then (p.1, _) else p : Int × BedS).1, (if p.1 = g then (p.1, _) else p : Int × BedS).2.place) = _
    by_cases hk : p.1 = g
    · simp only [hk, if_true]
    · simp only [hk, if_false]
  · rename_i e
    refine List.map_congr_left fun p hp => ?_
    have : p.1 ≠ g := fun z => aget_none.mp e (z ▸ List.mem_map_of_mem (f := (·.1)) hp)
    rw [if_neg this]
theorem shifts_place (r : Str) : ∀ (gs : List Int) {S : HS} (hn : (S.beds.map (·.1)).Nodup), (S.shifts r gs).beds.map (fun p => (p.1, p.2.place)) = S.beds.map fun p => (p.1, if p.1 ∈ gs then r else p.2.place)
  | [], S, _ => by simp [HS.shifts]
  | g :: gs, S, hn => by
    show ((S.shift r g).shifts r gs).beds.map _ = _
    rw [shifts_place r gs (by rw [shift_keys]; exact hn)]
    have h := congrArg (List.map fun x : Int × Str => (x.1, if x.1 ∈ gs then r else x.2)) (aput_place hn r g)
    rw [List.map_map, List.map_map] at h
    refine Eq.trans h ?_
    refine List.map_congr_left fun p hp => ?_
    show (p.1, if p.1 ∈ gs then r else if p.1 = g then r else p.2.place) = _
    simp only [List.mem_cons]
    by_cases h1 : p.1 = g <;> by_cases h2 : p.1 ∈ gs <;> simp [h1, h2]
theorem move_eq {S : HS} (hb : S.BE) (hn : (S.beds.map (·.1)).Nodup) (r o : Str) (st : Option Int) (w m : Int) :
    (S.move r o st w m).beds = (S.moved r o w m).beds ∧ (S.move r o st w m).beds.map keepB = (S.beds.filter fun p => !decide (p.1 ∈ (S.wokenL r w).map (·.1))).map keepB ∧
    (S.move r o st w m).ends.map (·.1) = S.ends.map (·.1) ∧ (S.move r o st w m).ranks = S.ranks ∧ (S.move r o st w m).num = S.num ∧ (S.move r o st w m).log.length = S.log.length + 1 ∧ (S.move r o st w m).clock = S.clock ∧ (S.move r o st w m).begun = S.begun ∧ (S.move r o st w m).BE ∧
    (∀ g, aget (S.move r o st w m).ends g = if g ∈ (S.wokenL r w).map (·.1) then some ("woken" : Str) else aget S.ends g) ∧
    (S.move r o st w m).beds.map (fun p => (p.1, p.2.place)) = (S.beds.filter fun p => !decide (p.1 ∈ (S.wokenL r w).map (·.1))).map fun p => (p.1, if p.1 ∈ (S.movedL r w m).map (·.1) then o else p.2.place) := by
  have hm : ∀ g ∈ (S.wokenL r w).map (·.1), g ∈ S.beds.map (·.1) := fun g hg => by
    obtain ⟨p, hp, rfl⟩ := List.mem_map.mp hg
    exact List.mem_map_of_mem (f := (·.1)) (lineB_mem ((List.take_sublist _ _).subset hp)).1
  obtain ⟨k', e1, e2, e3, e4, e5, e6, e7, e8⟩ := rises_sz hb hm "woken"
  have hn1 : ((S.rises ((S.wokenL r w).map (·.1)) "woken").beds.map (·.1)).Nodup := by rw [e1]; exact hn.sublist (List.filter_sublist.map _)
  obtain ⟨q0, q1, q2, q3, q4, q5, q6⟩ := shifts_rest o ((S.movedL r w m).map (·.1)) (S.rises ((S.wokenL r w).map (·.1)) "woken")
  refine ⟨rfl, ?_, ?_, ?_, ?_, ?_, ?_, ?_, ?_, ?_, ?_⟩
  · show (HS.shifts _ _ _).beds.map keepB = _
    rw [shifts_keep _ _ hn1, e1]
  · show (HS.shifts _ _ _).ends.map _ = _
    rw [q3, k']
  · show (HS.shifts _ _ _).ranks = _
    rw [q2, e2]
  · show (HS.shifts _ _ _).num = _
    rw [q1, e4]
  · show ((HS.shifts _ _ _).log ++ [_]).length = _
    rw [List.length_append, q6, e5]; rfl
  · show (HS.shifts _ _ _).clock = _
    rw [q4, e6]
  · show (HS.shifts _ _ _).begun = _
    rw [q5, e7]
  · intro p hp
    have hp' : p.1 ∈ (HS.shifts (S.rises ((S.wokenL r w).map (·.1)) "woken") o ((S.movedL r w m).map (·.1))).beds.map (·.1) := List.mem_map_of_mem (f := (·.1)) hp
    show p.1 ∈ (HS.shifts _ _ _).ends.map _
    rw [q0] at hp'
    rw [q3]
    exact BE.mem e8 hp'
  · intro g
    show aget (HS.shifts _ _ _).ends g = _
    rw [q3]; exact rises_ends _ _ _ g
  · show (HS.shifts _ _ _).beds.map _ = _
    rw [shifts_place _ _ hn1, e1]
end Doz
end
section
namespace Doz
open PySem L2
theorem km2 {β : Type} (g : β → D) {w0 w1 : Str} (h : w0 ≠ w1) (a b : β) : kmerge [] [(.inr w0, g a), (.inr w1, g b)] = encS g [(w0, a), (w1, b)] := by
  simp [kmerge, kput, encS, enc, h]
theorem w_addL {μ : Mem} {d e : D} {n : Nat} {xs ys : List D} (hd : d = .loc n) (h1 : lstOf μ d = some xs) (h2 : lstOf μ e = some ys) (Q : D → Mem → Prop) (E : EP) : wR (fAdd d e μ) Q E = (xs.length + ys.length ≤ sizeLine ∧ Q (.lst (xs ++ ys)) μ) := by
  subst hd
  have e0 : fAdd (.loc n) e μ = match catL μ (.loc n) e with
    | some zs => .ok (.lst zs) μ
    | none => .bad := by cases e <;> rfl
  rw [e0]
  unfold catL
  rw [h1, h2]
  show wR (match (if xs.length + ys.length ≤ sizeLine then some (xs ++ ys) else none) with | some zs => Res.ok (D.lst zs) μ | none => .bad) Q E = _
  by_cases h : xs.length + ys.length ≤ sizeLine
  · rw [if_pos h]; simp [h, wR]
  · rw [if_neg h]; simp [h, wR]
section
variable {μ μ' : Mem} {d : Nat} {at_ : Int → Nat} {f : BedS → List D} {bs bs' : List (Int × BedS)}
theorem GL.congr (h : GL μ d at_ f bs) (e : bs.map (fun p => (p.1, f p.2)) = bs'.map fun p => (p.1, f p.2)) : GL μ d at_ f bs' := by
  have ek : bs.map (·.1) = bs'.map (·.1) := by
    have := congrArg (List.map fun x : Int × List D => x.1) e
    rw [List.map_map, List.map_map] at this; exact this
  have ea : bs.map (fun p => (p.1, at_ p.1)) = bs'.map fun p => (p.1, at_ p.1) := by
    have := congrArg (List.map fun x : Int => (x, at_ x)) ek
    rw [List.map_map, List.map_map] at this; exact this
  have hm : ∀ p ∈ bs', ∃ q ∈ bs, q.1 = p.1 ∧ f q.2 = f p.2 := fun p hp => by
    have : (p.1, f p.2) ∈ bs'.map fun p => (p.1, f p.2) := List.mem_map_of_mem (f := fun p : Int × BedS => (p.1, f p.2)) hp
    rw [← e] at this
    obtain ⟨q, hq, e⟩ := List.mem_map.mp this
    simp only [Prod.mk.injEq] at e
    exact ⟨q, hq, e.1, e.2⟩
  refine ⟨by rw [← ea]; exact h.hd, fun p hp => ?_, fun p hp => ?_, fun p hp q hq z => ?_, by rw [← ek]; exact h.key⟩
  · obtain ⟨q, hq, e1, e2⟩ := hm p hp
    rw [← e1, ← e2]; exact h.hc q hq
  · obtain ⟨q, hq, e1, e2⟩ := hm p hp
    rw [← e1]; exact h.nd q hq
  · obtain ⟨p', hp', e1, _⟩ := hm p hp
    obtain ⟨q', hq', e2, _⟩ := hm q hq
    rw [← e1, ← e2] at z ⊢
    exact h.inj p' hp' q' hq' z
theorem glf_congr (e : bs.map (·.1) = bs'.map (·.1)) : glf d at_ bs = glf d at_ bs' := by
  unfold glf
  have := congrArg (List.map fun x : Int => at_ x) e
  rw [List.map_map, List.map_map] at this
  rw [show bs.map (fun p => at_ p.1) = bs'.map fun p => at_ p.1 from this]
end
end Doz
end
section
namespace Doz
open PySem L2
structure Tn (S : HS) : Prop where
  tb : ∀ p ∈ S.beds, p.2.turn ≤ S.turns
  inj : ∀ p ∈ S.beds, ∀ q ∈ S.beds, p.2.turn = q.2.turn → p = q
theorem Tn.sub {S S' : HS} (h : Tn S) (hb : ∀ p ∈ S'.beds, p ∈ S.beds) (ht : S'.turns = S.turns) : Tn S' :=
  ⟨fun p hp => by rw [ht]; exact h.tb p (hb p hp), fun p hp q hq => h.inj p (hb p hp) q (hb q hq)⟩
theorem Tn.lie {S S' : HS} (h : Tn S) {g : Int} {b : BedS} (hb : S'.beds = S.beds ++ [(g, b)]) (hbt : b.turn = S.turns + 1) (ht : S'.turns = S.turns + 1) : Tn S' := by
  refine ⟨fun p hp => ?_, fun p hp q hq e => ?_⟩
  · rw [hb] at hp
    rw [ht]
    rcases List.mem_append.mp hp with hp | hp
    · have := h.tb p hp; omega
    · rw [List.mem_singleton.mp hp]; show b.turn ≤ _; omega
  · rw [hb] at hp hq
    rcases List.mem_append.mp hp with hp | hp <;> rcases List.mem_append.mp hq with hq | hq
    · exact h.inj p hp q hq e
    · rw [List.mem_singleton.mp hq] at e
      have := h.tb p hp
      have e : p.2.turn = b.turn := e
      omega
    · rw [List.mem_singleton.mp hp] at e
      have := h.tb q hq
      have e : b.turn = q.2.turn := e
      omega
    · rw [List.mem_singleton.mp hp, List.mem_singleton.mp hq]
theorem shift_beds {S : HS} (o : Str) {g : Int} (hn : (S.beds.map (·.1)).Nodup) (hg : g ∈ S.beds.map (·.1)) :
    (S.shift o g).turns = S.turns + 1 ∧ ∀ p, p ∈ (S.shift o g).beds ↔ (p ∈ S.beds ∧ p.1 ≠ g) ∨ ∃ b, (g, b) ∈ S.beds ∧ p = (g, { b with place := o, turn := S.turns + 1 }) := by
  obtain ⟨b, hb⟩ := aget_in hg
  have hm := aget_some hb
  unfold HS.shift
  rw [hb]
  refine ⟨rfl, fun p => ?_⟩
  show p ∈ aput S.beds g _ ↔ _
  rw [aput_old hg]
  constructor
  · intro hp
    obtain ⟨q, hq, e⟩ := List.mem_map.mp hp
    by_cases h : q.1 = g
    · rw [if_pos h] at e
      exact .inr ⟨b, hm, by rw [← e, h]⟩
    · rw [if_neg h] at e
      exact .inl ⟨e ▸ hq, e ▸ h⟩
  · rintro (⟨hp, hne⟩ | ⟨b', hb', rfl⟩)
    · exact List.mem_map.mpr ⟨p, hp, by rw [if_neg hne]⟩
    · have : b' = b := by
        have := map_inj (f := fun p : Int × BedS => p.1) hn hb' hm rfl
        exact (Prod.mk.injEq _ _ _ _ ▸ this : _ ∧ _).2
      subst this
      exact List.mem_map.mpr ⟨(g, b'), hm, by rw [if_pos rfl]⟩
theorem shifts_beds (o : Str) : ∀ (gs : List Int) {S : HS}, (S.beds.map (·.1)).Nodup → gs.Nodup → (∀ g ∈ gs, g ∈ S.beds.map (·.1)) →
    (S.shifts o gs).turns = S.turns + gs.length ∧ ∀ p, p ∈ (S.shifts o gs).beds ↔ (p ∈ S.beds ∧ p.1 ∉ gs) ∨ ∃ (i : Nat) (b : BedS), gs[i]? = some p.1 ∧ (p.1, b) ∈ S.beds ∧ p.2 = { b with place := o, turn := S.turns + i + 1 }
  | [], S, _, _, _ => by
    refine ⟨by simp [HS.shifts], fun p => ?_⟩
    simp [HS.shifts]
  | g :: gs, S, hn, hg, hm => by
    rw [List.nodup_cons] at hg
    obtain ⟨t1, m1⟩ := shift_beds o hn (hm g (by simp))
    have hk := shift_keys S o g
    obtain ⟨t2, m2⟩ := shifts_beds o gs (S := S.shift o g) (by rw [hk]; exact hn) hg.2 (fun x hx => by rw [hk]; exact hm x (by simp [hx]))
    show ((S.shift o g).shifts o gs).turns = _ ∧ ∀ p, p ∈ ((S.shift o g).shifts o gs).beds ↔ _
    refine ⟨by rw [t2, t1, List.length_cons]; omega, fun p => ?_⟩
    rw [m2 p]
    constructor
    · rintro (⟨hp, hne⟩ | ⟨i, b, hi, hb, e⟩)
      · rcases (m1 p).mp hp with ⟨h1, h2⟩ | ⟨b, hb, rfl⟩
        · exact .inl ⟨h1, by simp [h2, hne]⟩
        · exact .inr ⟨0, b, rfl, hb, by simp⟩
      · rcases (m1 _).mp hb with ⟨h1, h2⟩ | ⟨b', hb', e'⟩
        · exact .inr ⟨i + 1, b, hi, h1, by rw [e, t1]; congr 1; omega⟩
        · have : p.1 = g := congrArg Prod.fst e'
          exact absurd (List.mem_of_getElem? hi) (this ▸ hg.1)
    · rintro (⟨hp, hne⟩ | ⟨i, b, hi, hb, e⟩)
      · simp only [List.mem_cons, not_or] at hne
        exact .inl ⟨(m1 p).mpr (.inl ⟨hp, hne.1⟩), hne.2⟩
      · cases i with
        | zero =>
          have hpg : g = p.1 := by simpa using hi
          refine .inl ⟨(m1 p).mpr (.inr ⟨b, by rw [hpg]; exact hb, ?_⟩), by rw [← hpg]; exact hg.1⟩
          rw [show p = (p.1, p.2) from rfl, e, hpg]; simp
        | succ i =>
          have hi : gs[i]? = some p.1 := by simpa using hi
          have hpg : p.1 ≠ g := fun z => hg.1 (z ▸ List.mem_of_getElem? hi)
          exact .inr ⟨i, b, hi, (m1 _).mpr (.inl ⟨hb, hpg⟩), by rw [e, t1]; congr 1; omega⟩
theorem Tn.shifts {S : HS} (h : Tn S) (o : Str) {gs : List Int} (hn : (S.beds.map (·.1)).Nodup) (hg : gs.Nodup) (hm : ∀ g ∈ gs, g ∈ S.beds.map (·.1)) : Tn (S.shifts o gs) := by
  obtain ⟨t, m⟩ := shifts_beds o gs hn hg hm
  refine ⟨fun p hp => ?_, fun p hp q hq e => ?_⟩
  · rw [t]
    rcases (m p).mp hp with ⟨h1, _⟩ | ⟨i, b, hi, _, e⟩
    · have := h.tb p h1; omega
    · have := (List.getElem?_eq_some_iff.mp hi).1
      rw [e]; show S.turns + i + 1 ≤ _; omega
  · rcases (m p).mp hp with ⟨h1, _⟩ | ⟨i, b, hi, hb, ep⟩ <;> rcases (m q).mp hq with ⟨h2, _⟩ | ⟨j, b', hj, hb', eq⟩
    · exact h.inj p h1 q h2 e
    · have := h.tb p h1
      rw [eq] at e
      have e : p.2.turn = S.turns + j + 1 := e
      omega
    · have := h.tb q h2
      rw [ep] at e
      have e : S.turns + i + 1 = q.2.turn := e
      omega
    · rw [ep, eq] at e
      have e : S.turns + (i : Int) + 1 = S.turns + j + 1 := e
      have : i = j := by omega
      subst this
      have e1 : p.1 = q.1 := Option.some.inj (hi.symm.trans hj)
      have e2 : b = b' := by
        rw [← e1] at hb'
        have := map_inj (f := fun p : Int × BedS => p.1) hn hb hb' rfl
        exact (Prod.mk.injEq _ _ _ _ ▸ this : _ ∧ _).2
      subst e2
      rw [show p = (p.1, p.2) from rfl, show q = (q.1, q.2) from rfl, e1, ep, eq]
theorem nodup_of_map {α β : Type} {f : α → β} {l : List α} (h : (l.map f).Nodup) : l.Nodup := (List.pairwise_map.mp h).imp fun hne e => hne (congrArg f e)
abbrev rk (S : HS) (g : Int) : Int := (aget S.ranks g).getD 0
theorem le2_key {S : HS} {p q : Int × BedS} : le2 (S.key p) (S.key q) = true ↔ rk S q.1 < rk S p.1 ∨ (rk S q.1 = rk S p.1 ∧ p.2.turn ≤ q.2.turn) := by
  unfold le2 HS.key rk
  rw [decide_eq_true_iff]
  dsimp only
  omega
theorem lineB_sorted (S : HS) (r : Str) : (S.lineB r).Pairwise fun p q => le2 (S.key p) (S.key q) = true :=
  List.pairwise_mergeSort (fun a b c => le2_tr S.key a b c) (fun a b => le2_tot S.key a b) _
theorem lineB_iff {S : HS} {r : Str} {p : Int × BedS} : p ∈ S.lineB r ↔ p ∈ S.beds ∧ p.2.place = r := by
  unfold HS.lineB
  rw [(List.mergeSort_perm _ _).mem_iff, List.mem_filter]
  simp
theorem lineB_nd {S : HS} (hn : (S.beds.map (·.1)).Nodup) (r : Str) : (S.lineB r).Nodup := by
  have := lineB_nodup hn r
  unfold HS.line at this
  exact nodup_of_map this
theorem le2_anti {S : HS} (h : Tn S) {p q : Int × BedS} (hp : p ∈ S.beds) (hq : q ∈ S.beds) (h1 : le2 (S.key p) (S.key q) = true) (h2 : le2 (S.key q) (S.key p) = true) : p = q := by
  refine h.inj p hp q hq ?_
  rw [le2_key] at h1 h2
  omega
theorem line_part {S : HS} (h : Tn S) (hn : (S.beds.map (·.1)).Nodup) (r : Str) (l : List (Int × BedS)) (hl : l.Nodup) (hm : ∀ p ∈ l, p ∈ S.lineB r) (hs : l.Pairwise fun p q => le2 (S.key p) (S.key q) = true) : (S.lineB r).filter (fun p => decide (p.1 ∈ l.map (·.1))) = l := by
  have hkey : ∀ p ∈ S.lineB r, p.1 ∈ l.map (·.1) → p ∈ l := fun p hp hk => by
    obtain ⟨q, hq, e⟩ := List.mem_map.mp hk
    have := map_inj (f := fun p : Int × BedS => p.1) hn (lineB_iff.mp (hm q hq)).1 (lineB_iff.mp hp).1 e
    exact this ▸ hq
  refine List.Perm.eq_of_pairwise (le := fun p q => le2 (S.key p) (S.key q) = true) (fun p q hp hq h1 h2 => le2_anti h (lineB_iff.mp (List.mem_filter.mp hp).1).1 (lineB_iff.mp (hm q hq)).1 h1 h2) ((lineB_sorted S r).sublist List.filter_sublist) hs ?_
  rw [List.perm_ext_iff_of_nodup ((lineB_nd hn r).sublist List.filter_sublist) hl]
  intro p
  rw [List.mem_filter]
  constructor
  · rintro ⟨h1, h2⟩
    exact hkey p h1 (by simpa using h2)
  · intro hp
    exact ⟨hm p hp, by simpa using List.mem_map_of_mem (f := (·.1)) hp⟩
theorem moved_beds {S : HS} (hn : (S.beds.map (·.1)).Nodup) (hb : S.BE) (r o : Str) (w m : Int) :
    (S.moved r o w m).turns = S.turns + (S.movedL r w m).length ∧ ∀ p, p ∈ (S.moved r o w m).beds ↔ (p ∈ S.beds ∧ p.1 ∉ (S.wokenL r w).map (·.1) ∧ p.1 ∉ (S.movedL r w m).map (·.1)) ∨ ∃ (i : Nat) (b : BedS), (S.movedL r w m)[i]? = some (p.1, b) ∧ p.2 = { b with place := o, turn := S.turns + i + 1 } := by
  have hm : ∀ g ∈ (S.wokenL r w).map (·.1), g ∈ S.beds.map (·.1) := fun g hg => by
    obtain ⟨p, hp, rfl⟩ := List.mem_map.mp hg
    exact List.mem_map_of_mem (f := (·.1)) (lineB_mem ((List.take_sublist _ _).subset hp)).1
  obtain ⟨k', e1, e2, e3, e4, e5, e6, e7, e8⟩ := rises_sz hb hm "woken"
  have hn1 : ((S.rises ((S.wokenL r w).map (·.1)) "woken").beds.map (·.1)).Nodup := by rw [e1]; exact hn.sublist (List.filter_sublist.map _)
  have hl := lineB_nodup hn r
  have hcat : List.Sublist (S.wokenL r w ++ S.movedL r w m) (S.lineB r) := by
    conv => rhs; rw [← List.take_append_drop w.toNat (S.lineB r)]
    exact List.Sublist.append (List.Sublist.refl _) (List.take_sublist _ _)
  have hnd : ((S.wokenL r w ++ S.movedL r w m).map (·.1)).Nodup := hl.sublist (hcat.map _)
  rw [List.map_append, List.nodup_append] at hnd
  obtain ⟨n1, n2, n3⟩ := hnd
  have hMs : ∀ p ∈ S.movedL r w m, p ∈ S.beds := fun p hp => (lineB_mem (((List.take_sublist _ _).trans (List.drop_sublist _ _)).subset hp)).1
  have hM : ∀ g ∈ (S.movedL r w m).map (·.1), g ∈ (S.rises ((S.wokenL r w).map (·.1)) "woken").beds.map (·.1) := fun g hg => by
    obtain ⟨p, hp, rfl⟩ := List.mem_map.mp hg
    rw [e1]
    refine List.mem_map_of_mem (f := (·.1)) (List.mem_filter.mpr ⟨hMs p hp, ?_⟩)
    simp only [Bool.not_eq_true', decide_eq_false_iff_not]
    exact fun hx => n3 _ hx _ hg rfl
  obtain ⟨t, mm⟩ := shifts_beds o ((S.movedL r w m).map (·.1)) hn1 n2 hM
  refine ⟨?_, fun p => ?_⟩
  · show (HS.shifts _ _ _).turns = _
    rw [t, e3, List.length_map]
  · show p ∈ (HS.shifts _ _ _).beds ↔ _
    rw [mm p, e1, e3]
    constructor
    · rintro (⟨h1, h2⟩ | ⟨i, b, hi, hb, e⟩)
      · obtain ⟨h3, h4⟩ := List.mem_filter.mp h1
        exact .inl ⟨h3, by simpa using h4, h2⟩
      · rw [List.getElem?_map] at hi
        obtain ⟨q, hq, eq⟩ := Option.map_eq_some_iff.mp hi
        refine .inr ⟨i, b, ?_, e⟩
        rw [hq]
        have hqm := hMs q (List.mem_of_getElem? hq)
        have := map_inj (f := fun p : Int × BedS => p.1) hn hqm (List.mem_filter.mp hb).1 eq
        rw [this]
    · rintro (⟨h1, h2, h3⟩ | ⟨i, b, hi, e⟩)
      · exact .inl ⟨List.mem_filter.mpr ⟨h1, by simpa using h2⟩, h3⟩
      · refine .inr ⟨i, b, by rw [List.getElem?_map, hi]; rfl, List.mem_filter.mpr ⟨hMs _ (List.mem_of_getElem? hi), ?_⟩, e⟩
        simp only [Bool.not_eq_true', decide_eq_false_iff_not]
        exact fun hx => n3 _ hx _ (List.mem_map_of_mem (f := (·.1)) (List.mem_of_getElem? hi)) rfl
theorem Tn.moved {S : HS} (h : Tn S) (hn : (S.beds.map (·.1)).Nodup) (hb : S.BE) (r o : Str) (w m : Int) : Tn (S.moved r o w m) := by
  obtain ⟨t, mm⟩ := moved_beds hn hb r o w m
  have hMs : ∀ p ∈ S.movedL r w m, p ∈ S.beds := fun p hp => (lineB_mem (((List.take_sublist _ _).trans (List.drop_sublist _ _)).subset hp)).1
  refine ⟨fun p hp => ?_, fun p hp q hq e => ?_⟩
  · rw [t]
    rcases (mm p).mp hp with ⟨h1, _⟩ | ⟨i, b, hi, e⟩
    · have := h.tb p h1; omega
    · have := (List.getElem?_eq_some_iff.mp hi).1
      rw [e]; show S.turns + i + 1 ≤ _; omega
  · rcases (mm p).mp hp with ⟨h1, _⟩ | ⟨i, b, hi, ep⟩ <;> rcases (mm q).mp hq with ⟨h2, _⟩ | ⟨j, b', hj, eq⟩
    · exact h.inj p h1 q h2 e
    · have := h.tb p h1
      rw [eq] at e
      have e : p.2.turn = S.turns + j + 1 := e
      omega
    · have := h.tb q h2
      rw [ep] at e
      have e : S.turns + i + 1 = q.2.turn := e
      omega
    · rw [ep, eq] at e
      have e : S.turns + (i : Int) + 1 = S.turns + j + 1 := e
      have : i = j := by omega
      subst this
      have e1 := Option.some.inj (hi.symm.trans hj)
      simp only [Prod.mk.injEq] at e1
      rw [show p = (p.1, p.2) from rfl, show q = (q.1, q.2) from rfl, e1.1, ep, eq, e1.2]
theorem move_line {S S' : HS} (h : Tn S) (hn : (S.beds.map (·.1)).Nodup) (hb : S.BE) {r o : Str} (hne : r ≠ o) {w m : Int} (eS : S'.beds = (S.moved r o w m).beds) (eR : S'.ranks = S.ranks) (eT : S'.turns = (S.moved r o w m).turns) (hn' : (S'.beds.map (·.1)).Nodup) :
    (S'.line o).filter (fun g => decide (g ∈ (S.movedL r w m).map (·.1))) = (S.movedL r w m).map (·.1) ∧
    (S'.line o).filter (fun g => decide (g ∈ S.line o)) = S.line o ∧
    (S'.line o).length = (S.movedL r w m).length + (S.line o).length ∧
    (S'.lineB o).Pairwise fun p q => (aget S.ranks q.1).getD 0 ≤ (aget S.ranks p.1).getD 0 ∧ ((aget S.ranks p.1).getD 0 = (aget S.ranks q.1).getD 0 → ¬(p.1 ∈ (S.movedL r w m).map (·.1) ∧ q.1 ∈ S.line o)) := by
  obtain ⟨t, mm⟩ := moved_beds hn hb r o w m
  have hT : Tn S' := (h.moved hn hb r o w m).sub (fun p hp => by rw [← eS]; exact hp) eT
  rw [← eS] at mm
  have hMl : ∀ p ∈ S.movedL r w m, p ∈ S.lineB r := fun p hp => ((List.take_sublist _ _).trans (List.drop_sublist _ _)).subset hp
  have hMb : ∀ p ∈ S.movedL r w m, p ∈ S.beds ∧ p.2.place = r := fun p hp => lineB_iff.mp (hMl p hp)
  have hWb : ∀ p ∈ S.wokenL r w, p ∈ S.beds ∧ p.2.place = r := fun p hp => lineB_iff.mp ((List.take_sublist _ _).subset hp)
  -- the moved ones, as they lie now
  let mv : List (Int × BedS) := (S.movedL r w m).zipIdx.map fun x => (x.1.1, { x.1.2 with place := o, turn := S.turns + x.2 + 1 })
  have mvk : mv.map (·.1) = (S.movedL r w m).map (·.1) := by
    show ((S.movedL r w m).zipIdx.map _).map _ = _
    rw [List.map_map]
    conv => rhs; rw [show S.movedL r w m = (S.movedL r w m).zipIdx.map (·.1) by simp]
    rw [List.map_map]; rfl
  have mvg : ∀ (i : Nat) p, mv[i]? = some p ↔ ∃ b, (S.movedL r w m)[i]? = some (p.1, b) ∧ p.2 = { b with place := o, turn := S.turns + i + 1 } := fun i p => by
    show ((S.movedL r w m).zipIdx.map _)[i]? = some p ↔ _
    rw [List.getElem?_map, List.getElem?_zipIdx]
    constructor
    · intro e
      obtain ⟨x, hx, rfl⟩ := Option.map_eq_some_iff.mp e
      obtain ⟨q, hq, rfl⟩ := Option.map_eq_some_iff.mp hx
      exact ⟨q.2, hq, by simp⟩
    · rintro ⟨b, hb, e⟩
      rw [hb]
      simp only [Option.map_some, Nat.zero_add]
      rw [← e]
  have mvm : ∀ p ∈ mv, p ∈ S'.lineB o := fun p hp => by
    obtain ⟨i, hi⟩ := List.getElem?_of_mem hp
    obtain ⟨b, h1, h2⟩ := (mvg i p).mp hi
    exact lineB_iff.mpr ⟨(mm p).mpr (.inr ⟨i, b, h1, h2⟩), by rw [h2]⟩
  have Mn : ((S.movedL r w m).map (·.1)).Nodup := (lineB_nodup hn r).sublist (((List.take_sublist _ _).trans (List.drop_sublist _ _)).map _)
  have mvn : mv.Nodup := nodup_of_map (show (mv.map (·.1)).Nodup by rw [mvk]; exact Mn)
  have mvs : mv.Pairwise fun p q => le2 (S'.key p) (S'.key q) = true := by
    rw [List.pairwise_iff_getElem]
    intro i j hi hj hlt
    obtain ⟨b, h1, h2⟩ := (mvg i mv[i]).mp (List.getElem?_eq_getElem hi)
    obtain ⟨b', h1', h2'⟩ := (mvg j mv[j]).mp (List.getElem?_eq_getElem hj)
    obtain ⟨q1, q2⟩ := List.getElem?_eq_some_iff.mp h1
    obtain ⟨q1', q2'⟩ := List.getElem?_eq_some_iff.mp h1'
    have := List.pairwise_iff_getElem.mp ((lineB_sorted S r).sublist (show List.Sublist (S.movedL r w m) _ from (List.take_sublist _ _).trans (List.drop_sublist _ _))) i j q1 q1' hlt
    rw [q2, q2'] at this
    have t1 : mv[i].2.turn = S.turns + i + 1 := by rw [h2]
    have t2 : mv[j].2.turn = S.turns + j + 1 := by rw [h2']
    rw [le2_key] at this ⊢
    have e1 : mv[i].1 = (S.movedL r w m)[i].1 := by rw [q2]
    have e2 : mv[j].1 = (S.movedL r w m)[j].1 := by rw [q2']
    unfold rk at this ⊢
    rw [eR, t1, t2]
    dsimp only at this
    omega
  have thm : ∀ p ∈ S.lineB o, p ∈ S'.lineB o := fun p hp => by
    obtain ⟨h1, h2⟩ := lineB_iff.mp hp
    refine lineB_iff.mpr ⟨(mm p).mpr (.inl ⟨h1, ?_, ?_⟩), h2⟩
    · intro hx
      obtain ⟨q, hq, e⟩ := List.mem_map.mp hx
      have := map_inj (f := fun p : Int × BedS => p.1) hn (hWb q hq).1 h1 e
      exact hne ((hWb q hq).2.symm.trans (this ▸ h2))
    · intro hx
      obtain ⟨q, hq, e⟩ := List.mem_map.mp hx
      have := map_inj (f := fun p : Int × BedS => p.1) hn (hMb q hq).1 h1 e
      exact hne ((hMb q hq).2.symm.trans (this ▸ h2))
  have ths : (S.lineB o).Pairwise fun p q => le2 (S'.key p) (S'.key q) = true := by
    have e : S'.key = S.key := by funext p; unfold HS.key; rw [eR]
    rw [e]; exact lineB_sorted S o
  have split : ∀ p ∈ S'.lineB o, p ∈ mv ∨ p ∈ S.lineB o := fun p hp => by
    obtain ⟨h1, h2⟩ := lineB_iff.mp hp
    rcases (mm p).mp h1 with ⟨a, _, _⟩ | ⟨i, b, hi, e⟩
    · exact .inr (lineB_iff.mpr ⟨a, h2⟩)
    · exact .inl (List.mem_of_getElem? ((mvg i p).mpr ⟨b, hi, e⟩))
  have l1 := line_part hT hn' o mv mvn mvm mvs
  have l2 := line_part hT hn' o (S.lineB o) (lineB_nd hn o) thm ths
  have dis : ∀ p ∈ mv, p ∉ S.lineB o := fun p hp hq => by
    obtain ⟨i, hi⟩ := List.getElem?_of_mem hp
    obtain ⟨b, h1, h2⟩ := (mvg i p).mp hi
    have := h.tb p (lineB_iff.mp hq).1
    rw [h2] at this
    have : S.turns + (i : Int) + 1 ≤ S.turns := this
    omega
  refine ⟨?_, ?_, ?_, ?_⟩
  · unfold HS.line
    rw [← mvk, List.filter_map]
    exact congrArg (List.map (·.1)) l1
  · unfold HS.line
    rw [List.filter_map]
    exact congrArg (List.map (·.1)) l2
  · unfold HS.line
    rw [List.length_map, List.length_map]
    have hp : (S'.lineB o).Perm (mv ++ S.lineB o) := by
      rw [List.perm_ext_iff_of_nodup (lineB_nd hn' o) (List.nodup_append.mpr ⟨mvn, lineB_nd hn o, fun a ha b hb e => dis a ha (e ▸ hb)⟩)]
      intro p
      rw [List.mem_append]
      exact ⟨split p, fun h => h.elim (mvm p) (thm p)⟩
    rw [hp.length_eq, List.length_append]
    have : mv.length = (S.movedL r w m).length := by have := congrArg List.length mvk; simpa using this
    rw [this]
  · have hs := lineB_sorted S' o
    rw [List.pairwise_iff_getElem] at hs ⊢
    intro i j hi hj hlt
    have h1 := hs i j hi hj hlt
    have m1 : (S'.lineB o)[i] ∈ S'.lineB o := List.getElem_mem hi
    have m2 : (S'.lineB o)[j] ∈ S'.lineB o := List.getElem_mem hj
    generalize (S'.lineB o)[i] = p at *
    generalize (S'.lineB o)[j] = q at *
    rw [le2_key] at h1
    unfold rk at h1
    rw [eR] at h1
    refine ⟨by omega, fun er => ?_⟩
    rintro ⟨hp, hq⟩
    have hpm : p ∈ mv := by
      have : p ∈ (S'.lineB o).filter (fun p => decide (p.1 ∈ mv.map (·.1))) := List.mem_filter.mpr ⟨m1, by rw [mvk]; simpa using hp⟩
      rw [l1] at this; exact this
    have hqt : q ∈ S.lineB o := by
      have : q ∈ (S'.lineB o).filter (fun p => decide (p.1 ∈ (S.lineB o).map (·.1))) := List.mem_filter.mpr ⟨m2, decide_eq_true hq⟩
      rw [l2] at this; exact this
    obtain ⟨k, hk⟩ := List.getElem?_of_mem hpm
    obtain ⟨b, _, h2⟩ := (mvg k p).mp hk
    have ht := h.tb q (lineB_iff.mp hqt).1
    have : p.2.turn = S.turns + k + 1 := by rw [h2]
    omega
end Doz
end
section
namespace K16
open PySem L2 Doz
section
variable {c : Cl} {μ : Mem}
theorem any_ints' (i : Int) : ∀ xs : List Int, ((xs.map D.int).any fun z => D.eqv z (.int i)) = decide (i ∈ xs)
  | [] => by simp
  | x :: xs => by
    rw [List.map_cons, List.any_cons, any_ints' i xs]
    have : D.eqv (.int x) (.int i) = decide (x = i) := by simp [D.eqv, Bool.beq_eq_decide_eq]
    rw [this]; simp [eq_comm]
theorem w_in_locI {n : Nat} {xs : List Int} (h : μ.cells[n]? = some (.lst (xs.map D.int))) (i : Int) (Q : Bool → Mem → Prop) (E : EP) : wR (cIn (.int i) (.loc n) μ) Q E = Q (decide (i ∈ xs)) μ := by
  have e : cIn (.int i) (.loc n) μ = .ok (decide (i ∈ xs)) μ := by
    unfold cIn
    have h1 : signIn (.int i) (.loc n) = none := rfl
    have h2 : dfind μ (.loc n) (.int i) = none := by unfold dfind dictOf; dsimp only; rw [h]; rfl
    have h3 : seqOf μ (.loc n) = some (xs.map D.int) := by unfold seqOf; dsimp only; exact lstOf_loc h
    have h4 : (D.int i).sc = true := rfl
    have h5 : (xs.map D.int).all D.sc = true := by rw [List.all_map, List.all_eq_true]; intro _ _; rfl
    rw [h1, h2]; dsimp only
    rw [h3]; dsimp only
    rw [h4, h5]
    show (if true = true then _ else _) = _
    rw [if_pos rfl, any_ints']
  rw [e]; rfl
theorem w_sl_loc {E : EP} {n : Nat} {ds : List D} (h : μ.cells[n]? = some (.lst ds)) (lo hi : Option Int) (Q : D → Mem → Prop) : wR (fSl (.loc n) lo hi μ) Q E = Q (.lst (cutD ds lo hi)) μ := by
  have e : fSl (.loc n) lo hi μ = .ok (.lst (cutD ds lo hi)) μ := by
    unfold fSl; dsimp only; rw [lstOf_loc h]
  rw [e]; rfl
theorem enum_locI {l : Nat} {xs : List Int} (h : μ.cells[l]? = some (.lst (xs.map D.int))) (Q : Its0 → Mem → Prop) (E : EP) : wR (fEnum [.loc l] μ) Q E = Q (xs.zipIdx.map fun x => D.tup [.int (x.2 : Nat), .int x.1], lstIs (.loc l) (xs.map D.int)) μ := by
  have e : fEnum [.loc l] μ = .ok (xs.zipIdx.map fun x => D.tup [.int (x.2 : Nat), .int x.1], lstIs (.loc l) (xs.map D.int)) μ := by
    unfold fEnum; dsimp only
    rw [lstOf_loc h]; dsimp only
    unfold Doz.numbered
    rw [List.zipIdx_map, List.map_map]; rfl
  rw [e]; rfl
theorem in_order_ok {lb lm lt o : Nat} {B M T : List Int} {rk : List (Int × Int)} (hb : μ.cells[lb]? = some (.lst (B.map D.int))) (hm : μ.cells[lm]? = some (.lst (M.map D.int))) (ht : μ.cells[lt]? = some (.lst (T.map D.int))) (ho : μ.cells[o]? = some (.dK (encI D.int rk)))
    (h1 : B.filter (fun g => decide (g ∈ M)) = M) (h2 : B.filter (fun g => decide (g ∈ T)) = T) (h3 : B.length = M.length + T.length) (hk : ∀ g ∈ B, g ∈ rk.map (·.1)) (hz : B.length ≤ 10000)
    (hp : B.Pairwise fun p q => (aget rk q).getD 0 ≤ (aget rk p).getD 0 ∧ ((aget rk p).getD 0 = (aget rk q).getD 0 → ¬(p ∈ M ∧ q ∈ T))) :
    wR (m_x__law_in_order c [.loc lb, .loc lm, .loc lt, .loc o] μ) (fun v μ' => v = .bl true ∧ μ' = μ) noE := by
  unfold m_x__law_in_order
  rw [w_run]
  show wS (t_x__law_in_order c) [some (.loc lb), some (.loc lm), some (.loc lt), some (.loc o), none, none, none] μ _
  unfold t_x__law_in_order
  generalize hδ : ([some (.loc lb), some (.loc lm), some (.loc lt), some (.loc o), none, none, none] : DEnv) = δ0
  refine wS_cut (fun δ μ' => δ = [some (.loc lb), some (.loc lm), some (.loc lt), some (.loc o), none, none, none] ∧ μ' = μ) ?_ ?_
  · subst hδ
    have nM := nice_ints M
    have nT := nice_ints T
    have hfil : ∀ (n : Nat) (Z : List Int), True := fun _ _ => trivial
    rw [wS_if]
    simp_arith only [↓wC_of hb, List.length_map]
    refine ⟨by omega, ?_⟩
    refine w_compFil (f := D.int) (fun g => decide (g ∈ M)) (fun g => D.int g) (sames_refl' _ _ hb) (fun g _ => ?_) ?_
    · simp_arith only [↓w_in_locI hm]
      exact fun _ => trivial
    rw [h1]
    simp_arith only [↓w_ne_rs (μ := μ) (d := .lst (M.map D.int)) (e := .loc lm) rfl (rsv_nice μ 8 _ nM) (rsv_loc hm nM) (fits_nice nM (by decide)) (fits_nice nM (by decide)), eqv_nice nM, ↓wC_of hb, List.length_map]
    refine ⟨by omega, ?_⟩
    refine w_compFil (f := D.int) (fun g => decide (g ∈ T)) (fun g => D.int g) (sames_refl' _ _ hb) (fun g _ => ?_) ?_
    · simp_arith only [↓w_in_locI ht]
      exact fun _ => trivial
    rw [h2]
    simp_arith only [↓w_ne_rs (μ := μ) (d := .lst (T.map D.int)) (e := .loc lt) rfl (rsv_nice μ 8 _ nT) (rsv_loc ht nT) (fits_nice nT (by decide)) (fits_nice nT (by decide)), eqv_nice nT]
  rintro δ1 _ ⟨e1, e0⟩
  replace e0 := e0.symm
  subst e0
  refine wS_cut (fun δ μ' => δ = [some (.loc lb), some (.loc lm), some (.loc lt), some (.loc o), none, none, none] ∧ μ' = μ) ?_ ?_
  · subst e1
    have h3' : (B.length : Int) = (M.length : Int) + (T.length : Int) := by omega
    simp_arith only [↓wC_of hb, ↓wC_of hm, ↓wC_of ht, List.length_map, h3', beq_self_eq_true]
  rintro δ2 _ ⟨e2, e0⟩
  replace e0 := e0.symm
  subst e0
  refine wS_cut (fun δ μ' => ∃ x4 x5 x6, δ = [some (.loc lb), some (.loc lm), some (.loc lt), some (.loc o), x4, x5, x6] ∧ μ' = μ) ?_ ?_
  · subst e2
    simp_arith only [↓enum_locI hb]
    refine w_loopM (f := fun x : Int × Nat => D.tup [.int (x.2 : Nat), .int x.1]) (fun rest δ μ' => (∀ x ∈ rest, B[x.2]? = some x.1) ∧ ∃ x4 x5 x6, δ = [some (.loc lb), some (.loc lm), some (.loc lt), some (.loc o), x4, x5, x6] ∧ μ' = μ) (by rintro _ _ _ ⟨_, _, _, _, _, rfl⟩; exact sames_refl' _ _ hb) ?_ ?_ B.zipIdx _ _ ⟨fun x hx => ?_, none, none, none, rfl, rfl⟩
    · rintro x rest δ μ9 ⟨hr, x4, x5, x6, rfl, e0⟩
      replace e0 := e0.symm
      subst e0
      obtain ⟨g, k⟩ := x
      have hg : B[k]? = some g := hr (g, k) (by simp)
      have hgm : g ∈ B := List.mem_of_getElem? hg
      obtain ⟨rg, hrg⟩ : ∃ rg, aget rk g = some rg := by
        have hs := aget_isSome rk g
        simp only [hk g hgm, decide_true] at hs
        exact Option.isSome_iff_exists.mp hs
      have hkg : kget (encI D.int rk) (.inl g) = some (.int rg) := by rw [encI_get, hrg]; rfl
      have ecut : cutD (B.map D.int) none (some (k : Int)) = (B.take k).map D.int := by rw [cutD_to _ (by omega), Int.toNat_natCast, List.map_take]
      simp_arith only [↓w_sl_loc hb, ecut]
      refine w_loopM (f := D.int) (fun rest' δ μ' => (∀ y ∈ rest', y ∈ B.take k) ∧ ∃ x6, δ = [some (.loc lb), some (.loc lm), some (.loc lt), some (.loc o), some (.int (k : Nat)), some (.int g), x6] ∧ μ' = μ) (fun _ _ _ _ => rfl) ?_ ?_ (B.take k) _ _ ⟨fun _ h => h, x6, rfl, rfl⟩
      · rintro y rest' δ μ9 ⟨hr', x6, rfl, e0⟩
        replace e0 := e0.symm
        subst e0
        have hy := hr' y (by simp)
        obtain ⟨j, hj⟩ := List.getElem?_of_mem hy
        rw [List.getElem?_take] at hj
        split at hj
        · rename_i hjk
          obtain ⟨q1, q2⟩ := List.getElem?_eq_some_iff.mp hj
          obtain ⟨q1', q2'⟩ := List.getElem?_eq_some_iff.mp hg
          have pw := List.pairwise_iff_getElem.mp hp j k q1 q1' hjk
          rw [q2, q2'] at pw
          have hym : y ∈ B := List.mem_of_getElem? hj
          obtain ⟨ry, hry⟩ : ∃ ry, aget rk y = some ry := by
            have hs := aget_isSome rk y
            simp only [hk y hym, decide_true] at hs
            exact Option.isSome_iff_exists.mp hs
          have hky : kget (encI D.int rk) (.inl y) = some (.int ry) := by rw [encI_get, hry]; rfl
          rw [hrg, hry] at pw
          simp only [Option.getD_some] at pw
          have hlt : ¬ ry < rg := by omega
          simp only [wG_set0, wG_setS]
          simp_arith only [↓wC_of ho, ↓qO_of hky, ↓qO_of hkg, hlt]
          by_cases he : ry = rg
          · have hn := pw.2 he
            by_cases hyM : y ∈ M
            · have hgT : g ∉ T := fun h => hn ⟨hyM, h⟩
              simp_arith only [he, ↓w_in_locI hm, ↓w_in_locI ht, hyM, hgT, decide_true, decide_false]
              exact ⟨fun z hz => hr' z (by simp [hz]), _, rfl⟩
            · simp_arith only [he, ↓w_in_locI hm, hyM, decide_false]
              exact ⟨fun z hz => hr' z (by simp [hz]), _, rfl⟩
          · simp_arith only [he]
            exact ⟨fun z hz => hr' z (by simp [hz]), _, rfl⟩
        · cases hj
      · rintro δ _ ⟨_, x6, rfl, rfl⟩
        exact ⟨fun z hz => hr z (by simp [hz]), _, _, _, rfl, rfl⟩
    · rintro δ _ ⟨_, x4, x5, x6, rfl, rfl⟩
      exact ⟨x4, x5, x6, rfl, rfl⟩
    · have := List.mem_zipIdx_iff_getElem?.mp hx
      exact this
  rintro δ3 _ ⟨x4, x5, x6, e3, e0⟩
  replace e0 := e0.symm
  subst e0
  subst e3
  simp_arith only [id_eq]
end
end K16
end
section
namespace K16
open PySem L2 Doz
structure Iv (c : Cl) (ws : List Str) (N : Nat) (A : HA) (o : Nat) (μ : Mem) (S : HS) : Prop where
  h : HallAt c μ A S
  ro : μ.cells[o]? = some (.dK (encI D.int S.ranks))
  fo : o ∉ foot A S
  tn : Tn S
  be : S.BE
  num : ∀ w ∈ ws, aget S.num w = some 0
  rk : ∀ p ∈ S.beds, p.1 ∈ S.ranks.map (·.1)
  msk : ∀ p ∈ S.beds, p.2.mask = 255
  sz : S.Sz N
section
variable {c : Cl} {μ μ' : Mem} {A : HA} {S S' : HS} {ws : List Str} {N o n : Nat}
theorem Iv.fr {F : List Nat} (I : Iv c ws N A o μ S) (f : Fr F μ μ') (hd : ∀ k ∈ F, k ∉ foot A S ∧ k ≠ o) : Iv c ws N A o μ' S :=
  ⟨I.h.fr f fun k hk hf => (hd k hf).1 hk, f.get I.ro fun hf => (hd o hf).2 rfl, I.fo, I.tn, I.be, I.num, I.rk, I.msk, I.sz⟩
theorem Iv.src (I : Iv c ws N A o μ S) (f : Fr [n] μ μ') (hn : n ∉ foot A S ∧ n ≠ o) : Iv c ws N A o μ' S := I.fr f (by intro k hk; simp at hk; subst hk; exact hn)
theorem Iv.mono {M : Nat} (I : Iv c ws N A o μ S) (h : N ≤ M) : Iv c ws M A o μ S :=
  ⟨I.h, I.ro, I.fo, I.tn, I.be, I.num, I.rk, I.msk, by obtain ⟨a1, a2, a3, a4⟩ := I.sz; refine ⟨?_, ?_, ?_, ?_⟩ <;> omega⟩
theorem Iv.key (I : Iv c ws N A o μ S) {w : Str} (hw : w ∈ ws) : w ∈ S.num.map (·.1) := List.mem_map_of_mem (f := (·.1)) (aget_some (I.num w hw))
theorem out_to (t : HallTo c μ A S μ' S') (hl : n < μ.cells.length) (h : n ∉ foot A S) : n ∉ foot A S' := fun z => (t.new n z).elim h fun z => by omega
theorem aput_keys_mono {α β : Type} [DecidableEq α] {l : List (α × β)} {k x : α} {v : β} (h : x ∈ l.map (·.1)) : x ∈ (aput l k v).map (·.1) := by
  by_cases e : k ∈ l.map (·.1)
  · rw [aput_keys_in e]; exact h
  · rw [aput_new e, List.map_append]; exact List.mem_append_left _ h
theorem aput_keys_self {α β : Type} [DecidableEq α] {l : List (α × β)} {k : α} {v : β} : k ∈ (aput l k v).map (·.1) := by
  by_cases e : k ∈ l.map (·.1)
  · rw [aput_keys_in e]; exact e
  · rw [aput_new e, List.map_append]; simp
theorem Iv.ranked (I : Iv c ws N A o μ S) {g r : Int} (t : HallTo c (μ.set o (.dK (encI D.int (aput S.ranks g r)))) A S μ' (S.rank g r)) : Iv c ws (N + 1) A o μ' (S.rank g r) := by
  have lo := at_lt I.ro
  obtain ⟨z1, z2, z3, z4⟩ := I.sz
  have := aput_len S.ranks g r
  exact ⟨t.h, t.f.get (at_set lo) I.fo, out_to t (by rw [len_set]; exact lo) I.fo, I.tn.sub (fun p hp => hp) rfl, I.be, I.num, fun p hp => aput_keys_mono (I.rk p hp), I.msk, ⟨by show S.beds.length ≤ _; omega, by show (aput S.ranks g r).length ≤ _; omega, by show S.ends.length ≤ _; omega, by show (S.log ++ [_]).length ≤ _; simp; omega⟩⟩
theorem Iv.slept (I : Iv c ws N A o μ S) {g : Int} {w : Str} {k : Nat} (hw : w ∈ ws) (hr : g ∈ S.ranks.map (·.1)) (t : HallTo c μ A S μ' (S.sleep k g w 0 none 255)) :
    Iv c ws (N + 1) A o μ' (S.sleep k g w 0 none 255) ∧ (S.sleep k g w 0 none 255).beds.map (·.1) = S.beds.map (·.1) ++ [g] := by
  have lo := at_lt I.ro
  have ha : S.sleepA w 0 none = "asleep" := by simp [HS.sleepA, I.num w hw, overAt]
  have eb : (S.sleep k g w 0 none 255).beds = S.beds ++ [(g, ⟨k, w, S.turns + 1, S.begun + 1, none, 255⟩)] := by unfold HS.sleep; rw [if_pos ha]; rfl
  have et : (S.sleep k g w 0 none 255).turns = S.turns + 1 := by unfold HS.sleep; rw [if_pos ha]; rfl
  have er : (S.sleep k g w 0 none 255).ranks = S.ranks := by unfold HS.sleep; rw [if_pos ha]; rfl
  have en : (S.sleep k g w 0 none 255).num = S.num := by unfold HS.sleep; rw [if_pos ha]; rfl
  have ee : (S.sleep k g w 0 none 255).ends = aput S.ends g "asleep" := by unfold HS.sleep; rw [ha]; rfl
  refine ⟨⟨t.h, by rw [er]; exact t.f.get I.ro I.fo, out_to t lo I.fo, I.tn.lie eb rfl et, ?_, by rw [en]; exact I.num, ?_, ?_, sleep_sz I.sz _ _ _ _ _⟩, by rw [eb, List.map_append]; rfl⟩
  · intro p hp
    rw [eb] at hp
    rw [ee]
    rcases List.mem_append.mp hp with hp | hp
    · exact aput_keys_mono (I.be p hp)
    · rw [List.mem_singleton.mp hp]; exact aput_keys_self
  · intro p hp
    rw [eb] at hp
    rw [er]
    rcases List.mem_append.mp hp with hp | hp
    · exact I.rk p hp
    · rw [List.mem_singleton.mp hp]; exact hr
  · intro p hp
    rw [eb] at hp
    rcases List.mem_append.mp hp with hp | hp
    · exact I.msk p hp
    · rw [List.mem_singleton.mp hp]
theorem Iv.nudged (I : Iv c ws N A o μ S) {g : Int} (hg : g ∈ S.beds.map (·.1)) (t : HallTo c μ A S μ' (S.nudge g)) : Iv c ws (N + 1) A o μ' (S.nudge g) := by
  have lo := at_lt I.ro
  have hs : ∀ p ∈ (S.nudge g).beds, p ∈ S.beds := fun p hp => (List.mem_filter.mp hp).1
  have he : (S.nudge g).ends.map (·.1) = S.ends.map (·.1) := aput_keys_in (BE.mem I.be hg) _
  obtain ⟨z1, z2, z3, z4⟩ := I.sz
  have := keys_len he
  have hl : (S.nudge g).beds.length ≤ S.beds.length := List.length_filter_le _ _
  exact ⟨t.h, t.f.get I.ro I.fo, out_to t lo I.fo, I.tn.sub hs rfl, fun p hp => by rw [he]; exact I.be p (hs p hp), I.num, fun p hp => I.rk p (hs p hp), fun p hp => I.msk p (hs p hp), ⟨by omega, by show S.ranks.length ≤ _; omega, by omega, by show (S.log ++ [_]).length ≤ _; simp; omega⟩⟩
theorem Iv.moved (I : Iv c ws N A o μ S) {r w : Str} {k m : Int} (t : HallTo c μ A S μ' (S.move r w none k m)) : Iv c ws (N + 1) A o μ' (S.move r w none k m) := by
  have lo := at_lt I.ro
  obtain ⟨u0, u1, u2, u3, u4, u5, u6, u7, u8, u9, u10⟩ := move_eq I.be I.h.nB r w none k m
  have hfrom : ∀ p ∈ (S.move r w none k m).beds, ∃ q ∈ S.beds, keepB q = keepB p := fun p hp => by
    have : keepB p ∈ (S.move r w none k m).beds.map keepB := List.mem_map_of_mem hp
    rw [u1] at this
    obtain ⟨q, hq, e⟩ := List.mem_map.mp this
    exact ⟨q, (List.mem_filter.mp hq).1, e⟩
  obtain ⟨z1, z2, z3, z4⟩ := I.sz
  have := keys_len u2
  have hl : (S.move r w none k m).beds.length ≤ S.beds.length := by
    have e := congrArg List.length u1
    rw [List.length_map, List.length_map] at e
    rw [e]; exact List.length_filter_le _ _
  refine ⟨t.h, by rw [u3]; exact t.f.get I.ro I.fo, out_to t lo I.fo, (I.tn.moved I.h.nB I.be r w k m).sub (fun p hp => by rw [← u0]; exact hp) rfl, u8, by rw [u4]; exact I.num, ?_, ?_, ⟨by omega, by rw [u3]; omega, by omega, by omega⟩⟩
  · intro p hp
    obtain ⟨q, hq, e⟩ := hfrom p hp
    simp only [keepB, Prod.mk.injEq] at e
    rw [u3, ← e.1]
    exact I.rk q hq
  · intro p hp
    obtain ⟨q, hq, e⟩ := hfrom p hp
    simp only [keepB, Prod.mk.injEq] at e
    rw [← e.2.2.2.2]; exact I.msk q hq
theorem Iv.woke (I : Iv c ws N A o μ S) {w : Str} (t : HallTo c μ A S μ' (S.wake w 1 255)) : Iv c ws (N + 1) A o μ' (S.wake w 1 255) ∧ S.wakeL w 1 255 = (S.lineB w).take 1 ∧ (S.wake w 1 255).lineB w = (S.lineB w).drop 1 := by
  have lo := at_lt I.ro
  obtain ⟨q1, q2, q3, q4, q5, q6, q7, q8, q9, q10⟩ := wake_eq I.be w 1 255
  have hs : ∀ p ∈ (S.wake w 1 255).beds, p ∈ S.beds := fun p hp => by rw [q1] at hp; exact (List.mem_filter.mp hp).1
  obtain ⟨z1, z2, z3, z4⟩ := I.sz
  have := keys_len q2
  have hl : (S.wake w 1 255).beds.length ≤ S.beds.length := by rw [q1]; exact List.length_filter_le _ _
  have hmeet : (S.lineB w).filter (meetsB 255) = S.lineB w := List.filter_eq_self.mpr fun p hp => by simp only [meetsB, I.msk p (lineB_mem hp).1]; decide
  have ewl : S.wakeL w 1 255 = (S.lineB w).take 1 := by unfold HS.wakeL; rw [hmeet]; rfl
  have inj : S.beds.Pairwise fun p q => p.2.turn ≠ q.2.turn := by
    have hnd := nodup_of_map I.h.nB
    exact List.Pairwise.imp_of_mem (fun ha hb hne e => hne (I.tn.inj _ ha _ hb e)) hnd
  refine ⟨⟨t.h, by rw [q3]; exact t.f.get I.ro I.fo, out_to t lo I.fo, I.tn.sub hs q4, q9, by rw [q5]; exact I.num, fun p hp => by rw [q3]; exact I.rk p (hs p hp), fun p hp => I.msk p (hs p hp), ⟨by omega, by rw [q3]; omega, by omega, by omega⟩⟩, ewl, ?_⟩
  rw [ewl] at q1
  exact (rises_line q1 q3 inj I.h.nB).1
theorem w_pick {α : Type} (f : α → D) {xs : List α} {i : Int} (h0 : 0 ≤ i) (h1 : i < xs.length) : ∃ v ∈ xs, xs[i.toNat]? = some v ∧ atI (xs.map f) i = some (f v) := by
  obtain ⟨v, e, e'⟩ := atI_lt h0 h1
  exact ⟨v, List.mem_of_getElem? e', e', by rw [atI_map, e]; rfl⟩
theorem moved_well_ok {B : Int} (I : Iv c ws N A o μ S) (hs : SrcAt μ n B) (hB0 : 0 ≤ B) (hB : B < 1000) (ho : n ∉ foot A S ∧ n ≠ o) (hN : N < 10000) (hw1 : 2 ≤ ws.length) (hw2 : ws.length ≤ 100) (hwn : ws.Nodup) :
    wR (m_x__law_moved_well c [.loc A.a, .loc n, .lst (ws.map D.str), .loc o] μ) (fun v μ' => v = .bl true ∧ ∃ S', Iv c ws (N + 1) A o μ' S' ∧ SrcAt μ' n (B + 5) ∧ (n ∉ foot A S' ∧ n ≠ o) ∧ ∀ p ∈ S'.beds, p.1 ∈ S.beds.map (·.1)) noE := by
  have hnl := hs.lt
  unfold m_x__law_moved_well
  rw [w_run]
  show wS (t_x__law_moved_well c) [some (.loc A.a), some (.loc n), some (.lst (ws.map D.str)), some (.loc o), none, none, none, none, none] μ _
  unfold t_x__law_moved_well
  generalize hδ : ([some (.loc A.a), some (.loc n), some (.lst (ws.map D.str)), some (.loc o), none, none, none, none, none] : DEnv) = δ0
  refine wS_cut (fun δ μ' => ∃ a : Int, 0 ≤ a ∧ a < ws.length ∧ δ = [some (.loc A.a), some (.loc n), some (.lst (ws.map D.str)), some (.loc o), some (.int a), none, none, none, none] ∧ SrcAt μ' n (B + 1) ∧ Fr [n] μ μ') ?_ ?_
  · subst hδ
    simp_arith only [List.length_map]
    refine (draw_ok hs (by omega) (by omega) (by omega)).go ?_
    rintro _ μ1 ⟨y, rfl, y0, y1, s1, f1⟩
    exact ⟨y, y0, y1, rfl, s1, f1⟩
  rintro δ1 μ1 ⟨a, a0, a1, e1, s1, f1⟩
  refine wS_cut (fun δ μ' => ∃ b : Int, 0 ≤ b ∧ b < ws.length ∧ a ≠ b ∧ δ = [some (.loc A.a), some (.loc n), some (.lst (ws.map D.str)), some (.loc o), some (.int a), some (.int b), none, none, none] ∧ SrcAt μ' n (B + 2) ∧ Fr [n] μ μ') ?_ ?_
  · subst e1
    simp_arith only [List.length_map]
    refine (draw_ok s1 (by omega) (by omega) (by omega)).go ?_
    rintro _ μ2 ⟨y, rfl, y0, y1, s2, f2⟩
    simp_arith only [List.length_map]
    refine ⟨by omega, _, Int.emod_nonneg _ (by omega), Int.emod_lt_of_pos _ (by omega), fun e => ?_, rfl, s2.mono (by omega), f1.trans f2⟩
    by_cases h : a + 1 + y < ws.length
    · rw [Int.emod_eq_of_lt (by omega) h] at e; omega
    · have : (a + 1 + y) % (ws.length : Int) = a + 1 + y - ws.length := by
        rw [← Int.sub_emod_right, Int.emod_eq_of_lt (by omega) (by omega)]
      omega
  rintro δ2 μ2 ⟨b, b0, b1, hab, e2, s2, f2⟩
  have I2 := I.src f2 ho
  obtain ⟨wa, hwa, ga, ea⟩ := w_pick D.str a0 a1
  obtain ⟨wb, hwb, gb, eb⟩ := w_pick D.str b0 b1
  have hne : wa ≠ wb := fun e => by
    subst e
    have := (List.getElem?_inj (List.getElem?_eq_some_iff.mp ga).1 hwn).mp (ga.trans gb.symm)
    omega
  have hz := I.sz.1
  refine wS_cut (fun δ μ' => ∃ l, δ = [some (.loc A.a), some (.loc n), some (.lst (ws.map D.str)), some (.loc o), some (.int a), some (.int b), some (.loc l), none, none] ∧ l = μ2.cells.length ∧ μ' = μ2.push (.lst ((S.line wb).map D.int))) ?_ ?_
  · subst e2
    simp_arith only [↓wC_of I2.h.hh, ↓qO_of eb]
    refine (line_ok I2.h (I.key hwb) (by omega)).go ?_
    rintro _ _ ⟨rfl, rfl⟩
    exact ⟨_, rfl, rfl, rfl⟩
  rintro δ3 μ3 ⟨lt, e3, hlt, hμ3⟩
  have f3 : Fr [] μ2 μ3 := by rw [hμ3]; exact Fr.push _ _ _
  have ct : μ3.cells[lt]? = some (.lst ((S.line wb).map D.int)) := by rw [hμ3, hlt]; exact at_push
  have I3 := I2.fr f3 (by simp)
  have s3 := s2.fr f3 (by simp)
  have lt3 : lt ∉ foot A S := fun hm => by have := I2.h.lt hm; omega
  have hltn : lt ≠ n := by have := s2.lt; omega
  refine wS_cut (fun δ μ' => ∃ k : Int, 0 ≤ k ∧ δ = [some (.loc A.a), some (.loc n), some (.lst (ws.map D.str)), some (.loc o), some (.int a), some (.int b), some (.loc lt), some (.int k), none] ∧ SrcAt μ' n (B + 4) ∧ Fr [n] μ3 μ') ?_ ?_
  · subst e3
    simp_arith only [id_eq]
    refine (draw_ok s3 (by omega) (by omega) (by omega)).go ?_
    rintro _ μ4 ⟨x, rfl, x0, x1, s4, f4⟩
    simp_arith only [id_eq]
    refine (draw_ok s4 (by omega) (by omega) (by omega)).go ?_
    rintro _ μ5 ⟨y, rfl, y0, y1, s5, f5⟩
    have : 0 ≤ x * y := Int.mul_nonneg x0 y0
    simp_arith only [id_eq]
    refine ⟨by (first | exact mulOk (by omega) (by omega) (by omega) (by omega) | exact divOk (by omega) (by omega) | exact powOk (by omega) (by omega) (by omega) (by omega) | exact strOk' (by omega) (by omega) | assumption | omega | decide), ?_⟩
    exact ⟨_, this, rfl, s5.mono (by omega), f4.trans f5⟩
  rintro δ4 μ4 ⟨k, k0, e4, s4, f4⟩
  have I4 := I3.src f4 ho
  have ct4 := f4.get ct (by simp; exact hltn)
  refine wS_cut (fun δ μ' => ∃ (l1 l2 : Nat) (m : Int), δ = [some (.loc A.a), some (.loc n), some (.lst (ws.map D.str)), some (.loc o), some (.int a), some (.int b), some (.loc lt), some (.int k), some (.tup [.loc l1, .loc l2])] ∧ μ'.cells[l2]? = some (.lst (gD1 (S.movedL wa k m))) ∧ μ'.cells[lt]? = some (.lst ((S.line wb).map D.int)) ∧ Iv c ws (N + 1) A o μ' (S.move wa wb none k m) ∧ SrcAt μ' n (B + 5) ∧ n ∉ foot A (S.move wa wb none k m)) ?_ ?_
  · subst e4
    simp_arith only [↓wC_of I4.h.hh, ↓qO_of ea, ↓qO_of eb]
    refine (draw_ok s4 (by omega) (by omega) (by omega)).go ?_
    rintro _ μ5 ⟨m, rfl, m0, m1, s5, f5⟩
    have I5 := I4.src f5 ho
    have ct5 := f5.get ct4 (by simp; exact hltn)
    simp_arith only [↓wC_of I5.h.hh]
    refine (move_in (st := none) I5.h (I5.key hwa) (I5.key hwb) hne k0 m0 (.inl rfl) I5.sz (by omega)).go ?_
    rintro _ μ6 ⟨l1, l2, rfl, q1, q2, q3, q4, q5, q6, t⟩
    exact ⟨l1, l2, m, rfl, q6, t.f.get ct5 lt3, I5.moved t, (s5.fr t.f ho.1).mono (by omega), out_to t s5.lt ho.1⟩
  rintro δ5 μ5 ⟨l1, l2, m, e5, c2, ct5, I5, s5, n5⟩
  obtain ⟨u0, u1, u2, u3, u4, u5, u6, u7, u8, u9, u10⟩ := move_eq I.be I.h.nB wa wb none k m
  obtain ⟨v1, v2, v3, v4⟩ := move_line I.tn I.h.nB I.be hne (w := k) (m := m) u0 u3 rfl I5.h.nB
  have hlen : ((S.move wa wb none k m).line wb).length ≤ 10000 := by
    have h1 := lineB_len (S := S.move wa wb none k m) wb
    have := I5.sz.1
    unfold HS.line; rw [List.length_map]; omega
  subst e5
  simp_arith only [↓wC_of I5.h.hh, ↓qO_of eb]
  refine (line_ok I5.h (I5.key hwb) (by have := I5.sz.1; omega)).go ?_
  rintro _ _ ⟨rfl, rfl⟩
  have f6 : Fr [] μ5 (μ5.push (.lst (((S.move wa wb none k m).line wb).map D.int))) := Fr.push _ _ _
  have I6 := I5.fr f6 (by simp)
  simp_arith only [id_eq]
  have eg : gD1 (S.movedL wa k m) = ((S.movedL wa k m).map (·.1)).map D.int := by unfold gD1; rw [List.map_map]; rfl
  rw [eg] at c2
  refine (in_order_ok (rk := S.ranks) at_push (at_push_of c2) (at_push_of ct5) (by rw [← u3]; exact I6.ro) v1 v2 (by rw [v3, List.length_map]) ?_ hlen ?_).go ?_
  · intro g hg
    obtain ⟨p, hp, rfl⟩ := List.mem_map.mp hg
    rw [← u3]
    exact I5.rk p (lineB_mem hp).1
  · unfold HS.line
    rw [List.pairwise_map]
    exact v4
  rintro _ _ ⟨rfl, rfl⟩
  simp_arith only [id_eq]
  refine ⟨_, I6, s5.push _, ⟨n5, ho.2⟩, fun p hp => ?_⟩
  have : keepB p ∈ (S.move wa wb none k m).beds.map keepB := List.mem_map_of_mem hp
  rw [u1] at this
  obtain ⟨q, hq, e⟩ := List.mem_map.mp this
  simp only [keepB, Prod.mk.injEq] at e
  rw [← e.1]
  exact List.mem_map_of_mem (f := (·.1)) (List.mem_filter.mp hq).1
end
end K16
end
section
namespace K16
open PySem L2 Doz
theorem w_addR {μ : Mem} {n : Nat} {xs ys : List D} (h2 : μ.cells[n]? = some (.lst ys)) (Q : D → Mem → Prop) (E : EP) : wR (fAdd (.lst xs) (.loc n) μ) Q E = (xs.length + ys.length ≤ sizeLine ∧ Q (.lst (xs ++ ys)) μ) := by
  show wR (match catL μ (.lst xs) (.loc n) with | some zs => Res.ok (D.lst zs) μ | none => .bad) Q E = _
  unfold catL
  rw [lstOf_loc h2]
  show wR (match (if xs.length + ys.length ≤ sizeLine then some (xs ++ ys) else none) with | some zs => Res.ok (D.lst zs) μ | none => .bad) Q E = _
  by_cases h : xs.length + ys.length ≤ sizeLine
  · rw [if_pos h]; simp [h, wR]
  · rw [if_neg h]; simp [h, wR]
theorem gi_inj {i j : Nat} (hi : i < 17) (hj : j < 17) (e : 500 + (5 * (0 + (i : Int))) % 17 = 500 + (5 * (0 + (j : Int))) % 17) : i = j := by omega
theorem law_ok (c : Cl) (ns : List Int) (hn : ns.length ≤ 63) : wR (m_n_law c [.lst (ns.map D.int)] { cells := [] }) (fun v _ => v = .bl true) noE := by
  unfold m_n_law
  rw [w_run]
  show wS (t_n_law c) [some (.lst (ns.map D.int)), none, none, none, none, none, none, none, none, none, none, none, none] { cells := [] } _
  unfold t_n_law
  generalize hδ : ([some (.lst (ns.map D.int)), none, none, none, none, none, none, none, none, none, none, none, none] : DEnv) = δ0
  refine wS_cut (fun δ μ' => ∃ n, δ = [some (.lst (ns.map D.int)), some (.loc n), none, none, none, none, none, none, none, none, none, none, none] ∧ SrcAt μ' n 0 ∧ μ'.lk = []) ?_ ?_
  · subst hδ
    simp_arith only [id_eq]
    refine (source_ok (by omega) (by omega) hn).go ?_
    rintro _ μ1 ⟨rfl, hs1, f1⟩
    exact ⟨_, rfl, hs1, f1.lk⟩
  rintro δ1 μ1 ⟨n, e1, s1, lk1⟩
  refine wS_cut (fun δ μ' => ∃ ws : List Str, 2 ≤ ws.length ∧ ws.length ≤ 4 ∧ ws.Nodup ∧ δ = [some (.lst (ns.map D.int)), some (.loc n), some (.lst (ws.map D.str)), none, none, none, none, none, none, none, none, none, none] ∧ SrcAt μ' n 40 ∧ μ'.lk = []) ?_ ?_
  · subst e1
    simp_arith only [id_eq]
    refine (draw_ok s1 (by omega) (by omega) (by omega)).go ?_
    rintro _ μ2 ⟨d, rfl, d0, d1, s2, f2⟩
    simp_arith only [id_eq]
    refine (names_ok s2 (by omega) (by omega) (by omega) (by omega) (f2.lk.trans lk1)).go ?_
    rintro _ μ3 ⟨ws, rfl, h1, h2, h3, s3, f3⟩
    exact ⟨ws, by omega, by omega, h2, rfl, s3.mono (by omega), f3.lk.trans (f2.lk.trans lk1)⟩
  rintro δ2 μ2 ⟨ws, hw1, hw2, hwn, e2, s2, lk2⟩
  have hnd : ((ws.map fun w => (w, (0 : Int))).map (·.1)).Nodup := by
    rw [List.map_map, show ((fun x : Str × Int => x.1) ∘ fun w => (w, (0 : Int))) = id from rfl, List.map_id]; exact hwn
  have hnum : ∀ w ∈ ws, aget (ws.map fun w => (w, (0 : Int))) w = some 0 := fun w hw => aget_of_mem hnd (List.mem_map_of_mem (f := fun w => (w, (0 : Int))) hw)
  refine wS_cut (fun δ μ' => ∃ A : HA, δ = [some (.lst (ns.map D.int)), some (.loc n), some (.lst (ws.map D.str)), some (.loc A.a), none, none, none, none, none, none, none, none, none] ∧ HallAt c μ' A { num := ws.map fun w => (w, (0 : Int)) } ∧ SrcAt μ' n 40 ∧ n ∉ foot A { num := ws.map fun w => (w, (0 : Int)) }) ?_ ?_
  · have l0 := s2.lt
    subst e2
    simp_arith only [List.length_map]
    refine ⟨by omega, ?_⟩
    refine w_compMap (f := D.str) (fun w => D.tup [.str w, .int 0]) rfl (fun w _ => ?_) ?_
    · simp_arith only [id_eq]
    have e3 : (ws.map fun w => D.tup [.str w, .int 0]) = (ws.map fun w => (w, (0 : Int))).map fun p => D.tup [.str p.1, .int p.2] := by rw [List.map_map]; rfl
    rw [e3]
    simp_arith only [↓w_dictP hnd]
    refine (init_ok (μ := μ2.push (.dK (encS D.int (ws.map fun w => (w, (0 : Int)))))) lk2 at_push hnd).go ?_
    rintro _ μ3 ⟨rfl, A, ha, hh, f3, hnew⟩
    simp_arith only [id_eq]
    rw [← ha]
    exact ⟨A, rfl, hh, (s2.push _).fr f3 (by simp), fun hm => by have := hnew n hm; rw [len_push] at this; omega⟩
  rintro δ3 μ3 ⟨A, e3, hh3, s3, n3⟩
  refine wS_cut (fun δ μ' => ∃ kd : Int, 1 ≤ kd ∧ kd ≤ 3 ∧ δ = [some (.lst (ns.map D.int)), some (.loc n), some (.lst (ws.map D.str)), some (.loc A.a), some (.int kd), none, none, none, none, none, none, none, none] ∧ HallAt c μ' A { num := ws.map fun w => (w, (0 : Int)) } ∧ SrcAt μ' n 41) ?_ ?_
  · subst e3
    simp_arith only [id_eq]
    refine (draw_ok s3 (by omega) (by omega) (by omega)).go ?_
    rintro _ μ4 ⟨d, rfl, d0, d1, s4, f4⟩
    simp_arith only [id_eq]
    exact ⟨_, by omega, by omega, rfl, hh3.fr f4 (by intro k hk hm; rw [List.mem_singleton.mp hm] at hk; exact n3 hk), s4.mono (by omega)⟩
  rintro δ4 μ4 ⟨kd, kd1, kd3, e4, hh4, s4⟩
  refine wS_cut (fun δ μ' => ∃ o : Nat, δ = [some (.lst (ns.map D.int)), some (.loc n), some (.lst (ws.map D.str)), some (.loc A.a), some (.int kd), some (.loc o), none, none, none, none, none, none, none] ∧ Iv c ws 0 A o μ' { num := ws.map fun w => (w, (0 : Int)) } ∧ SrcAt μ' n 41 ∧ n ≠ o) ?_ ?_
  · subst e4
    have l4 := s4.lt
    simp_arith only [id_eq]
    exact ⟨μ4.cells.length, rfl, ⟨hh4.fr (Fr.push [] _ _) (by simp), at_push, fun hm => by have := hh4.lt hm; omega, ⟨by simp, by simp⟩, (by intro p hp; cases hp), hnum, by simp, by simp, ⟨Nat.le_refl _, Nat.le_refl _, Nat.le_refl _, Nat.le_refl _⟩⟩, s4.push _, by omega⟩
  rintro δ5 μ5 ⟨o, e5, I5, s5, hno⟩
  have hkk : ∀ {S : HS} {μ : Mem} {N : Nat}, Iv c ws N A o μ S → μ.lkd o = false := fun I => lkd_nil I.h.lk
  refine wS_cut (fun δ μ' => ∃ (x6 x10 : Option D) (S : HS), δ = [some (.lst (ns.map D.int)), some (.loc n), some (.lst (ws.map D.str)), some (.loc A.a), some (.int kd), some (.loc o), x6, none, none, none, x10, none, none] ∧ Iv c ws 40 A o μ' S ∧ ∀ p ∈ S.beds, p.1 < 600) ?_ ?_
  · subst e5
    simp_arith only [id_eq]
    refine (draw_ok s5 (by omega) (by omega) (by omega)).go ?_
    rintro _ μ6 ⟨many, rfl, m0, m1, s6, f6⟩
    have I6 := I5.src f6 ⟨n3, hno⟩
    obtain ⟨many, rfl⟩ := Int.eq_ofNat_of_zero_le m0
    simp_arith only [id_eq]
    refine ⟨by omega, ?_⟩
    rw [Int.toNat_natCast]
    refine w_range (fun i δ μ' => ∃ (x6 x10 : Option D) (S : HS), δ = [some (.lst (ns.map D.int)), some (.loc n), some (.lst (ws.map D.str)), some (.loc A.a), some (.int kd), some (.loc o), x6, none, none, none, x10, none, none] ∧ Iv c ws (2 * i) A o μ' S ∧ SrcAt μ' n (42 + 5 * i) ∧ n ∉ foot A S ∧ ∀ p ∈ S.beds, ∃ j : Nat, j < i ∧ p.1 = 500 + (5 * (0 + (j : Int))) % 17) _ _ ⟨none, none, _, rfl, I6, s6.mono (by omega), n3, by intro p hp; cases hp⟩ ?_ ?_
    · rintro i δ μ7 hi ⟨x6, x10, S, rfl, I7, s7, n7, hk⟩
      have hi17 : i < 17 := by omega
      have hg : 500 + (5 * (0 + (i : Int))) % 17 ∉ S.beds.map (·.1) := fun hmm => by
        obtain ⟨p, hp, e⟩ := List.mem_map.mp hmm
        obtain ⟨j, hj, e'⟩ := hk p hp
        have := gi_inj (i := i) (j := j) (by omega) (by omega) (e.symm.trans e')
        omega
      generalize hgg : 500 + (5 * (0 + (i : Int))) % 17 = g at *
      simp only [wG_set0, wG_setS]
      refine wS_cut (fun δ μ' => δ = [some (.lst (ns.map D.int)), some (.loc n), some (.lst (ws.map D.str)), some (.loc A.a), some (.int kd), some (.loc o), some (.int (0 + (i : Int))), none, none, none, some (.int g), none, none] ∧ μ' = μ7) ?_ ?_
      · simp_arith only [id_eq]
        exact ⟨by (first | exact mulOk (by omega) (by omega) (by omega) (by omega) | exact divOk (by omega) (by omega) | exact powOk (by omega) (by omega) (by omega) (by omega) | exact strOk' (by omega) (by omega) | assumption | omega | decide), by rw [hgg]⟩
      rintro δ8 _ ⟨e8, e0⟩
      replace e0 := e0.symm
      subst e0
      refine wS_cut (fun δ μ' => ∃ (r : Int) (μa : Mem), δ = δ8 ∧ Iv c ws (2 * i) A o μa S ∧ μ' = μa.set o (.dK (encI D.int (aput S.ranks g r))) ∧ SrcAt μa n (42 + 5 * i + 1)) ?_ ?_
      · subst e8
        simp_arith only [id_eq]
        refine (draw_ok s7 (by omega) (by omega) (by omega)).go ?_
        rintro _ μ8 ⟨r, rfl, r0, r1, s8, f8⟩
        have I8 := I7.src f8 ⟨n7, hno⟩
        have lko := hkk I8
        have e0 := encI_put D.int S.ranks g (r - 1)
        simp_arith only [↓wC_of I8.ro, enc_len, lko, e0]
        have := I8.sz.2.1
        exact ⟨by omega, _, μ8, I8, rfl, s8⟩
      rintro δ9 _ ⟨r, μa, e9, Ia, rfl, sa⟩
      have lo := at_lt Ia.ro
      have fo : Fr [o] μa (μa.set o (.dK (encI D.int (aput S.ranks g r)))) := Fr.set1 _ _ _
      have h13 := Ia.h.fr fo (by intro k hk; simp; rintro rfl; exact Ia.fo hk)
      have hr13 : (μa.set o (.dK (encI D.int (aput S.ranks g r)))).cells[o]? = some (.dK (encI D.int (aput S.ranks g r))) := at_set lo
      have eg : kget (encI D.int (aput S.ranks g r)) (.inl g) = some (.int r) := by rw [encI_get, aget_put, if_pos rfl]; rfl
      have sa' := sa.fr fo (by simp; exact hno)
      refine wS_cut (fun δ μ' => δ = δ8 ∧ Iv c ws (2 * i + 1) A o μ' (S.rank g r) ∧ SrcAt μ' n (42 + 5 * i + 1)) ?_ ?_
      · rw [e9, e8]
        simp_arith only [↓wC_of h13.hh, ↓wC_of hr13, ↓qO_of eg]
        refine (rank_ok h13 g r Ia.sz (by omega)).go ?_
        rintro _ μ14 ⟨rfl, t⟩
        exact ⟨Ia.ranked t, sa'.fr t.f n7⟩
      rintro δ10 μ10 ⟨e10, I10, s10⟩
      have n10 : n ∉ foot A (S.rank g r) := n7
      rw [e10, e8]
      simp_arith only [↓wC_of I10.h.hh, List.length_map]
      refine (draw_ok s10 (by omega) (by omega) (by omega)).go ?_
      rintro _ μ11 ⟨x, rfl, x0, x1, s11, f11⟩
      have I11 := I10.src f11 ⟨n10, hno⟩
      simp_arith only [id_eq]
      refine (draw_ok s11 (by omega) (by omega) (by omega)).go ?_
      rintro _ μ12 ⟨y, rfl, y0, y1, s12, f12⟩
      have I12 := I11.src f12 ⟨n10, hno⟩
      have hxy0 : 0 ≤ x * y := Int.mul_nonneg x0 y0
      have hxy1 : x * y < ws.length := by
        have hy : y = 0 ∨ y = 1 := by omega
        rcases hy with rfl | rfl
        · simp; omega
        · simpa using x1
      obtain ⟨w, hw, _, ew⟩ := w_pick D.str hxy0 hxy1
      simp_arith only [↓qO_of ew, ↓wC_of I12.h.hh]
      refine ⟨by (first | exact mulOk (by omega) (by omega) (by omega) (by omega) | exact divOk (by omega) (by omega) | exact powOk (by omega) (by omega) (by omega) (by omega) | exact strOk' (by omega) (by omega) | assumption | omega | decide), ?_⟩
      refine (sleep_in I12.h (show g ∉ (S.rank g r).beds.map (·.1) from hg) (I12.num w hw) 0 none (by omega) I12.sz (by omega)).go ?_
      rintro _ μ13 ⟨_, t⟩
      obtain ⟨I13, k13⟩ := I12.slept hw aput_keys_self t
      refine ⟨_, _, _, rfl, I13.mono (by omega), (s12.fr t.f n10).mono (by omega), out_to t s12.lt n10, fun p hp => ?_⟩
      have : p.1 ∈ (S.rank g r).beds.map (·.1) ++ [g] := by rw [← k13]; exact List.mem_map_of_mem (f := (·.1)) hp
      rcases List.mem_append.mp this with h | h
      · obtain ⟨q, hq, e⟩ := List.mem_map.mp h
        obtain ⟨j, hj, e'⟩ := hk q hq
        exact ⟨j, by omega, by rw [← e]; exact e'⟩
      · exact ⟨i, by omega, by rw [List.mem_singleton.mp h, hgg]⟩
    · rintro δ μ7 ⟨x6, x10, S, rfl, I7, s7, n7, hk⟩
      refine ⟨x6, x10, S, rfl, I7.mono (by omega), fun p hp => ?_⟩
      obtain ⟨j, hj, e⟩ := hk p hp
      omega
  rintro δ6 μ6 ⟨x6, x10, S6, e6, I6, b6⟩
  refine wS_cut (fun δ μ' => ∃ (x1 x6 x10 x11 x12 : Option D) (S : HS) (n : Nat), δ = [some (.lst (ns.map D.int)), some (.loc n), some (.lst (ws.map D.str)), some (.loc A.a), some (.int kd), some (.loc o), x6, none, none, none, x10, x11, x12] ∧ Iv c ws 400 A o μ' S ∧ SrcAt μ' n 100 ∧ n ∉ foot A S ∧ n ≠ o) ?_ ?_
  · subst e6
    simp_arith only [List.length_map]
    refine ⟨by omega, ?_⟩
    refine w_range (fun i δ μ' => ∃ (x1 x6 x10 x11 x12 : Option D) (S : HS), δ = [some (.lst (ns.map D.int)), x1, some (.lst (ws.map D.str)), some (.loc A.a), some (.int kd), some (.loc o), x6, none, none, none, x10, x11, x12] ∧ Iv c ws (40 + 4 * i) A o μ' S ∧ (∀ p ∈ S.beds, p.1 < 901 + i) ∧ (i ≠ 0 → ∃ n, x1 = some (.loc n) ∧ SrcAt μ' n 100 ∧ n ∉ foot A S ∧ n ≠ o)) _ _ ⟨_, _, _, _, _, S6, rfl, I6, fun p hp => by have := b6 p hp; omega, fun h => absurd rfl h⟩ ?_ ?_
    · rintro i δ μ9 hi ⟨x1, x6, x10, x11, x12, S, rfl, I9, hk, _⟩
      have hi2 : i < 62 := by omega
      simp only [wG_set0, wG_setS]
      refine wS_cut (fun δ μ' => ∃ n, δ = [some (.lst (ns.map D.int)), some (.loc n), some (.lst (ws.map D.str)), some (.loc A.a), some (.int kd), some (.loc o), some (.int (1 + (i : Int))), none, none, none, x10, x11, x12] ∧ SrcAt μ' n 0 ∧ Iv c ws (40 + 4 * i) A o μ' S ∧ n ∉ foot A S ∧ n ≠ o) ?_ ?_
      · simp_arith only [id_eq]
        refine (source_ok (by omega) (by omega) hn).go ?_
        rintro _ μ10 ⟨rfl, s10, f10⟩
        have lo := at_lt I9.ro
        exact ⟨_, rfl, s10, I9.fr f10 (by simp), fun hm => by have := I9.h.lt hm; omega, by omega⟩
      rintro δ1 μ10 ⟨n, e1, s10, I10, n10, hno⟩
      refine wS_cut (fun δ μ' => ∃ y : Int, δ = [some (.lst (ns.map D.int)), some (.loc n), some (.lst (ws.map D.str)), some (.loc A.a), some (.int kd), some (.loc o), some (.int (1 + (i : Int))), none, none, none, x10, some (.int y), x12] ∧ SrcAt μ' n 1 ∧ Iv c ws (40 + 4 * i) A o μ' S) ?_ ?_
      · subst e1
        simp_arith only [id_eq]
        refine (draw_ok s10 (by omega) (by omega) (by omega)).go ?_
        rintro _ μ11 ⟨y, rfl, y0, y1, s11, f11⟩
        exact ⟨y, rfl, s11, I10.src f11 ⟨n10, hno⟩⟩
      rintro δ2 μ11 ⟨y, e2, s11, I11⟩
      have hz := I11.sz.1
      refine wS_cut (fun δ μ' => ∃ l, δ = [some (.lst (ns.map D.int)), some (.loc n), some (.lst (ws.map D.str)), some (.loc A.a), some (.int kd), some (.loc o), some (.int (1 + (i : Int))), none, none, none, x10, some (.int y), some (.loc l)] ∧ SrcAt μ' n 1 ∧ Iv c ws (40 + 4 * i) A o μ' S ∧ μ'.cells[l]? = some (.lst ((sortInts (S.beds.map (·.1))).map D.int)) ∧ l ∉ foot A S ∧ l ≠ o ∧ l ≠ n ∧ l < μ'.cells.length) ?_ ?_
      · subst e2
        simp_arith only [↓wC_of I11.h.hh]
        refine (asleep_ok I11.h (by omega)).go ?_
        rintro _ _ ⟨rfl, rfl⟩
        have lo := at_lt I11.ro
        have ln := s11.lt
        exact ⟨_, rfl, s11.push _, I11.fr (Fr.push [] _ _) (by simp), at_push, fun hm => by have := I11.h.lt hm; omega, by omega, by omega, by rw [len_push]; omega⟩
      rintro δ3 μ12 ⟨l, e3, s12, I12, c12, l1, l2, l3, l4⟩
      refine wS_cut (fun δ μ' => ∃ (x10 : Option D) (S' : HS), δ = [some (.lst (ns.map D.int)), some (.loc n), some (.lst (ws.map D.str)), some (.loc A.a), some (.int kd), some (.loc o), some (.int (1 + (i : Int))), none, none, none, x10, some (.int y), some (.loc l)] ∧ SrcAt μ' n 5 ∧ Iv c ws (40 + 4 * i + 2) A o μ' S' ∧ n ∉ foot A S' ∧ (∀ p ∈ S'.beds, p.1 < 902 + i) ∧ (y ≠ 0 → S' = S) ∧ μ'.cells[l]? = some (.lst ((sortInts (S.beds.map (·.1))).map D.int))) ?_ ?_
      · subst e3
        rw [wS_if]
        by_cases hy : y = 0
        · subst hy
          have hgn : 900 + (1 + (i : Int)) ∉ S.beds.map (·.1) := fun hm => by
            obtain ⟨p, hp, e⟩ := List.mem_map.mp hm
            have := hk p hp
            omega
          generalize hgg : 900 + (1 + (i : Int)) = g at *
          simp_arith only [beq_self_eq_true]
          rw [hgg]
          refine (draw_ok s12 (by omega) (by omega) (by omega)).go ?_
          rintro _ μ13 ⟨r, rfl, r0, r1, s13, f13⟩
          have Ia := I12.src f13 ⟨n10, hno⟩
          have lko := hkk Ia
          have e0 := encI_put D.int S.ranks g (r - 1)
          have lo := at_lt Ia.ro
          have fo : Fr [o] μ13 (μ13.set o (.dK (encI D.int (aput S.ranks g (r - 1))))) := Fr.set1 _ _ _
          have h13 := Ia.h.fr fo (by intro k hk; simp; rintro rfl; exact Ia.fo hk)
          have hr13 : (μ13.set o (.dK (encI D.int (aput S.ranks g (r - 1))))).cells[o]? = some (.dK (encI D.int (aput S.ranks g (r - 1)))) := at_set lo
          have eg : kget (encI D.int (aput S.ranks g (r - 1))) (.inl g) = some (.int (r - 1)) := by rw [encI_get, aget_put, if_pos rfl]; rfl
          have s13' := s13.fr fo (by simp; exact hno)
          have c13 := fo.get (f13.get c12 (by simp; exact l3)) (by simp; exact l2)
          simp_arith only [↓wC_of Ia.ro, enc_len, lko, e0]
          refine ⟨by have := Ia.sz.2.1; omega, ?_⟩
          generalize hμ : μ13.set o (.dK (encI D.int (aput S.ranks g (r - 1)))) = μ14 at *
          simp_arith only [↓wC_of h13.hh, ↓wC_of hr13, ↓qO_of eg]
          refine (rank_ok h13 g (r - 1) Ia.sz (by omega)).go ?_
          rintro _ μ15 ⟨rfl, t⟩
          have I15 := Ia.ranked (hμ ▸ t)
          have s15 := s13'.fr t.f n10
          have c15 := t.f.get c13 l1
          simp_arith only [↓wC_of I15.h.hh, List.length_map]
          refine (draw_ok s15 (by omega) (by omega) (by omega)).go ?_
          rintro _ μ16 ⟨x, rfl, x0, x1, s16, f16⟩
          have I16 := I15.src f16 ⟨n10, hno⟩
          have c16 := f16.get c15 (by simp; exact l3)
          obtain ⟨w, hw, _, ew⟩ := w_pick D.str x0 x1
          simp_arith only [↓qO_of ew, ↓wC_of I16.h.hh]
          refine (sleep_in I16.h (show g ∉ (S.rank g (r - 1)).beds.map (·.1) from hgn) (I16.num w hw) 0 none (by omega) I16.sz (by omega)).go ?_
          rintro _ μ17 ⟨_, t2⟩
          obtain ⟨I17, k17⟩ := I16.slept hw aput_keys_self t2
          refine ⟨_, _, rfl, (s16.fr t2.f n10).mono (by omega), I17, out_to t2 s16.lt n10, fun p hp => ?_, (fun z => by first | exact z.elim | exact absurd rfl z), t2.f.get c16 l1⟩
          have : p.1 ∈ (S.rank g (r - 1)).beds.map (·.1) ++ [g] := by rw [← k17]; exact List.mem_map_of_mem (f := (·.1)) hp
          rcases List.mem_append.mp this with h | h
          · obtain ⟨q, hq, e⟩ := List.mem_map.mp h
            have := hk q hq
            omega
          · have := List.mem_singleton.mp h
            omega
        · have hy' : (y == 0) = false := by simpa using hy
          simp_arith only [hy']
          exact ⟨_, S, rfl, s12.mono (by omega), I12.mono (by omega), n10, fun p hp => by have := hk p hp; omega, (fun _ => by first | rfl | trivial), c12⟩
      rintro δ4 μ13 ⟨x10', S', e4, s13, I13, n13, hk13, hS', c13⟩
      refine wS_cut (fun δ μ' => ∃ (S' : HS), δ = [some (.lst (ns.map D.int)), some (.loc n), some (.lst (ws.map D.str)), some (.loc A.a), some (.int kd), some (.loc o), some (.int (1 + (i : Int))), none, none, none, x10', some (.int y), some (.loc l)] ∧ SrcAt μ' n 6 ∧ Iv c ws (40 + 4 * i + 3) A o μ' S' ∧ n ∉ foot A S' ∧ (∀ p ∈ S'.beds, p.1 < 902 + i)) ?_ ?_
      · subst e4
        rw [wS_if]
        by_cases hy : y = 1
        · have eS := hS' (by omega)
          subst eS
          subst hy
          have ni := nice_ints (sortInts (S'.beds.map (·.1)))
          have n0 : nice 8 (.lst []) = true := rfl
          simp_arith only [beq_self_eq_true, ↓w_ne_loc c13 ni n0]
          cases hL : sortInts (S'.beds.map (·.1)) with
          | nil =>
            have e : D.eqv (.lst (([] : List Int).map D.int)) (.lst []) = true := rfl
            simp_arith only [e]
            exact ⟨S', s13.mono (by omega), I13.mono (by omega), n13, hk13⟩
          | cons u us =>
            have e : D.eqv (.lst ((u :: us).map D.int)) (.lst []) = false := rfl
            rw [hL] at c13
            have hlen : (sortInts (S'.beds.map (·.1))).length = S'.beds.length := by
              unfold sortInts
              rw [(List.mergeSort_perm _ _).length_eq]; simp
            rw [hL] at hlen
            have hz13 := I13.sz.1
            simp_arith only [e, ↓wC_of I13.h.hh, ↓wC_of c13, List.length_map]
            refine (draw_ok s13 (by omega) (by simp) (by simp only [List.length_cons] at hlen ⊢; omega)).go ?_
            rintro _ μ14 ⟨x, rfl, x0, x1, s14, f14⟩
            have I14 := I13.src f14 ⟨n13, hno⟩
            have c14 := f14.get c13 (by simp; exact l3)
            obtain ⟨g, hg, _, eg⟩ := w_pick D.int (xs := u :: us) x0 x1
            have hgb : g ∈ S'.beds.map (·.1) := by
              rw [← hL] at hg
              exact (List.mergeSort_perm _ _).mem_iff.mp hg
            simp_arith only [↓wC_of c14, ↓qO_of eg, ↓wC_of I14.h.hh]
            refine (nudge_in I14.h hgb I14.sz (by omega)).go ?_
            rintro _ μ15 ⟨rfl, t⟩
            exact ⟨_, (s14.fr t.f n13).mono (by omega), I14.nudged hgb t, out_to t s14.lt n13, fun p hp => hk13 p (List.mem_filter.mp hp).1⟩
        · have hy' : (y == 1) = false := by simpa using hy
          simp_arith only [hy']
          exact ⟨S', s13.mono (by omega), I13.mono (by omega), n13, hk13⟩
      rintro δ5 μ14 ⟨S'', e5, s14, I14, n14, hk14⟩
      subst e5
      simp_arith only [id_eq]
      refine (moved_well_ok I14 s14 (by omega) (by omega) ⟨n14, hno⟩ (by omega) hw1 (by omega) hwn).go ?_
      rintro _ μ15 ⟨rfl, S3, I15, s15, n15, k15⟩
      simp_arith only [id_eq]
      refine ⟨_, _, _, _, _, S3, rfl, I15.mono (by omega), fun p hp => ?_, fun _ => ⟨n, rfl, s15.mono (by omega), n15⟩⟩
      obtain ⟨q, hq, e⟩ := List.mem_map.mp (k15 p hp)
      have := hk14 q hq
      omega
    · rintro δ μ9 ⟨x1, x6, x10, x11, x12, S, rfl, I9, hk, hx1⟩
      obtain ⟨n, rfl, s9, n9⟩ := hx1 (by omega)
      exact ⟨none, _, _, _, _, S, n, rfl, I9.mono (by omega), s9, n9⟩
  rintro δ7 μ7 ⟨x1, x6, x10, x11, x12, S, n, e7, I7, s7, n7, hno⟩
  refine wS_cut (fun δ μ' => ∃ w ∈ ws, δ = [some (.lst (ns.map D.int)), some (.loc n), some (.lst (ws.map D.str)), some (.loc A.a), some (.int kd), some (.loc o), x6, some (.str w), none, none, x10, x11, x12] ∧ Iv c ws 400 A o μ' S) ?_ ?_
  · subst e7
    simp_arith only [List.length_map]
    refine (draw_ok s7 (by omega) (by omega) (by omega)).go ?_
    rintro _ μ8 ⟨x, rfl, x0, x1, s8, f8⟩
    obtain ⟨w, hw, _, ew⟩ := w_pick D.str x0 x1
    simp_arith only [↓qO_of ew]
    exact ⟨w, hw, rfl, I7.src f8 ⟨n7, hno⟩⟩
  rintro δ8 μ8 ⟨w, hw, e8, I8⟩
  have hz := I8.sz.1
  have hll := lineB_len (S := S) w
  refine wS_cut (fun δ μ' => ∃ l, δ = [some (.lst (ns.map D.int)), some (.loc n), some (.lst (ws.map D.str)), some (.loc A.a), some (.int kd), some (.loc o), x6, some (.str w), some (.loc l), none, x10, x11, x12] ∧ Iv c ws 400 A o μ' S ∧ μ'.cells[l]? = some (.lst ((S.line w).map D.int)) ∧ l ∉ foot A S ∧ l < μ'.cells.length) ?_ ?_
  · subst e8
    simp_arith only [↓wC_of I8.h.hh]
    refine (line_ok I8.h (I8.key hw) (by omega)).go ?_
    rintro _ _ ⟨rfl, rfl⟩
    exact ⟨_, rfl, I8.fr (Fr.push [] _ _) (by simp), at_push, fun hm => by have := I8.h.lt hm; omega, by rw [len_push]; omega⟩
  rintro δ9 μ9 ⟨l, e9, I9, c9, l9, ll9⟩
  refine wS_cut (fun δ μ' => δ = [some (.lst (ns.map D.int)), some (.loc n), some (.lst (ws.map D.str)), some (.loc A.a), some (.int kd), some (.loc o), x6, some (.str w), some (.loc l), some (.lst []), x10, x11, x12] ∧ μ' = μ9) ?_ ?_
  · subst e9
    simp_arith only [id_eq]
  rintro δ10 _ ⟨e10, e0⟩
  replace e0 := e0.symm
  subst e0
  have hLn : (S.line w).length = (S.lineB w).length := by unfold HS.line; rw [List.length_map]
  refine wS_cut (fun δ μ' => ∃ (x6 : Option D) (S' : HS), δ = [some (.lst (ns.map D.int)), some (.loc n), some (.lst (ws.map D.str)), some (.loc A.a), some (.int kd), some (.loc o), x6, some (.str w), some (.loc l), some (.lst ((S.line w).map D.int)), x10, x11, x12] ∧ Iv c ws 900 A o μ' S' ∧ S'.lineB w = [] ∧ μ'.cells[l]? = some (.lst ((S.line w).map D.int)) ∧ l ∉ foot A S') ?_ ?_
  · subst e10
    simp_arith only [↓wC_of c9, List.length_map]
    refine ⟨by omega, ?_⟩
    rw [Int.toNat_natCast]
    refine w_range (fun i δ μ' => ∃ (x6 : Option D) (S' : HS), δ = [some (.lst (ns.map D.int)), some (.loc n), some (.lst (ws.map D.str)), some (.loc A.a), some (.int kd), some (.loc o), x6, some (.str w), some (.loc l), some (.lst (((S.line w).take i).map D.int)), x10, x11, x12] ∧ Iv c ws (400 + i) A o μ' S' ∧ S'.lineB w = (S.lineB w).drop i ∧ μ'.cells[l]? = some (.lst ((S.line w).map D.int)) ∧ l ∉ foot A S' ∧ l < μ'.cells.length) _ _ ⟨x6, S, rfl, I9, rfl, c9, l9, ll9⟩ ?_ ?_
    · rintro i δ μ11 hi ⟨x6, S', rfl, I11, hl11, c11, l11, ll11⟩
      have hi400 : i < 400 := by omega
      simp only [wG_set0, wG_setS]
      simp_arith only [↓wC_of I11.h.hh]
      refine (wake_in I11.h (I11.key hw) (by omega) (by omega) I11.sz (by omega)).go ?_
      rintro _ μ12 ⟨l', rfl, h1, h2, h3, t⟩
      obtain ⟨I12, w1, w2⟩ := I11.woke t
      rw [w1, hl11] at h3
      have ecat : ((S.line w).take i).map D.int ++ (((S.lineB w).drop i).take 1).map (fun p => D.int p.1) = ((S.line w).take (i + 1)).map D.int := by
        have e1 : (((S.lineB w).drop i).take 1).map (fun p => D.int p.1) = (((S.line w).drop i).take 1).map D.int := by
          unfold HS.line
          rw [← List.map_drop, ← List.map_take, List.map_map]; rfl
        rw [e1, ← List.map_append, List.take_add]
      simp_arith only [↓w_addR h3, List.length_map]
      refine ⟨by simp only [List.length_take, List.length_drop]; omega, some (.int (0 + (i : Int))), S'.wake w 1 255, ?_, I12.mono (by omega), ?_, t.f.get c11 l11, out_to t ll11 l11, Nat.lt_of_lt_of_le ll11 t.f.le⟩
      · rw [ecat]
      · rw [w2, hl11, List.drop_drop]
    · rintro δ μ11 ⟨x6, S', rfl, I11, hl11, c11, l11, ll11⟩
      refine ⟨x6, S', ?_, I11.mono (by omega), ?_, c11, l11⟩
      · rw [List.take_length]
      · rw [hl11, hLn, List.drop_length]
  rintro δ11 μ11 ⟨x6, S', e11, I11, hl11, c11, l11⟩
  have ni := nice_ints (S.line w)
  have n0 : nice 8 (.lst []) = true := rfl
  have e00 : D.eqv (.lst []) (.lst []) = true := rfl
  have eL : S'.line w = [] := by unfold HS.line; rw [hl11]; rfl
  subst e11
  simp_arith only [↓w_eq_rs (μ := μ11) (d := .lst ((S.line w).map D.int)) (e := .loc l) rfl (rsv_nice μ11 8 _ ni) (rsv_loc c11 ni) (fits_nice ni (by decide)) (fits_nice ni (by decide)), eqv_nice ni, ↓wC_of I11.h.hh]
  refine (line_ok I11.h (I11.key hw) (by have := I11.sz.1; omega)).go ?_
  rintro _ _ ⟨rfl, rfl⟩
  have cp : (μ11.push (.lst ((S'.line w).map D.int))).cells[μ11.cells.length]? = some (.lst []) := by rw [eL]; exact at_push
  have I12 := I11.fr (Fr.push [] _ (.lst ((S'.line w).map D.int))) (by simp)
  simp_arith only [↓w_eq_loc cp n0 n0, e00, ↓wC_of I12.h.hh]
  refine (wake_in I12.h (I12.key hw) (by omega) (by omega) I12.sz (by omega)).go ?_
  rintro _ μ13 ⟨l', rfl, h1, h2, h3, t⟩
  obtain ⟨_, w1, _⟩ := I12.woke t
  rw [w1, hl11] at h3
  have h3' : μ13.cells[l']? = some (.lst []) := h3
  simp_arith only [↓w_eq_loc h3' n0 n0, e00]
end K16
theorem PySem.Challenge.cw_dozehall_k16_whole_moved_keep_order_holds : PySem.Challenge.rw_dozehall_k16_whole_moved_keep_order.Holds :=
  K16.holds fun K _ ns hn => by
    obtain ⟨v, μ, e, rfl⟩ := Doz.wR.of (K16.law_ok (Doz.clOf K) ns hn)
    exact ⟨μ, e⟩
end
end
