import PyProof.Rows.All
import Wide.All
import OpenK.AllK
import Wide.FinOn
import HandS.ForMost
import HandS.ForExc
import HandS.Wide
import HandS.Flow
import HandS.CallSlots
import HandS.Defaults
import HandS.IsInst
import HandS.Deep
import HandS.RaiseMore
import HandS.More
import HandS.TupAny
import HandS.DictComp
import HandS.Finally
import HandS.Rev
import HandS.Text
import HandS.MakeKwOnly
import KE.OsGo
import KE.KStateDown
import HandS.Ends
import HandS.Words
import HandS.WordsExc
import HandS.Head0
import HandS.Head1
import HandS.Head2
import HandS.HeadEnd
import HandS.HeadHook1
import HandS.HeadHook2
import HandS.Keys
import KE.SortKeyHeap
import HandS.SortInts
import KE.FramesApart
import HandS.SortKw
import PyProof.CollectIter
import PyProof.WalksMore
import PyProof.StrBlock2
import PyProof.Rows.StrMul
import PyProof.Rows.StrJoinRep
import HandS.NoneIn
import HandS.TupMul
import KE.KExcIs
import KE.KIsAll
import KE.GoesZip
import KE.GoesMore
import HandS.Conv
import HandS.SetKeys
import HandS.TupLe
import KE.GoesEnum
import HandS.Dict
import HandS.RaiseFrom
import HandS.SuiteRaise
import OpenK.KOps
import HandS.FStr
import KE.KCallOwn
import HandS.HeadHook3
import HandS.CallLocal
import HandS.RevRange
import HandS.HotCalls
import PySem.Challenge.RW_dozehall_k62_books_of_names
set_option Elab.async false
set_option linter.all false
set_option maxRecDepth 100000
set_option maxHeartbeats 4000001
section
namespace Doz
open PySem L2
inductive D where
  | non | bl (b : Bool) | int (i : Int) | str (x : Str) | tup (ds : List D) | lst (ds : List D) | loc (n : Nat) | sta (a : Addr) | ty (n : String)
inductive Cell where
  | lst (ds : List D) | dK (kds : List (Key × D)) | dT (kds : List (List Key × D)) | ins (C : Addr) (fs : List (Str × D)) | dead
structure Mem where
  cells : List Cell
  lk : List Nat := []
abbrev DEnv := List (Option D)
inductive Res (α : Type) where
  | ok (a : α) (μ : Mem) | err (C : Addr) (w : D) (μ : Mem) | bad
def Res.bind {α β : Type} (r : Res α) (k : α → Mem → Res β) : Res β := match r with
  | .ok a μ => k a μ
  | .err C w μ => .err C w μ
  | .bad => .bad
abbrev MX (α : Type) := DEnv → Mem → Res α
abbrev ME := MX D
inductive SRes where
  | nx (δ : DEnv) (μ : Mem) | rt (d : D) (μ : Mem) | bk (δ : DEnv) (μ : Mem) | ct (δ : DEnv) (μ : Mem) | err (C : Addr) (w : D) (δ : DEnv) (μ : Mem) | bad
abbrev MS := DEnv → Mem → SRes
def PT (K : PySem.W.Frag) (H : Hp) (a : Addr) (xs : List V) : Prop := H a = some (.tup xs) ∨
    ∃ (o : Obj) (its : Array Value) (n : Nat), K.lookup a = some o ∧ o.cls = .type "tuple" ∧ o.data = .seq its n ∧ its.size ≤ sizeLine ∧ Vals xs its.toList
def StL (K : PySem.W.Frag) (a : Addr) (xs : List V) : Prop := ∃ (its : List Value) (n : Nat), K.lookup a = some { cls := .type "list", data := .seq its.toArray n } ∧ its.length ≤ sizeLine ∧ Vals xs its
def PL (K : PySem.W.Frag) (H : Hp) (a : Addr) (xs : List V) : Prop := (∃ o, H a = some (.frz o (.lst xs))) ∨ StL K a xs
def LsR (K : PySem.W.Frag) (H : Hp) (a : Addr) (xs : List V) : Prop := Rd H a (.lst xs) ∨ StL K a xs
theorem PT.sq {K : PySem.W.Frag} {H : Hp} {a : Addr} {xs : List V} (h : PT K H a xs) : SqT K H a xs := h.elim (fun h => .inl (.inl h)) .inr
theorem LsR.sq {K : PySem.W.Frag} {H : Hp} {a : Addr} {xs : List V} (h : LsR K H a xs) : SqL K H a xs := h.elim .inl fun ⟨its, n, h, hz, r⟩ => .inr ⟨_, its.toArray, n, h, rfl, rfl, rfl, by simpa using hz, by simpa using r⟩
theorem PL.ls {K : PySem.W.Frag} {H : Hp} {a : Addr} {xs : List V} (h : PL K H a xs) : LsR K H a xs := h.elim (fun h => .inl (.inr h)) .inr
mutual
def DV (K : PySem.W.Frag) (ρ : List Addr) (H : Hp) : D → V → Prop
  | .non, v => v = .non
  | .bl b, v => v = .bl b
  | .int i, v => v = .int i
  | .str x, v => v = .str x
  | .tup ds, v => ∃ a vs, v = .ref a ∧ PT K H a vs ∧ DVs K ρ H ds vs
  | .lst ds, v => ∃ a vs, v = .ref a ∧ PL K H a vs ∧ DVs K ρ H ds vs
  | .loc n, v => ∃ a, ρ[n]? = some a ∧ v = .ref a
  | .sta a, v => v = .ref a
  | .ty n, v => v = .ty n
def DVs (K : PySem.W.Frag) (ρ : List Addr) (H : Hp) : List D → List V → Prop
  | [], vs => vs = []
  | d :: ds, vs => ∃ v r, vs = v :: r ∧ DV K ρ H d v ∧ DVs K ρ H ds r
end
structure Fz0 (H H' : Hp) : Prop where
  tups : ∀ b xs, H b = some (.tup xs) → H' b = some (.tup xs)
  frzs : ∀ b o u, H b = some (.frz o u) → H' b = some (.frz o u)
structure Fz (ρ ρ' : List Addr) (H H' : Hp) : Prop extends Fz0 H H' where
  fr : ∀ b, b ∈ ρ' → b ∉ ρ → H b = none
  keep : ∀ b o, b ∉ ρ → H b = some o → H' b = some o
  dom : ∀ b, H' b = none → H b = none
instance {ρ ρ' : List Addr} {H H' : Hp} : CoeOut (Fz ρ ρ' H H') (Fz0 H H') := ⟨Fz.toFz0⟩
theorem Fz0.refl (H : Hp) : Fz0 H H := ⟨fun _ _ h => h, fun _ _ _ h => h⟩
theorem Fz0.trans {H H1 H2 : Hp} (a : Fz0 H H1) (b : Fz0 H1 H2) : Fz0 H H2 := ⟨fun c xs h => b.tups c xs (a.tups c xs h), fun c o xs h => b.frzs c o xs (a.frzs c o xs h)⟩
theorem Fz0.new {H : Hp} {p : Addr} {o : HO} (h : H p = none) : Fz0 H (upd H p o) :=
  ⟨fun b xs e => by rw [upd_ne (ne_of_none e h)]; exact e, fun b ob xs e => by rw [upd_ne (ne_of_none e h)]; exact e⟩
theorem Fz0.mut {H : Hp} {p : Addr} {o u : HO} (h : H p = some u) (h1 : ∀ xs, u ≠ .tup xs) (h2 : ∀ ob w, u ≠ .frz ob w) : Fz0 H (upd H p o) :=
  ⟨fun b xs e => by rw [upd_ne (ne_of e h (Ne.symm (h1 xs)))]; exact e, fun b ob xs e => by rw [upd_ne (ne_of e h (Ne.symm (h2 ob xs)))]; exact e⟩
theorem upd_dom {H : Hp} {p b : Addr} {o : HO} (h : upd H p o b = none) : H b = none := by
  by_cases e : b = p
  · subst e; rw [upd_same] at h; cases h
  · rwa [upd_ne e] at h
theorem Fz.refl {ρ : List Addr} (H : Hp) : Fz ρ ρ H H := ⟨Fz0.refl H, fun _ h n => absurd h n, fun _ _ _ h => h, fun _ h => h⟩
theorem Fz.trans {ρ ρ1 ρ2 : List Addr} {H H1 H2 : Hp} (a : Fz ρ ρ1 H H1) (b : Fz ρ1 ρ2 H1 H2) : Fz ρ ρ2 H H2 :=
  ⟨a.toFz0.trans b.toFz0, fun c h n => by
    by_cases m : c ∈ ρ1
    · exact a.fr c m n
    · exact a.dom c (b.fr c h m), fun c o n h => by
    refine b.keep c o (fun m => ?_) (a.keep c o n h)
    exact (nomatch ((a.fr c m n).symm.trans h)), fun c h => a.dom c (b.dom c h)⟩
theorem Fz.new {ρ : List Addr} {H : Hp} {p : Addr} {o : HO} (h : H p = none) : Fz ρ ρ H (upd H p o) :=
  ⟨Fz0.new h, fun _ h n => absurd h n, fun b _ _ e => by rw [upd_ne (ne_of_none e h)]; exact e, fun _ => upd_dom⟩
theorem Fz.newA {ρ : List Addr} {H : Hp} {p : Addr} {o : HO} (h : H p = none) : Fz ρ (ρ ++ [p]) H (upd H p o) :=
  ⟨Fz0.new h, fun b hb n => by
    rcases List.mem_append.mp hb with hb | hb
    · exact absurd hb n
    · rw [List.mem_singleton.mp hb]; exact h, fun b _ _ e => by rw [upd_ne (ne_of_none e h)]; exact e, fun _ => upd_dom⟩
theorem Fz.mut {ρ : List Addr} {H : Hp} {p : Addr} {o u : HO} {n : Nat} (hr : ρ[n]? = some p) (h : H p = some u) (h1 : ∀ xs, u ≠ .tup xs) (h2 : ∀ ob w, u ≠ .frz ob w) : Fz ρ ρ H (upd H p o) :=
  ⟨Fz0.mut h h1 h2, fun _ h n => absurd h n, fun b _ n e => by
    rw [upd_ne (fun z => n (by rw [z]; exact List.mem_of_getElem? hr))]; exact e, fun _ => upd_dom⟩
theorem Fz.late {ρ ρ' : List Addr} {H H' : Hp} {p : Addr} {o : HO} (f : Fz ρ ρ' H H') (hp : H p = none) : Fz ρ ρ' H (upd H' p o) :=
  ⟨⟨fun b xs e => by rw [upd_ne (ne_of_none e hp)]; exact f.tups b xs e, fun b ob xs e => by rw [upd_ne (ne_of_none e hp)]; exact f.frzs b ob xs e⟩, f.fr,
    fun b ob n e => by rw [upd_ne (ne_of_none e hp)]; exact f.keep b ob n e, fun _ h => f.dom _ (upd_dom h)⟩
theorem Fz.lateA {ρ ρ' : List Addr} {H H' : Hp} {p : Addr} (f : Fz ρ ρ' H H') (hp : H p = none) : Fz ρ (ρ' ++ [p]) H H' :=
  ⟨f.toFz0, fun b hb n => by
    rcases List.mem_append.mp hb with hb | hb
    · exact f.fr b hb n
    · rw [List.mem_singleton.mp hb]; exact hp, f.keep, f.dom⟩
theorem PT.mono {K : PySem.W.Frag} {H H' : Hp} {a : Addr} {xs : List V} (f : Fz0 H H') (h : PT K H a xs) : PT K H' a xs := h.elim (fun h => .inl (f.tups a xs h)) .inr
theorem PL.mono {K : PySem.W.Frag} {H H' : Hp} {a : Addr} {xs : List V} (f : Fz0 H H') (h : PL K H a xs) : PL K H' a xs := h.elim (fun ⟨o, h⟩ => .inl ⟨o, f.frzs a o _ h⟩) .inr
def Pre (ρ ρ' : List Addr) : Prop := ∀ (n : Nat) a, ρ[n]? = some a → ρ'[n]? = some a
theorem Pre.refl (ρ : List Addr) : Pre ρ ρ := fun _ _ h => h
theorem Pre.trans {a b c : List Addr} (x : Pre a b) (y : Pre b c) : Pre a c := fun n v h => y n v (x n v h)
theorem Pre.app (ρ l : List Addr) : Pre ρ (ρ ++ l) := fun n a h => by
  rw [List.getElem?_append_left (List.getElem?_eq_some_iff.mp h).1]; exact h
mutual
theorem DV.mono0 {K : PySem.W.Frag} {ρ ρ' : List Addr} {H H' : Hp} (p : Pre ρ ρ') (f : Fz0 H H') : ∀ (d : D) (v : V), DV K ρ H d v → DV K ρ' H' d v
  | .non, _, h => by simpa only [DV] using h
  | .bl _, _, h => by simpa only [DV] using h
  | .int _, _, h => by simpa only [DV] using h
  | .str _, _, h => by simpa only [DV] using h
  | .tup ds, _, h => by
    simp only [DV] at h ⊢
    obtain ⟨a, vs, e, h1, h2⟩ := h
    exact ⟨a, vs, e, h1.mono f, DVs.mono0 p f ds vs h2⟩
  | .lst ds, _, h => by
    simp only [DV] at h ⊢
    obtain ⟨a, vs, e, h1, h2⟩ := h
    exact ⟨a, vs, e, h1.mono f, DVs.mono0 p f ds vs h2⟩
  | .loc n, _, h => by
    simp only [DV] at h ⊢
    obtain ⟨a, h1, h2⟩ := h
    exact ⟨a, p n a h1, h2⟩
  | .sta _, _, h => by simpa only [DV] using h
  | .ty _, _, h => by simpa only [DV] using h
theorem DVs.mono0 {K : PySem.W.Frag} {ρ ρ' : List Addr} {H H' : Hp} (p : Pre ρ ρ') (f : Fz0 H H') : ∀ (ds : List D) (vs : List V), DVs K ρ H ds vs → DVs K ρ' H' ds vs
  | [], _, h => by simpa only [DVs] using h
  | d :: ds, _, h => by
    simp only [DVs] at h ⊢
    obtain ⟨v, r, e, h1, h2⟩ := h
    exact ⟨v, r, e, DV.mono0 p f d v h1, DVs.mono0 p f ds r h2⟩
end
theorem DV.mono {K : PySem.W.Frag} {ρ ρ' : List Addr} {H H' : Hp} (p : Pre ρ ρ') (f : Fz ρ ρ' H H') (d : D) (v : V) (h : DV K ρ H d v) : DV K ρ' H' d v := DV.mono0 p f.toFz0 d v h
theorem DVs.mono {K : PySem.W.Frag} {ρ ρ' : List Addr} {H H' : Hp} (p : Pre ρ ρ') (f : Fz ρ ρ' H H') (d : List D) (v : List V) (h : DVs K ρ H d v) : DVs K ρ' H' d v := DVs.mono0 p f.toFz0 d v h
abbrev KDs {κ : Type} (K : PySem.W.Frag) (ρ : List Addr) (H : Hp) : List (κ × D) → List (κ × V) → Prop := Paired fun p q => p.1 = q.1 ∧ DV K ρ H p.2 q.2
theorem KDs.mono0 {κ : Type} {K : PySem.W.Frag} {ρ ρ' : List Addr} {H H' : Hp} (p : Pre ρ ρ') (f : Fz0 H H') {a : List (κ × D)} {b : List (κ × V)} (h : KDs K ρ H a b) : KDs K ρ' H' a b :=
  Paired.mapP h fun _ _ z => ⟨z.1, DV.mono0 p f _ _ z.2⟩
theorem KDs.mono {κ : Type} {K : PySem.W.Frag} {ρ ρ' : List Addr} {H H' : Hp} (p : Pre ρ ρ') (f : Fz ρ ρ' H H') {a : List (κ × D)} {b : List (κ × V)} (h : KDs K ρ H a b) : KDs K ρ' H' a b := h.mono0 p f.toFz0
def Lk (H : Hp) (a : Addr) (l : Bool) (u : HO) : Prop := if l = true then ∃ o, H a = some (.frz o u) else H a = some u
def CellR (K : PySem.W.Frag) (ρ : List Addr) (H : Hp) (l : Bool) (a : Addr) : Cell → Prop
  | .lst ds => ∃ vs, H a = some (.lst vs) ∧ DVs K ρ H ds vs
  | .dK kds => ∃ kvs, Lk H a l (.dK kvs) ∧ KDs K ρ H kds kvs
  | .dT kds => ∃ kvs, Lk H a l (.dT kvs) ∧ KDs K ρ H kds kvs
  | .ins C fs => ∃ dx vs, H a = some (.ins C dx vs) ∧ KDs K ρ H fs vs ∧ Cls K C ∧ (∀ p ∈ fs, NoAttr K C p.1) ∧ fs.length ≤ 1000
  | .dead => ∃ o, H a = some o ∧ ∀ fs, o ≠ .xd fs
def Mem.lkd (μ : Mem) (n : Nat) : Bool := μ.lk.contains n
structure Rel (K : PySem.W.Frag) (ρ : List Addr) (μ : Mem) (H : Hp) : Prop where
  len : ρ.length = μ.cells.length
  nd : ρ.Nodup
  cell : ∀ (n : Nat) a c, ρ[n]? = some a → μ.cells[n]? = some c → CellR K ρ H (μ.lkd n) a c
  lkb : ∀ n ∈ μ.lk, n < μ.cells.length
structure HX where
  i : Nat
  a : Addr
  C : Addr
  dd : Addr
  w : D
  px : Option Obj
structure EnvR (K : PySem.W.Frag) (ρ : List Addr) (H : Hp) (hx : Option HX) (δ : DEnv) (σ : St) : Prop where
  len : δ.length = σ.length
  get : ∀ (i : Nat) d, δ[i]? = some (some d) → ∃ v, σ[i]? = some (some v) ∧ DV K ρ H d v
  exn : ∀ q, hx = some q → σ[q.i]? = some (some (.ref q.a)) ∧ q.dd ∉ ρ ∧ ∃ v, H q.dd = some (.xd [(("what" : Str), v)]) ∧ DV K ρ H q.w v ∧ ∀ oe, q.px = some oe → H q.a = some (.frz oe (.ext fun _ => True))
theorem EnvR.mono {K : PySem.W.Frag} {ρ ρ' : List Addr} {H H' : Hp} {hx : Option HX} {δ : DEnv} {σ : St} (p : Pre ρ ρ') (f : Fz ρ ρ' H H') (e : EnvR K ρ H hx δ σ) : EnvR K ρ' H' hx δ σ :=
  ⟨e.len, fun i d h => let ⟨v, h1, h2⟩ := e.get i d h; ⟨v, h1, h2.mono p f⟩, fun q h => by
    obtain ⟨h1, h2, v, h3, h4⟩ := e.exn q h
    exact ⟨h1, fun z => (nomatch (f.fr _ z h2).symm.trans h3), v, f.keep _ _ h2 h3, h4.1.mono p f, fun oe z => f.frzs _ _ _ (h4.2 oe z)⟩⟩
abbrev TX (β : Type) := St → Hp → (β → Hp → Prop) → Prop
abbrev Rl (α β : Type) := List Addr → Hp → α → β → Prop
def Stay {α β : Type} (R : Rl α β) : Prop := ∀ ρ ρ' H H' a b, Pre ρ ρ' → Fz ρ ρ' H H' → R ρ H a b → R ρ' H' a b
def XOk (K : PySem.W.Frag) (ρ : List Addr) (H : Hp) (C : Addr) (w : D) (μ : Mem) (E : XK) : Prop :=
  ∀ ρ' H' dd v, Pre ρ ρ' → Fz ρ ρ' H H' → Rel K ρ' μ H' → H' dd = some (.xd [(("what" : Str), v)]) → DV K ρ' H' w v → E (.ref C) (some dd) H'
def Okr {α β : Type} (K : PySem.W.Frag) (R : Rl α β) (ρ : List Addr) (H : Hp) (r : Res α) (Q : β → Hp → Prop) (E : XK) : Prop := match r with
  | .ok a μ => ∀ ρ' H' b, Pre ρ ρ' → Fz ρ ρ' H H' → Rel K ρ' μ H' → R ρ' H' a b → Q b H'
  | .err C w μ => XOk K ρ H C w μ E
  | .bad => False
def Ref {α β : Type} (K : PySem.W.Frag) (hx : Option HX) (W : WX) (R : Rl α β) (t : TX β) (m : MX α) : Prop :=
  ∀ ρ μ δ σ H (Q : β → Hp → Prop), Rel K ρ μ H → EnvR K ρ H hx δ σ → Okr K R ρ H (m δ μ) Q (fun c d H' => W c d σ H') → t σ H Q
theorem XOk.mono {K : PySem.W.Frag} {ρ ρ1 : List Addr} {H H1 : Hp} {C : Addr} {w : D} {μ : Mem} {E : XK} (p : Pre ρ ρ1) (f : Fz ρ ρ1 H H1) (h : XOk K ρ H C w μ E) : XOk K ρ1 H1 C w μ E :=
  fun ρ' H' dd v p' f' r e dv => h ρ' H' dd v (p.trans p') (f.trans f') r e dv
theorem Okr.mono {α β : Type} {K : PySem.W.Frag} {R : Rl α β} {ρ ρ1 : List Addr} {H H1 : Hp} {r : Res α} {Q : β → Hp → Prop} {E : XK} (p : Pre ρ ρ1) (f : Fz ρ ρ1 H H1) (h : Okr K R ρ H r Q E) : Okr K R ρ1 H1 r Q E := by
  cases r with
  | ok a μ => exact fun ρ' H' b p' f' r rb => h ρ' H' b (p.trans p') (f.trans f') r rb
  | err C w μ => exact XOk.mono p f h
  | bad => exact h
def bindM {α γ : Type} (m : MX α) (mk : α → MX γ) : MX γ := fun δ μ => (m δ μ).bind fun a μ1 => mk a δ μ1
theorem Ref.bind {α β γ ζ : Type} {K : PySem.W.Frag} {hx : Option HX} {W : WX} {R : Rl α β} {R' : Rl γ ζ} {t : TX β} {m : MX α} {k : β → St → Hp → (ζ → Hp → Prop) → Prop} {mk : α → MX γ} (h : Ref K hx W R t m)
    (hk : ∀ a ρ μ δ σ H b (Q : ζ → Hp → Prop), Rel K ρ μ H → EnvR K ρ H hx δ σ → R ρ H a b → Okr K R' ρ H (mk a δ μ) Q (fun c d H' => W c d σ H') → k b σ H Q) :
    Ref K hx W R' (fun σ H Q => t σ H fun b H1 => k b σ H1 Q) (bindM m mk) := by
  intro ρ μ δ σ H Q rel env ok
  unfold bindM at ok
  refine h ρ μ δ σ H _ rel env ?_
  cases e : m δ μ with
  | ok a μ1 =>
    rw [e] at ok
    intro ρ' H' b p f rel' rb
    exact hk a ρ' μ1 δ σ H' b Q rel' (env.mono p f) rb (Okr.mono p f ok)
  | err C w μ1 => rw [e] at ok; exact ok
  | bad => rw [e] at ok; exact ok
theorem Okr.bind {α β γ ζ : Type} {K : PySem.W.Frag} {R : Rl α β} {R' : Rl γ ζ} {ρ : List Addr} {H : Hp} {r : Res α} {k : α → Mem → Res γ} {Q : ζ → Hp → Prop} {P : β → Hp → Prop} {E : XK} (h : Okr K R' ρ H (r.bind k) Q E)
    (hk : ∀ a μ1 ρ1 H1 b, Pre ρ ρ1 → Fz ρ ρ1 H H1 → Rel K ρ1 μ1 H1 → R ρ1 H1 a b → Okr K R' ρ1 H1 (k a μ1) Q E → P b H1) : Okr K R ρ H r P E := by
  cases r with
  | ok a μ1 => exact fun ρ1 H1 b p f rel rb => hk a μ1 ρ1 H1 b p f rel rb (Okr.mono p f h)
  | err C w μ1 => exact h
  | bad => exact h
theorem Okr.now {α β : Type} {K : PySem.W.Frag} {R : Rl α β} {ρ : List Addr} {H : Hp} {a : α} {μ : Mem} {b : β} {Q : β → Hp → Prop} {E : XK} (h : Okr K R ρ H (.ok a μ) Q E) (r : Rel K ρ μ H) (rb : R ρ H a b) : Q b H :=
  h ρ H b (Pre.refl _) (Fz.refl _) r rb
theorem Okr.go {α β : Type} {K : PySem.W.Frag} {R : Rl α β} {ρ ρ' : List Addr} {H H' : Hp} {a : α} {μ : Mem} {b : β} {Q : β → Hp → Prop} {E : XK} (h : Okr K R ρ H (.ok a μ) Q E) (p : Pre ρ ρ') (f : Fz ρ ρ' H H') (r : Rel K ρ' μ H') (rb : R ρ' H' a b) : Q b H' :=
  h ρ' H' b p f r rb
section
variable {K : PySem.W.Frag} {ρ ρ' : List Addr} {μ : Mem} {H H' : Hp} {a p : Addr} {n : Nat} {c : Cell}
theorem CellR.at_ {l : Bool} (h : CellR K ρ H l a c) : ∃ o, H a = some o := by
  cases c with
  | lst ds => obtain ⟨vs, h, _⟩ := h; exact ⟨_, h⟩
  | dK kds =>
    obtain ⟨vs, h, _⟩ := h
    unfold Lk at h
    split at h
    · obtain ⟨o, h⟩ := h; exact ⟨_, h⟩
    · exact ⟨_, h⟩
  | dT kds =>
    obtain ⟨vs, h, _⟩ := h
    unfold Lk at h
    split at h
    · obtain ⟨o, h⟩ := h; exact ⟨_, h⟩
    · exact ⟨_, h⟩
  | ins C fs => obtain ⟨dx, vs, h, _⟩ := h; exact ⟨_, h⟩
  | dead => exact ⟨_, h.choose_spec.1⟩
theorem CellR.mono0 {l : Bool} (p : Pre ρ ρ') (f : Fz0 H H') (e : H' a = H a) (h : CellR K ρ H l a c) : CellR K ρ' H' l a c := by
  cases c with
  | lst ds => obtain ⟨vs, h, r⟩ := h; exact ⟨vs, e.trans h, r.mono0 p f⟩
  | dK kds =>
    obtain ⟨vs, h, r⟩ := h
    exact ⟨vs, by unfold Lk at h ⊢; rw [e]; exact h, r.mono0 p f⟩
  | dT kds =>
    obtain ⟨vs, h, r⟩ := h
    exact ⟨vs, by unfold Lk at h ⊢; rw [e]; exact h, r.mono0 p f⟩
  | ins C fs => obtain ⟨dx, vs, h, r, q⟩ := h; exact ⟨dx, vs, e.trans h, r.mono0 p f, q⟩
  | dead => obtain ⟨o, h, z⟩ := h; exact ⟨o, e.trans h, z⟩
theorem Rel.at_ (r : Rel K ρ μ H) (h : ρ[n]? = some a) : ∃ c, μ.cells[n]? = some c ∧ CellR K ρ H (μ.lkd n) a c := by
  have hl := (List.getElem?_eq_some_iff.mp h).1
  rw [r.len] at hl
  exact ⟨_, List.getElem?_eq_getElem hl, r.cell n a _ h (List.getElem?_eq_getElem hl)⟩
theorem Rel.ne_new (r : Rel K ρ μ H) (hn : H p = none) (h : ρ[n]? = some a) : a ≠ p := by
  obtain ⟨c, _, q⟩ := r.at_ h
  obtain ⟨o, e⟩ := q.at_
  exact ne_of_none e hn
theorem Rel.alloc {o : HO} (r : Rel K ρ μ H) (hn : H p = none) : Rel K ρ μ (upd H p o) :=
  ⟨r.len, r.nd, fun n a c h1 h2 => (r.cell n a c h1 h2).mono0 (Pre.refl _) (Fz0.new hn) (upd_ne (r.ne_new hn h1)), r.lkb⟩
theorem Rel.other {o : HO} (r : Rel K ρ μ H) (hp : p ∉ ρ) (f : Fz0 H (upd H p o)) : Rel K ρ μ (upd H p o) :=
  ⟨r.len, r.nd, fun n a c h1 h2 => (r.cell n a c h1 h2).mono0 (Pre.refl _) f (upd_ne fun z => hp (z ▸ List.mem_of_getElem? h1)), r.lkb⟩
theorem Rel.fresh (r : Rel K ρ μ H) (hn : H p = none) : p ∉ ρ := fun hm => by
  obtain ⟨n, hn'⟩ := List.getElem?_of_mem hm
  exact r.ne_new hn hn' rfl
def Mem.push (μ : Mem) (c : Cell) : Mem := { μ with cells := μ.cells ++ [c] }
def Mem.set (μ : Mem) (n : Nat) (c : Cell) : Mem := { μ with cells := μ.cells.set n c }
theorem Rel.unlk (r : Rel K ρ μ H) : μ.lkd μ.cells.length = false := by
  unfold Mem.lkd
  cases e : μ.lk.contains μ.cells.length with
  | false => rfl
  | true => exact absurd (r.lkb _ (List.contains_iff_mem.mp e)) (Nat.lt_irrefl _)
theorem Rel.adopt (r : Rel K ρ μ H) (hp : p ∉ ρ) (hc : CellR K (ρ ++ [p]) H false p c) : Rel K (ρ ++ [p]) (μ.push c) H := by
  refine ⟨by simp [Mem.push, r.len], ?_, fun n a c' h1 h2 => ?_, fun n hn => ?_⟩
  · rw [List.nodup_append]
    exact ⟨r.nd, by simp, fun x hx y hy => by
      have : y = p := by simpa using hy
      subst this
      exact fun z => hp (z ▸ hx)⟩
  · by_cases hlt : n < ρ.length
    · rw [List.getElem?_append_left hlt] at h1
      have h2' : μ.cells[n]? = some c' := by
        have : (μ.cells ++ [c])[n]? = some c' := h2
        rwa [List.getElem?_append_left (r.len ▸ hlt)] at this
      exact (r.cell n a c' h1 h2').mono0 (Pre.app _ _) (Fz0.refl _) rfl
    · have e : n = ρ.length := by
        have := (List.getElem?_eq_some_iff.mp h1).1
        simp at this
        omega
      subst e
      have ea : a = p := by simpa using h1.symm
      have ec : c' = c := by
        have : (μ.cells ++ [c])[ρ.length]? = some c' := h2
        rw [r.len] at this
        simpa using this.symm
      subst ea ec
      have z : (μ.push c').lkd ρ.length = false := by rw [r.len]; exact r.unlk
      rw [z]
      exact hc
  · have := r.lkb n hn
    simp only [Mem.push, List.length_append, List.length_singleton]
    omega
theorem Rel.new {o : HO} (r : Rel K ρ μ H) (hn : H p = none) (hc : CellR K (ρ ++ [p]) (upd H p o) false p c) : Rel K (ρ ++ [p]) (μ.push c) (upd H p o) :=
  (r.alloc hn).adopt (r.fresh hn) hc
theorem Rel.write {o u : HO} (r : Rel K ρ μ H) (h : ρ[n]? = some a) (hu : H a = some u) (h1 : ∀ xs, u ≠ .tup xs) (h2 : ∀ ob w, u ≠ .frz ob w) (hc : CellR K ρ (upd H a o) (μ.lkd n) a c) : Rel K ρ (μ.set n c) (upd H a o) := by
  have f : Fz0 H (upd H a o) := Fz0.mut hu h1 h2
  refine ⟨by simp [Mem.set, r.len], r.nd, fun m b c' e1 e2 => ?_, fun m hm => by simpa [Mem.set] using r.lkb m hm⟩
  by_cases hm : m = n
  · subst hm
    rw [h] at e1
    have : a = b := Option.some.inj e1
    subst this
    have e2' : (μ.cells.set m c)[m]? = some c' := e2
    have hlt : m < μ.cells.length := r.len ▸ (List.getElem?_eq_some_iff.mp h).1
    rw [List.getElem?_set_self hlt] at e2'
    have : c = c' := Option.some.inj e2'
    subst this
    exact hc
  · have e2' : (μ.cells.set n c)[m]? = some c' := e2
    rw [List.getElem?_set_ne (Ne.symm hm)] at e2'
    have ne : b ≠ a := fun z => hm (by
      subst z
      obtain ⟨l1, e3⟩ := List.getElem?_eq_some_iff.mp e1
      obtain ⟨l2, e4⟩ := List.getElem?_eq_some_iff.mp h
      exact (List.getElem_inj r.nd).mp (e3.trans e4.symm))
    exact (r.cell m b c' e1 e2').mono0 (Pre.refl _) f (upd_ne ne)
theorem CellR.noxd {l : Bool} {fs : List (Str × V)} (h : CellR K ρ H l a c) : H a ≠ some (.xd fs) := fun z => by
  cases c with
  | lst ds => obtain ⟨vs, h, _⟩ := h; rw [h] at z; cases z
  | dK kds =>
    obtain ⟨vs, h, _⟩ := h
    unfold Lk at h
    split at h
    · obtain ⟨o, h⟩ := h; rw [h] at z; cases z
    · rw [h] at z; cases z
  | dT kds =>
    obtain ⟨vs, h, _⟩ := h
    unfold Lk at h
    split at h
    · obtain ⟨o, h⟩ := h; rw [h] at z; cases z
    · rw [h] at z; cases z
  | ins C gs => obtain ⟨dx, vs, h, _⟩ := h; rw [h] at z; cases z
  | dead => obtain ⟨o, h, k⟩ := h; rw [h] at z; exact k fs (Option.some.inj z)
theorem Rel.noxd {fs : List (Str × V)} (r : Rel K ρ μ H) (h : H p = some (.xd fs)) : p ∉ ρ := fun hm => by
  obtain ⟨n, hn'⟩ := List.getElem?_of_mem hm
  obtain ⟨c, _, q⟩ := r.at_ hn'
  exact q.noxd h
end
end Doz
end
section
namespace Doz
open PySem L2
theorem stay_DV {K : PySem.W.Frag} : Stay (DV K) := fun _ _ _ _ a b p f h => DV.mono p f a b h
def RB : Rl Bool V := fun _ _ b v => v = V.bl b
def RT' : Rl Bool Bool := fun _ _ a b => a = b
theorem Ref.two {α1 β1 α2 β2 γ ζ : Type} {K : PySem.W.Frag} {hx : Option HX} {W : WX} {R1 : Rl α1 β1} {R2 : Rl α2 β2} {R' : Rl γ ζ} {t1 : TX β1} {t2 : TX β2} {m1 : MX α1} {m2 : MX α2} {k : β1 → β2 → St → Hp → (ζ → Hp → Prop) → Prop}
    {f : α1 → α2 → MX γ} (s1 : Stay R1) (h1 : Ref K hx W R1 t1 m1) (h2 : Ref K hx W R2 t2 m2)
    (hk : ∀ a1 a2 ρ μ δ σ H b1 b2 (Q : ζ → Hp → Prop), Rel K ρ μ H → EnvR K ρ H hx δ σ → R1 ρ H a1 b1 → R2 ρ H a2 b2 → Okr K R' ρ H (f a1 a2 δ μ) Q (fun c d H' => W c d σ H') → k b1 b2 σ H Q) :
    Ref K hx W R' (fun σ H Q => t1 σ H fun b1 H1 => t2 σ H1 fun b2 H2 => k b1 b2 σ H2 Q) (bindM m1 fun a1 => bindM m2 fun a2 => f a1 a2) := by
  intro ρ μ δ σ H Q rel env ok
  refine h1 ρ μ δ σ H _ rel env ?_
  unfold bindM at ok
  cases e : m1 δ μ with
  | err C w μ1 => rw [e] at ok; exact ok
  | bad => rw [e] at ok; exact ok
  | ok a1 μ1 =>
    rw [e] at ok
    intro ρ1 H1 b1 p1 f1 rel1 rb1
    refine h2 ρ1 μ1 δ σ H1 _ rel1 (env.mono p1 f1) ?_
    have ok1 : Okr K R' ρ H ((m2 δ μ1).bind fun a2 μ2 => f a1 a2 δ μ2) Q (fun c d H' => W c d σ H') := ok
    cases e2 : m2 δ μ1 with
    | err C w μ2 => rw [e2] at ok1; exact Okr.mono (r := Res.err C w μ2) p1 f1 ok1
    | bad => rw [e2] at ok1; exact ok1
    | ok a2 μ2 =>
      rw [e2] at ok1
      intro ρ2 H2 b2 p2 f2 rel2 rb2
      exact hk a1 a2 ρ2 μ2 δ σ H2 b1 b2 Q rel2 ((env.mono p1 f1).mono p2 f2) (s1 _ _ _ _ _ _ p2 f2 rb1) rb2 (Okr.mono (p1.trans p2) (f1.trans f2) ok1)
structure RE (X : Cx) (hx : Option HX) (W : WX) (e : Expr) (m : ME) : Prop where
  ex : ∃ t : TE, PE X e t ∧ Ref X.K hx W (DV X.K) t m
structure RT (X : Cx) (hx : Option HX) (W : WX) (e : Expr) (m : MX Bool) : Prop where
  ex : ∃ t : TT, L2.PT X e t ∧ Ref X.K hx W RT' t m
structure RW (X : Cx) (hx : Option HX) (W : WX) (e : Expr) (m : MX Bool) : Prop where
  ex : ∃ t : TT, PW X e t ∧ Ref X.K hx W RT' t m
structure RA (X : Cx) (hx : Option HX) (W : WX) (es : List Expr) (m : MX (List D)) : Prop where
  ex : ∃ t : TA, PA X es t ∧ Ref X.K hx W (DVs X.K) t m
theorem RW.rt {X : Cx} {hx : Option HX} {W : WX} {e : Expr} {m : MX Bool} (h : RW X hx W e m) : RT X hx W e m := let ⟨t, p, r⟩ := h.ex; ⟨⟨t, p.pt, r⟩⟩
def mvar (i : Nat) : ME := fun δ μ => match δ[i]? with
  | some (some d) => .ok d μ
  | _ => .bad
def mC (d : D) : ME := fun _ μ => .ok d μ
section
variable {X : Cx} {hx : Option HX} {W : WX} {pos : Pos}
theorem ref_var {K : PySem.W.Frag} (i : Nat) : Ref K hx W (DV K) (tVar i) (mvar i) := by
  intro ρ μ δ σ H Q rel env ok
  unfold mvar at ok
  split at ok
  · rename_i d e
    obtain ⟨v, e1, dv⟩ := env.get i d e
    exact ⟨v, e1, ok.now rel dv⟩
  · exact ok.elim
theorem re_var (i : Nat) {x : Str} (hN : X.N[i]? = some x := by rfl) (hv : Vis X.env.scope x := by first | exact Or.inl rfl | exact Or.inr (Or.inl rfl) | exact Or.inr (Or.inr rfl)) (hd : (x == ("__debug__" : Str)) = false := by decide)
    (hcd : (x == ("__classdict__" : Str)) = false := by decide) : RE X hx W (.Name x pos) (mvar i) := ⟨⟨_, pe_var hN hv hd hcd, ref_var i⟩⟩
theorem ref_c {K : PySem.W.Frag} {d : D} {v : V} (h : ∀ ρ H, DV K ρ H d v) : Ref K hx W (DV K) (tC v) (mC d) := fun ρ μ δ σ H Q rel env ok => Okr.now ok rel (h ρ H)
theorem re_int {i : Int} {j : Nat} : RE X hx W (.Constant (.int i) j pos) (mC (.int i)) := ⟨⟨_, pe_int, ref_c fun _ _ => by simp only [DV]⟩⟩
theorem re_bl {b : Bool} {j : Nat} : RE X hx W (.Constant (.bool b) j pos) (mC (.bl b)) := ⟨⟨_, pe_bl, ref_c fun _ _ => by simp only [DV]⟩⟩
theorem re_non {j : Nat} : RE X hx W (.Constant .none j pos) (mC .non) := ⟨⟨_, pe_non, ref_c fun _ _ => by simp only [DV]⟩⟩
theorem re_str {x : Str} {j : Nat} : RE X hx W (.Constant (.str x) j pos) (mC (.str x)) := ⟨⟨_, pe_str, ref_c fun _ _ => by simp only [DV]⟩⟩
def OpM (K : PySem.W.Frag) (r : R2) (f : D → D → Mem → Res D) : Prop :=
  ∀ d e ρ μ H x y (Q : VK) (E : XK), Rel K ρ μ H → DV K ρ H d x → DV K ρ H e y → Okr K (DV K) ρ H (f d e μ) Q E → r x y H Q
def CmpM (K : PySem.W.Frag) (r : R2) (c : D → D → Mem → Res Bool) : Prop :=
  ∀ d e ρ μ H x y (Q : VK) (E : XK), Rel K ρ μ H → DV K ρ H d x → DV K ρ H e y → Okr K RB ρ H (c d e μ) Q E → r x y H Q
def mop (f : D → D → Mem → Res D) (a b : ME) : ME := bindM a fun x => bindM b fun y => fun _ μ => f x y μ
def mcmp (c : D → D → Mem → Res Bool) (a b : ME) : MX Bool := bindM a fun x => bindM b fun y => fun _ μ => c x y μ
def mbl (m : MX Bool) : ME := bindM m fun b => fun _ μ => .ok (.bl b) μ
variable {a b c : Expr} {ma mb mc : ME}
theorem re_op {op : Operator} {r : R2} {f : D → D → Mem → Res D} (ho : OpR X (binaryOp op) r) (om : OpM X.K r f) (ha : RE X hx W a ma) (hb : RE X hx W b mb) : RE X hx W (.BinOp a op b pos) (mop f ma mb) := by
  obtain ⟨ta, pa, ra⟩ := ha.ex
  obtain ⟨tb, pb, rb⟩ := hb.ex
  exact ⟨⟨_, pe_op ho pa pb, Ref.two stay_DV ra rb fun d e ρ μ δ σ H x y Q rel env dx dy ok => om d e ρ μ H x y Q _ rel dx dy ok⟩⟩
theorem okr_bl {K : PySem.W.Frag} {ρ : List Addr} {H : Hp} {r : Res Bool} {Q : VK} {E : XK} (h : Okr K (DV K) ρ H (r.bind fun b μ => .ok (.bl b) μ) Q E) : Okr K RB ρ H r Q E := by
  cases r with
  | ok b μ => exact fun ρ' H' v p f rel rb => h ρ' H' v p f rel (by simpa only [DV, RB] using rb)
  | err C w μ => exact h
  | bad => exact h
theorem okr_tt {K : PySem.W.Frag} {ρ : List Addr} {H : Hp} {r : Res Bool} {Q : Bool → Hp → Prop} {E : XK} (h : Okr K RT' ρ H r Q E) : Okr K RB ρ H r (fun x H' => ∃ k, x = .bl k ∧ Q k H') E := by
  cases r with
  | ok b μ => exact fun ρ' H' v p f rel rb => ⟨b, rb, h ρ' H' b p f rel rfl⟩
  | err C w μ => exact h
  | bad => exact h
theorem re_cmp {op : CmpOp} {r : R2} {c : D → D → Mem → Res Bool} (ho : OpR X (compareOp op) r) (om : CmpM X.K r c) (ha : RE X hx W a ma) (hb : RE X hx W b mb) (hm : behindInMarks op b = false := by first | exact nomark _ | rfl) :
    RE X hx W (.Compare a [op] [b] pos) (mbl (mcmp c ma mb)) := by
  obtain ⟨ta, pa, ra⟩ := ha.ex
  obtain ⟨tb, pb, rb⟩ := hb.ex
  refine ⟨⟨_, pe_cmpR ho pa pb hm, ?_⟩⟩
  have h := Ref.two (R' := DV X.K) (f := fun x y => fun _ μ => (c x y μ).bind fun b μ => .ok (D.bl b) μ) (k := fun x y _ H Q => r x y H Q) stay_DV ra rb fun d e ρ μ δ σ H x y Q rel env dx dy ok => om d e ρ μ H x y Q _ rel dx dy (okr_bl ok)
  intro ρ μ δ σ H Q rel env ok
  refine h ρ μ δ σ H Q rel env ?_
  unfold mbl mcmp bindM at ok
  unfold bindM
  revert ok
  cases ma δ μ with
  | err C w μ1 => exact id
  | bad => exact id
  | ok x μ1 =>
    show Okr _ _ _ _ (((mb δ μ1).bind fun y μ2 => c x y μ2).bind _) _ _ → Okr _ _ _ _ ((mb δ μ1).bind _) _ _
    cases mb δ μ1 with
    | err C w μ2 => exact id
    | bad => exact id
    | ok y μ2 => exact id
theorem rt_cmp {op : CmpOp} {r : R2} {c : D → D → Mem → Res Bool} (ho : OpR X (compareOp op) r) (om : CmpM X.K r c) (ha : RE X hx W a ma) (hb : RE X hx W b mb) (hm : behindInMarks op b = false := by first | exact nomark _ | rfl) :
    RT X hx W (.Compare a [op] [b] pos) (mcmp c ma mb) := by
  obtain ⟨ta, pa, ra⟩ := ha.ex
  obtain ⟨tb, pb, rb⟩ := hb.ex
  exact ⟨⟨_, pt_cmpR ho pa pb hm, Ref.two stay_DV ra rb fun d e ρ μ δ σ H x y Q rel env dx dy ok => om d e ρ μ H x y _ _ rel dx dy (okr_tt ok)⟩⟩
def masB (m : ME) : MX Bool := bindM m fun d => fun _ μ => match d with
  | .bl b => .ok b μ
  | _ => .bad
theorem rt_val {e : Expr} {m : ME} (h : RE X hx W e m) (he : ∀ whole, isTrue e X.env whole = (do let v ← whole; standAt e.pos; holding [v] (truthy v)) := by intro _; rfl) : RT X hx W e (masB m) := by
  obtain ⟨t, p, r⟩ := h.ex
  refine ⟨⟨_, pt_val p he, fun ρ0 μ0 δ σ H0 Q rel0 env0 ok0 => r ρ0 μ0 δ σ H0 _ rel0 env0 (Okr.bind ok0 fun d μ ρ H v pr fz rel dv ok => ?_)⟩⟩
  cases d with
  | bl b =>
    have : v = V.bl b := by simpa only [DV] using dv
    exact ⟨b, this, ok.now rel rfl⟩
  | _ => exact ok.elim
def mand (a b : MX Bool) : MX Bool := bindM a fun x => if x = true then b else fun _ μ => .ok false μ
def mor (a b : MX Bool) : MX Bool := bindM a fun x => if x = true then fun _ μ => .ok true μ else b
def mnot (a : MX Bool) : MX Bool := bindM a fun x => fun _ μ => .ok (!x) μ
variable {rest : List Expr} {pa pb : MX Bool}
theorem rw_and1 (ha : RT X hx W a pa) : RW X hx W (.BoolOp .And [a] pos) pa := let ⟨t, p, r⟩ := ha.ex; ⟨⟨t, pw_and1 p, r⟩⟩
theorem rw_or1 (ha : RT X hx W a pa) : RW X hx W (.BoolOp .Or [a] pos) pa := let ⟨t, p, r⟩ := ha.ex; ⟨⟨t, pw_or1 p, r⟩⟩
theorem ref_and {K : PySem.W.Frag} {ta tb : TT} (ra : Ref K hx W RT' ta pa) (rb : Ref K hx W RT' tb pb) : Ref K hx W RT' (tAnd ta tb) (mand pa pb) :=
  fun ρ0 μ0 δ σ H0 Q rel0 env0 ok0 => ra ρ0 μ0 δ σ H0 _ rel0 env0 (Okr.bind ok0 fun x μ ρ H y pr fz rel e ok => by
    have env := env0.mono pr fz
    have e' : x = y := e
    subst e'
    cases x with
    | true => exact iteT (rb ρ μ δ σ H Q rel env ok)
    | false => exact iteF (Okr.now (b := false) ok rel rfl))
theorem ref_or {K : PySem.W.Frag} {ta tb : TT} (ra : Ref K hx W RT' ta pa) (rb : Ref K hx W RT' tb pb) : Ref K hx W RT' (tOr ta tb) (mor pa pb) :=
  fun ρ0 μ0 δ σ H0 Q rel0 env0 ok0 => ra ρ0 μ0 δ σ H0 _ rel0 env0 (Okr.bind ok0 fun x μ ρ H y pr fz rel e ok => by
    have env := env0.mono pr fz
    have e' : x = y := e
    subst e'
    cases x with
    | true => exact iteT (Okr.now (b := true) ok rel rfl)
    | false => exact iteF (rb ρ μ δ σ H Q rel env ok))
theorem rw_and (ha : RT X hx W a pa) (hb : RW X hx W (.BoolOp .And (b :: rest) pos) pb) : RW X hx W (.BoolOp .And (a :: b :: rest) pos) (mand pa pb) := by
  obtain ⟨ta, p, ra⟩ := ha.ex
  obtain ⟨tb, q, rb⟩ := hb.ex
  exact ⟨⟨_, pw_and p q, ref_and ra rb⟩⟩
theorem rw_or (ha : RT X hx W a pa) (hb : RW X hx W (.BoolOp .Or (b :: rest) pos) pb) : RW X hx W (.BoolOp .Or (a :: b :: rest) pos) (mor pa pb) := by
  obtain ⟨ta, p, ra⟩ := ha.ex
  obtain ⟨tb, q, rb⟩ := hb.ex
  exact ⟨⟨_, pw_or p q, ref_or ra rb⟩⟩
theorem rt_not (ha : RT X hx W a pa) : RT X hx W (.UnaryOp .Not a pos) (mnot pa) := by
  obtain ⟨ta, p, ra⟩ := ha.ex
  refine ⟨⟨_, pt_not p, fun ρ0 μ0 δ σ H0 Q rel0 env0 ok0 => ra ρ0 μ0 δ σ H0 _ rel0 env0 (Okr.bind ok0 fun x μ ρ H y pr fz rel e ok => ?_)⟩⟩
  have env := env0.mono pr fz
  have e' : x = y := e
  subst e'
  exact Okr.now (b := !x) ok rel rfl
def mandV (a b : ME) : ME := bindM a fun x => match x with
  | .bl true => b
  | .bl false => fun _ μ => .ok (.bl false) μ
  | _ => fun _ _ => .bad
def morV (a b : ME) : ME := bindM a fun x => match x with
  | .bl true => fun _ μ => .ok (.bl true) μ
  | .bl false => b
  | _ => fun _ _ => .bad
def mnotV (a : ME) : ME := bindM a fun x => match x with
  | .bl c => fun _ μ => .ok (.bl (!c)) μ
  | _ => fun _ _ => .bad
def mif (t : MX Bool) (a b : ME) : ME := bindM t fun x => if x = true then a else b
def mnil : MX (List D) := fun _ μ => .ok [] μ
def mcons (a : ME) (r : MX (List D)) : MX (List D) := bindM a fun x => bindM r fun xs => fun _ μ => .ok (x :: xs) μ
theorem ra_nil : RA X hx W [] mnil := ⟨⟨_, pa_nil, fun ρ μ δ σ H Q rel env ok => Okr.now (b := ([] : List V)) ok rel (by simp only [DVs])⟩⟩
theorem ra_cons {es : List Expr} {mr : MX (List D)} (ha : RE X hx W a ma) (hr : RA X hx W es mr) (hs : starEach (a :: es) X.env = (false, eval a X.env) :: starEach es X.env := by rfl) : RA X hx W (a :: es) (mcons ma mr) := by
  obtain ⟨ta, p, ra⟩ := ha.ex
  obtain ⟨tr, q, rr⟩ := hr.ex
  exact ⟨⟨_, pa_cons p q hs, Ref.two stay_DV ra rr fun d ds ρ μ δ σ H x xs Q rel env dx dxs ok => Okr.now (b := x :: xs) ok rel (by simp only [DVs]; exact ⟨x, xs, rfl, dx, dxs⟩)⟩⟩
end
end Doz
end
section
namespace Doz
open PySem L2
theorem DVs.length {K : PySem.W.Frag} {ρ : List Addr} {H : Hp} : ∀ {ds : List D} {vs : List V}, DVs K ρ H ds vs → ds.length = vs.length
  | [], vs, h => by simp only [DVs] at h; subst h; rfl
  | d :: ds, vs, h => by
    simp only [DVs] at h
    obtain ⟨v, r, rfl, _, h⟩ := h
    simp [DVs.length h]
theorem DVs.nil {K : PySem.W.Frag} {ρ : List Addr} {H : Hp} : DVs K ρ H [] [] := by simp only [DVs]
theorem DVs.cons {K : PySem.W.Frag} {ρ : List Addr} {H : Hp} {d : D} {v : V} {ds : List D} {vs : List V} (h : DV K ρ H d v) (hs : DVs K ρ H ds vs) : DVs K ρ H (d :: ds) (v :: vs) := by
  simp only [DVs]; exact ⟨v, vs, rfl, h, hs⟩
theorem DVs.app {K : PySem.W.Frag} {ρ : List Addr} {H : Hp} : ∀ {ds es : List D} {vs us : List V}, DVs K ρ H ds vs → DVs K ρ H es us → DVs K ρ H (ds ++ es) (vs ++ us)
  | [], es, vs, us, h, h' => by simp only [DVs] at h; subst h; exact h'
  | d :: ds, es, vs, us, h, h' => by
    simp only [DVs] at h
    obtain ⟨v, r, rfl, h1, h⟩ := h
    exact .cons h1 (DVs.app h h')
theorem DVs.get {K : PySem.W.Frag} {ρ : List Addr} {H : Hp} : ∀ {ds : List D} {vs : List V} {i : Nat} {d : D}, DVs K ρ H ds vs → ds[i]? = some d → ∃ v, vs[i]? = some v ∧ DV K ρ H d v
  | [], vs, i, d, h, e => by simp at e
  | d' :: ds, vs, i, d, h, e => by
    simp only [DVs] at h
    obtain ⟨v, r, rfl, h1, h⟩ := h
    cases i with
    | zero => simp at e; subst e; exact ⟨v, rfl, h1⟩
    | succ i => simpa using DVs.get (i := i) h (by simpa using e)
theorem DVs.take {K : PySem.W.Frag} {ρ : List Addr} {H : Hp} : ∀ {ds : List D} {vs : List V} (n : Nat), DVs K ρ H ds vs → DVs K ρ H (ds.take n) (vs.take n)
  | [], vs, n, h => by simp only [DVs] at h; subst h; simp [DVs]
  | d :: ds, vs, n, h => by
    simp only [DVs] at h
    obtain ⟨v, r, rfl, h1, h⟩ := h
    cases n with
    | zero => simp [DVs]
    | succ n => exact .cons h1 (DVs.take n h)
theorem DVs.drop {K : PySem.W.Frag} {ρ : List Addr} {H : Hp} : ∀ {ds : List D} {vs : List V} (n : Nat), DVs K ρ H ds vs → DVs K ρ H (ds.drop n) (vs.drop n)
  | [], vs, n, h => by simp only [DVs] at h; subst h; simp [DVs]
  | d :: ds, vs, n, h => by
    have h0 := h
    simp only [DVs] at h
    obtain ⟨v, r, rfl, h1, h⟩ := h
    cases n with
    | zero => exact h0
    | succ n => exact DVs.drop n h
theorem DVs.set {K : PySem.W.Frag} {ρ : List Addr} {H : Hp} {d : D} {v : V} (hd : DV K ρ H d v) : ∀ {ds : List D} {vs : List V} (n : Nat), DVs K ρ H ds vs → DVs K ρ H (ds.set n d) (vs.set n v)
  | [], vs, n, h => by simp only [DVs] at h; subst h; simp [DVs]
  | d' :: ds, vs, n, h => by
    simp only [DVs] at h
    obtain ⟨v', r, rfl, h1, h⟩ := h
    cases n with
    | zero => exact .cons hd h
    | succ n => exact .cons h1 (DVs.set hd n h)
theorem DVs.reverse {K : PySem.W.Frag} {ρ : List Addr} {H : Hp} : ∀ {ds : List D} {vs : List V}, DVs K ρ H ds vs → DVs K ρ H ds.reverse vs.reverse
  | [], vs, h => by simp only [DVs] at h; subst h; simp [DVs]
  | d :: ds, vs, h => by
    simp only [DVs] at h
    obtain ⟨v, r, rfl, h1, h⟩ := h
    simp only [List.reverse_cons]
    exact DVs.app (DVs.reverse h) (.cons h1 .nil)
def lstOf (μ : Mem) : D → Option (List D)
  | .lst ds => some ds
  | .loc n => match μ.cells[n]? with
    | some (.lst ds) => some ds
    | _ => none
  | _ => none
section
variable {K : PySem.W.Frag} {ρ : List Addr} {μ : Mem} {H : Hp} {d : D} {v : V} {ds : List D}
theorem lstOf_ok (rel : Rel K ρ μ H) (dv : DV K ρ H d v) (h : lstOf μ d = some ds) : ∃ a vs, v = .ref a ∧ LsR K H a vs ∧ DVs K ρ H ds vs := by
  cases d with
  | lst es =>
    have e : es = ds := by simpa [lstOf] using h
    subst e
    simp only [DV] at dv
    obtain ⟨a, vs, e, h1, h2⟩ := dv
    exact ⟨a, vs, e, h1.ls, h2⟩
  | loc n =>
    simp only [DV] at dv
    obtain ⟨a, h1, e⟩ := dv
    simp only [lstOf] at h
    split at h
    · rename_i es hc
      have := Option.some.inj h
      subst this
      obtain ⟨vs, h2, h3⟩ := rel.cell n a _ h1 hc
      exact ⟨a, vs, e, .inl (.inl h2), h3⟩
    · cases h
  | _ => simp [lstOf] at h
theorem rd_sq {a : Addr} {vs : List V} (h : LsR K H a vs) : SqL K H a vs := h.sq
theorem tup_ok {ds : List D} (dv : DV K ρ H (.tup ds) v) : ∃ a vs, v = .ref a ∧ PT K H a vs ∧ DVs K ρ H ds vs := by simpa only [DV] using dv
theorem int_ok {i : Int} (dv : DV K ρ H (.int i) v) : v = .int i := by simpa only [DV] using dv
theorem str_ok {i : Str} (dv : DV K ρ H (.str i) v) : v = .str i := by simpa only [DV] using dv
theorem bl_ok {i : Bool} (dv : DV K ρ H (.bl i) v) : v = .bl i := by simpa only [DV] using dv
theorem non_ok (dv : DV K ρ H .non v) : v = .non := by simpa only [DV] using dv
theorem dv_int {i : Int} : DV K ρ H (.int i) (.int i) := by simp only [DV]
theorem dv_str {i : Str} : DV K ρ H (.str i) (.str i) := by simp only [DV]
theorem dv_bl {i : Bool} : DV K ρ H (.bl i) (.bl i) := by simp only [DV]
theorem dv_non : DV K ρ H .non .non := by simp only [DV]
end
def Frzn (Q : VK) : VK := fun v H' => Q v H' ∨ ∃ a xs, v = .ref a ∧ H' a = some (.lst xs) ∧ ∀ o, Q v (upd H' a (.frz o (.lst xs)))
def tFzo (t : TE) : TE := fun σ H Q => t σ H (Frzn Q)
theorem pe_fzo {X : Cx} {e : Expr} {t : TE} (h : PE X e t) : PE X e (tFzo t) := by
  refine ⟨fun pins s σ H Q I hw => thn (h.run pins s σ H _ I hw) fun u s1 ⟨v, H1, I1, r, q⟩ => ?_⟩
  rcases q with q | ⟨a, xs, rfl, ha, q⟩
  · exact ⟨v, H1, I1, r, q⟩
  · obtain ⟨o, I2⟩ := I1.lock ha trivial
    exact ⟨_, _, I2, r, q o⟩
def NL (K : PySem.W.Frag) (U : Addr → Prop) : Rl (List D) V := fun ρ H ds v => ∃ p vs, v = .ref p ∧ U p ∧ H p = some (.lst vs) ∧ p ∉ ρ ∧ DVs K ρ H ds vs
def OkN (K : PySem.W.Frag) (ρ : List Addr) (H : Hp) (r : Res (List D)) (Q : VK) (E : XK) : Prop := Okr K (NL K fun p => H p = none) ρ H r Q E
theorem OkN.mono {K : PySem.W.Frag} {ρ ρ1 : List Addr} {H H1 : Hp} {r : Res (List D)} {Q : VK} {E : XK} (p : Pre ρ ρ1) (f : Fz ρ ρ1 H H1) (h : OkN K ρ H r Q E) : OkN K ρ1 H1 r Q E := by
  have h1 : Okr K (NL K fun p => H p = none) ρ1 H1 r Q E := Okr.mono p f h
  cases r with
  | ok a μ => exact fun ρ' H' b p' f' r ⟨q, vs, e, u, x⟩ => h1 ρ' H' b p' f' r ⟨q, vs, e, f.dom q u, x⟩
  | err C w μ => exact h1
  | bad => exact h1
def RefN (K : PySem.W.Frag) (hx : Option HX) (W : WX) (t : TE) (m : MX (List D)) : Prop :=
  ∀ ρ μ δ σ H (Q : VK), Rel K ρ μ H → EnvR K ρ H hx δ σ → OkN K ρ H (m δ μ) Q (fun c d H' => W c d σ H') → t σ H Q
structure RN (X : Cx) (hx : Option HX) (W : WX) (e : Expr) (m : MX (List D)) : Prop where
  ex : ∃ t : TE, PE X e t ∧ RefN X.K hx W t m
theorem RefN.bind {α β : Type} {K : PySem.W.Frag} {hx : Option HX} {W : WX} {R : Rl α β} {t : TX β} {m : MX α} {k : β → St → Hp → VK → Prop} {mk : α → MX (List D)} (h : Ref K hx W R t m)
    (hk : ∀ a ρ μ δ σ H b (Q : VK), Rel K ρ μ H → EnvR K ρ H hx δ σ → R ρ H a b → OkN K ρ H (mk a δ μ) Q (fun c d H' => W c d σ H') → k b σ H Q) :
    RefN K hx W (fun σ H Q => t σ H fun b H1 => k b σ H1 Q) (bindM m mk) := by
  intro ρ μ δ σ H Q rel env ok
  unfold bindM at ok
  refine h ρ μ δ σ H _ rel env ?_
  cases e : m δ μ with
  | ok a μ1 =>
    rw [e] at ok
    intro ρ' H' b p f rel' rb
    exact hk a ρ' μ1 δ σ H' b Q rel' (env.mono p f) rb (OkN.mono p f ok)
  | err C w μ1 => rw [e] at ok; exact ok
  | bad => rw [e] at ok; exact ok
theorem RefN.two {α1 β1 α2 β2 : Type} {K : PySem.W.Frag} {hx : Option HX} {W : WX} {R1 : Rl α1 β1} {R2 : Rl α2 β2} {t1 : TX β1} {t2 : TX β2} {m1 : MX α1} {m2 : MX α2} {k : β1 → β2 → St → Hp → VK → Prop}
    {f : α1 → α2 → MX (List D)} (s1 : Stay R1) (h1 : Ref K hx W R1 t1 m1) (h2 : Ref K hx W R2 t2 m2)
    (hk : ∀ a1 a2 ρ μ δ σ H b1 b2 (Q : VK), Rel K ρ μ H → EnvR K ρ H hx δ σ → R1 ρ H a1 b1 → R2 ρ H a2 b2 → OkN K ρ H (f a1 a2 δ μ) Q (fun c d H' => W c d σ H') → k b1 b2 σ H Q) :
    RefN K hx W (fun σ H Q => t1 σ H fun b1 H1 => t2 σ H1 fun b2 H2 => k b1 b2 σ H2 Q) (bindM m1 fun a1 => bindM m2 fun a2 => f a1 a2) := by
  refine RefN.bind (k := fun b1 σ H1 Q => t2 σ H1 fun b2 H2 => k b1 b2 σ H2 Q) h1 fun a1 ρ μ δ σ H b1 Q rel env r1 ok => ?_
  refine h2 ρ μ δ σ H _ rel env ?_
  unfold bindM at ok
  cases e : m2 δ μ with
  | ok a μ1 =>
    rw [e] at ok
    intro ρ' H' b p f rel' rb
    exact hk a1 a ρ' μ1 δ σ H' b1 b Q rel' (env.mono p f) (s1 _ _ _ _ _ _ p f r1) rb (OkN.mono p f ok)
  | err C w μ1 => rw [e] at ok; exact ok
  | bad => rw [e] at ok; exact ok
theorem OkN.bind {α β : Type} {K : PySem.W.Frag} {R : Rl α β} {ρ : List Addr} {H : Hp} {r : Res α} {k : α → Mem → Res (List D)} {Q : VK} {P : β → Hp → Prop} {E : XK} (h : OkN K ρ H (r.bind k) Q E)
    (hk : ∀ a μ1 ρ1 H1 b, Pre ρ ρ1 → Fz ρ ρ1 H H1 → Rel K ρ1 μ1 H1 → R ρ1 H1 a b → OkN K ρ1 H1 (k a μ1) Q E → P b H1) : Okr K R ρ H r P E := by
  cases r with
  | ok a μ1 => exact fun ρ1 H1 b p f rel rb => hk a μ1 ρ1 H1 b p f rel rb (OkN.mono p f h)
  | err C w μ1 => exact h
  | bad => exact h
theorem OkN.new {K : PySem.W.Frag} {ρ : List Addr} {μ : Mem} {H : Hp} {Q : VK} {E : XK} {ds : List D} {vs : List V} {p : Addr} (rel : Rel K ρ μ H) (hp : H p = none) (hd : DVs K ρ H ds vs) (ok : OkN K ρ H (.ok ds μ) Q E) : Q (.ref p) (upd H p (.lst vs)) :=
  Okr.go (R := NL K fun p => H p = none) ok (Pre.refl _) (Fz.new hp) (rel.alloc hp) ⟨p, vs, rfl, hp, upd_same, rel.fresh hp, hd.mono0 (Pre.refl _) (Fz0.new hp)⟩
def mfz (m : MX (List D)) : ME := bindM m fun ds => fun _ μ => .ok (.lst ds) μ
def mlc (m : MX (List D)) : ME := bindM m fun ds => fun _ μ => .ok (.loc μ.cells.length) (μ.push (.lst ds))
section
variable {X : Cx} {hx : Option HX} {W : WX} {e : Expr} {m : MX (List D)}
theorem Fz0.frz {H : Hp} {p : Addr} {vs : List V} {o : Obj} (h : H p = some (.lst vs)) : Fz0 H (upd H p (.frz o (.lst vs))) := Fz0.mut h (fun _ => HO.noConfusion) (fun _ _ => HO.noConfusion)
theorem dv_frz {K : PySem.W.Frag} {ρ : List Addr} {H : Hp} {p : Addr} {vs : List V} {o : Obj} {ds : List D} (h : H p = some (.lst vs)) (hd : DVs K ρ H ds vs) : DV K ρ (upd H p (.frz o (.lst vs))) (.lst ds) (.ref p) := by
  simp only [DV]
  exact ⟨p, vs, rfl, .inl ⟨o, upd_same⟩, hd.mono0 (Pre.refl _) (Fz0.frz h)⟩
theorem re_fz (h : RN X hx W e m) : RE X hx W e (mfz m) := by
  obtain ⟨t, p, r⟩ := h.ex
  refine ⟨⟨_, pe_fzo p, fun ρ0 μ0 δ σ H0 Q rel0 env0 ok0 => r ρ0 μ0 δ σ H0 _ rel0 env0 ?_⟩⟩
  unfold mfz bindM at ok0
  cases e : m δ μ0 with
  | err C w μ1 => rw [e] at ok0; exact ok0
  | bad => rw [e] at ok0; exact ok0
  | ok ds μ1 =>
    rw [e] at ok0
    rintro ρ H v pr fz rel ⟨q, vs, rfl, hu, hq, hn, hd⟩
    exact .inr ⟨q, vs, rfl, hq, fun o => ok0 ρ _ _ pr (fz.late hu) (rel.other hn (Fz0.frz hq)) (dv_frz hq hd)⟩
theorem dv_last {K : PySem.W.Frag} {ρ : List Addr} {μ : Mem} {H H' : Hp} {p : Addr} (rel : Rel K ρ μ H) : DV K (ρ ++ [p]) H' (.loc μ.cells.length) (.ref p) := by
  simp only [DV]
  exact ⟨p, by rw [← rel.len]; simp, rfl⟩
theorem re_lc (h : RN X hx W e m) : RE X hx W e (mlc m) := by
  obtain ⟨t, p, r⟩ := h.ex
  refine ⟨⟨_, p, fun ρ0 μ0 δ σ H0 Q rel0 env0 ok0 => r ρ0 μ0 δ σ H0 _ rel0 env0 ?_⟩⟩
  unfold mlc bindM at ok0
  cases e : m δ μ0 with
  | err C w μ1 => rw [e] at ok0; exact ok0
  | bad => rw [e] at ok0; exact ok0
  | ok ds μ1 =>
    rw [e] at ok0
    rintro ρ H v pr fz rel ⟨q, vs, rfl, hu, hq, hn, hd⟩
    exact ok0 _ _ _ (pr.trans (Pre.app _ _)) (fz.lateA hu) (rel.adopt hn ⟨vs, hq, hd.mono0 (Pre.app _ _) (Fz0.refl _)⟩) (dv_last rel)
end
def rCatR (K : PySem.W.Frag) : R2 := fun x y H Q => ∃ l b xs zs, x = .ref l ∧ y = .ref b ∧ LsR K H l xs ∧ LsR K H b zs ∧ xs.length + zs.length ≤ sizeLine ∧ ∀ p, H p = none → Q (.ref p) (upd H p (.lst (xs ++ zs)))
theorem Inv.lstR {X : Cx} {pins : List (Addr × Obj)} {σ : St} {H : Hp} {s : Shared} {l : Addr} {xs : List V} (I : L2.Inv X pins σ H s) (hH : LsR X.K H l xs) : xs.length ≤ sizeLine ∧ ∃ (its : List Value) (n : Nat), Vals xs its ∧ xs.length = its.length ∧ s.heap.get? l = some { cls := .type "list", data := .seq its.toArray n } := by
  rcases hH with hH | ⟨its, n, hk, hz, r⟩
  · obtain ⟨z, its, n, r, e⟩ := hH.ok I.hok
    exact ⟨z, its, n, r, r.length, e⟩
  · exact ⟨by rw [r.length]; exact hz, its, n, r, r.length, I.kIn l _ hk⟩
theorem op_catR {X : Cx} : OpR X (binaryOp .Add) (rCatR X.K) := by
  intro pins s σ H x y v u Q I rx ry h
  obtain ⟨l, b, xs, zs, rfl, rfl, hH, hB, hz, q⟩ := h
  cases rx
  cases ry
  obtain ⟨z, its, n, r, hl, e⟩ := Inv.lstR I hH
  obtain ⟨z2, its2, n2, r2, hl2, e2⟩ := Inv.lstR I hB
  refine PySem.P.add_list e e2 ?_ (by rw [List.size_toArray, List.size_toArray]; omega)
  have ea : its.toArray ++ its2.toArray = (its ++ its2).toArray := by simp
  rw [ea]
  exact ⟨.ref _, _, I.lnew (t' := s.toks) (r.append r2) (by rw [List.length_append]; omega), rfl, q _ I.fresh⟩
def rAddU (K : PySem.W.Frag) : R2 := fun x y H Q => (rI0 fun i j => V.int (i + j)) x y H Q ∨ (∃ i j, x = .str i ∧ y = .str j ∧ i.length + j.length ≤ sizeLine ∧ Q (.str (i ++ j)) H) ∨ rCatA K x y H Q ∨ rCatR K x y H Q
theorem op_addU {X : Cx} : OpR X (binaryOp .Add) (rAddU X.K) := op_add.or (op_add_str.or (op_catA.or op_catR))
def catL (μ : Mem) (d e : D) : Option (List D) := (lstOf μ d).bind fun xs => (lstOf μ e).bind fun ys => if xs.length + ys.length ≤ sizeLine then some (xs ++ ys) else none
def fAdd (d e : D) (μ : Mem) : Res D := match d, e with
  | .int i, .int j => .ok (.int (i + j)) μ
  | .str i, .str j => if i.length + j.length ≤ sizeLine then .ok (.str (i ++ j)) μ else .bad
  | .tup xs, .tup ys => if xs.length + ys.length ≤ sizeLine then .ok (.tup (xs ++ ys)) μ else .bad
  | d, e => match catL μ d e with
    | some zs => .ok (.lst zs) μ
    | none => .bad
def OpF (K : PySem.W.Frag) (r : R2) (f : D → D → Mem → Res D) : Prop :=
  ∀ d e ρ μ H x y (Q : VK) (E : XK), Rel K ρ μ H → DV K ρ H d x → DV K ρ H e y → Okr K (DV K) ρ H (f d e μ) Q E → r x y H (Frzn Q)
theorem re_opF {X : Cx} {hx : Option HX} {W : WX} {pos : Pos} {a b : Expr} {ma mb : ME} {op : Operator} {r : R2} {f : D → D → Mem → Res D} (ho : OpR X (binaryOp op) r) (om : OpF X.K r f) (ha : RE X hx W a ma) (hb : RE X hx W b mb) : RE X hx W (.BinOp a op b pos) (mop f ma mb) := by
  obtain ⟨ta, pa, ra⟩ := ha.ex
  obtain ⟨tb, pb, rb⟩ := hb.ex
  exact ⟨⟨_, pe_fzo (pe_op ho pa pb), Ref.two (k := fun x y σ H Q => r x y H (Frzn Q)) stay_DV ra rb fun d e ρ μ δ σ H x y Q rel env dx dy ok => om d e ρ μ H x y Q _ rel dx dy ok⟩⟩
theorem okr_new {K : PySem.W.Frag} {ρ : List Addr} {μ : Mem} {H : Hp} {Q : VK} {E : XK} {ds : List D} {vs : List V} {p : Addr} (rel : Rel K ρ μ H) (hp : H p = none) (hd : DVs K ρ H ds vs) (ok : Okr K (DV K) ρ H (.ok (.lst ds) μ) Q E) : Frzn Q (.ref p) (upd H p (.lst vs)) := by
  refine .inr ⟨p, vs, rfl, upd_same, fun o => ?_⟩
  have f1 : Fz ρ ρ H (upd H p (.lst vs)) := Fz.new hp
  have f2 := Fz0.frz (o := o) (upd_same (H := H) (a := p) (o := .lst vs))
  exact ok.go (Pre.refl _) (f1.late hp) ((rel.alloc hp).other (rel.fresh hp) f2) (dv_frz upd_same (hd.mono (Pre.refl _) f1))
theorem okr_tup {K : PySem.W.Frag} {ρ : List Addr} {μ : Mem} {H : Hp} {Q : VK} {E : XK} {ds : List D} {vs : List V} {p : Addr} (rel : Rel K ρ μ H) (hp : H p = none) (hd : DVs K ρ H ds vs) (ok : Okr K (DV K) ρ H (.ok (.tup ds) μ) Q E) : Q (.ref p) (upd H p (.tup vs)) :=
  ok.go (Pre.refl _) (Fz.new hp) (rel.alloc hp) (by simp only [DV]; exact ⟨p, vs, rfl, .inl upd_same, hd.mono0 (Pre.refl _) (Fz0.new hp)⟩)
theorem catL_ok {K : PySem.W.Frag} {ρ : List Addr} {μ : Mem} {H : Hp} {d e : D} {x y : V} {zs : List D} (rel : Rel K ρ μ H) (dx : DV K ρ H d x) (dy : DV K ρ H e y) (h : catL μ d e = some zs) :
    ∃ l b xs ys, x = .ref l ∧ y = .ref b ∧ LsR K H l xs ∧ LsR K H b ys ∧ xs.length + ys.length ≤ sizeLine ∧ DVs K ρ H zs (xs ++ ys) := by
  unfold catL at h
  cases h1 : lstOf μ d with
  | none => rw [h1] at h; cases h
  | some us =>
    cases h2 : lstOf μ e with
    | none => rw [h1, h2] at h; cases h
    | some ws =>
      rw [h1, h2] at h
      simp only [Option.bind_some] at h
      split at h
      · rename_i hl
        have e3 := Option.some.inj h
        subst e3
        obtain ⟨l, xs, r1, r2, r3⟩ := lstOf_ok rel dx h1
        obtain ⟨b, ys, q1, q2, q3⟩ := lstOf_ok rel dy h2
        exact ⟨l, b, xs, ys, r1, q1, r2, q2, by rw [← r3.length, ← q3.length]; exact hl, r3.app q3⟩
      · cases h
theorem opF_add {K : PySem.W.Frag} : OpF K (rAddU K) fAdd := by
  intro d e ρ μ H x y Q E rel dx dy ok
  unfold fAdd at ok
  split at ok
  · exact .inl ⟨_, _, int_ok dx, int_ok dy, .inl (ok.now rel dv_int)⟩
  · split at ok
    · rename_i h
      exact .inr (.inl ⟨_, _, str_ok dx, str_ok dy, h, .inl (ok.now rel dv_str)⟩)
    · exact ok.elim
  · split at ok
    · rename_i xs ys h1
      obtain ⟨a, vs, e1, e2, e3⟩ := tup_ok dx
      obtain ⟨b, us, q1, q2, q3⟩ := tup_ok dy
      have nil : ∀ {ds : List D} {ws : List V}, DVs K ρ H ds ws → ws = [] → ds = [] := fun h z => by
        have := h.length
        rw [z] at this
        exact List.length_eq_zero_iff.mp this
      refine .inr (.inr (.inl ⟨a, b, vs, us, e1, q1, e2.sq, q2.sq, by rw [← e3.length, ← q3.length]; exact h1, fun z => ?_, fun _ z => ?_, fun _ z p hp => ?_⟩))
      · have e4 := nil e3 z
        subst e4
        rw [List.nil_append] at ok
        rw [← q1]
        exact .inl (ok.now rel dy)
      · have e4 := nil q3 z
        subst e4
        rw [List.append_nil] at ok
        rw [← e1]
        exact .inl (ok.now rel dx)
      · exact .inl (okr_tup rel hp (e3.app q3) ok)
    · exact ok.elim
  · split at ok
    · rename_i zs hz
      obtain ⟨l, b, xs, ys, r1, q1, r2, q2, h4, h5⟩ := catL_ok rel dx dy hz
      exact .inr (.inr (.inr ⟨l, b, xs, ys, r1, q1, r2, q2, h4, fun p hp => okr_new rel hp h5 ok⟩))
    · exact ok.elim
section
variable {X : Cx} {hx : Option HX} {W : WX} {pos : Pos} {a b : Expr} {ma mb : ME}
theorem re_add (ha : RE X hx W a ma) (hb : RE X hx W b mb) : RE X hx W (.BinOp a .Add b pos) (mop fAdd ma mb) := re_opF op_addU opF_add ha hb
def mcatN (a b : ME) : MX (List D) := bindM a fun x => bindM b fun y => fun _ μ => match catL μ x y with
  | some zs => .ok zs μ
  | none => .bad
theorem rn_add (ha : RE X hx W a ma) (hb : RE X hx W b mb) : RN X hx W (.BinOp a .Add b pos) (mcatN ma mb) := by
  obtain ⟨ta, pa, ra⟩ := ha.ex
  obtain ⟨tb, pb, rb⟩ := hb.ex
  refine ⟨⟨_, pe_op op_catR pa pb, RefN.two stay_DV ra rb fun d e ρ μ δ σ H x y Q rel env dx dy ok => ?_⟩⟩
  split at ok
  · rename_i zs hz
    obtain ⟨l, b, xs, ys, r1, q1, r2, q2, h4, h5⟩ := catL_ok rel dx dy hz
    exact ⟨l, b, xs, ys, r1, q1, r2, q2, h4, fun p hp => OkN.new rel hp h5 ok⟩
  · exact ok.elim
def fInt (C : Int → Int → Prop) [∀ i j, Decidable (C i j)] (g : Int → Int → Int) (d e : D) (μ : Mem) : Res D := match d, e with
  | .int i, .int j => if C i j then .ok (.int (g i j)) μ else .bad
  | _, _ => .bad
theorem opM_int {K : PySem.W.Frag} {C C' : Int → Int → Prop} [∀ i j, Decidable (C' i j)] {g : Int → Int → Int} (h : ∀ i j, C' i j → C i j) : OpM K (rI C fun i j => .int (g i j)) (fInt C' g) := by
  intro d e ρ μ H x y Q E rel dx dy ok
  unfold fInt at ok
  split at ok
  · split at ok
    · rename_i hc
      exact ⟨_, _, int_ok dx, int_ok dy, h _ _ hc, ok.now rel dv_int⟩
    · exact ok.elim
  · exact ok.elim
def fSub (d e : D) (μ : Mem) : Res D := match d, e with
  | .int i, .int j => .ok (.int (i - j)) μ
  | _, _ => .bad
theorem re_sub (ha : RE X hx W a ma) (hb : RE X hx W b mb) : RE X hx W (.BinOp a .Sub b pos) (mop fSub ma mb) :=
  re_op op_sub (fun d e ρ μ H x y Q E rel dx dy ok => by
    unfold fSub at ok
    split at ok
    · exact ⟨_, _, int_ok dx, int_ok dy, ok.now rel dv_int⟩
    · exact ok.elim) ha hb
def fMod (d e : D) (μ : Mem) : Res D := fInt (fun _ j => 0 < j) (fun i j => i % j) d e μ
def fDiv (d e : D) (μ : Mem) : Res D := fInt (fun _ j => 0 < j ∧ j.natAbs.log2 < 9000) (fun i j => i / j) d e μ
def fMul (d e : D) (μ : Mem) : Res D := fInt (fun i j => i.natAbs.log2 + j.natAbs.log2 < 1000000) (fun i j => i * j) d e μ
def fPow (d e : D) (μ : Mem) : Res D := fInt (fun i j => 0 ≤ j ∧ j ≤ 1000000 ∧ i.natAbs < 2 ^ 64) (fun i j => i ^ j.toNat) d e μ
theorem re_mod (ha : RE X hx W a ma) (hb : RE X hx W b mb) : RE X hx W (.BinOp a .Mod b pos) (mop fMod ma mb) := re_op op_mod (opM_int fun _ _ h => h) ha hb
theorem re_div (ha : RE X hx W a ma) (hb : RE X hx W b mb) : RE X hx W (.BinOp a .FloorDiv b pos) (mop fDiv ma mb) := re_op op_fdivW (opM_int fun _ _ h => h) ha hb
theorem re_mul (ha : RE X hx W a ma) (hb : RE X hx W b mb) : RE X hx W (.BinOp a .Mult b pos) (mop fMul ma mb) := re_op op_mulW (opM_int fun _ _ h => h) ha hb
theorem re_pow (ha : RE X hx W a ma) (hb : RE X hx W b mb) : RE X hx W (.BinOp a .Pow b pos) (mop fPow ma mb) := re_op op_pow (opM_int fun _ _ h => h) ha hb
def fAnd (d e : D) (μ : Mem) : Res D := match d, e with
  | .int i, .int j => .ok (.int (Builtin.bitAnd i j)) μ
  | _, _ => .bad
def mneg (a : ME) : ME := bindM a fun x => match x with
  | .int i => fun _ μ => .ok (.int (-i)) μ
  | _ => fun _ _ => .bad
def cInt (p : Int → Int → Bool) (d e : D) (μ : Mem) : Res Bool := match d, e with
  | .int i, .int j => .ok (p i j) μ
  | _, _ => .bad
theorem cmpM_int {K : PySem.W.Frag} {p : Int → Int → Bool} : CmpM K (rI0 fun i j => .bl (p i j)) (cInt p) := by
  intro d e ρ μ H x y Q E rel dx dy ok
  unfold cInt at ok
  split at ok
  · exact ⟨_, _, int_ok dx, int_ok dy, ok.now rel rfl⟩
  · exact ok.elim
def cLt := cInt fun i j => decide (i < j)
def cLe := cInt fun i j => decide (i ≤ j)
def cGt := cInt fun i j => decide (j < i)
def cGe := cInt fun i j => decide (j ≤ i)
theorem cm_lt {K : PySem.W.Frag} : CmpM K (rI0 fun i j => .bl (decide (i < j))) cLt := cmpM_int
theorem cm_gt {K : PySem.W.Frag} : CmpM K (rI0 fun i j => .bl (decide (j < i))) cGt := cmpM_int
theorem cm_ge {K : PySem.W.Frag} : CmpM K (rI0 fun i j => .bl (decide (j ≤ i))) cGe := cmpM_int
def D.isNon : D → Bool
  | .non => true
  | _ => false
def cIs (d e : D) (μ : Mem) : Res Bool := match e with
  | .non => .ok d.isNon μ
  | _ => .bad
def cIsNot (d e : D) (μ : Mem) : Res Bool := match e with
  | .non => .ok (!d.isNon) μ
  | _ => .bad
theorem isNon_ok {K : PySem.W.Frag} {ρ : List Addr} {H : Hp} {d : D} {x : V} (dx : DV K ρ H d x) : decide (x = V.non) = d.isNon := by
  cases d <;> simp only [DV] at dx <;> first
    | (subst dx; simp [D.isNon]; done)
    | (obtain ⟨_, _, rfl, _⟩ := dx; simp [D.isNon]; done)
    | (obtain ⟨_, _, rfl⟩ := dx; simp [D.isNon]; done)
theorem cm_is {K : PySem.W.Frag} : CmpM K (fun x y H Q => y = .non ∧ Q (.bl (decide (x = .non))) H) cIs := by
  intro d e ρ μ H x y Q E rel dx dy ok
  unfold cIs at ok
  split at ok
  · exact ⟨non_ok dy, by rw [isNon_ok dx]; exact ok.now rel rfl⟩
  · exact ok.elim
end
end Doz
end
section
namespace Doz
open PySem L2
mutual
def D.eqv : D → D → Bool
  | .non, .non => true
  | .bl a, .bl b => a == b
  | .bl a, .int j => (if a then 1 else 0) == j
  | .int i, .bl b => i == (if b then 1 else 0)
  | .int i, .int j => i == j
  | .str x, .str y => x == y
  | .lst xs, .lst ys => D.eqvs xs ys
  | .tup xs, .tup ys => D.eqvs xs ys
  | _, _ => false
def D.eqvs : List D → List D → Bool
  | [], [] => true
  | x :: xs, y :: ys => D.eqv x y && D.eqvs xs ys
  | [], _ :: _ => false
  | _ :: _, [] => false
end
def rsv (μ : Mem) : Nat → D → Option D
  | 0, _ => none
  | f + 1, d => match d with
    | .tup ds => (ds.mapM (rsv μ f)).map D.tup
    | .lst ds => (ds.mapM (rsv μ f)).map D.lst
    | .loc n => match μ.cells[n]? with
      | some (.lst ds) => (ds.mapM (rsv μ f)).map D.lst
      | _ => none
    | .sta _ => none
    | .ty _ => none
    | d => some d
mutual
def toPy : D → PyData
  | .non => .none
  | .bl b => .bool b
  | .int i => .int i
  | .str x => .str x
  | .tup ds => .tuple (toPys ds)
  | .lst ds => .list (toPys ds)
  | _ => .none
def toPys : List D → List PyData
  | [] => []
  | d :: ds => toPy d :: toPys ds
end
mutual
def D.pure : D → Bool
  | .tup ds => D.pures ds
  | .lst ds => D.pures ds
  | .loc _ => false
  | .sta _ => false
  | .ty _ => false
  | _ => true
def D.pures : List D → Bool
  | [] => true
  | d :: ds => D.pure d && D.pures ds
end
mutual
theorem eqv_py : ∀ (a b : D), a.pure = true → b.pure = true → PyData.eqv (toPy a) (toPy b) = D.eqv a b
  | .non, b, _, hb => by cases b <;> simp_all [toPy, PyData.eqv, D.eqv, D.pure]
  | .bl x, b, _, hb => by cases b <;> simp_all [toPy, PyData.eqv, D.eqv, D.pure]
  | .int x, b, _, hb => by cases b <;> simp_all [toPy, PyData.eqv, D.eqv, D.pure]
  | .str x, b, _, hb => by cases b <;> simp_all [toPy, PyData.eqv, D.eqv, D.pure]
  | .tup xs, b, ha, hb => by
    cases b with
    | tup ys => simp only [toPy, PyData.eqv, D.eqv]; exact eqvs_py xs ys (by simpa [D.pure] using ha) (by simpa [D.pure] using hb)
    | _ => simp_all [toPy, PyData.eqv, D.eqv, D.pure]
  | .lst xs, b, ha, hb => by
    cases b with
    | lst ys => simp only [toPy, PyData.eqv, D.eqv]; exact eqvs_py xs ys (by simpa [D.pure] using ha) (by simpa [D.pure] using hb)
    | _ => simp_all [toPy, PyData.eqv, D.eqv, D.pure]
  | .loc _, _, ha, _ => by simp [D.pure] at ha
  | .sta _, _, ha, _ => by simp [D.pure] at ha
  | .ty _, _, ha, _ => by simp [D.pure] at ha
theorem eqvs_py : ∀ (a b : List D), D.pures a = true → D.pures b = true → PyData.eqvAll (toPys a) (toPys b) = D.eqvs a b
  | [], b, _, _ => by cases b <;> simp [toPys, PyData.eqvAll, D.eqvs]
  | x :: xs, b, ha, hb => by
    cases b with
    | nil => simp [toPys, PyData.eqvAll, D.eqvs]
    | cons y ys =>
      simp only [D.pures, Bool.and_eq_true] at ha hb
      simp only [toPys, PyData.eqvAll, D.eqvs]
      rw [eqv_py x y ha.1 hb.1, eqvs_py xs ys ha.2 hb.2]
end
mutual
theorem D.eqv_refl : ∀ a : D, a.pure = true → D.eqv a a = true
  | .non, _ => by simp [D.eqv]
  | .bl x, _ => by simp [D.eqv]
  | .int x, _ => by simp [D.eqv]
  | .str x, _ => by simp [D.eqv]
  | .tup xs, h => by simp only [D.eqv]; exact D.eqvs_refl xs (by simpa [D.pure] using h)
  | .lst xs, h => by simp only [D.eqv]; exact D.eqvs_refl xs (by simpa [D.pure] using h)
  | .loc _, h => by simp [D.pure] at h
  | .sta _, h => by simp [D.pure] at h
  | .ty _, h => by simp [D.pure] at h
theorem D.eqvs_refl : ∀ a : List D, D.pures a = true → D.eqvs a a = true
  | [], _ => by simp [D.eqvs]
  | x :: xs, h => by
    simp only [D.pures, Bool.and_eq_true] at h
    simp [D.eqvs, D.eqv_refl x h.1, D.eqvs_refl xs h.2]
end
theorem mapM_cons_some {α β : Type} {f : α → Option β} {x : α} {xs : List α} {zs : List β} (h : (x :: xs).mapM f = some zs) : ∃ y ys, f x = some y ∧ xs.mapM f = some ys ∧ zs = y :: ys := by
  rw [List.mapM_cons] at h
  cases h1 : f x with
  | none => rw [h1] at h; cases h
  | some y =>
    cases h2 : xs.mapM f with
    | none => rw [h1, h2] at h; cases h
    | some ys =>
      rw [h1, h2] at h
      exact ⟨y, ys, rfl, rfl, (Option.some.inj h).symm⟩
theorem rsvs_pure {μ : Mem} {f : Nat} (ih : ∀ d p, rsv μ f d = some p → p.pure = true) : ∀ {ds ps : List D}, ds.mapM (rsv μ f) = some ps → D.pures ps = true
  | [], ps, h => by
    have : ps = [] := by simpa using h.symm
    subst this; simp [D.pures]
  | d :: ds, ps, h => by
    obtain ⟨y, ys, h1, h2, rfl⟩ := mapM_cons_some h
    simp [D.pures, ih d y h1, rsvs_pure ih h2]
theorem rsv_pure {μ : Mem} : ∀ (f : Nat) (d p : D), rsv μ f d = some p → p.pure = true
  | 0, d, p, h => by simp [rsv] at h
  | f + 1, d, p, h => by
    have lst : ∀ {ds : List D}, (ds.mapM (rsv μ f)).map D.lst = some p → p.pure = true := fun {ds} h => by
      obtain ⟨ps, h1, rfl⟩ := Option.map_eq_some_iff.mp h
      simpa [D.pure] using rsvs_pure (rsv_pure f) h1
    cases d with
    | tup ds =>
      simp only [rsv] at h
      obtain ⟨ps, h1, rfl⟩ := Option.map_eq_some_iff.mp h
      simpa [D.pure] using rsvs_pure (rsv_pure f) h1
    | lst ds => simp only [rsv] at h; exact lst h
    | loc n =>
      simp only [rsv] at h
      split at h
      · exact lst h
      · cases h
    | sta _ => simp [rsv] at h
    | ty _ => simp [rsv] at h
    | non => simp [rsv] at h; subst h; rfl
    | bl _ => simp [rsv] at h; subst h; rfl
    | int _ => simp [rsv] at h; subst h; rfl
    | str _ => simp [rsv] at h; subst h; rfl
section
variable {K : PySem.W.Frag} {ρ : List Addr} {μ : Mem} {H : Hp}
theorem rsvs_dp {f : Nat} (ih : ∀ d p v, rsv μ f d = some p → DV K ρ H d v → Dp K H v (toPy p)) : ∀ {ds ps : List D} {vs : List V}, ds.mapM (rsv μ f) = some ps → DVs K ρ H ds vs → DpAll K H vs (toPys ps)
  | [], ps, vs, h, dv => by
    have : ps = [] := by simpa using h.symm
    subst this
    simp only [DVs] at dv
    subst dv
    exact .nil
  | d :: ds, ps, vs, h, dv => by
    obtain ⟨y, ys, h1, h2, rfl⟩ := mapM_cons_some h
    simp only [DVs] at dv
    obtain ⟨v, r, rfl, d1, d2⟩ := dv
    simp only [toPys]
    exact .cons (ih d y v h1 d1) (rsvs_dp ih h2 d2)
theorem rsv_dp (rel : Rel K ρ μ H) : ∀ (f : Nat) (d p : D) (v : V), rsv μ f d = some p → DV K ρ H d v → Dp K H v (toPy p)
  | 0, d, p, v, h, _ => by simp [rsv] at h
  | f + 1, d, p, v, h, dv => by
    cases d with
    | tup ds =>
      simp only [rsv] at h
      obtain ⟨ps, h1, rfl⟩ := Option.map_eq_some_iff.mp h
      obtain ⟨a, vs, rfl, h2, h3⟩ := tup_ok dv
      simp only [toPy]
      exact .tup h2.sq (rsvs_dp (rsv_dp rel f) h1 h3)
    | lst ds =>
      simp only [rsv] at h
      obtain ⟨ps, h1, rfl⟩ := Option.map_eq_some_iff.mp h
      obtain ⟨a, vs, rfl, h2, h3⟩ := lstOf_ok rel dv (ds := ds) rfl
      simp only [toPy]
      exact .lst (rd_sq h2) (rsvs_dp (rsv_dp rel f) h1 h3)
    | loc n =>
      simp only [rsv] at h
      split at h
      · rename_i ds hc
        obtain ⟨ps, h1, rfl⟩ := Option.map_eq_some_iff.mp h
        obtain ⟨a, vs, rfl, h2, h3⟩ := lstOf_ok rel dv (ds := ds) (by simp [lstOf, hc])
        simp only [toPy]
        exact .lst (rd_sq h2) (rsvs_dp (rsv_dp rel f) h1 h3)
      · cases h
    | sta _ => simp [rsv] at h
    | ty _ => simp [rsv] at h
    | non => simp [rsv] at h; subst h; rw [non_ok dv]; exact .non
    | bl _ => simp [rsv] at h; subst h; rw [bl_ok dv]; exact .bl _
    | int _ => simp [rsv] at h; subst h; rw [int_ok dv]; exact .int _
    | str _ => simp [rsv] at h; subst h; rw [str_ok dv]; exact .str _
end
def D.sc : D → Bool
  | .non => true
  | .bl _ => true
  | .int _ => true
  | .str _ => true
  | _ => false
def D.fits (d : D) : Bool := SeqAt.shaped (toPy d)
def cEq (d e : D) (μ : Mem) : Res Bool :=
  if (d.sc && e.sc) = true then .ok (D.eqv d e) μ else match rsv μ 8 d, rsv μ 8 e with
    | some p, some q => if (p.fits && q.fits) = true then .ok (D.eqv p q) μ else .bad
    | _, _ => .bad
def cNe (d e : D) (μ : Mem) : Res Bool := (cEq d e μ).bind fun b μ => .ok (!b) μ
def rEqU (K : PySem.W.Frag) : R2 := fun x y H Q => rEq x y H Q ∨ rEqD K x y H Q
def rNeU (K : PySem.W.Frag) : R2 := fun x y H Q => rNe x y H Q ∨ rNeD K x y H Q
theorem op_eqU {X : Cx} (hu : X.A.units + 64 < cLine) : OpR X (compareOp .Eq) (rEqU X.K) := op_eq.or (op_eqD hu)
theorem op_neU {X : Cx} (hu : X.A.units + 64 < cLine) : OpR X (compareOp .NotEq) (rNeU X.K) := op_ne.or (op_neD hu)
theorem eq_core {K : PySem.W.Frag} {ρ : List Addr} {μ : Mem} {H : Hp} {d e : D} {x y : V} {b : Bool} {μ' : Mem} (rel : Rel K ρ μ H) (dx : DV K ρ H d x) (dy : DV K ρ H e y) (h : cEq d e μ = .ok b μ') :
    μ' = μ ∧ ((scal x y = true ∧ decide (x = y) = b) ∨ ∃ p q, Dp K H x p ∧ Dp K H y q ∧ SeqAt.shaped p = true ∧ SeqAt.shaped q = true ∧ PyData.eqv p q = b) := by
  unfold cEq at h
  split at h
  · rename_i hs
    have h' : D.eqv d e = b ∧ μ = μ' := by simpa using h
    obtain ⟨rfl, rfl⟩ := h'
    refine ⟨rfl, ?_⟩
    cases d <;> cases e <;> simp [D.sc] at hs
    all_goals
      first
        | rw [non_ok dx]
        | rw [bl_ok dx]
        | rw [int_ok dx]
        | rw [str_ok dx]
    all_goals
      first
        | rw [non_ok dy]
        | rw [bl_ok dy]
        | rw [int_ok dy]
        | rw [str_ok dy]
    all_goals first
      | (refine .inl ⟨rfl, ?_⟩; simp [D.eqv]; done)
      | (refine .inl ⟨rfl, ?_⟩; rw [Bool.eq_iff_iff]; simp [D.eqv]; done)
      | exact .inr ⟨_, _, .bl _, .int _, by rfl, by rfl, by simp [D.eqv, PyData.eqv]⟩
      | exact .inr ⟨_, _, .int _, .bl _, by rfl, by rfl, by simp [D.eqv, PyData.eqv]⟩
  · split at h
    · rename_i p q hp hq
      split at h
      · rename_i hf
        simp only [Bool.and_eq_true] at hf
        have h' : D.eqv p q = b ∧ μ = μ' := by simpa using h
        obtain ⟨rfl, rfl⟩ := h'
        exact ⟨rfl, .inr ⟨_, _, rsv_dp rel 8 d p x hp dx, rsv_dp rel 8 e q y hq dy, hf.1, hf.2, eqv_py p q (rsv_pure 8 d p hp) (rsv_pure 8 e q hq)⟩⟩
      · cases h
    · cases h
theorem cEq_noerr {d e : D} {μ : Mem} {C : Addr} {w : D} {μ' : Mem} : cEq d e μ ≠ .err C w μ' := by
  unfold cEq
  split
  · exact fun h => nomatch h
  · split
    · split <;> exact fun h => nomatch h
    · exact fun h => nomatch h
theorem cm_eq {K : PySem.W.Frag} : CmpM K (rEqU K) cEq := by
  intro d e ρ μ H x y Q E rel dx dy ok
  cases h : cEq d e μ with
  | ok b μ' =>
    rw [h] at ok
    obtain ⟨rfl, hc⟩ := eq_core rel dx dy h
    have q := ok.now rel (b := V.bl b) rfl
    rcases hc with ⟨h1, h2⟩ | ⟨p, q', h1, h2, h3, h4, h5⟩
    · exact .inl ⟨h1, by rw [h2]; exact q⟩
    · exact .inr ⟨p, q', h1, h2, h3, h4, by rw [h5]; exact q⟩
  | err C w μ' => exact absurd h cEq_noerr
  | bad => rw [h] at ok; exact ok.elim
theorem cm_ne {K : PySem.W.Frag} : CmpM K (rNeU K) cNe := by
  intro d e ρ μ H x y Q E rel dx dy ok
  unfold cNe at ok
  cases h : cEq d e μ with
  | ok b μ' =>
    rw [h] at ok
    obtain ⟨rfl, hc⟩ := eq_core rel dx dy h
    have q := Okr.now (b := V.bl !b) ok rel rfl
    rcases hc with ⟨h1, h2⟩ | ⟨p, q', h1, h2, h3, h4, h5⟩
    · exact .inl ⟨h1, by rw [h2]; exact q⟩
    · exact .inr ⟨p, q', h1, h2, h3, h4, by rw [h5]; exact q⟩
  | err C w μ' => exact absurd h cEq_noerr
  | bad => rw [h] at ok; exact ok.elim
section
variable {κ : Type} [DecidableEq κ]
def kget (kvs : List (κ × D)) (k : κ) : Option D := (kvs.find? fun kv => decide (kv.1 = k)).map (·.2)
def kput (kvs : List (κ × D)) (k : κ) (v : D) : List (κ × D) :=
  if (kvs.any fun kv => decide (kv.1 = k)) = true then kvs.map (fun kv => if kv.1 = k then (kv.1, v) else kv) else kvs ++ [(k, v)]
def kdrop (kvs : List (κ × D)) (k : κ) : List (κ × D) := kvs.filter fun kv => decide (kv.1 ≠ k)
variable {K : PySem.W.Frag} {ρ : List Addr} {H : Hp}
theorem KDs.any {k : κ} : ∀ {a : List (κ × D)} {b : List (κ × V)}, KDs K ρ H a b → (b.any fun kv => decide (kv.1 = k)) = a.any fun kv => decide (kv.1 = k)
  | _, _, .nil => rfl
  | _, _, .cons r t => by
    simp only [List.any_cons]
    rw [KDs.any t, r.1]
theorem KDs.val {k : κ} : ∀ {a : List (κ × D)} {b : List (κ × V)}, KDs K ρ H a b → (∀ d, kget a k = some d → ∃ v, valV b k = some v ∧ DV K ρ H d v) ∧ (kget a k = none → valV b k = none)
  | _, _, .nil => ⟨fun _ h => by simp [kget] at h, fun _ => rfl⟩
  | p :: a, q :: b, .cons r t => by
    by_cases h : p.1 = k
    · have e1 : kget (p :: a) k = some p.2 := by simp [kget, List.find?_cons, h]
      have e2 : valV (q :: b) k = some q.2 := valV_pos (r.1 ▸ h)
      refine ⟨fun d e => ?_, fun e => by rw [e1] at e; cases e⟩
      rw [e1] at e
      exact ⟨q.2, e2, (Option.some.inj e) ▸ r.2⟩
    · have e1 : kget (p :: a) k = kget a k := by simp [kget, List.find?_cons, h]
      have e2 : valV (q :: b) k = valV b k := valV_neg (r.1 ▸ h)
      rw [e1, e2]
      exact KDs.val t
theorem KDs.app {a c : List (κ × D)} {b e : List (κ × V)} (h : KDs K ρ H a b) (h' : KDs K ρ H c e) : KDs K ρ H (a ++ c) (b ++ e) := by
  induction h with
  | nil => exact h'
  | cons r t ih => exact .cons r ih
theorem KDs.put {k : κ} {d : D} {v : V} (hd : DV K ρ H d v) {a : List (κ × D)} {b : List (κ × V)} (h : KDs K ρ H a b) : KDs K ρ H (kput a k d) (putK b k v) := by
  unfold kput putK
  rw [KDs.any h]
  split
  · have all : ∀ {a : List (κ × D)} {b : List (κ × V)}, KDs K ρ H a b → KDs K ρ H (a.map fun kv => if kv.1 = k then (kv.1, d) else kv) (b.map fun kv => if kv.1 = k then (kv.1, v) else kv) := fun h => by
      induction h with
      | nil => exact .nil
      | @cons p q _ _ r t ih =>
        refine .cons ?_ ih
        dsimp only
        rw [← r.1]
        split
        · exact ⟨rfl, hd⟩
        · exact r
    exact all h
  · exact h.app (.cons ⟨rfl, hd⟩ .nil)
theorem KDs.drop {k : κ} {a : List (κ × D)} {b : List (κ × V)} (h : KDs K ρ H a b) : KDs K ρ H (kdrop a k) (dropK b k) := by
  unfold kdrop dropK
  induction h with
  | nil => exact .nil
  | @cons p q _ _ r t ih =>
    simp only [List.filter_cons]
    rw [← r.1]
    split
    · exact .cons r ih
    · exact ih
theorem KDs.length {a : List (κ × D)} {b : List (κ × V)} (h : KDs K ρ H a b) : a.length = b.length := Paired.length h
end
def keyOf : D → Option Key
  | .int i => some (.inl i)
  | .str x => some (.inr x)
  | _ => none
theorem keyOf_ok {K : PySem.W.Frag} {ρ : List Addr} {H : Hp} {d : D} {v : V} {k : Key} (h : keyOf d = some k) (dv : DV K ρ H d v) : v = kV k := by
  cases d with
  | int i => simp [keyOf] at h; subst h; exact int_ok dv
  | str x => simp [keyOf] at h; subst h; exact str_ok dv
  | _ => simp [keyOf] at h
def dictOf (μ : Mem) : D → Option (List (Key × D))
  | .loc n => match μ.cells[n]? with
    | some (.dK kds) => some kds
    | _ => none
  | _ => none
theorem lk_rd {H : Hp} {a : Addr} {l : Bool} {u : HO} (h : Lk H a l u) : Rd H a u := by
  unfold Lk at h
  split at h
  · exact .inr h
  · exact .inl h
theorem dictOf_ok {K : PySem.W.Frag} {ρ : List Addr} {μ : Mem} {H : Hp} {d : D} {v : V} {kds : List (Key × D)} (rel : Rel K ρ μ H) (dv : DV K ρ H d v) (h : dictOf μ d = some kds) :
    ∃ n a kvs, d = .loc n ∧ ρ[n]? = some a ∧ v = .ref a ∧ μ.cells[n]? = some (.dK kds) ∧ Lk H a (μ.lkd n) (.dK kvs) ∧ KDs K ρ H kds kvs := by
  cases d with
  | loc n =>
    simp only [DV] at dv
    obtain ⟨a, h1, e⟩ := dv
    simp only [dictOf] at h
    split at h
    · rename_i es hc
      have := Option.some.inj h
      subst this
      obtain ⟨kvs, h2, h3⟩ := rel.cell n a _ h1 hc
      exact ⟨n, a, kvs, rfl, h1, e, hc, h2, h3⟩
    · cases h
  | _ => simp [dictOf] at h
def dfind (μ : Mem) (d k : D) : Option (Option D) := (dictOf μ d).bind fun kds => (keyOf k).map fun k => kget kds k
theorem dfind_ok {K : PySem.W.Frag} {ρ : List Addr} {μ : Mem} {H : Hp} {d k : D} {x y : V} {o : Option D} (rel : Rel K ρ μ H) (dx : DV K ρ H d x) (dy : DV K ρ H k y) (h : dfind μ d k = some o) :
    ∃ a ov, x = .ref a ∧ DGet H a y ov ∧ (∀ r, o = some r → ∃ v, ov = some v ∧ DV K ρ H r v) ∧ (o = none → ov = none) := by
  unfold dfind at h
  cases h1 : dictOf μ d with
  | none => rw [h1] at h; cases h
  | some kds =>
    rw [h1] at h
    obtain ⟨key, h2, h3⟩ := Option.map_eq_some_iff.mp h
    obtain ⟨n, a, kvs, rfl, r1, rfl, r2, r3, r4⟩ := dictOf_ok rel dx h1
    refine ⟨a, valV kvs key, rfl, .inl ⟨kvs, key, lk_rd r3, keyOf_ok h2 dy, rfl⟩, fun r e => ?_, fun e => ?_⟩
    · exact (KDs.val r4).1 r (h3.trans e)
    · exact (KDs.val r4).2 (h3.trans e)
abbrev Hu (X : Cx) : Prop := X.A.units + 100 < cLine
theorem Hu.h1 {X : Cx} (h : Hu X) : X.A.units + 1 < cLine := Nat.lt_of_le_of_lt (by omega) h
theorem Hu.h64 {X : Cx} (h : Hu X) : X.A.units + 64 < cLine := Nat.lt_of_le_of_lt (by omega) h
theorem Hu.h65 {X : Cx} (h : Hu X) : X.A.units + 65 < cLine := Nat.lt_of_le_of_lt (by omega) h
theorem Hu.of {X : Cx} {k : Nat} (h : Room k X.A) : Hu X := by have := h.un; unfold Hu; omega
def rInDict : R2 := fun y x H Q => ∃ a o, x = .ref a ∧ DGet H a y o ∧ Q (.bl o.isSome) H
def rNotInDict : R2 := fun y x H Q => ∃ a o, x = .ref a ∧ DGet H a y o ∧ Q (.bl (!o.isSome)) H
theorem op_inDict {X : Cx} (hu : Hu X) : OpR X (compareOp .In) rInDict := by
  intro pins s σ H x y v u Q I rx ry h
  obtain ⟨a, o, rfl, g, q⟩ := h
  cases ry
  exact d_in hu.h1 I g rx fun s3 I3 => ⟨.bl o.isSome, H, I3, rfl, q⟩
theorem op_notInDict {X : Cx} (hu : Hu X) : OpR X (compareOp .NotIn) rNotInDict := by
  intro pins s σ H x y v u Q I rx ry h
  obtain ⟨a, o, rfl, g, q⟩ := h
  cases ry
  exact d_notIn hu.h1 I g rx fun s3 I3 => ⟨.bl (!o.isSome), H, I3, rfl, q⟩
def rInSign : R2 := fun x y H Q => ∃ (c : Nat) (z : Str), x = .str ⟨#[c]⟩ ∧ y = .str z ∧ Q (.bl (decide (c ∈ z.cps.toList))) H
def rNotInSign : R2 := fun x y H Q => ∃ (c : Nat) (z : Str), x = .str ⟨#[c]⟩ ∧ y = .str z ∧ Q (.bl (!decide (c ∈ z.cps.toList))) H
def rInU (K : PySem.W.Frag) : R2 := fun x y H Q => rIn K false x y H Q ∨ rInD K x y H Q ∨ rInDict x y H Q ∨ rInSign x y H Q
def rNotInU (K : PySem.W.Frag) : R2 := fun x y H Q => rIn K true x y H Q ∨ rNotInD K x y H Q ∨ rNotInDict x y H Q ∨ rNotInSign x y H Q
theorem op_inU {X : Cx} (hu : Hu X) : OpR X (compareOp .In) (rInU X.K) := op_in_seq.or ((op_inD hu.h65).or ((op_inDict hu).or op_in_sign))
theorem op_notInU {X : Cx} (hu : Hu X) : OpR X (compareOp .NotIn) (rNotInU X.K) := op_notIn_seq.or ((op_notInD hu.h65).or ((op_notInDict hu).or op_notIn_sign))
def signIn : D → D → Option Bool
  | .str x, .str z => if x.cps.size = 1 then some (decide (x.cps.getD 0 0 ∈ z.cps.toList)) else none
  | _, _ => none
def seqOf (μ : Mem) : D → Option (List D)
  | .tup ds => some ds
  | d => lstOf μ d
def cIn (d e : D) (μ : Mem) : Res Bool := match signIn d e with
  | some b => .ok b μ
  | none => match dfind μ e d with
    | some o => .ok o.isSome μ
    | none => match seqOf μ e with
      | none => .bad
      | some ds => if (d.sc && ds.all D.sc) = true then .ok (ds.any fun z => D.eqv z d) μ else match rsv μ 8 d, rsv μ 8 e with
        | some p, some (.lst qs) => if (p.fits && (D.lst qs).fits) = true then .ok (qs.any fun z => D.eqv z p) μ else .bad
        | _, _ => .bad
def cNotIn (d e : D) (μ : Mem) : Res Bool := (cIn d e μ).bind fun b μ => .ok (!b) μ
theorem sc_flat {K : PySem.W.Frag} {ρ : List Addr} {H : Hp} {d : D} {v : V} (h : d.sc = true) (dv : DV K ρ H d v) : flatV v = true := by
  cases d <;> simp [D.sc] at h
  · rw [non_ok dv]; rfl
  · rw [bl_ok dv]; rfl
  · rw [int_ok dv]; rfl
  · rw [str_ok dv]; rfl
theorem sc_eqV {K : PySem.W.Frag} {ρ : List Addr} {H : Hp} {d e : D} {v u : V} (h : d.sc = true) (h' : e.sc = true) (dv : DV K ρ H d v) (du : DV K ρ H e u) : eqV v u = D.eqv d e := by
  cases d <;> simp [D.sc] at h <;> cases e <;> simp [D.sc] at h'
  all_goals
    first
      | rw [non_ok dv]
      | rw [bl_ok dv]
      | rw [int_ok dv]
      | rw [str_ok dv]
  all_goals
    first
      | rw [non_ok du]
      | rw [bl_ok du]
      | rw [int_ok du]
      | rw [str_ok du]
  all_goals simp [eqV, D.eqv]
theorem scs_flat {K : PySem.W.Frag} {ρ : List Addr} {H : Hp} : ∀ {ds : List D} {vs : List V}, ds.all D.sc = true → DVs K ρ H ds vs → vs.all flatV = true
  | [], vs, _, h => by simp only [DVs] at h; subst h; rfl
  | d :: ds, vs, hs, h => by
    simp only [DVs] at h
    obtain ⟨v, r, rfl, h1, h2⟩ := h
    simp only [List.all_cons, Bool.and_eq_true] at hs ⊢
    exact ⟨sc_flat hs.1 h1, scs_flat hs.2 h2⟩
theorem scs_in {K : PySem.W.Frag} {ρ : List Addr} {H : Hp} {d : D} {v : V} (hd : d.sc = true) (dv : DV K ρ H d v) : ∀ {ds : List D} {vs : List V}, ds.all D.sc = true → DVs K ρ H ds vs → inV v vs = ds.any fun z => D.eqv z d
  | [], vs, _, h => by simp only [DVs] at h; subst h; rfl
  | e :: ds, vs, hs, h => by
    simp only [DVs] at h
    obtain ⟨u, r, rfl, h1, h2⟩ := h
    simp only [List.all_cons, Bool.and_eq_true] at hs
    have ih := scs_in hd dv hs.2 h2
    unfold inV at ih ⊢
    simp only [List.any_cons]
    rw [sc_eqV hs.1 hd h1 dv, ih]
theorem pures_any {p : D} (hp : p.pure = true) : ∀ {qs : List D}, D.pures qs = true → ((toPys qs).any fun z => PyData.eqv z (toPy p)) = qs.any fun z => D.eqv z p
  | [], _ => rfl
  | q :: qs, h => by
    simp only [D.pures, Bool.and_eq_true] at h
    simp only [toPys, List.any_cons]
    rw [eqv_py q p h.1 hp, pures_any hp h.2]
theorem seqOf_ok {K : PySem.W.Frag} {ρ : List Addr} {μ : Mem} {H : Hp} {d : D} {v : V} {ds : List D} (rel : Rel K ρ μ H) (dv : DV K ρ H d v) (h : seqOf μ d = some ds) : ∃ a vs, v = .ref a ∧ (SqL K H a vs ∨ SqT K H a vs) ∧ DVs K ρ H ds vs := by
  cases d with
  | tup es =>
    have : es = ds := by simpa [seqOf] using h
    subst this
    obtain ⟨a, vs, e, h1, h2⟩ := tup_ok dv
    exact ⟨a, vs, e, .inr h1.sq, h2⟩
  | _ =>
    obtain ⟨a, vs, e, h1, h2⟩ := lstOf_ok rel dv h
    exact ⟨a, vs, e, .inl (rd_sq h1), h2⟩
theorem in_core {K : PySem.W.Frag} {ρ : List Addr} {μ : Mem} {H : Hp} {d e : D} {x y : V} {b : Bool} {μ' : Mem} (rel : Rel K ρ μ H) (dx : DV K ρ H d x) (dy : DV K ρ H e y) (h : cIn d e μ = .ok b μ') (Q : VK) :
    μ' = μ ∧ (Q (.bl b) H → rInU K x y H Q) ∧ (Q (.bl !b) H → rNotInU K x y H Q) := by
  unfold cIn at h
  split at h
  · rename_i b' hs
    have h' : b' = b ∧ μ = μ' := by simpa using h
    obtain ⟨rfl, rfl⟩ := h'
    have : ∃ (c : Nat) (z : Str), x = .str ⟨#[c]⟩ ∧ y = .str z ∧ decide (c ∈ z.cps.toList) = b' := by
      unfold signIn at hs
      split at hs
      · rename_i x' z'
        split at hs
        · rename_i h1
          obtain ⟨⟨l⟩⟩ := x'
          match l, h1 with
          | [c], _ =>
            refine ⟨c, z', str_ok dx, str_ok dy, ?_⟩
            simpa using hs
        · cases hs
      · cases hs
    obtain ⟨c, z, h1, h2, h3⟩ := this
    exact ⟨rfl, fun q => .inr (.inr (.inr ⟨c, z, h1, h2, by rw [h3]; exact q⟩)), fun q => .inr (.inr (.inr ⟨c, z, h1, h2, by rw [h3]; exact q⟩))⟩
  · split at h
    · rename_i o ho
      have h' : o.isSome = b ∧ μ = μ' := by simpa using h
      obtain ⟨rfl, rfl⟩ := h'
      obtain ⟨a, ov, h1, h2, h3, h4⟩ := dfind_ok rel dy dx ho
      have e : ov.isSome = o.isSome := by
        cases o with
        | none => rw [h4 rfl]; rfl
        | some r => obtain ⟨v, hv, _⟩ := h3 r rfl; rw [hv]; rfl
      exact ⟨rfl, fun q => .inr (.inr (.inl ⟨a, ov, h1, h2, by rw [e]; exact q⟩)), fun q => .inr (.inr (.inl ⟨a, ov, h1, h2, by rw [e]; exact q⟩))⟩
    · split at h
      · cases h
      · rename_i ds hq
        split at h
        · rename_i hs
          simp only [Bool.and_eq_true] at hs
          have h' : (ds.any fun z => D.eqv z d) = b ∧ μ = μ' := by simpa using h
          obtain ⟨hb, rfl⟩ := h'
          obtain ⟨a, vs, h1, h2, h3⟩ := seqOf_ok rel dy hq
          have ib : inV x vs = b := (scs_in hs.1 dx hs.2 h3).trans hb
          refine ⟨rfl, fun q => .inl ⟨a, vs, h1, h2, sc_flat hs.1 dx, scs_flat hs.2 h3, ?_⟩, fun q => .inl ⟨a, vs, h1, h2, sc_flat hs.1 dx, scs_flat hs.2 h3, ?_⟩⟩
          · simp only [Bool.false_eq_true, if_false]; rw [ib]; exact q
          · simp only [if_true]; rw [ib]; exact q
        · split at h
          · rename_i p qs hp hqs
            split at h
            · rename_i hf
              simp only [Bool.and_eq_true] at hf
              have h' : (qs.any fun z => D.eqv z p) = b ∧ μ = μ' := by simpa using h
              obtain ⟨hb, rfl⟩ := h'
              have h1 := rsv_dp rel 8 d p x hp dx
              have h2 := rsv_dp rel 8 e _ y hqs dy
              have pq : D.pures qs = true := by simpa [D.pure] using rsv_pure 8 e _ hqs
              have e2 := (pures_any (rsv_pure 8 d p hp) pq).trans hb
              simp only [toPy] at h2
              have hf2 : SeqAt.shaped (.list (toPys qs)) = true := by
                have := hf.2
                unfold D.fits at this
                simpa only [toPy] using this
              exact ⟨rfl, fun q => .inr (.inl ⟨_, _, h1, h2, hf.1, hf2, by rw [e2]; exact q⟩), fun q => .inr (.inl ⟨_, _, h1, h2, hf.1, hf2, by rw [e2]; exact q⟩)⟩
            · cases h
          · cases h
theorem cIn_noerr {d e : D} {μ : Mem} {C : Addr} {w : D} {μ' : Mem} : cIn d e μ ≠ .err C w μ' := by
  unfold cIn
  repeat (first | split | exact fun h => nomatch h)
theorem cm_in {K : PySem.W.Frag} : CmpM K (rInU K) cIn := by
  intro d e ρ μ H x y Q E rel dx dy ok
  cases h : cIn d e μ with
  | ok b μ' =>
    rw [h] at ok
    obtain ⟨rfl, hc, _⟩ := in_core rel dx dy h Q
    exact hc (ok.now rel rfl)
  | err C w μ' => exact absurd h cIn_noerr
  | bad => rw [h] at ok; exact ok.elim
theorem cm_notIn {K : PySem.W.Frag} : CmpM K (rNotInU K) cNotIn := by
  intro d e ρ μ H x y Q E rel dx dy ok
  unfold cNotIn at ok
  cases h : cIn d e μ with
  | ok b μ' =>
    rw [h] at ok
    obtain ⟨rfl, _, hc⟩ := in_core rel dx dy h Q
    exact hc (Okr.now (b := V.bl !b) ok rel rfl)
  | err C w μ' => exact absurd h cIn_noerr
  | bad => rw [h] at ok; exact ok.elim
def rIxDict : R2 := fun x y H Q => ∃ a v, x = .ref a ∧ DGet H a y (some v) ∧ Q v H
theorem ix_dict {X : Cx} (hu : Hu X) : IxR X rIxDict := by
  intro value slice pins s σ H x y v u Q I rx ry h hs
  obtain ⟨a, r, rfl, g, q⟩ := h
  cases rx
  exact PyProof.Rows.tail_any (dict_typeIs I g) PySem.F.slot_dict_getitem.lookup (d_getItem hu.h1 I g ry fun w' s3 I3 rw' => ⟨r, H, I3, rw', q⟩) hs
def rIxU (K : PySem.W.Frag) : R2 := fun x y H Q => rIx K x y H Q ∨ rIxDict x y H Q
theorem ix_U {X : Cx} (hu : Hu X) : IxR X (rIxU X.K) := ix_seq.or (ix_dict hu)
def fIx (d e : D) (μ : Mem) : Res D := match dfind μ d e with
  | some (some r) => .ok r μ
  | some none => .bad
  | none => match e with
    | .int i => match d with
      | .str x => if x.length ≤ sizeLine then match atI x.cps.toList i with
          | some c => .ok (.str ⟨#[c]⟩) μ
          | none => .bad
        else .bad
      | d => match (seqOf μ d).bind fun ds => atI ds i with
        | some r => .ok r μ
        | none => .bad
    | _ => .bad
theorem atI_DVs {K : PySem.W.Frag} {ρ : List Addr} {H : Hp} {ds : List D} {vs : List V} {i : Int} {r : D} (h : DVs K ρ H ds vs) (e : atI ds i = some r) : ∃ v, atI vs i = some v ∧ DV K ρ H r v := by
  unfold atI at e ⊢
  rw [← h.length]
  cases q : ixN ds.length i with
  | none => rw [q] at e; cases e
  | some j =>
    rw [q] at e
    exact h.get e
theorem opM_ix {K : PySem.W.Frag} : OpM K (rIxU K) fIx := by
  intro d e ρ μ H x y Q E rel dx dy ok
  unfold fIx at ok
  split at ok
  · rename_i r hr
    obtain ⟨a, ov, h1, h2, h3, _⟩ := dfind_ok rel dx dy hr
    obtain ⟨v, rfl, dv⟩ := h3 r rfl
    exact .inr ⟨a, v, h1, h2, ok.now rel dv⟩
  · exact ok.elim
  · split at ok
    · rename_i i _
      split at ok
      · rename_i z _
        split at ok
        · rename_i hz
          split at ok
          · rename_i c hc
            exact .inl (.inr (.inr ⟨z, i, c, str_ok dx, int_ok dy, hz, hc, ok.now rel dv_str⟩))
          · exact ok.elim
        · exact ok.elim
      · split at ok
        · rename_i r hr
          obtain ⟨ds, h1, h2⟩ := Option.bind_eq_some_iff.mp hr
          obtain ⟨a, vs, e1, e2, e3⟩ := seqOf_ok rel dx h1
          obtain ⟨v, e4, dv⟩ := atI_DVs e3 h2
          rcases e2 with e2 | e2
          · exact .inl (.inl ⟨a, vs, i, v, e1, int_ok dy, e2, e4, ok.now rel dv⟩)
          · exact .inl (.inr (.inl ⟨a, vs, i, v, e1, int_ok dy, e2, e4, ok.now rel dv⟩))
        · exact ok.elim
    · exact ok.elim
section
variable {X : Cx} {hx : Option HX} {W : WX} {pos : Pos} {a b : Expr} {ma mb : ME}
theorem re_ix (hu : Hu X) (ha : RE X hx W a ma) (hb : RE X hx W b mb) (hs : PlainIx b := by exact fun _ _ => rfl) : RE X hx W (.Subscript a b pos) (mop fIx ma mb) := by
  obtain ⟨ta, pa, ra⟩ := ha.ex
  obtain ⟨tb, pb, rb⟩ := hb.ex
  exact ⟨⟨_, pe_ix (ix_U hu) pa pb hs, Ref.two stay_DV ra rb fun d e ρ μ δ σ H x y Q rel env dx dy ok => opM_ix d e ρ μ H x y Q _ rel dx dy ok⟩⟩
end
end Doz
end
section
namespace Doz
open PySem L2
def mtup (m : MX (List D)) : ME := bindM m fun ds => fun _ μ => if ds.length ≤ sizeLine then .ok (.tup ds) μ else .bad
def mlst (m : MX (List D)) : MX (List D) := bindM m fun ds => fun _ μ => if ds.length ≤ sizeLine then .ok ds μ else .bad
section
variable {X : Cx} {hx : Option HX} {W : WX} {pos : Pos} {es : List Expr} {m : MX (List D)}
theorem re_tup {k : Nat} (h : RA X hx W es m) : RE X hx W (.Tuple es k pos) (mtup m) := by
  obtain ⟨t, p, r⟩ := h.ex
  refine ⟨⟨_, pe_tup p, fun ρ0 μ0 δ σ H0 Q rel0 env0 ok0 => r ρ0 μ0 δ σ H0 _ rel0 env0 (Okr.bind ok0 fun ds μ ρ H vs pr fz rel dv ok => ?_)⟩⟩
  dsimp only at ok
  split at ok
  · rename_i hl
    exact ⟨by rw [← dv.length]; exact hl, fun q hq => okr_tup rel hq dv ok⟩
  · exact ok.elim
theorem rn_lst (h : RA X hx W es m) : RN X hx W (.List es pos) (mlst m) := by
  obtain ⟨t, p, r⟩ := h.ex
  refine ⟨⟨_, pe_lst p, fun ρ0 μ0 δ σ H0 Q rel0 env0 ok0 => r ρ0 μ0 δ σ H0 _ rel0 env0 (OkN.bind ok0 fun ds μ ρ H vs pr fz rel dv ok => ?_)⟩⟩
  dsimp only at ok
  split at ok
  · rename_i hl
    exact ⟨by rw [← dv.length]; exact hl, fun q hq => OkN.new rel hq dv ok⟩
  · exact ok.elim
end
def cutD {α : Type} (xs : List α) (lo hi : Option Int) : List α := (xs.drop (HT.sIx xs.length 0 lo)).take (HT.sIx xs.length xs.length hi - HT.sIx xs.length 0 lo)
theorem cutD_DVs {K : PySem.W.Frag} {ρ : List Addr} {H : Hp} {ds : List D} {vs : List V} (lo hi : Option Int) (h : DVs K ρ H ds vs) : DVs K ρ H (cutD ds lo hi) (cutV vs lo hi) := by
  unfold cutD cutV
  rw [← h.length]
  exact (h.drop _).take _
structure RO (X : Cx) (hx : Option HX) (W : WX) (e : Option Expr) (m : MX (Option Int)) : Prop where
  ex : ∃ t : TO, PO X e t ∧ Ref X.K hx W (fun _ _ a b => a = b) t m
def mpart (m : ME) : MX (Option Int) := bindM m fun d => fun _ μ => match d with
  | .int i => .ok (some i) μ
  | _ => .bad
def mnopart : MX (Option Int) := fun _ μ => .ok none μ
theorem ro_none {X : Cx} {hx : Option HX} {W : WX} : RO X hx W none mnopart := ⟨⟨_, po_none, fun ρ μ δ σ H Q rel env ok => Okr.now (b := (none : Option Int)) ok rel rfl⟩⟩
theorem ro_some {X : Cx} {hx : Option HX} {W : WX} {e : Expr} {m : ME} (h : RE X hx W e m) : RO X hx W (some e) (mpart m) := by
  obtain ⟨t, p, r⟩ := h.ex
  refine ⟨⟨_, po_some p, fun ρ0 μ0 δ σ H0 Q rel0 env0 ok0 => r ρ0 μ0 δ σ H0 _ rel0 env0 (Okr.bind ok0 fun d μ ρ H v pr fz rel dv ok => ?_)⟩⟩
  cases d with
  | int i => exact ⟨i, int_ok dv, Okr.now (b := some i) ok rel rfl⟩
  | _ => exact ok.elim
def rSlU (K : PySem.W.Frag) : V → Option Int → Option Int → Hp → VK → Prop := fun x lo hi H Q => rSlL K x lo hi H Q ∨ rSlA K x lo hi H Q ∨ rSlS x lo hi H Q
theorem sl_U {X : Cx} : SlR X (rSlU X.K) := sl_list.or (sl_tupA.or sl_str)
def fSl (x : D) (lo hi : Option Int) (μ : Mem) : Res D := match x with
  | .str z => if z.length ≤ sizeLine then .ok (.str (cutS z lo hi)) μ else .bad
  | .tup ds => .ok (.tup (cutD ds lo hi)) μ
  | d => match lstOf μ d with
    | some ds => .ok (.lst (cutD ds lo hi)) μ
    | none => .bad
def mslice (f : D → Option Int → Option Int → Mem → Res D) (a : ME) (l u : MX (Option Int)) : ME := bindM a fun x => bindM l fun lo => bindM u fun hi => fun _ μ => f x lo hi μ
theorem Ref.three {α1 β1 α2 β2 α3 β3 γ ζ : Type} {K : PySem.W.Frag} {hx : Option HX} {W : WX} {R1 : Rl α1 β1} {R2 : Rl α2 β2} {R3 : Rl α3 β3} {R' : Rl γ ζ} {t1 : TX β1} {t2 : TX β2} {t3 : TX β3} {m1 : MX α1} {m2 : MX α2} {m3 : MX α3}
    {k : β1 → β2 → β3 → St → Hp → (ζ → Hp → Prop) → Prop} {f : α1 → α2 → α3 → MX γ} (s1 : Stay R1) (s2 : Stay R2) (h1 : Ref K hx W R1 t1 m1) (h2 : Ref K hx W R2 t2 m2) (h3 : Ref K hx W R3 t3 m3)
    (hk : ∀ a1 a2 a3 ρ μ δ σ H b1 b2 b3 (Q : ζ → Hp → Prop), Rel K ρ μ H → EnvR K ρ H hx δ σ → R1 ρ H a1 b1 → R2 ρ H a2 b2 → R3 ρ H a3 b3 → Okr K R' ρ H (f a1 a2 a3 δ μ) Q (fun c d H' => W c d σ H') → k b1 b2 b3 σ H Q) :
    Ref K hx W R' (fun σ H Q => t1 σ H fun b1 H1 => t2 σ H1 fun b2 H2 => t3 σ H2 fun b3 H3 => k b1 b2 b3 σ H3 Q) (bindM m1 fun a1 => bindM m2 fun a2 => bindM m3 fun a3 => f a1 a2 a3) := by
  intro ρ0 μ0 δ σ H0 Q rel0 env0 ok0
  refine h1 ρ0 μ0 δ σ H0 _ rel0 env0 (Okr.bind ok0 fun a1 μ1 ρ1 H1 b1 p1 f1 rel1 r1 ok1 => ?_)
  refine h2 ρ1 μ1 δ σ H1 _ rel1 (env0.mono p1 f1) (Okr.bind ok1 fun a2 μ2 ρ2 H2 b2 p2 f2 rel2 r2 ok2 => ?_)
  refine h3 ρ2 μ2 δ σ H2 _ rel2 ((env0.mono p1 f1).mono p2 f2) (Okr.bind ok2 fun a3 μ3 ρ3 H3 b3 p3 f3 rel3 r3 ok3 => ?_)
  exact hk a1 a2 a3 ρ3 μ3 δ σ H3 b1 b2 b3 Q rel3 (((env0.mono p1 f1).mono p2 f2).mono p3 f3) (s1 _ _ _ _ _ _ (p2.trans p3) (f2.trans f3) r1) (s2 _ _ _ _ _ _ p3 f3 r2) r3 ok3
theorem RefN.three {α1 β1 α2 β2 α3 β3 : Type} {K : PySem.W.Frag} {hx : Option HX} {W : WX} {R1 : Rl α1 β1} {R2 : Rl α2 β2} {R3 : Rl α3 β3} {t1 : TX β1} {t2 : TX β2} {t3 : TX β3} {m1 : MX α1} {m2 : MX α2} {m3 : MX α3}
    {k : β1 → β2 → β3 → St → Hp → VK → Prop} {f : α1 → α2 → α3 → MX (List D)} (s1 : Stay R1) (s2 : Stay R2) (h1 : Ref K hx W R1 t1 m1) (h2 : Ref K hx W R2 t2 m2) (h3 : Ref K hx W R3 t3 m3)
    (hk : ∀ a1 a2 a3 ρ μ δ σ H b1 b2 b3 (Q : VK), Rel K ρ μ H → EnvR K ρ H hx δ σ → R1 ρ H a1 b1 → R2 ρ H a2 b2 → R3 ρ H a3 b3 → OkN K ρ H (f a1 a2 a3 δ μ) Q (fun c d H' => W c d σ H') → k b1 b2 b3 σ H Q) :
    RefN K hx W (fun σ H Q => t1 σ H fun b1 H1 => t2 σ H1 fun b2 H2 => t3 σ H2 fun b3 H3 => k b1 b2 b3 σ H3 Q) (bindM m1 fun a1 => bindM m2 fun a2 => bindM m3 fun a3 => f a1 a2 a3) := by
  intro ρ0 μ0 δ σ H0 Q rel0 env0 ok0
  refine h1 ρ0 μ0 δ σ H0 _ rel0 env0 (OkN.bind ok0 fun a1 μ1 ρ1 H1 b1 p1 f1 rel1 r1 ok1 => ?_)
  refine h2 ρ1 μ1 δ σ H1 _ rel1 (env0.mono p1 f1) (OkN.bind ok1 fun a2 μ2 ρ2 H2 b2 p2 f2 rel2 r2 ok2 => ?_)
  refine h3 ρ2 μ2 δ σ H2 _ rel2 ((env0.mono p1 f1).mono p2 f2) (OkN.bind ok2 fun a3 μ3 ρ3 H3 b3 p3 f3 rel3 r3 ok3 => ?_)
  exact hk a1 a2 a3 ρ3 μ3 δ σ H3 b1 b2 b3 Q rel3 (((env0.mono p1 f1).mono p2 f2).mono p3 f3) (s1 _ _ _ _ _ _ (p2.trans p3) (f2.trans f3) r1) (s2 _ _ _ _ _ _ p3 f3 r2) r3 ok3
theorem stay_eq {α : Type} : Stay (fun (_ : List Addr) (_ : Hp) (a b : α) => a = b) := fun _ _ _ _ _ _ _ _ h => h
section
variable {X : Cx} {hx : Option HX} {W : WX} {pos p2 : Pos} {a : Expr} {lo hi : Option Expr} {ma : ME} {ml mu : MX (Option Int)}
theorem re_slice (ha : RE X hx W a ma) (hl : RO X hx W lo ml) (hh : RO X hx W hi mu) : RE X hx W (.Subscript a (.Slice lo hi none p2) pos) (mslice fSl ma ml mu) := by
  obtain ⟨ta, pa, ra⟩ := ha.ex
  obtain ⟨tl, pl, rl⟩ := hl.ex
  obtain ⟨th, ph, rh⟩ := hh.ex
  refine ⟨⟨_, pe_fzo (pe_slice sl_U pa pl ph), Ref.three (k := fun x l u σ H Q => rSlU X.K x l u H (Frzn Q)) stay_DV stay_eq ra rl rh fun d l u ρ μ δ σ H x l' u' Q rel env dx el eu ok => ?_⟩⟩
  subst el eu
  unfold fSl at ok
  split at ok
  · split at ok
    · rename_i hz
      exact .inr (.inr ⟨_, str_ok dx, hz, .inl (ok.now rel dv_str)⟩)
    · exact ok.elim
  · obtain ⟨b, vs, e1, e2, e3⟩ := tup_ok dx
    refine .inr (.inl ⟨b, vs, e1, e2.sq, fun hw => ?_, fun hw p hp => .inl (okr_tup rel hp (cutD_DVs l u e3) ok)⟩)
    rename_i ds
    have e : cutD ds l u = ds := by
      unfold cutD
      rw [e3.length, hw.1, hw.2]
      simp [← e3.length]
    rw [e] at ok
    rw [← e1]
    exact .inl (ok.now rel dx)
  · split at ok
    · rename_i ds hd
      obtain ⟨b, vs, e1, e2, e3⟩ := lstOf_ok rel dx hd
      exact .inl ⟨b, vs, e1, rd_sq e2, fun p hp => okr_new rel hp (cutD_DVs l u e3) ok⟩
    · exact ok.elim
def msliceN (a : ME) (l u : MX (Option Int)) : MX (List D) := bindM a fun x => bindM l fun lo => bindM u fun hi => fun _ μ => match lstOf μ x with
  | some ds => .ok (cutD ds lo hi) μ
  | none => .bad
end
def CallF (K : PySem.W.Frag) (r : List V → Hp → VK → Prop) (f : List D → Mem → Res D) : Prop :=
  ∀ ds ρ μ H xs (Q : VK) (E : XK), Rel K ρ μ H → DVs K ρ H ds xs → Okr K (DV K) ρ H (f ds μ) Q E → r xs H (Frzn Q)
def CallN (K : PySem.W.Frag) (r : List V → Hp → VK → Prop) (f : List D → Mem → Res (List D)) : Prop :=
  ∀ ds ρ μ H xs (Q : VK) (E : XK), Rel K ρ μ H → DVs K ρ H ds xs → OkN K ρ H (f ds μ) Q E → r xs H Q
def mcall {α : Type} (f : List D → Mem → Res α) (m : MX (List D)) : MX α := bindM m fun ds => fun _ μ => f ds μ
section
variable {X : Cx} {hx : Option HX} {W : WX} {x : Str} {p pos : Pos} {e : Expr} {es : List Expr} {m : MX (List D)} {id T : String} {r : List V → Hp → VK → Prop}
theorem re_callB {f : List D → Mem → Res D} (hc : CallR X (.builtin id) r) (cf : CallF X.K r f) (hm : X.mg x = none) (hv : bootBuiltins x = some (.builtin id)) (ha : RA X hx W (e :: es) m) (hg : Gl X x := by rfl) (hn : x ≠ "__name__" := by decide) (hdb : (x == ("__debug__" : Str)) = false := by decide)
    (he : starEach (e :: es) X.env = (false, eval e X.env) :: starEach es X.env := by rfl) (hpl : (backTo pos (starEach es X.env)).any (·.1) = false := by rfl) : RE X hx W (.Call (.Name x p) (e :: es) [] pos) (mcall f m) := by
  obtain ⟨t, pt, rt⟩ := ha.ex
  exact ⟨⟨_, pe_fzo (pe_callB hc hg hm hv pt hn hdb he hpl), fun ρ0 μ0 δ σ H0 Q rel0 env0 ok0 => rt ρ0 μ0 δ σ H0 _ rel0 env0 (Okr.bind ok0 fun ds μ ρ H vs pr fz rel dv ok => cf ds ρ μ H vs Q _ rel dv ok)⟩⟩
theorem re_callT {f : List D → Mem → Res D} (hc : CallR X (.type T) r) (cf : CallF X.K r f) (hm : X.mg x = none) (hv : bootBuiltins x = some (.type T)) (ha : RA X hx W (e :: es) m) (hg : Gl X x := by rfl) (hn : x ≠ "__name__" := by decide) (hdb : (x == ("__debug__" : Str)) = false := by decide)
    (he : starEach (e :: es) X.env = (false, eval e X.env) :: starEach es X.env := by rfl) (hpl : (backTo pos (starEach es X.env)).any (·.1) = false := by rfl) : RE X hx W (.Call (.Name x p) (e :: es) [] pos) (mcall f m) := by
  obtain ⟨t, pt, rt⟩ := ha.ex
  exact ⟨⟨_, pe_fzo (pe_callTy hc hg hm hv pt hn hdb he hpl), fun ρ0 μ0 δ σ H0 Q rel0 env0 ok0 => rt ρ0 μ0 δ σ H0 _ rel0 env0 (Okr.bind ok0 fun ds μ ρ H vs pr fz rel dv ok => cf ds ρ μ H vs Q _ rel dv ok)⟩⟩
theorem rn_callT {f : List D → Mem → Res (List D)} (hc : CallR X (.type T) r) (cf : CallN X.K r f) (hm : X.mg x = none) (hv : bootBuiltins x = some (.type T)) (ha : RA X hx W (e :: es) m) (hg : Gl X x := by rfl) (hn : x ≠ "__name__" := by decide) (hdb : (x == ("__debug__" : Str)) = false := by decide)
    (he : starEach (e :: es) X.env = (false, eval e X.env) :: starEach es X.env := by rfl) (hpl : (backTo pos (starEach es X.env)).any (·.1) = false := by rfl) : RN X hx W (.Call (.Name x p) (e :: es) [] pos) (mcall f m) := by
  obtain ⟨t, pt, rt⟩ := ha.ex
  exact ⟨⟨_, pe_callTy hc hg hm hv pt hn hdb he hpl, fun ρ0 μ0 δ σ H0 Q rel0 env0 ok0 => rt ρ0 μ0 δ σ H0 _ rel0 env0 (OkN.bind ok0 fun ds μ ρ H vs pr fz rel dv ok => cf ds ρ μ H vs Q _ rel dv ok)⟩⟩
end
section
variable {K : PySem.W.Frag} {ρ : List Addr} {H : Hp}
theorem DVs.one {d : D} {xs : List V} (h : DVs K ρ H [d] xs) : ∃ v, xs = [v] ∧ DV K ρ H d v := by
  simp only [DVs] at h
  obtain ⟨v, r, rfl, h1, rfl⟩ := h
  exact ⟨v, rfl, h1⟩
theorem DVs.two {d e : D} {xs : List V} (h : DVs K ρ H [d, e] xs) : ∃ v u, xs = [v, u] ∧ DV K ρ H d v ∧ DV K ρ H e u := by
  simp only [DVs] at h
  obtain ⟨v, r, rfl, h1, u, r2, rfl, h2, rfl⟩ := h
  exact ⟨v, u, rfl, h1, h2⟩
end
def fLen (ds : List D) (μ : Mem) : Res D := match ds with
  | [.str z] => if z.length ≤ sizeLine then .ok (.int z.length) μ else .bad
  | [d] => match seqOf μ d with
    | some xs => .ok (.int xs.length) μ
    | none => match dictOf μ d with
      | some kds => .ok (.int kds.length) μ
      | none => .bad
  | _ => .bad
theorem call_lenDR {X : Cx} : CallR X (.builtin "len") (fun xs H Q => ∃ a kvs, xs = [V.ref a] ∧ Rd H a (.dK kvs) ∧ Q (.int kvs.length) H) := by
  intro pins s σ H xs us Q I r h
  obtain ⟨a, kvs, rfl, hd, q⟩ := h
  obtain ⟨u, rfl, ru⟩ := vals1 r
  cases ru
  exact d_len I hd fun t s' I' => ⟨.int kvs.length, H, I', ⟨t, rfl⟩, q⟩
def rLenU (K : PySem.W.Frag) : List V → Hp → VK → Prop := fun xs H Q => (∃ x n, xs = [x] ∧ LenV K x H n ∧ Q (.int (n : Nat)) H) ∨ ∃ a kvs, xs = [V.ref a] ∧ Rd H a (.dK kvs) ∧ Q (.int kvs.length) H
theorem call_lenU {X : Cx} : CallR X (.builtin "len") (rLenU X.K) := call_len.or call_lenDR
theorem cf_len {K : PySem.W.Frag} : CallF K (rLenU K) fLen := by
  intro ds ρ μ H xs Q E rel dv ok
  unfold fLen at ok
  split at ok
  · split at ok
    · rename_i hz
      obtain ⟨v, rfl, h⟩ := dv.one
      exact .inl ⟨_, _, rfl, by rw [str_ok h]; exact ⟨hz, rfl⟩, .inl (ok.now rel dv_int)⟩
    · exact ok.elim
  · obtain ⟨v, rfl, h⟩ := dv.one
    split at ok
    · rename_i xs hx
      obtain ⟨a, vs, rfl, e2, e3⟩ := seqOf_ok rel h hx
      refine .inl ⟨_, vs.length, rfl, ?_, .inl (by rw [← e3.length]; exact ok.now rel dv_int)⟩
      rcases e2 with e2 | e2
      · exact .inl ⟨vs, e2, rfl⟩
      · exact .inr ⟨vs, e2, rfl⟩
    · split at ok
      · rename_i kds hk
        obtain ⟨n, a, kvs, _, _, rfl, _, r3, r4⟩ := dictOf_ok rel h hk
        exact .inr ⟨a, kvs, rfl, lk_rd r3, .inl (by rw [← KDs.length r4]; exact ok.now rel dv_int)⟩
      · exact ok.elim
  · exact ok.elim
def fIntC (ds : List D) (μ : Mem) : Res D := match ds with
  | [.int i] => .ok (.int i) μ
  | [.bl k] => .ok (.int (if k then 1 else 0)) μ
  | [.str a] => match PySem.intText? a with
    | some n => if a.length ≤ 640 then .ok (.int n) μ else .bad
    | none => .bad
  | _ => .bad
def rIntU : List V → Hp → VK → Prop := fun xs H Q => ((∃ i, xs = [.int i] ∧ Q (.int i) H) ∨ ∃ k, xs = [.bl k] ∧ Q (.int (if k then 1 else 0)) H) ∨ ∃ a n, xs = [.str a] ∧ PySem.intText? a = some n ∧ a.length ≤ 640 ∧ Q (.int n) H
theorem call_intU {X : Cx} : CallR X (.type "int") rIntU := call_int1.or call_int_str
theorem cf_int {K : PySem.W.Frag} : CallF K rIntU fIntC := by
  intro ds ρ μ H xs Q E rel dv ok
  unfold fIntC at ok
  split at ok
  · obtain ⟨v, rfl, h⟩ := dv.one
    exact .inl (.inl ⟨_, by rw [int_ok h], .inl (ok.now rel dv_int)⟩)
  · obtain ⟨v, rfl, h⟩ := dv.one
    exact .inl (.inr ⟨_, by rw [bl_ok h], .inl (ok.now rel dv_int)⟩)
  · obtain ⟨v, rfl, h⟩ := dv.one
    split at ok
    · rename_i n hn
      split at ok
      · rename_i hl
        exact .inr ⟨_, n, by rw [str_ok h], hn, hl, .inl (ok.now rel dv_int)⟩
      · exact ok.elim
    · exact ok.elim
  · exact ok.elim
def fStrC (ds : List D) (μ : Mem) : Res D := match ds with
  | [.int i] => if i.natAbs.log2 < 1920 then .ok (.str (toString i)) μ else .bad
  | [.str a] => .ok (.str a) μ
  | _ => .bad
def fMax (ds : List D) (μ : Mem) : Res D := match ds with
  | [.int i, .int j] => .ok (.int (if j > i then j else i)) μ
  | _ => .bad
def fMin (ds : List D) (μ : Mem) : Res D := match ds with
  | [.int i, .int j] => .ok (.int (if j < i then j else i)) μ
  | _ => .bad
def fAbs (ds : List D) (μ : Mem) : Res D := match ds with
  | [.int i] => .ok (.int (if i < 0 then -i else i)) μ
  | _ => .bad
theorem cf_abs {K : PySem.W.Frag} : CallF K (fun xs H Q => ∃ i, xs = [.int i] ∧ Q (.int (if i < 0 then -i else i)) H) fAbs := by
  intro ds ρ μ H xs Q E rel dv ok
  unfold fAbs at ok
  split at ok
  · obtain ⟨v, rfl, h⟩ := dv.one
    exact ⟨_, by rw [int_ok h], .inl (ok.now rel dv_int)⟩
  · exact ok.elim
def keyD : Key → D
  | .inl i => .int i
  | .inr x => .str x
def fListN (ds : List D) (μ : Mem) : Res (List D) := match ds with
  | [d] => match seqOf μ d with
    | some xs => .ok xs μ
    | none => match dictOf μ d with
      | some kds => .ok (kds.map fun k => keyD k.1) μ
      | none => .bad
  | _ => .bad
def rListU (K : PySem.W.Frag) : List V → Hp → VK → Prop := fun xs H Q => (∃ p ys, xs = [.ref p] ∧ (SqL K H p ys ∨ SqT K H p ys) ∧ ∀ l, H l = none → Q (.ref l) (upd H l (.lst ys))) ∨ ∃ (a : Addr) (kvs : List (Key × V)), xs = [.ref a] ∧ Rd H a (.dK kvs) ∧ ∀ p, H p = none → Q (.ref p) (upd H p (.lst (kvs.map fun kv => kV kv.1)))
theorem call_listU {X : Cx} (hc : X.calm = true) : CallR X (.type "list") (rListU X.K) := call_list_of.or (call_listD hc)
theorem dv_key {K : PySem.W.Frag} {ρ : List Addr} {H : Hp} (k : Key) : DV K ρ H (keyD k) (kV k) := by
  cases k with
  | inl i => exact dv_int
  | inr x => exact dv_str
theorem dvs_keys {K : PySem.W.Frag} {ρ : List Addr} {H : Hp} : ∀ {a : List (Key × D)} {b : List (Key × V)}, KDs K ρ H a b → DVs K ρ H (a.map fun k => keyD k.1) (b.map fun k => kV k.1)
  | _, _, .nil => .nil
  | _, _, .cons r t => .cons (by dsimp only; rw [← r.1]; exact dv_key _) (dvs_keys t)
theorem cn_list {K : PySem.W.Frag} : CallN K (rListU K) fListN := by
  intro ds ρ μ H xs Q E rel dv ok
  unfold fListN at ok
  split at ok
  · obtain ⟨v, rfl, h⟩ := dv.one
    split at ok
    · rename_i ys hy
      obtain ⟨a, vs, rfl, e2, e3⟩ := seqOf_ok rel h hy
      exact .inl ⟨a, vs, rfl, e2, fun p hp => OkN.new rel hp e3 ok⟩
    · split at ok
      · rename_i kds hk
        obtain ⟨n, a, kvs, _, _, rfl, _, r3, r4⟩ := dictOf_ok rel h hk
        exact .inr ⟨a, kvs, rfl, lk_rd r3, fun p hp => OkN.new rel hp (dvs_keys r4) ok⟩
      · exact ok.elim
  · exact ok.elim
def fTuple (ds : List D) (μ : Mem) : Res D := match ds with
  | [d] => match seqOf μ d with
    | some xs => .ok (.tup xs) μ
    | none => .bad
  | _ => .bad
theorem cf_tuple {K : PySem.W.Frag} : CallF K (fun xs H Q => ∃ p ys, xs = [.ref p] ∧ ((SqL K H p ys ∧ ∀ l, H l = none → Q (.ref l) (upd H l (.tup ys))) ∨ (SqT K H p ys ∧ Q (.ref p) H))) fTuple := by
  intro ds ρ μ H xs Q E rel dv ok
  unfold fTuple at ok
  split at ok
  · rename_i d
    obtain ⟨v, rfl, h⟩ := dv.one
    split at ok
    · rename_i ys hy
      cases d with
      | tup es =>
        have : es = ys := by simpa [seqOf] using hy
        subst this
        obtain ⟨a, vs, rfl, e2, e3⟩ := tup_ok h
        exact ⟨a, vs, rfl, .inr ⟨e2.sq, .inl (ok.now rel h)⟩⟩
      | _ =>
        obtain ⟨a, vs, rfl, e2, e3⟩ := lstOf_ok rel h hy
        exact ⟨a, vs, rfl, .inl ⟨rd_sq e2, fun p hp => .inl (okr_tup rel hp e3 ok)⟩⟩
    · exact ok.elim
  · exact ok.elim
def fDict (ds : List D) (μ : Mem) : Res D := match ds with
  | [d] => match dictOf μ d with
    | some kds => .ok (.loc μ.cells.length) (μ.push (.dK kds))
    | none => .bad
  | _ => .bad
def blsOf : List D → Option (List Bool)
  | [] => some []
  | .bl b :: r => (blsOf r).map (b :: ·)
  | _ :: _ => none
def fAll (g : List Bool → Bool) (ds : List D) (μ : Mem) : Res D := match ds with
  | [d] => match (lstOf μ d).bind blsOf with
    | some bs => .ok (.bl (g bs)) μ
    | none => .bad
  | _ => .bad
def tyName (μ : Mem) : D → Option String
  | .non => some "NoneType"
  | .bl _ => some "bool"
  | .int _ => some "int"
  | .str _ => some "str"
  | .tup _ => some "tuple"
  | .lst _ => some "list"
  | .loc n => match μ.cells[n]? with
    | some (.lst _) => some "list"
    | some (.dK _) => some "dict"
    | _ => none
  | _ => none
def tyOK : List String := ["NoneType", "bool", "int", "str", "tuple", "list", "dict"]
def isiB (a b : String) : Bool := a == b || (a == "bool" && b == "int")
def fIsi (ds : List D) (μ : Mem) : Res D := match ds with
  | [d, .ty n] => match tyName μ d with
    | some t => if (tyOK.contains t && tyOK.contains n && n != "NoneType") = true then .ok (.bl (isiB t n)) μ else .bad
    | none => .bad
  | _ => .bad
end Doz
end
section
namespace Doz
open PySem L2
def OkS (K : PySem.W.Frag) (hx : Option HX) (W : WX) (ρ : List Addr) (H : Hp) (r : SRes) (Dn : Ends) : Prop := match r with
  | .nx δ μ => ∀ ρ' H' σ, Pre ρ ρ' → Fz ρ ρ' H H' → Rel K ρ' μ H' → EnvR K ρ' H' hx δ σ → Dn.nx σ H'
  | .rt d μ => ∀ ρ' H' v, Pre ρ ρ' → Fz ρ ρ' H H' → Rel K ρ' μ H' → DV K ρ' H' d v → Dn.rt v H'
  | .bk δ μ => ∀ ρ' H' σ, Pre ρ ρ' → Fz ρ ρ' H H' → Rel K ρ' μ H' → EnvR K ρ' H' hx δ σ → Dn.bk σ H'
  | .ct δ μ => ∀ ρ' H' σ, Pre ρ ρ' → Fz ρ ρ' H H' → Rel K ρ' μ H' → EnvR K ρ' H' hx δ σ → Dn.ct σ H'
  | .err C w δ μ => ∀ ρ1 H1 σ dd v, Pre ρ ρ1 → Fz ρ ρ1 H H1 → Rel K ρ1 μ H1 → EnvR K ρ1 H1 hx δ σ → H1 dd = some (.xd [(("what" : Str), v)]) → DV K ρ1 H1 w v → W (.ref C) (some dd) σ H1
  | .bad => False
def RefS (K : PySem.W.Frag) (hx : Option HX) (W : WX) (t : TS) (ms : MS) : Prop :=
  ∀ ρ μ δ σ H (Dn : Ends), Rel K ρ μ H → EnvR K ρ H hx δ σ → OkS K hx W ρ H (ms δ μ) Dn → t Dn σ H
structure RS (X : Cx) (hx : Option HX) (W : WX) (st : Stmt) (ms : MS) : Prop where
  ex : ∃ t : TS, PS X st t ∧ RefS X.K hx W t ms
structure RSs (X : Cx) (hx : Option HX) (W : WX) (sts : List Stmt) (ms : MS) : Prop where
  ex : ∃ t : TS, PSs X sts t ∧ RefS X.K hx W t ms
theorem OkS.mono {K : PySem.W.Frag} {hx : Option HX} {W : WX} {ρ ρ1 : List Addr} {H H1 : Hp} {r : SRes} {Dn : Ends} (p : Pre ρ ρ1) (f : Fz ρ ρ1 H H1) (h : OkS K hx W ρ H r Dn) : OkS K hx W ρ1 H1 r Dn := by
  cases r with
  | nx δ μ => exact fun ρ' H' σ p' f' => h ρ' H' σ (p.trans p') (f.trans f')
  | rt d μ => exact fun ρ' H' σ p' f' => h ρ' H' σ (p.trans p') (f.trans f')
  | bk δ μ => exact fun ρ' H' σ p' f' => h ρ' H' σ (p.trans p') (f.trans f')
  | ct δ μ => exact fun ρ' H' σ p' f' => h ρ' H' σ (p.trans p') (f.trans f')
  | err C w δ μ => exact fun ρ2 H2 σ dd v p2 f2 => h ρ2 H2 σ dd v (p.trans p2) (f.trans f2)
  | bad => exact h
def mnx : MS := fun δ μ => .nx δ μ
def mseq (a b : MS) : MS := fun δ μ => match a δ μ with
  | .nx δ1 μ1 => b δ1 μ1
  | r => r
def ofE {α : Type} (m : MX α) (k : α → MS) : MS := fun δ μ => match m δ μ with
  | .ok a μ1 => k a δ μ1
  | .err C w μ1 => .err C w δ μ1
  | .bad => .bad
theorem OkS.ofE {α β : Type} {K : PySem.W.Frag} {hx : Option HX} {W : WX} {R : Rl α β} {ρ : List Addr} {H : Hp} {δ : DEnv} {σ : St} {μ : Mem} {m : MX α} {k : α → MS} {Dn : Ends} {P : β → Hp → Prop} (env : EnvR K ρ H hx δ σ) (h : OkS K hx W ρ H (ofE m k δ μ) Dn)
    (hk : ∀ a μ1 ρ1 H1 b, Pre ρ ρ1 → Fz ρ ρ1 H H1 → Rel K ρ1 μ1 H1 → R ρ1 H1 a b → OkS K hx W ρ1 H1 (k a δ μ1) Dn → P b H1) : Okr K R ρ H (m δ μ) P (fun c d H' => W c d σ H') := by
  unfold Doz.ofE at h
  cases e : m δ μ with
  | ok a μ1 =>
    rw [e] at h
    exact fun ρ1 H1 b p f rel rb => hk a μ1 ρ1 H1 b p f rel rb (OkS.mono p f h)
  | err C w μ1 =>
    rw [e] at h
    exact fun ρ1 H1 dd v p f rel hd dv => h ρ1 H1 σ dd v p f rel (env.mono p f) hd dv
  | bad => rw [e] at h; exact h
section
variable {X : Cx} {hx : Option HX} {W : WX} {st : Stmt} {rest : List Stmt} {a b : MS} {e : Expr} {m : ME} {pos : Pos}
theorem rss_nil : RSs X hx W [] mnx := ⟨⟨_, pss_nil, fun ρ μ δ σ H Dn rel env ok => ok ρ H σ (Pre.refl _) (Fz.refl _) rel env⟩⟩
theorem ref_seq {K : PySem.W.Frag} {t u : TS} (ha : RefS K hx W t a) (hb : RefS K hx W u b) : RefS K hx W (tSeq t u) (mseq a b) := by
  intro ρ μ δ σ H Dn rel env ok
  refine ha ρ μ δ σ H { Dn with nx := u Dn } rel env ?_
  unfold mseq at ok
  cases e : a δ μ with
  | nx δ1 μ1 =>
    rw [e] at ok
    exact fun ρ' H' σ' p f rel' env' => hb ρ' μ1 δ1 σ' H' Dn rel' env' (OkS.mono p f ok)
  | rt d μ1 => rw [e] at ok; exact ok
  | bk δ1 μ1 => rw [e] at ok; exact ok
  | ct δ1 μ1 => rw [e] at ok; exact ok
  | err C w δ1 μ1 => rw [e] at ok; exact ok
  | bad => rw [e] at ok; exact ok
theorem rss_cons (h1 : RS X hx W st a) (h2 : RSs X hx W rest b) : RSs X hx W (st :: rest) (mseq a b) := by
  obtain ⟨t, p, r⟩ := h1.ex
  obtain ⟨u, q, s⟩ := h2.ex
  exact ⟨⟨_, pss_cons p q, ref_seq r s⟩⟩
theorem rss_one (h1 : RS X hx W st a) : RSs X hx W [st] a := by
  obtain ⟨t, p, r⟩ := h1.ex
  exact ⟨⟨_, pss_one p, r⟩⟩
def mbk : MS := fun δ μ => .bk δ μ
def mct : MS := fun δ μ => .ct δ μ
def mdrop (m : ME) : MS := ofE m fun _ => mnx
theorem rs_expr (h : RE X hx W e m) (hs : swapsWith e none pos.line X.env = pure false := by rfl) : RS X hx W (.Expr e pos) (mdrop m) := by
  obtain ⟨t, p, r⟩ := h.ex
  exact ⟨⟨_, ps_expr p hs, fun ρ μ δ σ H Dn rel env ok => r ρ μ δ σ H _ rel env (OkS.ofE env ok fun d μ1 ρ1 H1 v pr fz rel1 dv ok1 => ok1 ρ1 H1 σ (Pre.refl _) (Fz.refl _) rel1 (env.mono pr fz))⟩⟩
def mret (m : ME) : MS := ofE m fun d => fun _ μ => .rt d μ
theorem rs_ret (h : RE X hx W e m) : RS X hx W (.Return (some e) pos) (mret m) := by
  obtain ⟨t, p, r⟩ := h.ex
  exact ⟨⟨_, ps_ret p, fun ρ μ δ σ H Dn rel env ok => r ρ μ δ σ H _ rel env (OkS.ofE env ok fun d μ1 ρ1 H1 v pr fz rel1 dv ok1 => ok1 ρ1 H1 v (Pre.refl _) (Fz.refl _) rel1 dv)⟩⟩
def mretN : MS := fun _ μ => .rt .non μ
def mifS (t : MX Bool) (a b : MS) : MS := ofE t fun c => if c = true then a else b
theorem rs_if {c : Expr} {mt : MX Bool} {as bs : List Stmt} (hc : RT X hx W c mt) (ha : RSs X hx W as a) (hb : RSs X hx W bs b) : RS X hx W (.If c as bs pos) (mifS mt a b) := by
  obtain ⟨t, p, r⟩ := hc.ex
  obtain ⟨ta, pa, ra⟩ := ha.ex
  obtain ⟨tb, pb, rb⟩ := hb.ex
  refine ⟨⟨_, ps_if p pa pb, fun ρ μ δ σ H Dn rel env ok => r ρ μ δ σ H _ rel env (OkS.ofE env ok fun c μ1 ρ1 H1 v pr fz rel1 dv ok1 => ?_)⟩⟩
  have e' : c = v := dv
  subst e'
  cases c with
  | true => exact iteT (ra ρ1 μ1 δ σ H1 Dn rel1 (env.mono pr fz) ok1)
  | false => exact iteF (rb ρ1 μ1 δ σ H1 Dn rel1 (env.mono pr fz) ok1)
def mretFz (m : ME) : MS := ofE m fun d => fun _ μ => match d with
  | .loc n => match μ.cells[n]? with
    | some (.lst ds) => if μ.lkd n = false then .rt (.lst ds) (μ.set n .dead) else .bad
    | _ => .bad
  | _ => .bad
theorem rs_retFz (h : RE X hx W e m) : RS X hx W (.Return (some e) pos) (mretFz m) := by
  obtain ⟨t, p, r⟩ := h.ex
  refine ⟨⟨_, ps_ret (pe_fzo p), fun ρ μ δ σ H Dn rel env ok => r ρ μ δ σ H _ rel env (OkS.ofE env ok fun d μ1 ρ1 H1 v pr fz rel1 dv ok1 => ?_)⟩⟩
  split at ok1
  · rename_i n
    split at ok1
    · rename_i ds hc
      split at ok1
      · simp only [DV] at dv
        obtain ⟨ad, h1, rfl⟩ := dv
        obtain ⟨vs, h2, h3⟩ := rel1.cell n ad _ h1 hc
        refine .inr ⟨ad, vs, rfl, h2, fun o => ?_⟩
        have f2 : Fz ρ1 ρ1 H1 _ := Fz.mut (o := .frz o (.lst vs)) h1 h2 (fun _ => HO.noConfusion) (fun _ _ => HO.noConfusion)
        refine ok1 ρ1 _ _ (Pre.refl _) f2 (rel1.write h1 h2 (fun _ => HO.noConfusion) (fun _ _ => HO.noConfusion) ⟨_, upd_same, fun _ z => nomatch z⟩) (dv_frz h2 h3)
      · exact ok1.elim
    · exact ok1.elim
  · exact ok1.elim
end
def OkG (K : PySem.W.Frag) (hx : Option HX) (ρ : List Addr) (H : Hp) (r : Res DEnv) (Q : St → Hp → Prop) (E : XK) : Prop := match r with
  | .ok δ μ => ∀ ρ' H' σ, Pre ρ ρ' → Fz ρ ρ' H H' → Rel K ρ' μ H' → EnvR K ρ' H' hx δ σ → Q σ H'
  | .err C w μ => XOk K ρ H C w μ E
  | .bad => False
abbrev MG := D → DEnv → Mem → Res DEnv
def RefG (K : PySem.W.Frag) (hx : Option HX) (W : WX) (g : TG) (mg : MG) : Prop :=
  ∀ ρ μ δ σ H d v (Q : St → Hp → Prop), Rel K ρ μ H → EnvR K ρ H hx δ σ → DV K ρ H d v → OkG K hx ρ H (mg d δ μ) Q (fun c d H' => W c d σ H') → g v σ H Q
structure RG (X : Cx) (hx : Option HX) (W : WX) (tg : Expr) (mg : MG) : Prop where
  ex : ∃ g : TG, PG X tg g ∧ RefG X.K hx W g mg
theorem OkG.mono {K : PySem.W.Frag} {hx : Option HX} {ρ ρ1 : List Addr} {H H1 : Hp} {r : Res DEnv} {Q : St → Hp → Prop} {E : XK} (p : Pre ρ ρ1) (f : Fz ρ ρ1 H H1) (h : OkG K hx ρ H r Q E) : OkG K hx ρ1 H1 r Q E := by
  cases r with
  | ok a μ => exact fun ρ' H' b p' f' => h ρ' H' b (p.trans p') (f.trans f')
  | err C w μ => exact XOk.mono p f h
  | bad => exact h
theorem EnvR.set {K : PySem.W.Frag} {ρ : List Addr} {H : Hp} {hx : Option HX} {δ : DEnv} {σ : St} {i : Nat} {d : D} {v : V} (e : EnvR K ρ H hx δ σ) (dv : DV K ρ H d v) (hi : ∀ q, hx = some q → i ≠ q.i) : EnvR K ρ H hx (δ.set i (some d)) (σ.set i (some v)) := by
  refine ⟨by simp [e.len], fun j d' h => ?_, fun q h => ?_⟩
  · by_cases hj : i = j
    · subst hj
      have hl : i < δ.length := by
        have := (List.getElem?_eq_some_iff.mp h).1
        simpa using this
      rw [List.getElem?_set_self hl] at h
      cases h
      exact ⟨v, List.getElem?_set_self (e.len ▸ hl), dv⟩
    · rw [List.getElem?_set_ne hj] at h
      obtain ⟨u, h1, h2⟩ := e.get j d' h
      exact ⟨u, by rw [List.getElem?_set_ne hj]; exact h1, h2⟩
  · obtain ⟨h1, h2⟩ := e.exn q h
    exact ⟨by rw [List.getElem?_set_ne (hi q h)]; exact h1, h2⟩
def gset (i : Nat) : MG := fun d δ μ => .ok (δ.set i (some d)) μ
theorem ref_name {K : PySem.W.Frag} {hx : Option HX} {W : WX} (i : Nat) (hi : ∀ q, hx = some q → i ≠ q.i) : RefG K hx W (gName i) (gset i) :=
  fun ρ μ δ σ H d v Q rel env dv ok => ok ρ H _ (Pre.refl _) (Fz.refl _) rel (env.set dv hi)
section
variable {X : Cx} {hx : Option HX} {W : WX} {e : Expr} {m : ME} {pos pos' : Pos}
theorem rg_name (i : Nat) {x : Str} (hN : X.N.Nodup) (hi : X.N[i]? = some x := by rfl) (hl : Loc X.env.scope x := by first | exact Or.inl rfl | exact Or.inr rfl) (hxi : ∀ q, hx = some q → i ≠ q.i := by intro _ h; first | (cases h; done) | (cases h; exact Nat.ne_of_beq_eq_false rfl))
    (hf : X.fn x = true ∨ X.env.scope.names.lookup x = some .local := by first | exact .inl rfl | exact .inr rfl | assumption) : RG X hx W (.Name x pos) (gset i) := ⟨⟨_, pg_name hN hi hl hf, ref_name i hxi⟩⟩
def masg (m : ME) (g : MG) : MS := ofE m fun d => fun δ μ => match g d δ μ with
  | .ok δ1 μ1 => .nx δ1 μ1
  | .err C w μ1 => .err C w δ μ1
  | .bad => .bad
theorem okg_of {K : PySem.W.Frag} {ρ : List Addr} {H : Hp} {δ : DEnv} {σ : St} {r : Res DEnv} {Dn : Ends} (env : EnvR K ρ H hx δ σ) (ok : OkS K hx W ρ H (match r with | .ok δ1 μ1 => .nx δ1 μ1 | .err C w μ1 => .err C w δ μ1 | .bad => .bad) Dn) : OkG K hx ρ H r Dn.nx (fun c d H' => W c d σ H') := by
  cases r with
  | ok δ1 μ1 => exact ok
  | err C w μ1 => exact fun ρ1 H1 dd v p f rel hd dv => ok ρ1 H1 σ dd v p f rel (env.mono p f) hd dv
  | bad => exact ok
theorem rs_set (i : Nat) {x : Str} (hN : X.N.Nodup) (he : RE X hx W e m) (hi : X.N[i]? = some x := by rfl) (hl : Loc X.env.scope x := by first | exact Or.inl rfl | exact Or.inr rfl) (hs : swapsWith e (some (.Name x pos')) pos.line X.env = pure false := by rfl) (hxi : ∀ q, hx = some q → i ≠ q.i := by intro _ h; first | (cases h; done) | (cases h; exact Nat.ne_of_beq_eq_false rfl))
    (hf : X.fn x = true ∨ X.env.scope.names.lookup x = some .local := by first | exact .inl rfl | exact .inr rfl | assumption) : RS X hx W (.Assign [.Name x pos'] e pos) (masg m (gset i)) := by
  obtain ⟨t, p, r⟩ := he.ex
  exact ⟨⟨_, ps_set hN hi hl p hs hf, fun ρ μ δ σ H Dn rel env ok => r ρ μ δ σ H _ rel env (OkS.ofE env ok fun d μ1 ρ1 H1 v pr fz rel1 dv ok1 => ref_name (W := W) i hxi ρ1 μ1 δ σ H1 d v Dn.nx rel1 (env.mono pr fz) dv (okg_of (env.mono pr fz) ok1))⟩⟩
theorem rs_asg {tg : Expr} {g : MG} (he : RE X hx W e m) (hg : RG X hx W tg g) (hs : swapsWithSole [tg] e pos.line X.env = pure false := by rfl) (hw : swappedStores [tg] e X.env = pure none := by rfl)
    (h1 : (assignEach [tg] X.env).map (·.2) = [assign tg X.env] := by rfl) : RS X hx W (.Assign [tg] e pos) (masg m g) := by
  obtain ⟨t, p, r⟩ := he.ex
  obtain ⟨tg', pg, rg⟩ := hg.ex
  exact ⟨⟨_, ps_asg p pg hs hw h1, fun ρ μ δ σ H Dn rel env ok => r ρ μ δ σ H _ rel env (OkS.ofE env ok fun d μ1 ρ1 H1 v pr fz rel1 dv ok1 => rg ρ1 μ1 δ σ H1 d v Dn.nx rel1 (env.mono pr fz) dv (okg_of (env.mono pr fz) ok1))⟩⟩
abbrev MGs := List D → DEnv → Mem → Res DEnv
def OkG0 (K : PySem.W.Frag) (hx : Option HX) (ρ : List Addr) (H : Hp) (r : Res DEnv) (Q : St → Hp → Prop) : Prop := match r with
  | .ok δ μ => ∀ ρ' H' σ, Pre ρ ρ' → Fz ρ ρ' H H' → Rel K ρ' μ H' → EnvR K ρ' H' hx δ σ → Q σ H'
  | _ => False
structure RGs (X : Cx) (hx : Option HX) (W : WX) (tgs : List Expr) (mg : MGs) : Prop where
  ex : ∃ g : TGs, PGs X tgs g ∧ ∀ ρ μ δ σ H ds vs (Q : St → Hp → Prop), Rel X.K ρ μ H → EnvR X.K ρ H hx δ σ → DVs X.K ρ H ds vs → OkG0 X.K hx ρ H (mg ds δ μ) Q → g vs σ H Q
def gnil : MGs := fun ds δ μ => match ds with
  | [] => .ok δ μ
  | _ => .bad
def gcons (g : MG) (gs : MGs) : MGs := fun ds δ μ => match ds with
  | d :: r => match g d δ μ with
    | .ok δ1 μ1 => gs r δ1 μ1
    | _ => .bad
  | [] => .bad
theorem rgs_nil : RGs X hx W [] gnil := by
  refine ⟨⟨_, pgs_nil, fun ρ μ δ σ H ds vs Q rel env dv ok => ?_⟩⟩
  unfold gnil at ok
  split at ok
  · simp only [DVs] at dv
    exact ⟨dv, ok ρ H σ (Pre.refl _) (Fz.refl _) rel env⟩
  · exact ok.elim
theorem rgs_cons {tg : Expr} {tgs : List Expr} {g : MG} {gs : MGs} (h1 : RG X hx W tg g) (h2 : RGs X hx W tgs gs) (hs : (assignEach (tg :: tgs) X.env).map (·.2) = assign tg X.env :: (assignEach tgs X.env).map (·.2) := by rfl) : RGs X hx W (tg :: tgs) (gcons g gs) := by
  obtain ⟨t, p, r⟩ := h1.ex
  obtain ⟨u, q, s⟩ := h2.ex
  refine ⟨⟨_, pgs_cons p q hs, fun ρ μ δ σ H ds vs Q rel env dv ok => ?_⟩⟩
  unfold gcons at ok
  split at ok
  · rename_i d rst
    simp only [DVs] at dv
    obtain ⟨v, vr, rfl, d1, d2⟩ := dv
    refine ⟨v, vr, rfl, r ρ μ δ σ H d v _ rel env d1 ?_⟩
    split at ok
    · rename_i δ1 μ1 e1
      rw [e1]
      intro ρ' H' σ' pr fz rel' env'
      refine s ρ' μ1 δ1 σ' H' rst vr Q rel' env' (d2.mono pr fz) ?_
      revert ok
      cases gs rst δ1 μ1 with
      | ok δ2 μ2 => exact fun ok ρ2 H2 σ2 p2 f2 => ok ρ2 H2 σ2 (pr.trans p2) (fz.trans f2)
      | err _ _ _ => exact id
      | bad => exact id
    · exact ok.elim
  · exact ok.elim
def gtup (n : Nat) (gs : MGs) : MG := fun d δ μ => match d with
  | .tup ds => if ds.length = n then match gs ds δ μ with
      | .ok δ1 μ1 => .ok δ1 μ1
      | _ => .bad
    else .bad
  | _ => .bad
theorem rg_tup {tgs : List Expr} {gs : MGs} {n k : Nat} (hc : X.calm = true) (h : RGs X hx W tgs gs) (hn : (assignEach tgs X.env).length = n := by rfl) (hst : (assignEach tgs X.env).findIdx? (·.1) = none := by rfl) : RG X hx W (.Tuple tgs k pos) (gtup n gs) := by
  obtain ⟨t, p, r⟩ := h.ex
  refine ⟨⟨_, pg_tup hc p hn hst, fun ρ μ δ σ H d v Q rel env dv ok => ?_⟩⟩
  unfold gtup at ok
  split at ok
  · split at ok
    · rename_i ds hl
      obtain ⟨a, vs, rfl, h1, h2⟩ := tup_ok dv
      refine ⟨a, vs, rfl, h1.sq, h2.length.symm.trans hl, r ρ μ δ σ H ds vs Q rel env h2 ?_⟩
      split at ok
      · rename_i e1
        rw [e1]
        exact ok
      · exact ok.elim
    · exact ok.elim
  · exact ok.elim
end
theorem PSet.or {X : Cx} {t t' : TSet} (h : PSet X t) (h' : PSet X t') : PSet X (fun o i v H Q => t o i v H Q ∨ t' o i v H Q) := by
  intro pins s σ H o i v ov iv u Q I ro ri rv q
  rcases q with q | q
  · exact h pins s σ H o i v ov iv u Q I ro ri rv q
  · exact h' pins s σ H o i v ov iv u Q I ro ri rv q
def rSetD : TSet := fun o i v H Q => ∃ a H', o = .ref a ∧ DPut H a i v H' ∧ Q H'
theorem set_dict {X : Cx} (hu : Hu X) : PSet X rSetD := by
  intro pins s σ H o i v ov iv u Q I ro ri rv h
  obtain ⟨a, H', rfl, g, q⟩ := h
  cases ro
  exact d_setItem hu.h1 I g ri rv fun s4 I4 => ⟨H', I4, q⟩
def setD (o i v : D) (μ : Mem) : Res Unit := match o with
  | .loc n => match μ.cells[n]? with
    | some (.lst ds) => match i with
      | .int k => match ixN ds.length k with
        | some j => .ok () (μ.set n (.lst (ds.set j v)))
        | none => .bad
      | _ => .bad
    | some (.dK kds) => match keyOf i with
      | some k => if μ.lkd n = false ∧ kds.length < sizeLine then .ok () (μ.set n (.dK (kput kds k v))) else .bad
      | none => .bad
    | _ => .bad
  | _ => .bad
def OkU (K : PySem.W.Frag) (ρ : List Addr) (H : Hp) (r : Res Unit) (Q : Hp → Prop) : Prop := match r with
  | .ok _ μ => ∀ ρ' H', Pre ρ ρ' → Fz ρ ρ' H H' → Rel K ρ' μ H' → Q H'
  | _ => False
theorem setD_ok {K : PySem.W.Frag} {ρ : List Addr} {μ : Mem} {H : Hp} {o i d : D} {x y v : V} {Q : Hp → Prop} (rel : Rel K ρ μ H) (dx : DV K ρ H o x) (dy : DV K ρ H i y) (dv : DV K ρ H d v) (ok : OkU K ρ H (setD o i d μ) Q) : rSetL x y v H Q ∨ rSetD x y v H Q := by
  unfold setD at ok
  split at ok
  · rename_i n
    simp only [DV] at dx
    obtain ⟨a, h1, rfl⟩ := dx
    split at ok
    · rename_i ds hc
      obtain ⟨vs, h2, h3⟩ := rel.cell n a _ h1 hc
      split at ok
      · rename_i k
        split at ok
        · rename_i j hj
          have f := Fz.mut (o := .lst (vs.set j v)) h1 h2 (fun _ => HO.noConfusion) (fun _ _ => HO.noConfusion)
          refine .inl ⟨a, vs, k, j, rfl, int_ok dy, h2, by rw [← h3.length]; exact hj, ?_⟩
          exact ok ρ _ (Pre.refl _) f (rel.write h1 h2 (fun _ => HO.noConfusion) (fun _ _ => HO.noConfusion) ⟨_, upd_same, (h3.set dv j).mono (Pre.refl _) f⟩)
        · exact ok.elim
      · exact ok.elim
    · rename_i kds hc
      obtain ⟨kvs, h2, h3⟩ := rel.cell n a _ h1 hc
      split at ok
      · rename_i k hk
        split at ok
        · rename_i hl
          rw [hl.1] at h2
          have h2' : H a = some (.dK kvs) := by unfold Lk at h2; rw [if_neg Bool.false_ne_true] at h2; exact h2
          have f := Fz.mut (o := .dK (putK kvs k v)) h1 h2' (fun _ => HO.noConfusion) (fun _ _ => HO.noConfusion)
          refine .inr ⟨a, _, rfl, .inl ⟨kvs, k, h2', keyOf_ok hk dy, by rw [← KDs.length h3]; exact hl.2, rfl⟩, ?_⟩
          refine ok ρ _ (Pre.refl _) f (rel.write h1 h2' (fun _ => HO.noConfusion) (fun _ _ => HO.noConfusion) ⟨_, ?_, (h3.put dv).mono (Pre.refl _) f⟩)
          rw [hl.1]
          unfold Lk
          rw [if_neg Bool.false_ne_true]
          exact upd_same
        · exact ok.elim
      · exact ok.elim
    · exact ok.elim
  · exact ok.elim
section
variable {X : Cx} {hx : Option HX} {W : WX} {pos : Pos} {o i : Expr} {mo mi : ME}
def gsub (mo mi : ME) : MG := fun d δ μ => (mo δ μ).bind fun x μ1 => (mi δ μ1).bind fun y μ2 => match setD x y d μ2 with
  | .ok _ μ3 => .ok δ μ3
  | _ => .bad
theorem rg_sub (hu : Hu X) (ho : RE X hx W o mo) (hi : RE X hx W i mi)
    (ha : ∀ v, assign (.Subscript o i pos) X.env v = (do
      let ov ← holding [v] (eval o X.env)
      let iv ← holding [v, ov] (eval i X.env)
      standAt pos
      holding [v, ov, iv] (setItem ov iv v)
      release [v, ov, iv] []) := by intro _; rfl) : RG X hx W (.Subscript o i pos) (gsub mo mi) := by
  obtain ⟨to, po, ro⟩ := ho.ex
  obtain ⟨ti, pi, ri⟩ := hi.ex
  refine ⟨⟨_, pg_sub po pi (PSet.or set_list (set_dict hu)) ha, fun ρ μ δ σ H d v Q rel env dv ok => ?_⟩⟩
  unfold gsub at ok
  have key : ∀ {α β : Type} {R : Rl α β} {r : Res α} {k : α → Mem → Res DEnv} {ρ : List Addr} {H : Hp} {P : β → Hp → Prop}, OkG X.K hx ρ H (r.bind k) Q (fun c d H' => W c d σ H') →
      (∀ a μ1 ρ1 H1 b, Pre ρ ρ1 → Fz ρ ρ1 H H1 → Rel X.K ρ1 μ1 H1 → R ρ1 H1 a b → OkG X.K hx ρ1 H1 (k a μ1) Q (fun c d H' => W c d σ H') → P b H1) → Okr X.K R ρ H r P (fun c d H' => W c d σ H') := fun {α β R r k ρ H P} h hk => by
    cases r with
    | ok a μ1 => exact fun ρ1 H1 b p f rel rb => hk a μ1 ρ1 H1 b p f rel rb (OkG.mono p f h)
    | err C w μ1 => exact h
    | bad => exact h
  refine ro ρ μ δ σ H _ rel env (key ok fun x μ1 ρ1 H1 xv p1 f1 rel1 dx ok1 => ?_)
  refine ri ρ1 μ1 δ σ H1 _ rel1 (env.mono p1 f1) (key ok1 fun y μ2 ρ2 H2 yv p2 f2 rel2 dy ok2 => ?_)
  refine setD_ok rel2 (dx.mono p2 f2) dy ((dv.mono p1 f1).mono p2 f2) ?_
  revert ok2
  cases setD x y d μ2 with
  | ok u μ3 => exact fun ok2 ρ3 H3 p3 f3 rel3 => ok2 ρ3 H3 σ p3 f3 rel3 (((env.mono p1 f1).mono p2 f2).mono p3 f3)
  | err _ _ _ => exact id
  | bad => exact id
end
def putFD (f : Str) (v : D) : List (Str × D) → List (Str × D)
  | [] => [(f, v)]
  | (g, x) :: r => if g = f then (g, v) :: r else (g, x) :: putFD f v r
theorem KDs.look {K : PySem.W.Frag} {ρ : List Addr} {H : Hp} {f : Str} : ∀ {a : List (Str × D)} {b : List (Str × V)}, KDs K ρ H a b → (∀ d, a.lookup f = some d → ∃ v, b.lookup f = some v ∧ DV K ρ H d v) ∧ (a.lookup f = none → b.lookup f = none)
  | _, _, .nil => ⟨fun _ h => by simp at h, fun _ => rfl⟩
  | (g, x) :: a, (g', y) :: b, .cons r t => by
    have e : g = g' := r.1
    subst e
    simp only [List.lookup_cons]
    cases h : f == g with
    | true => exact ⟨fun d e => ⟨y, rfl, (Option.some.inj e) ▸ r.2⟩, fun e => nomatch e⟩
    | false => exact KDs.look t
theorem KDs.putF {K : PySem.W.Frag} {ρ : List Addr} {H : Hp} {f : Str} {d : D} {v : V} (hd : DV K ρ H d v) : ∀ {a : List (Str × D)} {b : List (Str × V)}, KDs K ρ H a b → KDs K ρ H (putFD f d a) (L2.putF f v b)
  | _, _, .nil => .cons ⟨rfl, hd⟩ .nil
  | (g, x) :: a, (g', y) :: b, .cons r t => by
    have e : g = g' := r.1
    subst e
    simp only [putFD, L2.putF]
    split
    · exact .cons ⟨rfl, hd⟩ t
    · exact .cons r (KDs.putF hd t)
theorem putFD_old {f : Str} {d : D} : ∀ {fs : List (Str × D)} {p : Str × D}, p ∈ putFD f d fs → p.1 = f ∨ p ∈ fs
  | [], p, h => by
    have : p = (f, d) := by simpa [putFD] using h
    exact .inl (by rw [this])
  | (g, x) :: r, p, h => by
    simp only [putFD] at h
    split at h
    · rename_i e
      rcases List.mem_cons.mp h with h | h
      · exact .inl (by rw [h]; exact e)
      · exact .inr (List.mem_cons_of_mem _ h)
    · rcases List.mem_cons.mp h with h | h
      · exact .inr (by rw [h]; exact List.mem_cons_self)
      · rcases putFD_old h with h | h
        · exact .inl h
        · exact .inr (List.mem_cons_of_mem _ h)
theorem putFD_len (f : Str) (d : D) : ∀ (fs : List (Str × D)), (putFD f d fs).length ≤ fs.length + 1
  | [] => by simp [putFD]
  | (g, x) :: r => by
    simp only [putFD]
    split
    · simp
    · simp; exact putFD_len f d r
theorem lookup_memD {f : Str} {r : D} : ∀ {fs : List (Str × D)}, fs.lookup f = some r → ∃ p ∈ fs, p.1 = f
  | [], hr => by simp at hr
  | (g, x) :: t, hr => by
    simp only [List.lookup_cons] at hr
    cases h : f == g with
    | true => exact ⟨(g, x), List.mem_cons_self, (beq_iff_eq.mp h).symm⟩
    | false =>
      rw [h] at hr
      obtain ⟨p, hp, e⟩ := lookup_memD hr
      exact ⟨p, List.mem_cons_of_mem _ hp, e⟩
def fFld (f : Str) (d : D) (μ : Mem) : Res D := match d with
  | .loc n => match μ.cells[n]? with
    | some (.ins _ fs) => match fs.lookup f with
      | some r => .ok r μ
      | none => .bad
    | _ => .bad
  | _ => .bad
def mfld (f : Str) (m : ME) : ME := bindM m fun d => fun _ μ => fFld f d μ
section
variable {X : Cx} {hx : Option HX} {W : WX} {e o : Expr} {f : Str} {m mo : ME} {pos pos' : Pos}
theorem re_fld (he : RE X hx W e m) (hb : attributeBase e f X.env (eval e X.env) = eval e X.env := by rfl) : RE X hx W (.Attribute e f pos) (mfld f m) := by
  obtain ⟨t, p, r⟩ := he.ex
  refine ⟨⟨_, pe_fld p hb, fun ρ0 μ0 δ σ H0 Q rel0 env0 ok0 => r ρ0 μ0 δ σ H0 _ rel0 env0 (Okr.bind ok0 fun d μ ρ H v pr fz rel dv ok => ?_)⟩⟩
  unfold fFld at ok
  dsimp only at ok
  split at ok
  · rename_i n
    split at ok
    · rename_i C fs hc
      split at ok
      · rename_i r hr
        simp only [DV] at dv
        obtain ⟨a, h1, rfl⟩ := dv
        obtain ⟨dx, vs, h2, h3, cl, na, _⟩ := rel.cell n a _ h1 hc
        obtain ⟨v, h4, h5⟩ := (KDs.look h3).1 r hr
        have hm := lookup_memD hr
        obtain ⟨p, hp, rfl⟩ := hm
        exact ⟨a, C, dx, vs, v, rfl, h2, cl, na p hp, h4, ok.now rel h5⟩
      · exact ok.elim
    · exact ok.elim
  · exact ok.elim
def setF (Cs : List Addr) (f : Str) (o v : D) (μ : Mem) : Res Unit := match o with
  | .loc n => match μ.cells[n]? with
    | some (.ins C fs) => if ((fs.lookup f).isSome || Cs.contains C) = true ∧ fs.length < 1000 then .ok () (μ.set n (.ins C (putFD f v fs))) else .bad
    | _ => .bad
  | _ => .bad
def rSetF (K : PySem.W.Frag) (f : Str) (x y : V) (H : Hp) (Q : Hp → Prop) : Prop := ∃ a C dx fs, x = .ref a ∧ H a = some (.ins C dx fs) ∧ Cls K C ∧ NoAttr K C f ∧ fs.length < 1000 ∧ Q (upd H a (.ins C dx (L2.putF f y fs)))
theorem setF_ok {K : PySem.W.Frag} {ρ : List Addr} {μ : Mem} {H : Hp} {Cs : List Addr} {f : Str} {o d : D} {x v : V} {Q : Hp → Prop} (hn : ∀ C ∈ Cs, NoAttr K C f) (rel : Rel K ρ μ H) (dx : DV K ρ H o x) (dv : DV K ρ H d v) (ok : OkU K ρ H (setF Cs f o d μ) Q) : rSetF K f x v H Q := by
  unfold setF at ok
  split at ok
  · rename_i n
    simp only [DV] at dx
    obtain ⟨a, h1, rfl⟩ := dx
    split at ok
    · rename_i C fs hc
      obtain ⟨dx, vs, h2, h3, cl, na, hl⟩ := rel.cell n a _ h1 hc
      split at ok
      · rename_i hs
        have hna : NoAttr K C f := by
          have := hs.1
          simp only [Bool.or_eq_true, List.contains_iff_mem] at this
          rcases this with h | h
          · obtain ⟨r, hr⟩ := Option.isSome_iff_exists.mp h
            obtain ⟨p, hp, rfl⟩ := lookup_memD hr
            exact na p hp
          · exact hn C h
        have f' := Fz.mut (o := .ins C dx (L2.putF f v vs)) h1 h2 (fun _ => HO.noConfusion) (fun _ _ => HO.noConfusion)
        refine ⟨a, C, dx, vs, rfl, h2, cl, hna, by rw [← KDs.length h3]; exact hs.2, ok ρ _ (Pre.refl _) f' (rel.write h1 h2 (fun _ => HO.noConfusion) (fun _ _ => HO.noConfusion) ⟨dx, _, upd_same, (h3.putF dv).mono (Pre.refl _) f', cl, fun p hp => ?_, ?_⟩)⟩
        · rcases putFD_old hp with h | h
          · rw [h]; exact hna
          · exact na p h
        · have := putFD_len f d fs
          have := hs.2
          omega
      · exact ok.elim
    · exact ok.elim
  · exact ok.elim
def gFldT (K : PySem.W.Frag) (f : Str) (to : TE) : TG := fun v σ H Q => to σ H fun x H1 => rSetF K f x v H1 fun H2 => Q σ H2
theorem pg_fld {to : TE} (ho : PE X o to) : PG X (.Attribute o f pos) (gFldT X.K f to) := by
  refine ⟨fun pins s σ H v u Q I r h => ?_⟩
  rw [PySem.arm_assign_Attribute]
  refine wpAny_bind (wpAny_holding (thn (ho.run pins s σ H _ I h) fun ov s1 ⟨x, H1, I1, r1, a, C, dx, fs, ex, ea, c, n, l, q⟩ => ?_))
  subst ex
  obtain rfl : ov = Value.ref a := r1
  refine wpAny_bind (wpAny_standAt (wpAny_bind (wpAny_holding (setattr_ok I1 ea c n l r fun s3 I3 => ?_))))
  exact wpAny_release ⟨σ, _, I3, q⟩
def gfld (Cs : List Addr) (f : Str) (mo : ME) : MG := fun d δ μ => (mo δ μ).bind fun x μ1 => match setF Cs f x d μ1 with
  | .ok _ μ2 => .ok δ μ2
  | _ => .bad
theorem rg_fld (Cs : List Addr) (hn : ∀ C ∈ Cs, NoAttr X.K C f) (ho : RE X hx W o mo) : RG X hx W (.Attribute o f pos) (gfld Cs f mo) := by
  obtain ⟨to, po, ro⟩ := ho.ex
  refine ⟨⟨_, pg_fld po, fun ρ μ δ σ H d v Q rel env dv ok => ?_⟩⟩
  unfold gfld at ok
  refine ro ρ μ δ σ H _ rel env ?_
  revert ok
  cases mo δ μ with
  | err C w μ1 => exact id
  | bad => exact id
  | ok x μ1 =>
    intro ok ρ1 H1 xv p1 f1 rel1 dx
    refine setF_ok hn rel1 dx (dv.mono p1 f1) ?_
    have ok1 : OkG X.K hx ρ H (match setF Cs f x d μ1 with | .ok _ μ2 => .ok δ μ2 | _ => .bad) Q (fun c d H' => W c d σ H') := ok
    revert ok1
    cases setF Cs f x d μ1 with
    | ok u μ3 => exact fun ok2 ρ3 H3 p3 f3 rel3 => ok2 ρ3 H3 σ (p1.trans p3) (f1.trans f3) rel3 ((env.mono p1 f1).mono p3 f3)
    | err _ _ _ => exact id
    | bad => exact id
end
end Doz
end
section
namespace Doz
open PySem L2
mutual
def D.same : D → D → Bool
  | .non, .non => true
  | .bl a, .bl b => a == b
  | .int i, .int j => i == j
  | .str x, .str y => x == y
  | .lst xs, .lst ys => D.sames xs ys
  | .tup xs, .tup ys => D.sames xs ys
  | .loc n, .loc m => n == m
  | .sta n, .sta m => n == m
  | .ty n, .ty m => n == m
  | _, _ => false
def D.sames : List D → List D → Bool
  | [], [] => true
  | x :: xs, y :: ys => D.same x y && D.sames xs ys
  | _, _ => false
end
mutual
theorem D.same_eq : ∀ (a b : D), D.same a b = true → a = b
  | .non, b, h => by cases b <;> simp_all [D.same]
  | .bl x, b, h => by cases b <;> simp_all [D.same]
  | .int x, b, h => by cases b <;> simp_all [D.same]
  | .str x, b, h => by cases b <;> simp_all [D.same]
  | .tup xs, b, h => by
    cases b with
    | tup ys => rw [D.sames_eq xs ys (by simpa [D.same] using h)]
    | _ => simp [D.same] at h
  | .lst xs, b, h => by
    cases b with
    | lst ys => rw [D.sames_eq xs ys (by simpa [D.same] using h)]
    | _ => simp [D.same] at h
  | .loc _, b, h => by cases b <;> simp_all [D.same]
  | .sta _, b, h => by cases b <;> simp_all [D.same]
  | .ty _, b, h => by cases b <;> simp_all [D.same]
theorem D.sames_eq : ∀ (a b : List D), D.sames a b = true → a = b
  | [], b, h => by cases b <;> simp_all [D.sames]
  | x :: xs, b, h => by
    cases b with
    | nil => simp [D.sames] at h
    | cons y ys =>
      simp only [D.sames, Bool.and_eq_true] at h
      rw [D.same_eq x y h.1, D.sames_eq xs ys h.2]
end
mutual
theorem D.same_refl : ∀ a : D, D.same a a = true
  | .non => by simp [D.same]
  | .bl x => by simp [D.same]
  | .int x => by simp [D.same]
  | .str x => by simp [D.same]
  | .tup xs => by simp only [D.same]; exact D.sames_refl xs
  | .lst xs => by simp only [D.same]; exact D.sames_refl xs
  | .loc _ => by simp [D.same]
  | .sta _ => by simp [D.same]
  | .ty _ => by simp [D.same]
theorem D.sames_refl : ∀ a : List D, D.sames a a = true
  | [] => by simp [D.sames]
  | x :: xs => by simp [D.sames, D.same_refl x, D.sames_refl xs]
end
abbrev Its0 := List D × (Mem → Bool)
def ItR (K : PySem.W.Frag) : Rl Its0 It := fun ρ0 H0 a J => ∀ ρ μ H (i : Nat), Pre ρ0 ρ → Fz ρ0 ρ H0 H → Rel K ρ μ H → a.2 μ = true →
  (∀ d, a.1[i]? = some d → J.go i H ∧ ∀ x H', J.yld i H x H' → Fz ρ ρ H H' ∧ Rel K ρ μ H' ∧ DV K ρ H' d x) ∧ (i = a.1.length → J.stop i H)
structure RI (X : Cx) (hx : Option HX) (W : WX) (tg iter : Expr) (m : MX Its0) : Prop where
  ex : ∃ wi : TI, PI X tg iter wi ∧ Ref X.K hx W (ItR X.K) wi m
theorem PI.or {X : Cx} {tg iter : Expr} {w w' : TI} (h : PI X tg iter w) (h' : PI X tg iter w') : PI X tg iter (fun σ H R => w σ H R ∨ w' σ H R) :=
  ⟨fun pins s σ H R I q => q.elim (h.run pins s σ H R I) (h'.run pins s σ H R I)⟩
def lstIs (d : D) (ds : List D) (μ : Mem) : Bool := match lstOf μ d with
  | some es => D.sames ds es
  | none => false
theorem lstIs_eq {d : D} {ds : List D} {μ : Mem} (h : lstIs d ds μ = true) : lstOf μ d = some ds := by
  unfold lstIs at h
  split at h
  · rename_i es e
    rw [D.sames_eq ds es h]; exact e
  · cases h
def signs (x : Str) : List D := x.cps.toList.map fun c => D.str ⟨#[c]⟩
def fIter (d : D) (μ : Mem) : Res Its0 := match d with
  | .str x => .ok (signs x, fun _ => true) μ
  | .tup ds => .ok (ds, fun _ => true) μ
  | .lst ds => .ok (ds, fun _ => true) μ
  | d => match lstOf μ d with
    | some ds => .ok (ds, lstIs d ds) μ
    | none => .bad
def miter (m : ME) : MX Its0 := bindM m fun d => fun _ μ => fIter d μ
section
variable {X : Cx} {hx : Option HX} {W : WX} {tg e : Expr} {m : ME}
theorem itr_list {K : PySem.W.Frag} {ρ0 : List Addr} {H0 : Hp} {d : D} {a : Addr} {ds : List D} {g : Mem → Bool} (dv : DV K ρ0 H0 d (.ref a)) (hg : ∀ μ, g μ = true → lstOf μ d = some ds) : ItR K ρ0 H0 (ds, g) (Itl K a) := by
  intro ρ μ H i p f rel gd
  obtain ⟨b, vs, e1, e2, e3⟩ := lstOf_ok rel (dv.mono p f) (hg μ gd)
  cases e1
  refine ⟨fun d hd => ?_, fun hi => ?_⟩
  · obtain ⟨v, hv, dv'⟩ := e3.get hd
    refine ⟨⟨vs, v, rd_sq e2, hv⟩, fun x H' y => ?_⟩
    obtain ⟨rfl, y⟩ := y
    have : x = v := Option.some.inj ((y vs (rd_sq e2)).symm.trans hv)
    subst this
    exact ⟨Fz.refl _, rel, dv'⟩
  · exact ⟨vs, rd_sq e2, by rw [← e3.length, hi]; exact Nat.le_refl _⟩
theorem itr_tup {K : PySem.W.Frag} {ρ0 : List Addr} {H0 : Hp} {a : Addr} {ds : List D} {g : Mem → Bool} (dv : DV K ρ0 H0 (.tup ds) (.ref a)) : ItR K ρ0 H0 (ds, g) (Itt K a) := by
  intro ρ μ H i p f rel gd
  obtain ⟨b, vs, e1, e2, e3⟩ := tup_ok (dv.mono p f)
  cases e1
  refine ⟨fun d hd => ?_, fun hi => ?_⟩
  · obtain ⟨v, hv, dv'⟩ := e3.get hd
    refine ⟨⟨vs, v, e2.sq, hv⟩, fun x H' y => ?_⟩
    obtain ⟨rfl, y⟩ := y
    have : x = v := Option.some.inj ((y vs e2.sq).symm.trans hv)
    subst this
    exact ⟨Fz.refl _, rel, dv'⟩
  · exact ⟨vs, e2.sq, by rw [← e3.length, hi]; exact Nat.le_refl _⟩
theorem itr_str {K : PySem.W.Frag} {ρ0 : List Addr} {H0 : Hp} {z : Str} {g : Mem → Bool} : ItR K ρ0 H0 (signs z, g) (Its z) := by
  intro ρ μ H i p f rel gd
  refine ⟨fun d hd => ?_, fun hi => ?_⟩
  · have hd' : (z.cps.toList.map fun c => D.str ⟨#[c]⟩)[i]? = some d := hd
    rw [List.getElem?_map] at hd'
    obtain ⟨c, hc, rfl⟩ := Option.map_eq_some_iff.mp hd'
    rw [Array.getElem?_toList] at hc
    refine ⟨(Array.getElem?_eq_some_iff.mp hc).1, fun x H' y => ?_⟩
    obtain ⟨rfl, c', hc', rfl⟩ := y
    have : c = c' := Option.some.inj (hc.symm.trans hc')
    subst this
    exact ⟨Fz.refl _, rel, dv_str⟩
  · have : i = z.cps.size := by rw [hi]; simp [signs]
    exact Nat.le_of_eq this.symm
theorem ri_seq (he : RE X hx W e m) : RI X hx W tg e (miter m) := by
  obtain ⟨t, p, r⟩ := he.ex
  refine ⟨⟨_, PI.or (pi_list p) (PI.or (pi_tup p) (pi_str p)), fun ρ0 μ0 δ σ H0 Q rel0 env0 ok0 => ?_⟩⟩
  unfold miter bindM at ok0
  have run : ∀ (P : VK), Okr X.K (DV X.K) ρ0 H0 (m δ μ0) P (fun c d H' => W c d σ H') → t σ H0 P := fun P ok => r ρ0 μ0 δ σ H0 P rel0 env0 ok
  cases em : m δ μ0 with
  | err C w μ1 =>
    rw [em] at ok0 run
    exact .inl (run _ ok0)
  | bad => rw [em] at ok0; exact ok0.elim
  | ok d μ1 =>
    rw [em] at ok0 run
    have ok1 : Okr X.K (ItR X.K) ρ0 H0 (fIter d μ1) Q (fun c d H' => W c d σ H') := ok0
    unfold fIter at ok1
    split at ok1
    · rename_i z
      refine .inr (.inr (run _ fun ρ1 H1 v pr fz rel dv => ⟨z, str_ok dv, ok1 ρ1 H1 _ pr fz rel itr_str⟩))
    · rename_i ds
      refine .inr (.inl (run _ fun ρ1 H1 v pr fz rel dv => ?_))
      obtain ⟨a, vs, rfl, e2, e3⟩ := tup_ok dv
      exact ⟨a, rfl, ⟨vs, e2.sq⟩, ok1 ρ1 H1 _ pr fz rel (itr_tup dv)⟩
    · rename_i ds
      refine .inl (run _ fun ρ1 H1 v pr fz rel dv => ?_)
      obtain ⟨a, vs, rfl, e2, e3⟩ := lstOf_ok rel dv (ds := ds) rfl
      exact ⟨a, rfl, ⟨vs, rd_sq e2⟩, ok1 ρ1 H1 _ pr fz rel (itr_list dv fun _ _ => rfl)⟩
    · split at ok1
      · rename_i ds hd
        refine .inl (run _ fun ρ1 H1 v pr fz rel dv => ?_)
        obtain ⟨a, vs, rfl, e2, e3⟩ := lstOf_ok rel dv hd
        exact ⟨a, rfl, ⟨vs, rd_sq e2⟩, ok1 ρ1 H1 _ pr fz rel (itr_list dv fun _ h => lstIs_eq h)⟩
      · exact ok1.elim
def rngItems (lo : Int) (n : Nat) : List D := (List.range n).map fun i => D.int (lo + (i : Nat))
def fRng1 (ds : List D) (μ : Mem) : Res Its0 := match ds with
  | [.int j] => if -(2 ^ 62) ≤ j ∧ j < 2 ^ 62 then .ok (rngItems 0 j.toNat, fun _ => true) μ else .bad
  | _ => .bad
def fRng2 (ds : List D) (μ : Mem) : Res Its0 := match ds with
  | [.int i, .int j] => if -(2 ^ 62) ≤ i ∧ i < 2 ^ 62 ∧ -(2 ^ 62) ≤ j ∧ j < 2 ^ 62 then .ok (rngItems i (j - i).toNat, fun _ => true) μ else .bad
  | _ => .bad
theorem itr_rng {K : PySem.W.Frag} {ρ0 : List Addr} {H0 : Hp} {lo : Int} {n : Nat} {g : Mem → Bool} : ItR K ρ0 H0 (rngItems lo n, g) (Itr lo n) := by
  intro ρ μ H i p f rel gd
  refine ⟨fun d hd => ?_, fun hi => ?_⟩
  · have hd' : ((List.range n).map fun i => D.int (lo + (i : Nat)))[i]? = some d := hd
    rw [List.getElem?_map] at hd'
    obtain ⟨c, hc, rfl⟩ := Option.map_eq_some_iff.mp hd'
    obtain ⟨h1, h2⟩ := List.getElem?_eq_some_iff.mp hc
    simp at h1 h2
    subst h2
    refine ⟨h1, fun x H' y => ?_⟩
    obtain ⟨rfl, rfl⟩ := y
    exact ⟨Fz.refl _, rel, dv_int⟩
  · have : i = n := by rw [hi]; simp [rngItems]
    exact Nat.le_of_eq this.symm
theorem ri_range1 {a : Expr} {p pos : Pos} {ma : MX (List D)} (hm : X.mg "range" = none) (ha : RA X hx W [a] ma) (hg : Gl X "range" := by rfl) (hs : starEach [a] X.env = [(false, eval a X.env)] := by rfl) : RI X hx W tg (.Call (.Name "range" p) [a] [] pos) (mcall fRng1 ma) := by
  obtain ⟨t, pt, rt⟩ := ha.ex
  refine ⟨⟨_, pi_range1 hg hm pt hs, fun ρ0 μ0 δ σ H0 Q rel0 env0 ok0 => rt ρ0 μ0 δ σ H0 _ rel0 env0 (Okr.bind ok0 fun ds μ ρ H vs pr fz rel dv ok => ?_)⟩⟩
  unfold fRng1 at ok
  dsimp only at ok
  split at ok
  · split at ok
    · rename_i j h
      obtain ⟨v, rfl, h1⟩ := dv.one
      exact ⟨j, by rw [int_ok h1], h.1, h.2, ok ρ H _ (Pre.refl _) (Fz.refl _) rel itr_rng⟩
    · exact ok.elim
  · exact ok.elim
end
def mloop (g : MG) (body : MS) (gd : Mem → Bool) : List D → MS
  | [], δ, μ => if gd μ = true then .nx δ μ else .bad
  | d :: ds, δ, μ => if gd μ = true then match g d δ μ with
      | .ok δ1 μ1 => match body δ1 μ1 with
        | .nx δ2 μ2 => mloop g body gd ds δ2 μ2
        | .ct δ2 μ2 => mloop g body gd ds δ2 μ2
        | .bk δ2 μ2 => .nx δ2 μ2
        | .rt d μ2 => .rt d μ2
        | .err C w δ2 μ2 => .err C w δ2 μ2
        | .bad => .bad
      | _ => .bad
    else .bad
def mfor (mi : MX Its0) (g : MG) (body : MS) : MS := ofE mi fun it => fun δ μ => mloop g body it.2 it.1 δ μ
theorem loop_ref {K : PySem.W.Frag} {hx : Option HX} {W : WX} {J : It} {g : TG} {tb : TS} {mg : MG} {mb : MS} {items : List D} {gd : Mem → Bool} {ρ0 : List Addr} {H0 : Hp} {Dn : Ends} (ij : ItR K ρ0 H0 (items, gd) J) (hg : RefG K hx W g mg) (hb : RefS K hx W tb mb)
    {ρ : List Addr} {μ : Mem} {H : Hp} {δ : DEnv} {σ : St} (p0 : Pre ρ0 ρ) (f0 : Fz ρ0 ρ H0 H) (rel : Rel K ρ μ H) (env : EnvR K ρ H hx δ σ) (ok : OkS K hx W ρ H (mloop mg mb gd items δ μ) Dn) :
    ∃ W' : Nat → Nat → St → Hp → Prop, (∃ m, W' 0 m σ H) ∧ ∀ i m σ H, W' i m σ H →
      (J.stop i H ∧ Dn.nx σ H) ∨ (J.go i H ∧ ∃ N : St → Hp → Prop, (∀ σ' H', N σ' H' → ∃ m', m' < m ∧ W' (i + 1) m' σ' H') ∧ ∀ x H', J.yld i H x H' → g x σ H' fun σ2 H2 => tb { Dn with nx := N, ct := N, bk := Dn.nx } σ2 H2) := by
  refine ⟨fun i m σ H => m = items.length - i ∧ i ≤ items.length ∧ ∃ ρ μ δ, Pre ρ0 ρ ∧ Fz ρ0 ρ H0 H ∧ Rel K ρ μ H ∧ EnvR K ρ H hx δ σ ∧ OkS K hx W ρ H (mloop mg mb gd (items.drop i) δ μ) Dn, ⟨items.length, by simp, Nat.zero_le _, ρ, μ, δ, p0, f0, rel, env, by simpa using ok⟩, ?_⟩
  rintro i m σ H ⟨rfl, hi, ρ, μ, δ, p0, f0, rel, env, ok⟩
  by_cases hlt : i < items.length
  · have e : items.drop i = items[i] :: items.drop (i + 1) := List.drop_eq_getElem_cons hlt
    rw [e] at ok
    simp only [mloop] at ok
    split at ok
    · rename_i hgd
      obtain ⟨h1, _⟩ := ij ρ μ H i p0 f0 rel hgd
      obtain ⟨hgo, hy⟩ := h1 items[i] (List.getElem?_eq_getElem hlt)
      refine .inr ⟨hgo, fun σ' H' => ∃ ρ μ δ, Pre ρ0 ρ ∧ Fz ρ0 ρ H0 H' ∧ Rel K ρ μ H' ∧ EnvR K ρ H' hx δ σ' ∧ OkS K hx W ρ H' (mloop mg mb gd (items.drop (i + 1)) δ μ) Dn, fun σ' H' h => ⟨items.length - (i + 1), by omega, rfl, hlt, h⟩, fun x H' yl => ?_⟩
      obtain ⟨fz, rel', dv⟩ := hy x H' yl
      have env' := env.mono (Pre.refl _) fz
      refine hg ρ μ δ σ H' items[i] x _ rel' env' dv ?_
      cases eg : mg items[i] δ μ with
      | err C w μ1 => rw [eg] at ok; exact ok.elim
      | bad => rw [eg] at ok; exact ok.elim
      | ok δ1 μ1 =>
        rw [eg] at ok
        intro ρ1 H1 σ1 p1 f1 rel1 env1
        refine hb ρ1 μ1 δ1 σ1 H1 _ rel1 env1 ?_
        dsimp only at ok
        have fzz := fz.trans f1
        cases eb : mb δ1 μ1 with
        | nx δ2 μ2 =>
          rw [eb] at ok
          exact fun ρ2 H2 σ2 p2 f2 rel2 env2 => ⟨ρ2, μ2, δ2, p0.trans (p1.trans p2), f0.trans (fzz.trans f2), rel2, env2, OkS.mono (p1.trans p2) (fzz.trans f2) ok⟩
        | ct δ2 μ2 =>
          rw [eb] at ok
          exact fun ρ2 H2 σ2 p2 f2 rel2 env2 => ⟨ρ2, μ2, δ2, p0.trans (p1.trans p2), f0.trans (fzz.trans f2), rel2, env2, OkS.mono (p1.trans p2) (fzz.trans f2) ok⟩
        | bk δ2 μ2 =>
          rw [eb] at ok
          exact fun ρ2 H2 σ2 p2 f2 rel2 env2 => ok ρ2 H2 σ2 (p1.trans p2) (fzz.trans f2) rel2 env2
        | rt d μ2 =>
          rw [eb] at ok
          exact fun ρ2 H2 v p2 f2 rel2 dv2 => ok ρ2 H2 v (p1.trans p2) (fzz.trans f2) rel2 dv2
        | err C w δ2 μ2 =>
          rw [eb] at ok
          exact fun ρ2 H2 σ2 dd v p2 f2 => ok ρ2 H2 σ2 dd v (p1.trans p2) (fzz.trans f2)
        | bad => rw [eb] at ok; exact ok.elim
    · exact ok.elim
  · have e : i = items.length := by omega
    subst e
    rw [List.drop_length] at ok
    simp only [mloop] at ok
    split at ok
    · rename_i hgd
      obtain ⟨_, h2⟩ := ij ρ μ H items.length p0 f0 rel hgd
      exact .inl ⟨h2 rfl, ok ρ H σ (Pre.refl _) (Fz.refl _) rel env⟩
    · exact ok.elim
section
variable {X : Cx} {hx : Option HX} {W : WX} {tg iter : Expr} {body : List Stmt} {pos : Pos} {mi : MX Its0} {mg : MG} {mb : MS}
theorem rs_for (hp : PassesOwn (model X.prog X.w) X.A X.env X.xe) (hc : X.calm = true) (hi : RI X hx W tg iter mi) (hg : RG X hx W tg mg) (hb : RSs X hx W body mb) (hs : ∀ x, foldedSetIterable iter X.env x = pure x := by intro _; rfl) : RS X hx W (.For tg iter body [] pos) (mfor mi mg mb) := by
  obtain ⟨wi, pi, ri⟩ := hi.ex
  obtain ⟨g, pg, rg⟩ := hg.ex
  obtain ⟨tb, pb, rb⟩ := hb.ex
  exact ⟨⟨_, ps_for hp hc pi pg pb hs, fun ρ μ δ σ H Dn rel env ok => ri ρ μ δ σ H _ rel env (OkS.ofE env ok fun it μ1 ρ1 H1 J pr fz rel1 ij ok1 => loop_ref ij rg rb (Pre.refl _) (Fz.refl _) rel1 (env.mono pr fz) ok1)⟩⟩
end
end Doz
end
section
namespace Doz
open PySem L2
def wipeD (δ : DEnv) : List Nat → DEnv
  | [] => δ
  | i :: is => (wipeD δ is).set i none
theorem EnvR.unset {K : PySem.W.Frag} {ρ : List Addr} {H : Hp} {δ : DEnv} {σ : St} {i : Nat} (e : EnvR K ρ H none δ σ) : EnvR K ρ H none (δ.set i none) (σ.set i none) := by
  refine ⟨by simp [e.len], fun j d' h => ?_, fun q h => by cases h⟩
  by_cases hj : i = j
  · subst hj
    have hl : i < δ.length := by
      have := (List.getElem?_eq_some_iff.mp h).1
      simpa using this
    rw [List.getElem?_set_self hl] at h
    cases h
  · rw [List.getElem?_set_ne hj] at h
    obtain ⟨u, h1, h2⟩ := e.get j d' h
    exact ⟨u, by rw [List.getElem?_set_ne hj]; exact h1, h2⟩
theorem EnvR.nox {K : PySem.W.Frag} {ρ : List Addr} {H : Hp} {hx : Option HX} {δ : DEnv} {σ : St} (e : EnvR K ρ H hx δ σ) : EnvR K ρ H none δ σ := ⟨e.len, e.get, fun _ h => by cases h⟩
theorem EnvR.wipe {K : PySem.W.Frag} {ρ : List Addr} {H : Hp} {δ : DEnv} {σ : St} (e : EnvR K ρ H none δ σ) : ∀ vs : List Nat, EnvR K ρ H none (wipeD δ vs) (L2.wipe σ vs)
  | [] => e
  | v :: vs => (EnvR.wipe e vs).unset
theorem set_wipe {σ : St} {i : Nat} {x : Option V} : ∀ {vs : List Nat}, i ∈ vs → L2.wipe (σ.set i x) vs = L2.wipe σ vs
  | v :: vs, h => by
    unfold L2.wipe
    by_cases hi : i ∈ vs
    · rw [set_wipe hi]
    · have : v = i := by
        rcases List.mem_cons.mp h with h | h
        · exact h.symm
        · exact absurd h hi
      subst this
      have key : ∀ (ws : List Nat) (τ : St), v ∉ ws → L2.wipe (τ.set v x) ws = (L2.wipe τ ws).set v x := by
        intro ws
        induction ws with
        | nil => intro τ _; rfl
        | cons w ws ih =>
          intro τ hw
          simp only [List.mem_cons, not_or] at hw
          unfold L2.wipe
          rw [ih τ hw.2, List.set_comm _ _ hw.1]
      rw [key vs σ hi, List.set_set]
theorem wipe_wipe {σ : St} {us : List Nat} : ∀ {vs : List Nat}, (∀ i ∈ vs, i ∈ us) → L2.wipe (L2.wipe σ vs) us = L2.wipe σ us
  | [], _ => rfl
  | v :: vs, h => by
    show L2.wipe ((L2.wipe σ vs).set v Option.none) us = _
    rw [set_wipe (h v List.mem_cons_self)]
    exact wipe_wipe fun i hi => h i (List.mem_cons_of_mem _ hi)
def OkGw (K : PySem.W.Frag) (vs : List Nat) (σ0 : St) (ρ : List Addr) (H : Hp) (r : Res DEnv) (Q : St → Hp → Prop) : Prop := match r with
  | .ok δ μ => ∀ ρ' H' σ, Pre ρ ρ' → Fz ρ ρ' H H' → Rel K ρ' μ H' → EnvR K ρ' H' none δ σ → L2.wipe σ vs = L2.wipe σ0 vs → Q σ H'
  | _ => False
structure RGc (X : Cx) (scope : Scope) (vs : List Nat) (tg : Expr) (mg : MG) : Prop where
  ex : ∃ g : TG, (∀ (s : Shared) (H : Hp) (C : Addr) (cl : List (Str × Addr)) (fp : List Addr), PG (X.blk s H scope (compEnvC scope cl C X.env) fp) tg g) ∧
    ∀ ρ μ δ σ H d v (Q : St → Hp → Prop), Rel X.K ρ μ H → EnvR X.K ρ H none δ σ → DV X.K ρ H d v → OkGw X.K vs σ ρ H (mg d δ μ) Q → g v σ H Q
structure RGcs (X : Cx) (scope : Scope) (vs : List Nat) (tgs : List Expr) (mg : MGs) : Prop where
  ex : ∃ g : TGs, (∀ (s : Shared) (H : Hp) (C : Addr) (cl : List (Str × Addr)) (fp : List Addr), PGs (X.blk s H scope (compEnvC scope cl C X.env) fp) tgs g) ∧
    ∀ ρ μ δ σ H d v (Q : St → Hp → Prop), Rel X.K ρ μ H → EnvR X.K ρ H none δ σ → DVs X.K ρ H d v → OkGw X.K vs σ ρ H (mg d δ μ) Q → g v σ H Q
section
variable {X : Cx} {scope : Scope} {vs : List Nat} {pos : Pos}
theorem rgc_name (i : Nat) {x : Str} (hN : X.N.Nodup) (hm : i ∈ vs := by decide) (hi : X.N[i]? = some x := by rfl)
    (hl : ∀ (s : Shared) (H : Hp) (C : Addr) (cl : List (Str × Addr)) (fp : List Addr), Loc (X.blk s H scope (compEnvC scope cl C X.env) fp).env.scope x := by intros; first | exact Or.inl rfl | exact Or.inr rfl)
    (hf : ∀ (s : Shared) (H : Hp) (C : Addr) (cl : List (Str × Addr)) (fp : List Addr), (X.blk s H scope (compEnvC scope cl C X.env) fp).fn x = true ∨ (X.blk s H scope (compEnvC scope cl C X.env) fp).env.scope.names.lookup x = some .local := by intros; first | exact .inl rfl | exact .inr rfl) : RGc X scope vs (.Name x pos) (gset i) :=
  ⟨⟨gName i, fun s H C cl fp => pg_name hN hi (hl s H C cl fp) (hf s H C cl fp), fun ρ μ δ σ H d v Q rel env dv ok => ok ρ H _ (Pre.refl _) (Fz.refl _) rel (env.set dv fun _ h => by cases h) (set_wipe hm)⟩⟩
theorem rgcs_nil : RGcs X scope vs [] gnil := by
  refine ⟨⟨_, fun _ _ _ _ _ => pgs_nil, fun ρ μ δ σ H ds vs Q rel env dv ok => ?_⟩⟩
  unfold gnil at ok
  split at ok
  · simp only [DVs] at dv
    exact ⟨dv, ok ρ H σ (Pre.refl _) (Fz.refl _) rel env rfl⟩
  · exact ok.elim
theorem rgcs_cons {tg : Expr} {tgs : List Expr} {g : MG} {gs : MGs} (h1 : RGc X scope vs tg g) (h2 : RGcs X scope vs tgs gs)
    (hs : ∀ (s : Shared) (H : Hp) (C : Addr) (cl : List (Str × Addr)) (fp : List Addr), (assignEach (tg :: tgs) (X.blk s H scope (compEnvC scope cl C X.env) fp).env).map (·.2) = assign tg (X.blk s H scope (compEnvC scope cl C X.env) fp).env :: (assignEach tgs (X.blk s H scope (compEnvC scope cl C X.env) fp).env).map (·.2) := by intros; rfl) : RGcs X scope vs (tg :: tgs) (gcons g gs) := by
  obtain ⟨t, p, r⟩ := h1.ex
  obtain ⟨u, q, w⟩ := h2.ex
  refine ⟨⟨_, fun s H C cl fp => pgs_cons (p s H C cl fp) (q s H C cl fp) (hs s H C cl fp), fun ρ μ δ σ H ds us Q rel env dv ok => ?_⟩⟩
  unfold gcons at ok
  split at ok
  · rename_i d rst
    simp only [DVs] at dv
    obtain ⟨v, vr, rfl, d1, d2⟩ := dv
    refine ⟨v, vr, rfl, r ρ μ δ σ H d v _ rel env d1 ?_⟩
    split at ok
    · rename_i δ1 μ1 e1
      rw [e1]
      intro ρ' H' σ' pr fz rel' env' hw
      refine w ρ' μ1 δ1 σ' H' rst vr Q rel' env' (d2.mono pr fz) ?_
      revert ok
      cases gs rst δ1 μ1 with
      | ok δ2 μ2 => exact fun ok ρ2 H2 σ2 p2 f2 r2 e2 w2 => ok ρ2 H2 σ2 (pr.trans p2) (fz.trans f2) r2 e2 (w2.trans hw)
      | err _ _ _ => exact id
      | bad => exact id
    · exact ok.elim
  · exact ok.elim
theorem rgc_tup {tgs : List Expr} {gs : MGs} {n k : Nat} (hc : X.calm = true) (h : RGcs X scope vs tgs gs)
    (hn : ∀ (s : Shared) (H : Hp) (C : Addr) (cl : List (Str × Addr)) (fp : List Addr), (assignEach tgs (X.blk s H scope (compEnvC scope cl C X.env) fp).env).length = n := by intros; rfl)
    (hst : ∀ (s : Shared) (H : Hp) (C : Addr) (cl : List (Str × Addr)) (fp : List Addr), (assignEach tgs (X.blk s H scope (compEnvC scope cl C X.env) fp).env).findIdx? (·.1) = none := by intros; rfl) : RGc X scope vs (.Tuple tgs k pos) (gtup n gs) := by
  obtain ⟨t, p, r⟩ := h.ex
  refine ⟨⟨gTup X.K n t, fun s H C cl fp => pg_tup (X := X.blk s H scope (compEnvC scope cl C X.env) fp) hc (p s H C cl fp) (hn s H C cl fp) (hst s H C cl fp), fun ρ μ δ σ H d v Q rel env dv ok => ?_⟩⟩
  unfold gtup at ok
  split at ok
  · split at ok
    · rename_i ds hl
      obtain ⟨a, us, rfl, h1, h2⟩ := tup_ok dv
      refine ⟨a, us, rfl, h1.sq, h2.length.symm.trans hl, r ρ μ δ σ H ds us Q rel env h2 ?_⟩
      split at ok
      · rename_i e1
        rw [e1]
        exact ok
      · exact ok.elim
    · exact ok.elim
  · exact ok.elim
def WF : WX := fun _ _ _ _ => False
def TmE {α β : Type} (K : PySem.W.Frag) (R : Rl α β) (m : MX α) : TX β := fun σ H Q => ∃ ρ μ δ, Rel K ρ μ H ∧ EnvR K ρ H none δ σ ∧ Okr K R ρ H (m δ μ) Q (fun _ _ _ => False)
theorem RE.pe {e : Expr} {m : ME} (h : RE X none WF e m) : PE X e (TmE X.K (DV X.K) m) := by
  obtain ⟨t, p, r⟩ := h.ex
  exact ⟨fun pins s σ H Q I ⟨ρ, μ, δ, rel, env, ok⟩ => p.run pins s σ H Q I (r ρ μ δ σ H Q rel env ok)⟩
theorem RT.pt {e : Expr} {m : MX Bool} (h : RT X none WF e m) : L2.PT X e (TmE X.K RT' m) := by
  obtain ⟨t, p, r⟩ := h.ex
  exact ⟨fun pins s σ H Q I ⟨ρ, μ, δ, rel, env, ok⟩ => p.run pins s σ H Q I (r ρ μ δ σ H Q rel env ok)⟩
structure RTs (X : Cx) (es : List Expr) (m : MX Bool) : Prop where
  p : PTs X es (TmE X.K RT' m)
def myes : MX Bool := fun _ μ => .ok true μ
theorem rts_nil : RTs X [] myes := ⟨⟨fun pins s σ H Q I ⟨ρ, μ, δ, rel, env, ok⟩ => pts_nil.run pins s σ H Q I (Okr.now (b := true) ok rel rfl)⟩⟩
end
def compL (g : MG) (mt : MX Bool) (me : ME) (gd : Mem → Bool) (δ : DEnv) : List D → Mem → Res (List D)
  | [], μ => if gd μ = true then .ok [] μ else .bad
  | d :: ds, μ => if gd μ = true then match g d δ μ with
      | .ok δ1 μ1 => match mt δ1 μ1 with
        | .ok true μ2 => match me δ1 μ2 with
          | .ok y μ3 => match compL g mt me gd δ ds μ3 with
            | .ok ys μ4 => .ok (y :: ys) μ4
            | _ => .bad
          | _ => .bad
        | .ok false μ2 => compL g mt me gd δ ds μ2
        | _ => .bad
      | _ => .bad
    else .bad
def mcomp (vs : List Nat) (mi : MX Its0) (g : MG) (mt : MX Bool) (me : ME) : MX (List D) := bindM mi fun it => fun δ μ => if it.1.length ≤ sizeLine then compL g mt me it.2 (wipeD δ vs) it.1 μ else .bad
def addL (ds : List D) (r : Res (List D)) : Res (List D) := match r with
  | .ok ys μ => .ok (ds ++ ys) μ
  | .err C w μ => .err C w μ
  | .bad => .bad
theorem okr_false {α β : Type} {K : PySem.W.Frag} {R : Rl α β} {ρ : List Addr} {H : Hp} {a : α} {μ : Mem} {Q : β → Hp → Prop} (h : ∀ ρ' H' b, Pre ρ ρ' → Fz ρ ρ' H H' → Rel K ρ' μ H' → R ρ' H' a b → Q b H') : Okr K R ρ H (.ok a μ) Q (fun _ _ _ => False) := h
section
variable {X : Cx} {hx : Option HX} {W : WX} {scope : Scope} {vs : List Nat} {pos : Pos} {elt tg iter : Expr} {ifs : List Expr} {mi : MX Its0} {mg : MG} {mt : MX Bool} {me : ME}
theorem comp_ref {K : PySem.W.Frag} {J : It} {g : TG} {items : List D} {gd : Mem → Bool} {ρ0 : List Addr} {H0 : Hp} {σ : St} {δ : DEnv} {μ0 : Mem} {Q : VK} {E : XK} {p : Addr} (ij : ItR K ρ0 H0 (items, gd) J) (hg : ∀ ρ μ δ σ H d v (Q : St → Hp → Prop), Rel K ρ μ H → EnvR K ρ H none δ σ → DV K ρ H d v → OkGw K vs σ ρ H (mg d δ μ) Q → g v σ H Q)
    (hl : items.length ≤ sizeLine) (hp : H0 p = none) (rel0 : Rel K ρ0 μ0 H0) (env0 : EnvR K ρ0 H0 none (wipeD δ vs) (L2.wipe σ vs)) (ok : OkN K ρ0 H0 (compL mg mt me gd (wipeD δ vs) items μ0) Q E) :
    ∃ W : Nat → Nat → Hp → Prop, (∃ m, W 0 m (upd H0 p (.lst []))) ∧ ∀ i m H, W i m H →
  (J.stop i H ∧ Q (.ref p) H) ∨ (J.go i H ∧ ∃ Nx : Hp → Prop, (∀ H', Nx H' → ∃ m', m' < m ∧ W (i + 1) m' H') ∧ ∀ x H', J.yld i H x H' → g x (L2.wipe σ vs) H' fun σ2 H2 => L2.wipe σ2 vs = L2.wipe σ vs ∧ TmE K RT' mt σ2 H2 fun b H3 =>
    if b = true then TmE K (DV K) me σ2 H3 fun y H4 => ∃ acc, H4 p = some (.lst acc) ∧ acc.length < sizeLine ∧ Nx (upd H4 p (.lst (acc ++ [y]))) else Nx H3) := by
  let St (i : Nat) (H : Hp) : Prop := ∃ ρ μ ds acc, Pre ρ0 ρ ∧ Fz ρ0 ρ H0 H ∧ Rel K ρ μ H ∧ p ∉ ρ ∧ H p = some (.lst acc) ∧ acc.length ≤ i ∧ DVs K ρ H ds acc ∧ OkN K ρ0 H0 (addL ds (compL mg mt me gd (wipeD δ vs) (items.drop i) μ)) Q E
  have wri : ∀ {i : Nat} {H : Hp} {ρ : List Addr} {μ : Mem} {ds : List D} {acc : List V} {y : V} {d : D}, Pre ρ0 ρ → Fz ρ0 ρ H0 H → Rel K ρ μ H → p ∉ ρ → H p = some (.lst acc) → acc.length ≤ i → DVs K ρ H ds acc → DV K ρ H d y → OkN K ρ0 H0 (addL (ds ++ [d]) (compL mg mt me gd (wipeD δ vs) (items.drop (i + 1)) μ)) Q E → St (i + 1) (upd H p (.lst (acc ++ [y]))) :=
    fun {i H ρ μ ds acc y d} pr fz rel hn ha hl hd dv ok => by
      have f1 : Fz0 H (upd H p (.lst (acc ++ [y]))) := Fz0.mut ha (fun _ => HO.noConfusion) (fun _ _ => HO.noConfusion)
      exact ⟨ρ, μ, ds ++ [d], acc ++ [y], pr, fz.late hp, rel.other hn f1, hn, upd_same, by simp; omega, (hd.app (.cons dv .nil)).mono0 (Pre.refl _) f1, ok⟩
  refine ⟨fun i m H => m = items.length - i ∧ i ≤ items.length ∧ St i H, ⟨items.length, by simp, Nat.zero_le _, ρ0, μ0, [], [], Pre.refl _, Fz.new hp, rel0.alloc hp, rel0.fresh hp, upd_same, by simp, .nil, ?_⟩, ?_⟩
  · rw [List.drop_zero]
    revert ok
    cases compL mg mt me gd (wipeD δ vs) items μ0 with
    | ok ys μ => exact id
    | err C w μ => exact id
    | bad => exact id
  rintro i m H ⟨rfl, hi, ρ, μ, ds, acc, pr, fz, rel, hn, ha, hle, hd, ok⟩
  by_cases hlt : i < items.length
  · have e : items.drop i = items[i] :: items.drop (i + 1) := List.drop_eq_getElem_cons hlt
    rw [e] at ok
    simp only [compL] at ok
    split at ok
    · rename_i hgd
      obtain ⟨h1, _⟩ := ij ρ μ H i pr fz rel hgd
      obtain ⟨hgo, hy⟩ := h1 items[i] (List.getElem?_eq_getElem hlt)
      refine .inr ⟨hgo, St (i + 1), fun H' h => ⟨items.length - (i + 1), by omega, rfl, hlt, h⟩, fun x H' yl => ?_⟩
      obtain ⟨fz', rel', dv⟩ := hy x H' yl
      have ha' := fz'.keep p _ hn ha
      have fz1 := fz.trans fz'
      have env' := (env0.mono pr fz1)
      have hd' := hd.mono (Pre.refl _) fz'
      refine hg ρ μ (wipeD δ vs) (L2.wipe σ vs) H' items[i] x _ rel' env' dv ?_
      split at ok
      · rename_i δ1 μ1 eg
        rw [eg]
        intro ρ1 H1 σ1 p1 f1 rel1 env1 hw
        have hn1 : p ∉ ρ1 := fun z => by
          have := f1.fr p z hn
          rw [ha'] at this
          cases this
        have ha1 := f1.keep p _ hn ha'
        refine ⟨hw.trans (wipe_wipe fun _ h => h), ρ1, μ1, δ1, rel1, env1, ?_⟩
        split at ok
        · rename_i μ2 et
          rw [et]
          refine okr_false fun ρ2 H2 b p2 f2 rel2 eb => ?_
          obtain rfl : true = b := eb
          refine iteT ⟨ρ2, μ2, δ1, rel2, env1.mono p2 f2, ?_⟩
          have hn2 : p ∉ ρ2 := fun z => by
            have := f2.fr p z hn1
            rw [ha1] at this
            cases this
          have ha2 := f2.keep p _ hn1 ha1
          split at ok
          · rename_i y μ3 ee
            rw [ee]
            refine okr_false fun ρ3 H3 b p3 f3 rel3 dy => ?_
            have hn3 : p ∉ ρ3 := fun z => by
              have := f3.fr p z hn2
              rw [ha2] at this
              cases this
            have ha3 := f3.keep p _ hn2 ha2
            refine ⟨acc, ha3, by omega, wri (((pr.trans p1).trans p2).trans p3) (((fz1.trans f1).trans f2).trans f3) rel3 hn3 ha3 hle (((hd'.mono p1 f1).mono p2 f2).mono p3 f3) dy ?_⟩
            revert ok
            cases compL mg mt me gd (wipeD δ vs) (items.drop (i + 1)) μ3 with
            | ok ys μ => intro ok; simp only [addL, List.append_assoc, List.singleton_append] at ok ⊢; exact ok
            | err C w μ => exact fun ok => ok.elim
            | bad => exact id
          · exact ok.elim
        · rename_i μ2 et
          rw [et]
          refine okr_false fun ρ2 H2 b p2 f2 rel2 eb => ?_
          obtain rfl : false = b := eb
          have hn2 : p ∉ ρ2 := fun z => by
            have := f2.fr p z hn1
            rw [ha1] at this
            cases this
          have ha2 := f2.keep p _ hn1 ha1
          exact iteF ⟨ρ2, μ2, ds, acc, (pr.trans p1).trans p2, (fz1.trans f1).trans f2, rel2, hn2, ha2, by omega, (hd'.mono p1 f1).mono p2 f2, ok⟩
        · exact ok.elim
      · exact ok.elim
    · exact ok.elim
  · have e : i = items.length := by omega
    subst e
    rw [List.drop_length] at ok
    simp only [compL] at ok
    split at ok
    · rename_i hgd
      obtain ⟨_, h2⟩ := ij ρ μ H items.length pr fz rel hgd
      simp only [addL, List.append_nil] at ok
      exact .inl ⟨h2 rfl, ok ρ H _ pr fz rel ⟨p, acc, rfl, hp, ha, hn, hd⟩⟩
    · exact ok.elim
theorem rn_lc {own : List (Str × Nat)} (hc : X.calm = true) (hN : X.N.Nodup) (hi : RI X hx W tg iter mi) (ok : BlkOk X.N X.env.scope scope own) (hg : RGc X scope (own.map (·.2)) tg mg)
    (ht : ∀ (s : Shared) (H : Hp) (C : Addr) (cl : List (Str × Addr)) (fp : List Addr), RTs (X.blk s H scope (compEnvC scope cl C X.env) fp) ifs mt)
    (he : ∀ (s : Shared) (H : Hp) (C : Addr) (cl : List (Str × Addr)) (fp : List Addr), RE (X.blk s H scope (compEnvC scope cl C X.env) fp) none WF elt me) (hs : ∀ x, foldedSetIterable iter X.env x = pure x := by intro _; rfl) :
    RN X hx W (.ListComp elt [⟨tg, iter, ifs, 0⟩] scope pos) (mcomp (own.map (·.2)) mi mg mt me) := by
  obtain ⟨wi, pi, ri⟩ := hi.ex
  obtain ⟨g, pg, rg⟩ := hg.ex
  refine ⟨⟨_, pe_lc (tt := TmE X.K RT' mt) (te := TmE X.K (DV X.K) me) hc hN pi ok pg (fun s H C cl fp => (ht s H C cl fp).p) (fun s H C cl fp => (he s H C cl fp).pe) hs, fun ρ0 μ0 δ σ H0 Q rel0 env0 ok0 => ri ρ0 μ0 δ σ H0 _ rel0 env0 (OkN.bind ok0 fun it μ1 ρ1 H1 J pr fz rel1 ij ok1 => ?_)⟩⟩
  dsimp only at ok1
  split at ok1
  · rename_i hl
    exact fun D hD => comp_ref ij rg hl hD rel1 ((env0.mono pr fz).nox.wipe _) ok1
  · exact ok1.elim
theorem ps_fz {s : Stmt} {t : TS} (h : PS X s t) : PS X s (fun Dn σ H => t { Dn with nx := fun σ' H' => Dn.nx σ' H' ∨ ∃ a xs, H' a = some (.lst xs) ∧ ∀ o, Dn.nx σ' (upd H' a (.frz o (.lst xs))) } σ H) := by
  refine ⟨fun pins s σ H Dn I hw => thn (h.run pins s σ H _ I hw) fun f s1 hq => ?_⟩
  cases f with
  | next =>
    obtain ⟨σ', H', I', q | ⟨a, xs, ha, q⟩⟩ := hq
    · exact ⟨σ', H', I', q⟩
    · obtain ⟨o, I2⟩ := I'.lock ha trivial
      exact ⟨σ', _, I2, q o⟩
  | brk => exact hq
  | cont => exact hq
  | ret u => exact hq
theorem rs_setLcF {i : Nat} {y : Str} {py spos : Pos} {own : List (Str × Nat)} (hc : X.calm = true) (hN : X.N.Nodup) (hi : RI X hx W tg iter mi) (ok : BlkOk X.N X.env.scope scope own) (hg : RGc X scope (own.map (·.2)) tg mg)
    (ht : ∀ (s : Shared) (H : Hp) (C : Addr) (cl : List (Str × Addr)) (fp : List Addr), RTs (X.blk s H scope (compEnvC scope cl C X.env) fp) ifs mt)
    (he : ∀ (s : Shared) (H : Hp) (C : Addr) (cl : List (Str × Addr)) (fp : List Addr), RE (X.blk s H scope (compEnvC scope cl C X.env) fp) none WF elt me)
    (hxi : ∀ q, hx = some q → i ≠ q.i := by intro _ h; first | (cases h; done) | (cases h; exact Nat.ne_of_beq_eq_false rfl))
    (hy : X.N[i]? = some y := by rfl) (hyl : X.env.scope.names.lookup y = some .local := by rfl)
    (hsw : swapsWith (.ListComp elt [⟨tg, iter, ifs, 0⟩] scope pos) (some (.Name y py)) spos.line X.env = pure true := by rfl) (hs : ∀ x, foldedSetIterable iter X.env x = pure x := by intro _; rfl) :
    RS X hx W (.Assign [.Name y py] (.ListComp elt [⟨tg, iter, ifs, 0⟩] scope pos) spos) (masg (mfz (mcomp (own.map (·.2)) mi mg mt me)) (gset i)) := by
  obtain ⟨wi, pi, ri⟩ := hi.ex
  obtain ⟨g, pg, rg⟩ := hg.ex
  refine ⟨⟨_, ps_fz (ps_setLc (tt := TmE X.K RT' mt) (te := TmE X.K (DV X.K) me) hc hN hy hyl hsw pi ok pg (fun s H C cl fp => (ht s H C cl fp).p) (fun s H C cl fp => (he s H C cl fp).pe) hs), fun ρ0 μ0 δ σ H0 Dn rel0 env0 ok0 => ?_⟩⟩
  have rn : RefN X.K hx W (tLc wi g (TmE X.K RT' mt) (TmE X.K (DV X.K) me) (own.map (·.2))) (mcomp (own.map (·.2)) mi mg mt me) := fun ρ0 μ0 δ σ H0 Q rel0 env0 ok0 => ri ρ0 μ0 δ σ H0 _ rel0 env0 (OkN.bind ok0 fun it μ1 ρ1 H1 J pr fz rel1 ij ok1 => by
    dsimp only at ok1
    split at ok1
    · rename_i hl
      exact fun D hD => comp_ref ij rg hl hD rel1 ((env0.mono pr fz).nox.wipe _) ok1
    · exact ok1.elim)
  refine rn ρ0 μ0 δ σ H0 _ rel0 env0 ?_
  unfold masg ofE mfz bindM at ok0
  cases e : mcomp (own.map (·.2)) mi mg mt me δ μ0 with
  | err C w μ1 =>
    rw [e] at ok0
    exact fun ρ1 H1 dd v p f rel hd dv => ok0 ρ1 H1 σ dd v p f rel (env0.mono p f) hd dv
  | bad => rw [e] at ok0; exact ok0
  | ok ds μ1 =>
    rw [e] at ok0
    rintro ρ H v pr fz rel ⟨q, vs, rfl, hu, hq, hn, hd⟩
    exact .inr ⟨q, vs, hq, fun o => ok0 _ _ _ pr (fz.late hu) (rel.other hn (Fz0.frz hq)) ((env0.mono pr (fz.late hu)).set (dv_frz hq hd) hxi)⟩
end
end Doz
end
section
namespace Doz
open PySem L2
def tyS (d : D) (_ : Mem) : Bool := match d with
  | .str _ => true
  | _ => false
def tyL (d : D) (μ : Mem) : Bool := (lstOf μ d).isSome
def TyOk (K : PySem.W.Frag) (T : String) (ty : D → Mem → Bool) : Prop := ∀ d ρ μ H x, Rel K ρ μ H → DV K ρ H d x → ty d μ = true → tyV K T x H
theorem tyOk_S {K : PySem.W.Frag} : TyOk K "str" tyS := by
  intro d ρ μ H x rel dv h
  cases d with
  | str z => rw [str_ok dv]; rfl
  | _ => simp [tyS] at h
theorem tyOk_L {K : PySem.W.Frag} : TyOk K "list" tyL := by
  intro d ρ μ H x rel dv h
  obtain ⟨ds, hd⟩ := Option.isSome_iff_exists.mp h
  obtain ⟨a, vs, rfl, r2, _⟩ := lstOf_ok rel dv hd
  exact .inl ⟨rfl, vs, rd_sq r2⟩
def MethF (K : PySem.W.Frag) (r : V → List V → Hp → VK → Prop) (f : D → List D → Mem → Res D) : Prop :=
  ∀ d ds ρ μ H x xs (Q : VK) (E : XK), Rel K ρ μ H → DV K ρ H d x → DVs K ρ H ds xs → Okr K (DV K) ρ H (f d ds μ) Q E → r x xs H (Frzn Q)
def mmeth {α : Type} (ty : D → Mem → Bool) (f : D → List D → Mem → Res α) (mo : ME) (ma : MX (List D)) : MX α := bindM mo fun d => fun δ μ => if ty d μ = true then (ma δ μ).bind fun ds μ1 => f d ds μ1 else .bad
section
variable {X : Cx} {hx : Option HX} {W : WX} {o e : Expr} {es : List Expr} {mo : ME} {ma : MX (List D)} {name : Str} {apos cpos : Pos} {T id : String} {ty : D → Mem → Bool} {r : V → List V → Hp → VK → Prop}
theorem re_bm0 {f : D → List D → Mem → Res D} (pa : PlainAttrs T) (slot : Slot T name id) (hty : typeOf (.builtin id) = pure (.type "method_descriptor")) (hm : MtR X id r) (tk : TyOk X.K T ty) (mf : MethF X.K r f) (ho : RE X hx W o mo)
    (hbase : attributeBase o name X.env (eval o X.env) = eval o X.env := by rfl) (hline : (apos.endLine == cpos.line) = true := by rfl) : RE X hx W (.Call (.Attribute o name apos) [] [] cpos) (mmeth ty f mo mnil) := by
  obtain ⟨to, po, ro⟩ := ho.ex
  refine ⟨⟨_, pe_fzo (pe_bm0 pa slot hty hm po hbase hline), fun ρ0 μ0 δ σ H0 Q rel0 env0 ok0 => ro ρ0 μ0 δ σ H0 _ rel0 env0 (Okr.bind ok0 fun d μ ρ H x pr fz rel dv ok => ?_)⟩⟩
  dsimp only at ok
  split at ok
  · rename_i ht
    exact ⟨tk d ρ μ H x rel dv ht, mf d [] ρ μ H x [] Q _ rel dv .nil ok⟩
  · exact ok.elim
theorem re_bm {f : D → List D → Mem → Res D} (pa : PlainAttrs T) (slot : Slot T name id) (hty : typeOf (.builtin id) = pure (.type "method_descriptor")) (hm : MtR X id r) (tk : TyOk X.K T ty) (mf : MethF X.K r f) (ho : RE X hx W o mo) (ha : RA X hx W (e :: es) ma)
    (hbase : attributeBase o name X.env (eval o X.env) = eval o X.env := by rfl)
    (hfew : ((backTo cpos (starEach (e :: es) X.env)).all (fun x => !x.1) && (backToKw cpos (keywordEach [] X.env)).all (fun x => x.1.isSome)
      && decide ((e :: es).length + ([] : List Keyword).length + (if ([] : List Keyword).isEmpty then 0 else 1) < 30)) = true := by rfl)
    (hline : (apos.endLine == cpos.line) = true := by rfl) (hs : starEach (e :: es) X.env = (false, eval e X.env) :: starEach es X.env := by rfl) (hplain : (backTo cpos (starEach es X.env)).any (·.1) = false := by rfl) :
    RE X hx W (.Call (.Attribute o name apos) (e :: es) [] cpos) (mmeth ty f mo ma) := by
  obtain ⟨to, po, ro⟩ := ho.ex
  obtain ⟨ta, pa', ra⟩ := ha.ex
  refine ⟨⟨_, pe_fzo (pe_bm pa slot hty hm po pa' hbase hfew hline hs hplain), fun ρ0 μ0 δ σ H0 Q rel0 env0 ok0 => ro ρ0 μ0 δ σ H0 _ rel0 env0 (Okr.bind ok0 fun d μ ρ H x pr fz rel dv ok => ?_)⟩⟩
  dsimp only at ok
  split at ok
  · rename_i ht
    exact ⟨tk d ρ μ H x rel dv ht, ra ρ μ δ σ H _ rel (env0.mono pr fz) (Okr.bind ok fun ds μ1 ρ1 H1 xs p1 f1 rel1 dvs ok1 => mf d ds ρ1 μ1 H1 x xs Q _ rel1 (dv.mono p1 f1) dvs ok1)⟩
  · exact ok.elim
end
section
variable {K : PySem.W.Frag} {ρ : List Addr} {μ : Mem} {H : Hp}
theorem DVs.zero {xs : List V} (h : DVs K ρ H [] xs) : xs = [] := by simpa only [DVs] using h
def lcell (μ : Mem) (d : D) : Option (Nat × List D) := match d with
  | .loc n => match μ.cells[n]? with
    | some (.lst ds) => some (n, ds)
    | _ => none
  | _ => none
theorem lcell_ok {d : D} {x : V} {n : Nat} {ds : List D} (rel : Rel K ρ μ H) (dv : DV K ρ H d x) (h : lcell μ d = some (n, ds)) : ∃ a vs, x = .ref a ∧ ρ[n]? = some a ∧ μ.cells[n]? = some (.lst ds) ∧ H a = some (.lst vs) ∧ DVs K ρ H ds vs := by
  unfold lcell at h
  split at h
  · rename_i m
    split at h
    · rename_i es hc
      obtain ⟨rfl, rfl⟩ : m = n ∧ es = ds := by simpa using h
      simp only [DV] at dv
      obtain ⟨a, h1, rfl⟩ := dv
      obtain ⟨vs, h2, h3⟩ := rel.cell m a _ h1 hc
      exact ⟨a, vs, rfl, h1, hc, h2, h3⟩
    · cases h
  · cases h
theorem lwrite {n : Nat} {a : Addr} {es : List D} {vs ws : List V} {Q : VK} {E : XK} {r : D} {v : V} (rel : Rel K ρ μ H) (h1 : ρ[n]? = some a) (h2 : H a = some (.lst vs)) (hd : DVs K ρ H es ws) (hv : DV K ρ H r v)
    (ok : Okr K (DV K) ρ H (.ok r (μ.set n (.lst es))) Q E) : Q v (upd H a (.lst ws)) := by
  have f : Fz ρ ρ H (upd H a (.lst ws)) := Fz.mut h1 h2 (fun _ => HO.noConfusion) (fun _ _ => HO.noConfusion)
  exact ok ρ _ _ (Pre.refl _) f (rel.write h1 h2 (fun _ => HO.noConfusion) (fun _ _ => HO.noConfusion) ⟨ws, upd_same, hd.mono (Pre.refl _) f⟩) (hv.mono (Pre.refl _) f)
def fAppend (d : D) (xs : List D) (μ : Mem) : Res D := match xs with
  | [y] => match lcell μ d with
    | some (n, ds) => if ds.length < sizeLine then .ok .non (μ.set n (.lst (ds ++ [y]))) else .bad
    | none => .bad
  | _ => .bad
theorem mf_append : MethF K rAppend fAppend := by
  intro d ds ρ μ H x xs Q E rel dv dvs ok
  unfold fAppend at ok
  split at ok
  · obtain ⟨y, rfl, dy⟩ := dvs.one
    split at ok
    · rename_i n es hc
      split at ok
      · rename_i hl
        obtain ⟨a, vs, rfl, h1, _, h2, h3⟩ := lcell_ok rel dv hc
        exact ⟨a, vs, y, rfl, rfl, h2, by rw [← h3.length]; exact hl, .inl (lwrite rel h1 h2 (h3.app (.cons dy .nil)) dv_non ok)⟩
      · exact ok.elim
    · exact ok.elim
  · exact ok.elim
def fReverse (d : D) (xs : List D) (μ : Mem) : Res D := match xs with
  | [] => match lcell μ d with
    | some (n, ds) => .ok .non (μ.set n (.lst ds.reverse))
    | none => .bad
  | _ => .bad
theorem mf_reverse : MethF K rReverse fReverse := by
  intro d ds ρ μ H x xs Q E rel dv dvs ok
  unfold fReverse at ok
  split at ok
  · obtain rfl := dvs.zero
    split at ok
    · rename_i n es hc
      obtain ⟨a, vs, rfl, h1, _, h2, h3⟩ := lcell_ok rel dv hc
      exact ⟨a, vs, rfl, rfl, h2, .inl (lwrite rel h1 h2 h3.reverse dv_non ok)⟩
    · exact ok.elim
  · exact ok.elim
def fLClear (d : D) (xs : List D) (μ : Mem) : Res D := match xs with
  | [] => match lcell μ d with
    | some (n, ds) => .ok .non (μ.set n (.lst []))
    | none => .bad
  | _ => .bad
def dcell (μ : Mem) (d : D) : Option (Nat × List (Key × D)) := match d with
  | .loc n => match μ.cells[n]? with
    | some (.dK ds) => if μ.lkd n = true then none else some (n, ds)
    | _ => none
  | _ => none
theorem dcell_ok {d : D} {x : V} {n : Nat} {ds : List (Key × D)} (rel : Rel K ρ μ H) (dv : DV K ρ H d x) (h : dcell μ d = some (n, ds)) : ∃ a vs, x = .ref a ∧ ρ[n]? = some a ∧ μ.cells[n]? = some (.dK ds) ∧ μ.lkd n = false ∧ H a = some (.dK vs) ∧ KDs K ρ H ds vs := by
  unfold dcell at h
  split at h
  · rename_i m
    split at h
    · rename_i es hc
      split at h
      · cases h
      · rename_i hl
        obtain ⟨rfl, rfl⟩ : m = n ∧ es = ds := by simpa using h
        simp only [DV] at dv
        obtain ⟨a, h1, rfl⟩ := dv
        obtain ⟨vs, h2, h3⟩ := rel.cell m a _ h1 hc
        have hl' : μ.lkd m = false := by simpa using hl
        rw [hl'] at h2
        unfold Lk at h2
        rw [if_neg Bool.false_ne_true] at h2
        exact ⟨a, vs, rfl, h1, hc, hl', h2, h3⟩
    · cases h
  · cases h
def strsOf : List D → Option (List Str)
  | [] => some []
  | .str x :: ds => (strsOf ds).map (x :: ·)
  | _ => none
theorem strsOf_ok : ∀ {ds : List D} {vs : List V} {ys : List Str}, DVs K ρ H ds vs → strsOf ds = some ys → vs = ys.map V.str
  | [], vs, ys, h, e => by
    simp only [strsOf, Option.some.injEq] at e
    subst e
    exact h.zero
  | d :: ds, vs, ys, h, e => by
    simp only [DVs] at h
    obtain ⟨v, r, rfl, h1, h2⟩ := h
    cases d with
    | str x =>
      simp only [strsOf, Option.map_eq_some_iff] at e
      obtain ⟨zs, e1, rfl⟩ := e
      rw [str_ok h1, strsOf_ok h2 e1]
      rfl
    | _ => simp [strsOf] at e
def rJoin (K : PySem.W.Frag) : V → List V → Hp → VK → Prop := fun x xs H Q => ∃ a p, ∃ ys : List Str, x = .str a ∧ xs = [.ref p] ∧ (SqL K H p (ys.map V.str) ∨ SqT K H p (ys.map V.str)) ∧
    (ys.map (·.length)).sum + ys.length * a.length ≤ 16777216 ∧ Q (.str (Txt.join a ys)) H
def fJoin (d : D) (xs : List D) (μ : Mem) : Res D := match d, xs with
  | .str a, [l] => match seqOf μ l with
    | some ds => match strsOf ds with
      | some ys => if (ys.map (·.length)).sum + ys.length * a.length ≤ 16777216 then .ok (.str (Txt.join a ys)) μ else .bad
      | none => .bad
    | none => .bad
  | _, _ => .bad
theorem mf_join : MethF K (rJoin K) fJoin := by
  intro d ds ρ μ H x xs Q E rel dv dvs ok
  unfold fJoin at ok
  split at ok
  · rename_i a l
    obtain ⟨y, rfl, dy⟩ := dvs.one
    split at ok
    · rename_i es hs
      split at ok
      · rename_i ys hy
        split at ok
        · rename_i hz
          obtain ⟨p, vs, rfl, hq, hd⟩ := seqOf_ok rel dy hs
          have e := strsOf_ok hd hy
          subst e
          exact ⟨a, p, ys, str_ok dv, rfl, hq, hz, .inl (ok.now rel dv_str)⟩
        · exact ok.elim
      · exact ok.elim
    · exact ok.elim
  · exact ok.elim
end
def mdnew : ME := fun _ μ => .ok (.loc μ.cells.length) (μ.push (.dK []))
theorem re_dnew {X : Cx} {hx : Option HX} {W : WX} {pos : Pos} : RE X hx W (.Dict [] [] pos) mdnew := by
  refine ⟨⟨_, pe_dnewK, fun ρ μ δ σ H Q rel env ok p hp => ?_⟩⟩
  exact Okr.go ok (Pre.app _ _) (Fz.newA hp) (rel.new hp ⟨[], by unfold Lk; rw [if_neg Bool.false_ne_true]; exact upd_same, .nil⟩) (dv_last rel)
def rEqDL : R2 := fun x y H Q => ∃ a b ks ls, x = .ref a ∧ y = .ref b ∧ H a = some (.dK ks) ∧ H b = some (.dK ls) ∧ ks.length ≠ ls.length ∧ Q (.bl false) H
def rNeDL : R2 := fun x y H Q => ∃ a b ks ls, x = .ref a ∧ y = .ref b ∧ H a = some (.dK ks) ∧ H b = some (.dK ls) ∧ ks.length ≠ ls.length ∧ Q (.bl true) H
theorem op_eqDL {X : Cx} (hu : X.A.units < cLine) : OpR X (compareOp .Eq) rEqDL := by
  intro pins s σ H x y v u Q I rx ry h
  obtain ⟨a, b, ks, ls, rfl, rfl, ea, eb, hlen, q⟩ := h
  obtain rfl : v = Value.ref a := rx
  obtain rfl : u = Value.ref b := ry
  obtain ⟨_, ya, va, ra, da⟩ := (show ObjOk X.prog X.w H s.heap a (.dK ks) from I.hok a _ ea)
  obtain ⟨_, yb, vb, rb, db⟩ := (show ObjOk X.prog X.w H s.heap b (.dK ls) from I.hok b _ eb)
  have hl : va.length ≠ vb.length := by rw [← ra.length, ← rb.length]; exact hlen
  exact PySem.W.keq_eq (knd := mixKind X.prog X.w) (r := true) ya yb da db hu (fun z => absurd z hl) (fin_bl I q (by simp [hl]))
theorem op_neDL {X : Cx} (hu : X.A.units < cLine) : OpR X (compareOp .NotEq) rNeDL := by
  intro pins s σ H x y v u Q I rx ry h
  obtain ⟨a, b, ks, ls, rfl, rfl, ea, eb, hlen, q⟩ := h
  obtain rfl : v = Value.ref a := rx
  obtain rfl : u = Value.ref b := ry
  obtain ⟨_, ya, va, ra, da⟩ := (show ObjOk X.prog X.w H s.heap a (.dK ks) from I.hok a _ ea)
  obtain ⟨_, yb, vb, rb, db⟩ := (show ObjOk X.prog X.w H s.heap b (.dK ls) from I.hok b _ eb)
  have hl : va.length ≠ vb.length := by rw [← ra.length, ← rb.length]; exact hlen
  exact PySem.W.keq_ne (knd := mixKind X.prog X.w) (r := true) ya yb da db hu (fun z => absurd z hl) (fin_bl I q (by simp [hl]))
def D.flat : D → Bool
  | .non => true | .bl _ => true | .int _ => true | .str _ => true
  | _ => false
def tabEq (ks ls : List (Key × D)) : Bool := ks.all fun p => p.2.flat && match kget ls p.1 with
  | some d => D.same p.2 d
  | none => false
def cEqA (d e : D) (μ : Mem) : Res Bool := match dcell μ d, dcell μ e with
  | some (_, ks), some (_, ls) => if ks.length = ls.length then (if tabEq ks ls = true then .ok true μ else .bad) else .ok false μ
  | _, _ => cEq d e μ
def cNeA (d e : D) (μ : Mem) : Res Bool := (cEqA d e μ).bind fun b μ => .ok (!b) μ
def rEqA (K : PySem.W.Frag) : R2 := fun x y H Q => rEqU K x y H Q ∨ rEqDA x y H Q ∨ rEqDL x y H Q
def rNeA (K : PySem.W.Frag) : R2 := fun x y H Q => rNeU K x y H Q ∨ rNeDA x y H Q ∨ rNeDL x y H Q
theorem op_eqA {X : Cx} (hu : Hu X) : OpR X (compareOp .Eq) (rEqA X.K) := (op_eqU hu.h64).or ((op_eq_dictA (Nat.lt_of_le_of_lt (by omega) hu)).or (op_eqDL (Nat.lt_of_le_of_lt (by omega) hu)))
theorem op_neA {X : Cx} (hu : Hu X) : OpR X (compareOp .NotEq) (rNeA X.K) := (op_neU hu.h64).or ((op_ne_dictA (Nat.lt_of_le_of_lt (by omega) hu)).or (op_neDL (Nat.lt_of_le_of_lt (by omega) hu)))
theorem flat_ok {K : PySem.W.Frag} {ρ : List Addr} {H : Hp} {d : D} {v u : V} (h : d.flat = true) (dv : DV K ρ H d v) (du : DV K ρ H d u) : v = u ∧ flatB v = true := by
  cases d with
  | non => rw [non_ok dv, non_ok du]; exact ⟨rfl, rfl⟩
  | bl b => rw [bl_ok dv, bl_ok du]; exact ⟨rfl, rfl⟩
  | int b => rw [int_ok dv, int_ok du]; exact ⟨rfl, rfl⟩
  | str b => rw [str_ok dv, str_ok du]; exact ⟨rfl, rfl⟩
  | _ => simp [D.flat] at h
theorem tabEq_ok {K : PySem.W.Frag} {ρ : List Addr} {H : Hp} {ks ls : List (Key × D)} {vs us : List (Key × V)} (h : tabEq ks ls = true) (hk : KDs K ρ H ks vs) (hl : KDs K ρ H ls us) : ∀ p ∈ vs, valV us p.1 = some p.2 ∧ flatB p.2 = true := by
  unfold tabEq at h
  induction hk with
  | nil => intro p hp; cases hp
  | @cons p q ps qs r t ih =>
    simp only [List.all_cons, Bool.and_eq_true] at h
    intro p' hp'
    rcases List.mem_cons.mp hp' with e | hp'
    · subst e
      obtain ⟨⟨h1, h2⟩, _⟩ := h
      split at h2
      · rename_i d hd
        have e := D.same_eq _ _ h2
        subst e
        obtain ⟨u, hu, du⟩ := (KDs.val hl).1 _ hd
        obtain ⟨rfl, hf⟩ := flat_ok h1 r.2 du
        exact ⟨by rw [← r.1]; exact hu, hf⟩
      · cases h2
    · exact ih h.2 p' hp'
theorem cmA_core {K : PySem.W.Frag} {ρ : List Addr} {μ : Mem} {H : Hp} {d e : D} {x y : V} {b : Bool} {μ' : Mem} (rel : Rel K ρ μ H) (dx : DV K ρ H d x) (dy : DV K ρ H e y) (h : cEqA d e μ = .ok b μ') :
    (cEq d e μ = .ok b μ') ∨ (μ' = μ ∧ ∃ a b' ks ls, x = .ref a ∧ y = .ref b' ∧ H a = some (.dK ks) ∧ H b' = some (.dK ls) ∧ ((b = true ∧ ks.length = ls.length ∧ ∀ p ∈ ks, valV ls p.1 = some p.2 ∧ flatB p.2 = true) ∨ (b = false ∧ ks.length ≠ ls.length))) := by
  unfold cEqA at h
  split at h
  · rename_i n1 ks n2 ls h1 h2
    obtain ⟨a, vs, rfl, _, _, _, e1, e2⟩ := dcell_ok rel dx h1
    obtain ⟨a', us, rfl, _, _, _, e3, e4⟩ := dcell_ok rel dy h2
    have l1 := KDs.length e2
    have l2 := KDs.length e4
    split at h
    · rename_i hl
      split at h
      · rename_i ht
        obtain ⟨rfl, rfl⟩ : true = b ∧ μ = μ' := by simpa using h
        exact .inr ⟨rfl, a, a', vs, us, rfl, rfl, e1, e3, .inl ⟨rfl, by omega, tabEq_ok ht e2 e4⟩⟩
      · cases h
    · rename_i hl
      obtain ⟨rfl, rfl⟩ : false = b ∧ μ = μ' := by simpa using h
      exact .inr ⟨rfl, a, a', vs, us, rfl, rfl, e1, e3, .inr ⟨rfl, by omega⟩⟩
  · exact .inl h
theorem cEqA_noerr {d e : D} {μ : Mem} {C : Addr} {w : D} {μ' : Mem} : cEqA d e μ ≠ .err C w μ' := by
  unfold cEqA
  split
  · split
    · split <;> exact fun h => nomatch h
    · exact fun h => nomatch h
  · exact cEq_noerr
theorem cm_eqA {K : PySem.W.Frag} : CmpM K (rEqA K) cEqA := by
  intro d e ρ μ H x y Q E rel dx dy ok
  cases h : cEqA d e μ with
  | ok b μ' =>
    rw [h] at ok
    rcases cmA_core rel dx dy h with h | ⟨rfl, a, b', ks, ls, rfl, rfl, e1, e2, ⟨rfl, h1, h2⟩ | ⟨rfl, h1⟩⟩
    · exact .inl (cm_eq d e ρ μ H x y Q E rel dx dy (h ▸ ok))
    · exact .inr (.inl ⟨a, b', ks, ls, rfl, rfl, e1, e2, h1, h2, ok.now rel rfl⟩)
    · exact .inr (.inr ⟨a, b', ks, ls, rfl, rfl, e1, e2, h1, ok.now rel rfl⟩)
  | err C w μ' => exact absurd h cEqA_noerr
  | bad => rw [h] at ok; exact ok.elim
theorem cm_neA {K : PySem.W.Frag} : CmpM K (rNeA K) cNeA := by
  intro d e ρ μ H x y Q E rel dx dy ok
  unfold cNeA at ok
  cases h : cEqA d e μ with
  | ok b μ' =>
    rw [h] at ok
    rcases cmA_core rel dx dy h with h | ⟨rfl, a, b', ks, ls, rfl, rfl, e1, e2, ⟨rfl, h1, h2⟩ | ⟨rfl, h1⟩⟩
    · exact .inl (cm_ne d e ρ μ H x y Q E rel dx dy (by unfold cNe; rw [h]; exact ok))
    · exact .inr (.inl ⟨a, b', ks, ls, rfl, rfl, e1, e2, h1, h2, Okr.now (b := V.bl false) ok rel rfl⟩)
    · exact .inr (.inr ⟨a, b', ks, ls, rfl, rfl, e1, e2, h1, Okr.now (b := V.bl true) ok rel rfl⟩)
  | err C w μ' => exact absurd h cEqA_noerr
  | bad => rw [h] at ok; exact ok.elim
end Doz
end
section
namespace Doz
open PySem L2
open PyProof.Rows (envOfC)
abbrev Pw (X : Cx) (W : WX) : Prop := ∀ σ, PassesAt (L2.CX X.prog X.w) X σ (WE W σ)
theorem pw_takes {X : Cx} {W : WX} (tk : Takes X W) : Pw X W := fun σ => passAt tk σ
theorem pw_false {X : Cx} : Pw X WF := fun σ pins H s e s' I c => by
  obtain ⟨_, _, _, _, _, _, _, _, _, _, _, _, z⟩ := c
  exact z.elim
abbrev MF := List D → Mem → Res D
def spM (K : PySem.W.Frag) (n : Nat) (m : MF) : Sp := fun vs H Q E => ∃ ρ μ ds, ds.length = n ∧ Rel K ρ μ H ∧ DVs K ρ H ds vs ∧ Okr K (DV K) ρ H (m ds μ) Q E
theorem spM.len {K : PySem.W.Frag} {n : Nat} {m : MF} {vs : List V} {H : Hp} {Q : VK} {E : XK} (h : spM K n m vs H Q E) : vs.length = n := by
  obtain ⟨ρ, μ, ds, hl, _, dv, _⟩ := h
  rw [← dv.length]; exact hl
structure PCW (X : Cx) (es : List Expr) (kws : List Keyword) (pos : Pos) (ks : List Str) (t : TX (List V × List V)) : Prop where
  run : ∀ (pins : List (Addr × Obj)) (s : Shared) (σ : St) (H : Hp) (f : Value) (first : List Value) (Q : Value → Shared → Prop) (R : List V × List V → Hp → Prop), PySem.W.keepIn X.K f = true → Inv X pins σ H s → t σ H R →
    (∀ us ws vs zs s' H', Inv X pins σ H' s' → Vals vs us → Vals zs ws → R (vs, zs) H' → wpAny (model X.prog X.w) X.A (call f (first ++ us) (ks.zip ws)) Q X.xe s') →
    wpAny (model X.prog X.w) X.A (callWith pos f first (backTo pos (starEach es X.env)) (backToKw pos (keywordEach kws X.env))) Q X.xe s
def DV2 (K : PySem.W.Frag) : Rl (List D × List D) (List V × List V) := fun ρ H a b => DVs K ρ H a.1 b.1 ∧ DVs K ρ H a.2 b.2
structure RC (X : Cx) (hx : Option HX) (W : WX) (es : List Expr) (kws : List Keyword) (pos : Pos) (ks : List Str) (m : MX (List D × List D)) : Prop where
  ex : ∃ t, PCW X es kws pos ks t ∧ Ref X.K hx W (DV2 X.K) t m
structure RK (X : Cx) (hx : Option HX) (W : WX) (kws : List Keyword) (m : MX (List D)) : Prop where
  ex : ∃ t : TA, PK X kws t ∧ Ref X.K hx W (DVs X.K) t m
def mpos (m : MX (List D)) : MX (List D × List D) := bindM m fun ds => fun _ μ => .ok (ds, []) μ
def mkws (m : MX (List D)) : MX (List D × List D) := bindM m fun ds => fun _ μ => .ok ([], ds) μ
def mnoa : MX (List D × List D) := fun _ μ => .ok ([], []) μ
def mboth (m k : MX (List D)) : MX (List D × List D) := bindM m fun ds => bindM k fun es => fun _ μ => .ok (ds, es) μ
section
variable {X : Cx} {hx : Option HX} {W : WX} {e : Expr} {es : List Expr} {kws : List Keyword} {pos kpos : Pos} {ks : List Str} {m mk : MX (List D)} {me : ME} {nm : Option Str}
theorem rk_nil : RK X hx W [] mnil := ⟨⟨_, pk_nil, fun ρ μ δ σ H Q rel env ok => Okr.now (b := ([] : List V)) ok rel .nil⟩⟩
theorem rk_cons (ha : RE X hx W e me) (hr : RK X hx W kws m) : RK X hx W (⟨nm, e, kpos⟩ :: kws) (mcons me m) := by
  obtain ⟨te, pe, re⟩ := ha.ex
  obtain ⟨t, p, r⟩ := hr.ex
  exact ⟨⟨_, pk_cons pe p, Ref.two (k := fun x xs σ H Q => Q (x :: xs) H) stay_DV re r fun d ds ρ μ δ σ H x xs Q rel env dx dxs ok => Okr.now ok rel (.cons dx dxs)⟩⟩
theorem rc_pos (ha : RA X hx W (e :: es) m) (he : starEach (e :: es) X.env = (false, eval e X.env) :: starEach es X.env := by rfl) (hpl : (backTo pos (starEach es X.env)).any (·.1) = false := by rfl) : RC X hx W (e :: es) [] pos [] (mpos m) := by
  obtain ⟨t, p, r⟩ := ha.ex
  refine ⟨⟨fun σ H R => t σ H fun vs H1 => R (vs, []) H1, ⟨fun pins s σ H f first Q R hk I h k => ?_⟩, fun ρ0 μ0 δ σ H0 Q rel0 env0 ok0 => r ρ0 μ0 δ σ H0 _ rel0 env0 (Okr.bind ok0 fun ds μ ρ H xs pr fz rel dv ok => Okr.now (b := (xs, [])) ok rel ⟨dv, .nil⟩)⟩⟩
  exact PySem.W.callWith_K (h₀ := X.base) I.ok.mod.kin hk (thn (p.run pos pins s σ H _ I h) fun us s1 ⟨vs, H1, I1, rr, q⟩ => ⟨I1.kIn, k us [] vs [] s1 H1 I1 rr .nil q⟩) he hpl
theorem rc_kw0 (hkw : RK X hx W kws mk) (hall : (backToKw pos (keywordEach kws X.env)).all (·.1.isSome) = true := by rfl) (hks : (backToKw pos (keywordEach kws X.env)).filterMap (·.1) = ks := by rfl)
    (hpl : ((backTo pos (starEach [] X.env)).any (·.1) || (backToKw pos (keywordEach kws X.env)).any (·.1.isNone)) = false := by rfl) : RC X hx W [] kws pos ks (mkws mk) := by
  obtain ⟨tk, pk, rk⟩ := hkw.ex
  refine ⟨⟨fun σ H R => tk σ H fun zs H2 => R ([], zs) H2, ⟨fun pins s σ H f first Q R hk I h k => ?_⟩, fun ρ0 μ0 δ σ H0 Q rel0 env0 ok0 => rk ρ0 μ0 δ σ H0 _ rel0 env0 (Okr.bind ok0 fun ds μ ρ H xs pr fz rel dv ok => Okr.now (b := ([], xs)) ok rel ⟨.nil, dv⟩)⟩⟩
  refine PySem.W.callWith_KW0 (h₀ := X.base) I.ok.mod.kin hk hall ?_ hpl
  refine thn (pk.run pos pins s σ H _ I h) fun ws s2 ⟨zs, H2, I2, rz, q2⟩ => ⟨I2.kIn, ?_⟩
  rw [hks]
  exact k [] ws [] zs s2 H2 I2 .nil rz q2
end
structure Bd (K : PySem.W.Frag) (fd : FuncData) (ps : List Str) (n : Nat) (ks : List Str) (gD : List D → List D → List D) : Prop where
  ex : ∃ g gV, KBn K fd ps n ks g gV ∧ ∀ ρ H ds vs es us, DVs K ρ H ds vs → DVs K ρ H es us → ds.length = n → es.length = ks.length → DVs K ρ H (gD ds es) (gV vs us) ∧ (gD ds es).length = ps.length
theorem bd_all {K : PySem.W.Frag} {fd : FuncData} {ps : List Str} {n : Nat} (hn : ps.length = n) (h : Binds K fd ps []) : Bd K fd ps n [] (fun ds _ => ds) := by
  refine ⟨⟨fun us _ => us, fun vs _ => vs, ⟨fun s us ws X l1 l2 => ?_, fun r _ => r⟩, fun ρ H ds vs es us h1 _ h2 _ => ⟨h1, h2.trans hn.symm⟩⟩⟩
  have b := h s us X (by rw [List.append_nil, l1, hn])
  rw [List.append_nil] at b
  exact b
section
variable {X : Cx} {hx : Option HX} {W : WX} {k n : Nat} {f C : Addr} {fd : FuncData} {ps ks : List Str} {m : MF} {gD : List D → List D → List D} {x nm : Str} {p pos apos : Pos} {o : Expr} {es : List Expr} {kws : List Keyword} {ma : MX (List D × List D)} {mo : ME}
theorem run_m {pins : List (Addr × Obj)} {σ : St} {H : Hp} {s : Shared} {Q : VK} {us ws : List Value} {vs zs : List V} {ρ : List Addr} {μ : Mem} {ds ez : List D} (F : FnOk X.prog X.w X.K X.mg X.base (L2.CX X.prog X.w) k f fd ps (spM X.K ps.length m)) (hr : Room k X.A)
    (hb : Bd X.K fd ps n ks gD) (pw : PassesAt (L2.CX X.prog X.w) X σ (WE W σ)) (I : Inv X pins σ H s) (r : Vals vs us) (rz : Vals zs ws) (rel : Rel X.K ρ μ H) (hd : DVs X.K ρ H ds vs) (hz : DVs X.K ρ H ez zs) (l1 : ds.length = n) (l2 : ez.length = ks.length)
    (ok : Okr X.K (DV X.K) ρ H (m (gD ds ez) μ) Q (fun c d H' => W c d σ H')) : wpAny (model X.prog X.w) X.A (call (.ref f) us (ks.zip ws)) (EP X pins σ Q) X.xe s := by
  obtain ⟨g, gV, kb, hg⟩ := hb.ex
  obtain ⟨dv, dl⟩ := hg ρ H ds vs ez zs hd hz l1 l2
  have r2 := kb.rel r rz
  refine wpAny_call (codeAny_mono (F.run X.A X.stack s H ⟨us, ks.zip ws⟩ (g us ws) (gV vs zs) Q (WE W σ) hr I.env0 (kb.to s us ws I.kIn (by rw [← r.length, ← hd.length]; exact l1) (by rw [← rz.length, ← hz.length]; exact l2)) r2 ⟨ρ, μ, gD ds ez, dl, rel, dv, ok⟩) fun r s' hq => ?_)
  cases r with
  | error e => exact pw pins H s e s' I hq
  | ok fl =>
    cases fl with
    | ret u => exact I.after hq
    | next => exact False.elim hq
    | brk => exact False.elim hq
    | cont => exact False.elim hq
def mfn (n l : Nat) (gD : List D → List D → List D) (m : MF) (ma : MX (List D × List D)) : ME := bindM ma fun a => fun _ μ => if a.1.length = n ∧ a.2.length = l then m (gD a.1 a.2) μ else .bad
theorem re_call (F : FnOk X.prog X.w X.K X.mg X.base (L2.CX X.prog X.w) k f fd ps (spM X.K ps.length m)) (hr : Room k X.A) (hm : X.mg x = some (.ref f)) (hk : PySem.W.keepIn X.K (.ref f) = true) (hb : Bd X.K fd ps n ks gD) (pw : Pw X W)
    (ha : RC X hx W es kws pos ks ma) (hg : Gl X x := by rfl) (hdb : (x == ("__debug__" : Str)) = false := by decide) : RE X hx W (.Call (.Name x p) es kws pos) (mfn n ks.length gD m ma) := by
  obtain ⟨t, pt, rt⟩ := ha.ex
  refine ⟨⟨fun σ H Q => t σ H fun a H1 => ∃ ρ μ ds ez, Rel X.K ρ μ H1 ∧ DVs X.K ρ H1 ds a.1 ∧ DVs X.K ρ H1 ez a.2 ∧ ds.length = n ∧ ez.length = ks.length ∧ Okr X.K (DV X.K) ρ H1 (m (gD ds ez) μ) Q (fun c d H' => W c d σ H'), ⟨fun pins s σ H Q I h => ?_⟩, fun ρ0 μ0 δ σ H0 Q rel0 env0 ok0 => rt ρ0 μ0 δ σ H0 _ rel0 env0 (Okr.bind ok0 fun a μ ρ H xs pr fz rel dv ok => ?_)⟩⟩
  · refine wpAny_Call_Name_kw (ld_glob I hg hm ?_ hdb)
    refine pt.run pins s σ H (.ref f) [] _ _ hk I h fun us ws vs zs s' H' I' r rz ⟨ρ, μ, ds, ez, rel, hd, hz, l1, l2, ok⟩ => ?_
    exact run_m F hr hb (pw σ) I' r rz rel hd hz l1 l2 ok
  · dsimp only at ok
    split at ok
    · rename_i hl
      exact ⟨ρ, μ, a.1, a.2, rel, dv.1, dv.2, hl.1, hl.2, ok⟩
    · exact ok.elim
abbrev MM := D → List D → List D → Mem → Res D
structure MOk (X : Cx) (nm : Str) (n : Nat) (ks : List Str) (C : Addr) (mm : MM) : Prop where
  ex : ∃ k f fd ps m gD, Cls X.K C ∧ Meth X.K C nm f ∧ FnOk X.prog X.w X.K X.mg X.base (L2.CX X.prog X.w) k f fd ps (spM X.K ps.length m) ∧ Room k X.A ∧ Bd X.K fd ps (n + 1) ks gD ∧ mm = fun x ds ez μ => m (gD (x :: ds) ez) μ
def insOf (μ : Mem) (d : D) : Option (Addr × List (Str × D)) := match d with
  | .loc n => match μ.cells[n]? with
    | some (.ins C fs) => some (C, fs)
    | _ => none
  | _ => none
theorem insOf_ok {K : PySem.W.Frag} {ρ : List Addr} {μ : Mem} {H : Hp} {d : D} {v : V} {C : Addr} {fs : List (Str × D)} (rel : Rel K ρ μ H) (dv : DV K ρ H d v) (h : insOf μ d = some (C, fs)) :
    ∃ a dx vs, v = .ref a ∧ H a = some (.ins C dx vs) ∧ KDs K ρ H fs vs := by
  unfold insOf at h
  split at h
  · rename_i m
    split at h
    · rename_i C' es hc
      obtain ⟨rfl, rfl⟩ : C' = C ∧ es = fs := by simpa using h
      simp only [DV] at dv
      obtain ⟨a, h1, rfl⟩ := dv
      obtain ⟨dx, vs, h2, h3, _⟩ := rel.cell m a _ h1 hc
      exact ⟨a, dx, vs, rfl, h2, h3⟩
    · cases h
  · cases h
def noFld (fs : List (Str × D)) (nm : Str) : Bool := fs.all fun p => !(p.1 == nm)
theorem noFld_ok {K : PySem.W.Frag} {ρ : List Addr} {H : Hp} {nm : Str} {fs : List (Str × D)} {vs : List (Str × V)} (h : noFld fs nm = true) (k : KDs K ρ H fs vs) : vs.lookup nm = none := by
  unfold noFld at h
  induction k with
  | nil => rfl
  | @cons p q ps qs r t ih =>
    simp only [List.all_cons, Bool.and_eq_true] at h
    rw [List.lookup_cons]
    have : (nm == q.1) = false := by
      rw [← r.1]
      have z := h.1
      simp only [Bool.not_eq_true'] at z
      exact beq_eq_false_iff_ne.mpr fun e => (beq_eq_false_iff_ne.mp z) e.symm
    rw [this]
    exact ih h.2
def mmth (nm : Str) (n l : Nat) (T : Addr → Option MM) (mo : ME) (ma : MX (List D × List D)) : ME := bindM mo fun d => fun δ μ => match insOf μ d with
  | some (C, fs) => if noFld fs nm = true then match T C with
      | some mm => (ma δ μ).bind fun a μ1 => if a.1.length = n ∧ a.2.length = l then mm d a.1 a.2 μ1 else .bad
      | none => .bad
    else .bad
  | none => .bad
theorem re_meth {pl : Sem Bool} {T : Addr → Option MM} (ho : RE X hx W o mo) (hT : ∀ C mm, T C = some mm → MOk X nm n ks C mm) (pw : Pw X W) (ha : RC X hx W es kws pos ks ma)
    (ht : eval (.Call (.Attribute o nm apos) es kws pos) X.env = (do
      let ov ← eval o X.env
      standAt apos.atName
      let (f, first) ← holding [ov] (getMethod ov nm pl)
      callWith pos f first (backTo pos (starEach es X.env)) (backToKw pos (keywordEach kws X.env))) := by rfl) : RE X hx W (.Call (.Attribute o nm apos) es kws pos) (mmth nm n ks.length T mo ma) := by
  obtain ⟨to, po, ro⟩ := ho.ex
  obtain ⟨t, pt, rt⟩ := ha.ex
  refine ⟨⟨fun σ H Q => to σ H fun x H1 => ∃ a C dx vs mm, x = .ref a ∧ H1 a = some (.ins C dx vs) ∧ vs.lookup nm = none ∧ T C = some mm ∧ t σ H1 fun ar H2 => ∃ ρ μ d ds ez, Rel X.K ρ μ H2 ∧ DV X.K ρ H2 d x ∧ DVs X.K ρ H2 ds ar.1 ∧ DVs X.K ρ H2 ez ar.2 ∧ ds.length = n ∧ ez.length = ks.length ∧ Okr X.K (DV X.K) ρ H2 (mm d ds ez μ) Q (fun c d H' => W c d σ H'),
    ⟨fun pins s σ H Q I h => ?_⟩, fun ρ0 μ0 δ σ H0 Q rel0 env0 ok0 => ro ρ0 μ0 δ σ H0 _ rel0 env0 (Okr.bind ok0 fun d μ ρ H x pr fz rel dv ok => ?_)⟩⟩
  · refine PySem.W.methodCall_KW (pl := pl) (thn (po.run pins s σ H _ I h) fun u s1 ⟨x, H1, I1, rx, a, C, dx, vs, mm, ex, ea, l, hTC, q⟩ => ?_) ht
    subst ex
    obtain rfl : u = Value.ref a := rx
    obtain ⟨k, f, fd, ps, m, gD, c, hm, F, hr, hb, rfl⟩ := (hT C mm hTC).ex
    refine getmeth_ok I1 ea c hm l ?_
    refine pt.run pins s1 σ H1 (.ref f) [.ref a] _ _ hm.kp I1 q fun us ws vs' zs s' H' I' r rz ⟨ρ, μ, d, ds, ez, rel, dv, hd, hz, l1, l2, ok⟩ => ?_
    exact run_m (us := .ref a :: us) (vs := .ref a :: vs') F hr hb (pw σ) I' (.cons rfl r) rz rel (.cons dv hd) hz (by rw [List.length_cons, l1]) l2 ok
  · dsimp only at ok
    split at ok
    · rename_i C fs hi
      split at ok
      · rename_i hn
        split at ok
        · rename_i mm hTC
          obtain ⟨a, dx, vs, rfl, h1, h2⟩ := insOf_ok rel dv hi
          refine ⟨a, C, dx, vs, mm, rfl, h1, noFld_ok hn h2, hTC, rt ρ μ δ σ H _ rel (env0.mono pr fz) (Okr.bind ok fun ar μ1 ρ1 H1 xs p1 f1 rel1 dv1 ok1 => ?_)⟩
          split at ok1
          · rename_i hl
            exact ⟨ρ1, μ1, d, ar.1, ar.2, rel1, dv.mono p1 f1, dv1.1, dv1.2, hl.1, hl.2, ok1⟩
          · exact ok1.elim
        · exact ok.elim
      · exact ok.elim
    · exact ok.elim
def mmk (C : Addr) (n l : Nat) (gD : List D → List D → List D) (m : MF) (ma : MX (List D × List D)) : ME := bindM ma fun a => fun _ μ => if a.1.length = n ∧ a.2.length = l then (m (gD (.loc μ.cells.length :: a.1) a.2) (μ.push (.ins C []))).bind fun d μ1 => match d with
    | .non => .ok (.loc μ.cells.length) μ1
    | _ => .bad
  else .bad
theorem re_make (M : Mk X.K C f) (c : Cls X.K C) (F : FnOk X.prog X.w X.K X.mg X.base (L2.CX X.prog X.w) k f fd ps (spM X.K ps.length m)) (hr : Room (k + 1) X.A) (hm : X.mg x = some (.ref C)) (hb : Bd X.K fd ps (n + 1) ks gD) (pw : Pw X W)
    (ha : RC X hx W es kws pos ks ma) (hg : Gl X x := by rfl) (hdb : (x == ("__debug__" : Str)) = false := by decide) : RE X hx W (.Call (.Name x p) es kws pos) (mmk C n ks.length gD m ma) := by
  obtain ⟨t, pt, rt⟩ := ha.ex
  refine ⟨⟨fun σ H Q => t σ H fun a H1 => ∃ ρ μ ds ez, Rel X.K ρ μ H1 ∧ DVs X.K ρ H1 ds a.1 ∧ DVs X.K ρ H1 ez a.2 ∧ ds.length = n ∧ ez.length = ks.length ∧ Okr X.K (DV X.K) ρ H1 ((m (gD (.loc μ.cells.length :: ds) ez) (μ.push (.ins C []))).bind fun d μ1 => match d with
    | .non => .ok (.loc μ.cells.length) μ1
    | _ => .bad) Q (fun c d H' => W c d σ H'), ⟨fun pins s σ H Q I h => ?_⟩, fun ρ0 μ0 δ σ H0 Q rel0 env0 ok0 => rt ρ0 μ0 δ σ H0 _ rel0 env0 (Okr.bind ok0 fun a μ ρ H xs pr fz rel dv ok => ?_)⟩⟩
  · refine wpAny_Call_Name_kw (ld_glob I hg hm ?_ hdb)
    refine pt.run pins s σ H (.ref C) [] _ _ M.kp I h fun us ws vs zs s H I r rz ⟨ρ, μ, ds, ez, rel, hd, hz, l1, l2, ok⟩ => ?_
    show wpAny _ _ (call (.ref C) us (ks.zip ws)) _ _ _
    have hn1 := I.hok.fresh (Nat.le_succ s.heap.objs.size)
    have hn0 := I.hok.fresh (Nat.le_refl s.heap.objs.size)
    have I2 := Inv.made (C := C) I
    have n01 : upd H s.heap.objs.size (.own (s.heap.objs.size + 1)) (s.heap.objs.size + 1) = none := by rw [upd_ne (Nat.ne_of_gt (Nat.lt_succ_self _))]; exact hn1
    have rel1 : Rel X.K ρ μ (upd H s.heap.objs.size (.own (s.heap.objs.size + 1))) := rel.alloc hn0
    have f0 : Fz ρ ρ H (upd H s.heap.objs.size (.own (s.heap.objs.size + 1))) := Fz.new hn0
    have f1 : Fz ρ (ρ ++ [s.heap.objs.size + 1]) (upd H s.heap.objs.size (.own (s.heap.objs.size + 1))) (upd (upd H s.heap.objs.size (.own (s.heap.objs.size + 1))) (s.heap.objs.size + 1) (.ins C s.heap.objs.size [])) := Fz.newA n01
    have rel2 : Rel X.K (ρ ++ [s.heap.objs.size + 1]) (μ.push (.ins C [])) (upd (upd H s.heap.objs.size (.own (s.heap.objs.size + 1))) (s.heap.objs.size + 1) (.ins C s.heap.objs.size [])) :=
      rel1.new n01 ⟨s.heap.objs.size, [], upd_same, .nil, c, fun p hp => (by cases hp), Nat.zero_le _⟩
    have f2 := f0.trans f1
    obtain ⟨g, gV, kb, hg'⟩ := hb.ex
    have hself : DV X.K (ρ ++ [s.heap.objs.size + 1]) (upd (upd H s.heap.objs.size (.own (s.heap.objs.size + 1))) (s.heap.objs.size + 1) (.ins C s.heap.objs.size [])) (.loc μ.cells.length) (.ref (s.heap.objs.size + 1)) := dv_last rel
    obtain ⟨dv, dl⟩ := hg' _ _ (.loc μ.cells.length :: ds) (.ref (s.heap.objs.size + 1) :: vs) ez zs (.cons hself (hd.mono (Pre.app _ _) f2)) (hz.mono (Pre.app _ _) f2) (by rw [List.length_cons, l1]) l2
    have r1 : Vals (V.ref (s.heap.objs.size + 1) :: vs) (Value.ref (s.heap.objs.size + 1) :: us) := .cons rfl r
    have r2 := kb.rel r1 rz
    have ok' : Okr X.K (DV X.K) (ρ ++ [s.heap.objs.size + 1]) (upd (upd H s.heap.objs.size (.own (s.heap.objs.size + 1))) (s.heap.objs.size + 1) (.ins C s.heap.objs.size [])) (m (gD (.loc μ.cells.length :: ds) ez) (μ.push (.ins C []))) (fun v H2 => v = .non ∧ Q (.ref (s.heap.objs.size + 1)) H2) (fun c d H' => W c d σ H') := by
      refine Okr.bind (Okr.mono (Pre.app _ _) f2 ok) fun d μ1 ρ1 H1 v p1 f3 rel3 dv3 ok3 => ?_
      split at ok3
      · exact ⟨non_ok dv3, Okr.now ok3 rel3 (hself.mono p1 f3)⟩
      · exact ok3.elim
    refine wpAny_call (make_map (f := f) I.kIn M.makes M.init (beq_iff_eq.mp M.fn) (codeAny_mono (F.run _ X.stack _ _ ⟨Value.ref (s.heap.objs.size + 1) :: us, ks.zip ws⟩ (g (Value.ref (s.heap.objs.size + 1) :: us) ws) _ _ (WE W σ) (hr.make C us (ks.zip ws))
      (I2.env0.make C us (ks.zip ws)) (kb.to _ (Value.ref (s.heap.objs.size + 1) :: us) ws I2.kIn (by rw [List.length_cons, ← r.length, ← hd.length, l1]) (by rw [← rz.length, ← hz.length]; exact l2)) r2 ⟨_, _, _, dl, rel2, dv, ok'⟩) fun r s' hq' => ?_))
    cases r with
    | error e => exact pw σ pins _ _ e s' I2 hq'
    | ok fl =>
      cases fl with
      | ret u =>
        obtain ⟨v, H', I3, rv, ev, q3⟩ := I2.after hq'
        subst ev
        exact ⟨rv, ⟨V.ref (s.heap.objs.size + 1), H', I3, rfl, q3⟩⟩
      | next => exact False.elim hq'
      | brk => exact False.elim hq'
      | cont => exact False.elim hq'
  · dsimp only at ok
    split at ok
    · rename_i hl
      exact ⟨ρ, μ, a.1, a.2, rel, dv.1, dv.2, hl.1, hl.2, ok⟩
    · exact ok.elim
end
def startD (n : Nat) (ds : List D) : DEnv := ds.map some ++ List.replicate (n - ds.length) none
def runB (n : Nat) (mb : MS) : MF := fun ds μ => match mb (startD n ds) μ with
  | .nx _ μ1 => .ok .non μ1
  | .rt d μ1 => .ok d μ1
  | .err C w _ μ1 => .err C w μ1
  | _ => .bad
theorem env_start {K : PySem.W.Frag} {ρ : List Addr} {H : Hp} {N : List Str} {ds : List D} {vs : List V} (h : DVs K ρ H ds vs) : EnvR K ρ H none (startD N.length ds) (L2.start N vs) := by
  have hl := h.length
  refine ⟨by simp [startD, L2.start, hl], fun i d e => ?_, fun q h => by cases h⟩
  unfold startD at e
  by_cases hi : i < ds.length
  · rw [List.getElem?_append_left (by simpa using hi), List.getElem?_map] at e
    obtain ⟨d', e1, e2⟩ := Option.map_eq_some_iff.mp e
    cases e2
    obtain ⟨v, e3, e4⟩ := h.get e1
    refine ⟨v, ?_, e4⟩
    unfold L2.start
    rw [List.getElem?_append_left (by simpa [← hl] using hi), List.getElem?_map, e3]
    rfl
  · rw [List.getElem?_append_right (by simpa using hi)] at e
    rw [List.getElem?_replicate] at e
    split at e
    · cases e
    · cases e
theorem fn_ok {P : Program} {w : World} {K : PySem.W.Frag} {mg : Str → Option Value} {base : Heap} {x qual : Str} {params : Arguments} {body : List Stmt} {scope : Scope} {dvs : List V} {kws : List (Str × V)} {f : Addr} {fd : FuncData} {N ps : List Str} {k : Nat} {mb : MS}
    (F : FunD K x qual params body scope dvs kws f fd) (S : FnScope N ps scope)
    (hbody : ∀ (cdv : Value) (A : Around) (outer : List Env) (s : Shared) (H : Hp) (E : XK) (W : WX), Room k (A.deeper (envOfC qual scope s.heap.objs.size f cdv)) → Takes (cxOf (L2.CX P w) P w K mg base N qual scope f cdv A outer s H E) W →
      PassesOwn (model P w) (A.deeper (envOfC qual scope s.heap.objs.size f cdv)) (envOfC qual scope s.heap.objs.size f cdv) (cxOf (L2.CX P w) P w K mg base N qual scope f cdv A outer s H E).xe → RSs (cxOf (L2.CX P w) P w K mg base N qual scope f cdv A outer s H E) none W body mb) :
    FnOk P w K mg base (L2.CX P w) (k + 1) f fd ps (spM K ps.length (runB N.length mb)) := by
  refine F.ok S (fun vs H Q E h => h.len) (fun cdv A outer s H vs Q E hr h => ?_)
  obtain ⟨ρ, μ, ds, hl, rel, dv, ok⟩ := h
  have tk := takes_of (X := cxOf (L2.CX P w) P w K mg base N qual scope f cdv A outer s H E) (E := E) rfl rfl rfl rfl
  have ps' := passes_of (X := cxOf (L2.CX P w) P w K mg base N qual scope f cdv A outer s H E) rfl
  obtain ⟨t, pt, rt⟩ := (hbody cdv A outer s H E (fun cls d _ H => E cls d H) hr tk ps').ex
  refine ⟨t, pt, rt ρ μ (startD N.length ds) (L2.start N vs) H _ rel (env_start dv) ?_⟩
  unfold runB at ok
  cases e : mb (startD N.length ds) μ with
  | nx δ1 μ1 => rw [e] at ok; exact fun ρ1 H1 σ1 p1 f1 rel1 _ => Okr.go (b := V.non) ok p1 f1 rel1 dv_non
  | rt d μ1 => rw [e] at ok; exact fun ρ1 H1 v p1 f1 rel1 dv1 => Okr.go ok p1 f1 rel1 dv1
  | err C w δ1 μ1 => rw [e] at ok; exact fun ρ1 H1 σ1 dd v p1 f1 rel1 _ hd dv1 => ok ρ1 H1 dd v p1 f1 rel1 hd dv1
  | bk δ1 μ1 => rw [e] at ok; exact ok.elim
  | ct δ1 μ1 => rw [e] at ok; exact ok.elim
  | bad => rw [e] at ok; exact ok.elim
end Doz
end
section
namespace PySem
namespace DozX
open PySem.W PySem.Calls PyProof.Rows PySem.HandSPX
def iA (p1 p2 : Pos) : Arguments := { posonlyargs := [], args := [{ arg := "self", annotation := none, pos := p1 }, { arg := "what", annotation := none, pos := p2 }], vararg := none, kwonlyargs := [], kw_defaults := [], kwarg := none, defaults := [] }
def iB (q1 q2 q3 q4 : Pos) : List Stmt := [.Assign [.Attribute (.Name "self" q1) "what" q2] (.Name "what" q3) q4]
def iS : Scope := { kind := .function, names := [(PySem.Str.ofString "self", .local), (PySem.Str.ofString "what", .local)], isGenerator := false, isCoroutine := false, more := [] }
structure ExTxt (K : Frag) (C fI : Addr) : Prop where
  cls : ∃ nm q N bs bm sn sub ab col dd k0 k1 k2 k3 k5, K.lookup C = some (excClassObj nm q C N bs bm true sn sub ab col dd k0 k1 k2 k3 k5 "ValueError.__new__") ∧ refsVE bm = true
  sa : findIn K (.ref C) "__setattr__" = some (some (.builtin "object.__setattr__"))
  ga : findIn K (.ref C) "__getattribute__" = some (some (.builtin "BaseException.__getattribute__"))
  gg : findIn K (.ref C) "__getattr__" = some none
  noN : findIn K (.ref C) "what" = some none
  iC : findIn K (.ref C) "__init__" = some (some (.ref fI))
  tC : typeIn K (.ref fI) = some (.type "function")
  kC : keepIn K (.ref C) = true
  exC : subIn K (.ref C) (.type "BaseException") = some true
  tyC : typeIn K (.ref C) = some (.type "type")
  hdC : hasDictIn K C = true
  fn : ∃ (oc : Value) (od : Option Addr) (kV doc pm : Value) (an : Option Addr) (cdv ct : Value) (osl : Array (Option Value)) (p1 p2 q1 q2 q3 q4 : Pos),
    K.lookup fI = some ⟨oc, od, .func (fnOf "__init__" "DozeError.__init__" (iA p1 p2) (iB q1 q2 q3 q4) iS .none kV doc pm an cdv ct), osl⟩ ∧ codeIn K cdv "DozeError.__init__" = true
theorem one_size (v : Value) : [v].length ≤ sizeLine := by
  rw [sizeLine_eq]
  exact (by decide : 1 ≤ 16777216)
theorem ldC {M : Model} {s : Shared} {name : Str} {scope : Scope} {L a : Addr} {cd : Value} {m : Str → Option Value} {x : Str} {pos : Pos} {v : Value} {Q : Value → Shared → Prop} {A : Around} {E : Value → Shared → Prop} (hn : s.heap.Ns L m) (hv : m x = some v) (h : Q v s)
    (hk : scope.kind = .function := by rfl) (hl : (envOfC name scope L a cd).kindOf x = some .local := by rfl) (hd : (x == ("__debug__" : Str)) = false := by decide) :
    wpAny M A (eval (.Name x pos) (envOfC name scope L a cd)) Q E s := wpAny_Name (wpAny_loadName_local hk hl hn hv h) hd
structure InitEnd (h h' : Heap) (x C dx t1 : Addr) (v : Value) : Prop where
  keep : ∀ b o, b ≠ x → h.get? b = some o → h'.get? b = some o
  obj : h'.get? x = some { cls := .ref C, dict := some dx, data := .fields #[.ref t1, .none, .none, .none, .bool false, .none] }
  dbig : h.objs.size ≤ dx
  dne : dx ≠ x
  ns : h'.Ns1 dx (fun y => if y = "what" then some v else none)
structure OwnMade (h h' : Heap) (e C d : Addr) (v : Value) : Prop where
  keep : ∀ b o, h.get? b = some o → h'.get? b = some o
  new : h.objs.size ≤ e
  obj : ∃ oe vs, h'.get? e = some oe ∧ oe.cls = .ref C ∧ oe.dict = some d ∧ oe.data = .fields vs ∧ vs[1]? = some .none
  dbig : h.objs.size ≤ d
  dne : d ≠ e
  ns : h'.Ns1 d (fun y => if y = "what" then some v else none)
section
variable {prog : Program} {w : World} {A : Around} {E : Value → Shared → Prop} {R : Result → Shared → Prop} {s : Shared} {K : Frag} {C fI : Addr}
theorem ex_init (T : ExTxt K C fI) {x t0 : Addr} {v : Value} (X : K.In s.heap) (hlim : s.heap.NoLimit) (hx : s.heap.get? x = some (excO C t0)) (hnx : K.lookup x = none) (hroom : A.depth < recursionLimit)
    (hq : ∀ h' tk dx, InitEnd s.heap h' x C dx t0 v → R (.ok (.ret .none)) { s with heap := h', toks := tk }) :
    codeAny (model prog w) A (.call (.ref fI) ⟨[.ref x, v], []⟩) R s := by
  obtain ⟨oc, od, kV, doc, pm, an, cdv, ct, osl, p1, p2, q1, q2, q3, q4, ho, hcd⟩ := T.fn
  obtain ⟨nm, q, N, bs, bm, sn, sub, ab, col, dd, k0, k1, k2, k3, k5, hC, hbm⟩ := T.cls
  have hcl : clsIn K C = some { name := nm, bases := bs, mro := .ref C :: bm, ns := N, qualname := q, hasDict := true, slotNames := sn, subclasses := sub, abstract := ab, collection := col, hasDel := false } := by unfold clsIn; rw [hC] <;> rfl
  refine Att.call_fn (binds := [("self", .ref x), ("what", v)]) X hlim ho hcd hroom (BindsTo.of_eq (by first | rfl | with_unfolding_all rfl)) (by first | rfl | decide | with_unfolding_all rfl) (fun s₁ IC => ?_) rfl rfl rfl
  obtain ⟨h₁, tk₁, rfl⟩ := IC.toInCall.same
  have k : ∀ b o, s.heap.get? b = some o → h₁.get? b = some o := IC.toInCall.keep
  have hn := IC.toInCall.ns
  have hxL : s.heap.objs.size ≠ x := Nat.ne_of_gt (Heap.lt_size hx)
  have X₁ : K.In h₁ := X.keeps k
  have hx₁ := k _ _ hx
  show wpAny _ _ (execs _ _) _ _ _
  refine wpAny_execs_cons (plainObj_wpAny_Assign_Attribute ?_)
  refine ldC (v := v) hn (by first | rfl | with_unfolding_all rfl | kernel_rfl) (ldC (v := .ref x) hn (by first | rfl | with_unfolding_all rfl | kernel_rfl) ?_)
  refine set_plain X₁ (ox := excO C t0) (od := none) ⟨hx₁, rfl, rfl, trivial⟩ T.sa ?_
  refine exc_osa X₁ hx₁ hcl (show refsVE (.ref C :: bm) = true from hbm) rfl T.noN (fun h₃ tk₃ dx k₃ dn dne hx₃ hn₃ => ?_)
  show wpAny _ _ (execs _ _) _ _ _
  have z : s.heap.objs.size < h₁.objs.size := hn.lt
  exact wpAny_execs_nil (hq h₃ tk₃ dx ⟨fun b o hb e => k₃ b o hb (k b o e), hx₃, Nat.le_of_lt (Nat.lt_of_lt_of_le z dn), dne, hn₃⟩)
theorem ex_made (T : ExTxt K C fI) {v : Value} (X : K.In s.heap) (hlim : s.heap.NoLimit) (hroom : A.depth + 1 < recursionLimit)
    (hq : ∀ h' tk e d, OwnMade s.heap h' e C d v → R (.ok (.ret (.ref e))) { s with heap := h', toks := tk }) :
    codeAny (model prog w) A (.call (.ref C) ⟨[v], []⟩) R s := by
  obtain ⟨nm, q, N, bs, bm, sn, sub, ab, col, dd, k0, k1, k2, k3, k5, hC, hbm⟩ := T.cls
  obtain ⟨hp, g, dr, tk, os⟩ := s
  have k : ∀ b o, hp.get? b = some o → ((hp.push (kdv_tup [v])).push (excO C hp.objs.size)).get? b = some o := fun b o e => Heap.get?_push_of_some _ (Heap.get?_push_of_some _ e)
  have hget : ((hp.push (kdv_tup [v])).push (excO C hp.objs.size)).get? (hp.objs.size + 1) = some (excO C hp.objs.size) := by heap_get
  have hnx : K.lookup (hp.objs.size + 1) = none := by
    cases e : K.lookup (hp.objs.size + 1) with
    | none => rfl
    | some o =>
      have z : hp.get? (hp.objs.size + 1) = some o := X _ _ e
      exact absurd (Nat.lt_of_succ_lt (Heap.lt_size z)) (Nat.lt_irrefl _)
  refine call_own F.excBase_ValueError (fun X => refsVE_contains X bm hbm) (X _ _ hC) (looks_findIn X T.iC) (fun self => bind_fn X self T.tC) (one_size v) ?_
  refine ex_init (s := ⟨(hp.push (kdv_tup [v])).push (excO C hp.objs.size), g, dr, tk, os⟩) T (X.keeps k) (hlim.keeps k) hget hnx ?_ fun h' tk' dx ⟨k', hx, dn, dne, hns⟩ => ?_
  · show A.depth + 1 < recursionLimit
    exact hroom
  · have old : ∀ b o, hp.get? b = some o → h'.get? b = some o := fun b o e => k' b o (Nat.ne_of_lt (Nat.lt_succ_of_lt (Heap.lt_size e))) (k b o e)
    have z : hp.objs.size + 1 + 1 ≤ dx := by
      first
        | (simpa only [Heap.size_push] using dn)
        | exact dn
        | (have q := dn; rw [Heap.size_push, Heap.size_push] at q; exact q)
    exact ⟨rfl, hq h' tk' (hp.objs.size + 1) dx ⟨old, Nat.le_succ _, ⟨_, _, hx, rfl, rfl, rfl, rfl⟩, Nat.le_trans (Nat.le_trans (Nat.le_succ _) (Nat.le_succ _)) z, dne, hns⟩⟩
end
end DozX
end PySem
namespace L2
open PySem PySem.Spec PyProof.Rows
theorem relO_what {v : V} {v' : Value} (r : RelV v v') (f : Str) : RelO (List.lookup f [(("what" : Str), v)]) (if f = "what" then some v' else none) := by
  by_cases hw : f = "what"
  · subst hw
    rw [if_pos rfl]
    have q : List.lookup ("what" : Str) [(("what" : Str), v)] = some v := by simp [List.lookup]
    rw [q]
    exact r
  · rw [if_neg hw]
    have qw : (f == ("what" : Str)) = false := by simpa using hw
    have q2 : List.lookup f [(("what" : Str), v)] = none := by simp [List.lookup, qw]
    rw [q2]
    trivial
section
variable {X : Cx} {C fI : Addr}
def tMkX (C : Addr) (ta : TA) : St → Hp → XK → Prop := fun σ H Q => ta σ H fun vs H1 => ∃ v, vs = [v] ∧ ∀ d, H1 d = none → Q (.ref C) (some d) (upd H1 d (.xd [(("what" : Str), v)]))
theorem pmk_X {x : Str} {a : Expr} {ta : TA} {p pos : Pos} {k : Nat} (T : PySem.DozX.ExTxt X.K C fI) (gC : X.mg x = some (.ref C)) (hr : Room k X.A) (ha : PA X [a] ta) (hg : Gl X x := by rfl) (hdb : (x == ("__debug__" : Str)) = false := by decide)
    (he : starEach (a :: []) X.env = (false, eval a X.env) :: starEach [] X.env := by rfl) (hpl : (backTo pos (starEach [] X.env)).any (·.1) = false := by rfl) :
    PMk X (.Call (.Name x p) [a] [] pos) (tMkX C ta) := by
  intro pins s σ H Q I h
  refine wpAny_Call_Name_kw (ld_glob I hg gC ?_ hdb)
  refine PySem.W.callWith_K (h₀ := X.base) I.ok.mod.kin T.kC (thn (ha.run pos pins s σ H _ I h) fun us s1 hh => ?_) he hpl
  obtain ⟨vs, H1, I1, r1, v, ev, q1⟩ := hh
  subst ev
  refine ⟨I1.kIn, ?_⟩
  cases r1 with
  | cons rv rn =>
    rename_i v' us'
    cases rn
    show wpAny _ _ (call (.ref C) [v']) _ _ _
    have hlim := I1.nolimit
    obtain ⟨hp, g, dr, tk, os⟩ := s1
    refine wpAny_call (PySem.DozX.ex_made T I1.kIn hlim (by have := hr.dp; omega) fun h' tk' e d M => ?_)
    show MkP X pins σ Q (.ref e) ⟨h', g, dr, tk', os⟩
    obtain ⟨oe, fv, hoe, hc, hd, hdat, h1⟩ := M.obj
    have hns := M.ns
    obtain ⟨G', g1, g2⟩ := restrict h' fun b => decide (b ≠ e)
    have gk : ∀ b, b ≠ e → G'.get? b = h'.get? b := fun b hb => g1 b (decide_eq_true hb)
    have ge : G'.get? e = none := g2 e (by simp)
    have old : ∀ b o, hp.get? b = some o → G'.get? b = some o := fun b o q => (gk b (Nat.ne_of_lt (Nat.lt_of_lt_of_le (Heap.lt_size q) M.new))).trans (M.keep b o q)
    have ob : ObjOk X.prog X.w (upd H1 d (.xd [(("what" : Str), v)])) G' d (.xd [(("what" : Str), v)]) :=
      ⟨_, hns.at (fun o q => (gk d M.dne).trans q), fun f => relO_what rv f⟩
    have J : Inv X pins σ (upd H1 d (.xd [(("what" : Str), v)])) ⟨G', g, dr, tk', os⟩ := I1.laid (t' := tk') old M.dbig ob
    refine ⟨e, oe, fv, ⟨G', g, dr, tk', os⟩, _, .ref C, some d, rfl, J, fun b o q => ?_, ge, hoe, ⟨hc, hd⟩, hdat, h1, ?_, rfl, I1.bare, raises_own T.exC T.tyC, q1 d (I1.hok.fresh M.dbig)⟩
    · by_cases hb : b = e
      · have q' : G'.get? b = some o := q
        rw [hb, ge] at q'; cases q'
      · exact (gk b hb).symm.trans q
    · rw [upd_ne (Ne.symm M.dne)]
      exact I1.hok.fresh M.new
def tWhat (C : Addr) (a : Addr) (cls : Value) (d : Option Addr) (te : TE) : TE := fun σ H Q => te σ H fun x H1 => x = .ref a ∧ cls = .ref C ∧ ∃ (dd : Addr) (v : V), d = some dd ∧ H1 dd = some (.xd [(("what" : Str), v)]) ∧ Q v H1
end
end L2
end
section
namespace Doz
open PySem L2
open PySem.DozX (ExTxt)
def mraise (C : Addr) (ma : MX (List D)) : MS := ofE ma fun ds => fun δ μ => match ds with
  | [w] => .err C w δ μ
  | _ => .bad
section
variable {X : Cx} {hx : Option HX} {W : WX} {C fI : Addr} {k : Nat} {x : Str} {a : Expr} {ma : MX (List D)} {p pos pos2 : Pos}
theorem rs_raise (hc : X.calm = true) (T : ExTxt X.K C fI) (gC : X.mg x = some (.ref C)) (hr : Room k X.A) (tk : Takes X W) (ha : RA X hx W [a] ma) (hg : Gl X x := by rfl) (hdb : (x == ("__debug__" : Str)) = false := by decide)
    (he : starEach (a :: []) X.env = (false, eval a X.env) :: starEach [] X.env := by rfl) (hpl : (backTo pos (starEach [] X.env)).any (·.1) = false := by rfl) : RS X hx W (.Raise (some (.Call (.Name x p) [a] [] pos)) none pos2) (mraise C ma) := by
  obtain ⟨t, pt, rt⟩ := ha.ex
  refine ⟨⟨_, ps_raise hc tk (pmk_X T gC hr pt hg hdb he hpl), fun ρ μ δ σ H Dn rel env ok => rt ρ μ δ σ H _ rel env (OkS.ofE env ok fun ds μ1 ρ1 H1 vs pr fz rel1 dv ok1 => ?_)⟩⟩
  split at ok1
  · obtain ⟨v, rfl, dv1⟩ := dv.one
    refine ⟨v, rfl, fun d hd => ?_⟩
    have f : Fz ρ1 ρ1 H1 (upd H1 d (.xd [(("what" : Str), v)])) := Fz.new hd
    exact ok1 ρ1 _ σ d v (Pre.refl _) f (rel1.alloc hd) ((env.mono pr fz).mono (Pre.refl _) f) upd_same (dv1.mono (Pre.refl _) f)
  · exact ok1.elim
end
def TmS (K : PySem.W.Frag) (hx : Option HX) (W : WX) (m : MS) : TS := fun Dn σ H => ∃ ρ μ δ, Rel K ρ μ H ∧ EnvR K ρ H hx δ σ ∧ OkS K hx W ρ H (m δ μ) Dn
theorem RSs.pss {X : Cx} {hx : Option HX} {W : WX} {body : List Stmt} {m : MS} (h : RSs X hx W body m) : PSs X body (TmS X.K hx W m) := by
  obtain ⟨t, p, r⟩ := h.ex
  exact ⟨fun pins s σ H Dn I ⟨ρ, μ, δ, rel, env, ok⟩ => p.run pins s σ H Dn I (r ρ μ δ σ H Dn rel env ok)⟩
def unS (i : Nat) : SRes → SRes
  | .nx δ μ => .nx (δ.set i none) μ
  | .bk δ μ => .bk (δ.set i none) μ
  | .ct δ μ => .ct (δ.set i none) μ
  | .rt d μ => .rt d μ
  | _ => .bad
def mtry (i : Nat) (test : Addr → Option Bool) (mb : MS) (ms : Addr → D → MS) : MS := fun δ μ => match mb δ μ with
  | .err C w δ1 μ1 => match test C with
    | some true => if i < δ1.length then unS i (ms C w (δ1.set i none) μ1) else .bad
    | some false => .err C w δ1 μ1
    | none => .bad
  | r => r
theorem EnvR.hold {K : PySem.W.Frag} {ρ : List Addr} {H : Hp} {δ : DEnv} {σ : St} {i : Nat} {a C dd : Addr} {w : D} {v : V} (e : EnvR K ρ H none δ σ) (hi : i < δ.length) (hn : dd ∉ ρ) (hd : H dd = some (.xd [(("what" : Str), v)])) (dv : DV K ρ H w v) :
    EnvR K ρ H (some ⟨i, a, C, dd, w, none⟩) (δ.set i none) (σ.set i (some (.ref a))) := by
  refine ⟨by simp [e.len], fun j d' h => ?_, fun q h => ?_⟩
  · by_cases hj : i = j
    · subst hj
      rw [List.getElem?_set_self hi] at h
      cases h
    · rw [List.getElem?_set_ne hj] at h
      obtain ⟨u, h1, h2⟩ := e.get j d' h
      exact ⟨u, by rw [List.getElem?_set_ne hj]; exact h1, h2⟩
  · cases h
    exact ⟨List.getElem?_set_self (e.len ▸ hi), hn, v, hd, dv, fun _ z => nomatch z⟩
section
variable {X : Cx} {W : WX} {x n : Str} {c : Value} {body suite : List Stmt} {b₀ : Stmt} {np pos pos' : Pos} {mb : MS} {ms : Addr → D → MS} {test : Addr → Option Bool}
theorem rs_try (i : Nat) (hs : X.stack = X.env :: X.outer) (hf : X.env.frame = some X.env.locals) (hN : X.N.Nodup) (hc : Names X x c) (tk : Takes X W) (hT : ∀ C b, test C = some b → PySem.W.exmOne X.K (.ref C) c = some b)
    (hb : ∀ (W : WX) (pn : List (Addr × Obj)) (xe : Value → Shared → Prop), Takes (X.tr pn xe) W → PassesOwn (model X.prog X.w) X.A X.env xe → RSs (X.tr pn xe) none W body mb)
    (hsu : ∀ (a : Addr) (oe : Obj) (C dd : Addr) (w : D) (pn : List (Addr × Obj)), test C = some true → Zc (.ref C) (some dd) oe → (∃ vs, oe.data = .fields vs) → RSs (X.suite a ((a, oe) :: pn)) (some ⟨i, a, C, dd, w, none⟩) WF (b₀ :: suite) (ms C w))
    (hi : X.N[i]? = some n := by rfl) (hln : X.env.kindOf n = some .local := by rfl) :
    RS X none W (.Try body [.ExceptHandler (some (.Name x np)) (some n) (b₀ :: suite) pos'] [] [] pos) (mtry i test mb ms) := by
  let ts : Addr → Value → Option Addr → TS := fun a cls d Dn σ H => ∃ C dd w, cls = .ref C ∧ d = some dd ∧ test C = some true ∧ TmS X.K (some ⟨i, a, C, dd, w, none⟩) WF (ms C w) Dn σ H
  refine ⟨⟨_, ps_try_as (tb := fun W => TmS X.K none W mb) (ts := ts) hs hf hN hi hln hc tk (fun W pn xe t p => (hb W pn xe t p).pss) (fun a oe cls d pn hz hv => ?_), fun ρ μ δ σ H Dn rel env ok => ⟨ρ, μ, δ, rel, env, ?_⟩⟩⟩
  · refine ⟨fun pins s σ H Dn I ⟨C, dd, w, e1, e2, ht, h⟩ => ?_⟩
    subst e1 e2
    exact (hsu a oe C dd w pn ht hz hv).pss.run pins s σ H Dn I h
  · unfold mtry at ok
    cases e : mb δ μ with
    | nx δ1 μ1 => rw [e] at ok; exact ok
    | rt d μ1 => rw [e] at ok; exact ok
    | bk δ1 μ1 => rw [e] at ok; exact ok
    | ct δ1 μ1 => rw [e] at ok; exact ok
    | bad => rw [e] at ok; exact ok
    | err C w δ1 μ1 =>
      rw [e] at ok
      dsimp only at ok
      intro ρ1 H1 σ1 dd v p1 f1 rel1 env1 hd dv
      split at ok
      · rename_i ht
        split at ok
        · rename_i hl
          refine ⟨true, hT C true ht, fun _ a ha => ⟨C, dd, w, rfl, rfl, ht, ρ1, μ1, δ1.set i none, rel1, env1.hold hl (rel1.noxd hd) hd dv, ?_⟩, fun z => nomatch z⟩
          revert ok
          cases ms C w (δ1.set i none) μ1 with
          | nx δ2 μ2 => exact fun ok ρ2 H2 σ2 p2 f2 rel2 env2 => ok ρ2 H2 _ (p1.trans p2) (f1.trans f2) rel2 env2.nox.unset
          | bk δ2 μ2 => exact fun ok ρ2 H2 σ2 p2 f2 rel2 env2 => ok ρ2 H2 _ (p1.trans p2) (f1.trans f2) rel2 env2.nox.unset
          | ct δ2 μ2 => exact fun ok ρ2 H2 σ2 p2 f2 rel2 env2 => ok ρ2 H2 _ (p1.trans p2) (f1.trans f2) rel2 env2.nox.unset
          | rt d μ2 => exact fun ok ρ2 H2 v2 p2 f2 rel2 dv2 => ok ρ2 H2 v2 (p1.trans p2) (f1.trans f2) rel2 dv2
          | err _ _ _ _ => exact fun ok => ok.elim
          | bad => exact fun ok => ok.elim
        · exact ok.elim
      · rename_i ht
        exact ⟨false, hT C false ht, (fun z => nomatch z), fun _ => ok ρ1 H1 σ1 dd v p1 f1 rel1 env1 hd dv⟩
      · exact ok.elim
end
end Doz
end
section
namespace PySem
namespace DozX
open PySem.W PySem.Calls PyProof.Rows PySem.HandSPX
def clsB (K : Frag) (C : Addr) : Bool := match K.lookup C with
  | some ⟨.type "type", _, .cls cd, sl⟩ => (match cd.mro, sl.toList with
    | .ref C' :: bm, [_, _, _, _, some (.builtin n), _] => C' == C && n == "ValueError.__new__" && !cd.hasDel && cd.hasDict && refsVE bm
    | _, _ => false)
  | _ => false
theorem clsB_ok {K : Frag} {C : Addr} (q : clsB K C = true) : ∃ nm qn N bs bm sn sub ab col dd k0 k1 k2 k3 k5, K.lookup C = some (excClassObj nm qn C N bs bm true sn sub ab col dd k0 k1 k2 k3 k5 "ValueError.__new__") ∧ refsVE bm = true := by
  unfold clsB at q
  split at q
  · rename_i dd cd sl ho
    split at q
    · rename_i C' bm k0 k1 k2 k3 n k5 hm hs
      simp only [Bool.and_eq_true, beq_iff_eq, Bool.not_eq_true'] at q
      obtain ⟨⟨⟨⟨rfl, rfl⟩, hdel⟩, hdi⟩, ht⟩ := q
      obtain ⟨nm, bs, mro, ns, qn, hd, sn, sub, ab, col, del⟩ := cd
      dsimp only at hm hdel hdi
      subst hm hdel hdi
      have hsl : sl = #[k0, k1, k2, k3, some (.builtin "ValueError.__new__"), k5] := by
        obtain ⟨l⟩ := sl
        simp only at hs
        rw [hs]
      subst hsl
      exact ⟨nm, qn, ns, bs, bm, sn, sub, ab, col, dd, k0, k1, k2, k3, k5, ho, ht⟩
    · cases q
  · cases q
def exB (K : Frag) (x : Str) : Bool :=
  clsB K (He.ga K x) && (He.eqO (findIn K (.ref (He.ga K x)) "__setattr__") (some (some (.builtin "object.__setattr__"))) && (He.eqO (findIn K (.ref (He.ga K x)) "__getattribute__") (some (some (.builtin "BaseException.__getattribute__"))) &&
    (He.eqO (findIn K (.ref (He.ga K x)) "__getattr__") (some none) && (He.eqO (findIn K (.ref (He.ga K x)) "what") (some none) && (He.eqO (findIn K (.ref (He.ga K x)) "__init__") (some (some (.ref (He.fAd K ("DozeError", some "__init__"))))) &&
      (decide (typeIn K (.ref (He.fAd K ("DozeError", some "__init__"))) = some (.type "function")) && (keepIn K (.ref (He.ga K x)) && (decide (subIn K (.ref (He.ga K x)) (.type "BaseException") = some true) &&
        (decide (typeIn K (.ref (He.ga K x)) = some (.type "type")) && hasDictIn K (He.ga K x))))))))))
theorem exB_ok {K : Frag} {x : Str} {fd : FuncData} {p1 p2 q1 q2 q3 q4 : Pos} (h : exB K x = true) (F : L2.FunD K "__init__" "DozeError.__init__" (iA p1 p2) (iB q1 q2 q3 q4) iS [] [] (He.fAd K ("DozeError", some "__init__")) fd) : ExTxt K (He.ga K x) (He.fAd K ("DozeError", some "__init__")) := by
  unfold exB at h
  simp only [Bool.and_eq_true] at h
  obtain ⟨h1, h2, h3, h4, h5, h6, h7, h8, h9, h10, h11⟩ := h
  refine ⟨clsB_ok h1, He.eqO_ok h2, He.eqO_ok h3, He.eqO_ok h4, He.eqO_ok h5, He.eqO_ok h6, of_decide_eq_true h7, h8, of_decide_eq_true h9, of_decide_eq_true h10, h11, ?_⟩
  obtain ⟨oc, od, dV, kV, doc, pm, an, cdv, ct, osl, rfl, lk, hcd, hD, _⟩ := F.ex
  rcases hD with ⟨_, rfl⟩ | ⟨e, _⟩
  · exact ⟨oc, od, kV, doc, pm, an, cdv, ct, osl, p1, p2, q1, q2, q3, q4, lk, hcd⟩
  · exact absurd rfl e
def kwAt (f : Str × Option Str) (x : Str) (K : Frag) : Addr := match K.lookup (He.fAd K f) with
  | some ⟨_, _, .func fd, _⟩ => (match fd.kwdefaults with
    | .ref A => (match nsIn K A x with
      | some (some (.ref b)) => b
      | _ => 0)
    | _ => 0)
  | _ => 0
def emB (K : Frag) (a : Addr) : Bool := match K.lookup a with
  | some ⟨.type "tuple", _, .seq its _, _⟩ => its.size == 0
  | _ => false
theorem emB_ok {K : Frag} {a : Addr} (h : emB K a = true) : ∃ (o : Obj) (its : Array Value) (n : Nat), K.lookup a = some o ∧ o.cls = .type "tuple" ∧ o.data = .seq its n ∧ its.size = 0 := by
  unfold emB at h
  split at h
  · rename_i od its n sl e
    exact ⟨_, its, n, e, rfl, rfl, by simpa using h⟩
  · cases h
def emK (f : Str × Option Str) (x : Str) (K : Frag) : Bool := emB K (kwAt f x K)
open He in
def obsX (fa : List Fa) (fn : List DefD) (xs cs : List Str) (ts : List (Frag → Bool)) (K : Frag) : AlD := ((decide (cs.map (ga K)).Nodup && ts.all fun p => p K) && ((xs.all fun x => exB K x) && ((fa.all fun f => f.ok K) && fn.all fun d => d.ok K)), fn.map fun d => fnW K d.at_)
open He in
def SaysX (fa : List Fa) (fn : List DefD) (xs cs : List Str) (ts : List (Frag → Bool)) (K : Frag) : Prop := obsX fa fn xs cs ts K = valD fn
open He in
def obsXG (n : Nat) (fa : List Fa) (fn : List DefD) (xs cs : List Str) (ts : List (Frag → Bool)) (g : Addr → Option Obj) : AlD := obsX fa fn xs cs ts (frG g (asD g n))
open He in
def hookX (n : Nat) (fa : List Fa) (fn : List DefD) (xs cs : List Str) (ts : List (Frag → Bool)) : PySem.W.Hook where
  α := AlD
  obs := fun s => obsXG n fa fn xs cs ts s.heap.get?
  val := fun _ => valD fn
  says := fun _ h => ∃ K : Frag, K.In h ∧ SaysX fa fn xs cs ts K
  of := fun _ _ e => ⟨_, frG_in, e⟩
  keeps := fun _ _ _ ⟨K, hK, c⟩ k => ⟨K, PySem.W.Frag.In.keeps hK k, c⟩
open He in
theorem obsXG_eq {n : Nat} {fa : List Fa} {fn : List DefD} {xs cs : List Str} {ts : List (Frag → Bool)} {g : Addr → Option Obj} {s : Shared} (h : ∀ a, g a = s.heap.get? a) : obsXG n fa fn xs cs ts g = (hookX n fa fn xs cs ts).obs s := by
  have e : g = s.heap.get? := funext h
  rw [e] <;> rfl
section
open He
variable {fa : List Fa} {fn : List DefD} {xs cs : List Str} {ts : List (Frag → Bool)} {K : Frag}
theorem SaysX.one (c : SaysX fa fn xs cs ts K) : ((decide (cs.map (ga K)).Nodup && ts.all fun p => p K) && ((xs.all fun x => exB K x) && ((fa.all fun f => f.ok K) && fn.all fun d => d.ok K))) = true := congrArg (fun z : AlD => z.1) c
theorem SaysX.says (c : SaysX fa fn xs cs ts K) : SaysD fa fn K := by
  have c1 := (ba (ba c.one).2).2
  have e : fn.map (fun d => fnW K d.at_) = fn.map DefD.val := congrArg (fun z : AlD => z.2) c
  unfold SaysD obsD valD
  rw [c1, e]
theorem SaysX.exc (c : SaysX fa fn xs cs ts K) (i : Nat) {x : Str} (h : xs[i]? = some x := by rfl) : exB K x = true := by
  have c1 := (ba (ba c.one).2).1
  exact List.all_eq_true.mp c1 x (List.mem_of_getElem? h)
theorem SaysX.unlike (c : SaysX fa fn xs cs ts K) : (cs.map (ga K)).Nodup := of_decide_eq_true (ba (ba c.one).1).1
theorem SaysX.ck (c : SaysX fa fn xs cs ts K) (i : Nat) {p : Frag → Bool} (h : ts[i]? = some p := by rfl) : p K = true := List.all_eq_true.mp (ba (ba c.one).1).2 p (List.mem_of_getElem? h)
end
end DozX
end PySem
namespace Doz
open PySem L2
theorem walk_ofP {l : PySem.W.OpenLaw} {n k : Nat} {q : Program} {loose : List Str} {XP : (Str → Option Value) → Heap → Prop} {YP : World → Heap → Prop} {d : DefRec} {x : Str} {m : PySem.W.Frag → MF} {Gd : PySem.W.Frag → Prop}
    (hn : l.most = some n) (hn2 : n ≤ sizeLine) (hdf : d.params.defaults = []) (hr : Room k callerA)
    (F : ∀ (w : World) (mg : Str → Option Value) (fa : Addr) (h : Heap), YP w h → h.Ns mainGlobals mg → mg d.name = some (.ref fa) →
      ∃ (K : PySem.W.Frag) (fd : FuncData), K.In h ∧ Gd K ∧ (∀ (s : Shared) (u : Value), BindsTo s fd ⟨[u], []⟩ [(x, u)]) ∧ ∀ base : Heap, K.In base → base.Ns mainGlobals mg → FnOk l.prog w K mg base (L2.CX l.prog w) k fa fd [x] (spM K 1 (m K)))
    (law : ∀ K, Gd K → ∀ ns : List Int, ns.length ≤ n → ∃ μ, m K [.lst (ns.map D.int)] { cells := [] } = .ok (.bl true) μ) :
    PySem.W.WalkO q loose XP YP l.row.toRowW d [] (fun f vs => PySem.call f vs) := by
  refine Att.attach_call hn hdf fun w s₀ s₁ mg mb fa o pm cd doc a vs ns G Y ho hd hcd hmg hobj hints hlen hg => ?_
  obtain ⟨K, fd, KX, gd, hb, hF⟩ := F w mg fa _ Y G.T.g hmg
  refine law_call KX G.T.g G.T.b G.T.builtins G.T.nolimit hg hobj hints (Nat.le_trans hlen hn2) hr hF hb (fun H hO hS => ?_) fun H e s' c => ?_
  · obtain ⟨μ, e⟩ := law K gd ns hlen
    refine ⟨[], { cells := [] }, [.lst (ns.map D.int)], rfl, ⟨rfl, List.nodup_nil, fun n a c h => by simp at h, fun n h => by cases h⟩, .cons ?_ .nil, ?_⟩
    · have ds : ∀ ns : List Int, DVs K [] H (ns.map D.int) (ns.map V.int) := fun ns => by
        induction ns with
        | nil => exact .nil
        | cons i r ih => exact .cons dv_int ih
      simp only [DV]
      refine ⟨a, ns.map V.int, rfl, ?_, ds ns⟩
      rcases hS with (h | h) | ⟨ob, its, m', h1, h2, h3, h4, h5, h6⟩
      · rcases hO a with z | ⟨o', xs', z⟩
        · rw [h] at z; cases z
        · rw [h] at z; cases z
      · exact .inl h
      · have e2 : some ob = some _ := (KX a ob h1).symm.trans hobj
        cases e2
        have h4' : Data.seq vs.toArray 0 = Data.seq its m' := h4
        cases h4'
        exact .inr ⟨vs, 0, h1, by simpa using h5, by simpa using h6⟩
    · rw [e]
      exact fun ρ' H' b p f rel dv => bl_ok dv
  · obtain ⟨_, _, _, _, _, _, _, _, _, _, _, _, z⟩ := c
    exact z.elim
end Doz
end
section
namespace Doz
open PySem L2
def mchain (c c' : D → D → Mem → Res Bool) (a b z : ME) : MX Bool := bindM a fun x => bindM b fun y => fun δ μ => (c x y μ).bind fun k μ1 => if k = true then (z δ μ1).bind fun w μ2 => c' y w μ2 else .ok false μ1
section
variable {X : Cx} {hx : Option HX} {W : WX} {a b c : Expr} {ma mb mc : ME} {pos : Pos}
end
def gthen (g1 g2 : MG) : MG := fun d δ μ => match g1 d δ μ with
  | .ok δ1 μ1 => match g2 d δ1 μ1 with
    | .ok δ2 μ2 => .ok δ2 μ2
    | _ => .bad
  | _ => .bad
section
variable {X : Cx} {hx : Option HX} {W : WX} {e t1 t2 t3 : Expr} {m : ME} {g1 g2 g3 : MG} {pos : Pos}
end
def fRev (d : D) (μ : Mem) : Res Its0 := match d with
  | .tup ds => .ok (ds.reverse, fun _ => true) μ
  | .lst ds => .ok (ds.reverse, fun _ => true) μ
  | d => match lstOf μ d with
    | some ds => .ok (ds.reverse, lstIs d ds) μ
    | none => .bad
def mrev (m : ME) : MX Its0 := bindM m fun d => fun _ μ => fRev d μ
theorem rev_get {α : Type} {l : List α} {i : Nat} {x : α} (h : l.reverse[i]? = some x) : i < l.length ∧ l[l.length - 1 - i]? = some x := by
  have hi : i < l.length := by simpa using (List.getElem?_eq_some_iff.mp h).1
  rw [List.getElem?_reverse hi] at h
  exact ⟨hi, h⟩
section
variable {X : Cx} {hx : Option HX} {W : WX} {tg e : Expr} {m : ME}
theorem itr_rev {K : PySem.W.Frag} {ρ0 : List Addr} {H0 : Hp} {d : D} {a : Addr} {ds : List D} {g : Mem → Bool} (dv : DV K ρ0 H0 d (.ref a)) (hg : ∀ μ, g μ = true → lstOf μ d = some ds) : ItR K ρ0 H0 (ds.reverse, g) (Itv K a ds.length) := by
  intro ρ μ H i p f rel gd
  obtain ⟨b, vs, e1, e2, e3⟩ := lstOf_ok rel (dv.mono p f) (hg μ gd)
  cases e1
  refine ⟨fun d hd => ?_, fun hi => ?_⟩
  · obtain ⟨hi, hd⟩ := rev_get hd
    obtain ⟨v, hv, dv'⟩ := e3.get hd
    refine ⟨⟨hi, vs, v, rd_sq e2, hv⟩, fun x H' y => ?_⟩
    obtain ⟨rfl, y⟩ := y
    have : x = v := Option.some.inj ((y vs (rd_sq e2)).symm.trans hv)
    subst this
    exact ⟨Fz.refl _, rel, dv'⟩
  · show ds.length ≤ i
    rw [hi]; simp
theorem itr_revT {K : PySem.W.Frag} {ρ0 : List Addr} {H0 : Hp} {a : Addr} {ds : List D} {g : Mem → Bool} (dv : DV K ρ0 H0 (.tup ds) (.ref a)) : ItR K ρ0 H0 (ds.reverse, g) (_root_.RT.ItvT K a ds.length) := by
  intro ρ μ H i p f rel gd
  obtain ⟨b, vs, e1, e2, e3⟩ := tup_ok (dv.mono p f)
  cases e1
  refine ⟨fun d hd => ?_, fun hi => ?_⟩
  · obtain ⟨hi, hd⟩ := rev_get hd
    obtain ⟨v, hv, dv'⟩ := e3.get hd
    refine ⟨⟨hi, vs, v, e2.sq, hv⟩, fun x H' y => ?_⟩
    obtain ⟨rfl, y⟩ := y
    have : x = v := Option.some.inj ((y vs e2.sq).symm.trans hv)
    subst this
    exact ⟨Fz.refl _, rel, dv'⟩
  · show ds.length ≤ i
    rw [hi]; simp
theorem ri_rev {p pos : Pos} (hm : X.mg "reversed" = none) (he : RE X hx W e m) (hg : Gl X "reversed" := by rfl) (hs : starEach [e] X.env = (false, eval e X.env) :: starEach [] X.env := by rfl) : RI X hx W tg (.Call (.Name "reversed" p) [e] [] pos) (mrev m) := by
  obtain ⟨t, pt, r⟩ := he.ex
  refine ⟨⟨_, _root_.RT.pi_revA hg hm pt hs, fun ρ0 μ0 δ σ H0 Q rel0 env0 ok0 => r ρ0 μ0 δ σ H0 _ rel0 env0 (Okr.bind ok0 fun d μ ρ H v pr fz rel dv ok => ?_)⟩⟩
  unfold fRev at ok
  dsimp only at ok
  split at ok
  · rename_i ds
    obtain ⟨a, vs, rfl, e2, e3⟩ := tup_ok dv
    exact ⟨a, vs, rfl, .inr ⟨e2.sq, by rw [← e3.length]; exact ok ρ H _ (Pre.refl _) (Fz.refl _) rel (itr_revT dv)⟩⟩
  · rename_i ds
    obtain ⟨a, vs, rfl, e2, e3⟩ := lstOf_ok rel dv (ds := ds) rfl
    exact ⟨a, vs, rfl, .inl ⟨rd_sq e2, by rw [← e3.length]; exact ok ρ H _ (Pre.refl _) (Fz.refl _) rel (itr_rev dv fun _ _ => rfl)⟩⟩
  · split at ok
    · rename_i ds hd
      obtain ⟨a, vs, rfl, e2, e3⟩ := lstOf_ok rel dv hd
      exact ⟨a, vs, rfl, .inl ⟨rd_sq e2, by rw [← e3.length]; exact ok ρ H _ (Pre.refl _) (Fz.refl _) rel (itr_rev dv fun _ h => lstIs_eq h)⟩⟩
    · exact ok.elim
end
def numbered (ds : List D) : List D := (ds.zipIdx).map fun p => D.tup [.int (p.2 : Nat), p.1]
def fEnum (ds : List D) (μ : Mem) : Res Its0 := match ds with
  | [d] => match lstOf μ d with
    | some xs => .ok (numbered xs, lstIs d xs) μ
    | none => .bad
  | _ => .bad
end Doz
end
section
namespace RT
open PySem PySem.Spec PyProof.Rows L2 PySem.W
section
variable {prog : Program} {w : World} {A : Around} {E : Value → Shared → Prop} {s : Shared}
theorem extend_rev {R : Result → Shared → Prop} {it l : Addr} {items : Array Value} (hh : A.handled = none) (hit : s.heap.IsRevIter it l ((items.size : Int) - 1)) (hl : s.heap.IsList l items) (hne : l ≠ it) (hn : items.size ≤ sizeLine) (S : Addr) (res : Value) (c₀ : Nat)
    (hSi : S ≠ it) (hSl : S ≠ l) (hS : s.heap.get? S = some { cls := .type "list", data := .seq #[] c₀ })
    (hR : ∀ h' tk acc' c', (∀ b o, b ≠ S → b ≠ it → s.heap.get? b = some o → h'.get? b = some o) → h'.get? S = some { cls := .type "list", dict := none, data := .seq acc' c', slots := #[] } →
      ItemsOf (fun i v => items[items.size - 1 - i]? = some v) acc' items.size → R (.ok (.ret res)) { s with heap := h', toks := tk }) :
    wpAny (model prog w) A.in1 (Builtin.List.listExtendWith (.ref S) (.ref it) res)
      (fun fin s' => match fin with | .done f => R (.ok f) s' | .again c' => c'.quiet = true ∧ codeAny (model prog w) A c' R s') (fun e s' => R (.error e) s') s := by
  have W := (Walks.listRev (prog := prog) (w := w) (A := A.in1) hh it l hne items).toS
  have hSf : S ∉ [it, l] := by simp only [List.mem_cons, List.not_mem_nil, or_false, not_or]; exact ⟨hSi, hSl⟩
  have hT : s.TypeIs (.ref it) "list_reverseiterator" := hit.typeIs
  have h1 : Builtin.List.listSameRef (.ref S) (.ref it) = false := by simp [Builtin.List.listSameRef, hSi]
  unfold Builtin.List.listExtendWith
  refine wpAny_bind (wpAny_typeOf hT ?_)
  rw [if_neg (by rw [h1]; decide)]
  refine wpAny_bind (wpAny_pyIter_revIter hit ?_)
  refine wpAny_bind (wpAny_holding ?_)
  unfold Builtin.List.listLengthHint
  refine wpAny_bind (wpAny_specialOf hT nolen_lri ?_)
  show wpAny _ A.in1 (specialOf (Value.ref it) (Str.ofString "__length_hint__") >>= _) _ _ _
  refine wpAny_bind (wpAny_specialOf hT hint_lri ?_)
  generalize hid : ("list_reverseiterator.__length_hint__" : String) = id0
  wp_delta
  rw [show splitId id0 = some ("list_reverseiterator", "__length_hint__") from by subst hid; decide +kernel]
  subst hid
  refine wpAny_bind (wpAny_isInstance (b := true) hT (by rw [isSubtype_type]; kernel_rfl) ?_)
  refine wpAny_pure ?_
  rw [if_neg (by decide)]
  have e0 : ((items.size : Nat) : Int) - 1 - ((0 : Nat) : Int) = (items.size : Int) - 1 := by omega
  refine wpAny_pure ⟨plainId_quiet F.plain_extend_loop _, codeAny_extend_loopS W hn _ hSf _ items.size 0 _ _ _ rfl (Nat.zero_le _) ⟨Nat.zero_le _, by rw [e0]; exact hit, hl⟩ hS (ItemsOf.nil _) fun s' acc' c' hm hS' hacc => ?_⟩
  rw [Moved.eq_with hm]
  refine hR s'.heap s'.toks acc' c' (fun b o hb hb2 e => hm.heap b o (fun hmem => ?_) e) hS' hacc
  rcases List.mem_cons.mp hmem with e' | hmem
  · exact hb e'
  · exact hb2 (List.mem_singleton.mp hmem)
theorem list_init_rev {R : Result → Shared → Prop} {it l : Addr} {items : Array Value} (hh : A.handled = none) (hit : s.heap.IsRevIter it l ((items.size : Int) - 1)) (hl : s.heap.IsList l items) (hne : l ≠ it) (hn : items.size ≤ sizeLine) (S : Addr)
    (hSi : S ≠ it) (hSl : S ≠ l) (hS : s.heap.get? S = some { cls := .type "list", data := .seq #[] })
    (hR : ∀ h' tk acc' c', (∀ b o, b ≠ S → b ≠ it → s.heap.get? b = some o → h'.get? b = some o) → h'.get? S = some { cls := .type "list", dict := none, data := .seq acc' c', slots := #[] } →
      ItemsOf (fun i v => items[items.size - 1 - i]? = some v) acc' items.size → R (.ok (.ret .none)) { s with heap := h', toks := tk }) :
    wpAny (model prog w) A.in1 (Builtin.«list.__init__» ⟨[.ref S, .ref it], []⟩)
      (fun fin s' => match fin with | .done f => R (.ok f) s' | .again c' => c'.quiet = true ∧ codeAny (model prog w) A c' R s') (fun e s' => R (.error e) s') s := by
  show wpAny _ _ (do let old ← Builtin.List.listItems (.ref S); Builtin.List.listUpdate (.ref S) (fun _ => #[]); letGo old.toList.reverse; Builtin.List.listExtendWith (.ref S) (.ref it) .none) _ _ s
  refine wpAny_bind ?_
  unfold Builtin.List.listItems
  refine wpAny_bind (wpAny_seqItems hS rfl (wpAny_pure ?_))
  show wpAny _ _ (updateSeq S (fun _ => #[]) >>= fun _ => letGo (#[] : Array Value).toList.reverse >>= fun _ => Builtin.List.listExtendWith (.ref S) (.ref it) .none) _ _ s
  refine wpAny_bind (wpAny_updateSeq hS rfl ?_)
  have hS₂ := Heap.get?_update_self (Obj.mapSeq (fun _ => (#[] : Array Value))) hS rfl
  have oth : ∀ b o, b ≠ S → s.heap.get? b = some o → (s.heap.update S (Obj.mapSeq (fun _ => (#[] : Array Value)))).get? b = some o :=
    fun b o hb e => (Heap.get?_update_other _ _ (Ne.symm hb)).trans e
  refine wpAny_bind (wpAny_letGo ?_)
  refine extend_rev hh (hit.at fun o e => oth it o (Ne.symm hSi) e) (hl.at fun o e => oth l o (Ne.symm hSl) e) hne hn S .none _ hSi hSl hS₂ fun h' tk acc' c' hk hS' hacc => ?_
  exact hR h' tk acc' c' (fun b o hb hb2 e => hk b o hb hb2 (oth b o hb e)) hS' hacc
theorem call_list_rev {it l : Addr} {items : Array Value} {Q : Value → Shared → Prop} (hh : A.handled = none) (hit : s.heap.IsRevIter it l ((items.size : Int) - 1)) (hl : s.heap.IsList l items) (hne : l ≠ it) (hn : items.size ≤ sizeLine)
    (hQ : ∀ h' tk acc' c', (∀ b o, b ≠ it → s.heap.get? b = some o → h'.get? b = some o) →
      h'.get? s.heap.objs.size = some { cls := .type "list", dict := none, data := .seq acc' c', slots := #[] } → ItemsOf (fun i v => items[items.size - 1 - i]? = some v) acc' items.size → Q (.ref s.heap.objs.size) { s with heap := h', toks := tk }) :
    wpAny (model prog w) A (call (.type "list") [.ref it]) Q E s := by
  obtain ⟨oi, hoi, _⟩ := id hit
  obtain ⟨ol, hol, _⟩ := id hl
  have hSi : s.heap.objs.size ≠ it := Nat.ne_of_gt (Heap.lt_size hoi)
  have hSl : s.heap.objs.size ≠ l := Nat.ne_of_gt (Heap.lt_size hol)
  refine callType_codes (Q₁ := fun obj s₁ => obj = .ref s.heap.objs.size ∧ s₁ = { s with heap := s.heap.push { cls := .type "list", data := .seq #[] } }) F.called_list (F.typeCall_list_1 _) F.entry_list_init
    (code_list_new _ ⟨rfl, rfl⟩) fun obj s₁ h₁ => ?_
  obtain ⟨rfl, rfl⟩ := h₁
  have hS : (s.heap.push { cls := .type "list", data := .seq #[] }).get? s.heap.objs.size = some { cls := .type "list", data := .seq #[] } := Heap.get?_push_size _ rfl
  refine ⟨⟨_, hS, rfl⟩, F.args_list_init_2 _ _, list_init_rev (A := A.in1) hh (hit.at fun o e => Heap.get?_push_of_some _ e) (hl.push _) hne hn _ hSi hSl hS fun h' tk acc' c' hk hS' hacc => ?_⟩
  exact ⟨rfl, hQ h' tk acc' c' (fun b o hb e => hk b o (Nat.ne_of_lt (Heap.lt_size e)) hb (Heap.get?_push_of_some _ e)) hS' hacc⟩
end
section
variable {X : Cx}
def tLstRev (K : PySem.W.Frag) (te : TE) : TE := fun σ H Q => te σ H fun v H1 => ∃ (a : Addr) (xs : List V), v = .ref a ∧ SqL K H1 a xs ∧ ∀ q, H1 q = none → Q (.ref q) (upd H1 q (.lst xs.reverse))
theorem pe_lstRev {e : Expr} {te : TE} {p p2 pos pos2 : Pos} (hc : X.calm = true) (hg : Gl X "list") (hm : X.mg "list" = none) (hg2 : Gl X "reversed") (hm2 : X.mg "reversed" = none) (he : PE X e te)
    (hs : starEach [e] X.env = (false, eval e X.env) :: starEach [] X.env := by rfl)
    (hs2 : starEach [.Call (.Name "reversed" p2) [e] [] pos2] X.env = (false, eval (.Call (.Name "reversed" p2) [e] [] pos2) X.env) :: starEach [] X.env := by rfl) :
    PE X (.Call (.Name "list" p) [.Call (.Name "reversed" p2) [e] [] pos2] [] pos) (tLstRev X.K te) := by
  refine ⟨fun pins s σ H Q I h => ?_⟩
  refine Call_ (ld_blt I hg hm boot_list (PyProof.Rows.callWith_type1 (args_cons (Call_ (ld_blt I hg2 hm2 PyProof.Rows.boot_reversed (PyProof.Rows.callWith_type1 (args_cons (thn (he.run pins s σ H _ I h) fun u s1 ⟨v, H1, I1, r1, q1⟩ => args_nil ?_) hs) hs rfl))) hs2) hs2 rfl))
  obtain ⟨a, xs, ev, hq, q⟩ := q1
  subst ev
  obtain rfl : u = Value.ref a := r1
  obtain ⟨its, rv, p', hz⟩ := I1.list hq
  refine call_reversed_list p'.isList (args_nil ?_)
  have k0 : ∀ b o, s1.heap.get? b = some o → (s1.heap.push (revObj a ((its.toArray.size : Int) - 1))).get? b = some o := fun b o e => Heap.get?_push_of_some _ e
  have I2 : Inv X pins σ H1 { s1 with heap := s1.heap.push (revObj a ((its.toArray.size : Int) - 1)) } := I1.kept (t' := s1.toks) k0
  obtain ⟨f0, f1, f2, f3, f4, f5⟩ := I1.fpOk (H' := H1) (b := s1.heap.objs.size) (Nat.le_refl _) (I1.hok.fresh (Nat.le_refl _))
  have hl := p'.isList
  obtain ⟨ol, hol, _⟩ := id hl
  have hne : a ≠ s1.heap.objs.size := Nat.ne_of_lt (Heap.lt_size hol)
  have hn : its.toArray.size ≤ sizeLine := by rw [List.size_toArray, ← rv.length]; exact hz
  refine call_list_rev (s := { s1 with heap := s1.heap.push (revObj a ((its.toArray.size : Int) - 1)) }) (I1.ok.hd hc) ⟨_, Heap.get?_push_size _ rfl, rfl, rfl⟩ (hl.push _) hne hn fun h' tk acc c' hk hS hi => ?_
  have I3 : Inv X pins σ H1 { s1 with heap := h', toks := tk } := I2.turned (t' := tk) (fun b o hb e => hk b o hb e) f0 f1 f3 f4 f5
  have hN : (s1.heap.push (revObj a ((its.toArray.size : Int) - 1))).objs.size = s1.heap.objs.size + 1 := Heap.size_push ..
  have nq : H1 (s1.heap.objs.size + 1) = none := I1.hok.fresh (Nat.le_succ _)
  rw [hN] at hS ⊢
  have I4 : Inv X pins σ (upd H1 (s1.heap.objs.size + 1) (.lst xs.reverse)) { s1 with heap := h', toks := tk } :=
    I3.take (h' := h') (t' := tk) (fun b ob _ e => e) (I1.fpOk (Nat.le_succ _) nq) ⟨by rw [List.length_reverse]; exact hz, acc.toList, c', vals_rev rv hi, by rw [Array.toArray_toList]; exact hS⟩
  exact ⟨.ref _, _, I4, rfl, q _ nq⟩
end
end RT
namespace Doz
open PySem L2
def mrevL (m : ME) : MX (List D) := bindM m fun d => fun _ μ => match lstOf μ d with
  | some ds => .ok ds.reverse μ
  | none => .bad
theorem rn_rev {X : Cx} {hx : Option HX} {W : WX} {e : Expr} {m : ME} {p p2 pos pos2 : Pos} (hc : X.calm = true) (hm : X.mg "list" = none) (hm2 : X.mg "reversed" = none) (he : RE X hx W e m) (hg : Gl X "list" := by rfl) (hg2 : Gl X "reversed" := by rfl)
    (hs : starEach [e] X.env = (false, eval e X.env) :: starEach [] X.env := by rfl)
    (hs2 : starEach [.Call (.Name "reversed" p2) [e] [] pos2] X.env = (false, eval (.Call (.Name "reversed" p2) [e] [] pos2) X.env) :: starEach [] X.env := by rfl) :
    RN X hx W (.Call (.Name "list" p) [.Call (.Name "reversed" p2) [e] [] pos2] [] pos) (mrevL m) := by
  obtain ⟨t, pt, r⟩ := he.ex
  refine ⟨⟨_, _root_.RT.pe_lstRev hc hg hm hg2 hm2 pt hs hs2, fun ρ0 μ0 δ σ H0 Q rel0 env0 ok0 => r ρ0 μ0 δ σ H0 _ rel0 env0 (OkN.bind ok0 fun d μ ρ H v pr fz rel dv ok => ?_)⟩⟩
  dsimp only at ok
  split at ok
  · rename_i ds hd
    obtain ⟨a, vs, rfl, e2, e3⟩ := lstOf_ok rel dv hd
    exact ⟨a, vs, rfl, rd_sq e2, fun q hq => OkN.new rel hq e3.reverse ok⟩
  · exact ok.elim
end Doz
end
section
namespace Doz
open PySem L2
open PySem.DozX (ExTxt)
def clsB : Stmt → List Stmt
  | .ClassDef (body := b) .. => b
  | _ => []
structure Cl where
  n_Bed : Addr
  n_Hall : Addr
  n_KeyHall : Addr
  n_World : Addr
  n_Book : Addr
  n_Built : Addr
  n_Plain : Addr
  n_Desk : Addr
  n_DozeError : Addr
  n_NoRoom : Addr
  n_Asleep : Addr
  n_Awake : Addr
  n_BadCount : Addr
  n_SameRoom : Addr
  n_TwoNames : Addr
  n_NoKey : Addr
  n_NotHolder : Addr
  n_Ring : Addr
  n_BadPlan : Addr
  n_NoMove : Addr
  n_TooMany : Addr
  n_NoName : Addr
  n_BadClient : Addr
  n_NoRow : Addr
  n_Stopped : Addr
  n_NoBack : Addr
  fn : Str → Addr
def clOf (K : PySem.W.Frag) : Cl := ⟨He.ga K "Bed", He.ga K "Hall", He.ga K "KeyHall", He.ga K "World", He.ga K "Book", He.ga K "Built", He.ga K "Plain", He.ga K "Desk", He.ga K "DozeError", He.ga K "NoRoom", He.ga K "Asleep", He.ga K "Awake", He.ga K "BadCount", He.ga K "SameRoom", He.ga K "TwoNames", He.ga K "NoKey", He.ga K "NotHolder", He.ga K "Ring", He.ga K "BadPlan", He.ga K "NoMove", He.ga K "TooMany", He.ga K "NoName", He.ga K "BadClient", He.ga K "NoRow", He.ga K "Stopped", He.ga K "NoBack", He.ga K⟩
def noSt : Stmt := .Pass ⟨0, 0, 0, 0⟩
def meth (s : Stmt) (i : Nat) : Stmt := (clsB s).getD i noSt
theorem look_mem {α : Type} : ∀ {l : List (Addr × α)} {C : Addr} {x : α}, l.lookup C = some x → (C, x) ∈ l
  | [], _, _, h => by simp at h
  | (c, y) :: r, C, x, h => by
    rw [List.lookup_cons] at h
    cases hb : C == c with
    | true =>
      rw [hb] at h
      have e1 : C = c := beq_iff_eq.mp hb
      have e2 : y = x := Option.some.inj h
      rw [e1, e2]
      exact List.mem_cons_self
    | false =>
      rw [hb] at h
      exact List.mem_cons_of_mem _ (look_mem h)
theorem mt_nil {X : Cx} {nm : Str} {n : Nat} {ks : List Str} : ∀ p ∈ ([] : List (Addr × MM)), MOk X nm n ks p.1 p.2 := fun _ h => by cases h
theorem mt_cons {X : Cx} {nm : Str} {n : Nat} {ks : List Str} {C : Addr} {mm : MM} {l : List (Addr × MM)} (h : MOk X nm n ks C mm) (t : ∀ p ∈ l, MOk X nm n ks p.1 p.2) : ∀ p ∈ (C, mm) :: l, MOk X nm n ks p.1 p.2 := fun p hp => by
  rcases List.mem_cons.mp hp with e | hp
  · rw [e]; exact h
  · exact t p hp
theorem mt_of {X : Cx} {nm : Str} {n : Nat} {ks : List Str} {l : List (Addr × MM)} (t : ∀ p ∈ l, MOk X nm n ks p.1 p.2) : ∀ C mm, l.lookup C = some mm → MOk X nm n ks C mm := fun C mm h => t (C, mm) (look_mem h)
theorem mok {X : Cx} {nm : Str} {n k j : Nat} {ks : List Str} {C f : Addr} {fd : FuncData} {ps : List Str} {m : MF} {gD : List D → List D → List D} (c : Cls X.K C) (hm : Meth X.K C nm f) (F : FnOk X.prog X.w X.K X.mg X.base (L2.CX X.prog X.w) k f fd ps (spM X.K ps.length m))
    (hr : Room j X.A) (hk : k ≤ j) (hb : Bd X.K fd ps (n + 1) ks gD) : MOk X nm n ks C (fun x ds ez μ => m (gD (x :: ds) ez) μ) := ⟨⟨k, f, fd, ps, m, gD, c, hm, F, hr.mono hk, hb, rfl⟩⟩
theorem ex_of {K : PySem.W.Frag} {c : Value} {l : List (Addr × Bool)} (t : ∀ p ∈ l, PySem.W.exmOne K (.ref p.1) c = some p.2) : ∀ C b, l.lookup C = some b → PySem.W.exmOne K (.ref C) c = some b := fun C b h => t (C, b) (look_mem h)
theorem et_nil {K : PySem.W.Frag} {c : Value} : ∀ p ∈ ([] : List (Addr × Bool)), PySem.W.exmOne K (.ref p.1) c = some p.2 := fun _ h => by cases h
theorem et_cons {K : PySem.W.Frag} {c : Value} {C : Addr} {b : Bool} {l : List (Addr × Bool)} (h : PySem.W.exmOne K (.ref C) c = some b) (t : ∀ p ∈ l, PySem.W.exmOne K (.ref p.1) c = some p.2) : ∀ p ∈ (C, b) :: l, PySem.W.exmOne K (.ref p.1) c = some p.2 := fun p hp => by
  rcases List.mem_cons.mp hp with e | hp
  · rw [e]; exact h
  · exact t p hp
theorem xt_of {K : PySem.W.Frag} {fI C : Addr} {b : Bool} {l : List (Addr × Bool)} (t : ∀ p ∈ l, ExTxt K p.1 fI) (h : l.lookup C = some b) : ExTxt K C fI := t (C, b) (look_mem h)
theorem xt_nil {K : PySem.W.Frag} {fI : Addr} : ∀ p ∈ ([] : List (Addr × Bool)), ExTxt K p.1 fI := fun _ h => by cases h
theorem xt_cons {K : PySem.W.Frag} {fI C : Addr} {b : Bool} {l : List (Addr × Bool)} (h : ExTxt K C fI) (t : ∀ p ∈ l, ExTxt K p.1 fI) : ∀ p ∈ (C, b) :: l, ExTxt K p.1 fI := fun p hp => by
  rcases List.mem_cons.mp hp with e | hp
  · rw [e]; exact h
  · exact t p hp
theorem na_nil {K : PySem.W.Frag} {f : Str} : ∀ C ∈ ([] : List Addr), NoAttr K C f := fun _ h => by cases h
theorem na_cons {K : PySem.W.Frag} {f : Str} {C : Addr} {l : List Addr} (h : NoAttr K C f) (t : ∀ C ∈ l, NoAttr K C f) : ∀ C' ∈ C :: l, NoAttr K C' f := fun C' hp => by
  rcases List.mem_cons.mp hp with e | hp
  · rw [e]; exact h
  · exact t C' hp
end Doz
end
section
namespace Doz
open PySem L2
inductive Pk where
  | p (i : Nat) | k (j : Nat) | d (j : Nat) | m (j : Nat)
def pick {α : Type} (us its mv ws : List α) : List Pk → List α
  | [] => []
  | .p i :: r => us[i]?.toList ++ pick us its mv ws r
  | .k j :: r => ws[j]?.toList ++ pick us its mv ws r
  | .d j :: r => its[j]?.toList ++ pick us its mv ws r
  | .m j :: r => mv[j]?.toList ++ pick us its mv ws r
theorem vals_opt {vs : List V} {us : List Value} (r : Vals vs us) (i : Nat) : Vals vs[i]?.toList us[i]?.toList := by
  cases e : vs[i]? with
  | none => rw [r.none_of e]; exact .nil
  | some v =>
    obtain ⟨u, e2, ru⟩ := r.get e
    rw [e2]; exact .cons ru .nil
theorem vals_pick {vs dz mz zs : List V} {us its mv ws : List Value} (r1 : Vals vs us) (r2 : Vals dz its) (r3 : Vals mz mv) (r4 : Vals zs ws) : ∀ sel : List Pk, Vals (pick vs dz mz zs sel) (pick us its mv ws sel)
  | [] => .nil
  | .p i :: r => (vals_opt r1 i).append (vals_pick r1 r2 r3 r4 r)
  | .k i :: r => (vals_opt r4 i).append (vals_pick r1 r2 r3 r4 r)
  | .d i :: r => (vals_opt r2 i).append (vals_pick r1 r2 r3 r4 r)
  | .m i :: r => (vals_opt r3 i).append (vals_pick r1 r2 r3 r4 r)
section
variable {K : PySem.W.Frag} {ρ : List Addr} {H : Hp}
theorem dvs_opt {ds : List D} {vs : List V} (r : DVs K ρ H ds vs) (i : Nat) : DVs K ρ H ds[i]?.toList vs[i]?.toList := by
  cases e : ds[i]? with
  | none =>
    have : vs[i]? = none := by
      rw [List.getElem?_eq_none_iff] at e ⊢
      rw [← r.length]; exact e
    rw [this]; exact .nil
  | some d =>
    obtain ⟨v, e2, rv⟩ := r.get e
    rw [e2]; exact .cons rv .nil
theorem dvs_pick {ds dz mz zs : List D} {us its mv ws : List V} (r1 : DVs K ρ H ds us) (r2 : DVs K ρ H dz its) (r3 : DVs K ρ H mz mv) (r4 : DVs K ρ H zs ws) : ∀ sel : List Pk, DVs K ρ H (pick ds dz mz zs sel) (pick us its mv ws sel)
  | [] => .nil
  | .p i :: r => (dvs_opt r1 i).app (dvs_pick r1 r2 r3 r4 r)
  | .k i :: r => (dvs_opt r4 i).app (dvs_pick r1 r2 r3 r4 r)
  | .d i :: r => (dvs_opt r2 i).app (dvs_pick r1 r2 r3 r4 r)
  | .m i :: r => (dvs_opt r3 i).app (dvs_pick r1 r2 r3 r4 r)
end
section
variable {K : PySem.W.Frag} {x qual : Str} {params : Arguments} {body : List Stmt} {scope : Scope} {dvs : List V} {kws : List (Str × V)} {f : Addr} {fd : FuncData} {ps : List Str} {n : Nat} {ks : List Str} {gD : List D → List D → List D}
theorem bd_kM (F : FunD K x qual params body scope [] kws f fd) (ms : List (Str × V)) (mD : List D) (sel : List Pk) (hk : kws ≠ []) (hms : ∀ q ∈ ms, q ∈ kws) (hd : ∀ ρ H, DVs K ρ H mD (ms.map (·.2)))
    (h : ∀ (A : Addr) (doc pm : Value) (an : Option Addr) (cdv ct : Value) (us mv ws : List Value), us.length = n → mv.length = ms.length → ws.length = ks.length →
      KwChain A ((ms.map (·.1)).zip mv) (bindArgs (PySem.W.fnOf x qual params body scope .none (.ref A) doc pm an cdv ct) ⟨us, ks.zip ws⟩) (ps.zip (pick us [] mv ws sel)))
    (hg : ∀ ds es : List D, ds.length = n → es.length = ks.length → gD ds es = pick ds [] mD es sel ∧ (gD ds es).length = ps.length) : Bd K fd ps n ks gD := by
  obtain ⟨mv, kb⟩ := FunD.kbinds0 F n ks ms (fun us mv ws => pick us [] mv ws sel) hk hms (fun r1 r2 r3 => vals_pick r1 .nil r2 r3 sel) h
  refine ⟨⟨_, _, kb, fun ρ H ds vs es us h1 h2 l1 l2 => ?_⟩⟩
  obtain ⟨e1, e2⟩ := hg ds es l1 l2
  exact ⟨by rw [e1]; exact dvs_pick h1 .nil (hd ρ H) h2 sel, e2⟩
end
theorem dv_em {K : PySem.W.Frag} {a : Addr} (h : PySem.DozX.emB K a = true) (ρ : List Addr) (H : Hp) : DV K ρ H (.tup []) (.ref a) := by
  obtain ⟨o, its, n, h1, h2, h3, h4⟩ := PySem.DozX.emB_ok h
  simp only [DV]
  have e : its.toList = [] := by
    have : its = #[] := Array.eq_empty_of_size_eq_zero h4
    rw [this]
  exact ⟨a, [], rfl, .inr ⟨o, its, n, h1, h2, h3, by rw [h4]; exact Nat.zero_le _, by rw [e]; exact .nil⟩, .nil⟩
end Doz
end
section
namespace Doz
open PySem L2
def mget1 (mo mk : ME) : ME := bindM mo fun d => fun δ μ => match dictOf μ d with
  | some _ => (mk δ μ).bind fun k μ1 => match dfind μ1 d k with
    | some o => .ok (o.getD .non) μ1
    | none => .bad
  | none => .bad
def mget2 (mo mk mz : ME) : ME := bindM mo fun d => fun δ μ => match dictOf μ d with
  | some _ => (mk δ μ).bind fun k μ1 => (mz δ μ1).bind fun z μ2 => match dfind μ2 d k with
    | some o => .ok (o.getD z) μ2
    | none => .bad
  | none => .bad
section
variable {X : Cx} {hx : Option HX} {W : WX} {o e f : Expr} {mo me mf : ME} {apos cpos pos tpos : Pos}
def mpop1 (mo mk : ME) : ME := bindM mo fun d => fun δ μ => match dictOf μ d with
  | some _ => (mk δ μ).bind fun k μ1 => match dcell μ1 d, keyOf k with
    | some (n, kds), some key => match kget kds key with
      | some v => .ok v (μ1.set n (.dK (kdrop kds key)))
      | none => .bad
    | _, _ => .bad
  | none => .bad
def insAt (μ : Mem) (d : D) : Option (Nat × Addr × List (Str × D)) := match d with
  | .loc n => match μ.cells[n]? with
    | some (.ins C fs) => some (n, C, fs)
    | _ => none
  | _ => none
def mfaug (g : Int → Int → Int) (f : Str) (mo me : ME) : MS := ofE mo fun d => fun δ μ => match insAt μ d with
  | some (_, C, fs) => match fs.lookup f with
    | some (.int i) => ofE me (fun y => fun δ μ1 => match insAt μ1 d, y with
      | some (n, C', fs'), .int j => if C' = C ∧ (fs'.lookup f).isSome = true ∧ fs'.length < 1000 then .nx δ (μ1.set n (.ins C' (putFD f (.int (g i j)) fs'))) else .bad
      | _, _ => .bad) δ μ
    | _ => .bad
  | none => .bad
abbrev MP := List (ME × ME)
def mpairs : MP → MX (List (D × D))
  | [] => fun _ μ => .ok [] μ
  | (mk, mv) :: r => bindM mk fun k => bindM mv fun v => bindM (mpairs r) fun ps => fun _ μ => .ok ((k, v) :: ps) μ
def keysOf : List (D × D) → Option (List (Key × D))
  | [] => some []
  | (k, v) :: r => match keyOf k, keysOf r with
    | some k, some ks => some ((k, v) :: ks)
    | _, _ => none
def kmerge (kvs more : List (Key × D)) : List (Key × D) := more.foldl (fun acc kv => kput acc kv.1 kv.2) kvs
def mdisp (ps : MP) : ME := bindM (mpairs ps) fun kvs => fun _ μ => match keysOf kvs with
  | some kds => if kds.length ≤ 15 then .ok (.loc μ.cells.length) (μ.push (.dK (kmerge [] kds))) else .bad
  | none => .bad
def DV2s (K : PySem.W.Frag) : Rl (List (D × D)) (List (V × V)) := fun ρ H a b => Paired (fun p q => DV K ρ H p.1 q.1 ∧ DV K ρ H p.2 q.2) a b
structure RPs (X : Cx) (hx : Option HX) (W : WX) (pos : Pos) (ks : List (Option Expr)) (vs : List Expr) (ps : MP) : Prop where
  ex : ∃ trs, PPs X pos ks vs trs ∧ Ref X.K hx W (DV2s X.K) (fun σ H Q => tPairs trs σ H Q) (mpairs ps)
end
end Doz
end
section
namespace Doz
open PySem L2
structure Fz1 (H H' : Hp) : Prop where
  frzx : ∀ b o φ, H b = some (.frz o (.ext φ)) → H' b = some (.frz o (.ext φ))
  tups : ∀ b xs, H b = some (.tup xs) → H' b = some (.tup xs)
  frzl : ∀ b o xs, H b = some (.frz o (.lst xs)) → H' b = some (.frz o (.lst xs))
mutual
theorem DV.mono1 {K : PySem.W.Frag} {ρ : List Addr} {H H' : Hp} (f : Fz1 H H') : ∀ (d : D) (v : V), DV K ρ H d v → DV K ρ H' d v
  | .non, _, h => by simpa only [DV] using h
  | .bl _, _, h => by simpa only [DV] using h
  | .int _, _, h => by simpa only [DV] using h
  | .str _, _, h => by simpa only [DV] using h
  | .tup ds, _, h => by
    simp only [DV] at h ⊢
    obtain ⟨a, vs, e, h1, h2⟩ := h
    exact ⟨a, vs, e, h1.elim (fun h => .inl (f.tups a vs h)) .inr, DVs.mono1 f ds vs h2⟩
  | .lst ds, _, h => by
    simp only [DV] at h ⊢
    obtain ⟨a, vs, e, h1, h2⟩ := h
    exact ⟨a, vs, e, h1.elim (fun ⟨o, h⟩ => .inl ⟨o, f.frzl a o vs h⟩) .inr, DVs.mono1 f ds vs h2⟩
  | .loc n, _, h => by simpa only [DV] using h
  | .sta _, _, h => by simpa only [DV] using h
  | .ty _, _, h => by simpa only [DV] using h
theorem DVs.mono1 {K : PySem.W.Frag} {ρ : List Addr} {H H' : Hp} (f : Fz1 H H') : ∀ (ds : List D) (vs : List V), DVs K ρ H ds vs → DVs K ρ H' ds vs
  | [], _, h => by simpa only [DVs] using h
  | d :: ds, _, h => by
    simp only [DVs] at h ⊢
    obtain ⟨v, r, e, h1, h2⟩ := h
    exact ⟨v, r, e, DV.mono1 f d v h1, DVs.mono1 f ds r h2⟩
end
theorem KDs.mono1 {κ : Type} {K : PySem.W.Frag} {ρ : List Addr} {H H' : Hp} (f : Fz1 H H') {a : List (κ × D)} {b : List (κ × V)} (h : KDs K ρ H a b) : KDs K ρ H' a b :=
  Paired.mapP h fun _ _ z => ⟨z.1, DV.mono1 f _ _ z.2⟩
theorem CellR.mono1 {K : PySem.W.Frag} {ρ : List Addr} {H H' : Hp} {l : Bool} {a : Addr} {c : Cell} (f : Fz1 H H') (e : H' a = H a) (h : CellR K ρ H l a c) : CellR K ρ H' l a c := by
  cases c with
  | lst ds => obtain ⟨vs, h, r⟩ := h; exact ⟨vs, e.trans h, r.mono1 f⟩
  | dK kds =>
    obtain ⟨vs, h, r⟩ := h
    exact ⟨vs, by unfold Lk at h ⊢; rw [e]; exact h, KDs.mono1 f r⟩
  | dT kds =>
    obtain ⟨vs, h, r⟩ := h
    exact ⟨vs, by unfold Lk at h ⊢; rw [e]; exact h, KDs.mono1 f r⟩
  | ins C fs => obtain ⟨dx, vs, h, r, q⟩ := h; exact ⟨dx, vs, e.trans h, KDs.mono1 f r, q⟩
  | dead => obtain ⟨o, h, z⟩ := h; exact ⟨o, e.trans h, z⟩
def lockM (n : Nat) (μ : Mem) : Mem := { μ with lk := n :: μ.lk }
section
variable {K : PySem.W.Frag} {ρ ρ' : List Addr} {μ μ1 : Mem} {H H' : Hp} {n : Nat} {a : Addr} {kds : List (Key × D)} {kvs : List (Key × V)} {o : Obj} {l : List Nat}
theorem Rel.inj (rel : Rel K ρ μ H) {m : Nat} {b : Addr} (h : ρ[n]? = some a) (e : ρ[m]? = some b) (hm : m ≠ n) : b ≠ a := fun z => hm (by
  subst z
  obtain ⟨l1, e3⟩ := List.getElem?_eq_some_iff.mp e
  obtain ⟨l2, e4⟩ := List.getElem?_eq_some_iff.mp h
  exact (List.getElem_inj rel.nd).mp (e3.trans e4.symm))
theorem lkd_cons (m n : Nat) (h : m ≠ n) (l : List Nat) (cs : List Cell) : ({ cells := cs, lk := n :: l } : Mem).lkd m = ({ cells := cs, lk := l } : Mem).lkd m := by
  unfold Mem.lkd
  rw [List.contains_cons]
  have : (m == n) = false := beq_eq_false_iff_ne.mpr h
  rw [this, Bool.false_or]
theorem Rel.lock (rel : Rel K ρ μ H) (hn : ρ[n]? = some a) (hc : μ.cells[n]? = some (.dK kds)) (hl : μ.lkd n = false) : ∃ kvs, H a = some (.dK kvs) ∧ KDs K ρ H kds kvs ∧ ∀ o, Rel K ρ (lockM n μ) (upd H a (.frz o (.dK kvs))) ∧ Fz0 H (upd H a (.frz o (.dK kvs))) := by
  obtain ⟨kvs, h1, h2⟩ := rel.cell n a _ hn hc
  rw [hl] at h1
  have h1 : H a = some (.dK kvs) := h1
  refine ⟨kvs, h1, h2, fun o => ?_⟩
  have f : Fz0 H (upd H a (.frz o (.dK kvs))) := Fz0.mut h1 (fun _ => HO.noConfusion) (fun _ _ => HO.noConfusion)
  refine ⟨⟨rel.len, rel.nd, fun m b c e1 e2 => ?_, fun m hm => ?_⟩, f⟩
  · by_cases hmn : m = n
    · subst hmn
      rw [hn] at e1
      cases e1
      have e2 : μ.cells[m]? = some c := e2
      rw [hc] at e2
      cases e2
      have : (lockM m μ).lkd m = true := by simp [lockM, Mem.lkd]
      rw [this]
      exact ⟨kvs, ⟨o, upd_same⟩, h2.mono0 (Pre.refl _) f⟩
    · have hb := rel.inj hn e1 hmn
      have : (lockM n μ).lkd m = μ.lkd m := lkd_cons m n hmn μ.lk μ.cells
      rw [this]
      exact (rel.cell m b c e1 e2).mono0 (Pre.refl _) f (upd_ne hb)
  · rcases List.mem_cons.mp hm with h | h
    · subst h; exact (List.getElem?_eq_some_iff.mp hc).1
    · exact rel.lkb m h
end
theorem EnvR.mono1 {K : PySem.W.Frag} {ρ : List Addr} {H : Hp} {hx : Option HX} {δ : DEnv} {σ : St} {a : Addr} {u : HO} (e : EnvR K ρ H hx δ σ) (f : Fz1 H (upd H a u)) (hm : a ∈ ρ) : EnvR K ρ (upd H a u) hx δ σ :=
  ⟨e.len, fun i d h => let ⟨v, h1, h2⟩ := e.get i d h; ⟨v, h1, DV.mono1 f _ _ h2⟩, fun q h => by
    obtain ⟨h1, h2, v, h3, h4⟩ := e.exn q h
    exact ⟨h1, h2, v, (upd_ne (show q.dd ≠ a from fun z => h2 (by rw [z]; exact hm))).trans h3, DV.mono1 f _ _ h4.1, fun oe z => f.frzx _ _ _ (h4.2 oe z)⟩⟩
def isDK (μ : Mem) (n : Nat) : Bool := match μ.cells[n]? with
  | some (.dK _) => true
  | _ => false
theorem isDK_ok {μ : Mem} {n : Nat} (h : isDK μ n = true) : ∃ kds, μ.cells[n]? = some (.dK kds) := by
  unfold isDK at h
  split at h
  · rename_i kds e; exact ⟨kds, e⟩
  · cases h
theorem PS.or {X : Cx} {st : Stmt} {t t' : TS} (h : PS X st t) (h' : PS X st t') : PS X st (fun Dn σ H => t Dn σ H ∨ t' Dn σ H) :=
  ⟨fun pins s σ H Dn I q => q.elim (h.run pins s σ H Dn I) (h'.run pins s σ H Dn I)⟩
section
variable {X : Cx} {hx : Option HX} {W : WX} {st : Stmt} {ms : MS} {e : Expr} {m : MX (List D)}
end
def mkeys (m : ME) : MX Its0 := bindM m fun d => fun _ μ => match d with
  | .loc n => match μ.cells[n]? with
    | some (.dK kds) => if μ.lkd n = true then .ok (kds.map fun k => keyD k.1, fun _ => true) μ else .bad
    | _ => .bad
  | _ => .bad
end Doz
end
section
namespace Doz
open PySem L2
def sortBy {α : Type} (xs : List (α × D)) : List α := (xs.mergeSort (PySem.W.dataLe false fun b => toPy b.2)).map (·.1)
def alikeB (ps : List D) : Bool := ps.all fun p => ps.all fun q => PySem.W.alike (toPy p) (toPy q)
def tupB : D → Bool
  | .tup (_ :: _) => true
  | _ => false
def othB : D → Bool
  | .non => false
  | .tup _ => false
  | _ => true
def sortB (ps : List D) : Bool := ps.all tupB || ps.all othB
def keysOk (ps : List D) : Bool := D.pures ps && (alikeB ps && (sortB ps && ps.all fun p => decide ((toPy p).depth ≤ 64)))
def fSortN (ds : List D) (μ : Mem) : Res (List D) := match ds with
  | [d] => match lstOf μ d with
    | some xs => match xs.mapM (rsv μ 8) with
      | some ps => if keysOk ps = true then .ok (sortBy (xs.zip ps)) μ else .bad
      | none => .bad
    | none => .bad
  | _ => .bad
end Doz
end
section
namespace Doz
open PySem L2
def intsOf : List (Key × D) → Option (List Int)
  | [] => some []
  | (.inl i, _) :: r => (intsOf r).map (i :: ·)
  | _ => none
def txtsOf : List (Key × D) → Option (List Str)
  | [] => some []
  | (.inr x, _) :: r => (txtsOf r).map (x :: ·)
  | _ => none
def sortInts (ns : List Int) : List Int := ns.mergeSort fun a b => decide (a ≤ b)
def sortTxts (ns : List Str) : List Str := ns.mergeSort fun a b => decide (a.cps.toList ≤ b.cps.toList)
theorem sortInts_unique {ns ys : List Int} (h : ys.Perm ns) (hp : ys.Pairwise (· ≤ ·)) : ys = sortInts ns := by
  have h2 : (sortInts ns).Pairwise (fun a b => decide (a ≤ b) = true) := List.pairwise_mergeSort (fun a b c h1 h2 => by simp at *; omega) (fun a b => by simp; omega) ns
  have h3 : (sortInts ns).Pairwise (· ≤ ·) := h2.imp fun h => by simpa using h
  exact List.Perm.eq_of_pairwise (fun x y _ _ h1 h2 => Int.le_antisymm h1 h2) hp h3 (h.trans (List.mergeSort_perm _ _).symm)
def fSortDN (ds : List D) (μ : Mem) : Res (List D) := match ds with
  | [d] => match dictOf μ d with
    | some kds => match intsOf kds, txtsOf kds with
      | some ns, _ => if ns.length ≤ sizeLine then .ok ((sortInts ns).map D.int) μ else .bad
      | none, some xs => if xs.length < 64 then .ok ((sortTxts xs).map D.str) μ else .bad
      | none, none => .bad
    | none => fSortN [d] μ
  | _ => .bad
end Doz
end
section
namespace PySem
namespace DozX
open PySem.W PySem.Calls PyProof.Rows L2
structure KyS (X : Cx) (H H' : Hp) (s0 s : Shared) : Prop where
  os : s.os = s0.os
  bare : AllBare s.gens
  un : Un (frs X.stack) [] H H' s0.heap s.heap
  hok : HOk X.prog X.w H' s.heap
section
variable {X : Cx} {pins : List (Addr × Obj)} {σ : L2.St} {H : Hp} {s0 : Shared} {A : Around} {E : Value → Shared → Prop} {P : PySem.Fin → Shared → Prop} {a kS : Addr} {vs : List Value} {e1 : Nat} {kz : List PyData} {f : Value}
end
end DozX
end PySem
end
section
namespace Doz
open PySem L2
def PuR {α : Type} (r : Mem → Res α) : Prop := ∀ μ a μ', r μ = .ok a μ' → μ' = μ
def PuF (m : MF) : Prop := ∀ ds, PuR (m ds)
structure KOk (X : Cx) (nm : Str) (C : Addr) (m : MF) : Prop where
  ex : ∃ k f fd ps, Cls X.K C ∧ BMeth X.K C nm f ∧ FnOk X.prog X.w X.K X.mg X.base (L2.CX X.prog X.w) k f fd ps (spM X.K ps.length m) ∧ Room (k + 2) X.A ∧ Bd X.K fd ps 2 [] (fun ds _ => ds) ∧ PuF m
def keyL (m : MF) (d : D) (μ : Mem) (x : D) : Option D := match m [d, x] μ with
  | .ok k _ => some k
  | _ => none
def msortK (nm : Str) (T : Addr → Option MF) (me mo : ME) : MX (List D) := bindM me fun xs => bindM mo fun d => fun _ μ => match lstOf μ xs, insOf μ d with
  | some ds, some (C, fs) => if noFld fs nm = true then match T C with
      | some m => match ds.mapM (keyL m d μ) with
        | some ks => match ks.mapM (rsv μ 8) with
          | some ps => if keysOk ps = true then .ok (sortBy (ds.zip ps)) μ else .bad
          | none => .bad
        | none => .bad
      | none => .bad
    else .bad
  | _, _ => .bad
section
variable {X : Cx} {hx : Option HX} {W : WX} {e o : Expr} {nm : Str} {me mo : ME} {p pos apos kpos : Pos}
end
end Doz
end
section
namespace Doz
open PySem L2
def t_x__law_source (c : Cl) : MS := (mseq (masg (mC (.int 0)) (gset 2))
    (mseq (masg (mC (.int 0)) (gset 3))
    (mseq (mifS (mcmp cGt (mcall fLen (mcons (mvar 0) mnil)) (mC (.int 0))) (masg (mop fIx (mvar 0) (mop fMod (mvar 1) (mcall fLen (mcons (mvar 0) mnil)))) (gset 2)) mnx)
    (mseq (mifS (mand (mcmp cLt (mvar 1) (mcall fLen (mcons (mvar 0) mnil))) (mcmp cGe (mvar 2) (mop fPow (mC (.int 10)) (mC (.int 18))))) (masg (mvar 2) (gset 3)) mnx)
    (mret (mlc (mlst (mcons (mvar 3) (mcons (mop fAdd (mop fAdd (mop fMod (mvar 2) (mC (.int 2147483647))) (mop fMul (mC (.int 7919000)) (mvar 1))) (mC (.int 104729))) (mcons (mC (.int 0)) mnil))))))))))
def m_x__law_source (c : Cl) : MF := runB 4 (t_x__law_source c)
def t_x__law_draw (c : Cl) : MS := (mseq (masg (mop fAdd (mop fIx (mvar 0) (mC (.int 2))) (mC (.int 1))) (gsub (mvar 0) (mC (.int 2))))
    (mseq (mifS (mcmp cGt (mop fIx (mvar 0) (mC (.int 0))) (mC (.int 0))) (mseq (masg (mop fMod (mop fIx (mvar 0) (mC (.int 0))) (mvar 1)) (gset 3))
    (mseq (masg (mop fDiv (mop fIx (mvar 0) (mC (.int 0))) (mvar 1)) (gsub (mvar 0) (mC (.int 0))))
    (mret (mvar 3)))) mnx)
    (mseq (masg (mop fMod (mop fPow (mop fAdd (mop fIx (mvar 0) (mC (.int 1))) (mop fMul (mC (.int 7919)) (mop fIx (mvar 0) (mC (.int 2))))) (mC (.int 5))) (mC (.int 2147483647))) (gset 2))
    (mret (mop fMod (mop fDiv (mop fMod (mop fMul (mop fAdd (mvar 2) (mop fIx (mvar 0) (mC (.int 2)))) (mC (.int 40692))) (mC (.int 2147483629))) (mC (.int 16))) (mvar 1))))))
def m_x__law_draw (c : Cl) : MF := runB 4 (t_x__law_draw c)
def t_x__law_names (c : Cl) : MS := (mseq (masg (mC (.str ("abcdefghijklmnopqrstuvwxyz" : Str))) (gset 2))
    (mseq (masg (mlc (mlst mnil)) (gset 3))
    (mseq (masg (mC (.str ("" : Str))) (gset 4))
    (mseq (masg (mbl (mcmp cEqA (mfn 2 0 (fun ds _ => ds) (m_x__law_draw c) (mpos (mcons (mvar 0) (mcons (mC (.int 2)) mnil)))) (mC (.int 1)))) (gset 5))
    (mseq (mfor (mcall fRng1 (mcons (mvar 1) mnil)) (gset 6) (mseq (mifS (mor (mnot (masB (mvar 5))) (mcmp cEqA (mvar 6) (mC (.int 0)))) (masg (mmeth tyS fJoin (mC (.str ("" : Str))) (mcons (mfz (mcomp [10] (mcall fRng1 (mcons (mfn 2 0 (fun ds _ => ds) (m_x__law_draw c) (mpos (mcons (mvar 0) (mcons (mC (.int 7)) mnil)))) mnil)) (gset 10) myes (mop fIx (mvar 2) (mfn 2 0 (fun ds _ => ds) (m_x__law_draw c) (mpos (mcons (mvar 0) (mcons (mC (.int 26)) mnil))))))) mnil)) (gset 4)) mnx)
    (mseq (masg (mfn 2 0 (fun ds _ => ds) (m_x__law_draw c) (mpos (mcons (mvar 0) (mcons (mop fAdd (mcall fLen (mcons (mvar 4) mnil)) (mC (.int 1))) mnil)))) (gset 7))
    (mseq (masg (mfn 2 0 (fun ds _ => ds) (m_x__law_draw c) (mpos (mcons (mvar 0) (mcons (mC (.int 26)) mnil)))) (gset 8))
    (mseq (masg (mC (.str ("" : Str))) (gset 9))
    (mseq (mfor (mcall fRng1 (mcons (mC (.int 26)) mnil)) (gset 10) (mseq (masg (mop fAdd (mop fAdd (mslice fSl (mvar 4) mnopart (mpart (mvar 7))) (mop fIx (mvar 2) (mop fMod (mop fAdd (mvar 8) (mvar 10)) (mC (.int 26))))) (mslice fSl (mvar 4) (mpart (mvar 7)) mnopart)) (gset 11))
    (mifS (mand (mcmp cEqA (mvar 9) (mC (.str ("" : Str)))) (mcmp cNotIn (mvar 11) (mvar 3))) (masg (mvar 11) (gset 9)) mnx)))
    (mdrop (mmeth tyL fAppend (mvar 3) (mcons (mvar 9) mnil)))))))))
    (mretFz (mvar 3)))))))
def m_x__law_names (c : Cl) : MF := runB 12 (t_x__law_names c)
def t_x__law_number (c : Cl) : MS := (mseq (masg (mfn 2 0 (fun ds _ => ds) (m_x__law_draw c) (mpos (mcons (mvar 0) (mcons (mC (.int 6)) mnil)))) (gset 1))
    (mseq (mifS (mcmp cEqA (mvar 1) (mC (.int 4))) (mret (mfn 2 0 (fun ds _ => ds) (m_x__law_draw c) (mpos (mcons (mvar 0) (mcons (mop fPow (mC (.int 10)) (mC (.int 60))) mnil))))) mnx)
    (mseq (mifS (mcmp cEqA (mvar 1) (mC (.int 5))) (mret (mop fSub (mC (.int 0)) (mfn 2 0 (fun ds _ => ds) (m_x__law_draw c) (mpos (mcons (mvar 0) (mcons (mop fPow (mC (.int 10)) (mC (.int 60))) mnil)))))) mnx)
    (mret (mop fSub (mfn 2 0 (fun ds _ => ds) (m_x__law_draw c) (mpos (mcons (mvar 0) (mcons (mC (.int 4)) mnil)))) (mC (.int 1)))))))
def m_x__law_number (c : Cl) : MF := runB 2 (t_x__law_number c)
end Doz
end
section
namespace Doz
open PySem L2
section
variable {X : Cx} {hx : Option HX} {W : WX} {a b c : Expr} {ma mb mc : ME} {pos : Pos}
def mchainV (c c' : D → D → Mem → Res Bool) (a b z : ME) : ME := bindM a fun x => bindM b fun y => fun δ μ => (c x y μ).bind fun k μ1 => if k = true then (z δ μ1).bind fun w μ2 => (c' y w μ2).bind fun b μ3 => .ok (.bl b) μ3 else .ok (.bl false) μ1
def maug (g : Int → Int → Int) (i : Nat) (me : ME) : MS := fun δ μ => match δ[i]? with
  | some (some (.int x)) => ofE me (fun d => match d with
    | .int y => fun δ μ => .nx (δ.set i (some (.int (g x y)))) μ
    | _ => fun _ _ => .bad) δ μ
  | _ => .bad
end
section
variable {K : PySem.W.Frag} {ρ : List Addr} {μ : Mem} {H : Hp}
def fPop (d : D) (xs : List D) (μ : Mem) : Res D := match xs with
  | [] => match lcell μ d with
    | some (n, ds) => match ds[ds.length - 1]? with
      | some y => .ok y (μ.set n (.lst ds.dropLast))
      | none => .bad
    | none => .bad
  | _ => .bad
end
end Doz
end
section
namespace Doz
open PySem PySem.Spec PyProof.Rows
section
variable {prog : Program} {w : World} {A : Around} {E : Value → Shared → Prop} {s : Shared}
end
end Doz
namespace Doz
open PySem L2 PyProof.Rows
section
variable {X : Cx} {hx : Option HX} {W : WX} {pos : Pos}
def gstar (n i : Nat) (gs : MGs) : MG := fun d δ μ => match d with
  | .tup ds => if n ≤ ds.length + 1 then match gs (ds.take i ++ [.lst ((ds.drop i).take (ds.length - (n - 1)))] ++ ds.drop (ds.length - (n - 1 - i))) δ μ with
      | .ok δ1 μ1 => .ok δ1 μ1
      | _ => .bad
    else .bad
  | _ => .bad
end
end Doz
end
section
namespace Doz
open PySem PySem.Spec PyProof.Rows
section
variable {prog : Program} {w : World} {A : Around} {E : Value → Shared → Prop} {s : Shared}
end
end Doz
namespace Doz
open PySem L2 PyProof.Rows
section
variable {X : Cx} {hx : Option HX} {W : WX} {pos : Pos}
end
end Doz
end
section
namespace Doz
open PySem PySem.Spec PyProof.Rows L2
section
variable {X : Cx}
end
section
variable {K : PySem.W.Frag} {ρ : List Addr} {μ : Mem} {H : Hp}
end
end Doz
end
section
namespace Doz
open PySem PySem.Spec PyProof.Rows L2
section
variable {kx vx t0 i0 t1 i1 : Expr} {c0 c1 : List Expr} {sc : Scope} {ps : Pos}
end
section
variable {prog : Program} {w : World} {A : Around} {R : Result → Shared → Prop} {s : Shared} {kx vx t0 i0 t1 i1 : Expr} {c0 c1 : List Expr} {sc : Scope} {ps : Pos} {it acc : Value} {Da : Addr} {env : Env}
end
section
variable {X : Cx}
abbrev InB (X : Cx) (sc : Scope) (P : Cx → Prop) : Prop := ∀ (s : Shared) (H : Hp) (C : Addr) (cl : List (Str × Addr)) (fp : List Addr), P (X.blk s H sc (compEnvC sc cl C X.env) fp)
variable {kx vx t0 i0 t1 i1 : Expr} {c0 c1 : List Expr} {sc : Scope} {ps : Pos} {own : List (Str × Nat)} {vs1 : List Nat} {wi wj : TI} {g g1 : TG} {tt tt1 : TT} {tk tv : TE}
end
def loopU (gd : Mem → Bool) (stp : D → Mem → Res Unit) : List D → Mem → Res Unit
  | [], μ => if gd μ = true then .ok () μ else .bad
  | d :: ds, μ => if gd μ = true then match stp d μ with
      | .ok _ μ1 => loopU gd stp ds μ1
      | _ => .bad
    else .bad
theorem OkU.mono {K : PySem.W.Frag} {ρ ρ1 : List Addr} {H H1 : Hp} {r : Res Unit} {P : Hp → Prop} (p : Pre ρ ρ1) (f : Fz ρ ρ1 H H1) (h : OkU K ρ H r P) : OkU K ρ1 H1 r P := by
  cases r with
  | ok _ μ => exact fun ρ2 H2 p2 f2 => h ρ2 H2 (p.trans p2) (f.trans f2)
  | err _ _ _ => exact h
  | bad => exact h
theorem walk_ref {K : PySem.W.Frag} {J : It} {items : List D} {gd : Mem → Bool} {stp : D → Mem → Res Unit} {ρ0 : List Addr} {μ0 : Mem} {H0 : Hp} {P : Hp → Prop} {body : V → Hp → (Hp → Prop) → Prop} (ij : ItR K ρ0 H0 (items, gd) J) (rel0 : Rel K ρ0 μ0 H0) (ok : OkU K ρ0 H0 (loopU gd stp items μ0) P)
    (hb : ∀ d x ρ μ H Nx, Pre ρ0 ρ → Fz ρ0 ρ H0 H → Rel K ρ μ H → DV K ρ H d x → OkU K ρ H (stp d μ) Nx → body x H Nx) :
    ∃ U : Nat → Nat → Hp → Prop, (∃ m, U 0 m H0) ∧ ∀ i m H, U i m H → (J.stop i H ∧ P H) ∨ (J.go i H ∧ ∃ Nx : Hp → Prop, (∀ H', Nx H' → ∃ m', m' < m ∧ U (i + 1) m' H') ∧ ∀ x H', J.yld i H x H' → body x H' Nx) := by
  refine ⟨fun i m H => m = items.length - i ∧ i ≤ items.length ∧ ∃ ρ μ, Pre ρ0 ρ ∧ Fz ρ0 ρ H0 H ∧ Rel K ρ μ H ∧ OkU K ρ H (loopU gd stp (items.drop i) μ) P, ⟨items.length, by simp, Nat.zero_le _, ρ0, μ0, Pre.refl _, Fz.refl _, rel0, by simpa using ok⟩, ?_⟩
  rintro i m H ⟨rfl, hi, ρ, μ, p0, f0, rel, ok⟩
  by_cases hlt : i < items.length
  · rw [List.drop_eq_getElem_cons hlt] at ok
    simp only [loopU] at ok
    split at ok
    · rename_i hgd
      obtain ⟨hgo, hy⟩ := (ij ρ μ H i p0 f0 rel hgd).1 items[i] (List.getElem?_eq_getElem hlt)
      refine .inr ⟨hgo, fun H' => ∃ ρ μ, Pre ρ0 ρ ∧ Fz ρ0 ρ H0 H' ∧ Rel K ρ μ H' ∧ OkU K ρ H' (loopU gd stp (items.drop (i + 1)) μ) P, fun H' h => ⟨items.length - (i + 1), by omega, rfl, hlt, h⟩, fun x H' yl => ?_⟩
      obtain ⟨fz, rel', dv⟩ := hy x H' yl
      refine hb items[i] x ρ μ H' _ p0 (f0.trans fz) rel' dv ?_
      split at ok
      · rename_i μ1 e1
        rw [e1]
        exact fun ρ1 H1 p1 f1 rel1 => ⟨ρ1, μ1, p0.trans p1, f0.trans (fz.trans f1), rel1, OkU.mono p1 (fz.trans f1) ok⟩
      · exact ok.elim
    · exact ok.elim
  · have e : i = items.length := by omega
    subst e
    rw [List.drop_length] at ok
    simp only [loopU] at ok
    split at ok
    · rename_i hgd
      exact .inl ⟨(ij ρ μ H items.length p0 f0 rel hgd).2 rfl, ok ρ H (Pre.refl _) (Fz.refl _) rel⟩
    · exact ok.elim
def stp1 (n : Nat) (g : MG) (mt : MX Bool) (mk mv : ME) (δ : DEnv) (d : D) (μ : Mem) : Res Unit := match g d δ μ with
  | .ok δ1 μ1 => match mt δ1 μ1 with
    | .ok true μ2 => match mk δ1 μ2 with
      | .ok k μ3 => match mv δ1 μ3 with
        | .ok v μ4 => if isDK μ4 n = true then setD (.loc n) k v μ4 else .bad
        | _ => .bad
      | _ => .bad
    | .ok false μ2 => .ok () μ2
    | _ => .bad
  | _ => .bad
def stp0 (n : Nat) (vs1 : List Nat) (g : MG) (mt : MX Bool) (mj : MX Its0) (g1 : MG) (mt1 : MX Bool) (mk mv : ME) (δ : DEnv) (d : D) (μ : Mem) : Res Unit := match g d δ μ with
  | .ok δ1 μ1 => match mt δ1 μ1 with
    | .ok true μ2 => match mj δ1 μ2 with
      | .ok it μ3 => loopU it.2 (stp1 n g1 mt1 mk mv (wipeD δ1 vs1)) it.1 μ3
      | _ => .bad
    | .ok false μ2 => .ok () μ2
    | _ => .bad
  | _ => .bad
def mdc (vs : List Nat) (mi : MX Its0) (g : MG) (mt : MX Bool) (mk mv : ME) : ME := bindM mi fun it => fun δ μ => match loopU it.2 (stp1 μ.cells.length g mt mk mv (wipeD δ vs)) it.1 (μ.push (.dK [])) with
  | .ok _ μ1 => .ok (.loc μ.cells.length) μ1
  | _ => .bad
def mdc2 (vs vs1 : List Nat) (mi : MX Its0) (g : MG) (mt : MX Bool) (mj : MX Its0) (g1 : MG) (mt1 : MX Bool) (mk mv : ME) : ME := bindM mi fun it => fun δ μ => match loopU it.2 (stp0 μ.cells.length vs1 g mt mj g1 mt1 mk mv (wipeD δ vs)) it.1 (μ.push (.dK [])) with
  | .ok _ μ1 => .ok (.loc μ.cells.length) μ1
  | _ => .bad
abbrev turn1 (K : PySem.W.Frag) (Da : Addr) (vs : List Nat) (σ : L2.St) (g : TG) (mt : MX Bool) (mk mv : ME) (x : V) (H' : Hp) (Nx : Hp → Prop) : Prop := g x (L2.wipe σ vs) H' fun σ2 H2 => L2.wipe σ2 vs = L2.wipe σ vs ∧ TmE K RT' mt σ2 H2 fun b H3 =>
    if b = true then TmE K (DV K) mk σ2 H3 fun y H4 => TmE K (DV K) mv σ2 H4 fun z H5 => ∃ kvs k, y = kV k ∧ H5 Da = some (.dK kvs) ∧ kvs.length < sizeLine ∧ Nx (upd H5 Da (.dK (putK kvs k z))) else Nx H3
theorem turn1_ref {K : PySem.W.Frag} {Da : Addr} {n : Nat} {vs : List Nat} {σ : L2.St} {g : TG} {mg : MG} {mt : MX Bool} {mk mv : ME} {δ : DEnv} {ρ : List Addr} {μ : Mem} {H : Hp} {d : D} {x : V} {Nx : Hp → Prop} (hg : ∀ ρ μ δ σ H d v (Q : L2.St → Hp → Prop), Rel K ρ μ H → EnvR K ρ H none δ σ → DV K ρ H d v → OkGw K vs σ ρ H (mg d δ μ) Q → g v σ H Q)
    (hn : ρ[n]? = some Da) (rel : Rel K ρ μ H) (env : EnvR K ρ H none (wipeD δ vs) (L2.wipe σ vs)) (dv : DV K ρ H d x) (ok : OkU K ρ H (stp1 n mg mt mk mv (wipeD δ vs) d μ) Nx) : turn1 K Da vs σ g mt mk mv x H Nx := by
  unfold stp1 at ok
  refine hg ρ μ _ _ H d x _ rel env dv ?_
  split at ok
  · rename_i δ1 μ1 eg
    rw [eg]
    intro ρ1 H1 σ1 p1 f1 rel1 env1 hw
    refine ⟨hw.trans (wipe_wipe fun _ h => h), ρ1, μ1, δ1, rel1, env1, ?_⟩
    split at ok
    · rename_i μ2 et
      rw [et]
      refine okr_false fun ρ2 H2 b p2 f2 rel2 eb => ?_
      obtain rfl : true = b := eb
      refine iteT ⟨ρ2, μ2, δ1, rel2, env1.mono p2 f2, ?_⟩
      split at ok
      · rename_i k μ3 ek
        rw [ek]
        refine okr_false fun ρ3 H3 y p3 f3 rel3 dy => ⟨ρ3, μ3, δ1, rel3, (env1.mono p2 f2).mono p3 f3, ?_⟩
        split at ok
        · rename_i v μ4 ev
          rw [ev]
          refine okr_false fun ρ4 H4 z p4 f4 rel4 dz => ?_
          have pp := ((p1.trans p2).trans p3).trans p4
          have ff := ((f1.trans f2).trans f3).trans f4
          split at ok
          · rename_i hD
            obtain ⟨kds, hc⟩ := isDK_ok hD
            have hn4 := pp n Da hn
            have e1 : setD (.loc n) k v μ4 = match keyOf k with | some k => if μ4.lkd n = false ∧ kds.length < sizeLine then .ok () (μ4.set n (.dK (kput kds k v))) else .bad | none => .bad := by
              unfold setD; dsimp only; rw [hc] <;> rfl
            rw [e1] at ok
            split at ok
            · rename_i key hk
              split at ok
              · rename_i hl
                obtain ⟨kvs, h2, h3⟩ := rel4.cell n Da _ hn4 hc
                rw [hl.1] at h2
                have h2' : H4 Da = some (.dK kvs) := by unfold Lk at h2; rw [if_neg Bool.false_ne_true] at h2; exact h2
                have f := Fz.mut (o := .dK (putK kvs key z)) hn4 h2' (fun _ => HO.noConfusion) (fun _ _ => HO.noConfusion)
                refine ⟨kvs, key, keyOf_ok hk (dy.mono p4 f4), h2', by rw [← KDs.length h3]; exact hl.2, ?_⟩
                refine ok ρ4 _ pp (ff.trans f) (rel4.write hn4 h2' (fun _ => HO.noConfusion) (fun _ _ => HO.noConfusion) ⟨_, ?_, (h3.put dz).mono (Pre.refl _) f⟩)
                rw [hl.1]
                unfold Lk
                rw [if_neg Bool.false_ne_true]
                exact upd_same
              · exact ok.elim
            · exact ok.elim
          · exact ok.elim
        · exact ok.elim
      · exact ok.elim
    · rename_i μ2 et
      rw [et]
      refine okr_false fun ρ2 H2 b p2 f2 rel2 eb => ?_
      obtain rfl : false = b := eb
      exact iteF (ok ρ2 H2 (p1.trans p2) (f1.trans f2) rel2)
    · exact ok.elim
  · exact ok.elim
section
variable {X : Cx} {hx : Option HX} {W : WX} {sc : Scope} {ps : Pos} {kx vx t0 i0 t1 i1 : Expr} {c0 c1 : List Expr} {own : List (Str × Nat)} {vs1 : List Nat} {mi mj : MX Its0} {mg mg1 : MG} {mt mt1 : MX Bool} {mk mv : ME}
theorem RI.pi {tg iter : Expr} {m : MX Its0} (h : RI X none WF tg iter m) : PI X tg iter (TmE X.K (ItR X.K) m) := by
  obtain ⟨t, p, r⟩ := h.ex
  exact ⟨fun pins s σ H Q I ⟨ρ, μ, δ, rel, env, ok⟩ => p.run pins s σ H Q I (r ρ μ δ σ H Q rel env ok)⟩
theorem rel_dict {K : PySem.W.Frag} {ρ : List Addr} {μ : Mem} {H : Hp} {p : Addr} (rel : Rel K ρ μ H) (hp : H p = none) : Rel K (ρ ++ [p]) (μ.push (.dK [])) (upd H p (.dK [])) :=
  rel.new hp ⟨[], by unfold Lk; rw [if_neg Bool.false_ne_true]; exact upd_same, .nil⟩
theorem last_at {K : PySem.W.Frag} {ρ : List Addr} {μ : Mem} {H : Hp} {p : Addr} (rel : Rel K ρ μ H) : (ρ ++ [p])[μ.cells.length]? = some p := by rw [← rel.len]; simp
theorem re_dc (hc : X.calm = true) (hN : X.N.Nodup) (hi : RI X hx W t0 i0 mi) (ok : BlkOk X.N X.env.scope sc own) (hg : RGc X sc (own.map (·.2)) t0 mg) (ht : InB X sc fun Y => RTs Y c0 mt) (hk : InB X sc fun Y => RE Y none WF kx mk) (he : InB X sc fun Y => RE Y none WF vx mv)
    (hs : ∀ x, foldedSetIterable i0 X.env x = pure x := by intro _; rfl) : RE X hx W (.DictComp kx vx [⟨t0, i0, c0, 0⟩] sc ps) (mdc (own.map (·.2)) mi mg mt mk mv) := by
  obtain ⟨wi, pi, ri⟩ := hi.ex
  obtain ⟨g, pg, rg⟩ := hg.ex
  refine ⟨⟨_, pe_dc (tt := TmE X.K RT' mt) (tk := TmE X.K (DV X.K) mk) (tv := TmE X.K (DV X.K) mv) hc hN pi ok pg (fun s H C cl fp => (ht s H C cl fp).p) (fun s H C cl fp => (hk s H C cl fp).pe) (fun s H C cl fp => (he s H C cl fp).pe) hs,
    fun ρ0 μ0 δ σ H0 Q rel0 env0 ok0 => ri ρ0 μ0 δ σ H0 _ rel0 env0 (Okr.bind ok0 fun it μ1 ρ1 H1 J pr fz rel1 ij ok1 => fun Da hD => ?_)⟩⟩
  have fA : Fz ρ1 (ρ1 ++ [Da]) H1 (upd H1 Da (.dK [])) := Fz.newA hD
  have relA := rel_dict rel1 hD
  have hn := last_at (p := Da) rel1
  refine walk_ref (fun ρ μ H i p f => ij ρ μ H i ((Pre.app _ _).trans p) (fA.trans f)) relA (stp := stp1 μ1.cells.length mg mt mk mv (wipeD δ (own.map (·.2)))) ?_ fun d x ρ μ H Nx p f rel dv ok => ?_
  · dsimp only at ok1
    split at ok1
    · rename_i μ2 e
      rw [e]
      exact fun ρ2 H2 p2 f2 rel2 => ok1 ρ2 H2 _ ((Pre.app _ _).trans p2) (fA.trans f2) rel2 (by simp only [DV]; exact ⟨Da, p2 _ _ hn, rfl⟩)
    · exact ok1.elim
  · exact turn1_ref rg (p _ _ hn) rel (((env0.mono pr fz).nox.wipe _).mono ((Pre.app _ _).trans p) (fA.trans f)) dv ok
end
end Doz
end
section
namespace Doz
open PySem L2
section
variable {X : Cx} {hx : Option HX} {W : WX} {a b : Expr} {na : MX (List D)} {mb : ME} {pos : Pos}
def mrepN (na : MX (List D)) (mb : ME) : MX (List D) := bindM na fun ds => bindM mb fun k => fun _ μ => match k with
  | .int k => if -(2 ^ 63) ≤ k ∧ k < 2 ^ 63 ∧ ds.length * k.toNat ≤ sizeLine then .ok (List.replicate k.toNat ds).flatten μ else .bad
  | _ => .bad
end
def gunl (n : Nat) (gs : MGs) : MG := fun d δ μ => match lstOf μ d with
  | some ds => if ds.length = n then match gs ds δ μ with
      | .ok δ1 μ1 => .ok δ1 μ1
      | _ => .bad
    else .bad
  | none => .bad
end Doz
end
section
namespace Doz
open PySem L2 PySem.Spec PyProof.Rows
section
variable {X : Cx}
end
end Doz
end
section
namespace Doz
open PySem L2 PySem.Spec PyProof.Rows
def isB (K : PySem.W.Frag) (C : Addr) : Bool :=
  decide (PySem.W.findIn K (.ref C) "__class__" = some (some (.builtin "object.__class__"))) && (decide (PySem.W.specialIn K (.builtin "object.__class__") "__get__" = some (some (.builtin "getset_descriptor.__get__")))
    && (decide (PySem.W.takesIn K (.builtin "object.__class__") = some true) && decide (PySem.W.mroIn K C (.type "object") = some true)))
def rIsW (K : PySem.W.Frag) (C a dd : Addr) : List V → Hp → VK → Prop := fun xs H Q => ∃ (c : V) (cv : Value) (b : Bool) (v : V), xs = [.ref a, c] ∧ (∀ u, RelV c u → u = cv) ∧ PySem.W.kitOne K (.ref C) cv = some b ∧ H dd = some (.xd [(("what" : Str), v)]) ∧ Q (.bl b) H
theorem call_isW {X : Cx} {a C dd fI : Addr} {oe : Obj} {pn : List (Addr × Obj)} (T : PySem.DozX.ExTxt X.K C fI) (hB : isB X.K C = true) (hz : Zc (.ref C) (some dd) oe) (hf : ∃ vs, oe.data = .fields vs) : CallR (X.suite a ((a, oe) :: pn)) (.builtin "isinstance") (rIsW X.K C a dd) := by
  intro pins s σ H xs us Q I r h
  obtain ⟨c, cv, b, v, rfl, hcv, e, hH, q⟩ := h
  unfold isB at hB
  simp only [Bool.and_eq_true, decide_eq_true_eq] at hB
  obtain ⟨b1, b2, b3, b4⟩ := hB
  cases r with
  | cons rx rr =>
    cases rr with
    | cons rt rr =>
      cases rr
      cases rx
      have ec := hcv _ rt
      subst ec
      obtain ⟨hget, _⟩ := I.pin (a, oe) (List.mem_append.mpr (.inl List.mem_cons_self))
      obtain ⟨vs, hd⟩ := hf
      have hx : ObjOk X.prog X.w H s.heap dd (.xd [(("what" : Str), v)]) := I.hok dd _ hH
      obtain ⟨mA, hns, hr⟩ := hx
      obtain ⟨od, ho, hl⟩ := lookIn_ns hns
      have J : PySem.W.InstAt s.heap a oe C (some od) := ⟨hget, hz.1, by unfold PySem.W.notCls; rw [hd] <;> rfl, by rw [hz.2]; exact ho⟩
      have hcl : (PySem.W.clsIn X.K C).isSome = true := by
        obtain ⟨cd, hc, _⟩ := PySem.W.any_some T.hdC
        rw [hc]; rfl
      exact PySem.W.kia_one (PySem.W.kitx_exc hcl T.ga T.gg T.exC b1 b2 b3 b4) I.kIn J e (fun z => nomatch z) fun tk => ⟨.bl b, H, I.kept (t' := tk) fun _ _ z => z, rfl, q⟩
def isK (x y : Str) (b : Bool) (K : PySem.W.Frag) : Bool := decide (PySem.W.kitOne K (.ref (He.ga K x)) (.ref (He.ga K y)) = some b) && isB K (He.ga K x)
def isT (x : Str) (y : String) (b : Bool) (K : PySem.W.Frag) : Bool := decide (PySem.W.kitOne K (.ref (He.ga K x)) (.type y) = some b) && isB K (He.ga K x)
def IsL (K : PySem.W.Frag) (cv : Value) (l : List (Addr × Bool)) : Prop := ∀ p ∈ l, PySem.W.kitOne K (.ref p.1) cv = some p.2 ∧ isB K p.1 = true
theorem il_nil {K : PySem.W.Frag} {cv : Value} : IsL K cv [] := fun _ h => by cases h
theorem il_cons {K : PySem.W.Frag} {cv : Value} {C : Addr} {b : Bool} {l : List (Addr × Bool)} (h : (decide (PySem.W.kitOne K (.ref C) cv = some b) && isB K C) = true) (t : IsL K cv l) : IsL K cv ((C, b) :: l) := fun p hp => by
  rcases List.mem_cons.mp hp with e | hp
  · rw [e]
    simp only [Bool.and_eq_true, decide_eq_true_eq] at h
    exact h
  · exact t p hp
theorem look_keys {C : Addr} {b : Bool} : ∀ {l m : List (Addr × Bool)}, l.map (·.1) = m.map (·.1) → l.lookup C = some b → ∃ b', m.lookup C = some b'
  | [], _, _, h => by cases h
  | _ :: _, [], e, _ => by cases e
  | p :: l, q :: m, e, h => by
    have e1 : p.1 = q.1 := (List.cons.inj e).1
    have e2 : l.map (·.1) = m.map (·.1) := (List.cons.inj e).2
    obtain ⟨pa, pb⟩ := p
    obtain ⟨qa, qb⟩ := q
    dsimp only at e1
    subst e1
    by_cases hc : C = pa
    · subst hc
      exact ⟨qb, by simp [List.lookup]⟩
    · have hc' : (C == pa) = false := by simpa using hc
      simp only [List.lookup, hc'] at h ⊢
      exact look_keys e2 h
theorem il_of {K : PySem.W.Frag} {cv : Value} {C : Addr} {b : Bool} {l m : List (Addr × Bool)} (h : l.lookup C = some b) (t : IsL K cv m) (e : l.map (·.1) = m.map (·.1)) : PySem.W.kitOne K (.ref C) cv = some ((m.lookup C).getD false) ∧ isB K C = true := by
  obtain ⟨b', h'⟩ := look_keys e h
  rw [h']
  exact t (C, b') (look_mem h')
section
variable {X : Cx} {W : WX} {pos p1 p2 p3 : Pos}
theorem re_isW {i : Nat} {a C dd fI : Addr} {oe : Obj} {w : D} {pn : List (Addr × Obj)} {y x : Str} {cv : Value} {c : V} {b : Bool} (T : PySem.DozX.ExTxt X.K C fI) (hB : isB X.K C = true) (hz : Zc (.ref C) (some dd) oe) (hf : ∃ vs, oe.data = .fields vs)
    (hk : PySem.W.kitOne X.K (.ref C) cv = some b) (hc : ∀ u, RelV c u → u = cv) (hx : PE (X.suite a ((a, oe) :: pn)) (.Name x p3) (tC c)) (hm : X.mg "isinstance" = none) (hg : Gl (X.suite a ((a, oe) :: pn)) "isinstance" := by rfl)
    (hN : X.N[i]? = some y := by rfl) (hv : Vis X.env.scope y := by first | exact Or.inl rfl | exact Or.inr (Or.inl rfl) | exact Or.inr (Or.inr rfl)) (hd : (y == ("__debug__" : Str)) = false := by decide)
    (hcd : (y == ("__classdict__" : Str)) = false := by decide) (hs1 : starEach [.Name y p2, .Name x p3] (X.suite a ((a, oe) :: pn)).env = (false, eval (.Name y p2) (X.suite a ((a, oe) :: pn)).env) :: starEach [.Name x p3] (X.suite a ((a, oe) :: pn)).env := by rfl)
    (hs2 : starEach [.Name x p3] (X.suite a ((a, oe) :: pn)).env = (false, eval (.Name x p3) (X.suite a ((a, oe) :: pn)).env) :: starEach [] (X.suite a ((a, oe) :: pn)).env := by rfl) (hpl : (backTo pos (starEach [.Name x p3] (X.suite a ((a, oe) :: pn)).env)).any (·.1) = false := by rfl) :
    RE (X.suite a ((a, oe) :: pn)) (some ⟨i, a, C, dd, w, none⟩) W (.Call (.Name "isinstance" p1) [.Name y p2, .Name x p3] [] pos) (mC (.bl b)) := by
  refine ⟨⟨_, pe_callB (call_isW T hB hz hf) hg hm (by decide +kernel) (pa_cons (pe_var (X := X.suite a ((a, oe) :: pn)) (i := i) hN hv hd hcd) (pa_cons hx pa_nil hs2) hs1) (by decide) (by decide) hs1 hpl, fun ρ μ δ σ H Q rel env ok => ?_⟩⟩
  obtain ⟨h1, h2, v, h3, h4⟩ := env.exn _ rfl
  exact ⟨.ref a, h1, c, cv, b, v, rfl, hc, hk, h3, Okr.now ok rel dv_bl⟩
theorem re_isG {i : Nat} {a C dd fI A : Addr} {oe : Obj} {w : D} {pn : List (Addr × Obj)} {y x : Str} {b : Bool} (T : PySem.DozX.ExTxt X.K C fI) (I : PySem.W.kitOne X.K (.ref C) (.ref A) = some b ∧ isB X.K C = true) (hz : Zc (.ref C) (some dd) oe) (hf : ∃ vs, oe.data = .fields vs) (hA : X.mg x = some (.ref A)) (hm : X.mg "isinstance" = none)
    (hN : X.N[i]? = some y := by rfl) (hgx : Gl (X.suite a ((a, oe) :: pn)) x := by rfl) (hg : Gl (X.suite a ((a, oe) :: pn)) "isinstance" := by rfl) (hdx : (x == ("__debug__" : Str)) = false := by decide)
    (hv : Vis X.env.scope y := by first | exact Or.inl rfl | exact Or.inr (Or.inl rfl) | exact Or.inr (Or.inr rfl)) (hd : (y == ("__debug__" : Str)) = false := by decide) (hcd : (y == ("__classdict__" : Str)) = false := by decide) :
    RE (X.suite a ((a, oe) :: pn)) (some ⟨i, a, C, dd, w, none⟩) W (.Call (.Name "isinstance" p1) [.Name y p2, .Name x p3] [] pos) (mC (.bl b)) :=
  re_isW (c := .ref A) (cv := .ref A) T I.2 hz hf I.1 (fun u r => by cases r; rfl) (pe_glob hgx hA rfl hdx) hm hg hN hv hd hcd
theorem re_isBT {i : Nat} {a C dd fI : Addr} {oe : Obj} {w : D} {pn : List (Addr × Obj)} {y x : Str} {b : Bool} {t : String} (T : PySem.DozX.ExTxt X.K C fI) (I : PySem.W.kitOne X.K (.ref C) (.type t) = some b ∧ isB X.K C = true) (hz : Zc (.ref C) (some dd) oe) (hf : ∃ vs, oe.data = .fields vs) (hA : X.mg x = none) (hb : bootBuiltins x = some (.type t)) (hm : X.mg "isinstance" = none)
    (hN : X.N[i]? = some y := by rfl) (hgx : Gl (X.suite a ((a, oe) :: pn)) x := by rfl) (hg : Gl (X.suite a ((a, oe) :: pn)) "isinstance" := by rfl) (hnx : x ≠ "__name__" := by decide) (hdx : (x == ("__debug__" : Str)) = false := by decide)
    (hv : Vis X.env.scope y := by first | exact Or.inl rfl | exact Or.inr (Or.inl rfl) | exact Or.inr (Or.inr rfl)) (hd : (y == ("__debug__" : Str)) = false := by decide) (hcd : (y == ("__classdict__" : Str)) = false := by decide) :
    RE (X.suite a ((a, oe) :: pn)) (some ⟨i, a, C, dd, w, none⟩) W (.Call (.Name "isinstance" p1) [.Name y p2, .Name x p3] [] pos) (mC (.bl b)) :=
  re_isW (c := .ty t) (cv := .type t) T I.2 hz hf I.1 (fun u r => by cases r; rfl) (pe_bltn (v := .ty t) hgx hA hb rfl hnx hdx) hm hg hN hv hd hcd
end
end Doz
end
section
namespace Doz
open PySem PySem.Spec PyProof.Rows L2
inductive ZK where | tup (a : Addr) | lst (a : Addr) | txt (x : Str)
def ZK.v : ZK → V
  | .tup a => .ref a
  | .lst a => .ref a
  | .txt x => .str x
def ZK.low (n : Nat) : ZK → Prop
  | .tup a => a < n
  | .lst a => a < n
  | .txt _ => True
def ZK.off (it : Addr) : ZK → Prop
  | .tup a => a ≠ it
  | .lst a => a ≠ it
  | .txt _ => True
theorem ZK.low.off {n it : Nat} {k : ZK} (h : k.low n) (hi : n ≤ it) : k.off it := by
  cases k with
  | tup a => exact Nat.ne_of_lt (Nat.lt_of_lt_of_le h hi)
  | lst a => exact Nat.ne_of_lt (Nat.lt_of_lt_of_le h hi)
  | txt x => trivial
def ZK.fp (it : Addr) : ZK → List Addr
  | .tup a => [it, a]
  | .lst a => [it, a]
  | .txt _ => [it]
theorem ZK.mem (it : Addr) (k : ZK) : it ∈ k.fp it := by cases k <;> simp [ZK.fp]
def ZK.size (xs : Array Value) : ZK → Nat
  | .txt x => x.cps.size
  | _ => xs.size
def ZK.P (xs : Array Value) (k : ZK) (i : Nat) (v : Value) : Prop := match k with
  | .txt x => ∃ c u, x.cps[i]? = some c ∧ v = .str ⟨#[c]⟩ u
  | _ => xs[i]? = some v
def AtB (h : Heap) (k : ZK) (t : Tok) (it : Addr) (i : Nat) : Prop := match k with
  | .tup l => h.IsTupleIter it l i
  | .lst l => h.IsListIter it l i
  | .txt x => h.IsStrIter it (strIterType x) x t i
def ZK.val (k : ZK) (t : Tok) : Value := match k with
  | .tup a => .ref a
  | .lst a => .ref a
  | .txt x => .str x t
theorem AtB.plain {h : Heap} {k : ZK} {t : Tok} {it : Addr} {i : Nat} (x : AtB h k t it i) : ∃ o, h.get? it = some o ∧ ∀ v, o.data ≠ .cell v := by
  cases k with
  | tup l => obtain ⟨o, e, _, d⟩ := x; exact ⟨o, e, fun v q => by rw [d] at q; cases q⟩
  | lst l => obtain ⟨o, e, _, d⟩ := x; exact ⟨o, e, fun v q => by rw [d] at q; cases q⟩
  | txt y => obtain ⟨o, e, _, d⟩ := x; exact ⟨o, e, fun v q => by rw [d] at q; cases q⟩
theorem AtB.at {h h' : Heap} {k : ZK} {t : Tok} {it : Addr} {i : Nat} (x : AtB h k t it i) (e : ∀ o, h.get? it = some o → h'.get? it = some o) : AtB h' k t it i := by
  cases k with
  | tup l => obtain ⟨o, e1, r⟩ := x; exact ⟨o, e o e1, r⟩
  | lst l => obtain ⟨o, e1, r⟩ := x; exact ⟨o, e o e1, r⟩
  | txt y => obtain ⟨o, e1, r⟩ := x; exact ⟨o, e o e1, r⟩
section
variable {X : Cx} {pins : List (Addr × Obj)} {σ : L2.St} {H : Hp} {s : Shared} {k : ZK} {xs ys : List V}
end
theorem ZK.rel {k : ZK} {u : Value} (h : RelV k.v u) : ∃ t, u = k.val t := by
  cases k with
  | tup a => exact ⟨0, h⟩
  | lst a => exact ⟨0, h⟩
  | txt x => obtain ⟨t, e⟩ := h; exact ⟨t, e⟩
structure Apart2 (z TI TO i1 i2 : Nat) (k1 k2 : ZK) : Prop where
  az : TI ≠ z ∧ TO ≠ z ∧ TI ≠ TO
  t1 : TI ≠ i1 ∧ z ≠ i1 ∧ TO ≠ i1 ∧ k1.off z ∧ k1.off TO
  t2 : TI ≠ i2 ∧ z ≠ i2 ∧ TO ≠ i2 ∧ k2.off z ∧ k2.off TO
  ii : i1 ≠ i2 ∧ i2 ≠ i1
  ia : k1.off i1 ∧ k2.off i1 ∧ k1.off i2 ∧ k2.off i2
structure Apart3 (z TI TO i1 i2 i3 : Nat) (k1 k2 k3 : ZK) : Prop where
  az : TI ≠ z ∧ TO ≠ z ∧ TI ≠ TO
  t1 : TI ≠ i1 ∧ z ≠ i1 ∧ TO ≠ i1 ∧ k1.off z ∧ k1.off TO
  t2 : TI ≠ i2 ∧ z ≠ i2 ∧ TO ≠ i2 ∧ k2.off z ∧ k2.off TO
  t3 : TI ≠ i3 ∧ z ≠ i3 ∧ TO ≠ i3 ∧ k3.off z ∧ k3.off TO
  ii : i1 ≠ i2 ∧ i1 ≠ i3 ∧ i2 ≠ i1 ∧ i2 ≠ i3 ∧ i3 ≠ i1 ∧ i3 ≠ i2
  ia : k1.off i1 ∧ k2.off i1 ∧ k3.off i1 ∧ k1.off i2 ∧ k2.off i2 ∧ k3.off i2 ∧ k1.off i3 ∧ k2.off i3 ∧ k3.off i3
theorem DVs.three {K : PySem.W.Frag} {ρ : List Addr} {H : Hp} {d e f : D} {xs : List V} (h : DVs K ρ H [d, e, f] xs) : ∃ v u w, xs = [v, u, w] ∧ DV K ρ H d v ∧ DV K ρ H e u ∧ DV K ρ H f w := by
  simp only [DVs] at h
  obtain ⟨v, r, rfl, h1, u, r2, rfl, h2, t, r3, rfl, h3, rfl⟩ := h
  exact ⟨v, u, t, rfl, h1, h2, h3⟩
end Doz
end
section
namespace Doz
open PySem L2
end Doz
end
section
namespace Doz
open PySem L2
section
variable {X : Cx} {hx : Option HX} {W : WX} {o e f : Expr} {mo me mf : ME} {apos cpos : Pos}
end
end Doz
end
section
namespace Doz
open PySem L2
end Doz
end
section
namespace Doz
open PySem PySem.Spec PyProof.Rows L2
open Sem (wp)
section
variable {prog : Program} {w : PySem.World} {A : Around} {E : Value → Shared → Prop} {s : Shared}
end
end Doz
end
section
namespace Doz
open PySem L2
end Doz
end
section
namespace DozY
open PySem PySem.Spec PyProof.Rows HotX
section
variable {prog : Program} {w : World} {A : Around} {E : Value → Shared → Prop} {s : Shared}
end
end DozY
end
section
namespace PySem
namespace DozX
open PySem.W PySem.Calls PyProof.Rows PySem.HandSPX
structure OwnMade6 (h h' : Heap) (e C d : Addr) (v : Value) : Prop where
  keep : ∀ b o, h.get? b = some o → h'.get? b = some o
  new : h.objs.size ≤ e
  obj : ∃ t, h'.get? e = some { cls := .ref C, dict := some d, data := .fields #[.ref t, .none, .none, .none, .bool false, .none] }
  dbig : h.objs.size ≤ d
  dne : d ≠ e
  ns : h'.Ns1 d (fun y => if y = "what" then some v else none)
section
variable {prog : Program} {w : World} {A : Around} {E : Value → Shared → Prop} {R : Result → Shared → Prop} {s : Shared} {K : Frag} {C fI : Addr}
end
end DozX
end PySem
namespace DozY
open PySem PySem.Spec PyProof.Rows L2 HotX
section
variable {X : Cx} {C fI : Addr}
end
end DozY
end
section
namespace DozY
open PySem PySem.Spec PyProof.Rows L2 HotX
theorem framesBut {B h h' : Heap} {L : Addr} (hs : Heap.SameBut L h h') (hL : ∃ o, h'.get? L = some o ∧ ∀ vs, o.data ≠ .fields vs) : ∀ {l : List Env}, h.FunFrames B l → h'.FunFrames B l
  | [], _ => trivial
  | env :: l, hf => by
    obtain ⟨hk, ⟨L', o, e1, e2, e3, e4⟩, hr⟩ := hf
    by_cases e : L' = L
    · subst e
      obtain ⟨o2, q1, q2⟩ := hL
      exact ⟨hk, ⟨L', o2, e1, e2, q1, q2⟩, framesBut hs ⟨o2, q1, q2⟩ hr⟩
    · exact ⟨hk, ⟨L', o, e1, e2, (hs.2 L' e).trans e3, e4⟩, framesBut hs hL hr⟩
theorem Inv.forget {X : Cx} {pins : List (Addr × Obj)} {σ : L2.St} {H : Hp} {s : Shared} {h' : Heap} {m : Str → Option Value} {i : Nat} {n : Str} {v : Option Value} (I : Inv X pins σ H s) (hN : X.N.Nodup) (hi : X.N[i]? = some n)
    (hl : ∀ (j : Nat) (y : Str) (v : V), X.N[j]? = some y → σ[j]? = some (some v) → Vis X.env.scope y → ∃ u, RelV v u ∧ Look X.env s.heap m y u)
    (hn : h'.Ns X.env.locals (fun x => if x = n then v else m x)) (hs : Heap.SameBut X.env.locals s.heap h') : Inv X pins (σ.set i none) H { s with heap := h' } := by
  have old : ∀ b o, X.s_0.heap.get? b = some o → b ≠ X.env.locals := fun b o e z => by
    have q := Heap.lt_size e
    rw [z] at q
    exact Nat.lt_irrefl _ (Nat.lt_of_lt_of_le q I.ok.above)
  have track : ∀ b, H b ≠ none → b ≠ X.env.locals := fun b q z => q (by rw [z]; exact I.free)
  constructor
  · exact I.ok
  · exact I.os
  · exact I.bare
  · constructor
    · exact fun b o e hn hb hx => (hs.2 b (old b o e)).trans (I.base.keep b o e hn hb hx)
    · intro b o e hn hb hx
      obtain ⟨sl, q⟩ := I.base.slot b o e hn hb hx
      exact ⟨sl, (hs.2 b (old b o e)).trans q⟩
    · exact I.base.free
    · intro b o e hx
      obtain ⟨o', q⟩ := I.base.there b o e hx
      exact ⟨o', (hs.2 b (old b o e)).trans q⟩
    · exact I.base.tups
    · exact I.base.frzs
    · exact I.base.tbls
  · refine ⟨_, hn, fun j y v' e1 e2 e3 => ?_⟩
    have hj : i ≠ j := fun z => by
      subst z
      rw [List.getElem?_set] at e2
      split at e2
      · split at e2 <;> cases e2
      · exact absurd rfl ‹_›
    rw [List.getElem?_set_ne hj] at e2
    obtain ⟨u, r, q⟩ := hl j y v' e1 e2 e3
    have ny : y ≠ n := fun z => hj (nodup_ix hN (z ▸ hi) e1)
    rcases q with ⟨q1, q2⟩ | ⟨q1, c, q2, q3⟩
    · exact ⟨u, r, .inl ⟨q1, (if_neg ny).trans q2⟩⟩
    · exact ⟨u, r, .inr ⟨q1, c, q2, q3.sameBut hs (I.cne y c q2)⟩⟩
  · intro y c e
    obtain ⟨z, q⟩ := I.cell y c e
    exact ⟨z, q.sameBut hs (I.cne y c e)⟩
  · exact I.free
  · exact I.freeC
  · intro p hp
    obtain ⟨e, q⟩ := I.pin p hp
    exact ⟨(hs.2 p.1 q.2.1).trans e, q⟩
  · intro b ob e
    refine (I.hok b ob e).stay (fun c w' hc q => (hs.2 c ?_).trans q) (fun _ q => q) fun _ _ q => q
    rcases hc with hc | hc
    · exact track c (by rw [hc, e]; exact fun z => nomatch z)
    · exact track c (by rw [hc]; exact fun z => nomatch z)
  · simpa using I.len
abbrev suiteY (X : Cx) (a : Addr) (pn : List (Addr × Obj)) (xe : Value → Shared → Prop) : Cx := { X with A := X.A.mark (some (.ref a)), calm := false, pn := pn, xe := xe }
theorem unsuiteY {X : Cx} {pins : List (Addr × Obj)} {σ : L2.St} {H : Hp} {s : Shared} {a : Addr} {q : Addr × Obj} {pn' : List (Addr × Obj)} {xe : Value → Shared → Prop} (I : Inv (suiteY X a (q :: (X.pn ++ pins)) xe) pn' σ H s) (ok : X.Ok) : Inv X pins σ H s :=
  Inv.unsuite (X := X) (a := a) (q := q) (pn' := pn') (show Inv (X.suite a (q :: (X.pn ++ pins))) pn' σ H s from I.wish fun _ _ => False) ok
theorem suiteY_of {X : Cx} {σ : L2.St} {H : Hp} {s : Shared} {a : Addr} {pn pn' : List (Addr × Obj)} {xe : Value → Shared → Prop} (I : Inv (X.suite a pn) pn' σ H s) : Inv (suiteY X a pn xe) pn' σ H s := Inv.unwish (X := suiteY X a pn xe) (E := fun _ _ => False) I
theorem goesOn {X : Cx} {pins : List (Addr × Obj)} {Wout : WX} {i : Nat} {n : Str} {pos : Pos} {a4 : Addr} {q4 : Addr × Obj} {xe : Value → Shared → Prop} {u : Value} {s' : Shared} {Q : Flow → Shared → Prop} {E E' : Value → Shared → Prop} {Y : Value → Shared → Prop}
    (hs : X.stack = X.env :: X.outer) (hf : X.env.frame = some X.env.locals) (hN : X.N.Nodup) (hi : X.N[i]? = some n) (hln : X.env.kindOf n = some .local) (tk : L2.Takes X Wout) (ok : X.Ok)
    (hE : ∀ u s5, X.xe u s5 → Y u s5)
    (x : L2.XE (suiteY X a4 (q4 :: (X.pn ++ pins)) xe) (fun cls d σ H => Wout cls d (σ.set i none) H) u s') :
    wpAny (model X.prog X.w) (X.A.mark (some (.ref a4))) (noteFrame u X.env) (fun _ s₃ => wpAny (model X.prog X.w) (X.A.mark (some (.ref a4))) (do bindName X.env n .none; unbindBehindTheSuite X.env n pos)
      (fun _ s₄ => wpAny (model X.prog X.w) (X.A.mark (some (.ref a4))) (passOn "try.except-as" u X.env : Sem Flow) Q Y s₄) E' s₃) E s' := by
  obtain ⟨a, B, sI, pn, σ, H, cls, d, rfl, I2, nb, up, sky, na, os, ag, w⟩ := x
  have J : Inv X pins σ H sI := unsuiteY I2 ok
  have hfr : (X.A.mark (some (.ref a4))).frames = some (X.env :: X.outer) := by
    have e : (X.A.mark (some (.ref a4))).frames = some X.stack := I2.ok.frames
    rw [e, hs]
  have sky' : Sky B (X.env :: X.outer) a (Zc cls d) X.env.locals s'.heap := by rw [← hs]; exact sky
  have hLm : X.env.locals ∈ frs X.stack := by rw [hs]; exact List.mem_filterMap.mpr ⟨X.env, List.mem_cons_self, hf⟩
  -- the frame is noted
  have noted : ∀ {Q' : Unit → Shared → Prop}, (∀ h1, HandSPX.HeldZ B (X.env :: X.outer) a (Zc cls d) X.env.locals h1 → s'.heap.UpToSlots h1 → Q' () { s' with heap := h1 }) → wpAny (model X.prog X.w) (X.A.mark (some (.ref a4))) (noteFrame (.ref a) X.env) Q' E s' := fun {Q'} fin => by
    rcases sky' with ⟨hB, hn, hl, oe, vs, he, hz, hd, h1⟩ | fl | hh
    · exact HandSPX.look_newZ Zc.steady hfr hl hf he hB hn hd h1 hz fin
    · exact HandSPX.looks_onZ Zc.steady hfr hf fl fin
    · exact HandSPX.againZ hf hh.2.2.2 (fin s'.heap hh (Heap.UpToSlots.refl _))
  refine noted fun h1 held up1 => ?_
  obtain ⟨hB, hnB, hfun, oe, vs, T, oT, ts, he, hz, hd, h1e, hnT, hTe, hT, hdT, h3⟩ := held
  have up' : sI.heap.UpToSlots h1 := up.trans up1
  obtain ⟨m, hn, hlk⟩ := id J.loc
  obtain ⟨oL, es, ep, hoL, hdL, hkL, hfL⟩ := id hn
  obtain ⟨sl, hL1⟩ := up' _ oL hoL (fun vs => by rw [hdL]; intro z; cases z)
  have hn1 : h1.Ns X.env.locals m := ⟨_, es, ep, hL1, hdL, hkL, hfL⟩
  have hcls : (X.env.scope.kind == .class || (X.env.scope.kind == .module && X.env.locals != X.env.globals)) = false := by rw [ok.kind]; rfl
  -- the name goes
  refine wpAny_nameGoes_keeps (s := { s' with heap := h1 }) hln hn1 hcls fun h2 v hn2 hs2 => ?_
  obtain ⟨o2, es2, ep2, ho2, hd2, _⟩ := id hn2
  have nf2 : ∀ vs, o2.data ≠ .fields vs := fun vs => by rw [hd2]; intro z; cases z
  have hLB : B.get? X.env.locals = none := by
    obtain ⟨_, ⟨L', o, e1, e2, _, _⟩, _⟩ := id hfun
    rw [hf] at e1; cases e1
    exact e2
  have neA : a ≠ X.env.locals := fun z => by
    rw [z, hL1] at he; cases he
    have z2 : oL.data = .fields vs := hd
    rw [hdL] at z2; cases z2
  have neT : T ≠ X.env.locals := fun z => by
    rw [z, hL1] at hT; cases hT
    have z2 : oL.data = .fields ts := hdT
    rw [hdL] at z2; cases z2
  have hB2 : B.StaysIn h2 := fun b o e => (hs2.2 b (fun z => by rw [z, hLB] at e; cases e)).trans (hB b o e)
  have hfun2 : h2.FunFrames B (X.env :: X.outer) := framesBut hs2 ⟨o2, ho2, nf2⟩ hfun
  have ht2 : HandSPX.TracedZ h2 B a (Zc cls d) (rawInt X.env.locals) := ⟨oe, vs, T, oT, ts, (hs2.2 a neA).trans he, hz, hd, h1e, hnT, hTe, (hs2.2 T neT).trans hT, hdT, h3⟩
  -- it is thrown on
  unfold PySem.passOn
  refine wpAny_bind (wpAny_field (s := { s' with heap := h2, toks := s'.toks + 1 }) ((hs2.2 a neA).trans he) hd h1e ?_)
  rw [if_neg (show ¬ ((Value.ref T == Value.none) = true) from by simp)]
  have fin : wpAny (model X.prog X.w) (X.A.mark (some (.ref a4))) (setFlight (.ref a) X.env.frame) (fun _ s4 => wpAny (model X.prog X.w) (X.A.mark (some (.ref a4))) (throw (.ref a) : Sem Flow) Q Y s4) Y { s' with heap := h2, toks := s'.toks + 1 } := by
    rw [hf]
    refine HandSPX.setFlight_anyZ (s := { s' with heap := h2, toks := s'.toks + 1 }) hB2 hfun2 ht2 fun h3' hB3 hfun3 ht3 up3 => wpAny_throw (hE _ _ (tk _ _ ?_))
    have hLI : (sI.heap.update X.env.locals (fun _ => o2)).get? X.env.locals = some o2 := Heap.get?_update_self (fun _ => o2) hoL (Obj.isFreed_of_dict hd2)
    have hOI : ∀ b, b ≠ X.env.locals → (sI.heap.update X.env.locals (fun _ => o2)).get? b = sI.heap.get? b := fun b hb => Heap.get?_update_other _ _ (Ne.symm hb)
    have hsI : Heap.SameBut X.env.locals sI.heap (sI.heap.update X.env.locals (fun _ => o2)) := Heap.SameBut.update _ _ _
    have JI : Inv X pins (σ.set i none) H { sI with heap := sI.heap.update X.env.locals (fun _ => o2) } := Inv.forget J hN hi hlk (hn2.at (fun o q => by rw [ho2] at q; cases q; exact hLI)) hsI
    refine ⟨a, B, _, pins, σ.set i none, H, cls, d, rfl, JI, fun b o e hb => ?_, fun b o e hnf => ?_, .inr (.inr (by rw [hs]; exact ⟨hB3, hnB, hfun3, ht3⟩)), na, os, ag, w⟩
    · have ne : b ≠ X.env.locals := fun z => hb (z ▸ hLm)
      exact nb b o ((hOI b ne).symm.trans e) hb
    · have e' : (sI.heap.update X.env.locals (fun _ => o2)).get? b = some o := e
      by_cases hb : b = X.env.locals
      · rw [hb, hLI] at e'; cases e'
        rw [hb]
        exact up3 _ _ ho2 nf2
      · rw [hOI b hb] at e'
        obtain ⟨s1, q1⟩ := up' b o e' hnf
        obtain ⟨s2, q2⟩ := up3 b _ ((hs2.2 b hb).trans q1) hnf
        exact ⟨s2, q2⟩
  first
    | exact wpAny_bind (wpAny_pure (wpAny_bind fin))
    | exact wpAny_bind fin
end DozY
end
section
namespace DozY
open PySem PySem.Spec PyProof.Rows L2 HotX
section
variable {X : Cx} {x n : Str} {c : Value} {i : Nat} {body suite : List Stmt} {b₀ : Stmt} {np pos pos' : Pos} {tb : WX → TS} {ts : Addr → Value → Option Addr → TS} {Wout : WX}
end
end DozY
end
section
namespace Doz
open PySem L2 DozY
open PySem.DozX (ExTxt)
open PyProof.Rows (envOfC)
section
variable {X : Cx} {hx : Option HX} {W : WX} {k n : Nat} {f C : Addr} {fd : FuncData} {ps ks : List Str} {m : MF} {gD : List D → List D → List D} {x nm : Str} {p pos apos : Pos} {o : Expr} {es : List Expr} {kws : List Keyword} {ma : MX (List D × List D)} {mo : ME}
structure MOkN (X : Cx) (nm : Str) (n : Nat) (ks : List Str) (C : Addr) (mm : MM) : Prop where
  ex : ∃ k f fd ps m gD, Cls X.K C ∧ Meth X.K C nm f ∧ FnOk X.prog X.w X.K X.mg X.base (L2N.CX X.prog X.w) k f fd ps (spM X.K ps.length m) ∧ Room k X.A ∧ Bd X.K fd ps (n + 1) ks gD ∧ mm = fun x ds ez μ => m (gD (x :: ds) ez) μ
end
theorem fn_okY {P : Program} {w : World} {K : PySem.W.Frag} {mg : Str → Option Value} {base : Heap} {x qual : Str} {params : Arguments} {body : List Stmt} {scope : Scope} {dvs : List V} {kws : List (Str × V)} {f : Addr} {fd : FuncData} {N ps : List Str} {k : Nat} {mb : MS}
    (F : FunD K x qual params body scope dvs kws f fd) (S : FnScope N ps scope)
    (hbody : ∀ (cdv : Value) (A : Around) (outer : List Env) (s : Shared) (H : Hp) (E : XK) (W : WX), Room k (A.deeper (envOfC qual scope s.heap.objs.size f cdv)) → Takes (cxOf (L2.CX P w) P w K mg base N qual scope f cdv A outer s H E) W →
      PassesOwn (model P w) (A.deeper (envOfC qual scope s.heap.objs.size f cdv)) (envOfC qual scope s.heap.objs.size f cdv) (cxOf (L2.CX P w) P w K mg base N qual scope f cdv A outer s H E).xe →
      (∀ hd : Option Value, PassesOwnAt (model P w) ((A.deeper (envOfC qual scope s.heap.objs.size f cdv)).mark hd) (A.deeper (envOfC qual scope s.heap.objs.size f cdv)) (envOfC qual scope s.heap.objs.size f cdv) (cxOf (L2.CX P w) P w K mg base N qual scope f cdv A outer s H E).xe) →
      RSs (cxOf (L2.CX P w) P w K mg base N qual scope f cdv A outer s H E) none W body mb) :
    FnOk P w K mg base (L2.CX P w) (k + 1) f fd ps (spM K ps.length (runB N.length mb)) :=
  fn_ok F S fun cdv A outer s H E W hr tk po => hbody cdv A outer s H E W hr tk po fun hd => L2H.passesAt_of (X := cxOf (L2.CX P w) P w K mg base N qual scope f cdv A outer s H E) rfl hd
section
variable {X : Cx} {hx : Option HX} {W : WX} {C fI : Addr} {k : Nat} {x : Str} {a : Expr} {ma : MX (List D)} {p pos pos2 : Pos}
end
def unY (i : Nat) : SRes → SRes
  | .nx δ μ => .nx (δ.set i none) μ
  | .bk δ μ => .bk (δ.set i none) μ
  | .ct δ μ => .ct (δ.set i none) μ
  | .rt d μ => .rt d μ
  | .err C w δ μ => .err C w (δ.set i none) μ
  | _ => .bad
section
variable {X : Cx} {W : WX} {x n : Str} {c : Value} {body suite : List Stmt} {b₀ : Stmt} {np pos pos' : Pos} {mb : MS} {ms : Addr → D → MS} {test : Addr → Option Bool}
end
end Doz
end
section
namespace PySem.W
open PySem PySem.Calls PyProof.Rows Builtin
end PySem.W
namespace Doz
open PySem L2
structure MOkL (X : Cx) (C : Addr) (mm : MM) : Prop where
  ex : ∃ k f fd ps m gD, Cls X.K C ∧ Meth X.K C "__len__" f ∧ FnOk X.prog X.w X.K X.mg X.base (L2.CX X.prog X.w) k f fd ps (spM X.K ps.length m) ∧ Room (k + 1) X.A ∧ Bd X.K fd ps 1 [] gD ∧ mm = fun x ds ez μ => m (gD (x :: ds) ez) μ
section
variable {X : Cx} {hx : Option HX} {W : WX} {o : Expr} {ma : MX (List D)} {p pos : Pos} {x : Str}
end
end Doz
end
section
namespace Doz
open PySem L2 PySem.Spec PyProof.Rows
section
variable {X : Cx} {hx : Option HX} {W : WX} {a b e v1 v2 o : Expr} {rest es : List Expr} {ma mb me : ME} {ms : List ME} {pos p : Pos} {x : Str}
def mjs : List ME → Str → DEnv → Mem → Res D
  | [], acc, _, μ => .ok (.str acc) μ
  | m :: ms, acc, δ, μ => (m δ μ).bind fun x μ1 => match x with
    | .str y => if (acc ++ y).length ≤ sizeLine then mjs ms (acc ++ y) δ μ1 else .bad
    | _ => .bad
structure RJ (X : Cx) (hx : Option HX) (W : WX) (es : List Expr) (ms : List ME) : Prop where
  ex : ∃ ts, PJ X es ts ∧ ∀ (acc : Str) ρ μ δ σ H (Q : V → Hp → Prop), Rel X.K ρ μ H → EnvR X.K ρ H hx δ σ → Okr X.K (DV X.K) ρ H (mjs ms acc δ μ) Q (fun c d H' => W c d σ H') → tJs ts acc σ H fun out H1 => Q (.str out) H1
end
structure MOkT (X : Cx) (C : Addr) (mm : MM) : Prop where
  ex : ∃ k f fd ps m gD, Cls X.K C ∧ Meth X.K C "__str__" f ∧ FnOk X.prog X.w X.K X.mg X.base (L2.CX X.prog X.w) k f fd ps (spM X.K ps.length m) ∧ Room (k + 1) X.A ∧ Bd X.K fd ps 1 [] gD ∧ mm = fun x ds ez μ => m (gD (x :: ds) ez) μ
section
variable {X : Cx} {hx : Option HX} {W : WX} {o : Expr} {ma : MX (List D)} {p pos : Pos} {x : Str}
end
end Doz
end
section
namespace Doz
open PySem L2 DozY
open PySem.DozX (ExTxt)
section
variable {X : Cx} {W : WX} {x : Str} {c : Value} {body suite : List Stmt} {b₀ : Stmt} {np pos pos' : Pos} {mb ms : MS} {test : Addr → Option Bool}
end
section
variable {X : Cx} {W : WX} {C fI : Addr} {k j : Nat} {x : Str} {a : Expr} {ma : MX (List D)} {p pos pos2 cpos : Pos}
end
end Doz
end
section
namespace Doz
open PySem L2
section
variable {X : Cx} {p : Addr} {es : Array DictEntry} {n : Nat} {td ty : TE} {o e : Expr} {apos cpos : Pos}
end
section
variable {X : Cx} {hx : Option HX} {W : WX} {x : Str} {e : Expr} {apos cpos pos : Pos} {me : ME} {kvs : List (Str × Str)}
end
end Doz
namespace PySem
namespace DozX
open PySem.W He
abbrev AlTX : Type := AlD × List (Option (List (Option (Str × Int))))
def obsXT (fa : List Fa) (fn : List DefD) (xs cs : List Str) (ts : List (Frag → Bool)) (tb : List (Str × List Str)) (K : Frag) : AlTX := (obsX fa fn xs cs ts K, tb.map fun t => dicW K (ga K t.1))
def valXT (fn : List DefD) (tb : List (Str × List Str)) (w : World) : AlTX := (valD fn, tb.map fun t => some (keysIn w.params t.2))
def SaysXT (fa : List Fa) (fn : List DefD) (xs cs : List Str) (ts : List (Frag → Bool)) (tb : List (Str × List Str)) (w : World) (K : Frag) : Prop := obsXT fa fn xs cs ts tb K = valXT fn tb w
section
variable {fa : List Fa} {fn : List DefD} {xs cs : List Str} {ts : List (Frag → Bool)} {tb : List (Str × List Str)} {w : World} {K : Frag}
theorem SaysXT.x (c : SaysXT fa fn xs cs ts tb w K) : SaysX fa fn xs cs ts K := congrArg (fun z : AlTX => z.1) c
theorem SaysXT.says (c : SaysXT fa fn xs cs ts tb w K) : SaysD fa fn K := c.x.says
theorem SaysXT.exc (c : SaysXT fa fn xs cs ts tb w K) (i : Nat) {x : Str} (h : xs[i]? = some x := by rfl) : exB K x = true := c.x.exc i h
theorem SaysXT.unlike (c : SaysXT fa fn xs cs ts tb w K) : (cs.map (ga K)).Nodup := c.x.unlike
theorem SaysXT.ck (c : SaysXT fa fn xs cs ts tb w K) (i : Nat) {p : Frag → Bool} (h : ts[i]? = some p := by rfl) : p K = true := c.x.ck i h
end
end DozX
end PySem
end
section
namespace Doz
open PySem L2
inductive TV where
  | s (y : Str) | i (n : Int) | f (x : Str)
def TV.d (c : Cl) : TV → D
  | .s y => .str y
  | .i n => .int n
  | .f x => .sta (c.fn x)
section
variable {X : Cx} {hx : Option HX} {W : WX} {x : Str} {e : Expr} {pos pos2 : Pos} {me : ME} {kvs : List (Str × TV)}
end
abbrev MV := List D → Mem → Res D
def vfn (gD : List D → List D → List D) (m : MF) : MV := fun ds μ => m (gD ds []) μ
structure VOk (X : Cx) (n : Nat) (a : Addr) (mm : MV) : Prop where
  ex : ∃ k fd ps m gD, FnOk X.prog X.w X.K X.mg X.base (L2.CX X.prog X.w) k a fd ps (spM X.K ps.length m) ∧ Room k X.A ∧ PySem.W.keepIn X.K (.ref a) = true ∧ Bd X.K fd ps n [] gD ∧ mm = vfn gD m
section
variable {X : Cx} {hx : Option HX} {W : WX} {n : Nat} {T : Addr → Option MV} {x : Str} {es : List Expr} {p pos : Pos} {ma : MX (List D × List D)}
end
end Doz
end
section
namespace Doz
open PySem L2
def t_n_Halldd_initdd (c : Cl) : MS := (mseq (masg (mcall fDict (mcons (mvar 1) mnil)) (gfld [c.n_Hall] ("numbers" : Str) (mvar 0)))
    (mseq (masg mdnew (gfld [c.n_Hall] ("beds" : Str) (mvar 0)))
    (mseq (masg mdnew (gfld [c.n_Hall] ("ranks" : Str) (mvar 0)))
    (mseq (masg mdnew (gfld [c.n_Hall] ("endings" : Str) (mvar 0)))
    (mseq (masg (mC (.int 0)) (gthen (gfld [c.n_Hall] ("clock" : Str) (mvar 0)) (gthen (gfld [c.n_Hall] ("turns" : Str) (mvar 0)) (gfld [c.n_Hall] ("begun" : Str) (mvar 0)))))
    (masg (mlc (mlst mnil)) (gfld [c.n_Hall] ("entries" : Str) (mvar 0))))))))
def m_n_Halldd_initdd (c : Cl) : MF := runB 2 (t_n_Halldd_initdd c)
end Doz
end
section
namespace Doz
open PySem L2
end Doz
end
section
namespace Doz
open PySem L2
end Doz
end
section
namespace Doz
open PySem L2
end Doz
end
section
namespace Doz
open PySem L2
def t_x__law_number_5 (c : Cl) : MS := (mseq (masg (mfn 2 0 (fun ds _ => ds) (m_x__law_draw c) (mpos (mcons (mvar 0) (mcons (mC (.int 6)) mnil)))) (gset 1))
    (mseq (mifS (mcmp cEqA (mvar 1) (mC (.int 4))) (mret (mfn 2 0 (fun ds _ => ds) (m_x__law_draw c) (mpos (mcons (mvar 0) (mcons (mop fPow (mC (.int 10)) (mC (.int 60))) mnil))))) mnx)
    (mseq (mifS (mcmp cEqA (mvar 1) (mC (.int 5))) (mret (mop fSub (mC (.int 0)) (mfn 2 0 (fun ds _ => ds) (m_x__law_draw c) (mpos (mcons (mvar 0) (mcons (mop fPow (mC (.int 10)) (mC (.int 60))) mnil)))))) mnx)
    (mret (mop fSub (mfn 2 0 (fun ds _ => ds) (m_x__law_draw c) (mpos (mcons (mvar 0) (mcons (mC (.int 5)) mnil)))) (mC (.int 1)))))))
def m_x__law_number_5 (c : Cl) : MF := runB 2 (t_x__law_number_5 c)
def t_x__law_book (c : Cl) : MS := (mseq (masg (mfz (mlst (mcons (mop fAdd (mC (.int 1)) (mfn 2 0 (fun ds _ => ds) (m_x__law_draw c) (mpos (mcons (mvar 0) (mcons (mC (.int 3)) mnil))))) (mcons (mfn 2 0 (fun ds _ => ds) (m_x__law_draw c) (mpos (mcons (mvar 0) (mcons (mC (.int 4)) mnil)))) (mcons (mfn 2 0 (fun ds _ => ds) (m_x__law_draw c) (mpos (mcons (mvar 0) (mcons (mC (.int 3)) mnil)))) (mcons (mop fAdd (mC (.int 1)) (mfn 2 0 (fun ds _ => ds) (m_x__law_draw c) (mpos (mcons (mvar 0) (mcons (mC (.int 3)) mnil))))) mnil)))))) (gset 1))
    (mseq (masg (mfn 2 0 (fun ds _ => ds) (m_x__law_names c) (mpos (mcons (mvar 0) (mcons (mop fAdd (mop fAdd (mop fAdd (mop fIx (mvar 1) (mC (.int 0))) (mop fIx (mvar 1) (mC (.int 1)))) (mop fIx (mvar 1) (mC (.int 2)))) (mop fIx (mvar 1) (mC (.int 3)))) mnil)))) (gset 2))
    (mseq (masg (mslice fSl (mvar 2) mnopart (mpart (mop fIx (mvar 1) (mC (.int 0))))) (gset 3))
    (mseq (masg (mop fAdd (mop fIx (mvar 1) (mC (.int 0))) (mop fIx (mvar 1) (mC (.int 1)))) (gset 4))
    (mseq (masg (mfz (mcomp [8] (miter (mslice fSl (mvar 2) (mpart (mop fIx (mvar 1) (mC (.int 0)))) (mpart (mvar 4)))) (gset 8) myes (mtup (mcons (mvar 8) (mcons (mop fIx (mvar 3) (mfn 2 0 (fun ds _ => ds) (m_x__law_draw c) (mpos (mcons (mvar 0) (mcons (mop fIx (mvar 1) (mC (.int 0))) mnil))))) mnil))))) (gset 5))
    (mseq (masg (mfz (mcomp [8] (miter (mslice fSl (mvar 2) (mpart (mvar 4)) (mpart (mop fAdd (mvar 4) (mop fIx (mvar 1) (mC (.int 2))))))) (gset 8) myes (mtup (mcons (mvar 8) (mcons (mcall fAbs (mcons (mfn 1 0 (fun ds _ => ds) (m_x__law_number_5 c) (mpos (mcons (mvar 0) mnil))) mnil)) mnil))))) (gset 6))
    (mseq (masg (mfz (mcomp [8] (miter (mslice fSl (mvar 2) (mpart (mop fAdd (mvar 4) (mop fIx (mvar 1) (mC (.int 2))))) mnopart)) (gset 8) myes (mtup (mcons (mvar 8) (mcons (mfn 1 0 (fun ds _ => ds) (m_x__law_number_5 c) (mpos (mcons (mvar 0) mnil))) mnil))))) (gset 7))
    (mret (mtup (mcons (mvar 3) (mcons (mvar 5) (mcons (mvar 6) (mcons (mvar 7) mnil)))))))))))))
def m_x__law_book (c : Cl) : MF := runB 9 (t_x__law_book c)
def t_n_names_read (c : Cl) : MS := (mseq (masg (mlc (mcall fListN (mcons (mvar 0) mnil))) (gset 4))
    (mseq (mfor (miter (mtup (mcons (mvar 1) (mcons (mvar 2) (mcons (mvar 3) mnil))))) (gset 5) (masg (mlc (mcatN (mvar 4) (mfz (mcomp [6, 7] (miter (mvar 5)) (gtup 2 (gcons (gset 6) (gcons (gset 7) gnil))) myes (mvar 6))))) (gset 4)))
    (mret (mvar 4))))
def m_n_names_read (c : Cl) : MF := runB 8 (t_n_names_read c)
def t_n_Bookdd_initdd (c : Cl) : MS := (mseq (masg mdnew (gset 5))
    (mseq (mfor (miter (mfn 4 0 (fun ds _ => ds) (m_n_names_read c) (mpos (mcons (mvar 1) (mcons (mvar 2) (mcons (mvar 3) (mcons (mvar 4) mnil))))))) (gset 6) (mseq (mifS (mcmp cIn (mvar 6) (mvar 5)) (mraise c.n_TwoNames (mcons (mvar 6) mnil)) mnx)
    (masg (mC (.bl true)) (gsub (mvar 5) (mvar 6)))))
    (mseq (mfor (miter (mvar 2)) (gtup 2 (gcons (gset 6) (gcons (gset 7) gnil))) (mifS (mcmp cNotIn (mvar 7) (mvar 1)) (mraise c.n_NoName (mcons (mvar 7) mnil)) mnx))
    (mseq (masg (mfz (mcall fListN (mcons (mvar 1) mnil))) (gfld [c.n_Book] ("locks" : Str) (mvar 0)))
    (mseq (masg (mdc [6, 7] (miter (mvar 2)) (gtup 2 (gcons (gset 6) (gcons (gset 7) gnil))) myes (mvar 6) (mvar 7)) (gfld [c.n_Book] ("conds" : Str) (mvar 0)))
    (mseq (masg (mdc [6, 8] (miter (mvar 3)) (gtup 2 (gcons (gset 6) (gcons (gset 8) gnil))) myes (mvar 6) (mvar 8)) (gfld [c.n_Book] ("counts" : Str) (mvar 0)))
    (masg (mdc [6, 8] (miter (mvar 4)) (gtup 2 (gcons (gset 6) (gcons (gset 8) gnil))) myes (mvar 6) (mvar 8)) (gfld [c.n_Book] ("cells" : Str) (mvar 0)))))))))
def m_n_Bookdd_initdd (c : Cl) : MF := runB 9 (t_n_Bookdd_initdd c)
def t_n_Book_lock_of (c : Cl) : MS := (mret (mop fIx (mfld ("conds" : Str) (mvar 0)) (mvar 1)))
def m_n_Book_lock_of (c : Cl) : MF := runB 2 (t_n_Book_lock_of c)
def t_n_add_rows (c : Cl) : MS := (mret (mlc (mlst (mcons (mtup (mcons (mC (.str ("add" : Str))) (mcons (mop fIx (mvar 1) (mC (.int 1))) (mcons (mop fIx (mvar 1) (mC (.int 2))) (mcons (mC (.int 0)) (mcons (mop fAdd (mvar 2) (mC (.int 1))) mnil)))))) mnil))))
def m_n_add_rows (c : Cl) : MF := runB 3 (t_n_add_rows c)
def t_n_all_rows (c : Cl) : MS := (mret (mlc (mlst (mcons (mtup (mcons (mC (.str ("add" : Str))) (mcons (mop fIx (mvar 1) (mC (.int 1))) (mcons (mC (.int 1)) (mcons (mC (.int 0)) (mcons (mop fAdd (mvar 2) (mC (.int 1))) mnil)))))) (mcons (mtup (mcons (mC (.str ("move" : Str))) (mcons (mop fIx (mvar 1) (mC (.int 1))) (mcons (mmth ("lock_of" : Str) 1 0 (fun C => List.lookup C [(c.n_Book, fun x ds ez μ => m_n_Book_lock_of c ((fun ds _ => ds) (x :: ds) ez) μ)]) (mvar 0) (mpos (mcons (mop fIx (mvar 1) (mC (.int 1))) mnil))) (mcons (mC (.int 1)) (mcons (mC (.int 1000)) mnil)))))) mnil)))))
def m_n_all_rows (c : Cl) : MF := runB 3 (t_n_all_rows c)
def t_n_resting_rows (c : Cl) : MS := (mseq (masg (mmth ("lock_of" : Str) 1 0 (fun C => List.lookup C [(c.n_Book, fun x ds ez μ => m_n_Book_lock_of c ((fun ds _ => ds) (x :: ds) ez) μ)]) (mvar 0) (mpos (mcons (mvar 1) mnil))) (gset 5))
    (mret (mlc (mlst (mcons (mtup (mcons (mC (.str ("load" : Str))) (mcons (mvar 1) mnil))) (mcons (mtup (mcons (mC (.str ("swap" : Str))) (mcons (mvar 5) (mcons (mC (.int 0)) (mcons (mC (.int 1)) (mcons (mop fAdd (mvar 2) (mC (.int 3))) mnil)))))) (mcons (mtup (mcons (mC (.str ("wake" : Str))) (mcons (mvar 5) (mcons (mC (.int 1)) mnil)))) (mcons (mtup (mcons (mC (.str ("still" : Str))) (mcons (mvar 1) (mcons (mop fAdd (mvar 2) (mC (.int 4))) (mcons (mop fAdd (mvar 2) (mC (.int 4))) (mcons (mvar 4) mnil)))))) (mcons (mtup (mcons (mC (.str ("swap" : Str))) (mcons (mvar 5) (mcons (mC (.int 2)) (mcons (mC (.int 0)) (mcons (mvar 3) mnil)))))) (mcons (mtup (mcons (mC (.str ("wait" : Str))) (mcons (mvar 5) (mcons (mC (.int 2)) (mcons (mop fAdd (mvar 2) (mC (.int 4))) (mcons (mop fAdd (mvar 2) (mC (.int 4))) (mcons (mneg (mC (.int 1))) mnil))))))) mnil))))))))))
def m_n_resting_rows (c : Cl) : MF := runB 6 (t_n_resting_rows c)
def t_n_await_rows (c : Cl) : MS := (mret (mlc (mcatN (mfz (mlst (mcons (mtup (mcons (mC (.str ("if" : Str))) (mcons (mop fIx (mvar 1) (mC (.int 2))) (mcons (mop fIx (mvar 1) (mC (.int 3))) (mcons (mop fAdd (mvar 2) (mC (.int 7))) mnil))))) mnil))) (mfn 5 0 (fun ds _ => ds) (m_n_resting_rows c) (mpos (mcons (mvar 0) (mcons (mop fIx (mvar 1) (mC (.int 1))) (mcons (mop fAdd (mvar 2) (mC (.int 1))) (mcons (mvar 2) (mcons (mneg (mC (.int 1))) mnil))))))))))
def m_n_await_rows (c : Cl) : MF := runB 3 (t_n_await_rows c)
def t_n_call_rows (c : Cl) : MS := (mret (mlc (mlst (mcons (mtup (mcons (mC (.str ("add" : Str))) (mcons (mop fIx (mvar 1) (mC (.int 1))) (mcons (mC (.int 1)) (mcons (mC (.int 0)) (mcons (mop fAdd (mvar 2) (mC (.int 1))) mnil)))))) (mcons (mtup (mcons (mC (.str ("wake" : Str))) (mcons (mop fIx (mvar 1) (mC (.int 1))) (mcons (mC (.int 1)) mnil)))) mnil)))))
def m_n_call_rows (c : Cl) : MF := runB 3 (t_n_call_rows c)
def t_n_down_rows (c : Cl) : MS := (mret (mlc (mlst (mcons (mtup (mcons (mC (.str ("take" : Str))) (mcons (mop fIx (mvar 1) (mC (.int 1))) (mcons (mop fAdd (mvar 2) (mC (.int 2))) mnil)))) (mcons (mtup (mcons (mC (.str ("wait" : Str))) (mcons (mop fIx (mvar 1) (mC (.int 1))) (mcons (mC (.int 0)) (mcons (mvar 2) (mcons (mvar 2) (mcons (mneg (mC (.int 1))) mnil))))))) mnil)))))
def m_n_down_rows (c : Cl) : MF := runB 3 (t_n_down_rows c)
def t_n_free_rows (c : Cl) : MS := (mret (mlc (mlst (mcons (mtup (mcons (mC (.str ("swap" : Str))) (mcons (mop fIx (mvar 1) (mC (.int 1))) (mcons (mC (.int 0)) (mcons (mC (.int 1)) (mcons (mop fAdd (mvar 2) (mC (.int 2))) mnil)))))) (mcons (mtup (mcons (mC (.str ("wake" : Str))) (mcons (mop fIx (mvar 1) (mC (.int 1))) (mcons (mC (.int 1)) mnil)))) mnil)))))
def m_n_free_rows (c : Cl) : MF := runB 3 (t_n_free_rows c)
def t_n_lock_rows (c : Cl) : MS := (mseq (masg (mop fIx (mvar 1) (mC (.int 1))) (gset 3))
    (mret (mlc (mlst (mcons (mtup (mcons (mC (.str ("cas" : Str))) (mcons (mvar 3) (mcons (mC (.int 0)) (mcons (mC (.int 1)) (mcons (mop fAdd (mvar 2) (mC (.int 3))) mnil)))))) (mcons (mtup (mcons (mC (.str ("swap" : Str))) (mcons (mvar 3) (mcons (mC (.int 2)) (mcons (mC (.int 0)) (mcons (mop fAdd (mvar 2) (mC (.int 3))) mnil)))))) (mcons (mtup (mcons (mC (.str ("wait" : Str))) (mcons (mvar 3) (mcons (mC (.int 2)) (mcons (mop fAdd (mvar 2) (mC (.int 1))) (mcons (mop fAdd (mvar 2) (mC (.int 1))) (mcons (mneg (mC (.int 1))) mnil))))))) mnil)))))))
def m_n_lock_rows (c : Cl) : MF := runB 4 (t_n_lock_rows c)
def t_n_rest_rows (c : Cl) : MS := (mret (mfn 5 0 (fun ds _ => ds) (m_n_resting_rows c) (mpos (mcons (mvar 0) (mcons (mop fIx (mvar 1) (mC (.int 1))) (mcons (mvar 2) (mcons (mop fAdd (mvar 2) (mC (.int 6))) (mcons (mneg (mC (.int 1))) mnil))))))))
def m_n_rest_rows (c : Cl) : MF := runB 3 (t_n_rest_rows c)
def t_n_set_rows (c : Cl) : MS := (mret (mlc (mlst (mcons (mtup (mcons (mC (.str ("set" : Str))) (mcons (mop fIx (mvar 1) (mC (.int 1))) (mcons (mop fIx (mvar 1) (mC (.int 2))) mnil)))) mnil))))
def m_n_set_rows (c : Cl) : MF := runB 3 (t_n_set_rows c)
def t_n_try_rows (c : Cl) : MS := (mseq (masg (mmth ("lock_of" : Str) 1 0 (fun C => List.lookup C [(c.n_Book, fun x ds ez μ => m_n_Book_lock_of c ((fun ds _ => ds) (x :: ds) ez) μ)]) (mvar 0) (mpos (mcons (mop fIx (mvar 1) (mC (.int 1))) mnil))) (gset 3))
    (mseq (masg (mop fAdd (mfz (mlst (mcons (mtup (mcons (mC (.str ("if" : Str))) (mcons (mop fIx (mvar 1) (mC (.int 2))) (mcons (mop fIx (mvar 1) (mC (.int 3))) (mcons (mop fAdd (mvar 2) (mC (.int 9))) mnil))))) mnil))) (mfn 5 0 (fun ds _ => ds) (m_n_resting_rows c) (mpos (mcons (mvar 0) (mcons (mop fIx (mvar 1) (mC (.int 1))) (mcons (mop fAdd (mvar 2) (mC (.int 1))) (mcons (mvar 2) (mcons (mop fAdd (mvar 2) (mC (.int 7))) mnil)))))))) (gset 4))
    (mret (mlc (mcatN (mvar 4) (mfz (mlst (mcons (mtup (mcons (mC (.str ("swap" : Str))) (mcons (mvar 3) (mcons (mC (.int 2)) (mcons (mC (.int 0)) (mcons (mop fAdd (mvar 2) (mC (.int 9))) mnil)))))) (mcons (mtup (mcons (mC (.str ("wait" : Str))) (mcons (mvar 3) (mcons (mC (.int 2)) (mcons (mop fAdd (mvar 2) (mC (.int 7))) (mcons (mop fAdd (mvar 2) (mC (.int 7))) (mcons (mneg (mC (.int 1))) mnil))))))) mnil)))))))))
def m_n_try_rows (c : Cl) : MF := runB 5 (t_n_try_rows c)
end Doz
end
section
namespace Doz
open PySem PySem.Spec PyProof.Rows L2
section
variable {X : Cx}
end
section
variable {X : Cx} {hx : Option HX} {W : WX}
end
end Doz
end
section
namespace Doz
open PySem L2
end Doz
end
section
namespace Doz
open PySem L2
def t_n_names_of (c : Cl) : MS := (mseq (mifS (mcmp cEqA (mop fIx (mvar 0) (mC (.int 0))) (mC (.str ("move" : Str)))) (mret (mslice fSl (mvar 0) (mpart (mC (.int 1))) (mpart (mC (.int 3))))) mnx)
    (mret (mslice fSl (mvar 0) (mpart (mC (.int 1))) (mpart (mC (.int 2))))))
def m_n_names_of (c : Cl) : MF := runB 1 (t_n_names_of c)
def t_n_counts_of (c : Cl) : MS := (mseq (mifS (mcmp cEqA (mop fIx (mvar 0) (mC (.int 0))) (mC (.str ("wake" : Str)))) (mret (mslice fSl (mvar 0) (mpart (mC (.int 2))) mnopart)) mnx)
    (mseq (mifS (mcmp cEqA (mop fIx (mvar 0) (mC (.int 0))) (mC (.str ("move" : Str)))) (mret (mslice fSl (mvar 0) (mpart (mC (.int 3))) mnopart)) mnx)
    (mret (mtup mnil))))
def m_n_counts_of (c : Cl) : MF := runB 1 (t_n_counts_of c)
def t_n_ways_of (c : Cl) : MS := (mseq (mifS (mcmp cIn (mop fIx (mvar 0) (mC (.int 0))) (mC (.tup [.str ("add" : Str), .str ("cas" : Str), .str ("swap" : Str), .str ("take" : Str), .str ("if" : Str)]))) (mret (mslice fSl (mvar 0) (mpart (mneg (mC (.int 1)))) mnopart)) mnx)
    (mseq (mifS (mcmp cIn (mop fIx (mvar 0) (mC (.int 0))) (mC (.tup [.str ("wait" : Str), .str ("still" : Str)]))) (mret (mslice fSl (mvar 0) (mpart (mneg (mC (.int 3)))) mnopart)) mnx)
    (mret (mtup mnil))))
def m_n_ways_of (c : Cl) : MF := runB 1 (t_n_ways_of c)
def t_n_is_bad (c : Cl) : MS := (mseq (mifS (mnot (masB (mcall (fAll fun bs => bs.all id) (mcons (mfz (mcomp [4] (miter (mfn 1 0 (fun ds _ => ds) (m_n_names_of c) (mpos (mcons (mvar 0) mnil)))) (gset 4) myes (mbl (mcmp cIn (mvar 4) (mvar 1))))) mnil)))) (mret (mC (.bl true))) mnx)
    (mseq (mifS (mand (mcmp cEqA (mop fIx (mvar 0) (mC (.int 0))) (mC (.str ("move" : Str)))) (mcmp cEqA (mop fIx (mvar 0) (mC (.int 1))) (mop fIx (mvar 0) (mC (.int 2))))) (mret (mC (.bl true))) mnx)
    (mseq (mifS (mnot (masB (mcall (fAll fun bs => bs.all id) (mcons (mfz (mcomp [5] (miter (mfn 1 0 (fun ds _ => ds) (m_n_counts_of c) (mpos (mcons (mvar 0) mnil)))) (gset 5) myes (mbl (mcmp cGe (mvar 5) (mC (.int 0)))))) mnil)))) (mret (mC (.bl true))) mnx)
    (mseq (masg (mlc (mcall fListN (mcons (mfn 1 0 (fun ds _ => ds) (m_n_ways_of c) (mpos (mcons (mvar 0) mnil))) mnil))) (gset 3))
    (mseq (mifS (mand (mcmp cIn (mop fIx (mvar 0) (mC (.int 0))) (mC (.tup [.str ("wait" : Str), .str ("still" : Str)]))) (mcmp cEqA (mop fIx (mvar 3) (mneg (mC (.int 1)))) (mC (.int (-1))))) (mdrop (mmeth tyL fPop (mvar 3) mnil)) mnx)
    (mret (mnotV (mcall (fAll fun bs => bs.all id) (mcons (mfz (mcomp [6] (miter (mvar 3)) (gset 6) myes (mchainV cLe cLe (mC (.int 0)) (mvar 6) (mvar 2)))) mnil)))))))))
def m_n_is_bad (c : Cl) : MF := runB 7 (t_n_is_bad c)
def t_n_look_at_plans (c : Cl) : MS := (mfor (mcall fEnum (mcons (mvar 1) mnil)) (gtup 2 (gcons (gset 2) (gcons (gset 3) gnil))) (mfor (mcall fEnum (mcons (mvar 3) mnil)) (gtup 2 (gcons (gset 4) (gcons (gset 5) gnil))) (mifS (masB (mfn 3 0 (fun ds _ => ds) (m_n_is_bad c) (mpos (mcons (mvar 5) (mcons (mvar 0) (mcons (mcall fLen (mcons (mvar 3) mnil)) mnil)))))) (mraise c.n_BadPlan (mcons (mtup (mcons (mvar 2) (mcons (mvar 4) mnil))) mnil)) mnx)))
def m_n_look_at_plans (c : Cl) : MF := runB 6 (t_n_look_at_plans c)
def t_n_Worlddd_initdd (c : Cl) : MS := (mseq (masg (mfz (mcomp [6] (miter (mvar 2)) (gset 6) myes (mfz (mcall fListN (mcons (mvar 6) mnil))))) (gfld [c.n_World] ("plans" : Str) (mvar 0)))
    (mseq (mdrop (mfn 2 0 (fun ds _ => ds) (m_n_look_at_plans c) (mpos (mcons (mvar 1) (mcons (mfld ("plans" : Str) (mvar 0)) mnil)))))
    (mseq (masg (mfz (mcall fSortDN (mcons (mvar 1) mnil))) (gfld [c.n_World] ("names" : Str) (mvar 0)))
    (mseq (masg (mcall fTuple (mcons (mfz (mcomp [7] (miter (mfld ("names" : Str) (mvar 0))) (gset 7) myes (mop fIx (mvar 1) (mvar 7)))) mnil)) (gfld [c.n_World] ("numbers" : Str) (mvar 0)))
    (mseq (masg (mvar 5) (gfld [c.n_World] ("nudges" : Str) (mvar 0)))
    (mseq (masg (mfz (mcomp [6] (miter (mvar 2)) (gset 6) myes (mC (.int 0)))) (gfld [c.n_World] ("ranks" : Str) (mvar 0)))
    (mseq (mifS (mcmp cIsNot (mvar 4) (mC .non)) (masg (mfz (mcall fListN (mcons (mvar 4) mnil))) (gfld [c.n_World] ("ranks" : Str) (mvar 0))) mnx)
    (mseq (masg (mC .non) (gfld [c.n_World] ("marks" : Str) (mvar 0)))
    (mifS (mcmp cIsNot (mvar 3) (mC .non)) (masg (mfz (mcomp [8] (miter (mvar 3)) (gset 8) myes (mfz (mcomp [9] (miter (mvar 8)) (gset 9) myes (mcall fTuple (mcons (mvar 9) mnil)))))) (gfld [c.n_World] ("marks" : Str) (mvar 0))) mnx)))))))))
def m_n_Worlddd_initdd (c : Cl) : MF := runB 10 (t_n_Worlddd_initdd c)
def t_x__law_made (c : Cl) : MS := (mseq (masg (mfz (mcomp [3] (miter (mop fIx (mvar 1) (mC (.int 2)))) (gset 3) myes (mfz (mcall fListN (mcons (mvar 3) mnil))))) (gset 2))
    (mseq (mifS (mand (mcmp cEqA (mop fIx (mvar 1) (mC (.int 3))) (mfz (mrepN (mlst (mcons (mC (.int 0)) mnil)) (mcall fLen (mcons (mop fIx (mvar 1) (mC (.int 3))) mnil))))) (mnot (masB (mop fIx (mvar 1) (mC (.int 4)))))) (mret (mmk c.n_World 2 0 (fun ds es => match ds, es with | [x0, x1, x2], [] => [x0, x1, x2, .non, .non, .bl false] | _, _ => []) (m_n_Worlddd_initdd c) (mpos (mcons (mcall fDict (mcons (mvar 0) mnil)) (mcons (mvar 2) mnil))))) mnx)
    (mret (mmk c.n_World 2 2 (fun ds es => match ds, es with | [x0, x1, x2], [y0, y1] => [x0, x1, x2, .non, y0, y1] | _, _ => []) (m_n_Worlddd_initdd c) (mboth (mcons (mcall fDict (mcons (mvar 0) mnil)) (mcons (mvar 2) mnil)) (mcons (mfz (mcall fListN (mcons (mop fIx (mvar 1) (mC (.int 3))) mnil))) (mcons (mop fIx (mvar 1) (mC (.int 4))) mnil)))))))
def m_x__law_made (c : Cl) : MF := runB 4 (t_x__law_made c)
end Doz
end
section
namespace Doz
open PySem L2
end Doz
end
section
namespace Doz
open PySem PySem.Spec PySem.Calls PyProof.Rows L2 HotX L2H
section
variable {prog : Program} {w : World} {A : Around} {E : Value → Shared → Prop} {s : Shared}
end
end Doz
end
section
namespace Doz
open PySem PySem.Spec PyProof.Rows L2 HotX L2H
abbrev blkP (X : Cx) (p : Addr × Obj) (s : Shared) (H : Hp) (sc : Scope) (ce : Env) (fp : List Addr) : Cx := { X.blk s H sc ce fp with pn := [p] }
section
variable {X : Cx} {p : Addr × Obj} {elt tg iter : Expr} {ifs : List Expr} {sc : Scope} {own : List (Str × Nat)} {pos : Pos} {g : TG} {tt : TT} {te : TE}
end
end Doz
end
section
namespace Doz
open PySem PySem.Spec PyProof.Rows L2 L2H
section
variable {X : Cx} {W : WX} {pos p1 p2 p3 : Pos}
end
structure ErrAt (p : Addr × Obj) (C dd : Addr) : Prop where
  z : Zc (.ref C) (some dd) p.2
  f : ∃ vs, p.2.data = .fields vs
def runX (n : Nat) (m : MS) (μ : Mem) : Res D := match m (List.replicate n none) μ with
  | .nx _ μ1 => .ok .non μ1
  | .rt d μ1 => .ok d μ1
  | _ => .bad
def SpX (K : PySem.W.Frag) (tst : Addr → Option Bool) (n : Nat) (mb : Addr → D → MS) (p : Addr × Obj) (H : Hp) (Q : VK) : Prop :=
  ∃ C dd w ρ μ v, tst C = some true ∧ ErrAt p C dd ∧ H dd = some (.xd [(("what" : Str), v)]) ∧ DV K ρ H w v ∧ Rel K ρ μ H ∧ Okr K (DV K) ρ H (runX n (mb C w) μ) Q (fun _ _ _ => False)
structure FnX (P : Program) (w : World) (K : PySem.W.Frag) (mg : Str → Option Value) (base : Heap) (CX : CXT) (k : Nat) (f : Addr) (fd : FuncData) (x : Str) (tst : Addr → Option Bool) (n : Nat) (mb : Addr → D → MS) : Prop where
  run : ∀ (A : Around) (outer : List Env) (s : Shared) (H : Hp) (Q : VK) (p : Addr × Obj), RoomH k A → Hot1 A p → PinOk outer H s p → Env0 P w K mg base A outer s H → BindsTo s fd ⟨[.ref p.1], []⟩ [(x, .ref p.1)] → SpX K tst n mb p H Q →
    codeAny (model P w) A (.call (.ref f) ⟨[.ref p.1], []⟩) (CR CX outer P w H s Q fun _ _ _ => False) s
end Doz
end
section
namespace Doz
open PySem PySem.Spec PyProof.Rows L2 L2H
section
variable {X : Cx} {W : WX} {pos p1 p2 : Pos} {p : Addr × Obj}
end
structure RIH (X : Cx) (hx : Option HX) (W : WX) (tg iter : Expr) (m : MX Its0) : Prop where
  ex : ∃ wi : TI, PIH X tg iter wi ∧ Ref X.K hx W (ItR X.K) wi m
structure RGcP (X : Cx) (p : Addr × Obj) (scope : Scope) (vs : List Nat) (tg : Expr) (mg : MG) : Prop where
  ex : ∃ g : TG, (∀ (s : Shared) (H : Hp) (C : Addr) (cl : List (Str × Addr)) (fp : List Addr), PG (blkP X p s H scope (compEnvC scope cl C X.env) fp) tg g) ∧
    ∀ ρ μ δ σ H d v (Q : L2.St → Hp → Prop), Rel X.K ρ μ H → EnvR X.K ρ H none δ σ → DV X.K ρ H d v → OkGw X.K vs σ ρ H (mg d δ μ) Q → g v σ H Q
structure RGcsP (X : Cx) (p : Addr × Obj) (scope : Scope) (vs : List Nat) (tgs : List Expr) (mg : MGs) : Prop where
  ex : ∃ g : TGs, (∀ (s : Shared) (H : Hp) (C : Addr) (cl : List (Str × Addr)) (fp : List Addr), PGs (blkP X p s H scope (compEnvC scope cl C X.env) fp) tgs g) ∧
    ∀ ρ μ δ σ H d v (Q : L2.St → Hp → Prop), Rel X.K ρ μ H → EnvR X.K ρ H none δ σ → DVs X.K ρ H d v → OkGw X.K vs σ ρ H (mg d δ μ) Q → g v σ H Q
section
variable {X : Cx} {p : Addr × Obj} {scope : Scope} {vs : List Nat} {pos : Pos}
end
end Doz
end
section
namespace Doz
open PySem PySem.Spec PyProof.Rows L2 L2H
section
variable {X : Cx} {hx : Option HX} {W : WX} {k n : Nat} {f C fI : Addr} {fd : FuncData} {ps ks : List Str} {m : MF} {gD : List D → List D → List D} {x nm : Str} {p pos apos : Pos} {o : Expr} {es : List Expr} {kws : List Keyword} {ma : MX (List D × List D)} {mo : ME}
end
section
variable {X : Cx} {W : WX} {C fI : Addr} {pos p2 : Pos}
theorem pe_whatP {p : Addr × Obj} {cls : Value} {d : Option Addr} {e : Expr} {te : TE} (T : PySem.DozX.ExTxt X.K C fI) (hz : Zc cls d p.2) (hf : ∃ vs, p.2.data = .fields vs) (hp : p ∈ X.pn) (he : PE X e te)
    (hb : attributeBase e "what" X.env (eval e X.env) = eval e X.env := by rfl) : PE X (.Attribute e "what" pos) (tWhat C p.1 cls d te) := by
  refine ⟨fun pins s σ H Q I h => attr_of hb (thn (he.run pins s σ H _ I h) fun u s1 ⟨x, H1, I1, rx, ex, ec, dd, v, ed, ea, q⟩ => ?_)⟩
  subst ex ec ed
  obtain rfl : u = Value.ref p.1 := rx
  obtain ⟨ha, _⟩ := I1.pin p (List.mem_append_left _ hp)
  obtain ⟨vs, hd⟩ := hf
  obtain ⟨mA, hns, hr⟩ : ObjOk X.prog X.w H1 s1.heap dd (.xd [(("what" : Str), v)]) := I1.hok dd _ ea
  obtain ⟨od, ho, hl⟩ := lookIn_ns hns
  obtain ⟨u, hu, ru⟩ := RelO.some_of (v := v) (o := mA "what") (by have := hr "what"; simpa [List.lookup] using this)
  exact HandSPX.exc_get I1.kIn ⟨ha, hz.1, by unfold PySem.W.notCls; rw [hd] <;> rfl, by rw [hz.2]; exact ho⟩ T.ga T.gg T.exC (PySem.W.findObj_own T.hdC T.noN rfl (by rw [hl, hu])) (handed_of ru) ⟨v, H1, I1.tok _, ru, q⟩
theorem re_whatP {i : Nat} {p : Addr × Obj} {dd : Addr} {w : D} {y : Str} (T : PySem.DozX.ExTxt X.K C fI) (ea : ErrAt p C dd) (hp : p ∈ X.pn)
    (hN : X.N[i]? = some y := by rfl) (hv : Vis X.env.scope y := by first | exact Or.inl rfl | exact Or.inr (Or.inl rfl) | exact Or.inr (Or.inr rfl)) (hd : (y == ("__debug__" : Str)) = false := by decide)
    (hcd : (y == ("__classdict__" : Str)) = false := by decide) (hb : attributeBase (.Name y p2) "what" X.env (eval (.Name y p2) X.env) = eval (.Name y p2) X.env := by rfl) :
    RE X (some ⟨i, p.1, C, dd, w, none⟩) W (.Attribute (.Name y p2) "what" pos) (mC w) := by
  refine ⟨⟨_, pe_whatP T ea.z ea.f hp (pe_var (X := X) (i := i) hN hv hd hcd) hb, fun ρ μ δ σ H Q rel env ok => ?_⟩⟩
  obtain ⟨h1, h2, v, h3, h4⟩ := env.exn _ rfl
  exact ⟨.ref p.1, h1, rfl, rfl, dd, v, rfl, h3, Okr.now ok rel h4.1⟩
end
end Doz
end
section
namespace DozY
open PySem PySem.Spec PyProof.Rows L2 HotX
section
variable {X : Cx} {x n : Str} {c : Value} {i : Nat} {body suite : List Stmt} {b₀ : Stmt} {np pos pos' : Pos} {tb : WX → TS} {ts : Addr → Value → Option Addr → TS} {Wout : WX}
end
end DozY
namespace Doz
open PySem PySem.Spec PyProof.Rows L2 HotX DozY
section
variable {X : Cx} {W : WX} {x n : Str} {c : Value} {body suite : List Stmt} {b₀ : Stmt} {np pos pos' : Pos} {mb : MS} {ms : Addr → D → MS} {test : Addr → Option Bool}
end
end Doz
end
section
namespace DozY
open PySem PySem.Spec PyProof.Rows L2 HotX
section
variable {X : Cx} {x1 n1 x2 n2 : Str} {c1 c2 : Value} {i1 i2 : Nat} {body suite1 suite2 : List Stmt} {b1 b2 : Stmt} {np1 np2 pos pos1 pos2 : Pos} {tb : WX → TS} {ts1 ts2 : Addr → Value → Option Addr → TS} {Wout : WX}
theorem ps_try_as2 (hs : X.stack = X.env :: X.outer) (hf : X.env.frame = some X.env.locals) (hN : X.N.Nodup) (hi1 : X.N[i1]? = some n1) (hln1 : X.env.kindOf n1 = some .local) (hc1 : Names X x1 c1) (hi2 : X.N[i2]? = some n2) (hln2 : X.env.kindOf n2 = some .local) (hc2 : Names X x2 c2) (hpa : ∀ hd : Option Value, PassesOwnAt (model X.prog X.w) (X.A.mark hd) X.A X.env X.xe) (tk : L2.Takes X Wout)
    (hb : ∀ (W : WX) (pn : List (Addr × Obj)) (xe : Value → Shared → Prop), L2.Takes (X.tr pn xe) W → PassesOwn (model X.prog X.w) X.A X.env xe → PSs (X.tr pn xe) body (tb W))
    (hsu1 : ∀ (a : Addr) (oe : Obj) (cls : Value) (d : Option Addr) (pn : List (Addr × Obj)) (xe : Value → Shared → Prop), Zc cls d oe → (∃ vs, oe.data = .fields vs) → L2.Takes (suiteY X a ((a, oe) :: pn) xe) (fun cls d σ H => Wout cls d (σ.set i1 none) H) →
      PSs (suiteY X a ((a, oe) :: pn) xe) (b1 :: suite1) (ts1 a cls d))
    (hsu2 : ∀ (a : Addr) (oe : Obj) (cls : Value) (d : Option Addr) (pn : List (Addr × Obj)) (xe : Value → Shared → Prop), Zc cls d oe → (∃ vs, oe.data = .fields vs) → L2.Takes (suiteY X a ((a, oe) :: pn) xe) (fun cls d σ H => Wout cls d (σ.set i2 none) H) →
      PSs (suiteY X a ((a, oe) :: pn) xe) (b2 :: suite2) (ts2 a cls d)) :
    PS X (.Try body [.ExceptHandler (some (.Name x1 np1)) (some n1) (b1 :: suite1) pos1, .ExceptHandler (some (.Name x2 np2)) (some n2) (b2 :: suite2) pos2] [] [] pos) (fun D σ H => tb (wAs X.K c1 i1 ts1 (wAs X.K c2 i2 ts2 Wout D) D) D σ H) := by
  refine ⟨fun pins s σ H D I h => ?_⟩
  have ok := I.ok
  have hfr : X.A.frames = some (X.env :: X.outer) := by rw [ok.frames, hs]
  refine wpAny_Try_except ?_
  refine wpAny_mono ((hb (wAs X.K c1 i1 ts1 (wAs X.K c2 i2 ts2 Wout D) D) (X.pn ++ pins) (fun e s₁ => wpAny (model X.prog X.w) X.A (noteFrame e X.env) (fun _ s₂ => wpAny (model X.prog X.w) X.A (setFlight e none) (fun _ s₃ =>
    wpAny (model X.prog X.w) X.A (handleBy e X.env [.ExceptHandler (some (.Name x1 np1)) (some n1) (b1 :: suite1) pos1, .ExceptHandler (some (.Name x2 np2)) (some n2) (b2 :: suite2) pos2]) (SP X pins D) X.xe s₃) X.xe s₂) X.xe s₁) (fun u s' xx => ?_) PassesOwn.looking).run [] s σ H D (I.toTry _) h) (fun f s1 hsp => ?_) (fun e s1 he => he)
  · obtain ⟨a, B, sI, pins', σ', H', cls, d, rfl, J', nb, up, sky, na, os, ag, b, hb1, hyes, hno⟩ := xx
    have J : Inv X pins σ' H' sI := J'.ofTry ok
    have sky' : Sky B (X.env :: X.outer) a (Zc cls d) X.env.locals s'.heap := by rw [← hs]; exact sky
    show wpAny (model X.prog X.w) X.A (noteFrame (.ref a) X.env) _ _ _
    refine Sky.land Zc.steady hfr hf sky' fun h3 fl3 up3 => ?_
    have J3 : Inv X pins σ' H' { s' with heap := h3 } := J.landed nb fl3.1 (up.trans up3) os ag
    obtain ⟨oe3, vs3, he3, hz3, hd3⟩ := fl3.there
    have nfr : a ∉ frs (X.env :: X.outer) := fun hm => by
      obtain ⟨_, o', e', hnf⟩ := fl3.2.2.1.mem hm
      rw [he3] at e'; cases e'
      exact hnf _ hd3
    have nL : a ≠ X.env.locals := fun z => nfr (List.mem_filterMap.mpr ⟨X.env, List.mem_cons_self, by rw [hf, z]⟩)
    have nF : a ∉ X.fs := fun hm => by
      obtain ⟨e, he, q⟩ := List.mem_filterMap.mp hm
      exact nfr (List.mem_filterMap.mpr ⟨e, List.mem_cons_of_mem _ he, q⟩)
    have S3 := J3.suite he3 hd3 na nL nF
    have step : ∀ {x n : Str} {c : Value} {i : Nat} {suite : List Stmt} {b₀ : Stmt} {np pos' : Pos} {ts : Addr → Value → Option Addr → TS} {rest : List ExceptHandler} {b : Bool}, X.N[i]? = some n → X.env.kindOf n = some .local → Names X x c →
        (∀ (a : Addr) (oe : Obj) (cls : Value) (d : Option Addr) (pn : List (Addr × Obj)) (xe : Value → Shared → Prop), Zc cls d oe → (∃ vs, oe.data = .fields vs) → L2.Takes (suiteY X a ((a, oe) :: pn) xe) (fun cls d σ H => Wout cls d (σ.set i none) H) → PSs (suiteY X a ((a, oe) :: pn) xe) (b₀ :: suite) (ts a cls d)) →
        PySem.W.exmOne X.K cls c = some b → (b = true → ∀ a, H' a = none → ts a cls d { nx := fun σ' H' => D.nx (σ'.set i none) H', rt := D.rt, bk := fun σ' H' => D.bk (σ'.set i none) H', ct := fun σ' H' => D.ct (σ'.set i none) H' } (σ'.set i (some (.ref a))) H') →
        (b = false → wpAny (model X.prog X.w) X.A (handleBy (.ref a) X.env rest) (SP X pins D) X.xe { s' with heap := h3 }) →
        wpAny (model X.prog X.w) X.A (handleBy (.ref a) X.env (.ExceptHandler (some (.Name x np)) (some n) (b₀ :: suite) pos' :: rest)) (SP X pins D) X.xe { s' with heap := h3 } := by
      intro x n c i suite b₀ np pos' ts rest b hi hln hc hsu hb1 hyes hno
      have hloc : Loc X.env.scope n := .inl hln
      refine wpAny_handleBy_cons (codeAny_handlers_test ?_) (by intro q; cases q)
      have LT : PySem.W.Looks (model X.prog X.w) h3 (typeOf (.ref a)) cls := fun A Q E s k q => wpAny_typeOf_ref (k _ _ he3) (by rw [hz3.1]; exact q)
      have LM := PySem.W.exm_one (M := model X.prog X.w) (J3.kIn) LT hb1
      have test : ∀ {Q : Value → Shared → Prop} {E : Value → Shared → Prop}, Q c { s' with heap := h3 } → wpAny (model X.prog X.w) (X.A.mark (some (.ref a))) (eval (.Name x np) X.env) Q E { s' with heap := h3 } := fun {Q E} q => by
        obtain ⟨hg, hdbg, hm | ⟨hm, hv, hnn⟩⟩ := hc
        · exact ld_glob (X := X.suite a ((a, oe3) :: (X.pn ++ pins))) S3 hg hm q hdbg
        · exact ld_blt (X := X.suite a ((a, oe3) :: (X.pn ++ pins))) S3 hg hm hv q hnn hdbg
      refine test (LM.here ?_)
      cases b with
      | true =>
        refine codeAny_handlers_suite_as ?_
        refine HandSPX.lands_againZ fl3 fun h4 fl4 up4 => ?_
        have J4 : Inv X pins σ' H' { s' with heap := h4 } := J.landed nb fl4.1 ((up.trans up3).trans up4) os ag
        obtain ⟨oe4, vs4, he4, hz4, hd4⟩ := fl4.there
        have S4 := J4.suite he4 hd4 na nL nF
        refine store_ok (X := X.suite a ((a, oe4) :: (X.pn ++ pins))) (v := .ref a) S4 hN hi hloc rfl (fun s5 S5 => ?_) (.inr hln)
        refine wpAny_mono ((hsu a oe4 cls d (X.pn ++ pins) _ hz4 ⟨_, hd4⟩ (fun u2 s2 x2 => ?_)).run [] s5 _ H' _ (suiteY_of S5) (hyes rfl a na)) (fun f s6 hsp => ?_) (fun e6 s6 z => z)
        · exact goesOn (pos := pos') hs hf hN hi hln tk ok (fun u s5 z => hpa (some (.ref a)) u s5 z) x2
        · have end_ : ∀ {σ6 : L2.St} {H6 : Hp} {xe : Value → Shared → Prop} {Q : Shared → Prop}, Inv (suiteY X a ((a, oe4) :: (X.pn ++ pins)) xe) [] σ6 H6 s6 → (∀ s7, Inv X pins (σ6.set i none) H6 s7 → Q s7) →
              wpAny (model X.prog X.w) X.A (do bindName X.env n .none; unbindBehindTheSuite X.env n pos') (fun _ s7 => Q s7) X.xe s6 := fun {σ6 H6 xe Q} S6 hq => gone_ok (unsuiteY S6 ok) hN hi hln hq
          cases f with
          | next =>
            obtain ⟨σ6, H6, S6, q6⟩ := hsp
            exact end_ S6 fun s7 J7 => ⟨_, _, J7, q6⟩
          | brk =>
            obtain ⟨σ6, H6, S6, q6⟩ := hsp
            exact end_ S6 fun s7 J7 => ⟨_, _, J7, q6⟩
          | cont =>
            obtain ⟨σ6, H6, S6, q6⟩ := hsp
            exact end_ S6 fun s7 J7 => ⟨_, _, J7, q6⟩
          | ret u =>
            obtain ⟨v6, σ6, H6, S6, r6, q6⟩ := hsp
            exact end_ S6 fun s7 J7 => ⟨_, _, _, J7, r6, q6⟩
      | false => exact hno rfl
    refine step hi1 hln1 hc1 hsu1 hb1 hyes fun hb0 => ?_
    obtain ⟨bb, hb2, hyes2, hno2⟩ := hno hb0
    refine step hi2 hln2 hc2 hsu2 hb2 hyes2 fun hbb => ?_
    show wpAny _ X.A (handleBy (.ref a) X.env []) _ _ _
    refine wpAny_handleBy_nil ?_
    obtain ⟨k1, k2, k3, oe, vs, T, oT, ts', he, hz, hd, h1, hr⟩ := id fl3
    unfold PySem.passOn
    refine wpAny_bind (wpAny_field he hd h1 ?_)
    rw [if_neg (show ¬ ((Value.ref T == Value.none) = true) from by simp)]
    have fin : wpAny (model X.prog X.w) X.A (setFlight (.ref a) X.env.frame) (fun _ s4 => wpAny (model X.prog X.w) X.A (throw (.ref a) : Sem Flow) (SP X pins D) X.xe s4) X.xe { s' with heap := h3 } := by
      rw [hf]
      refine HandSPX.setFlight_upZ fl3 fun h4 hh4 up4 => wpAny_throw (tk _ _ ?_)
      exact ⟨a, B, sI, pins, σ', H', cls, d, rfl, J, nb, (up.trans up3).trans up4, .inr (.inr (by rw [hs]; exact hh4)), na, os, ag, hno2 hbb⟩
    first
      | exact wpAny_bind (wpAny_pure (wpAny_bind fin))
      | exact wpAny_bind fin
  · cases f with
    | next =>
      obtain ⟨σ', H', J', q⟩ := hsp
      exact wpAny_execs_nil ⟨σ', H', J'.ofTry ok, q⟩
    | brk =>
      obtain ⟨σ', H', J', q⟩ := hsp
      exact ⟨σ', H', J'.ofTry ok, q⟩
    | cont =>
      obtain ⟨σ', H', J', q⟩ := hsp
      exact ⟨σ', H', J'.ofTry ok, q⟩
    | ret u =>
      obtain ⟨v, σ', H', J', r, q⟩ := hsp
      exact ⟨v, σ', H', J'.ofTry ok, r, q⟩
end
end DozY
namespace Doz
open PySem PySem.Spec PyProof.Rows L2 HotX DozY
def mtry2 (i : Nat) (test1 test2 : Addr → Option Bool) (mb : MS) (ms1 ms2 : Addr → D → MS) : MS := fun δ μ => match mb δ μ with
  | .err C w δ1 μ1 => match test1 C with
    | some true => if i < δ1.length then unY i (ms1 C w (δ1.set i none) μ1) else .bad
    | some false => match test2 C with
      | some true => if i < δ1.length then unY i (ms2 C w (δ1.set i none) μ1) else .bad
      | some false => .err C w δ1 μ1
      | none => .bad
    | none => .bad
  | r => r
section
variable {X : Cx} {W : WX} {x1 x2 n : Str} {c1 c2 : Value} {body suite1 suite2 : List Stmt} {b1 b2 : Stmt} {np1 np2 pos pos1 pos2 : Pos} {mb : MS} {ms1 ms2 : Addr → D → MS} {test1 test2 : Addr → Option Bool}
theorem rs_try2 (i : Nat) (hs : X.stack = X.env :: X.outer) (hf : X.env.frame = some X.env.locals) (hN : X.N.Nodup) (hc1 : Names X x1 c1) (hc2 : Names X x2 c2) (hpa : ∀ hd : Option Value, PassesOwnAt (model X.prog X.w) (X.A.mark hd) X.A X.env X.xe) (tk : Takes X W) (hT1 : ∀ C b, test1 C = some b → PySem.W.exmOne X.K (.ref C) c1 = some b) (hT2 : ∀ C b, test2 C = some b → PySem.W.exmOne X.K (.ref C) c2 = some b)
    (hb : ∀ (W : WX) (pn : List (Addr × Obj)) (xe : Value → Shared → Prop), Takes (X.tr pn xe) W → PassesOwn (model X.prog X.w) X.A X.env xe → RSs (X.tr pn xe) none W body mb)
    (hsu1 : ∀ (a : Addr) (oe : Obj) (C dd : Addr) (w : D) (pn : List (Addr × Obj)) (xe : Value → Shared → Prop) (W' : WX), test1 C = some true → Zc (.ref C) (some dd) oe → (∃ vs, oe.data = .fields vs) → Takes (suiteY X a ((a, oe) :: pn) xe) W' →
      RSs (suiteY X a ((a, oe) :: pn) xe) (some ⟨i, a, C, dd, w, none⟩) W' (b1 :: suite1) (ms1 C w))
    (hsu2 : ∀ (a : Addr) (oe : Obj) (C dd : Addr) (w : D) (pn : List (Addr × Obj)) (xe : Value → Shared → Prop) (W' : WX), test2 C = some true → Zc (.ref C) (some dd) oe → (∃ vs, oe.data = .fields vs) → Takes (suiteY X a ((a, oe) :: pn) xe) W' →
      RSs (suiteY X a ((a, oe) :: pn) xe) (some ⟨i, a, C, dd, w, none⟩) W' (b2 :: suite2) (ms2 C w))
    (hi : X.N[i]? = some n := by rfl) (hln : X.env.kindOf n = some .local := by rfl) :
    RS X none W (.Try body [.ExceptHandler (some (.Name x1 np1)) (some n) (b1 :: suite1) pos1, .ExceptHandler (some (.Name x2 np2)) (some n) (b2 :: suite2) pos2] [] [] pos) (mtry2 i test1 test2 mb ms1 ms2) := by
  let W' : WX := fun cls d σ H => W cls d (σ.set i none) H
  let ts1 : Addr → Value → Option Addr → TS := fun a cls d Dn σ H => ∃ C dd w, cls = .ref C ∧ d = some dd ∧ test1 C = some true ∧ TmS X.K (some ⟨i, a, C, dd, w, none⟩) W' (ms1 C w) Dn σ H
  let ts2 : Addr → Value → Option Addr → TS := fun a cls d Dn σ H => ∃ C dd w, cls = .ref C ∧ d = some dd ∧ test2 C = some true ∧ TmS X.K (some ⟨i, a, C, dd, w, none⟩) W' (ms2 C w) Dn σ H
  refine ⟨⟨_, ps_try_as2 (tb := fun W => TmS X.K none W mb) (ts1 := ts1) (ts2 := ts2) hs hf hN hi hln hc1 hi hln hc2 hpa tk (fun W pn xe t p => (hb W pn xe t p).pss) (fun a oe cls d pn xe hz hv tkS => ?_) (fun a oe cls d pn xe hz hv tkS => ?_), fun ρ μ δ σ H Dn rel env ok => ⟨ρ, μ, δ, rel, env, ?_⟩⟩⟩
  · refine ⟨fun pins s σ H Dn I ⟨C, dd, w, e1, e2, ht, h⟩ => ?_⟩
    subst e1 e2
    exact (hsu1 a oe C dd w pn xe W' ht hz hv tkS).pss.run pins s σ H Dn I h
  · refine ⟨fun pins s σ H Dn I ⟨C, dd, w, e1, e2, ht, h⟩ => ?_⟩
    subst e1 e2
    exact (hsu2 a oe C dd w pn xe W' ht hz hv tkS).pss.run pins s σ H Dn I h
  · unfold mtry2 at ok
    cases e : mb δ μ with
    | nx δ1 μ1 => rw [e] at ok; exact ok
    | rt d μ1 => rw [e] at ok; exact ok
    | bk δ1 μ1 => rw [e] at ok; exact ok
    | ct δ1 μ1 => rw [e] at ok; exact ok
    | bad => rw [e] at ok; exact ok
    | err C w δ1 μ1 =>
      rw [e] at ok
      dsimp only at ok
      intro ρ1 H1 σ1 dd v p1 f1 rel1 env1 hd dv
      cases ht1 : test1 C with
      | none => rw [ht1] at ok; exact ok.elim
      | some q1 =>
        rw [ht1] at ok
        cases q1 with
        | true =>
          dsimp only at ok
          split at ok
          · rename_i hl
            refine ⟨true, hT1 C true ht1, fun _ a ha => ⟨C, dd, w, rfl, rfl, ht1, ρ1, μ1, δ1.set i none, rel1, env1.hold hl (rel1.noxd hd) hd dv, ?_⟩, fun z => nomatch z⟩
            revert ok
            cases ms1 C w (δ1.set i none) μ1 with
            | nx δ2 μ2 => exact fun ok ρ2 H2 σ2 p2 f2 rel2 env2 => ok ρ2 H2 _ (p1.trans p2) (f1.trans f2) rel2 env2.nox.unset
            | bk δ2 μ2 => exact fun ok ρ2 H2 σ2 p2 f2 rel2 env2 => ok ρ2 H2 _ (p1.trans p2) (f1.trans f2) rel2 env2.nox.unset
            | ct δ2 μ2 => exact fun ok ρ2 H2 σ2 p2 f2 rel2 env2 => ok ρ2 H2 _ (p1.trans p2) (f1.trans f2) rel2 env2.nox.unset
            | rt d μ2 => exact fun ok ρ2 H2 v2 p2 f2 rel2 dv2 => ok ρ2 H2 v2 (p1.trans p2) (f1.trans f2) rel2 dv2
            | err C2 w2 δ2 μ2 => exact fun ok ρ2 H2 σ2 dd2 v2 p2 f2 rel2 env2 hd2 dv2 => ok ρ2 H2 _ dd2 v2 (p1.trans p2) (f1.trans f2) rel2 env2.nox.unset hd2 dv2
            | bad => exact fun ok => ok.elim
          · exact ok.elim
        | false =>
          dsimp only at ok
          refine ⟨false, hT1 C false ht1, (fun z => nomatch z), fun _ => ?_⟩
          cases ht2 : test2 C with
          | none => rw [ht2] at ok; exact ok.elim
          | some q2 =>
            rw [ht2] at ok
            cases q2 with
            | true =>
              dsimp only at ok
              split at ok
              · rename_i hl
                refine ⟨true, hT2 C true ht2, fun _ a ha => ⟨C, dd, w, rfl, rfl, ht2, ρ1, μ1, δ1.set i none, rel1, env1.hold hl (rel1.noxd hd) hd dv, ?_⟩, fun z => nomatch z⟩
                revert ok
                cases ms2 C w (δ1.set i none) μ1 with
                | nx δ2 μ2 => exact fun ok ρ2 H2 σ2 p2 f2 rel2 env2 => ok ρ2 H2 _ (p1.trans p2) (f1.trans f2) rel2 env2.nox.unset
                | bk δ2 μ2 => exact fun ok ρ2 H2 σ2 p2 f2 rel2 env2 => ok ρ2 H2 _ (p1.trans p2) (f1.trans f2) rel2 env2.nox.unset
                | ct δ2 μ2 => exact fun ok ρ2 H2 σ2 p2 f2 rel2 env2 => ok ρ2 H2 _ (p1.trans p2) (f1.trans f2) rel2 env2.nox.unset
                | rt d μ2 => exact fun ok ρ2 H2 v2 p2 f2 rel2 dv2 => ok ρ2 H2 v2 (p1.trans p2) (f1.trans f2) rel2 dv2
                | err C2 w2 δ2 μ2 => exact fun ok ρ2 H2 σ2 dd2 v2 p2 f2 rel2 env2 hd2 dv2 => ok ρ2 H2 _ dd2 v2 (p1.trans p2) (f1.trans f2) rel2 env2.nox.unset hd2 dv2
                | bad => exact fun ok => ok.elim
              · exact ok.elim
            | false => exact ⟨false, hT2 C false ht2, (fun z => nomatch z), fun _ => ok ρ1 H1 σ1 dd v p1 f1 rel1 env1 hd dv⟩
end
end Doz
end
section
namespace Doz
open PySem L2
end Doz
end
section
namespace Doz
open PySem L2
end Doz
end
section
namespace Doz
open PySem L2
end Doz
end
section
namespace Doz
open PySem L2
end Doz
end
section
namespace Doz
open PySem L2
section
variable {X : Cx} {hx : Option HX} {W : WX} {st : Stmt} {ms : MS} {e : Expr} {m : ME}
end
end Doz
end
section
namespace Doz
open PySem L2 PySem.Spec PyProof.Rows
section
variable {X : Cx} {hx : Option HX} {W : WX} {e : Expr} {m : ME} {pos p1 p3 : Pos} {x : Str} {A : Addr}
end
end Doz
end
section
namespace Doz
open PySem L2
end Doz
end
section
namespace PySem
namespace DozX
open PySem.W He
end DozX
end PySem
end
section
namespace K62
open PySem L2 Doz
open PySem.DozX (ExTxt SaysX exB_ok hookX obsXG obsXG_eq)
def top (i : Nat) : Stmt := PySem.Challenge.pw_dozehall_k62_books_of_names.main.body.getD i noSt
abbrev s_x__law_draw : Stmt := top 10
abbrev s_x__law_spoilt : Stmt := top 15
abbrev s_x__law_names : Stmt := top 11
abbrev s_x__law_number : Stmt := top 12
abbrev s_x__law_book : Stmt := top 13
abbrev s_x__law_source : Stmt := top 9
abbrev s_x__law_due : Stmt := top 14
abbrev s_n_DozeErrordd_initdd : Stmt := meth (top 2) 0
abbrev s_n_names_read : Stmt := top 6
abbrev s_n_Bookdd_initdd : Stmt := meth (top 7) 0
abbrev s_n_Book_lock_of : Stmt := meth (top 7) 1
abbrev s_x__law_found : Stmt := top 16
abbrev s_x__law_kinds : Stmt := top 17
abbrev s_n_law : Stmt := top 18
def t_x__law_spoilt (c : Cl) : MS := (mseq (masg (mfn 2 0 (fun ds _ => ds) (m_x__law_draw c) (mpos (mcons (mvar 0) (mcons (mC (.int 9)) mnil)))) (gset 2))
    (mseq (masg (mvar 1) (gtup 4 (gcons (gset 13) (gcons (gset 9) (gcons (gset 11) (gcons (gset 12) gnil))))))
    (mseq (masg (mop fAdd (mvar 13) (mfz (mcomp [17] (miter (mop fAdd (mop fAdd (mvar 9) (mvar 11)) (mvar 12))) (gset 17) myes (mop fIx (mvar 17) (mC (.int 0)))))) (gset 3))
    (mseq (masg (mcall fLen (mcons (mvar 3) mnil)) (gset 4))
    (mseq (masg (mop fAdd (mvar 3) (mfz (mlst (mcons (mC (.str ("zzzzzzzz" : Str))) mnil)))) (gset 5))
    (mseq (mfor (mcall fRng1 (mcons (mop fMod (mvar 2) (mC (.int 3))) mnil)) (gset 6) (mseq (masg (mfn 2 0 (fun ds _ => ds) (m_x__law_draw c) (mpos (mcons (mvar 0) (mcons (mvar 4) mnil)))) (gset 14))
    (mseq (masg (mfn 2 0 (fun ds _ => ds) (m_x__law_draw c) (mpos (mcons (mvar 0) (mcons (mvar 4) mnil)))) (gset 15))
    (masg (mop fAdd (mop fAdd (mslice fSl (mvar 3) mnopart (mpart (mvar 14))) (mfz (mlst (mcons (mop fIx (mvar 3) (mvar 15)) mnil)))) (mslice fSl (mvar 3) (mpart (mop fAdd (mvar 14) (mC (.int 1)))) mnopart)) (gset 3)))))
    (mseq (masg (mcall fLen (mcons (mvar 13) mnil)) (gset 7))
    (mseq (masg (mfz (mcomp [17] (miter (mvar 9)) (gset 17) myes (mop fIx (mvar 17) (mC (.int 1))))) (gset 8))
    (mseq (mfor (mcall fRng1 (mcons (mop fDiv (mvar 2) (mC (.int 3))) mnil)) (gset 6) (mseq (masg (mfn 2 0 (fun ds _ => ds) (m_x__law_draw c) (mpos (mcons (mvar 0) (mcons (mC (.int 3)) mnil)))) (gset 14))
    (mseq (masg (mop fIx (mvar 5) (mfn 2 0 (fun ds _ => ds) (m_x__law_draw c) (mpos (mcons (mvar 0) (mcons (mop fAdd (mvar 4) (mC (.int 1))) mnil))))) (gset 16))
    (masg (mfz (mcomp [18] (mcall fRng1 (mcons (mcall fLen (mcons (mvar 8) mnil)) mnil)) (gset 18) myes (mop fIx (mfz (mlst (mcons (mop fIx (mvar 8) (mvar 18)) (mcons (mvar 16) mnil)))) (mcall fIntC (mcons (mbl (mcmp cEqA (mvar 18) (mvar 14))) mnil))))) (gset 8)))))
    (mseq (masg (mfz (mcomp [18] (mcall fRng1 (mcons (mcall fLen (mcons (mvar 9) mnil)) mnil)) (gset 18) myes (mtup (mcons (mop fIx (mvar 3) (mop fAdd (mvar 7) (mvar 18))) (mcons (mop fIx (mvar 8) (mvar 18)) mnil))))) (gset 9))
    (mseq (masg (mop fAdd (mvar 7) (mcall fLen (mcons (mvar 9) mnil))) (gset 10))
    (mseq (masg (mfz (mcomp [18] (mcall fRng1 (mcons (mcall fLen (mcons (mvar 11) mnil)) mnil)) (gset 18) myes (mtup (mcons (mop fIx (mvar 3) (mop fAdd (mvar 10) (mvar 18))) (mcons (mop fIx (mop fIx (mvar 11) (mvar 18)) (mC (.int 1))) mnil))))) (gset 11))
    (mseq (masg (mop fAdd (mvar 10) (mcall fLen (mcons (mvar 11) mnil))) (gset 10))
    (mseq (masg (mfz (mcomp [18] (mcall fRng1 (mcons (mcall fLen (mcons (mvar 12) mnil)) mnil)) (gset 18) myes (mtup (mcons (mop fIx (mvar 3) (mop fAdd (mvar 10) (mvar 18))) (mcons (mop fIx (mop fIx (mvar 12) (mvar 18)) (mC (.int 1))) mnil))))) (gset 12))
    (mret (mtup (mcons (mslice fSl (mvar 3) mnopart (mpart (mvar 7))) (mcons (mvar 9) (mcons (mvar 11) (mcons (mvar 12) mnil))))))))))))))))))))
def m_x__law_spoilt (c : Cl) : MF := runB 19 (t_x__law_spoilt c)
def t_x__law_due (c : Cl) : MS := (mseq (masg (mlc (mlst mnil)) (gset 4))
    (mseq (mfor (miter (mop fAdd (mvar 0) (mfz (mcomp [6] (miter (mop fAdd (mop fAdd (mvar 1) (mvar 2)) (mvar 3))) (gset 6) myes (mop fIx (mvar 6) (mC (.int 0))))))) (gset 5) (mseq (mifS (mcmp cIn (mvar 5) (mvar 4)) (mret (mtup (mcons (mC (.str ("two" : Str))) (mcons (mvar 5) mnil)))) mnx)
    (mdrop (mmeth tyL fAppend (mvar 4) (mcons (mvar 5) mnil)))))
    (mseq (mfor (miter (mvar 1)) (gset 6) (mifS (mcmp cNotIn (mop fIx (mvar 6) (mC (.int 1))) (mvar 0)) (mret (mtup (mcons (mC (.str ("none" : Str))) (mcons (mop fIx (mvar 6) (mC (.int 1))) mnil)))) mnx))
    (mret (mtup (mcons (mC (.str ("made" : Str))) (mcons (mfz (mcomp [6] (miter (mvar 1)) (gset 6) myes (mop fIx (mvar 6) (mC (.int 1))))) mnil)))))))
def m_x__law_due (c : Cl) : MF := runB 7 (t_x__law_due c)
def t_x__law_found (c : Cl) : MS := (mseq (masg (mC .non) (gset 5))
    (mseq (masg (mC .non) (gset 6))
    (mseq (masg (mfz (mlst (mcons (mlc (mcall fListN (mcons (mvar 0) mnil))) (mcons (mlc (mcall fListN (mcons (mvar 1) mnil))) (mcons (mlc (mcall fListN (mcons (mvar 2) mnil))) (mcons (mlc (mcall fListN (mcons (mvar 3) mnil))) mnil)))))) (gset 7))
    (mseq (mtry2 8 (fun C => List.lookup C [(c.n_TwoNames, true), (c.n_NoName, false)]) (fun C => List.lookup C [(c.n_TwoNames, false), (c.n_NoName, true)]) (mifS (masB (mvar 4)) (masg (mmk c.n_Book 0 4 (fun ds es => match ds, es with | [x0], [y0, y1, y2, y3] => [x0, y0, y1, y2, y3] | _, _ => []) (m_n_Bookdd_initdd c) (mkws (mcons (mop fIx (mvar 7) (mC (.int 0))) (mcons (mop fIx (mvar 7) (mC (.int 1))) (mcons (mop fIx (mvar 7) (mC (.int 2))) (mcons (mop fIx (mvar 7) (mC (.int 3))) mnil)))))) (gset 5)) (mifS (mand (mcmp cEqA (mvar 2) (mfz (mlst mnil))) (mcmp cEqA (mvar 3) (mfz (mlst mnil)))) (masg (mmk c.n_Book 0 1 (fun ds es => match ds, es with | [x0], [y0] => [x0, .tup [], y0, .tup [], .tup []] | _, _ => []) (m_n_Bookdd_initdd c) (mkws (mcons (mop fIx (mvar 7) (mC (.int 1))) mnil))) (gset 5)) (masg (mmk c.n_Book 0 2 (fun ds es => match ds, es with | [x0], [y0, y1] => [x0, y1, .tup [], .tup [], y0] | _, _ => []) (m_n_Bookdd_initdd c) (mkws (mcons (mop fIx (mvar 7) (mC (.int 3))) (mcons (mop fIx (mvar 7) (mC (.int 0))) mnil)))) (gset 5)))) (fun _ w => (masg (mtup (mcons (mC (.str ("two" : Str))) (mcons (mC w) mnil))) (gset 6))) (fun _ w => (masg (mtup (mcons (mC (.str ("none" : Str))) (mcons (mC w) mnil))) (gset 6))))
    (mseq (mifS (mcmp cNeA (mvar 7) (mfz (mlst (mcons (mvar 0) (mcons (mvar 1) (mcons (mvar 2) (mcons (mvar 3) mnil))))))) (mret (mtup (mcons (mC (.str ("changed" : Str))) (mcons (mC (.int 0)) mnil)))) mnx)
    (mseq (mifS (mcmp cIs (mvar 5) (mC .non)) (mret (mvar 6)) mnx)
    (mseq (mfor (miter (mvar 7)) (gset 9) (mseq (mdrop (mmeth tyL fAppend (mvar 9) (mcons (mtup (mcons (mC (.str ("zzzzzzzz" : Str))) (mcons (mC (.str ("zzzzzzzz" : Str))) mnil))) mnil)))
    (mdrop (mmeth tyL fReverse (mvar 9) mnil))))
    (mseq (masg (mfz (mcomp [12] (miter (mvar 1)) (gset 12) myes (mmth ("lock_of" : Str) 1 0 (fun C => List.lookup C [(c.n_Book, fun x ds ez μ => m_n_Book_lock_of c ((fun ds _ => ds) (x :: ds) ez) μ)]) (mvar 5) (mpos (mcons (mop fIx (mvar 12) (mC (.int 0))) mnil))))) (gset 10))
    (mseq (masg (mfz (mcomp [12] (mrev (mvar 1)) (gset 12) myes (mmth ("lock_of" : Str) 1 0 (fun C => List.lookup C [(c.n_Book, fun x ds ez μ => m_n_Book_lock_of c ((fun ds _ => ds) (x :: ds) ez) μ)]) (mvar 5) (mpos (mcons (mop fIx (mvar 12) (mC (.int 0))) mnil))))) (gset 11))
    (mseq (mifS (mcmp cNeA (mfz (mrevL (mvar 11))) (mvar 10)) (mret (mtup (mcons (mC (.str ("changed" : Str))) (mcons (mC (.int 1)) mnil)))) mnx)
    (mret (mtup (mcons (mC (.str ("made" : Str))) (mcons (mvar 10) mnil))))))))))))))
def m_x__law_found (c : Cl) : MF := runB 13 (t_x__law_found c)
def t_x__law_kinds (c : Cl) : MS := (mseq (masg (mfz (mlst (mcons (mC (.bl false)) (mcons (mC (.bl false)) (mcons (mC (.bl false)) mnil))))) (gset 4))
    (mseq (mtry 5 (fun C => List.lookup C [(c.n_TwoNames, true), (c.n_NoName, true)]) (mdrop (mmk c.n_Book 0 4 (fun ds es => match ds, es with | [x0], [y0, y1, y2, y3] => [x0, y0, y1, y2, y3] | _, _ => []) (m_n_Bookdd_initdd c) (mkws (mcons (mcall fTuple (mcons (mvar 0) mnil)) (mcons (mcall fTuple (mcons (mvar 1) mnil)) (mcons (mcall fTuple (mcons (mvar 2) mnil)) (mcons (mcall fTuple (mcons (mvar 3) mnil)) mnil))))))) (fun C w => (masg (mfz (mlst (mcons (mC (.bl ((List.lookup C [(c.n_TwoNames, true), (c.n_NoName, true)]).getD false))) (mcons (mC (.bl ((List.lookup C [(c.n_TwoNames, true), (c.n_NoName, false)]).getD false))) (mcons (mC (.bl ((List.lookup C [(c.n_TwoNames, false), (c.n_NoName, true)]).getD false))) mnil))))) (gset 4))))
    (mret (mvar 4))))
def m_x__law_kinds (c : Cl) : MF := runB 6 (t_x__law_kinds c)
def t_n_law (c : Cl) : MS := (mseq (masg (mfn 2 0 (fun ds _ => ds) (m_x__law_spoilt c) (mpos (mcons (mfn 2 0 (fun ds _ => ds) (m_x__law_source c) (mpos (mcons (mvar 0) (mcons (mC (.int 1)) mnil)))) (mcons (mfn 1 0 (fun ds _ => ds) (m_x__law_book c) (mpos (mcons (mfn 2 0 (fun ds _ => ds) (m_x__law_source c) (mpos (mcons (mvar 0) (mcons (mC (.int 0)) mnil)))) mnil))) mnil)))) (gtup 4 (gcons (gset 2) (gcons (gset 3) (gcons (gset 4) (gcons (gset 5) gnil))))))
    (mseq (masg (mfn 4 0 (fun ds _ => ds) (m_x__law_due c) (mpos (mcons (mvar 2) (mcons (mvar 3) (mcons (mvar 4) (mcons (mvar 5) mnil)))))) (gset 1))
    (mseq (mifS (mcmp cNeA (mfn 5 0 (fun ds _ => ds) (m_x__law_found c) (mpos (mcons (mvar 2) (mcons (mvar 3) (mcons (mvar 4) (mcons (mvar 5) (mcons (mC (.bl true)) mnil))))))) (mvar 1)) (mret (mC (.bl false))) mnx)
    (mseq (mifS (mcmp cNeA (mfn 4 0 (fun ds _ => ds) (m_x__law_kinds c) (mpos (mcons (mvar 2) (mcons (mvar 3) (mcons (mvar 4) (mcons (mvar 5) mnil)))))) (mfz (mlst (mcons (mbl (mcmp cNeA (mop fIx (mvar 1) (mC (.int 0))) (mC (.str ("made" : Str))))) (mcons (mbl (mcmp cEqA (mop fIx (mvar 1) (mC (.int 0))) (mC (.str ("two" : Str))))) (mcons (mbl (mcmp cEqA (mop fIx (mvar 1) (mC (.int 0))) (mC (.str ("none" : Str))))) mnil)))))) (mret (mC (.bl false))) mnx)
    (mseq (mifS (mcmp cNeA (mfn 5 0 (fun ds _ => ds) (m_x__law_found c) (mpos (mcons (mfz (mlst mnil)) (mcons (mvar 3) (mcons (mfz (mlst mnil)) (mcons (mfz (mlst mnil)) (mcons (mC (.bl false)) mnil))))))) (mfn 4 0 (fun ds _ => ds) (m_x__law_due c) (mpos (mcons (mfz (mlst mnil)) (mcons (mvar 3) (mcons (mfz (mlst mnil)) (mcons (mfz (mlst mnil)) mnil))))))) (mret (mC (.bl false))) mnx)
    (mseq (mifS (mcmp cNeA (mfn 5 0 (fun ds _ => ds) (m_x__law_found c) (mpos (mcons (mvar 2) (mcons (mfz (mlst mnil)) (mcons (mfz (mlst mnil)) (mcons (mvar 5) (mcons (mC (.bl false)) mnil))))))) (mfn 4 0 (fun ds _ => ds) (m_x__law_due c) (mpos (mcons (mvar 2) (mcons (mfz (mlst mnil)) (mcons (mfz (mlst mnil)) (mcons (mvar 5) mnil))))))) (mret (mC (.bl false))) mnx)
    (mret (mC (.bl true)))))))))
def m_n_law (c : Cl) : MF := runB 6 (t_n_law c)
def d_x__law_draw : He.DefD := ⟨("_law_draw", none), "_law_draw", "_law_draw", defArgs s_x__law_draw, defBody s_x__law_draw, defScope s_x__law_draw, [], []⟩
def d_x__law_spoilt : He.DefD := ⟨("_law_spoilt", none), "_law_spoilt", "_law_spoilt", defArgs s_x__law_spoilt, defBody s_x__law_spoilt, defScope s_x__law_spoilt, [], []⟩
def d_x__law_names : He.DefD := ⟨("_law_names", none), "_law_names", "_law_names", defArgs s_x__law_names, defBody s_x__law_names, defScope s_x__law_names, [], []⟩
def d_x__law_number : He.DefD := ⟨("_law_number", none), "_law_number", "_law_number", defArgs s_x__law_number, defBody s_x__law_number, defScope s_x__law_number, [], []⟩
def d_x__law_book : He.DefD := ⟨("_law_book", none), "_law_book", "_law_book", defArgs s_x__law_book, defBody s_x__law_book, defScope s_x__law_book, [], []⟩
def d_x__law_source : He.DefD := ⟨("_law_source", none), "_law_source", "_law_source", defArgs s_x__law_source, defBody s_x__law_source, defScope s_x__law_source, [], []⟩
def d_x__law_due : He.DefD := ⟨("_law_due", none), "_law_due", "_law_due", defArgs s_x__law_due, defBody s_x__law_due, defScope s_x__law_due, [], []⟩
def d_n_DozeErrordd_initdd : He.DefD := ⟨("DozeError", some "__init__"), "__init__", "DozeError.__init__", defArgs s_n_DozeErrordd_initdd, defBody s_n_DozeErrordd_initdd, defScope s_n_DozeErrordd_initdd, [], []⟩
def d_n_names_read : He.DefD := ⟨("names_read", none), "names_read", "names_read", defArgs s_n_names_read, defBody s_n_names_read, defScope s_n_names_read, [], []⟩
def d_n_Bookdd_initdd : He.DefD := ⟨("Book", some "__init__"), "__init__", "Book.__init__", defArgs s_n_Bookdd_initdd, defBody s_n_Bookdd_initdd, defScope s_n_Bookdd_initdd, [], [("locks", .adr (PySem.DozX.kwAt ("Book", some "__init__") "locks")), ("conds", .adr (PySem.DozX.kwAt ("Book", some "__init__") "conds")), ("counts", .adr (PySem.DozX.kwAt ("Book", some "__init__") "counts")), ("cells", .adr (PySem.DozX.kwAt ("Book", some "__init__") "cells"))]⟩
def d_n_Book_lock_of : He.DefD := ⟨("Book", some "lock_of"), "lock_of", "Book.lock_of", defArgs s_n_Book_lock_of, defBody s_n_Book_lock_of, defScope s_n_Book_lock_of, [], []⟩
def d_x__law_found : He.DefD := ⟨("_law_found", none), "_law_found", "_law_found", defArgs s_x__law_found, defBody s_x__law_found, defScope s_x__law_found, [], []⟩
def d_x__law_kinds : He.DefD := ⟨("_law_kinds", none), "_law_kinds", "_law_kinds", defArgs s_x__law_kinds, defBody s_x__law_kinds, defScope s_x__law_kinds, [], []⟩
def d_n_law : He.DefD := ⟨("law", none), "law", "law", defArgs s_n_law, defBody s_n_law, defScope s_n_law, [], []⟩
def fn : List He.DefD := [d_x__law_draw, d_x__law_spoilt, d_x__law_names, d_x__law_number, d_x__law_book, d_x__law_source, d_x__law_due, d_n_DozeErrordd_initdd, d_n_names_read, d_n_Bookdd_initdd, d_n_Book_lock_of, d_x__law_found, d_x__law_kinds, d_n_law]
def fa : List He.Fa := [.glo "law", .glo "_law_draw", .free "len", .free "range", .free "int", .glo "_law_names", .glo "_law_number", .free "abs", .glo "_law_source", .glo "_law_book", .glo "_law_spoilt", .glo "_law_due", .free "list", .glo "names_read", .glo "TwoNames", .glo "NoName", .noat "Book" "locks", .noat "Book" "conds", .noat "Book" "counts", .noat "Book" "cells", .glo "Book", .mkr "Book", .cls "Book", .exm "NoName" "TwoNames" false, .exm "TwoNames" "TwoNames" true, .exm "NoName" "NoName" true, .exm "TwoNames" "NoName" false, .meth "Book" "lock_of", .free "reversed", .glo "_law_found", .exm "NoName" "DozeError" true, .exm "TwoNames" "DozeError" true, .glo "DozeError", .free "tuple", .free "isinstance", .free "ValueError", .glo "_law_kinds"]
def xs : List Str := ["NoName", "TwoNames"]
def ts : List (PySem.W.Frag → Bool) := [Doz.isK "NoName" "NoName" true, Doz.isK "TwoNames" "NoName" false, Doz.isK "NoName" "TwoNames" false, Doz.isK "TwoNames" "TwoNames" true, Doz.isT "NoName" "ValueError" true, Doz.isT "TwoNames" "ValueError" true, PySem.DozX.emK ("Book", some "__init__") "locks", PySem.DozX.emK ("Book", some "__init__") "conds", PySem.DozX.emK ("Book", some "__init__") "counts", PySem.DozX.emK ("Book", some "__init__") "cells"]
def cs : List Str := ["NoName", "TwoNames", "Book"]
section
variable {P : Program} {w : World} {K : PySem.W.Frag} {mg : Str → Option Value} {h : Heap}
theorem ex_n_NoName (KX : K.In h) (G : h.Ns mainGlobals mg) (cc : SaysX fa fn xs cs ts K) : ExTxt K (He.ga K "NoName") (He.fAd K ("DozeError", some "__init__")) := by
  obtain ⟨fd, F⟩ := cc.says.def_ 7 (d := d_n_DozeErrordd_initdd) rfl
  exact exB_ok (cc.exc 0 (x := "NoName") rfl) F
theorem ex_n_TwoNames (KX : K.In h) (G : h.Ns mainGlobals mg) (cc : SaysX fa fn xs cs ts K) : ExTxt K (He.ga K "TwoNames") (He.fAd K ("DozeError", some "__init__")) := by
  obtain ⟨fd, F⟩ := cc.says.def_ 7 (d := d_n_DozeErrordd_initdd) rfl
  exact exB_ok (cc.exc 1 (x := "TwoNames") rfl) F
abbrev N_x__law_draw : List Str := ["_law_source_here", "_law_many", "_law_seed", "_law_digit"]
theorem sc_x__law_draw : FnScope N_x__law_draw ["_law_source_here", "_law_many"] (defScope s_x__law_draw) := ⟨rfl, rfl, rfl, by decide +kernel, rfl, by decide +kernel, by decide +kernel⟩
theorem ok_x__law_draw (KX : K.In h) (G : h.Ns mainGlobals mg) (cc : SaysX fa fn xs cs ts K) : ∃ fd, (∀ base : Heap, FnOk P w K mg base (L2.CX P w) 2 (He.fAd K ("_law_draw", none)) fd ["_law_source_here", "_law_many"] (spM K 2 (m_x__law_draw (clOf K)))) ∧ PySem.W.keepIn K (.ref (He.fAd K ("_law_draw", none))) = true ∧ Bd K fd ["_law_source_here", "_law_many"] 2 [] (fun ds _ => ds) := by
  obtain ⟨fd, F⟩ := cc.says.def_ 0 (d := d_x__law_draw) rfl
  refine ⟨fd, fun base => fn_ok F sc_x__law_draw (fun cdv A outer s H E W hr tk po => ?_), F.kp, bd_all rfl (F.bindsN fun _ _ _ _ _ _ us hl => match us, hl with | [_, _], _ => rfl)⟩
  have hu := Hu.of (X := cxOf (L2.CX P w) P w K mg base N_x__law_draw "_law_draw" (defScope s_x__law_draw) (He.fAd K ("_law_draw", none)) cdv A outer s H E) hr
  have pw := pw_takes tk
  have nd := sc_x__law_draw.nd
  exact (rss_cons (rs_asg (re_add (re_ix hu (re_var 0) re_int) re_int) (rg_sub hu (re_var 0) re_int))
    (rss_cons (rs_if (rt_cmp op_gt cm_gt (re_ix hu (re_var 0) re_int) re_int) (rss_cons (rs_set 3 nd (re_mod (re_ix hu (re_var 0) re_int) (re_var 1)))
    (rss_cons (rs_asg (re_div (re_ix hu (re_var 0) re_int) (re_var 1)) (rg_sub hu (re_var 0) re_int))
    (rss_one (rs_ret (re_var 3))))) rss_nil)
    (rss_cons (rs_set 2 nd (re_mod (re_pow (re_add (re_ix hu (re_var 0) re_int) (re_mul re_int (re_ix hu (re_var 0) re_int))) re_int) re_int))
    (rss_one (rs_ret (re_mod (re_div (re_mod (re_mul (re_add (re_var 2) (re_ix hu (re_var 0) re_int)) re_int) re_int) re_int) (re_var 1)))))))
abbrev N_x__law_spoilt : List Str := ["_law_source_here", "_law_book_here", "_law_spoils", "_law_names_here", "_law_many", "_law_every", "_law_k", "_law_here", "_law_told", "_law_bells", "_law_there", "_law_tallies", "_law_boxes", "_law_latches", "_law_at", "_law_other", "_law_lock", "_law_pair", "_law_j"]
theorem sc_x__law_spoilt : FnScope N_x__law_spoilt ["_law_source_here", "_law_book_here"] (defScope s_x__law_spoilt) := ⟨rfl, rfl, rfl, by decide +kernel, rfl, by decide +kernel, by decide +kernel⟩
theorem ok_x__law_spoilt (KX : K.In h) (G : h.Ns mainGlobals mg) (cc : SaysX fa fn xs cs ts K) : ∃ fd, (∀ base : Heap, FnOk P w K mg base (L2.CX P w) 3 (He.fAd K ("_law_spoilt", none)) fd ["_law_source_here", "_law_book_here"] (spM K 2 (m_x__law_spoilt (clOf K)))) ∧ PySem.W.keepIn K (.ref (He.fAd K ("_law_spoilt", none))) = true ∧ Bd K fd ["_law_source_here", "_law_book_here"] 2 [] (fun ds _ => ds) := by
  obtain ⟨fd, F⟩ := cc.says.def_ 1 (d := d_x__law_spoilt) rfl
  obtain ⟨fd_x__law_draw, F_x__law_draw, kp_x__law_draw, b_x__law_draw_0⟩ := ok_x__law_draw (P := P) (w := w) KX G cc
  have g_x__law_draw := He.glo_ok KX G (cc.says.fact 1 (f := .glo "_law_draw") rfl)
  have f_n_len := He.free_ok KX G (cc.says.fact 2 (f := .free "len") rfl)
  have f_n_range := He.free_ok KX G (cc.says.fact 3 (f := .free "range") rfl)
  have f_n_int := He.free_ok KX G (cc.says.fact 4 (f := .free "int") rfl)
  refine ⟨fd, fun base => fn_ok F sc_x__law_spoilt (fun cdv A outer s H E W hr tk po => ?_), F.kp, bd_all rfl (F.bindsN fun _ _ _ _ _ _ us hl => match us, hl with | [_, _], _ => rfl)⟩
  have hu := Hu.of (X := cxOf (L2.CX P w) P w K mg base N_x__law_spoilt "_law_spoilt" (defScope s_x__law_spoilt) (He.fAd K ("_law_spoilt", none)) cdv A outer s H E) hr
  have pw := pw_takes tk
  have nd := sc_x__law_spoilt.nd
  exact (rss_cons (rs_set 2 nd (re_call (ks := []) (F_x__law_draw base) (hr.mono (by decide : 2 ≤ 2)) g_x__law_draw kp_x__law_draw b_x__law_draw_0 pw (rc_pos (ra_cons (re_var 0) (ra_cons re_int ra_nil)))))
    (rss_cons (rs_asg (re_var 1) (rg_tup rfl (rgs_cons (rg_name 13 nd) (rgs_cons (rg_name 9 nd) (rgs_cons (rg_name 11 nd) (rgs_cons (rg_name 12 nd) rgs_nil))))))
    (rss_cons (rs_set 3 nd (re_add (re_var 13) (re_fz (rn_lc (own := [("_law_pair", 17)]) rfl nd (ri_seq (re_add (re_add (re_var 9) (re_var 11)) (re_var 12))) (blkOk_by (N := N_x__law_spoilt) (sc := defScope s_x__law_spoilt) (by decide +kernel)) (rgc_name 17 nd) (fun _ _ _ _ _ => rts_nil) (fun _ _ _ _ _ => (re_ix hu (re_var 17) re_int))))))
    (rss_cons (rs_set 4 nd (re_callB call_lenU cf_len f_n_len PySem.boot_len (ra_cons (re_var 3) ra_nil)))
    (rss_cons (rs_set 5 nd (re_add (re_var 3) (re_fz (rn_lst (ra_cons re_str ra_nil)))))
    (rss_cons (rs_for po rfl (ri_range1 f_n_range (ra_cons (re_mod (re_var 2) re_int) ra_nil)) (rg_name 6 nd) (rss_cons (rs_set 14 nd (re_call (ks := []) (F_x__law_draw base) (hr.mono (by decide : 2 ≤ 2)) g_x__law_draw kp_x__law_draw b_x__law_draw_0 pw (rc_pos (ra_cons (re_var 0) (ra_cons (re_var 4) ra_nil)))))
    (rss_cons (rs_set 15 nd (re_call (ks := []) (F_x__law_draw base) (hr.mono (by decide : 2 ≤ 2)) g_x__law_draw kp_x__law_draw b_x__law_draw_0 pw (rc_pos (ra_cons (re_var 0) (ra_cons (re_var 4) ra_nil)))))
    (rss_one (rs_set 3 nd (re_add (re_add (re_slice (re_var 3) ro_none (ro_some (re_var 14))) (re_fz (rn_lst (ra_cons (re_ix hu (re_var 3) (re_var 15)) ra_nil)))) (re_slice (re_var 3) (ro_some (re_add (re_var 14) re_int)) ro_none)))))))
    (rss_cons (rs_set 7 nd (re_callB call_lenU cf_len f_n_len PySem.boot_len (ra_cons (re_var 13) ra_nil)))
    (rss_cons (rs_set 8 nd (re_fz (rn_lc (own := [("_law_pair", 17)]) rfl nd (ri_seq (re_var 9)) (blkOk_by (N := N_x__law_spoilt) (sc := defScope s_x__law_spoilt) (by decide +kernel)) (rgc_name 17 nd) (fun _ _ _ _ _ => rts_nil) (fun _ _ _ _ _ => (re_ix hu (re_var 17) re_int)))))
    (rss_cons (rs_for po rfl (ri_range1 f_n_range (ra_cons (re_div (re_var 2) re_int) ra_nil)) (rg_name 6 nd) (rss_cons (rs_set 14 nd (re_call (ks := []) (F_x__law_draw base) (hr.mono (by decide : 2 ≤ 2)) g_x__law_draw kp_x__law_draw b_x__law_draw_0 pw (rc_pos (ra_cons (re_var 0) (ra_cons re_int ra_nil)))))
    (rss_cons (rs_set 16 nd (re_ix hu (re_var 5) (re_call (ks := []) (F_x__law_draw base) (hr.mono (by decide : 2 ≤ 2)) g_x__law_draw kp_x__law_draw b_x__law_draw_0 pw (rc_pos (ra_cons (re_var 0) (ra_cons (re_add (re_var 4) re_int) ra_nil))))))
    (rss_one (rs_set 8 nd (re_fz (rn_lc (own := [("_law_j", 18)]) rfl nd (ri_range1 f_n_range (ra_cons (re_callB call_lenU cf_len f_n_len PySem.boot_len (ra_cons (re_var 8) ra_nil)) ra_nil)) (blkOk_by (N := N_x__law_spoilt) (sc := defScope s_x__law_spoilt) (by decide +kernel)) (rgc_name 18 nd) (fun _ _ _ _ _ => rts_nil) (fun _ _ _ _ _ => (re_ix hu (re_fz (rn_lst (ra_cons (re_ix hu (re_var 8) (re_var 18)) (ra_cons (re_var 16) ra_nil)))) (re_callT call_intU cf_int f_n_int PyProof.Rows.boot_int (ra_cons (re_cmp (op_eqA hu) cm_eqA (re_var 18) (re_var 14)) ra_nil)))))))))))
    (rss_cons (rs_setLcF (i := 9) (own := [("_law_j", 18)]) rfl nd (ri_range1 f_n_range (ra_cons (re_callB call_lenU cf_len f_n_len PySem.boot_len (ra_cons (re_var 9) ra_nil)) ra_nil)) (blkOk_by (N := N_x__law_spoilt) (sc := defScope s_x__law_spoilt) (by decide +kernel)) (rgc_name 18 nd) (fun _ _ _ _ _ => rts_nil) (fun _ _ _ _ _ => (re_tup (ra_cons (re_ix hu (re_var 3) (re_add (re_var 7) (re_var 18))) (ra_cons (re_ix hu (re_var 8) (re_var 18)) ra_nil)))))
    (rss_cons (rs_set 10 nd (re_add (re_var 7) (re_callB call_lenU cf_len f_n_len PySem.boot_len (ra_cons (re_var 9) ra_nil))))
    (rss_cons (rs_set 11 nd (re_fz (rn_lc (own := [("_law_j", 18)]) rfl nd (ri_range1 f_n_range (ra_cons (re_callB call_lenU cf_len f_n_len PySem.boot_len (ra_cons (re_var 11) ra_nil)) ra_nil)) (blkOk_by (N := N_x__law_spoilt) (sc := defScope s_x__law_spoilt) (by decide +kernel)) (rgc_name 18 nd) (fun _ _ _ _ _ => rts_nil) (fun _ _ _ _ _ => (re_tup (ra_cons (re_ix hu (re_var 3) (re_add (re_var 10) (re_var 18))) (ra_cons (re_ix hu (re_ix hu (re_var 11) (re_var 18)) re_int) ra_nil)))))))
    (rss_cons (rs_set 10 nd (re_add (re_var 10) (re_callB call_lenU cf_len f_n_len PySem.boot_len (ra_cons (re_var 11) ra_nil))))
    (rss_cons (rs_set 12 nd (re_fz (rn_lc (own := [("_law_j", 18)]) rfl nd (ri_range1 f_n_range (ra_cons (re_callB call_lenU cf_len f_n_len PySem.boot_len (ra_cons (re_var 12) ra_nil)) ra_nil)) (blkOk_by (N := N_x__law_spoilt) (sc := defScope s_x__law_spoilt) (by decide +kernel)) (rgc_name 18 nd) (fun _ _ _ _ _ => rts_nil) (fun _ _ _ _ _ => (re_tup (ra_cons (re_ix hu (re_var 3) (re_add (re_var 10) (re_var 18))) (ra_cons (re_ix hu (re_ix hu (re_var 12) (re_var 18)) re_int) ra_nil)))))))
    (rss_one (rs_ret (re_tup (ra_cons (re_slice (re_var 3) ro_none (ro_some (re_var 7))) (ra_cons (re_var 9) (ra_cons (re_var 11) (ra_cons (re_var 12) ra_nil)))))))))))))))))))))
abbrev N_x__law_names : List Str := ["_law_source_here", "_law_many", "_law_letters", "_law_made", "_law_body", "_law_alike", "_law_k", "_law_at", "_law_first", "_law_found_here", "_law_j", "_law_word"]
theorem sc_x__law_names : FnScope N_x__law_names ["_law_source_here", "_law_many"] (defScope s_x__law_names) := ⟨rfl, rfl, rfl, by decide +kernel, rfl, by decide +kernel, by decide +kernel⟩
theorem ok_x__law_names (KX : K.In h) (G : h.Ns mainGlobals mg) (cc : SaysX fa fn xs cs ts K) : ∃ fd, (∀ base : Heap, FnOk P w K mg base (L2.CX P w) 3 (He.fAd K ("_law_names", none)) fd ["_law_source_here", "_law_many"] (spM K 2 (m_x__law_names (clOf K)))) ∧ PySem.W.keepIn K (.ref (He.fAd K ("_law_names", none))) = true ∧ Bd K fd ["_law_source_here", "_law_many"] 2 [] (fun ds _ => ds) := by
  obtain ⟨fd, F⟩ := cc.says.def_ 2 (d := d_x__law_names) rfl
  obtain ⟨fd_x__law_draw, F_x__law_draw, kp_x__law_draw, b_x__law_draw_0⟩ := ok_x__law_draw (P := P) (w := w) KX G cc
  have g_x__law_draw := He.glo_ok KX G (cc.says.fact 1 (f := .glo "_law_draw") rfl)
  have f_n_range := He.free_ok KX G (cc.says.fact 3 (f := .free "range") rfl)
  have f_n_len := He.free_ok KX G (cc.says.fact 2 (f := .free "len") rfl)
  refine ⟨fd, fun base => fn_ok F sc_x__law_names (fun cdv A outer s H E W hr tk po => ?_), F.kp, bd_all rfl (F.bindsN fun _ _ _ _ _ _ us hl => match us, hl with | [_, _], _ => rfl)⟩
  have hu := Hu.of (X := cxOf (L2.CX P w) P w K mg base N_x__law_names "_law_names" (defScope s_x__law_names) (He.fAd K ("_law_names", none)) cdv A outer s H E) hr
  have pw := pw_takes tk
  have nd := sc_x__law_names.nd
  exact (rss_cons (rs_set 2 nd re_str)
    (rss_cons (rs_set 3 nd (re_lc (rn_lst ra_nil)))
    (rss_cons (rs_set 4 nd re_str)
    (rss_cons (rs_set 5 nd (re_cmp (op_eqA hu) cm_eqA (re_call (ks := []) (F_x__law_draw base) (hr.mono (by decide : 2 ≤ 2)) g_x__law_draw kp_x__law_draw b_x__law_draw_0 pw (rc_pos (ra_cons (re_var 0) (ra_cons re_int ra_nil)))) re_int))
    (rss_cons (rs_for po rfl (ri_range1 f_n_range (ra_cons (re_var 1) ra_nil)) (rg_name 6 nd) (rss_cons (rs_if (RW.rt (rw_or (rt_not (rt_val (re_var 5))) (rw_or1 (rt_cmp (op_eqA hu) cm_eqA (re_var 6) re_int)))) (rss_one (rs_set 4 nd (re_bm PySem.F.plainAttrs_str PySem.F.slot_str_join PySem.F.type_str_join mt_join tyOk_S mf_join re_str (ra_cons (re_fz (rn_lc (own := [("_law_j", 10)]) rfl nd (ri_range1 f_n_range (ra_cons (re_call (ks := []) (F_x__law_draw base) (hr.mono (by decide : 2 ≤ 2)) g_x__law_draw kp_x__law_draw b_x__law_draw_0 pw (rc_pos (ra_cons (re_var 0) (ra_cons re_int ra_nil)))) ra_nil)) (blkOk_by (N := N_x__law_names) (sc := defScope s_x__law_names) (by decide +kernel)) (rgc_name 10 nd) (fun _ _ _ _ _ => rts_nil) (fun _ _ _ _ _ => (re_ix hu (re_var 2) (re_call (ks := []) (F_x__law_draw base) (hr.mono (by decide : 2 ≤ 2)) g_x__law_draw kp_x__law_draw b_x__law_draw_0 pw_false (rc_pos (ra_cons (re_var 0) (ra_cons re_int ra_nil)))))))) ra_nil)))) rss_nil)
    (rss_cons (rs_set 7 nd (re_call (ks := []) (F_x__law_draw base) (hr.mono (by decide : 2 ≤ 2)) g_x__law_draw kp_x__law_draw b_x__law_draw_0 pw (rc_pos (ra_cons (re_var 0) (ra_cons (re_add (re_callB call_lenU cf_len f_n_len PySem.boot_len (ra_cons (re_var 4) ra_nil)) re_int) ra_nil)))))
    (rss_cons (rs_set 8 nd (re_call (ks := []) (F_x__law_draw base) (hr.mono (by decide : 2 ≤ 2)) g_x__law_draw kp_x__law_draw b_x__law_draw_0 pw (rc_pos (ra_cons (re_var 0) (ra_cons re_int ra_nil)))))
    (rss_cons (rs_set 9 nd re_str)
    (rss_cons (rs_for po rfl (ri_range1 f_n_range (ra_cons re_int ra_nil)) (rg_name 10 nd) (rss_cons (rs_set 11 nd (re_add (re_add (re_slice (re_var 4) ro_none (ro_some (re_var 7))) (re_ix hu (re_var 2) (re_mod (re_add (re_var 8) (re_var 10)) re_int))) (re_slice (re_var 4) (ro_some (re_var 7)) ro_none)))
    (rss_one (rs_if (RW.rt (rw_and (rt_cmp (op_eqA hu) cm_eqA (re_var 9) re_str) (rw_and1 (rt_cmp (op_notInU hu) cm_notIn (re_var 11) (re_var 3))))) (rss_one (rs_set 9 nd (re_var 11))) rss_nil))))
    (rss_one (rs_expr (re_bm PySem.F.plainAttrs_list PySem.F.slot_list_append PySem.F.type_list_append (mt_append) tyOk_L mf_append (re_var 3) (ra_cons (re_var 9) ra_nil))))))))))
    (rss_one (rs_retFz (re_var 3))))))))
abbrev N_x__law_number : List Str := ["_law_source_here", "_law_way"]
theorem sc_x__law_number : FnScope N_x__law_number ["_law_source_here"] (defScope s_x__law_number) := ⟨rfl, rfl, rfl, by decide +kernel, rfl, by decide +kernel, by decide +kernel⟩
theorem ok_x__law_number (KX : K.In h) (G : h.Ns mainGlobals mg) (cc : SaysX fa fn xs cs ts K) : ∃ fd, (∀ base : Heap, FnOk P w K mg base (L2.CX P w) 3 (He.fAd K ("_law_number", none)) fd ["_law_source_here"] (spM K 1 (m_x__law_number_5 (clOf K)))) ∧ PySem.W.keepIn K (.ref (He.fAd K ("_law_number", none))) = true ∧ Bd K fd ["_law_source_here"] 1 [] (fun ds _ => ds) := by
  obtain ⟨fd, F⟩ := cc.says.def_ 3 (d := d_x__law_number) rfl
  obtain ⟨fd_x__law_draw, F_x__law_draw, kp_x__law_draw, b_x__law_draw_0⟩ := ok_x__law_draw (P := P) (w := w) KX G cc
  have g_x__law_draw := He.glo_ok KX G (cc.says.fact 1 (f := .glo "_law_draw") rfl)
  refine ⟨fd, fun base => fn_ok F sc_x__law_number (fun cdv A outer s H E W hr tk po => ?_), F.kp, bd_all rfl (F.bindsN fun _ _ _ _ _ _ us hl => match us, hl with | [_], _ => rfl)⟩
  have hu := Hu.of (X := cxOf (L2.CX P w) P w K mg base N_x__law_number "_law_number" (defScope s_x__law_number) (He.fAd K ("_law_number", none)) cdv A outer s H E) hr
  have pw := pw_takes tk
  have nd := sc_x__law_number.nd
  exact (rss_cons (rs_set 1 nd (re_call (ks := []) (F_x__law_draw base) (hr.mono (by decide : 2 ≤ 2)) g_x__law_draw kp_x__law_draw b_x__law_draw_0 pw (rc_pos (ra_cons (re_var 0) (ra_cons re_int ra_nil)))))
    (rss_cons (rs_if (rt_cmp (op_eqA hu) cm_eqA (re_var 1) re_int) (rss_one (rs_ret (re_call (ks := []) (F_x__law_draw base) (hr.mono (by decide : 2 ≤ 2)) g_x__law_draw kp_x__law_draw b_x__law_draw_0 pw (rc_pos (ra_cons (re_var 0) (ra_cons (re_pow re_int re_int) ra_nil)))))) rss_nil)
    (rss_cons (rs_if (rt_cmp (op_eqA hu) cm_eqA (re_var 1) re_int) (rss_one (rs_ret (re_sub re_int (re_call (ks := []) (F_x__law_draw base) (hr.mono (by decide : 2 ≤ 2)) g_x__law_draw kp_x__law_draw b_x__law_draw_0 pw (rc_pos (ra_cons (re_var 0) (ra_cons (re_pow re_int re_int) ra_nil))))))) rss_nil)
    (rss_one (rs_ret (re_sub (re_call (ks := []) (F_x__law_draw base) (hr.mono (by decide : 2 ≤ 2)) g_x__law_draw kp_x__law_draw b_x__law_draw_0 pw (rc_pos (ra_cons (re_var 0) (ra_cons re_int ra_nil)))) re_int))))))
abbrev N_x__law_book : List Str := ["_law_source_here", "_law_many", "_law_names_here", "_law_latches", "_law_at", "_law_bells", "_law_tallies", "_law_boxes", "_law_name"]
theorem sc_x__law_book : FnScope N_x__law_book ["_law_source_here"] (defScope s_x__law_book) := ⟨rfl, rfl, rfl, by decide +kernel, rfl, by decide +kernel, by decide +kernel⟩
theorem ok_x__law_book (KX : K.In h) (G : h.Ns mainGlobals mg) (cc : SaysX fa fn xs cs ts K) : ∃ fd, (∀ base : Heap, FnOk P w K mg base (L2.CX P w) 4 (He.fAd K ("_law_book", none)) fd ["_law_source_here"] (spM K 1 (m_x__law_book (clOf K)))) ∧ PySem.W.keepIn K (.ref (He.fAd K ("_law_book", none))) = true ∧ Bd K fd ["_law_source_here"] 1 [] (fun ds _ => ds) := by
  obtain ⟨fd, F⟩ := cc.says.def_ 4 (d := d_x__law_book) rfl
  obtain ⟨fd_x__law_draw, F_x__law_draw, kp_x__law_draw, b_x__law_draw_0⟩ := ok_x__law_draw (P := P) (w := w) KX G cc
  obtain ⟨fd_x__law_names, F_x__law_names, kp_x__law_names, b_x__law_names_0⟩ := ok_x__law_names (P := P) (w := w) KX G cc
  obtain ⟨fd_x__law_number, F_x__law_number, kp_x__law_number, b_x__law_number_0⟩ := ok_x__law_number (P := P) (w := w) KX G cc
  have g_x__law_draw := He.glo_ok KX G (cc.says.fact 1 (f := .glo "_law_draw") rfl)
  have g_x__law_names := He.glo_ok KX G (cc.says.fact 5 (f := .glo "_law_names") rfl)
  have g_x__law_number := He.glo_ok KX G (cc.says.fact 6 (f := .glo "_law_number") rfl)
  have f_n_abs := He.free_ok KX G (cc.says.fact 7 (f := .free "abs") rfl)
  refine ⟨fd, fun base => fn_ok F sc_x__law_book (fun cdv A outer s H E W hr tk po => ?_), F.kp, bd_all rfl (F.bindsN fun _ _ _ _ _ _ us hl => match us, hl with | [_], _ => rfl)⟩
  have hu := Hu.of (X := cxOf (L2.CX P w) P w K mg base N_x__law_book "_law_book" (defScope s_x__law_book) (He.fAd K ("_law_book", none)) cdv A outer s H E) hr
  have pw := pw_takes tk
  have nd := sc_x__law_book.nd
  exact (rss_cons (rs_set 1 nd (re_fz (rn_lst (ra_cons (re_add re_int (re_call (ks := []) (F_x__law_draw base) (hr.mono (by decide : 2 ≤ 3)) g_x__law_draw kp_x__law_draw b_x__law_draw_0 pw (rc_pos (ra_cons (re_var 0) (ra_cons re_int ra_nil))))) (ra_cons (re_call (ks := []) (F_x__law_draw base) (hr.mono (by decide : 2 ≤ 3)) g_x__law_draw kp_x__law_draw b_x__law_draw_0 pw (rc_pos (ra_cons (re_var 0) (ra_cons re_int ra_nil)))) (ra_cons (re_call (ks := []) (F_x__law_draw base) (hr.mono (by decide : 2 ≤ 3)) g_x__law_draw kp_x__law_draw b_x__law_draw_0 pw (rc_pos (ra_cons (re_var 0) (ra_cons re_int ra_nil)))) (ra_cons (re_add re_int (re_call (ks := []) (F_x__law_draw base) (hr.mono (by decide : 2 ≤ 3)) g_x__law_draw kp_x__law_draw b_x__law_draw_0 pw (rc_pos (ra_cons (re_var 0) (ra_cons re_int ra_nil))))) ra_nil)))))))
    (rss_cons (rs_set 2 nd (re_call (ks := []) (F_x__law_names base) (hr.mono (by decide : 3 ≤ 3)) g_x__law_names kp_x__law_names b_x__law_names_0 pw (rc_pos (ra_cons (re_var 0) (ra_cons (re_add (re_add (re_add (re_ix hu (re_var 1) re_int) (re_ix hu (re_var 1) re_int)) (re_ix hu (re_var 1) re_int)) (re_ix hu (re_var 1) re_int)) ra_nil)))))
    (rss_cons (rs_set 3 nd (re_slice (re_var 2) ro_none (ro_some (re_ix hu (re_var 1) re_int))))
    (rss_cons (rs_set 4 nd (re_add (re_ix hu (re_var 1) re_int) (re_ix hu (re_var 1) re_int)))
    (rss_cons (rs_setLcF (i := 5) (own := [("_law_name", 8)]) rfl nd (ri_seq (re_slice (re_var 2) (ro_some (re_ix hu (re_var 1) re_int)) (ro_some (re_var 4)))) (blkOk_by (N := N_x__law_book) (sc := defScope s_x__law_book) (by decide +kernel)) (rgc_name 8 nd) (fun _ _ _ _ _ => rts_nil) (fun _ _ _ _ _ => (re_tup (ra_cons (re_var 8) (ra_cons (re_ix hu (re_var 3) (re_call (ks := []) (F_x__law_draw base) (hr.mono (by decide : 2 ≤ 3)) g_x__law_draw kp_x__law_draw b_x__law_draw_0 pw_false (rc_pos (ra_cons (re_var 0) (ra_cons (re_ix hu (re_var 1) re_int) ra_nil))))) ra_nil)))))
    (rss_cons (rs_setLcF (i := 6) (own := [("_law_name", 8)]) rfl nd (ri_seq (re_slice (re_var 2) (ro_some (re_var 4)) (ro_some (re_add (re_var 4) (re_ix hu (re_var 1) re_int))))) (blkOk_by (N := N_x__law_book) (sc := defScope s_x__law_book) (by decide +kernel)) (rgc_name 8 nd) (fun _ _ _ _ _ => rts_nil) (fun _ _ _ _ _ => (re_tup (ra_cons (re_var 8) (ra_cons (re_callB call_abs cf_abs f_n_abs PyProof.Rows.boot_abs (ra_cons (re_call (ks := []) (F_x__law_number base) (hr.mono (by decide : 3 ≤ 3)) g_x__law_number kp_x__law_number b_x__law_number_0 pw_false (rc_pos (ra_cons (re_var 0) ra_nil))) ra_nil)) ra_nil)))))
    (rss_cons (rs_setLcF (i := 7) (own := [("_law_name", 8)]) rfl nd (ri_seq (re_slice (re_var 2) (ro_some (re_add (re_var 4) (re_ix hu (re_var 1) re_int))) ro_none)) (blkOk_by (N := N_x__law_book) (sc := defScope s_x__law_book) (by decide +kernel)) (rgc_name 8 nd) (fun _ _ _ _ _ => rts_nil) (fun _ _ _ _ _ => (re_tup (ra_cons (re_var 8) (ra_cons (re_call (ks := []) (F_x__law_number base) (hr.mono (by decide : 3 ≤ 3)) g_x__law_number kp_x__law_number b_x__law_number_0 pw_false (rc_pos (ra_cons (re_var 0) ra_nil))) ra_nil)))))
    (rss_one (rs_ret (re_tup (ra_cons (re_var 3) (ra_cons (re_var 5) (ra_cons (re_var 6) (ra_cons (re_var 7) ra_nil))))))))))))))
abbrev N_x__law_source : List Str := ["_law_script", "_law_k", "_law_cell", "_law_deep"]
theorem sc_x__law_source : FnScope N_x__law_source ["_law_script", "_law_k"] (defScope s_x__law_source) := ⟨rfl, rfl, rfl, by decide +kernel, rfl, by decide +kernel, by decide +kernel⟩
theorem ok_x__law_source (KX : K.In h) (G : h.Ns mainGlobals mg) (cc : SaysX fa fn xs cs ts K) : ∃ fd, (∀ base : Heap, FnOk P w K mg base (L2.CX P w) 2 (He.fAd K ("_law_source", none)) fd ["_law_script", "_law_k"] (spM K 2 (m_x__law_source (clOf K)))) ∧ PySem.W.keepIn K (.ref (He.fAd K ("_law_source", none))) = true ∧ Bd K fd ["_law_script", "_law_k"] 2 [] (fun ds _ => ds) := by
  obtain ⟨fd, F⟩ := cc.says.def_ 5 (d := d_x__law_source) rfl
  have f_n_len := He.free_ok KX G (cc.says.fact 2 (f := .free "len") rfl)
  refine ⟨fd, fun base => fn_ok F sc_x__law_source (fun cdv A outer s H E W hr tk po => ?_), F.kp, bd_all rfl (F.bindsN fun _ _ _ _ _ _ us hl => match us, hl with | [_, _], _ => rfl)⟩
  have hu := Hu.of (X := cxOf (L2.CX P w) P w K mg base N_x__law_source "_law_source" (defScope s_x__law_source) (He.fAd K ("_law_source", none)) cdv A outer s H E) hr
  have pw := pw_takes tk
  have nd := sc_x__law_source.nd
  exact (rss_cons (rs_set 2 nd re_int)
    (rss_cons (rs_set 3 nd re_int)
    (rss_cons (rs_if (rt_cmp op_gt cm_gt (re_callB call_lenU cf_len f_n_len PySem.boot_len (ra_cons (re_var 0) ra_nil)) re_int) (rss_one (rs_set 2 nd (re_ix hu (re_var 0) (re_mod (re_var 1) (re_callB call_lenU cf_len f_n_len PySem.boot_len (ra_cons (re_var 0) ra_nil)))))) rss_nil)
    (rss_cons (rs_if (RW.rt (rw_and (rt_cmp op_lt cm_lt (re_var 1) (re_callB call_lenU cf_len f_n_len PySem.boot_len (ra_cons (re_var 0) ra_nil))) (rw_and1 (rt_cmp op_ge cm_ge (re_var 2) (re_pow re_int re_int))))) (rss_one (rs_set 3 nd (re_var 2))) rss_nil)
    (rss_one (rs_ret (re_lc (rn_lst (ra_cons (re_var 3) (ra_cons (re_add (re_add (re_mod (re_var 2) re_int) (re_mul re_int (re_var 1))) re_int) (ra_cons re_int ra_nil)))))))))))
abbrev N_x__law_due : List Str := ["_law_latches", "_law_bells", "_law_tallies", "_law_boxes", "_law_seen", "_law_name", "_law_pair"]
theorem sc_x__law_due : FnScope N_x__law_due ["_law_latches", "_law_bells", "_law_tallies", "_law_boxes"] (defScope s_x__law_due) := ⟨rfl, rfl, rfl, by decide +kernel, rfl, by decide +kernel, by decide +kernel⟩
theorem ok_x__law_due (KX : K.In h) (G : h.Ns mainGlobals mg) (cc : SaysX fa fn xs cs ts K) : ∃ fd, (∀ base : Heap, FnOk P w K mg base (L2.CX P w) 2 (He.fAd K ("_law_due", none)) fd ["_law_latches", "_law_bells", "_law_tallies", "_law_boxes"] (spM K 4 (m_x__law_due (clOf K)))) ∧ PySem.W.keepIn K (.ref (He.fAd K ("_law_due", none))) = true ∧ Bd K fd ["_law_latches", "_law_bells", "_law_tallies", "_law_boxes"] 4 [] (fun ds _ => ds) := by
  obtain ⟨fd, F⟩ := cc.says.def_ 6 (d := d_x__law_due) rfl
  refine ⟨fd, fun base => fn_ok F sc_x__law_due (fun cdv A outer s H E W hr tk po => ?_), F.kp, bd_all rfl (F.bindsN fun _ _ _ _ _ _ us hl => match us, hl with | [_, _, _, _], _ => rfl)⟩
  have hu := Hu.of (X := cxOf (L2.CX P w) P w K mg base N_x__law_due "_law_due" (defScope s_x__law_due) (He.fAd K ("_law_due", none)) cdv A outer s H E) hr
  have pw := pw_takes tk
  have nd := sc_x__law_due.nd
  exact (rss_cons (rs_set 4 nd (re_lc (rn_lst ra_nil)))
    (rss_cons (rs_for po rfl (ri_seq (re_add (re_var 0) (re_fz (rn_lc (own := [("_law_pair", 6)]) rfl nd (ri_seq (re_add (re_add (re_var 1) (re_var 2)) (re_var 3))) (blkOk_by (N := N_x__law_due) (sc := defScope s_x__law_due) (by decide +kernel)) (rgc_name 6 nd) (fun _ _ _ _ _ => rts_nil) (fun _ _ _ _ _ => (re_ix hu (re_var 6) re_int)))))) (rg_name 5 nd) (rss_cons (rs_if (rt_cmp (op_inU hu) cm_in (re_var 5) (re_var 4)) (rss_one (rs_ret (re_tup (ra_cons re_str (ra_cons (re_var 5) ra_nil))))) rss_nil)
    (rss_one (rs_expr (re_bm PySem.F.plainAttrs_list PySem.F.slot_list_append PySem.F.type_list_append (mt_append) tyOk_L mf_append (re_var 4) (ra_cons (re_var 5) ra_nil))))))
    (rss_cons (rs_for po rfl (ri_seq (re_var 1)) (rg_name 6 nd) (rss_one (rs_if (rt_cmp (op_notInU hu) cm_notIn (re_ix hu (re_var 6) re_int) (re_var 0)) (rss_one (rs_ret (re_tup (ra_cons re_str (ra_cons (re_ix hu (re_var 6) re_int) ra_nil))))) rss_nil)))
    (rss_one (rs_ret (re_tup (ra_cons re_str (ra_cons (re_fz (rn_lc (own := [("_law_pair", 6)]) rfl nd (ri_seq (re_var 1)) (blkOk_by (N := N_x__law_due) (sc := defScope s_x__law_due) (by decide +kernel)) (rgc_name 6 nd) (fun _ _ _ _ _ => rts_nil) (fun _ _ _ _ _ => (re_ix hu (re_var 6) re_int)))) ra_nil))))))))
abbrev N_n_names_read : List Str := ["locks", "conds", "counts", "cells", "names", "pairs", "name", "more"]
theorem sc_n_names_read : FnScope N_n_names_read ["locks", "conds", "counts", "cells"] (defScope s_n_names_read) := ⟨rfl, rfl, rfl, by decide +kernel, rfl, by decide +kernel, by decide +kernel⟩
theorem ok_n_names_read (KX : K.In h) (G : h.Ns mainGlobals mg) (cc : SaysX fa fn xs cs ts K) : ∃ fd, (∀ base : Heap, FnOk P w K mg base (L2.CX P w) 2 (He.fAd K ("names_read", none)) fd ["locks", "conds", "counts", "cells"] (spM K 4 (m_n_names_read (clOf K)))) ∧ PySem.W.keepIn K (.ref (He.fAd K ("names_read", none))) = true ∧ Bd K fd ["locks", "conds", "counts", "cells"] 4 [] (fun ds _ => ds) := by
  obtain ⟨fd, F⟩ := cc.says.def_ 8 (d := d_n_names_read) rfl
  have f_n_list := He.free_ok KX G (cc.says.fact 12 (f := .free "list") rfl)
  refine ⟨fd, fun base => fn_ok F sc_n_names_read (fun cdv A outer s H E W hr tk po => ?_), F.kp, bd_all rfl (F.bindsN fun _ _ _ _ _ _ us hl => match us, hl with | [_, _, _, _], _ => rfl)⟩
  have hu := Hu.of (X := cxOf (L2.CX P w) P w K mg base N_n_names_read "names_read" (defScope s_n_names_read) (He.fAd K ("names_read", none)) cdv A outer s H E) hr
  have pw := pw_takes tk
  have nd := sc_n_names_read.nd
  exact (rss_cons (rs_set 4 nd (re_lc (rn_callT (call_listU rfl) cn_list f_n_list PyProof.Rows.boot_list (ra_cons (re_var 0) ra_nil))))
    (rss_cons (rs_for po rfl (ri_seq (re_tup (ra_cons (re_var 1) (ra_cons (re_var 2) (ra_cons (re_var 3) ra_nil))))) (rg_name 5 nd) (rss_one (rs_set 4 nd (re_lc (rn_add (re_var 4) (re_fz (rn_lc (own := [("name", 6), ("more", 7)]) rfl nd (ri_seq (re_var 5)) (blkOk_by (N := N_n_names_read) (sc := defScope s_n_names_read) (by decide +kernel)) (rgc_tup rfl (rgcs_cons (rgc_name 6 nd) (rgcs_cons (rgc_name 7 nd) rgcs_nil))) (fun _ _ _ _ _ => rts_nil) (fun _ _ _ _ _ => (re_var 6)))))))))
    (rss_one (rs_ret (re_var 4)))))
abbrev N_n_Bookdd_initdd : List Str := ["self", "locks", "conds", "counts", "cells", "seen", "name", "lock", "number"]
theorem sc_n_Bookdd_initdd : FnScope N_n_Bookdd_initdd ["self", "locks", "conds", "counts", "cells"] (defScope s_n_Bookdd_initdd) := ⟨rfl, rfl, rfl, by decide +kernel, rfl, by decide +kernel, by decide +kernel⟩
theorem ok_n_Bookdd_initdd (KX : K.In h) (G : h.Ns mainGlobals mg) (cc : SaysX fa fn xs cs ts K) : ∃ fd, (∀ base : Heap, FnOk P w K mg base (L2.CX P w) 3 (He.fAd K ("Book", some "__init__")) fd ["self", "locks", "conds", "counts", "cells"] (spM K 5 (m_n_Bookdd_initdd (clOf K)))) ∧ PySem.W.keepIn K (.ref (He.fAd K ("Book", some "__init__"))) = true ∧ Bd K fd ["self", "locks", "conds", "counts", "cells"] 1 ["locks", "conds", "counts", "cells"] (fun ds es => match ds, es with | [x0], [y0, y1, y2, y3] => [x0, y0, y1, y2, y3] | _, _ => []) ∧ Bd K fd ["self", "locks", "conds", "counts", "cells"] 1 ["conds"] (fun ds es => match ds, es with | [x0], [y0] => [x0, .tup [], y0, .tup [], .tup []] | _, _ => []) ∧ Bd K fd ["self", "locks", "conds", "counts", "cells"] 1 ["cells", "locks"] (fun ds es => match ds, es with | [x0], [y0, y1] => [x0, y1, .tup [], .tup [], y0] | _, _ => []) := by
  obtain ⟨fd, F⟩ := cc.says.def_ 9 (d := d_n_Bookdd_initdd) rfl
  obtain ⟨fd_n_names_read, F_n_names_read, kp_n_names_read, b_n_names_read_0⟩ := ok_n_names_read (P := P) (w := w) KX G cc
  have g_n_names_read := He.glo_ok KX G (cc.says.fact 13 (f := .glo "names_read") rfl)
  have x_n_TwoNames := ex_n_TwoNames KX G cc
  have g_n_TwoNames := He.glo_ok KX G (cc.says.fact 14 (f := .glo "TwoNames") rfl)
  have x_n_NoName := ex_n_NoName KX G cc
  have g_n_NoName := He.glo_ok KX G (cc.says.fact 15 (f := .glo "NoName") rfl)
  have f_n_list := He.free_ok KX G (cc.says.fact 12 (f := .free "list") rfl)
  have n_n_Book_n_locks := He.noat_ok (cc.says.fact 16 (f := .noat "Book" "locks") rfl)
  have n_n_Book_n_conds := He.noat_ok (cc.says.fact 17 (f := .noat "Book" "conds") rfl)
  have n_n_Book_n_counts := He.noat_ok (cc.says.fact 18 (f := .noat "Book" "counts") rfl)
  have n_n_Book_n_cells := He.noat_ok (cc.says.fact 19 (f := .noat "Book" "cells") rfl)
  refine ⟨fd, fun base => fn_ok F sc_n_Bookdd_initdd (fun cdv A outer s H E W hr tk po => ?_), F.kp, bd_kM F [] [] [.p 0, .k 0, .k 1, .k 2, .k 3] (by intro z; cases z) (by simp [He.DefD.kws, d_n_Bookdd_initdd]) (fun _ _ => .nil) (fun _ _ _ _ _ _ us mv ws h1 h2 h3 => match us, mv, ws, h1, h2, h3 with | [_], [], [_, _, _, _], _, _, _ => rfl) (fun ds es h1 h2 => match ds, es, h1, h2 with | [_], [_, _, _, _], _, _ => ⟨rfl, rfl⟩), bd_kM F [("locks", He.Dv.v K (.adr (PySem.DozX.kwAt ("Book", some "__init__") "locks"))), ("counts", He.Dv.v K (.adr (PySem.DozX.kwAt ("Book", some "__init__") "counts"))), ("cells", He.Dv.v K (.adr (PySem.DozX.kwAt ("Book", some "__init__") "cells")))] [.tup [], .tup [], .tup []] [.p 0, .m 0, .k 0, .m 1, .m 2] (by intro z; cases z) (by simp [He.DefD.kws, d_n_Bookdd_initdd]) (fun _ _ => (.cons (dv_em (cc.ck 6 (p := PySem.DozX.emK ("Book", some "__init__") "locks") rfl) _ _) (.cons (dv_em (cc.ck 8 (p := PySem.DozX.emK ("Book", some "__init__") "counts") rfl) _ _) (.cons (dv_em (cc.ck 9 (p := PySem.DozX.emK ("Book", some "__init__") "cells") rfl) _ _) .nil)))) (fun _ _ _ _ _ _ us mv ws h1 h2 h3 => match us, mv, ws, h1, h2, h3 with | [_], [_, _, _], [_], _, _, _ => ⟨_, _, _, _, _, _, rfl, rfl, ⟨_, _, _, _, _, _, rfl, rfl, ⟨_, _, _, _, _, _, rfl, rfl, rfl⟩⟩⟩) (fun ds es h1 h2 => match ds, es, h1, h2 with | [_], [_], _, _ => ⟨rfl, rfl⟩), bd_kM F [("conds", He.Dv.v K (.adr (PySem.DozX.kwAt ("Book", some "__init__") "conds"))), ("counts", He.Dv.v K (.adr (PySem.DozX.kwAt ("Book", some "__init__") "counts")))] [.tup [], .tup []] [.p 0, .k 1, .m 0, .m 1, .k 0] (by intro z; cases z) (by simp [He.DefD.kws, d_n_Bookdd_initdd]) (fun _ _ => (.cons (dv_em (cc.ck 7 (p := PySem.DozX.emK ("Book", some "__init__") "conds") rfl) _ _) (.cons (dv_em (cc.ck 8 (p := PySem.DozX.emK ("Book", some "__init__") "counts") rfl) _ _) .nil))) (fun _ _ _ _ _ _ us mv ws h1 h2 h3 => match us, mv, ws, h1, h2, h3 with | [_], [_, _], [_, _], _, _, _ => ⟨_, _, _, _, _, _, rfl, rfl, ⟨_, _, _, _, _, _, rfl, rfl, rfl⟩⟩) (fun ds es h1 h2 => match ds, es, h1, h2 with | [_], [_, _], _, _ => ⟨rfl, rfl⟩)⟩
  have hu := Hu.of (X := cxOf (L2.CX P w) P w K mg base N_n_Bookdd_initdd "Book.__init__" (defScope s_n_Bookdd_initdd) (He.fAd K ("Book", some "__init__")) cdv A outer s H E) hr
  have pw := pw_takes tk
  have nd := sc_n_Bookdd_initdd.nd
  exact (rss_cons (rs_set 5 nd re_dnew)
    (rss_cons (rs_for po rfl (ri_seq (re_call (ks := []) (F_n_names_read base) (hr.mono (by decide : 2 ≤ 2)) g_n_names_read kp_n_names_read b_n_names_read_0 pw (rc_pos (ra_cons (re_var 1) (ra_cons (re_var 2) (ra_cons (re_var 3) (ra_cons (re_var 4) ra_nil))))))) (rg_name 6 nd) (rss_cons (rs_if (rt_cmp (op_inU hu) cm_in (re_var 6) (re_var 5)) (rss_one (rs_raise rfl x_n_TwoNames g_n_TwoNames hr tk (ra_cons (re_var 6) ra_nil))) rss_nil)
    (rss_one (rs_asg re_bl (rg_sub hu (re_var 5) (re_var 6))))))
    (rss_cons (rs_for po rfl (ri_seq (re_var 2)) (rg_tup rfl (rgs_cons (rg_name 6 nd) (rgs_cons (rg_name 7 nd) rgs_nil))) (rss_one (rs_if (rt_cmp (op_notInU hu) cm_notIn (re_var 7) (re_var 1)) (rss_one (rs_raise rfl x_n_NoName g_n_NoName hr tk (ra_cons (re_var 7) ra_nil))) rss_nil)))
    (rss_cons (rs_asg (re_fz (rn_callT (call_listU rfl) cn_list f_n_list PyProof.Rows.boot_list (ra_cons (re_var 1) ra_nil))) (rg_fld [(clOf K).n_Book] (na_cons n_n_Book_n_locks na_nil) (re_var 0)))
    (rss_cons (rs_asg (re_dc (own := [("name", 6), ("lock", 7)]) rfl nd (ri_seq (re_var 2)) (blkOk_by (N := N_n_Bookdd_initdd) (sc := defScope s_n_Bookdd_initdd) (by decide +kernel)) (rgc_tup rfl (rgcs_cons (rgc_name 6 nd) (rgcs_cons (rgc_name 7 nd) rgcs_nil))) (fun _ _ _ _ _ => rts_nil) (fun _ _ _ _ _ => (re_var 6)) (fun _ _ _ _ _ => (re_var 7))) (rg_fld [(clOf K).n_Book] (na_cons n_n_Book_n_conds na_nil) (re_var 0)))
    (rss_cons (rs_asg (re_dc (own := [("name", 6), ("number", 8)]) rfl nd (ri_seq (re_var 3)) (blkOk_by (N := N_n_Bookdd_initdd) (sc := defScope s_n_Bookdd_initdd) (by decide +kernel)) (rgc_tup rfl (rgcs_cons (rgc_name 6 nd) (rgcs_cons (rgc_name 8 nd) rgcs_nil))) (fun _ _ _ _ _ => rts_nil) (fun _ _ _ _ _ => (re_var 6)) (fun _ _ _ _ _ => (re_var 8))) (rg_fld [(clOf K).n_Book] (na_cons n_n_Book_n_counts na_nil) (re_var 0)))
    (rss_one (rs_asg (re_dc (own := [("name", 6), ("number", 8)]) rfl nd (ri_seq (re_var 4)) (blkOk_by (N := N_n_Bookdd_initdd) (sc := defScope s_n_Bookdd_initdd) (by decide +kernel)) (rgc_tup rfl (rgcs_cons (rgc_name 6 nd) (rgcs_cons (rgc_name 8 nd) rgcs_nil))) (fun _ _ _ _ _ => rts_nil) (fun _ _ _ _ _ => (re_var 6)) (fun _ _ _ _ _ => (re_var 8))) (rg_fld [(clOf K).n_Book] (na_cons n_n_Book_n_cells na_nil) (re_var 0))))))))))
abbrev N_n_Book_lock_of : List Str := ["self", "cond"]
theorem sc_n_Book_lock_of : FnScope N_n_Book_lock_of ["self", "cond"] (defScope s_n_Book_lock_of) := ⟨rfl, rfl, rfl, by decide +kernel, rfl, by decide +kernel, by decide +kernel⟩
theorem ok_n_Book_lock_of (KX : K.In h) (G : h.Ns mainGlobals mg) (cc : SaysX fa fn xs cs ts K) : ∃ fd, (∀ base : Heap, FnOk P w K mg base (L2.CX P w) 2 (He.fAd K ("Book", some "lock_of")) fd ["self", "cond"] (spM K 2 (m_n_Book_lock_of (clOf K)))) ∧ PySem.W.keepIn K (.ref (He.fAd K ("Book", some "lock_of"))) = true ∧ Bd K fd ["self", "cond"] 2 [] (fun ds _ => ds) := by
  obtain ⟨fd, F⟩ := cc.says.def_ 10 (d := d_n_Book_lock_of) rfl
  refine ⟨fd, fun base => fn_ok F sc_n_Book_lock_of (fun cdv A outer s H E W hr tk po => ?_), F.kp, bd_all rfl (F.bindsN fun _ _ _ _ _ _ us hl => match us, hl with | [_, _], _ => rfl)⟩
  have hu := Hu.of (X := cxOf (L2.CX P w) P w K mg base N_n_Book_lock_of "Book.lock_of" (defScope s_n_Book_lock_of) (He.fAd K ("Book", some "lock_of")) cdv A outer s H E) hr
  have pw := pw_takes tk
  have nd := sc_n_Book_lock_of.nd
  exact (rss_one (rs_ret (re_ix hu (re_fld (re_var 0)) (re_var 1))))
abbrev N_x__law_found : List Str := ["_law_latches", "_law_bells", "_law_tallies", "_law_boxes", "_law_all_told", "_law_book_here", "_law_found_here", "_law_ones", "e", "_law_one", "_law_told", "_law_again", "_law_pair"]
theorem sc_x__law_found : FnScope N_x__law_found ["_law_latches", "_law_bells", "_law_tallies", "_law_boxes", "_law_all_told"] (defScope s_x__law_found) := ⟨rfl, rfl, rfl, by decide +kernel, rfl, by decide +kernel, by decide +kernel⟩
theorem ok_x__law_found (KX : K.In h) (G : h.Ns mainGlobals mg) (cc : SaysX fa fn xs cs ts K) : ∃ fd, (∀ base : Heap, FnOk P w K mg base (L2.CX P w) 5 (He.fAd K ("_law_found", none)) fd ["_law_latches", "_law_bells", "_law_tallies", "_law_boxes", "_law_all_told"] (spM K 5 (m_x__law_found (clOf K)))) ∧ PySem.W.keepIn K (.ref (He.fAd K ("_law_found", none))) = true ∧ Bd K fd ["_law_latches", "_law_bells", "_law_tallies", "_law_boxes", "_law_all_told"] 5 [] (fun ds _ => ds) := by
  obtain ⟨fd, F⟩ := cc.says.def_ 11 (d := d_x__law_found) rfl
  obtain ⟨fd_n_Bookdd_initdd, F_n_Bookdd_initdd, kp_n_Bookdd_initdd, b_n_Bookdd_initdd_0, b_n_Bookdd_initdd_1, b_n_Bookdd_initdd_2⟩ := ok_n_Bookdd_initdd (P := P) (w := w) KX G cc
  obtain ⟨fd_n_Book_lock_of, F_n_Book_lock_of, kp_n_Book_lock_of, b_n_Book_lock_of_0⟩ := ok_n_Book_lock_of (P := P) (w := w) KX G cc
  have f_n_list := He.free_ok KX G (cc.says.fact 12 (f := .free "list") rfl)
  have x_n_NoName := ex_n_NoName KX G cc
  have x_n_TwoNames := ex_n_TwoNames KX G cc
  have g_n_Book := He.glo_ok KX G (cc.says.fact 20 (f := .glo "Book") rfl)
  have k_n_Book := He.mkr_ok (cc.says.fact 21 (f := .mkr "Book") rfl)
  have c_n_Book := He.cls_ok (cc.says.fact 22 (f := .cls "Book") rfl)
  have e_n_NoName_n_TwoNames := He.exm_ok (cc.says.fact 23 (f := .exm "NoName" "TwoNames" false) rfl)
  have e_n_TwoNames_n_TwoNames := He.exm_ok (cc.says.fact 24 (f := .exm "TwoNames" "TwoNames" true) rfl)
  have g_n_TwoNames := He.glo_ok KX G (cc.says.fact 14 (f := .glo "TwoNames") rfl)
  have e_n_NoName_n_NoName := He.exm_ok (cc.says.fact 25 (f := .exm "NoName" "NoName" true) rfl)
  have e_n_TwoNames_n_NoName := He.exm_ok (cc.says.fact 26 (f := .exm "TwoNames" "NoName" false) rfl)
  have g_n_NoName := He.glo_ok KX G (cc.says.fact 15 (f := .glo "NoName") rfl)
  have m_n_Book_n_lock_of := He.meth_ok (cc.says.fact 27 (f := .meth "Book" "lock_of") rfl)
  have f_n_reversed := He.free_ok KX G (cc.says.fact 28 (f := .free "reversed") rfl)
  refine ⟨fd, fun base => fn_okY F sc_x__law_found (fun cdv A outer s H E W hr tk po pa => ?_), F.kp, bd_all rfl (F.bindsN fun _ _ _ _ _ _ us hl => match us, hl with | [_, _, _, _, _], _ => rfl)⟩
  have hu := Hu.of (X := cxOf (L2.CX P w) P w K mg base N_x__law_found "_law_found" (defScope s_x__law_found) (He.fAd K ("_law_found", none)) cdv A outer s H E) hr
  have pw := pw_takes tk
  have nd := sc_x__law_found.nd
  exact (rss_cons (rs_set 5 nd re_non)
    (rss_cons (rs_set 6 nd re_non)
    (rss_cons (rs_set 7 nd (re_fz (rn_lst (ra_cons (re_lc (rn_callT (call_listU rfl) cn_list f_n_list PyProof.Rows.boot_list (ra_cons (re_var 0) ra_nil))) (ra_cons (re_lc (rn_callT (call_listU rfl) cn_list f_n_list PyProof.Rows.boot_list (ra_cons (re_var 1) ra_nil))) (ra_cons (re_lc (rn_callT (call_listU rfl) cn_list f_n_list PyProof.Rows.boot_list (ra_cons (re_var 2) ra_nil))) (ra_cons (re_lc (rn_callT (call_listU rfl) cn_list f_n_list PyProof.Rows.boot_list (ra_cons (re_var 3) ra_nil))) ra_nil)))))))
    (rss_cons (rs_try2 8 rfl rfl nd ⟨rfl, by decide, .inl g_n_TwoNames⟩ ⟨rfl, by decide, .inl g_n_NoName⟩ pa tk (ex_of (et_cons e_n_TwoNames_n_TwoNames (et_cons e_n_NoName_n_TwoNames et_nil))) (ex_of (et_cons e_n_TwoNames_n_NoName (et_cons e_n_NoName_n_NoName et_nil))) (fun _ _ _ tk2 po2 => (rss_one (rs_if (rt_val (re_var 4)) (rss_one (rs_set 5 nd (re_make (ks := ["locks", "conds", "counts", "cells"]) k_n_Book c_n_Book (F_n_Bookdd_initdd base) (hr.mono (by decide : 3+1 ≤ 4)) g_n_Book b_n_Bookdd_initdd_0 (pw_takes tk2) (rc_kw0 (rk_cons (re_ix hu (re_var 7) re_int) (rk_cons (re_ix hu (re_var 7) re_int) (rk_cons (re_ix hu (re_var 7) re_int) (rk_cons (re_ix hu (re_var 7) re_int) rk_nil)))))))) (rss_one (rs_if (RW.rt (rw_and (rt_cmp (op_eqA hu) cm_eqA (re_var 2) (re_fz (rn_lst ra_nil))) (rw_and1 (rt_cmp (op_eqA hu) cm_eqA (re_var 3) (re_fz (rn_lst ra_nil)))))) (rss_one (rs_set 5 nd (re_make (ks := ["conds"]) k_n_Book c_n_Book (F_n_Bookdd_initdd base) (hr.mono (by decide : 3+1 ≤ 4)) g_n_Book b_n_Bookdd_initdd_1 (pw_takes tk2) (rc_kw0 (rk_cons (re_ix hu (re_var 7) re_int) rk_nil))))) (rss_one (rs_set 5 nd (re_make (ks := ["cells", "locks"]) k_n_Book c_n_Book (F_n_Bookdd_initdd base) (hr.mono (by decide : 3+1 ≤ 4)) g_n_Book b_n_Bookdd_initdd_2 (pw_takes tk2) (rc_kw0 (rk_cons (re_ix hu (re_var 7) re_int) (rk_cons (re_ix hu (re_var 7) re_int) rk_nil))))))))))) (fun a oe C dd w _ _ _ ht hz hv tk3 => have T := xt_of (xt_cons x_n_TwoNames (xt_cons x_n_NoName xt_nil)) ht; have ea : ErrAt (a, oe) C dd := ⟨hz, hv⟩; (rss_one (rs_set 6 nd (re_tup (ra_cons re_str (ra_cons (re_whatP (p := (a, oe)) T ea List.mem_cons_self) ra_nil)))))) (fun a oe C dd w _ _ _ ht hz hv tk3 => have T := xt_of (xt_cons x_n_TwoNames (xt_cons x_n_NoName xt_nil)) ht; have ea : ErrAt (a, oe) C dd := ⟨hz, hv⟩; (rss_one (rs_set 6 nd (re_tup (ra_cons re_str (ra_cons (re_whatP (p := (a, oe)) T ea List.mem_cons_self) ra_nil)))))))
    (rss_cons (rs_if (rt_cmp (op_neA hu) cm_neA (re_var 7) (re_fz (rn_lst (ra_cons (re_var 0) (ra_cons (re_var 1) (ra_cons (re_var 2) (ra_cons (re_var 3) ra_nil))))))) (rss_one (rs_ret (re_tup (ra_cons re_str (ra_cons re_int ra_nil))))) rss_nil)
    (rss_cons (rs_if (rt_cmp op_isN cm_is (re_var 5) re_non) (rss_one (rs_ret (re_var 6))) rss_nil)
    (rss_cons (rs_for po rfl (ri_seq (re_var 7)) (rg_name 9 nd) (rss_cons (rs_expr (re_bm PySem.F.plainAttrs_list PySem.F.slot_list_append PySem.F.type_list_append (mt_append) tyOk_L mf_append (re_var 9) (ra_cons (re_tup (ra_cons re_str (ra_cons re_str ra_nil))) ra_nil)))
    (rss_one (rs_expr (re_bm0 PySem.F.plainAttrs_list PySem.F.slot_list_reverse PySem.F.type_list_reverse (mt_reverse) tyOk_L mf_reverse (re_var 9))))))
    (rss_cons (rs_setLcF (i := 10) (own := [("_law_pair", 12)]) rfl nd (ri_seq (re_var 1)) (blkOk_by (N := N_x__law_found) (sc := defScope s_x__law_found) (by decide +kernel)) (rgc_name 12 nd) (fun _ _ _ _ _ => rts_nil) (fun _ _ _ _ _ => (re_meth (ks := []) (re_var 5) (mt_of (mt_cons (mok (m := m_n_Book_lock_of (clOf K)) (gD := (fun ds _ => ds)) c_n_Book m_n_Book_n_lock_of (F_n_Book_lock_of base) hr (by decide : 2 ≤ 4) b_n_Book_lock_of_0) mt_nil)) pw_false (rc_pos (ra_cons (re_ix hu (re_var 12) re_int) ra_nil)))))
    (rss_cons (rs_setLcF (i := 11) (own := [("_law_pair", 12)]) rfl nd (ri_rev f_n_reversed (re_var 1)) (blkOk_by (N := N_x__law_found) (sc := defScope s_x__law_found) (by decide +kernel)) (rgc_name 12 nd) (fun _ _ _ _ _ => rts_nil) (fun _ _ _ _ _ => (re_meth (ks := []) (re_var 5) (mt_of (mt_cons (mok (m := m_n_Book_lock_of (clOf K)) (gD := (fun ds _ => ds)) c_n_Book m_n_Book_n_lock_of (F_n_Book_lock_of base) hr (by decide : 2 ≤ 4) b_n_Book_lock_of_0) mt_nil)) pw_false (rc_pos (ra_cons (re_ix hu (re_var 12) re_int) ra_nil)))))
    (rss_cons (rs_if (rt_cmp (op_neA hu) cm_neA (re_fz (rn_rev rfl f_n_list f_n_reversed (re_var 11))) (re_var 10)) (rss_one (rs_ret (re_tup (ra_cons re_str (ra_cons re_int ra_nil))))) rss_nil)
    (rss_one (rs_ret (re_tup (ra_cons re_str (ra_cons (re_var 10) ra_nil)))))))))))))))
abbrev N_x__law_kinds : List Str := ["_law_latches", "_law_bells", "_law_tallies", "_law_boxes", "_law_kinds_here", "e"]
theorem sc_x__law_kinds : FnScope N_x__law_kinds ["_law_latches", "_law_bells", "_law_tallies", "_law_boxes"] (defScope s_x__law_kinds) := ⟨rfl, rfl, rfl, by decide +kernel, rfl, by decide +kernel, by decide +kernel⟩
theorem ok_x__law_kinds (KX : K.In h) (G : h.Ns mainGlobals mg) (cc : SaysX fa fn xs cs ts K) : ∃ fd, (∀ base : Heap, FnOk P w K mg base (L2.CX P w) 5 (He.fAd K ("_law_kinds", none)) fd ["_law_latches", "_law_bells", "_law_tallies", "_law_boxes"] (spM K 4 (m_x__law_kinds (clOf K)))) ∧ PySem.W.keepIn K (.ref (He.fAd K ("_law_kinds", none))) = true ∧ Bd K fd ["_law_latches", "_law_bells", "_law_tallies", "_law_boxes"] 4 [] (fun ds _ => ds) := by
  obtain ⟨fd, F⟩ := cc.says.def_ 12 (d := d_x__law_kinds) rfl
  obtain ⟨fd_n_Bookdd_initdd, F_n_Bookdd_initdd, kp_n_Bookdd_initdd, b_n_Bookdd_initdd_0, b_n_Bookdd_initdd_1, b_n_Bookdd_initdd_2⟩ := ok_n_Bookdd_initdd (P := P) (w := w) KX G cc
  have e_n_NoName_n_DozeError := He.exm_ok (cc.says.fact 30 (f := .exm "NoName" "DozeError" true) rfl)
  have x_n_NoName := ex_n_NoName KX G cc
  have e_n_TwoNames_n_DozeError := He.exm_ok (cc.says.fact 31 (f := .exm "TwoNames" "DozeError" true) rfl)
  have x_n_TwoNames := ex_n_TwoNames KX G cc
  have g_n_DozeError := He.glo_ok KX G (cc.says.fact 32 (f := .glo "DozeError") rfl)
  have f_n_tuple := He.free_ok KX G (cc.says.fact 33 (f := .free "tuple") rfl)
  have g_n_Book := He.glo_ok KX G (cc.says.fact 20 (f := .glo "Book") rfl)
  have k_n_Book := He.mkr_ok (cc.says.fact 21 (f := .mkr "Book") rfl)
  have c_n_Book := He.cls_ok (cc.says.fact 22 (f := .cls "Book") rfl)
  have f_n_isinstance := He.free_ok KX G (cc.says.fact 34 (f := .free "isinstance") rfl)
  have g_n_NoName := He.glo_ok KX G (cc.says.fact 15 (f := .glo "NoName") rfl)
  have g_n_TwoNames := He.glo_ok KX G (cc.says.fact 14 (f := .glo "TwoNames") rfl)
  have f_n_ValueError := He.free_ok KX G (cc.says.fact 35 (f := .free "ValueError") rfl)
  refine ⟨fd, fun base => fn_ok F sc_x__law_kinds (fun cdv A outer s H E W hr tk po => ?_), F.kp, bd_all rfl (F.bindsN fun _ _ _ _ _ _ us hl => match us, hl with | [_, _, _, _], _ => rfl)⟩
  have hu := Hu.of (X := cxOf (L2.CX P w) P w K mg base N_x__law_kinds "_law_kinds" (defScope s_x__law_kinds) (He.fAd K ("_law_kinds", none)) cdv A outer s H E) hr
  have pw := pw_takes tk
  have nd := sc_x__law_kinds.nd
  exact (rss_cons (rs_set 4 nd (re_fz (rn_lst (ra_cons re_bl (ra_cons re_bl (ra_cons re_bl ra_nil))))))
    (rss_cons (rs_try 5 rfl rfl nd ⟨rfl, by decide, .inl g_n_DozeError⟩ tk (ex_of (et_cons e_n_TwoNames_n_DozeError (et_cons e_n_NoName_n_DozeError et_nil))) (fun _ _ _ tk2 po2 => (rss_one (rs_expr (re_make (ks := ["locks", "conds", "counts", "cells"]) k_n_Book c_n_Book (F_n_Bookdd_initdd base) (hr.mono (by decide : 3+1 ≤ 4)) g_n_Book b_n_Bookdd_initdd_0 (pw_takes tk2) (rc_kw0 (rk_cons (re_callT call_tuple_of cf_tuple f_n_tuple PyProof.Rows.boot_tuple (ra_cons (re_var 0) ra_nil)) (rk_cons (re_callT call_tuple_of cf_tuple f_n_tuple PyProof.Rows.boot_tuple (ra_cons (re_var 1) ra_nil)) (rk_cons (re_callT call_tuple_of cf_tuple f_n_tuple PyProof.Rows.boot_tuple (ra_cons (re_var 2) ra_nil)) (rk_cons (re_callT call_tuple_of cf_tuple f_n_tuple PyProof.Rows.boot_tuple (ra_cons (re_var 3) ra_nil)) rk_nil))))))))) (fun _ _ _ _ w _ ht hz hv => have T := xt_of (xt_cons x_n_TwoNames (xt_cons x_n_NoName xt_nil)) ht; (rss_one (rs_set 4 nd (re_fz (rn_lst (ra_cons (re_isBT T (il_of ht (il_cons (cc.ck 5 (p := Doz.isT "TwoNames" "ValueError" true) rfl) (il_cons (cc.ck 4 (p := Doz.isT "NoName" "ValueError" true) rfl) il_nil)) rfl) hz hv f_n_ValueError (by decide +kernel) f_n_isinstance) (ra_cons (re_isG T (il_of ht (il_cons (cc.ck 3 (p := Doz.isK "TwoNames" "TwoNames" true) rfl) (il_cons (cc.ck 2 (p := Doz.isK "NoName" "TwoNames" false) rfl) il_nil)) rfl) hz hv g_n_TwoNames f_n_isinstance) (ra_cons (re_isG T (il_of ht (il_cons (cc.ck 1 (p := Doz.isK "TwoNames" "NoName" false) rfl) (il_cons (cc.ck 0 (p := Doz.isK "NoName" "NoName" true) rfl) il_nil)) rfl) hz hv g_n_NoName f_n_isinstance) ra_nil)))))))))
    (rss_one (rs_ret (re_var 4)))))
abbrev N_n_law : List Str := ["_law_script", "_law_due_here", "_law_latches", "_law_bells", "_law_tallies", "_law_boxes"]
theorem sc_n_law : FnScope N_n_law ["_law_script"] (defScope s_n_law) := ⟨rfl, rfl, rfl, by decide +kernel, rfl, by decide +kernel, by decide +kernel⟩
theorem ok_n_law (KX : K.In h) (G : h.Ns mainGlobals mg) (cc : SaysX fa fn xs cs ts K) : ∃ fd, (∀ base : Heap, FnOk P w K mg base (L2.CX P w) 6 (He.fAd K ("law", none)) fd ["_law_script"] (spM K 1 (m_n_law (clOf K)))) ∧ PySem.W.keepIn K (.ref (He.fAd K ("law", none))) = true ∧ ∀ (s : Shared) (v : Value), BindsTo s fd ⟨[v], []⟩ [("_law_script", v)] := by
  obtain ⟨fd, F⟩ := cc.says.def_ 13 (d := d_n_law) rfl
  obtain ⟨fd_x__law_spoilt, F_x__law_spoilt, kp_x__law_spoilt, b_x__law_spoilt_0⟩ := ok_x__law_spoilt (P := P) (w := w) KX G cc
  obtain ⟨fd_x__law_book, F_x__law_book, kp_x__law_book, b_x__law_book_0⟩ := ok_x__law_book (P := P) (w := w) KX G cc
  obtain ⟨fd_x__law_source, F_x__law_source, kp_x__law_source, b_x__law_source_0⟩ := ok_x__law_source (P := P) (w := w) KX G cc
  obtain ⟨fd_x__law_due, F_x__law_due, kp_x__law_due, b_x__law_due_0⟩ := ok_x__law_due (P := P) (w := w) KX G cc
  obtain ⟨fd_x__law_found, F_x__law_found, kp_x__law_found, b_x__law_found_0⟩ := ok_x__law_found (P := P) (w := w) KX G cc
  obtain ⟨fd_x__law_kinds, F_x__law_kinds, kp_x__law_kinds, b_x__law_kinds_0⟩ := ok_x__law_kinds (P := P) (w := w) KX G cc
  have g_x__law_source := He.glo_ok KX G (cc.says.fact 8 (f := .glo "_law_source") rfl)
  have g_x__law_book := He.glo_ok KX G (cc.says.fact 9 (f := .glo "_law_book") rfl)
  have g_x__law_spoilt := He.glo_ok KX G (cc.says.fact 10 (f := .glo "_law_spoilt") rfl)
  have g_x__law_due := He.glo_ok KX G (cc.says.fact 11 (f := .glo "_law_due") rfl)
  have g_x__law_found := He.glo_ok KX G (cc.says.fact 29 (f := .glo "_law_found") rfl)
  have g_x__law_kinds := He.glo_ok KX G (cc.says.fact 36 (f := .glo "_law_kinds") rfl)
  refine ⟨fd, fun base => fn_ok F sc_n_law (fun cdv A outer s H E W hr tk po => ?_), F.kp, fun s v => FunD.bindsA (ps := ["_law_script"]) F (fun _ _ _ _ _ _ us hl => match us, hl with | [_], _ => rfl) s [v] rfl⟩
  have hu := Hu.of (X := cxOf (L2.CX P w) P w K mg base N_n_law "law" (defScope s_n_law) (He.fAd K ("law", none)) cdv A outer s H E) hr
  have pw := pw_takes tk
  have nd := sc_n_law.nd
  exact (rss_cons (rs_asg (re_call (ks := []) (F_x__law_spoilt base) (hr.mono (by decide : 3 ≤ 5)) g_x__law_spoilt kp_x__law_spoilt b_x__law_spoilt_0 pw (rc_pos (ra_cons (re_call (ks := []) (F_x__law_source base) (hr.mono (by decide : 2 ≤ 5)) g_x__law_source kp_x__law_source b_x__law_source_0 pw (rc_pos (ra_cons (re_var 0) (ra_cons re_int ra_nil)))) (ra_cons (re_call (ks := []) (F_x__law_book base) (hr.mono (by decide : 4 ≤ 5)) g_x__law_book kp_x__law_book b_x__law_book_0 pw (rc_pos (ra_cons (re_call (ks := []) (F_x__law_source base) (hr.mono (by decide : 2 ≤ 5)) g_x__law_source kp_x__law_source b_x__law_source_0 pw (rc_pos (ra_cons (re_var 0) (ra_cons re_int ra_nil)))) ra_nil))) ra_nil)))) (rg_tup rfl (rgs_cons (rg_name 2 nd) (rgs_cons (rg_name 3 nd) (rgs_cons (rg_name 4 nd) (rgs_cons (rg_name 5 nd) rgs_nil))))))
    (rss_cons (rs_set 1 nd (re_call (ks := []) (F_x__law_due base) (hr.mono (by decide : 2 ≤ 5)) g_x__law_due kp_x__law_due b_x__law_due_0 pw (rc_pos (ra_cons (re_var 2) (ra_cons (re_var 3) (ra_cons (re_var 4) (ra_cons (re_var 5) ra_nil)))))))
    (rss_cons (rs_if (rt_cmp (op_neA hu) cm_neA (re_call (ks := []) (F_x__law_found base) (hr.mono (by decide : 5 ≤ 5)) g_x__law_found kp_x__law_found b_x__law_found_0 pw (rc_pos (ra_cons (re_var 2) (ra_cons (re_var 3) (ra_cons (re_var 4) (ra_cons (re_var 5) (ra_cons re_bl ra_nil))))))) (re_var 1)) (rss_one (rs_ret re_bl)) rss_nil)
    (rss_cons (rs_if (rt_cmp (op_neA hu) cm_neA (re_call (ks := []) (F_x__law_kinds base) (hr.mono (by decide : 5 ≤ 5)) g_x__law_kinds kp_x__law_kinds b_x__law_kinds_0 pw (rc_pos (ra_cons (re_var 2) (ra_cons (re_var 3) (ra_cons (re_var 4) (ra_cons (re_var 5) ra_nil)))))) (re_fz (rn_lst (ra_cons (re_cmp (op_neA hu) cm_neA (re_ix hu (re_var 1) re_int) re_str) (ra_cons (re_cmp (op_eqA hu) cm_eqA (re_ix hu (re_var 1) re_int) re_str) (ra_cons (re_cmp (op_eqA hu) cm_eqA (re_ix hu (re_var 1) re_int) re_str) ra_nil)))))) (rss_one (rs_ret re_bl)) rss_nil)
    (rss_cons (rs_if (rt_cmp (op_neA hu) cm_neA (re_call (ks := []) (F_x__law_found base) (hr.mono (by decide : 5 ≤ 5)) g_x__law_found kp_x__law_found b_x__law_found_0 pw (rc_pos (ra_cons (re_fz (rn_lst ra_nil)) (ra_cons (re_var 3) (ra_cons (re_fz (rn_lst ra_nil)) (ra_cons (re_fz (rn_lst ra_nil)) (ra_cons re_bl ra_nil))))))) (re_call (ks := []) (F_x__law_due base) (hr.mono (by decide : 2 ≤ 5)) g_x__law_due kp_x__law_due b_x__law_due_0 pw (rc_pos (ra_cons (re_fz (rn_lst ra_nil)) (ra_cons (re_var 3) (ra_cons (re_fz (rn_lst ra_nil)) (ra_cons (re_fz (rn_lst ra_nil)) ra_nil))))))) (rss_one (rs_ret re_bl)) rss_nil)
    (rss_cons (rs_if (rt_cmp (op_neA hu) cm_neA (re_call (ks := []) (F_x__law_found base) (hr.mono (by decide : 5 ≤ 5)) g_x__law_found kp_x__law_found b_x__law_found_0 pw (rc_pos (ra_cons (re_var 2) (ra_cons (re_fz (rn_lst ra_nil)) (ra_cons (re_fz (rn_lst ra_nil)) (ra_cons (re_var 5) (ra_cons re_bl ra_nil))))))) (re_call (ks := []) (F_x__law_due base) (hr.mono (by decide : 2 ≤ 5)) g_x__law_due kp_x__law_due b_x__law_due_0 pw (rc_pos (ra_cons (re_var 2) (ra_cons (re_fz (rn_lst ra_nil)) (ra_cons (re_fz (rn_lst ra_nil)) (ra_cons (re_var 5) ra_nil))))))) (rss_one (rs_ret re_bl)) rss_nil)
    (rss_one (rs_ret re_bl))))))))
end
end K62
end
section
namespace K62
open PySem L2 Doz
open PySem.DozX (ExTxt SaysX exB_ok hookX obsXG obsXG_eq)
abbrev R : PySem.W.OpenRow := PySem.W.OpenLaw.row PySem.Challenge.rw_dozehall_k62_books_of_names
noncomputable abbrev hk : PySem.W.Hook := hookX 6 fa fn xs cs ts
noncomputable def ob (s : PySem.W.SharedT) : He.AlD := obsXG 6 fa fn xs cs ts (HandSHeadRun.getT s)
theorem ob_eq (s : PySem.W.SharedT) : ob s = hk.obs s.abs := obsXG_eq (HandSHeadRun.getT_eq s)
def loose : List Str := [("_wall" : Str), ("DozeError" : Str), ("TwoNames" : Str), ("NoName" : Str), ("names_read" : Str), ("Book" : Str), ("_law_source" : Str), ("_law_draw" : Str), ("_law_names" : Str), ("_law_number" : Str), ("_law_book" : Str), ("_law_due" : Str), ("_law_spoilt" : Str), ("_law_found" : Str), ("_law_kinds" : Str)]
theorem run (w : World) : HandSHeadRun.RunEq R (PySem.W.view R.prog [18]) hk ob 40000 loose w := by
  intro os
  kernel_rfl
def Good (K : PySem.W.Frag) : Prop := (cs.map (He.ga K)).Nodup
theorem facts {P : Program} {w : World} {K : PySem.W.Frag} {h : Heap} {mg : Str → Option Value} {f : Addr} (KX : K.In h) (G : h.Ns mainGlobals mg) (hfa : mg ("law" : Str) = some (.ref f)) (cc : SaysX fa fn xs cs ts K) :
    ∃ fd : FuncData, (∀ (s : Shared) (v : Value), BindsTo s fd ⟨[v], []⟩ [("_law_script", v)]) ∧ ∀ base : Heap, K.In base → base.Ns mainGlobals mg → FnOk P w K mg base (L2.CX P w) 6 f fd ["_law_script"] (spM K 1 (m_n_law (clOf K))) := by
  have e := hfa.symm.trans (He.glo_ok KX G (cc.says.fact 0 (f := .glo "law") rfl))
  cases e
  obtain ⟨fd, F, _, b⟩ := ok_n_law (P := P) (w := w) KX G cc
  exact ⟨fd, b, fun base _ _ => F base⟩
end K62
open PySem PySem.W PySem.Calls PyProof.Rows
theorem K62.holds (law : ∀ (K : PySem.W.Frag), K62.Good K → ∀ (ns : List Int), ns.length ≤ 63 → ∃ μ, K62.m_n_law (Doz.clOf K) [.lst (ns.map Doz.D.int)] { cells := [] } = .ok (.bl true) μ) : PySem.Challenge.rw_dozehall_k62_books_of_names.Holds := by
  w_on; o_law
  refine HandSHeadRun.head_any (r := OpenLaw.row PySem.Challenge.rw_dozehall_k62_books_of_names) (q := view (OpenLaw.row PySem.Challenge.rw_dozehall_k62_books_of_names).prog [18]) (H := K62.hk) (ob := K62.ob) (M := 40000) (loose := K62.loose) (d := HandSHeadRun.topDef (OpenLaw.row PySem.Challenge.rw_dozehall_k62_books_of_names).prog 18) (kwd := []) K62.ob_eq
    (by kernel_rfl) (fun s => by kernel_rfl) K62.run (by kernel_rfl) (by kernel_rfl) (by kernel_rfl) (by rfl) (by first | assumption | decide +kernel) (by decide +kernel) ⟨rfl, rfl, rfl, rfl, rfl, by decide +kernel⟩ ?hw ?hc
  case hw => w_witness2
  case hc =>
    refine Doz.walk_ofP (l := PySem.Challenge.rw_dozehall_k62_books_of_names) (n := 63) (k := 6) (x := "_law_script") (m := fun K => K62.m_n_law (Doz.clOf K)) (Gd := K62.Good) rfl (by decide) (by kernel_rfl) ⟨rfl, by decide, by decide⟩ ?F law
    intro w mg fa h Y G hmg0
    obtain ⟨K, KX, c⟩ := Y
    have hmg : mg ("law" : PySem.Str) = some (.ref fa) := by
      have e : (HandSHeadRun.topDef (OpenLaw.row PySem.Challenge.rw_dozehall_k62_books_of_names).prog 18).name = ("law" : PySem.Str) := by kernel_rfl
      rw [← e]
      exact hmg0
    obtain ⟨fd, hb, hF⟩ := K62.facts (P := (PySem.Challenge.rw_dozehall_k62_books_of_names).prog) (w := w) KX G hmg c
    exact ⟨K, fd, KX, c.unlike, hb, hF⟩
end
section
namespace Doz
open PySem
abbrev EP := Addr → D → Mem → Prop
def noE : EP := fun _ _ _ => False
def wR {α : Type} (r : Res α) (Q : α → Mem → Prop) (E : EP) : Prop := match r with
  | .ok a μ => Q a μ
  | .err C w μ => E C w μ
  | .bad => False
def wE {α : Type} (m : MX α) (δ : DEnv) (μ : Mem) (Q : α → Mem → Prop) (E : EP) : Prop := wR (m δ μ) Q E
structure Po where
  nx : DEnv → Mem → Prop
  rt : D → Mem → Prop
  bk : DEnv → Mem → Prop
  ct : DEnv → Mem → Prop
  er : Addr → D → DEnv → Mem → Prop
def wP (r : SRes) (P : Po) : Prop := match r with
  | .nx δ μ => P.nx δ μ
  | .rt d μ => P.rt d μ
  | .bk δ μ => P.bk δ μ
  | .ct δ μ => P.ct δ μ
  | .err C w δ μ => P.er C w δ μ
  | .bad => False
def wS (m : MS) (δ : DEnv) (μ : Mem) (P : Po) : Prop := wP (m δ μ) P
def wG (g : MG) (d : D) (δ : DEnv) (μ : Mem) (Q : DEnv → Mem → Prop) (E : EP) : Prop := wR (g d δ μ) Q E
def wGs (g : MGs) (ds : List D) (δ : DEnv) (μ : Mem) (Q : DEnv → Mem → Prop) : Prop := wR (g ds δ μ) Q noE
def wC (μ : Mem) (n : Nat) (Q : Cell → Prop) : Prop := match μ.cells[n]? with
  | some c => Q c
  | none => False
theorem wR.imp {α : Type} {r : Res α} {Q Q' : α → Mem → Prop} {E : EP} (h : wR r Q E) (k : ∀ a μ, Q a μ → Q' a μ) : wR r Q' E := by
  cases r with
  | ok a μ => exact k a μ h
  | err C w μ => exact h
  | bad => exact h
theorem wR.imp2 {α : Type} {r : Res α} {Q Q' : α → Mem → Prop} {E E' : EP} (h : wR r Q E) (k : ∀ a μ, Q a μ → Q' a μ) (e : ∀ C w μ, E C w μ → E' C w μ) : wR r Q' E' := by
  cases r with
  | ok a μ => exact k a μ h
  | err C w μ => exact e C w μ h
  | bad => exact h
theorem wR.go {α : Type} {r : Res α} {Q Q' : α → Mem → Prop} {E : EP} (h : wR r Q noE) (k : ∀ a μ, Q a μ → Q' a μ) : wR r Q' E := h.imp2 k fun _ _ _ z => z.elim
theorem wR.of {α : Type} {r : Res α} {Q : α → Mem → Prop} (h : wR r Q noE) : ∃ a μ, r = .ok a μ ∧ Q a μ := by
  cases r with
  | ok a μ => exact ⟨a, μ, rfl, h⟩
  | err C w μ => exact h.elim
  | bad => exact h.elim
theorem wP.imp {r : SRes} {P P' : Po} (h : wP r P) (k1 : ∀ δ μ, P.nx δ μ → P'.nx δ μ) (k2 : ∀ d μ, P.rt d μ → P'.rt d μ) (k3 : ∀ δ μ, P.bk δ μ → P'.bk δ μ) (k4 : ∀ δ μ, P.ct δ μ → P'.ct δ μ) (k5 : ∀ C w δ μ, P.er C w δ μ → P'.er C w δ μ) : wP r P' := by
  cases r with
  | nx δ μ => exact k1 δ μ h
  | rt d μ => exact k2 d μ h
  | bk δ μ => exact k3 δ μ h
  | ct δ μ => exact k4 δ μ h
  | err C w δ μ => exact k5 C w δ μ h
  | bad => exact h
theorem wC_of {μ : Mem} {n : Nat} {c : Cell} (h : μ.cells[n]? = some c) (Q : Cell → Prop) : wC μ n Q = Q c := by unfold wC; rw [h]
section
variable {α β : Type} {m : MX α} {δ : DEnv} {μ : Mem} {E : EP}
theorem wR_ok (a : α) (μ : Mem) (Q : α → Mem → Prop) (E : EP) : wR (.ok a μ) Q E = Q a μ := rfl
theorem wR_err (C : Addr) (w : D) (μ : Mem) (Q : α → Mem → Prop) (E : EP) : wR (.err C w μ) Q E = E C w μ := rfl
theorem wR_bind (r : Res α) (k : α → Mem → Res β) (Q : β → Mem → Prop) (E : EP) : wR (r.bind k) Q E = wR r (fun a μ => wR (k a μ) Q E) E := by cases r <;> rfl
theorem wE_bind (m : MX α) (k : α → MX β) (δ : DEnv) (μ : Mem) (Q : β → Mem → Prop) (E : EP) : wE (bindM m k) δ μ Q E = wE m δ μ (fun a μ1 => wE (k a) δ μ1 Q E) E := by
  show wR ((m δ μ).bind _) Q E = _
  rw [wR_bind]; rfl
theorem wR_ite (p : Prop) [Decidable p] (r : Res α) (Q : α → Mem → Prop) (E : EP) : wR (if p then r else .bad) Q E = (p ∧ wR r Q E) := by
  by_cases h : p
  · rw [if_pos h]; simp [h]
  · rw [if_neg h]; simp [h, wR]
theorem wP_ite (p : Prop) [Decidable p] (r : SRes) (P : Po) : wP (if p then r else .bad) P = (p ∧ wP r P) := by
  by_cases h : p
  · rw [if_pos h]; simp [h]
  · rw [if_neg h]; simp [h, wP]
end
section
variable (δ : DEnv) (μ : Mem) (E : EP)
theorem wE_var0 (d : D) (r : DEnv) (Q : D → Mem → Prop) : wE (mvar 0) (some d :: r) μ Q E = Q d μ := rfl
theorem wE_varS (n : Nat) (x : Option D) (r : DEnv) (Q : D → Mem → Prop) : wE (mvar (n + 1)) (x :: r) μ Q E = wE (mvar n) r μ Q E := rfl
theorem wE_C (d : D) (Q : D → Mem → Prop) : wE (mC d) δ μ Q E = Q d μ := rfl
theorem wE_op (f : D → D → Mem → Res D) (a b : ME) (Q : D → Mem → Prop) : wE (mop f a b) δ μ Q E = wE a δ μ (fun x μ1 => wE b δ μ1 (fun y μ2 => wR (f x y μ2) Q E) E) E := by
  unfold mop; rw [wE_bind]; congr; funext x μ1; rw [wE_bind]; rfl
theorem wE_cmp (f : D → D → Mem → Res Bool) (a b : ME) (Q : Bool → Mem → Prop) : wE (mcmp f a b) δ μ Q E = wE a δ μ (fun x μ1 => wE b δ μ1 (fun y μ2 => wR (f x y μ2) Q E) E) E := by
  unfold mcmp; rw [wE_bind]; congr; funext x μ1; rw [wE_bind]; rfl
theorem wE_bl (m : MX Bool) (Q : D → Mem → Prop) : wE (mbl m) δ μ Q E = wE m δ μ (fun b μ1 => Q (.bl b) μ1) E := by unfold mbl; rw [wE_bind]; rfl
def qB (d : D) (Q : Bool → Prop) : Prop := match d with
  | .bl b => Q b
  | _ => False
theorem qB_bl (b : Bool) (Q : Bool → Prop) : qB (.bl b) Q = Q b := rfl
theorem wE_asB (m : ME) (Q : Bool → Mem → Prop) : wE (masB m) δ μ Q E = wE m δ μ (fun d μ1 => qB d fun b => Q b μ1) E := by
  unfold masB; rw [wE_bind]; congr; funext d μ1; cases d <;> rfl
theorem wE_and (a b : MX Bool) (Q : Bool → Mem → Prop) : wE (mand a b) δ μ Q E = wE a δ μ (fun x μ1 => if x = true then wE b δ μ1 Q E else Q false μ1) E := by
  unfold mand; rw [wE_bind]; congr; funext x μ1; cases x <;> rfl
theorem wE_or (a b : MX Bool) (Q : Bool → Mem → Prop) : wE (mor a b) δ μ Q E = wE a δ μ (fun x μ1 => if x = true then Q true μ1 else wE b δ μ1 Q E) E := by
  unfold mor; rw [wE_bind]; congr; funext x μ1; cases x <;> rfl
theorem wE_not (a : MX Bool) (Q : Bool → Mem → Prop) : wE (mnot a) δ μ Q E = wE a δ μ (fun x μ1 => Q (!x) μ1) E := by unfold mnot; rw [wE_bind]; rfl
theorem wE_andV (a b : ME) (Q : D → Mem → Prop) : wE (mandV a b) δ μ Q E = wE a δ μ (fun x μ1 => qB x fun x => if x = true then wE b δ μ1 Q E else Q (.bl false) μ1) E := by
  unfold mandV; rw [wE_bind]; congr; funext x μ1
  cases x with
  | bl x => cases x <;> rfl
  | _ => rfl
theorem wE_orV (a b : ME) (Q : D → Mem → Prop) : wE (morV a b) δ μ Q E = wE a δ μ (fun x μ1 => qB x fun x => if x = true then Q (.bl true) μ1 else wE b δ μ1 Q E) E := by
  unfold morV; rw [wE_bind]; congr; funext x μ1
  cases x with
  | bl x => cases x <;> rfl
  | _ => rfl
theorem wE_notV (a : ME) (Q : D → Mem → Prop) : wE (mnotV a) δ μ Q E = wE a δ μ (fun x μ1 => qB x fun x => Q (.bl (!x)) μ1) E := by
  unfold mnotV; rw [wE_bind]; congr; funext x μ1
  cases x with
  | bl x => cases x <;> rfl
  | _ => rfl
theorem wE_if (t : MX Bool) (a b : ME) (Q : D → Mem → Prop) : wE (mif t a b) δ μ Q E = wE t δ μ (fun x μ1 => if x = true then wE a δ μ1 Q E else wE b δ μ1 Q E) E := by
  unfold mif; rw [wE_bind]; congr; funext x μ1; cases x <;> rfl
theorem wE_nil (Q : List D → Mem → Prop) : wE mnil δ μ Q E = Q [] μ := rfl
theorem wE_cons (a : ME) (r : MX (List D)) (Q : List D → Mem → Prop) : wE (mcons a r) δ μ Q E = wE a δ μ (fun x μ1 => wE r δ μ1 (fun xs μ2 => Q (x :: xs) μ2) E) E := by
  unfold mcons; rw [wE_bind]; congr; funext x μ1; rw [wE_bind]; rfl
theorem wE_fz (m : MX (List D)) (Q : D → Mem → Prop) : wE (mfz m) δ μ Q E = wE m δ μ (fun ds μ1 => Q (.lst ds) μ1) E := by unfold mfz; rw [wE_bind]; rfl
theorem wE_lc (m : MX (List D)) (Q : D → Mem → Prop) : wE (mlc m) δ μ Q E = wE m δ μ (fun ds μ1 => Q (.loc μ1.cells.length) (μ1.push (.lst ds))) E := by unfold mlc; rw [wE_bind]; rfl
theorem wE_tup (m : MX (List D)) (Q : D → Mem → Prop) : wE (mtup m) δ μ Q E = wE m δ μ (fun ds μ1 => ds.length ≤ sizeLine ∧ Q (.tup ds) μ1) E := by
  unfold mtup; rw [wE_bind]; congr; funext ds μ1; exact wR_ite _ _ _ _
theorem wE_lst (m : MX (List D)) (Q : List D → Mem → Prop) : wE (mlst m) δ μ Q E = wE m δ μ (fun ds μ1 => ds.length ≤ sizeLine ∧ Q ds μ1) E := by
  unfold mlst; rw [wE_bind]; congr; funext ds μ1; exact wR_ite _ _ _ _
theorem wE_call {α : Type} (f : List D → Mem → Res α) (m : MX (List D)) (Q : α → Mem → Prop) : wE (mcall f m) δ μ Q E = wE m δ μ (fun ds μ1 => wR (f ds μ1) Q E) E := by unfold mcall; rw [wE_bind]; rfl
theorem wE_nopart (Q : Option Int → Mem → Prop) : wE mnopart δ μ Q E = Q none μ := rfl
def qI (d : D) (Q : Int → Prop) : Prop := match d with
  | .int i => Q i
  | _ => False
theorem qI_int (i : Int) (Q : Int → Prop) : qI (.int i) Q = Q i := rfl
theorem wE_part (m : ME) (Q : Option Int → Mem → Prop) : wE (mpart m) δ μ Q E = wE m δ μ (fun d μ1 => qI d fun i => Q (some i) μ1) E := by
  unfold mpart; rw [wE_bind]; congr; funext d μ1; cases d <;> rfl
theorem wE_slice (f : D → Option Int → Option Int → Mem → Res D) (a : ME) (l u : MX (Option Int)) (Q : D → Mem → Prop) : wE (mslice f a l u) δ μ Q E = wE a δ μ (fun x μ1 => wE l δ μ1 (fun lo μ2 => wE u δ μ2 (fun hi μ3 => wR (f x lo hi μ3) Q E) E) E) E := by
  unfold mslice; rw [wE_bind]; congr; funext x μ1; rw [wE_bind]; congr; funext lo μ2; rw [wE_bind]; rfl
theorem wE_fld (f : Str) (m : ME) (Q : D → Mem → Prop) : wE (mfld f m) δ μ Q E = wE m δ μ (fun d μ1 => wR (fFld f d μ1) Q E) E := by unfold mfld; rw [wE_bind]; rfl
theorem wE_dnew (Q : D → Mem → Prop) : wE mdnew δ μ Q E = Q (.loc μ.cells.length) (μ.push (.dK [])) := rfl
theorem wE_iter (m : ME) (Q : Its0 → Mem → Prop) : wE (miter m) δ μ Q E = wE m δ μ (fun d μ1 => wR (fIter d μ1) Q E) E := by unfold miter; rw [wE_bind]; rfl
theorem wE_rev (m : ME) (Q : Its0 → Mem → Prop) : wE (mrev m) δ μ Q E = wE m δ μ (fun d μ1 => wR (fRev d μ1) Q E) E := by unfold mrev; rw [wE_bind]; rfl
theorem wE_pos (m : MX (List D)) (Q : List D × List D → Mem → Prop) : wE (mpos m) δ μ Q E = wE m δ μ (fun ds μ1 => Q (ds, []) μ1) E := by unfold mpos; rw [wE_bind]; rfl
theorem wE_kws (m : MX (List D)) (Q : List D × List D → Mem → Prop) : wE (mkws m) δ μ Q E = wE m δ μ (fun ds μ1 => Q ([], ds) μ1) E := by unfold mkws; rw [wE_bind]; rfl
theorem wE_noa (Q : List D × List D → Mem → Prop) : wE mnoa δ μ Q E = Q ([], []) μ := rfl
theorem wE_both (m k : MX (List D)) (Q : List D × List D → Mem → Prop) : wE (mboth m k) δ μ Q E = wE m δ μ (fun ds μ1 => wE k δ μ1 (fun es μ2 => Q (ds, es) μ2) E) E := by
  unfold mboth; rw [wE_bind]; congr; funext x μ1; rw [wE_bind]; rfl
theorem wE_fn (n l : Nat) (gD : List D → List D → List D) (m : MF) (ma : MX (List D × List D)) (Q : D → Mem → Prop) : wE (mfn n l gD m ma) δ μ Q E = wE ma δ μ (fun a μ1 => (a.1.length = n ∧ a.2.length = l) ∧ wR (m (gD a.1 a.2) μ1) Q E) E := by
  unfold mfn; rw [wE_bind]; congr; funext a μ1; exact wR_ite _ _ _ _
def qMc (c : Cell) (nm : Str) (T : Addr → Option MM) (K : MM → Prop) : Prop := match c with
  | .ins C fs => noFld fs nm = true ∧ (match T C with | some mm => K mm | none => False)
  | _ => False
def qM (d : D) (μ : Mem) (nm : Str) (T : Addr → Option MM) (K : MM → Prop) : Prop := match d with
  | .loc n => wC μ n fun c => qMc c nm T K
  | _ => False
theorem qM_loc (n : Nat) (μ : Mem) (nm : Str) (T : Addr → Option MM) (K : MM → Prop) : qM (.loc n) μ nm T K = wC μ n fun c => qMc c nm T K := rfl
theorem wE_mth (nm : Str) (n l : Nat) (T : Addr → Option MM) (mo : ME) (ma : MX (List D × List D)) (Q : D → Mem → Prop) : wE (mmth nm n l T mo ma) δ μ Q E = wE mo δ μ (fun d μ1 => qM d μ1 nm T fun mm => wE ma δ μ1 (fun a μ2 => (a.1.length = n ∧ a.2.length = l) ∧ wR (mm d a.1 a.2 μ2) Q E) E) E := by
  unfold mmth; rw [wE_bind]; congr; funext d μ1
  show wR (match insOf μ1 d with | some (C, fs) => _ | none => _) Q E = _
  cases d with
  | loc k =>
    unfold insOf qM wC
    dsimp only
    cases μ1.cells[k]? with
    | none => rfl
    | some cc =>
      cases cc with
      | ins C fs =>
        show wR (if _ then _ else _) Q E = (_ ∧ _)
        rw [wR_ite]
        congr 1
        cases T C with
        | none => rfl
        | some mm =>
          dsimp only
          rw [wR_bind]
          show wR _ _ _ = wR _ _ _
          congr; funext a μ2; exact wR_ite _ _ _ _
      | _ => rfl
  | _ => rfl
def qN (d : D) (Q : Prop) : Prop := match d with
  | .non => Q
  | _ => False
theorem qN_non (Q : Prop) : qN .non Q = Q := rfl
theorem wE_mk (C : Addr) (n l : Nat) (gD : List D → List D → List D) (m : MF) (ma : MX (List D × List D)) (Q : D → Mem → Prop) : wE (mmk C n l gD m ma) δ μ Q E = wE ma δ μ (fun a μ1 => (a.1.length = n ∧ a.2.length = l) ∧ wR (m (gD (.loc μ1.cells.length :: a.1) a.2) (μ1.push (.ins C []))) (fun d μ2 => qN d (Q (.loc μ1.cells.length) μ2)) E) E := by
  unfold mmk; rw [wE_bind]; congr; funext a μ1; show wR (if _ then _ else _) _ _ = _
  split
  · rename_i h
    rw [wR_bind]
    simp only [h, and_self, true_and]
    congr; funext d μ2; cases d <;> rfl
  · rename_i h; simp [wR, h]
theorem wE_meth {α : Type} (ty : D → Mem → Bool) (f : D → List D → Mem → Res α) (mo : ME) (ma : MX (List D)) (Q : α → Mem → Prop) : wE (mmeth ty f mo ma) δ μ Q E = wE mo δ μ (fun d μ1 => ty d μ1 = true ∧ wE ma δ μ1 (fun ds μ2 => wR (f d ds μ2) Q E) E) E := by
  unfold mmeth; rw [wE_bind]; congr; funext d μ1; show wR (if _ then _ else _) _ _ = _
  split
  · rename_i h; simp only [h, true_and, wR_bind]; rfl
  · rename_i h; simp [wR, h]
theorem wE_neg (a : ME) (Q : D → Mem → Prop) : wE (mneg a) δ μ Q E = wE a δ μ (fun x μ1 => qI x fun i => Q (.int (-i)) μ1) E := by
  unfold mneg; rw [wE_bind]; congr; funext d μ1; cases d <;> rfl
theorem wE_chain (c c' : D → D → Mem → Res Bool) (a b z : ME) (Q : Bool → Mem → Prop) : wE (mchain c c' a b z) δ μ Q E = wE a δ μ (fun x μ1 => wE b δ μ1 (fun y μ2 => wR (c x y μ2) (fun k μ3 => if k = true then wE z δ μ3 (fun w μ4 => wR (c' y w μ4) Q E) E else Q false μ3) E) E) E := by
  unfold mchain; rw [wE_bind]; congr; funext x μ1; rw [wE_bind]; congr; funext y μ2
  show wR (Res.bind _ _) _ _ = _
  rw [wR_bind]; congr; funext k μ3
  cases k with
  | true => show wR (Res.bind _ _) _ _ = _; rw [wR_bind]; rfl
  | false => rfl
end
section
variable (δ : DEnv) (μ : Mem) (P : Po)
theorem wS_nx : wS mnx δ μ P = P.nx δ μ := rfl
theorem wS_bk : wS mbk δ μ P = P.bk δ μ := rfl
theorem wS_ct : wS mct δ μ P = P.ct δ μ := rfl
theorem wS_seq (a b : MS) : wS (mseq a b) δ μ P = wS a δ μ { P with nx := fun δ1 μ1 => wS b δ1 μ1 P } := by
  unfold wS mseq; cases a δ μ <;> rfl
theorem wE_cut {α : Type} {m : MX α} {δ : DEnv} {μ : Mem} {Q : α → Mem → Prop} {E : EP} (R : α → Mem → Prop) (h1 : wE m δ μ R noE) (h2 : ∀ a μ', R a μ' → Q a μ') : wE m δ μ Q E := wR.go h1 h2
theorem wS_cut {a b : MS} {δ : DEnv} {μ : Mem} {P : Po} (R : DEnv → Mem → Prop) (h1 : wS a δ μ { P with nx := R }) (h2 : ∀ δ' μ', R δ' μ' → wS b δ' μ' P) : wS (mseq a b) δ μ P := by
  rw [wS_seq]
  exact wP.imp h1 (fun δ' μ' h => h2 δ' μ' h) (fun _ _ h => h) (fun _ _ h => h) (fun _ _ h => h) (fun _ _ _ _ h => h)
theorem wS_ofE {α : Type} (m : MX α) (k : α → MS) : wS (ofE m k) δ μ P = wE m δ μ (fun a μ1 => wS (k a) δ μ1 P) (fun C w μ1 => P.er C w δ μ1) := by
  unfold wS ofE wE; cases m δ μ <;> rfl
theorem wS_drop (m : ME) : wS (mdrop m) δ μ P = wE m δ μ (fun _ μ1 => P.nx δ μ1) (fun C w μ1 => P.er C w δ μ1) := by unfold mdrop; rw [wS_ofE]; rfl
theorem wS_ret (m : ME) : wS (mret m) δ μ P = wE m δ μ (fun d μ1 => P.rt d μ1) (fun C w μ1 => P.er C w δ μ1) := by unfold mret; rw [wS_ofE]; rfl
theorem wS_retN : wS mretN δ μ P = P.rt .non μ := rfl
theorem wS_if (t : MX Bool) (a b : MS) : wS (mifS t a b) δ μ P = wE t δ μ (fun x μ1 => if x = true then wS a δ μ1 P else wS b δ μ1 P) (fun C w μ1 => P.er C w δ μ1) := by
  unfold mifS; rw [wS_ofE]; congr; funext x μ1; cases x <;> rfl
theorem wS_asg (m : ME) (g : MG) : wS (masg m g) δ μ P = wE m δ μ (fun d μ1 => wG g d δ μ1 P.nx (fun C w μ2 => P.er C w δ μ2)) (fun C w μ1 => P.er C w δ μ1) := by
  unfold masg; rw [wS_ofE]; congr; funext d μ1; unfold wS wG; dsimp only; cases g d δ μ1 <;> rfl
def qL (d : D) (Q : Nat → Prop) : Prop := match d with
  | .loc n => Q n
  | _ => False
theorem qL_loc (n : Nat) (Q : Nat → Prop) : qL (.loc n) Q = Q n := rfl
def qCl (c : Cell) (Q : List D → Prop) : Prop := match c with
  | .lst ds => Q ds
  | _ => False
theorem qCl_lst (ds : List D) (Q : List D → Prop) : qCl (.lst ds) Q = Q ds := rfl
theorem wS_retFz (m : ME) : wS (mretFz m) δ μ P = wE m δ μ (fun d μ1 => qL d fun n => wC μ1 n fun c => qCl c fun ds => μ1.lkd n = false ∧ P.rt (.lst ds) (μ1.set n .dead)) (fun C w μ1 => P.er C w δ μ1) := by
  unfold mretFz; rw [wS_ofE]; congr; funext d μ1
  cases d with
  | loc n =>
    show wP (match μ1.cells[n]? with | some (.lst ds) => _ | _ => _) P = wC μ1 n _
    unfold wC
    cases μ1.cells[n]? with
    | none => rfl
    | some c =>
      cases c with
      | lst ds =>
        exact wP_ite _ _ _
      | _ => rfl
  | _ => rfl
theorem wS_raise (C : Addr) (a : ME) : wS (mraise C (mcons a mnil)) δ μ P = wE a δ μ (fun w μ1 => P.er C w δ μ1) (fun C w μ1 => P.er C w δ μ1) := by
  unfold mraise; rw [wS_ofE, wE_cons]; rfl
theorem wS_for (mi : MX Its0) (g : MG) (body : MS) : wS (mfor mi g body) δ μ P = wE mi δ μ (fun it μ1 => wS (mloop g body it.2 it.1) δ μ1 P) (fun C w μ1 => P.er C w δ μ1) := by
  unfold mfor; rw [wS_ofE]
theorem wS_try (i : Nat) (test : Addr → Option Bool) (mb : MS) (ms : Addr → D → MS) : wS (mtry i test mb ms) δ μ P = wS mb δ μ { P with er := fun C w δ1 μ1 => (test C = some false ∧ P.er C w δ1 μ1) ∨ (test C = some true ∧ i < δ1.length ∧ wS (ms C w) (δ1.set i none) μ1 { nx := fun δ2 μ2 => P.nx (δ2.set i none) μ2, rt := P.rt, bk := fun δ2 μ2 => P.bk (δ2.set i none) μ2, ct := fun δ2 μ2 => P.ct (δ2.set i none) μ2, er := fun _ _ _ _ => False }) } := by
  unfold wS mtry
  cases h : mb δ μ with
  | err C w δ1 μ1 =>
    simp only [wP]
    cases ht : test C with
    | none => simp
    | some b =>
      cases b with
      | false => simp [wP]
      | true =>
        simp only [Option.some.injEq, Bool.true_eq_false, false_and, true_and, false_or]
        by_cases hi : i < δ1.length
        · rw [if_pos hi]
          cases ms C w (δ1.set i none) μ1 <;> simp [unS, wP, hi]
        · rw [if_neg hi]; simp [wP, hi]
  | _ => rfl
end
section
variable (δ : DEnv) (μ : Mem) (E : EP) (d : D)
theorem wG_set0 (x : Option D) (r : DEnv) (Q : DEnv → Mem → Prop) : wG (gset 0) d (x :: r) μ Q E = Q (some d :: r) μ := rfl
theorem wG_setS (n : Nat) (x : Option D) (r : DEnv) (Q : DEnv → Mem → Prop) : wG (gset (n + 1)) d (x :: r) μ Q E = wG (gset n) d r μ (fun r' μ' => Q (x :: r') μ') E := rfl
theorem wG_then (g1 g2 : MG) (Q : DEnv → Mem → Prop) : wG (gthen g1 g2) d δ μ Q E = wG g1 d δ μ (fun δ1 μ1 => wG g2 d δ1 μ1 Q noE) noE := by
  unfold wG gthen
  cases g1 d δ μ with
  | ok a μ1 => show wR (match g2 d a μ1 with | .ok δ2 μ2 => Res.ok δ2 μ2 | _ => Res.bad) Q E = wR (g2 d a μ1) Q noE; cases g2 d a μ1 <;> rfl
  | _ => rfl
theorem wG_sub (mo mi : ME) (Q : DEnv → Mem → Prop) : wG (gsub mo mi) d δ μ Q E = wE mo δ μ (fun x μ1 => wE mi δ μ1 (fun y μ2 => wR (setD x y d μ2) (fun _ μ3 => Q δ μ3) noE) E) E := by
  unfold wG gsub; rw [wR_bind]; show wR _ _ _ = wR _ _ _; congr; funext x μ1; rw [wR_bind]; show wR _ _ _ = wR _ _ _; congr; funext y μ2
  cases setD x y d μ2 <;> rfl
theorem wG_fld (Cs : List Addr) (f : Str) (mo : ME) (Q : DEnv → Mem → Prop) : wG (gfld Cs f mo) d δ μ Q E = wE mo δ μ (fun x μ1 => wR (setF Cs f x d μ1) (fun _ μ2 => Q δ μ2) noE) E := by
  unfold wG gfld; rw [wR_bind]; show wR _ _ _ = wR _ _ _; congr; funext x μ1
  cases setF Cs f x d μ1 <;> rfl
def qT (d : D) (Q : List D → Prop) : Prop := match d with
  | .tup ds => Q ds
  | _ => False
theorem qT_tup (ds : List D) (Q : List D → Prop) : qT (.tup ds) Q = Q ds := rfl
theorem wG_tup (n : Nat) (gs : MGs) (Q : DEnv → Mem → Prop) : wG (gtup n gs) d δ μ Q E = qT d fun ds => ds.length = n ∧ wGs gs ds δ μ Q := by
  unfold wG gtup
  cases d with
  | tup ds =>
    show wR (if _ then _ else _) _ _ = (_ ∧ _)
    split
    · rename_i h; simp only [h, true_and]; unfold wGs; cases gs ds δ μ <;> rfl
    · rename_i h; simp [wR, h]
  | _ => rfl
theorem wGs_nil (Q : DEnv → Mem → Prop) : wGs gnil [] δ μ Q = Q δ μ := rfl
theorem wGs_cons (g : MG) (gs : MGs) (d : D) (r : List D) (Q : DEnv → Mem → Prop) : wGs (gcons g gs) (d :: r) δ μ Q = wG g d δ μ (fun δ1 μ1 => wGs gs r δ1 μ1 Q) noE := by
  unfold wGs wG gcons; dsimp only; cases g d δ μ <;> rfl
end
def endB (Q : D → Mem → Prop) (E : EP) : Po := { nx := fun _ μ => Q .non μ, rt := Q, bk := fun _ _ => False, ct := fun _ _ => False, er := fun C w _ μ => E C w μ }
theorem w_run (n : Nat) (t : MS) (ds : List D) (μ : Mem) (Q : D → Mem → Prop) (E : EP) : wR (runB n t ds μ) Q E = wS t (startD n ds) μ (endB Q E) := by
  unfold runB wS; cases t (startD n ds) μ <;> rfl
theorem endB_nx (Q : D → Mem → Prop) (E : EP) : (endB Q E).nx = fun _ μ => Q .non μ := rfl
theorem endB_rt (Q : D → Mem → Prop) (E : EP) : (endB Q E).rt = Q := rfl
theorem endB_er (Q : D → Mem → Prop) (E : EP) : (endB Q E).er = fun C w _ μ => E C w μ := rfl
theorem endB_bk (Q : D → Mem → Prop) (E : EP) : (endB Q E).bk = fun _ _ => False := rfl
theorem endB_ct (Q : D → Mem → Prop) (E : EP) : (endB Q E).ct = fun _ _ => False := rfl
end Doz
end
section
namespace Doz
open PySem L2
section
variable {μ : Mem} {n m : Nat} {c c' : Cell}
theorem len_set : (μ.set n c).cells.length = μ.cells.length := by simp [Mem.set]
theorem len_push : (μ.push c).cells.length = μ.cells.length + 1 := by simp [Mem.push]
theorem lkd_nil (h : μ.lk = []) : μ.lkd n = false := by unfold Mem.lkd; rw [h]; rfl
theorem at_lt (h : μ.cells[n]? = some c) : n < μ.cells.length := (List.getElem?_eq_some_iff.mp h).1
theorem at_set (h : n < μ.cells.length) : (μ.set n c).cells[n]? = some c := by simp [Mem.set, h]
theorem at_setn (h : m ≠ n) : (μ.set n c).cells[m]? = μ.cells[m]? := by simp [Mem.set, Ne.symm h]
theorem at_push : (μ.push c).cells[μ.cells.length]? = some c := by simp [Mem.push]
theorem at_push2 (h : m = μ.cells.length) : (μ.push c).cells[m]? = some c := by subst h; exact at_push
theorem at_pushn (h : m < μ.cells.length) : (μ.push c).cells[m]? = μ.cells[m]? := by
  show (μ.cells ++ [c])[m]? = _
  exact List.getElem?_append_left h
theorem at_push_of (h : μ.cells[m]? = some c') : (μ.push c).cells[m]? = some c' := by rw [at_pushn (at_lt h)]; exact h
theorem set_set : (μ.set n c).set n c' = μ.set n c' := by simp [Mem.set]
theorem set_push_last : (μ.push c).set μ.cells.length c' = μ.push c' := by simp [Mem.set, Mem.push]
theorem set_push2 (h : n = μ.cells.length) : (μ.push c).set n c' = μ.push c' := by subst h; exact set_push_last
theorem set_pushn (h : n < μ.cells.length) : (μ.push c).set n c' = (μ.set n c').push c := by
  unfold Mem.set Mem.push; simp [List.set_append_left _ _ h]
theorem wC_set (h : n < μ.cells.length) (Q : Cell → Prop) : wC (μ.set n c) n Q = Q c := wC_of (at_set h) Q
theorem wC_setn (h : m ≠ n) (Q : Cell → Prop) : wC (μ.set n c) m Q = wC μ m Q := by unfold wC; rw [at_setn h]
theorem wC_push (Q : Cell → Prop) : wC (μ.push c) μ.cells.length Q = Q c := wC_of at_push Q
theorem wC_push2 (h : m = μ.cells.length) (Q : Cell → Prop) : wC (μ.push c) m Q = Q c := by subst h; exact wC_push Q
theorem wC_pushn (h : m < μ.cells.length) (Q : Cell → Prop) : wC (μ.push c) m Q = wC μ m Q := by unfold wC; rw [at_pushn h]
end
structure Fr (S : List Nat) (μ μ' : Mem) : Prop where
  le : μ.cells.length ≤ μ'.cells.length
  lk : μ'.lk = μ.lk
  eq : ∀ k, k ∉ S → k < μ.cells.length → μ'.cells[k]? = μ.cells[k]?
section
variable {S T : List Nat} {μ μ1 μ2 : Mem} {n k : Nat} {c : Cell}
theorem Fr.refl (S : List Nat) (μ : Mem) : Fr S μ μ := ⟨Nat.le_refl _, rfl, fun _ _ _ => rfl⟩
theorem Fr.trans (a : Fr S μ μ1) (b : Fr T μ1 μ2) (h : ∀ k ∈ T, k < μ.cells.length → k ∈ S := by intro k hk _; exact hk) : Fr S μ μ2 :=
  ⟨Nat.le_trans a.le b.le, b.lk.trans a.lk, fun k hk hl => by
    rw [b.eq k (fun z => hk (h k z hl)) (Nat.lt_of_lt_of_le hl a.le)]; exact a.eq k hk hl⟩
theorem Fr.mono (a : Fr T μ μ1) (h : ∀ k ∈ T, k < μ.cells.length → k ∈ S) : Fr S μ μ1 := ⟨a.le, a.lk, fun k hk hl => a.eq k (fun z => hk (h k z hl)) hl⟩
theorem Fr.set (n : Nat) (c : Cell) (h : n ∈ S ∨ μ.cells.length ≤ n := by simp) : Fr S μ (μ.set n c) := ⟨by rw [len_set]; exact Nat.le_refl _, rfl, fun k hk hl => at_setn fun z => by
  subst z
  rcases h with h | h
  · exact hk h
  · omega⟩
theorem Fr.push (S : List Nat) (μ : Mem) (c : Cell) : Fr S μ (μ.push c) := ⟨by rw [len_push]; omega, rfl, fun k hk hl => at_pushn hl⟩
theorem Fr.get (a : Fr S μ μ1) (h : μ.cells[k]? = some c) (hk : k ∉ S) : μ1.cells[k]? = some c := by rw [a.eq k hk (at_lt h)]; exact h
end
theorem Fr.set1 (μ : Mem) (n : Nat) (c : Cell) : Fr [n] μ (μ.set n c) := Fr.set n c (.inl (by simp))
theorem str_len_app (x y : Str) : (x ++ y).length = x.length + y.length := by
  show (x.cps ++ y.cps).size = _
  rw [Array.size_append]; rfl
theorem str_len_one (c : Nat) : (⟨#[c]⟩ : Str).length = 1 := rfl
theorem cut_len_le (x : Str) (lo hi : Option Int) : (cutS x lo hi).length ≤ x.length := by
  show (List.toArray _).size ≤ _
  rw [List.size_toArray, List.length_take, List.length_drop]
  have : x.cps.toList.length = x.length := by simp [Str.length]
  omega
theorem log2_lt {n k : Nat} (h : n < 2 ^ k) (hk : 0 < k) : n.log2 < k := by
  by_cases h0 : n = 0
  · subst h0; simpa using hk
  · exact (Nat.log2_lt h0).mpr h
theorem lg {i : Int} {k : Nat} (h1 : -(2 ^ k : Int) < i) (h2 : i < 2 ^ k) (hk : 0 < k) : i.natAbs.log2 < k := by
  refine log2_lt ?_ hk
  have : ((2 ^ k : Nat) : Int) = (2 : Int) ^ k := by simp
  omega
def MulOk (i j : Int) : Prop := i.natAbs.log2 + j.natAbs.log2 < 1000000
def DivOk (j : Int) : Prop := 0 < j ∧ j.natAbs.log2 < 9000
def PowOk (i j : Int) : Prop := 0 ≤ j ∧ j ≤ 1000000 ∧ i.natAbs < 2 ^ 64
def StrOk (i : Int) : Prop := i.natAbs.log2 < 1920
theorem mulOk {i j : Int} (h1 : -(2 ^ 400) < i) (h2 : i < 2 ^ 400) (h3 : -(2 ^ 400) < j) (h4 : j < 2 ^ 400) : MulOk i j := by
  have a := lg h1 h2 (by decide)
  have b := lg h3 h4 (by decide)
  unfold MulOk; omega
theorem divOk {j : Int} (h1 : 0 < j) (h2 : j < 2 ^ 400) : DivOk j := ⟨h1, Nat.lt_of_lt_of_le (lg (by omega) h2 (by decide)) (by decide)⟩
theorem powOk {i j : Int} (h1 : 0 ≤ j) (h2 : j ≤ 1000000) (h3 : -(2 ^ 64) < i) (h4 : i < 2 ^ 64) : PowOk i j := ⟨h1, h2, by omega⟩
theorem strOk' {i : Int} (h1 : -(2 ^ 400) < i) (h2 : i < 2 ^ 400) : StrOk i := Nat.lt_of_lt_of_le (lg h1 h2 (by decide)) (by decide)
def qO {α : Type} (o : Option α) (Q : α → Prop) : Prop := match o with
  | some a => Q a
  | none => False
theorem qO_some {α : Type} (a : α) (Q : α → Prop) : qO (some a) Q = Q a := rfl
theorem qO_of {α : Type} {o : Option α} {a : α} (h : o = some a) (Q : α → Prop) : qO o Q = Q a := by rw [h]; rfl
theorem qO_at0 {α : Type} (a : α) (r : List α) (Q : α → Prop) : qO (atI (a :: r) 0) Q = Q a := by
  have : atI (a :: r) 0 = some a := atI_nat (j := 0) rfl
  rw [this]; rfl
theorem qO_at1 {α : Type} (a b : α) (r : List α) (Q : α → Prop) : qO (atI (a :: b :: r) 1) Q = Q b := by
  have : atI (a :: b :: r) 1 = some b := atI_nat (j := 1) rfl
  rw [this]; rfl
theorem qO_at2 {α : Type} (a b c : α) (r : List α) (Q : α → Prop) : qO (atI (a :: b :: c :: r) 2) Q = Q c := by
  have : atI (a :: b :: c :: r) 2 = some c := atI_nat (j := 2) rfl
  rw [this]; rfl
theorem qO_at3 {α : Type} (a b c d : α) (r : List α) (Q : α → Prop) : qO (atI (a :: b :: c :: d :: r) 3) Q = Q d := by
  have : atI (a :: b :: c :: d :: r) 3 = some d := atI_nat (j := 3) rfl
  rw [this]; rfl
theorem qO_at4 {α : Type} (a b c d e : α) (r : List α) (Q : α → Prop) : qO (atI (a :: b :: c :: d :: e :: r) 4) Q = Q e := by
  have : atI (a :: b :: c :: d :: e :: r) 4 = some e := atI_nat (j := 4) rfl
  rw [this]; rfl
theorem qO_at5 {α : Type} (a b c d e f : α) (r : List α) (Q : α → Prop) : qO (atI (a :: b :: c :: d :: e :: f :: r) 5) Q = Q f := by
  have : atI (a :: b :: c :: d :: e :: f :: r) 5 = some f := atI_nat (j := 5) rfl
  rw [this]; rfl
theorem atI_lt {α : Type} {xs : List α} {i : Int} (h0 : 0 ≤ i) (h1 : i < xs.length) : ∃ v, atI xs i = some v ∧ xs[i.toNat]? = some v := by
  have hl : i.toNat < xs.length := by omega
  refine ⟨xs[i.toNat], ?_, List.getElem?_eq_getElem hl⟩
  have := atI_nat (xs := xs) (j := i.toNat) (List.getElem?_eq_getElem hl)
  rwa [Int.toNat_of_nonneg h0] at this
theorem atI_map {α β : Type} (f : α → β) (xs : List α) (i : Int) : atI (xs.map f) i = (atI xs i).map f := by
  unfold atI; rw [List.length_map]; cases ixN xs.length i <;> simp
theorem atI_mapI {xs : List Int} {i : Int} (h0 : 0 ≤ i) (h1 : i < xs.length) : ∃ v, atI (xs.map D.int) i = some (.int v) ∧ xs[i.toNat]? = some v := by
  obtain ⟨v, h, h'⟩ := atI_lt h0 h1
  exact ⟨v, by rw [atI_map, h]; rfl, h'⟩
section
variable (μ : Mem) (E : EP) (i j : Int) (x y : Str)
theorem w_add_int (Q : D → Mem → Prop) : wR (fAdd (.int i) (.int j) μ) Q E = Q (.int (i + j)) μ := rfl
theorem w_add_str (Q : D → Mem → Prop) : wR (fAdd (.str x) (.str y) μ) Q E = (x.length + y.length ≤ sizeLine ∧ Q (.str (x ++ y)) μ) := wR_ite _ _ _ _
theorem w_add_tup (xs ys : List D) (Q : D → Mem → Prop) : wR (fAdd (.tup xs) (.tup ys) μ) Q E = (xs.length + ys.length ≤ sizeLine ∧ Q (.tup (xs ++ ys)) μ) := wR_ite _ _ _ _
theorem w_add_lst (xs ys : List D) (Q : D → Mem → Prop) : wR (fAdd (.lst xs) (.lst ys) μ) Q E = (xs.length + ys.length ≤ sizeLine ∧ Q (.lst (xs ++ ys)) μ) := by
  show wR (match catL μ (.lst xs) (.lst ys) with | some zs => Res.ok (D.lst zs) μ | none => .bad) Q E = _
  have e : catL μ (.lst xs) (.lst ys) = if xs.length + ys.length ≤ sizeLine then some (xs ++ ys) else none := rfl
  rw [e]
  by_cases h : xs.length + ys.length ≤ sizeLine
  · rw [if_pos h]; simp [h, wR]
  · rw [if_neg h]; simp [h, wR]
theorem w_sub (Q : D → Mem → Prop) : wR (fSub (.int i) (.int j) μ) Q E = Q (.int (i - j)) μ := rfl
theorem w_mod (Q : D → Mem → Prop) : wR (fMod (.int i) (.int j) μ) Q E = (0 < j ∧ Q (.int (i % j)) μ) := wR_ite _ _ _ _
theorem w_div (Q : D → Mem → Prop) : wR (fDiv (.int i) (.int j) μ) Q E = (DivOk j ∧ Q (.int (i / j)) μ) := wR_ite _ _ _ _
theorem w_mul (Q : D → Mem → Prop) : wR (fMul (.int i) (.int j) μ) Q E = (MulOk i j ∧ Q (.int (i * j)) μ) := wR_ite _ _ _ _
theorem w_pow (Q : D → Mem → Prop) : wR (fPow (.int i) (.int j) μ) Q E = (PowOk i j ∧ Q (.int (i ^ j.toNat)) μ) := wR_ite _ _ _ _
theorem w_band (Q : D → Mem → Prop) : wR (fAnd (.int i) (.int j) μ) Q E = Q (.int (Builtin.bitAnd i j)) μ := rfl
theorem w_lt (Q : Bool → Mem → Prop) : wR (cLt (.int i) (.int j) μ) Q E = Q (decide (i < j)) μ := rfl
theorem w_le (Q : Bool → Mem → Prop) : wR (cLe (.int i) (.int j) μ) Q E = Q (decide (i ≤ j)) μ := rfl
theorem w_gt (Q : Bool → Mem → Prop) : wR (cGt (.int i) (.int j) μ) Q E = Q (decide (j < i)) μ := rfl
theorem w_ge (Q : Bool → Mem → Prop) : wR (cGe (.int i) (.int j) μ) Q E = Q (decide (j ≤ i)) μ := rfl
theorem w_is (d : D) (Q : Bool → Mem → Prop) : wR (cIs d .non μ) Q E = Q d.isNon μ := rfl
theorem w_isNot (d : D) (Q : Bool → Mem → Prop) : wR (cIsNot d .non μ) Q E = Q (!d.isNon) μ := rfl
theorem nonN : D.isNon .non = true := rfl
theorem nonI : D.isNon (.int i) = false := rfl
theorem nonS : D.isNon (.str x) = false := rfl
theorem nonT (ds : List D) : D.isNon (.tup ds) = false := rfl
theorem nonL (ds : List D) : D.isNon (.lst ds) = false := rfl
theorem nonLoc (n : Nat) : D.isNon (.loc n) = false := rfl
theorem w_eq_int (Q : Bool → Mem → Prop) : wR (cEqA (.int i) (.int j) μ) Q E = Q (i == j) μ := rfl
theorem w_ne_int (Q : Bool → Mem → Prop) : wR (cNeA (.int i) (.int j) μ) Q E = Q (!(i == j)) μ := rfl
theorem w_eq_str (Q : Bool → Mem → Prop) : wR (cEqA (.str x) (.str y) μ) Q E = Q (x == y) μ := rfl
theorem w_ne_str (Q : Bool → Mem → Prop) : wR (cNeA (.str x) (.str y) μ) Q E = Q (!(x == y)) μ := rfl
theorem w_eq_of {μ : Mem} {d e p q : D} (hd : dcell μ d = none ∨ dcell μ e = none) (h1 : rsv μ 8 d = some p) (h2 : rsv μ 8 e = some q) (f1 : p.fits = true) (f2 : q.fits = true) (E : EP) (Q : Bool → Mem → Prop) (h : Q (D.eqv p q) μ) : wR (cEqA d e μ) Q E := by
  have e0 : cEqA d e μ = cEq d e μ := by
    unfold cEqA
    rcases hd with hd | hd
    · rw [hd]
    · rw [hd]; cases dcell μ d <;> rfl
  rw [e0]
  unfold cEq
  split
  · rename_i hs
    simp only [Bool.and_eq_true] at hs
    have : ∀ {d p : D}, d.sc = true → rsv μ 8 d = some p → d = p := fun hs h => by
      rename_i d p
      cases d <;> first | (cases hs; done) | exact Option.some.inj h
    rw [this hs.1 h1, this hs.2 h2]; exact h
  · rw [h1, h2]; simp only [f1, f2, Bool.and_self, if_true]; exact h
def qIx (c : Cell) (i : Int) (Q : D → Prop) : Prop := match c with
  | .lst ds => qO (atI ds i) Q
  | .dK kds => qO (kget kds (.inl i)) Q
  | _ => False
theorem qIx_lst (ds : List D) (i : Int) (Q : D → Prop) : qIx (.lst ds) i Q = qO (atI ds i) Q := rfl
theorem qIx_dK (ds : List (Key × D)) (i : Int) (Q : D → Prop) : qIx (.dK ds) i Q = qO (kget ds (.inl i)) Q := rfl
def qIxS (c : Cell) (x : Str) (Q : D → Prop) : Prop := match c with
  | .dK kds => qO (kget kds (.inr x)) Q
  | _ => False
theorem qIxS_dK (ds : List (Key × D)) (x : Str) (Q : D → Prop) : qIxS (.dK ds) x Q = qO (kget ds (.inr x)) Q := rfl
theorem w_ix_loc (n : Nat) (Q : D → Mem → Prop) : wR (fIx (.loc n) (.int i) μ) Q E = wC μ n fun c => qIx c i fun r => Q r μ := by
  unfold fIx dfind dictOf wC seqOf lstOf
  dsimp only
  cases μ.cells[n]? with
  | none => rfl
  | some c =>
    cases c with
    | lst ds => show wR (match atI ds i with | some r => _ | none => _) Q E = qO (atI ds i) _; cases atI ds i <;> rfl
    | dK ds => show wR (match some (kget ds (.inl i)) with | some (some r) => _ | some none => _ | none => _) Q E = qO (kget ds (.inl i)) _; cases kget ds (.inl i) <;> rfl
    | _ => rfl
theorem w_ix_locS (n : Nat) (Q : D → Mem → Prop) : wR (fIx (.loc n) (.str x) μ) Q E = wC μ n fun c => qIxS c x fun r => Q r μ := by
  unfold fIx dfind dictOf wC
  dsimp only
  cases μ.cells[n]? with
  | none => rfl
  | some c =>
    cases c with
    | dK ds => show wR (match some (kget ds (.inr x)) with | some (some r) => _ | some none => _ | none => _) Q E = qO (kget ds (.inr x)) _; cases kget ds (.inr x) <;> rfl
    | _ => rfl
theorem w_ix_lst (ds : List D) (Q : D → Mem → Prop) : wR (fIx (.lst ds) (.int i) μ) Q E = qO (atI ds i) fun r => Q r μ := by
  show wR (match atI ds i with | some r => _ | none => _) Q E = qO (atI ds i) _; cases atI ds i <;> rfl
theorem w_ix_tup (ds : List D) (Q : D → Mem → Prop) : wR (fIx (.tup ds) (.int i) μ) Q E = qO (atI ds i) fun r => Q r μ := by
  show wR (match atI ds i with | some r => _ | none => _) Q E = qO (atI ds i) _; cases atI ds i <;> rfl
theorem w_ix_str (Q : D → Mem → Prop) : wR (fIx (.str x) (.int i) μ) Q E = (x.length ≤ sizeLine ∧ qO (atI x.cps.toList i) fun c => Q (.str ⟨#[c]⟩) μ) := by
  refine (wR_ite _ _ _ _).trans ?_
  cases atI x.cps.toList i <;> rfl
def qLS (ds : List D) (i : Int) (v : D) (Q : List D → Prop) : Prop := qO (ixN ds.length i) fun j => Q (ds.set j v)
theorem qLS_0 (a : D) (r : List D) (v : D) (Q : List D → Prop) : qLS (a :: r) 0 v Q = Q (v :: r) := by
  unfold qLS; rw [qO_of (show ixN (a :: r).length 0 = some 0 by simp [ixN])]; rfl
theorem qLS_1 (a b : D) (r : List D) (v : D) (Q : List D → Prop) : qLS (a :: b :: r) 1 v Q = Q (a :: v :: r) := by
  unfold qLS; rw [qO_of (show ixN (a :: b :: r).length 1 = some 1 by simp [ixN]; omega)]; rfl
theorem qLS_2 (a b c : D) (r : List D) (v : D) (Q : List D → Prop) : qLS (a :: b :: c :: r) 2 v Q = Q (a :: b :: v :: r) := by
  unfold qLS; rw [qO_of (show ixN (a :: b :: c :: r).length 2 = some 2 by simp [ixN]; omega)]; rfl
theorem qLS_3 (a b c d : D) (r : List D) (v : D) (Q : List D → Prop) : qLS (a :: b :: c :: d :: r) 3 v Q = Q (a :: b :: c :: v :: r) := by
  unfold qLS; rw [qO_of (show ixN (a :: b :: c :: d :: r).length 3 = some 3 by simp [ixN]; omega)]; rfl
def qSet (c : Cell) (i : Int) (v : D) (l : Bool) (Q : Cell → Prop) : Prop := match c with
  | .lst ds => qLS ds i v fun es => Q (.lst es)
  | .dK kds => (l = false ∧ kds.length < sizeLine) ∧ Q (.dK (kput kds (.inl i) v))
  | _ => False
theorem qSet_lst (ds : List D) (i : Int) (v : D) (l : Bool) (Q : Cell → Prop) : qSet (.lst ds) i v l Q = qLS ds i v fun es => Q (.lst es) := rfl
theorem qSet_dK (kds : List (Key × D)) (i : Int) (v : D) (l : Bool) (Q : Cell → Prop) : qSet (.dK kds) i v l Q = ((l = false ∧ kds.length < sizeLine) ∧ Q (.dK (kput kds (.inl i) v))) := rfl
def qSetS (c : Cell) (x : Str) (v : D) (l : Bool) (Q : Cell → Prop) : Prop := match c with
  | .dK kds => (l = false ∧ kds.length < sizeLine) ∧ Q (.dK (kput kds (.inr x) v))
  | _ => False
theorem qSetS_dK (kds : List (Key × D)) (x : Str) (v : D) (l : Bool) (Q : Cell → Prop) : qSetS (.dK kds) x v l Q = ((l = false ∧ kds.length < sizeLine) ∧ Q (.dK (kput kds (.inr x) v))) := rfl
theorem w_setI (n : Nat) (v : D) (Q : Unit → Mem → Prop) : wR (setD (.loc n) (.int i) v μ) Q E = wC μ n fun c => qSet c i v (μ.lkd n) fun c' => Q () (μ.set n c') := by
  unfold setD wC
  dsimp only
  cases μ.cells[n]? with
  | none => rfl
  | some c =>
    cases c with
    | lst ds => show wR (match ixN ds.length i with | some j => _ | none => _) Q E = qO (ixN ds.length i) _; cases ixN ds.length i <;> rfl
    | dK ds => exact wR_ite _ _ _ _
    | _ => rfl
theorem w_setS (n : Nat) (v : D) (Q : Unit → Mem → Prop) : wR (setD (.loc n) (.str x) v μ) Q E = wC μ n fun c => qSetS c x v (μ.lkd n) fun c' => Q () (μ.set n c') := by
  unfold setD wC
  dsimp only
  cases μ.cells[n]? with
  | none => rfl
  | some c =>
    cases c with
    | dK ds => exact wR_ite _ _ _ _
    | _ => rfl
def qF (c : Cell) (f : Str) (Q : D → Prop) : Prop := match c with
  | .ins _ fs => qO (fs.lookup f) Q
  | _ => False
theorem qF_ins (C : Addr) (fs : List (Str × D)) (f : Str) (Q : D → Prop) : qF (.ins C fs) f Q = qO (fs.lookup f) Q := rfl
theorem w_fld (n : Nat) (f : Str) (Q : D → Mem → Prop) : wR (fFld f (.loc n) μ) Q E = wC μ n fun c => qF c f fun r => Q r μ := by
  unfold fFld wC
  dsimp only
  cases μ.cells[n]? with
  | none => rfl
  | some c =>
    cases c with
    | ins C fs => show wR (match fs.lookup f with | some r => _ | none => _) Q E = qO (fs.lookup f) _; cases fs.lookup f <;> rfl
    | _ => rfl
def qSF (c : Cell) (Cs : List Addr) (f : Str) (v : D) (Q : Cell → Prop) : Prop := match c with
  | .ins C fs => (((fs.lookup f).isSome || Cs.contains C) = true ∧ fs.length < 1000) ∧ Q (.ins C (putFD f v fs))
  | _ => False
theorem qSF_ins (C : Addr) (fs : List (Str × D)) (Cs : List Addr) (f : Str) (v : D) (Q : Cell → Prop) : qSF (.ins C fs) Cs f v Q = ((((fs.lookup f).isSome || Cs.contains C) = true ∧ fs.length < 1000) ∧ Q (.ins C (putFD f v fs))) := rfl
theorem w_setF (n : Nat) (Cs : List Addr) (f : Str) (v : D) (Q : Unit → Mem → Prop) : wR (setF Cs f (.loc n) v μ) Q E = wC μ n fun c => qSF c Cs f v fun c' => Q () (μ.set n c') := by
  unfold setF wC
  dsimp only
  cases μ.cells[n]? with
  | none => rfl
  | some c =>
    cases c with
    | ins C fs => exact wR_ite _ _ _ _
    | _ => rfl
theorem w_len_str (Q : D → Mem → Prop) : wR (fLen [.str x] μ) Q E = (x.length ≤ sizeLine ∧ Q (.int x.length) μ) := wR_ite _ _ _ _
theorem w_len_lst (ds : List D) (Q : D → Mem → Prop) : wR (fLen [.lst ds] μ) Q E = Q (.int ds.length) μ := rfl
theorem w_len_tup (ds : List D) (Q : D → Mem → Prop) : wR (fLen [.tup ds] μ) Q E = Q (.int ds.length) μ := rfl
def qLen (c : Cell) (Q : Nat → Prop) : Prop := match c with
  | .lst ds => Q ds.length
  | .dK ds => Q ds.length
  | _ => False
theorem qLen_lst (ds : List D) (Q : Nat → Prop) : qLen (.lst ds) Q = Q ds.length := rfl
theorem qLen_dK (ds : List (Key × D)) (Q : Nat → Prop) : qLen (.dK ds) Q = Q ds.length := rfl
theorem w_len_loc (n : Nat) (Q : D → Mem → Prop) : wR (fLen [.loc n] μ) Q E = wC μ n fun c => qLen c fun k => Q (.int k) μ := by
  unfold fLen seqOf lstOf dictOf wC
  dsimp only
  cases μ.cells[n]? with
  | none => rfl
  | some c => cases c <;> rfl
theorem w_max (Q : D → Mem → Prop) : wR (fMax [.int i, .int j] μ) Q E = Q (.int (max i j)) μ := by
  show Q (.int (if j > i then j else i)) μ = _
  congr 2
  split <;> omega
theorem w_min (Q : D → Mem → Prop) : wR (fMin [.int i, .int j] μ) Q E = Q (.int (min i j)) μ := by
  show Q (.int (if j < i then j else i)) μ = _
  congr 2
  split <;> omega
theorem w_int_int (Q : D → Mem → Prop) : wR (fIntC [.int i] μ) Q E = Q (.int i) μ := rfl
theorem w_int_bl (b : Bool) (Q : D → Mem → Prop) : wR (fIntC [.bl b] μ) Q E = Q (.int (if b then 1 else 0)) μ := rfl
theorem w_str_int (Q : D → Mem → Prop) : wR (fStrC [.int i] μ) Q E = (StrOk i ∧ Q (.str (toString i)) μ) := wR_ite _ _ _ _
def qDc (c : Cell) (Q : List (Key × D) → Prop) : Prop := match c with
  | .dK ds => Q ds
  | _ => False
theorem qDc_dK (ds : List (Key × D)) (Q : List (Key × D) → Prop) : qDc (.dK ds) Q = Q ds := rfl
theorem w_dict (n : Nat) (Q : D → Mem → Prop) : wR (fDict [.loc n] μ) Q E = wC μ n fun c => qDc c fun ds => Q (.loc μ.cells.length) (μ.push (.dK ds)) := by
  unfold fDict dictOf wC
  dsimp only
  cases μ.cells[n]? with
  | none => rfl
  | some c => cases c <;> rfl
theorem w_tuple_lst (ds : List D) (Q : D → Mem → Prop) : wR (fTuple [.lst ds] μ) Q E = Q (.tup ds) μ := rfl
theorem w_tuple_tup (ds : List D) (Q : D → Mem → Prop) : wR (fTuple [.tup ds] μ) Q E = Q (.tup ds) μ := rfl
theorem w_tuple_loc (n : Nat) (Q : D → Mem → Prop) : wR (fTuple [.loc n] μ) Q E = wC μ n fun c => qCl c fun ds => Q (.tup ds) μ := by
  unfold fTuple seqOf lstOf wC
  dsimp only
  cases μ.cells[n]? with
  | none => rfl
  | some c => cases c <;> rfl
theorem w_list_lst (ds : List D) (Q : List D → Mem → Prop) : wR (fListN [.lst ds] μ) Q E = Q ds μ := rfl
theorem w_list_tup (ds : List D) (Q : List D → Mem → Prop) : wR (fListN [.tup ds] μ) Q E = Q ds μ := rfl
theorem w_iter_lst (ds : List D) (Q : Its0 → Mem → Prop) : wR (fIter (.lst ds) μ) Q E = Q (ds, fun _ => true) μ := rfl
theorem w_iter_tup (ds : List D) (Q : Its0 → Mem → Prop) : wR (fIter (.tup ds) μ) Q E = Q (ds, fun _ => true) μ := rfl
theorem w_iter_str (Q : Its0 → Mem → Prop) : wR (fIter (.str x) μ) Q E = Q (signs x, fun _ => true) μ := rfl
theorem w_iter_loc (n : Nat) (Q : Its0 → Mem → Prop) : wR (fIter (.loc n) μ) Q E = wC μ n fun c => qCl c fun ds => Q (ds, lstIs (.loc n) ds) μ := by
  unfold fIter lstOf wC
  dsimp only
  cases μ.cells[n]? with
  | none => rfl
  | some c => cases c <;> rfl
theorem w_rng1 (Q : Its0 → Mem → Prop) : wR (fRng1 [.int j] μ) Q E = ((-(2 ^ 62) ≤ j ∧ j < 2 ^ 62) ∧ Q (rngItems 0 j.toNat, fun _ => true) μ) := wR_ite _ _ _ _
theorem w_rng2 (Q : Its0 → Mem → Prop) : wR (fRng2 [.int i, .int j] μ) Q E = ((-(2 ^ 62) ≤ i ∧ i < 2 ^ 62 ∧ -(2 ^ 62) ≤ j ∧ j < 2 ^ 62) ∧ Q (rngItems i (j - i).toNat, fun _ => true) μ) := wR_ite _ _ _ _
theorem w_sl_str (lo hi : Option Int) (Q : D → Mem → Prop) : wR (fSl (.str x) lo hi μ) Q E = (x.length ≤ sizeLine ∧ Q (.str (cutS x lo hi)) μ) := wR_ite _ _ _ _
theorem w_sl_tup (ds : List D) (lo hi : Option Int) (Q : D → Mem → Prop) : wR (fSl (.tup ds) lo hi μ) Q E = Q (.tup (cutD ds lo hi)) μ := rfl
theorem w_sl_lst (ds : List D) (lo hi : Option Int) (Q : D → Mem → Prop) : wR (fSl (.lst ds) lo hi μ) Q E = Q (.lst (cutD ds lo hi)) μ := rfl
theorem w_join_lst (ds : List D) (Q : D → Mem → Prop) : wR (fJoin (.str x) [.lst ds] μ) Q E = qO (strsOf ds) fun ys => (ys.map (·.length)).sum + ys.length * x.length ≤ 16777216 ∧ Q (.str (Txt.join x ys)) μ := by
  show wR (match strsOf ds with | some ys => _ | none => _) Q E = qO (strsOf ds) _
  cases strsOf ds with
  | none => rfl
  | some ys => exact wR_ite _ _ _ _
theorem w_append (n : Nat) (y : D) (Q : D → Mem → Prop) : wR (fAppend (.loc n) [y] μ) Q E = wC μ n fun c => qCl c fun ds => ds.length < sizeLine ∧ Q .non (μ.set n (.lst (ds ++ [y]))) := by
  unfold fAppend lcell wC
  dsimp only
  cases μ.cells[n]? with
  | none => rfl
  | some c => cases c <;> first | exact wR_ite _ _ _ _ | rfl
theorem w_lclear (n : Nat) (Q : D → Mem → Prop) : wR (fLClear (.loc n) [] μ) Q E = wC μ n fun c => qCl c fun ds => Q .non (μ.set n (.lst [])) := by
  unfold fLClear lcell wC
  dsimp only
  cases μ.cells[n]? with
  | none => rfl
  | some c => cases c <;> rfl
theorem tyS_str : tyS (.str x) μ = true := rfl
theorem tyL_lst (ds : List D) : tyL (.lst ds) μ = true := rfl
theorem tyL_of {μ : Mem} {n : Nat} {ds : List D} (h : μ.cells[n]? = some (.lst ds)) : tyL (.loc n) μ = true := by unfold tyL lstOf; dsimp only; rw [h]; rfl
theorem w_in_dict {μ : Mem} {n : Nat} {ds : List (Key × D)} (h : μ.cells[n]? = some (.dK ds)) {d : D} {k : Key} (hk : keyOf d = some k) (Q : Bool → Mem → Prop) : wR (cIn d (.loc n) μ) Q E = Q (kget ds k).isSome μ := by
  have e : cIn d (.loc n) μ = .ok (kget ds k).isSome μ := by
    unfold cIn
    have : signIn d (.loc n) = none := by cases d <;> rfl
    rw [this]
    have : dfind μ (.loc n) d = some (kget ds k) := by unfold dfind dictOf; dsimp only; rw [h]; simp [hk]
    rw [this]
  rw [e]; rfl
end
theorem w_in_dictS {μ : Mem} {n : Nat} {ds : List (Key × D)} (h : μ.cells[n]? = some (.dK ds)) (x : Str) (Q : Bool → Mem → Prop) (E : EP) : wR (cIn (.str x) (.loc n) μ) Q E = Q (kget ds (.inr x)).isSome μ := w_in_dict E h rfl Q
theorem qMc_ins {C : Addr} {fs : List (Str × D)} {nm : Str} {T : Addr → Option MM} {K : MM → Prop} (h : noFld fs nm = true) : qMc (.ins C fs) nm T K = qO (T C) K := by
  unfold qMc; simp only [h, true_and]; cases T C <;> rfl
theorem look1 {α : Type} (C : Addr) (x : α) (r : List (Addr × α)) (K : α → Prop) : qO (List.lookup C ((C, x) :: r)) K = K x := by simp [List.lookup, qO]
def loopP (P : Po) (I : DEnv → Mem → Prop) : Po := { nx := I, rt := P.rt, bk := P.nx, ct := I, er := P.er }
theorem loopP_nx (P : Po) (I : DEnv → Mem → Prop) : (loopP P I).nx = I := rfl
theorem loopP_ct (P : Po) (I : DEnv → Mem → Prop) : (loopP P I).ct = I := rfl
theorem loopP_bk (P : Po) (I : DEnv → Mem → Prop) : (loopP P I).bk = P.nx := rfl
theorem loopP_rt (P : Po) (I : DEnv → Mem → Prop) : (loopP P I).rt = P.rt := rfl
theorem loopP_er (P : Po) (I : DEnv → Mem → Prop) : (loopP P I).er = P.er := rfl
theorem w_loop {g : MG} {body : MS} {gd : Mem → Bool} {P : Po} (I : List D → DEnv → Mem → Prop) (hg : ∀ ds δ μ, I ds δ μ → gd μ = true)
    (hs : ∀ d ds δ μ, I (d :: ds) δ μ → wG g d δ μ (fun δ1 μ1 => wS body δ1 μ1 (loopP P (I ds))) noE) (he : ∀ δ μ, I [] δ μ → P.nx δ μ) :
    ∀ (ds : List D) (δ : DEnv) (μ : Mem), I ds δ μ → wS (mloop g body gd ds) δ μ P
  | [], δ, μ, h => by
    unfold wS mloop; rw [wP_ite]; exact ⟨hg _ _ _ h, he δ μ h⟩
  | d :: ds, δ, μ, h => by
    unfold wS mloop; rw [wP_ite]
    refine ⟨hg _ _ _ h, ?_⟩
    have z := hs d ds δ μ h
    unfold wG at z
    cases e : g d δ μ with
    | err C w μ1 => rw [e] at z; exact z.elim
    | bad => rw [e] at z; exact z
    | ok δ1 μ1 =>
      rw [e] at z
      have z : wP (body δ1 μ1) (loopP P (I ds)) := z
      dsimp only
      cases e2 : body δ1 μ1 with
      | nx δ2 μ2 => rw [e2] at z; exact w_loop I hg hs he ds δ2 μ2 z
      | ct δ2 μ2 => rw [e2] at z; exact w_loop I hg hs he ds δ2 μ2 z
      | bk δ2 μ2 => rw [e2] at z; exact z
      | rt d2 μ2 => rw [e2] at z; exact z
      | err C w δ2 μ2 => rw [e2] at z; exact z
      | bad => rw [e2] at z; exact z
theorem w_loopM {α : Type} {f : α → D} {g : MG} {body : MS} {gd : Mem → Bool} {P : Po} (I : List α → DEnv → Mem → Prop) (hg : ∀ ds δ μ, I ds δ μ → gd μ = true)
    (hs : ∀ a r δ μ, I (a :: r) δ μ → wG g (f a) δ μ (fun δ1 μ1 => wS body δ1 μ1 (loopP P (I r))) noE) (he : ∀ δ μ, I [] δ μ → P.nx δ μ)
    (xs : List α) (δ : DEnv) (μ : Mem) (h : I xs δ μ) : wS (mloop g body gd (xs.map f)) δ μ P := by
  refine w_loop (fun ds δ μ => ∃ xs : List α, ds = xs.map f ∧ I xs δ μ) (fun ds δ μ ⟨_, _, h⟩ => hg _ _ _ h) ?_ ?_ _ δ μ ⟨xs, rfl, h⟩
  · rintro d ds δ μ ⟨ys, e, h⟩
    cases ys with
    | nil => cases e
    | cons a r =>
      cases e
      have z := hs a r δ μ h
      unfold wG at z ⊢
      refine wR.imp z fun δ1 μ1 z => ?_
      refine wP.imp z ?_ ?_ ?_ ?_ ?_
      · exact fun δ μ h => ⟨r, rfl, h⟩
      · exact fun _ _ h => h
      · exact fun _ _ h => h
      · exact fun δ μ h => ⟨r, rfl, h⟩
      · exact fun _ _ _ _ h => h
  · rintro δ μ ⟨ys, e, h⟩
    cases ys with
    | nil => exact he δ μ h
    | cons a r => cases e
theorem w_range {g : MG} {body : MS} {P : Po} {lo : Int} {n : Nat} (I : Nat → DEnv → Mem → Prop) (δ : DEnv) (μ : Mem) (h0 : I 0 δ μ)
    (hs : ∀ i δ μ, i < n → I i δ μ → wG g (.int (lo + (i : Nat))) δ μ (fun δ1 μ1 => wS body δ1 μ1 (loopP P (I (i + 1)))) noE) (he : ∀ δ μ, I n δ μ → P.nx δ μ) :
    wS (mloop g body (fun _ => true) (rngItems lo n)) δ μ P := by
  unfold rngItems
  refine w_loopM (f := fun i : Nat => D.int (lo + (i : Nat))) (fun xs δ μ => ∃ k, k ≤ n ∧ xs = (List.range n).drop k ∧ I k δ μ) (fun _ _ _ _ => rfl) ?_ ?_ _ δ μ ⟨0, Nat.zero_le _, by simp, h0⟩
  · rintro a r δ μ ⟨k, hk, e, h⟩
    have hlt : k < n := by
      rcases Nat.lt_or_ge k n with h | h
      · exact h
      · rw [List.drop_eq_nil_of_le (by simpa using h)] at e; cases e
    rw [List.drop_eq_getElem_cons (by simpa using hlt)] at e
    simp only [List.cons.injEq, List.getElem_range] at e
    obtain ⟨rfl, rfl⟩ := e
    have z := hs a δ μ hlt h
    unfold wG at z ⊢
    refine wR.imp z fun δ1 μ1 z => wP.imp z ?_ ?_ ?_ ?_ ?_
    · exact fun δ μ h => ⟨a + 1, hlt, rfl, h⟩
    · exact fun _ _ h => h
    · exact fun _ _ h => h
    · exact fun δ μ h => ⟨a + 1, hlt, rfl, h⟩
    · exact fun _ _ _ _ h => h
  · rintro δ μ ⟨k, hk, e, h⟩
    have : k = n := by
      rcases Nat.lt_or_ge k n with h | h
      · have := congrArg List.length e
        simp at this
        omega
      · omega
    subst this
    exact he δ μ h
theorem w_comp {g : MG} {mt : MX Bool} {me : ME} {gd : Mem → Bool} {δ : DEnv} (I : List D → List D → Mem → Prop) (hg : ∀ ds ys μ, I ds ys μ → gd μ = true)
    (hs : ∀ d ds ys μ, I (d :: ds) ys μ → wG g d δ μ (fun δ1 μ1 => wE mt δ1 μ1 (fun b μ2 => if b = true then wE me δ1 μ2 (fun y μ3 => I ds (ys ++ [y]) μ3) noE else I ds ys μ2) noE) noE) :
    ∀ (ds ys : List D) (μ : Mem) (Q : List D → Mem → Prop) (E : EP), I ds ys μ → (∀ zs μ, I [] (ys ++ zs) μ → Q zs μ) → wR (compL g mt me gd δ ds μ) Q E
  | [], ys, μ, Q, E, h, hq => by
    unfold compL; rw [wR_ite]; exact ⟨hg _ _ _ h, hq [] μ (by simpa using h)⟩
  | d :: ds, ys, μ, Q, E, h, hq => by
    unfold compL; rw [wR_ite]
    refine ⟨hg _ _ _ h, ?_⟩
    have z := hs d ds ys μ h
    unfold wG at z
    cases e : g d δ μ with
    | err C w μ1 => rw [e] at z; exact z.elim
    | bad => rw [e] at z; exact z.elim
    | ok δ1 μ1 =>
      rw [e] at z
      have z : wR (mt δ1 μ1) _ noE := z
      dsimp only
      cases e1 : mt δ1 μ1 with
      | err C w μ1 => rw [e1] at z; exact z.elim
      | bad => rw [e1] at z; exact z.elim
      | ok b μ2 =>
        rw [e1] at z
        cases b with
        | false => exact w_comp I hg hs ds ys μ2 Q E z hq
        | true =>
          have z : wR (me δ1 μ2) _ noE := z
          dsimp only
          cases e2 : me δ1 μ2 with
          | err C w μ1 => rw [e2] at z; exact z.elim
          | bad => rw [e2] at z; exact z.elim
          | ok y μ3 =>
            rw [e2] at z
            dsimp only
            have ih := w_comp I hg hs ds (ys ++ [y]) μ3 (fun zs μ4 => Q (y :: zs) μ4) noE z (fun zs μ4 h4 => hq (y :: zs) μ4 (by simpa using h4))
            obtain ⟨zs, μ4, e4, q⟩ := wR.of ih
            rw [e4]; exact q
theorem wE_yes (δ : DEnv) (μ : Mem) (Q : Bool → Mem → Prop) (E : EP) : wE myes δ μ Q E = Q true μ := rfl
theorem w_compR {g : MG} {mt : MX Bool} {me : ME} {δ : DEnv} {μ : Mem} {lo : Int} {n : Nat} {Q : List D → Mem → Prop} {E : EP} (I : Nat → List D → Mem → Prop) (h0 : I 0 [] μ)
    (hs : ∀ i ys μ, i < n → I i ys μ → wG g (.int (lo + (i : Nat))) δ μ (fun δ1 μ1 => wE mt δ1 μ1 (fun b μ2 => if b = true then wE me δ1 μ2 (fun y μ3 => I (i + 1) (ys ++ [y]) μ3) noE else I (i + 1) ys μ2) noE) noE)
    (he : ∀ ys μ, I n ys μ → Q ys μ) : wR (compL g mt me (fun _ => true) δ (rngItems lo n) μ) Q E := by
  refine w_comp (δ := δ) (fun ds ys μ => ∃ k, k ≤ n ∧ ds = ((List.range n).drop k).map (fun i : Nat => D.int (lo + (i : Nat))) ∧ I k ys μ) (fun _ _ _ _ => rfl) ?_ _ [] μ Q E ⟨0, Nat.zero_le _, by simp [rngItems], h0⟩ ?_
  · rintro d r ys μ ⟨k, hk, e, h⟩
    have hlt : k < n := by
      rcases Nat.lt_or_ge k n with h | h
      · exact h
      · rw [List.drop_eq_nil_of_le (by simpa using h)] at e; cases e
    rw [List.drop_eq_getElem_cons (by simpa using hlt), List.map_cons] at e
    simp only [List.cons.injEq, List.getElem_range] at e
    obtain ⟨rfl, rfl⟩ := e
    have z := hs k ys μ hlt h
    unfold wG wE at z ⊢
    refine wR.imp z fun δ1 μ1 z => wR.imp z fun b μ2 z => ?_
    cases b with
    | true => exact wR.imp z fun y μ3 h => ⟨k + 1, hlt, rfl, h⟩
    | false => exact ⟨k + 1, hlt, rfl, z⟩
  · rintro zs μ ⟨k, hk, e, h⟩
    have : k = n := by
      rcases Nat.lt_or_ge k n with h | h
      · have := congrArg List.length e
        simp at this
        omega
      · omega
    subst this
    exact he zs μ (by simpa using h)
theorem wE_comp (vs : List Nat) (mi : MX Its0) (g : MG) (mt : MX Bool) (me : ME) (δ : DEnv) (μ : Mem) (E : EP) (Q : List D → Mem → Prop) : wE (mcomp vs mi g mt me) δ μ Q E = wE mi δ μ (fun it μ1 => it.1.length ≤ sizeLine ∧ wR (compL g mt me it.2 (wipeD δ vs) it.1 μ1) Q E) E := by
  unfold mcomp; rw [wE_bind]; congr; funext it μ1; exact wR_ite _ _ _ _
theorem w_compMap {α : Type} {f : α → D} {g : MG} {mt : MX Bool} {me : ME} {gd : Mem → Bool} {δ : DEnv} {μ : Mem} {xs : List α} {Q : List D → Mem → Prop} {E : EP} (h : α → D) (hg : gd μ = true)
    (hs : ∀ x ∈ xs, wG g (f x) δ μ (fun δ1 μ1 => wE mt δ1 μ1 (fun b μ2 => b = true ∧ wE me δ1 μ2 (fun y μ3 => y = h x ∧ μ3 = μ) noE) noE) noE)
    (hq : Q (xs.map h) μ) : wR (compL g mt me gd δ (xs.map f) μ) Q E := by
  refine w_comp (δ := δ) (fun rest ys μ' => μ' = μ ∧ ∃ pre post, xs = pre ++ post ∧ rest = post.map f ∧ ys = pre.map h) (fun _ _ _ h => h.1 ▸ hg) ?_ _ [] μ Q E ⟨rfl, [], xs, rfl, rfl, rfl⟩ ?_
  · rintro d r ys μ' ⟨rfl, pre, post, e, e2, rfl⟩
    cases post with
    | nil => cases e2
    | cons x post =>
      cases e2
      have z := hs x (by rw [e]; simp)
      unfold wG wE at z ⊢
      refine wR.imp z fun δ1 μ1 z => wR.imp z fun b μ2 z => ?_
      obtain ⟨rfl, z⟩ := z
      refine wR.imp z fun y μ3 z => ?_
      obtain ⟨rfl, rfl⟩ := z
      exact ⟨rfl, pre ++ [x], post, by simp [e], rfl, by simp⟩
  · rintro zs μ' ⟨rfl, pre, post, e, e2, h2⟩
    cases post with
    | cons x post => cases e2
    | nil =>
      simp at e h2
      subst e h2
      exact hq
theorem wE_revL (m : ME) (δ : DEnv) (μ : Mem) (Q : List D → Mem → Prop) (E : EP) : wE (mrevL m) δ μ Q E = wE m δ μ (fun d μ1 => qO (lstOf μ1 d) fun ds => Q ds.reverse μ1) E := by
  unfold mrevL; rw [wE_bind]; congr; funext d μ1
  show wR (match lstOf μ1 d with | some ds => _ | none => _) Q E = qO (lstOf μ1 d) _
  cases lstOf μ1 d <;> rfl
theorem qO_lst (μ : Mem) (ds : List D) (Q : List D → Prop) : qO (lstOf μ (.lst ds)) Q = Q ds := rfl
theorem isi_non_int  (μ : Mem) (Q : D → Mem → Prop) (E : EP) : wR (fIsi [.non, .ty "int"] μ) Q E = Q (.bl false) μ := by kernel_rfl
theorem isi_non_bool  (μ : Mem) (Q : D → Mem → Prop) (E : EP) : wR (fIsi [.non, .ty "bool"] μ) Q E = Q (.bl false) μ := by kernel_rfl
theorem isi_non_str  (μ : Mem) (Q : D → Mem → Prop) (E : EP) : wR (fIsi [.non, .ty "str"] μ) Q E = Q (.bl false) μ := by kernel_rfl
theorem isi_non_tuple  (μ : Mem) (Q : D → Mem → Prop) (E : EP) : wR (fIsi [.non, .ty "tuple"] μ) Q E = Q (.bl false) μ := by kernel_rfl
theorem isi_non_list  (μ : Mem) (Q : D → Mem → Prop) (E : EP) : wR (fIsi [.non, .ty "list"] μ) Q E = Q (.bl false) μ := by kernel_rfl
theorem isi_non_dict  (μ : Mem) (Q : D → Mem → Prop) (E : EP) : wR (fIsi [.non, .ty "dict"] μ) Q E = Q (.bl false) μ := by kernel_rfl
theorem isi_bl_int (b : Bool) (μ : Mem) (Q : D → Mem → Prop) (E : EP) : wR (fIsi [(.bl b), .ty "int"] μ) Q E = Q (.bl true) μ := by kernel_rfl
theorem isi_bl_bool (b : Bool) (μ : Mem) (Q : D → Mem → Prop) (E : EP) : wR (fIsi [(.bl b), .ty "bool"] μ) Q E = Q (.bl true) μ := by kernel_rfl
theorem isi_bl_str (b : Bool) (μ : Mem) (Q : D → Mem → Prop) (E : EP) : wR (fIsi [(.bl b), .ty "str"] μ) Q E = Q (.bl false) μ := by kernel_rfl
theorem isi_bl_tuple (b : Bool) (μ : Mem) (Q : D → Mem → Prop) (E : EP) : wR (fIsi [(.bl b), .ty "tuple"] μ) Q E = Q (.bl false) μ := by kernel_rfl
theorem isi_bl_list (b : Bool) (μ : Mem) (Q : D → Mem → Prop) (E : EP) : wR (fIsi [(.bl b), .ty "list"] μ) Q E = Q (.bl false) μ := by kernel_rfl
theorem isi_bl_dict (b : Bool) (μ : Mem) (Q : D → Mem → Prop) (E : EP) : wR (fIsi [(.bl b), .ty "dict"] μ) Q E = Q (.bl false) μ := by kernel_rfl
theorem isi_int_int (i : Int) (μ : Mem) (Q : D → Mem → Prop) (E : EP) : wR (fIsi [(.int i), .ty "int"] μ) Q E = Q (.bl true) μ := by kernel_rfl
theorem isi_int_bool (i : Int) (μ : Mem) (Q : D → Mem → Prop) (E : EP) : wR (fIsi [(.int i), .ty "bool"] μ) Q E = Q (.bl false) μ := by kernel_rfl
theorem isi_int_str (i : Int) (μ : Mem) (Q : D → Mem → Prop) (E : EP) : wR (fIsi [(.int i), .ty "str"] μ) Q E = Q (.bl false) μ := by kernel_rfl
theorem isi_int_tuple (i : Int) (μ : Mem) (Q : D → Mem → Prop) (E : EP) : wR (fIsi [(.int i), .ty "tuple"] μ) Q E = Q (.bl false) μ := by kernel_rfl
theorem isi_int_list (i : Int) (μ : Mem) (Q : D → Mem → Prop) (E : EP) : wR (fIsi [(.int i), .ty "list"] μ) Q E = Q (.bl false) μ := by kernel_rfl
theorem isi_int_dict (i : Int) (μ : Mem) (Q : D → Mem → Prop) (E : EP) : wR (fIsi [(.int i), .ty "dict"] μ) Q E = Q (.bl false) μ := by kernel_rfl
theorem isi_str_int (x : Str) (μ : Mem) (Q : D → Mem → Prop) (E : EP) : wR (fIsi [(.str x), .ty "int"] μ) Q E = Q (.bl false) μ := by kernel_rfl
theorem isi_str_bool (x : Str) (μ : Mem) (Q : D → Mem → Prop) (E : EP) : wR (fIsi [(.str x), .ty "bool"] μ) Q E = Q (.bl false) μ := by kernel_rfl
theorem isi_str_str (x : Str) (μ : Mem) (Q : D → Mem → Prop) (E : EP) : wR (fIsi [(.str x), .ty "str"] μ) Q E = Q (.bl true) μ := by kernel_rfl
theorem isi_str_tuple (x : Str) (μ : Mem) (Q : D → Mem → Prop) (E : EP) : wR (fIsi [(.str x), .ty "tuple"] μ) Q E = Q (.bl false) μ := by kernel_rfl
theorem isi_str_list (x : Str) (μ : Mem) (Q : D → Mem → Prop) (E : EP) : wR (fIsi [(.str x), .ty "list"] μ) Q E = Q (.bl false) μ := by kernel_rfl
theorem isi_str_dict (x : Str) (μ : Mem) (Q : D → Mem → Prop) (E : EP) : wR (fIsi [(.str x), .ty "dict"] μ) Q E = Q (.bl false) μ := by kernel_rfl
theorem isi_tup_int (ds : List D) (μ : Mem) (Q : D → Mem → Prop) (E : EP) : wR (fIsi [(.tup ds), .ty "int"] μ) Q E = Q (.bl false) μ := by kernel_rfl
theorem isi_tup_bool (ds : List D) (μ : Mem) (Q : D → Mem → Prop) (E : EP) : wR (fIsi [(.tup ds), .ty "bool"] μ) Q E = Q (.bl false) μ := by kernel_rfl
theorem isi_tup_str (ds : List D) (μ : Mem) (Q : D → Mem → Prop) (E : EP) : wR (fIsi [(.tup ds), .ty "str"] μ) Q E = Q (.bl false) μ := by kernel_rfl
theorem isi_tup_tuple (ds : List D) (μ : Mem) (Q : D → Mem → Prop) (E : EP) : wR (fIsi [(.tup ds), .ty "tuple"] μ) Q E = Q (.bl true) μ := by kernel_rfl
theorem isi_tup_list (ds : List D) (μ : Mem) (Q : D → Mem → Prop) (E : EP) : wR (fIsi [(.tup ds), .ty "list"] μ) Q E = Q (.bl false) μ := by kernel_rfl
theorem isi_tup_dict (ds : List D) (μ : Mem) (Q : D → Mem → Prop) (E : EP) : wR (fIsi [(.tup ds), .ty "dict"] μ) Q E = Q (.bl false) μ := by kernel_rfl
theorem isi_lst_int (ds : List D) (μ : Mem) (Q : D → Mem → Prop) (E : EP) : wR (fIsi [(.lst ds), .ty "int"] μ) Q E = Q (.bl false) μ := by kernel_rfl
theorem isi_lst_bool (ds : List D) (μ : Mem) (Q : D → Mem → Prop) (E : EP) : wR (fIsi [(.lst ds), .ty "bool"] μ) Q E = Q (.bl false) μ := by kernel_rfl
theorem isi_lst_str (ds : List D) (μ : Mem) (Q : D → Mem → Prop) (E : EP) : wR (fIsi [(.lst ds), .ty "str"] μ) Q E = Q (.bl false) μ := by kernel_rfl
theorem isi_lst_tuple (ds : List D) (μ : Mem) (Q : D → Mem → Prop) (E : EP) : wR (fIsi [(.lst ds), .ty "tuple"] μ) Q E = Q (.bl false) μ := by kernel_rfl
theorem isi_lst_list (ds : List D) (μ : Mem) (Q : D → Mem → Prop) (E : EP) : wR (fIsi [(.lst ds), .ty "list"] μ) Q E = Q (.bl true) μ := by kernel_rfl
theorem isi_lst_dict (ds : List D) (μ : Mem) (Q : D → Mem → Prop) (E : EP) : wR (fIsi [(.lst ds), .ty "dict"] μ) Q E = Q (.bl false) μ := by kernel_rfl
theorem w_all_lst (g : List Bool → Bool) (ds : List D) (μ : Mem) (Q : D → Mem → Prop) (E : EP) : wR (fAll g [.lst ds] μ) Q E = qO (blsOf ds) fun bs => Q (.bl (g bs)) μ := by
  show wR (match blsOf ds with | some bs => _ | none => _) Q E = qO (blsOf ds) _
  cases blsOf ds <;> rfl
theorem blsOf_map {α : Type} (p : α → Bool) : ∀ xs : List α, blsOf (xs.map fun x => .bl (p x)) = some (xs.map p)
  | [] => rfl
  | x :: xs => by simp [blsOf, blsOf_map p xs]
def nice : Nat → D → Bool
  | 0, _ => false
  | n + 1, .tup ds => ds.all (nice n)
  | n + 1, .lst ds => ds.all (nice n)
  | _ + 1, .str x => PyData.strOk x
  | _ + 1, .loc _ => false
  | _ + 1, .sta _ => false
  | _ + 1, .ty _ => false
  | _ + 1, _ => true
theorem mapM_self {f : D → Option D} : ∀ {ds : List D}, (∀ d ∈ ds, f d = some d) → ds.mapM f = some ds
  | [], _ => rfl
  | d :: ds, h => by
    rw [List.mapM_cons, h d (by simp), mapM_self fun e he => h e (by simp [he])]; rfl
theorem rsv_nice (μ : Mem) : ∀ (n : Nat) (d : D), nice n d = true → rsv μ n d = some d
  | 0, d, h => by cases h
  | n + 1, d, h => by
    cases d with
    | tup ds =>
      have h : ds.all (nice n) = true := h
      show (ds.mapM (rsv μ n)).map D.tup = _
      rw [mapM_self fun d hd => rsv_nice μ n d (List.all_eq_true.mp h d hd)]; rfl
    | lst ds =>
      have h : ds.all (nice n) = true := h
      show (ds.mapM (rsv μ n)).map D.lst = _
      rw [mapM_self fun d hd => rsv_nice μ n d (List.all_eq_true.mp h d hd)]; rfl
    | loc _ => cases h
    | sta _ => cases h
    | ty _ => cases h
    | _ => rfl
theorem lay_nice : ∀ (n : Nat) (d : D), nice n d = true → (toPy d).canLay0 = true ∧ (toPy d).depth ≤ n
  | 0, d, h => by cases h
  | n + 1, d, h => by
    have all : ∀ ds : List D, ds.all (nice n) = true → PyData.canLayAll0 (toPys ds) = true ∧ PyData.depthAll (toPys ds) ≤ n := fun ds => by
      induction ds with
      | nil => intro _; simp [toPys, PyData.canLayAll0, PyData.depthAll]
      | cons d ds ih =>
        intro h
        simp only [List.all_cons, Bool.and_eq_true] at h
        have a := lay_nice n d h.1
        have b := ih h.2
        simp only [toPys, PyData.canLayAll0, PyData.depthAll, a.1, b.1, Bool.and_self, true_and]
        omega
    cases d with
    | tup ds => have := all ds h; simp only [toPy, PyData.canLay0, PyData.depth, this.1, true_and]; omega
    | lst ds => have := all ds h; simp only [toPy, PyData.canLay0, PyData.depth, this.1, true_and]; omega
    | loc _ => cases h
    | sta _ => cases h
    | ty _ => cases h
    | str x =>
      have h : PyData.strOk x = true := h
      simp [toPy, PyData.canLay0, PyData.depth, h]
    | _ => simp [toPy, PyData.canLay0, PyData.depth]
theorem fits_nice {n : Nat} {d : D} (h : nice n d = true) (hn : n ≤ 64) : d.fits = true := by
  have := lay_nice n d h
  unfold D.fits SeqAt.shaped
  simp only [this.1, Bool.true_and, decide_eq_true_eq]
  omega
theorem dcell_nice {μ : Mem} {n : Nat} {d : D} (h : nice n d = true) : dcell μ d = none := by
  cases d with
  | loc k => cases n <;> cases h
  | _ => rfl
theorem w_eq_nice {μ : Mem} {d e : D} (hd : nice 8 d = true) (he : nice 8 e = true) (Q : Bool → Mem → Prop) (E : EP) : wR (cEqA d e μ) Q E = Q (D.eqv d e) μ := by
  refine propext ⟨fun h => ?_, fun h => w_eq_of (.inl (dcell_nice hd)) (rsv_nice μ 8 d hd) (rsv_nice μ 8 e he) (fits_nice hd (by decide)) (fits_nice he (by decide)) E Q h⟩
  have : ∃ b, cEqA d e μ = .ok b μ ∧ b = D.eqv d e := by
    have := w_eq_of (μ := μ) (.inl (dcell_nice hd)) (rsv_nice μ 8 d hd) (rsv_nice μ 8 e he) (fits_nice hd (by decide)) (fits_nice he (by decide)) noE (fun b μ' => b = D.eqv d e ∧ μ' = μ) ⟨rfl, rfl⟩
    obtain ⟨b, μ', e1, e2, rfl⟩ := wR.of this
    exact ⟨b, e1, e2⟩
  obtain ⟨b, e1, rfl⟩ := this
  rw [e1] at h; exact h
theorem w_ne_nice {μ : Mem} {d e : D} (hd : nice 8 d = true) (he : nice 8 e = true) (Q : Bool → Mem → Prop) (E : EP) : wR (cNeA d e μ) Q E = Q (!(D.eqv d e)) μ := by
  unfold cNeA; rw [wR_bind, w_eq_nice hd he]; rfl
theorem pure_nice : ∀ (n : Nat) (d : D), nice n d = true → d.pure = true
  | 0, d, h => by cases h
  | n + 1, d, h => by
    have all : ∀ ds : List D, ds.all (nice n) = true → D.pures ds = true := fun ds => by
      induction ds with
      | nil => intro _; rfl
      | cons d ds ih =>
        intro h
        simp only [List.all_cons, Bool.and_eq_true] at h
        simp only [D.pures, pure_nice n d h.1, ih h.2, Bool.and_self]
    cases d with
    | tup ds => simp only [D.pure]; exact all ds h
    | lst ds => simp only [D.pure]; exact all ds h
    | loc _ => cases h
    | sta _ => cases h
    | ty _ => cases h
    | _ => rfl
theorem eqv_nice {n : Nat} {d : D} (h : nice n d = true) : D.eqv d d = true := D.eqv_refl d (pure_nice n d h)
end Doz
end
section
namespace Doz
open PySem L2
open TL (tl ext_tl tl_append)
def SrcAt (μ : Mem) (n : Nat) (B : Int) : Prop := ∃ a b c : Int, μ.cells[n]? = some (.lst [.int a, .int b, .int c]) ∧ 0 ≤ b ∧ b < 2 ^ 50 ∧ 0 ≤ c ∧ c ≤ B
local macro_rules | `(tactic| simp_arith only [$xs,*]) => `(tactic| simp -failIfUnchanged -implicitDefEqProofs (disch := (first | (simp only [Doz.len_push, Doz.len_set]; omega) | omega | assumption)) only [↓wR_ok, ↓wR_err, ↓wE_var0, ↓wE_varS, ↓wE_C, ↓wE_op, ↓wE_cmp, ↓wE_bl, ↓qB_bl, ↓wE_asB, ↓wE_and, ↓wE_or, ↓wE_not, ↓wE_andV, ↓wE_orV, ↓wE_notV, ↓wE_if, ↓wE_nil, ↓wE_cons, ↓wE_fz, ↓wE_lc, ↓wE_tup, ↓wE_lst, ↓wE_call, ↓wE_nopart, ↓qI_int, ↓wE_part, ↓wE_slice, ↓wE_fld, ↓wE_dnew, ↓wE_iter, ↓wE_rev, ↓wE_pos, ↓wE_kws, ↓wE_noa, ↓wE_both, ↓wE_fn, ↓wE_mth, ↓qN_non, ↓wE_mk, ↓wE_meth, ↓wE_neg, ↓wE_chain, ↓wE_comp, ↓wS_nx, ↓wS_bk, ↓wS_ct, ↓wS_seq, ↓wS_drop, ↓wS_ret, ↓wS_retN, ↓wS_if, ↓wS_asg, ↓qL_loc, ↓qCl_lst, ↓wS_retFz, ↓wS_raise, ↓wS_for, ↓wS_try, ↓wG_set0, ↓wG_setS, ↓wG_then, ↓wG_sub, ↓wG_fld, ↓qT_tup, ↓wG_tup, ↓wGs_nil, ↓wGs_cons, ↓endB_nx, ↓endB_rt, ↓endB_er, ↓endB_bk, ↓endB_ct, ↓loopP_nx, ↓loopP_ct, ↓loopP_bk, ↓loopP_rt, ↓loopP_er, ↓qO_some, ↓qO_at0, ↓qO_at1, ↓qO_at2, ↓qO_at3, ↓qO_at4, ↓qO_at5, ↓w_add_int, ↓w_add_str, ↓w_add_tup, ↓w_add_lst, ↓w_sub, ↓w_mod, ↓w_div, ↓w_mul, ↓w_pow, ↓w_band, ↓w_lt, ↓w_le, ↓w_gt, ↓w_ge, ↓w_is, ↓w_isNot, ↓nonN, ↓nonI, ↓nonS, ↓nonT, ↓nonL, ↓nonLoc, ↓w_eq_int, ↓w_ne_int, ↓w_eq_str, ↓w_ne_str, ↓qIx_lst, ↓qIx_dK, ↓qIxS_dK, ↓w_ix_loc, ↓w_ix_locS, ↓w_ix_lst, ↓w_ix_tup, ↓w_ix_str, ↓qLS_0, ↓qLS_1, ↓qLS_2, ↓qLS_3, ↓qSet_lst, ↓qSet_dK, ↓qSetS_dK, ↓w_setI, ↓w_setS, ↓qF_ins, ↓w_fld, ↓qSF_ins, ↓w_setF, ↓w_len_str, ↓w_len_lst, ↓w_len_tup, ↓qLen_lst, ↓qLen_dK, ↓w_len_loc, ↓w_max, ↓w_min, ↓w_int_int, ↓w_int_bl, ↓w_str_int, ↓qDc_dK, ↓w_dict, ↓w_tuple_lst, ↓w_tuple_tup, ↓w_tuple_loc, ↓w_list_lst, ↓w_list_tup, ↓w_iter_lst, ↓w_iter_tup, ↓w_iter_str, ↓w_iter_loc, ↓w_rng1, ↓w_rng2, ↓w_sl_str, ↓w_sl_tup, ↓w_sl_lst, ↓w_append, ↓w_lclear, ↓tyS_str, ↓tyL_lst, ↓qM_loc, ↓look1, ↓wC_set, ↓wC_setn, ↓wC_push2, ↓wC_pushn, ↓wE_yes, ↓wE_revL, ↓qO_lst, ↓w_all_lst, ↓w_join_lst, ↓isi_non_int, ↓isi_non_bool, ↓isi_non_str, ↓isi_non_tuple, ↓isi_non_list, ↓isi_non_dict, ↓isi_bl_int, ↓isi_bl_bool, ↓isi_bl_str, ↓isi_bl_tuple, ↓isi_bl_list, ↓isi_bl_dict, ↓isi_int_int, ↓isi_int_bool, ↓isi_int_str, ↓isi_int_tuple, ↓isi_int_list, ↓isi_int_dict, ↓isi_str_int, ↓isi_str_bool, ↓isi_str_str, ↓isi_str_tuple, ↓isi_str_list, ↓isi_str_dict, ↓isi_tup_int, ↓isi_tup_bool, ↓isi_tup_str, ↓isi_tup_tuple, ↓isi_tup_list, ↓isi_tup_dict, ↓isi_lst_int, ↓isi_lst_bool, ↓isi_lst_str, ↓isi_lst_tuple, ↓isi_lst_list, ↓isi_lst_dict, decide_eq_true_eq, beq_iff_eq, Bool.not_eq_true', Bool.not_eq_eq_eq_not, Bool.not_true, Bool.not_false, decide_eq_false_iff_not, beq_eq_false_iff_ne, ne_eq, true_and, and_true, if_true, if_false, ite_true, ite_false, reduceIte, Bool.false_eq_true, not_false_eq_true, not_true_eq_false, Int.reduceLT, Int.reduceLE, Int.reduceToNat, Nat.reduceLT, Nat.reduceLeDiff, Int.reducePow, Nat.reduceAdd, Int.reduceAdd, Int.reduceMul, Int.reduceSub, Int.reduceNeg, Nat.reducePow, Int.reduceEq, Nat.reduceEqDiff, List.length_cons, List.length_nil, PySem.sizeLine_eq, str_len_app, str_len_one, wipeD, List.set_cons_zero, List.set_cons_succ, $xs,*])
theorem draw_ok {c : Cl} {μ : Mem} {n : Nat} {B k : Int} (h : SrcAt μ n B) (hB : B < 2 ^ 40) (hk : 0 < k) (hk2 : k ≤ 10 ^ 60) :
    wR (m_x__law_draw c [.loc n, .int k] μ) (fun v μ' => ∃ d : Int, v = .int d ∧ 0 ≤ d ∧ d < k ∧ SrcAt μ' n (B + 1) ∧ Fr [n] μ μ') noE := by
  obtain ⟨x, y, z, hc, h0, h1, h2, h3⟩ := h
  have hl := at_lt hc
  unfold m_x__law_draw
  rw [w_run]
  show wS (t_x__law_draw c) [some (.loc n), some (.int k), none, none] μ _
  unfold t_x__law_draw
  simp_arith only [↓wC_of hc, ↓wC_set hl]
  split
  · repeat refine And.intro (by (first | exact mulOk (by omega) (by omega) (by omega) (by omega) | exact divOk (by omega) (by omega) | exact powOk (by omega) (by omega) (by omega) (by omega) | exact strOk' (by omega) (by omega) | assumption | omega | decide)) ?_
    refine ⟨_, rfl, Int.emod_nonneg _ (by omega), Int.emod_lt_of_pos _ hk, ⟨_, _, _, (by rw [set_set, at_set hl]), h0, h1, by omega, by omega⟩, (Fr.set1 _ n _).trans (Fr.set1 _ n _)⟩
  · have hp : 0 ≤ (y + 7919 * (z + 1)) ^ 5 % 2147483647 := Int.emod_nonneg _ (by decide)
    have hq : (y + 7919 * (z + 1)) ^ 5 % 2147483647 < 2147483647 := Int.emod_lt_of_pos _ (by decide)
    repeat refine And.intro (by (first | exact mulOk (by omega) (by omega) (by omega) (by omega) | exact divOk (by omega) (by omega) | exact powOk (by omega) (by omega) (by omega) (by omega) | exact strOk' (by omega) (by omega) | assumption | omega | decide)) ?_
    refine ⟨_, rfl, Int.emod_nonneg _ (by omega), Int.emod_lt_of_pos _ hk, ⟨_, _, _, at_set hl, h0, h1, by omega, by omega⟩, Fr.set1 _ n _⟩
theorem source_ok {c : Cl} {μ : Mem} {ns : List Int} {k : Int} (hk : 0 ≤ k) (hk2 : k < 2 ^ 20) (hn : ns.length ≤ 63) :
    wR (m_x__law_source c [.lst (ns.map D.int), .int k] μ) (fun v μ' => v = .loc μ.cells.length ∧ SrcAt μ' μ.cells.length 0 ∧ Fr [] μ μ') noE := by
  unfold m_x__law_source
  rw [w_run]
  show wS (t_x__law_source c) [some (.lst (ns.map D.int)), some (.int k), none, none] μ _
  unfold t_x__law_source
  have fin : ∀ a b : Int, 0 ≤ b → b < 2 ^ 50 → SrcAt (μ.push (.lst [.int a, .int b, .int 0])) μ.cells.length 0 ∧ Fr [] μ (μ.push (.lst [.int a, .int b, .int 0])) := fun a b h1 h2 => ⟨⟨_, _, _, at_push, h1, h2, by omega, by omega⟩, Fr.push _ _ _⟩
  by_cases h0 : ns.length = 0
  · simp_arith only [List.length_map, h0]
    split
    · omega
    · split
      · omega
      · repeat refine And.intro (by (first | exact mulOk (by omega) (by omega) (by omega) (by omega) | exact divOk (by omega) (by omega) | exact powOk (by omega) (by omega) (by omega) (by omega) | exact strOk' (by omega) (by omega) | assumption | omega | decide)) ?_
        exact fin _ _ (by omega) (by omega)
  · obtain ⟨v, hv, _⟩ := atI_mapI (xs := ns) (i := k % ns.length) (Int.emod_nonneg _ (by omega)) (Int.emod_lt_of_pos _ (by omega))
    simp_arith only [List.length_map, ↓qO_of hv]
    have b : 0 ≤ v % 2147483647 ∧ v % 2147483647 < 2147483647 := ⟨Int.emod_nonneg _ (by decide), Int.emod_lt_of_pos _ (by decide)⟩
    split
    · repeat refine And.intro (by (first | exact mulOk (by omega) (by omega) (by omega) (by omega) | exact divOk (by omega) (by omega) | exact powOk (by omega) (by omega) (by omega) (by omega) | exact strOk' (by omega) (by omega) | assumption | omega | decide)) ?_
      split
      · repeat refine And.intro (by (first | exact mulOk (by omega) (by omega) (by omega) (by omega) | exact divOk (by omega) (by omega) | exact powOk (by omega) (by omega) (by omega) (by omega) | exact strOk' (by omega) (by omega) | assumption | omega | decide)) ?_
        split
        · repeat refine And.intro (by (first | exact mulOk (by omega) (by omega) (by omega) (by omega) | exact divOk (by omega) (by omega) | exact powOk (by omega) (by omega) (by omega) (by omega) | exact strOk' (by omega) (by omega) | assumption | omega | decide)) ?_
          exact fin _ _ (by omega) (by omega)
        · repeat refine And.intro (by (first | exact mulOk (by omega) (by omega) (by omega) (by omega) | exact divOk (by omega) (by omega) | exact powOk (by omega) (by omega) (by omega) (by omega) | exact strOk' (by omega) (by omega) | assumption | omega | decide)) ?_
          exact fin _ _ (by omega) (by omega)
      · repeat refine And.intro (by (first | exact mulOk (by omega) (by omega) (by omega) (by omega) | exact divOk (by omega) (by omega) | exact powOk (by omega) (by omega) (by omega) (by omega) | exact strOk' (by omega) (by omega) | assumption | omega | decide)) ?_
        exact fin _ _ (by omega) (by omega)
    · omega
theorem SrcAt.fr {S : List Nat} {μ μ' : Mem} {n : Nat} {B : Int} (h : SrcAt μ n B) (f : Fr S μ μ') (hn : n ∉ S) : SrcAt μ' n B := by
  obtain ⟨a, b, c, h, r⟩ := h
  exact ⟨a, b, c, f.get h hn, r⟩
theorem SrcAt.push {μ : Mem} {n : Nat} {B : Int} (h : SrcAt μ n B) (c : Cell) : SrcAt (μ.push c) n B := h.fr (Fr.push [] μ c) (by simp)
theorem SrcAt.mono {μ : Mem} {n : Nat} {B B' : Int} (h : SrcAt μ n B) (hb : B ≤ B') : SrcAt μ n B' := by
  obtain ⟨a, b, c, h, h1, h2, h3, h4⟩ := h
  exact ⟨a, b, c, h, h1, h2, h3, by omega⟩
theorem SrcAt.lt {μ : Mem} {n : Nat} {B : Int} (h : SrcAt μ n B) : n < μ.cells.length := by obtain ⟨_, _, _, h, _⟩ := h; exact at_lt h
theorem len_tl (x : Str) : x.length = (tl x).length := by simp [Str.length]
theorem cut_tl_lo (x : Str) (k : Nat) : tl (cutS x none (some (k : Int))) = (tl x).take k := by
  show ((tl x).drop 0).take (HT.sIx x.length x.length (some (k : Int)) - 0) = _
  rw [HT.sIx_nat, len_tl]
  simp only [List.drop_zero, Nat.sub_zero]
  rcases Nat.le_total k (tl x).length with h | h
  · rw [Nat.min_eq_left h]
  · rw [Nat.min_eq_right h, List.take_of_length_le h, List.take_of_length_le (Nat.le_refl _)]
theorem cut_tl_hi (x : Str) (k : Nat) : tl (cutS x (some (k : Int)) none) = (tl x).drop k := by
  show ((tl x).drop (HT.sIx x.length 0 (some (k : Int)))).take (x.length - HT.sIx x.length 0 (some (k : Int))) = _
  rw [HT.sIx_nat, len_tl]
  rcases Nat.le_total k (tl x).length with h | h
  · rw [Nat.min_eq_left h, List.take_of_length_le (by simp)]
  · rw [Nat.min_eq_right h, List.drop_of_length_le (Nat.le_refl _), List.drop_of_length_le h]; simp
def Low (x : Str) : Prop := ∀ c ∈ tl x, 97 ≤ c ∧ c ≤ 122
theorem letters_tl : tl ("abcdefghijklmnopqrstuvwxyz" : Str) = (List.range 26).map (97 + ·) := by decide +kernel
theorem letters_len : ("abcdefghijklmnopqrstuvwxyz" : Str).length = 26 := by rw [len_tl, letters_tl]; simp
theorem letter_at {i : Int} (h0 : 0 ≤ i) (h1 : i < 26) : atI ("abcdefghijklmnopqrstuvwxyz" : Str).cps.toList i = some (97 + i.toNat) := by
  have e : ("abcdefghijklmnopqrstuvwxyz" : Str).cps.toList = (List.range 26).map (97 + ·) := letters_tl
  rw [e]
  obtain ⟨v, h, h'⟩ := atI_lt (xs := (List.range 26).map (97 + ·)) h0 (by simpa using h1)
  rw [h, ← h']
  rw [List.getElem?_map, List.getElem?_range (by omega)]; rfl
theorem pigeon {α : Type} [DecidableEq α] : ∀ {l r : List α}, l.Nodup → (∀ a ∈ l, a ∈ r) → l.length ≤ r.length
  | [], r, _, _ => Nat.zero_le _
  | a :: l, r, hn, hs => by
    have ha := hs a (by simp)
    have h := pigeon (l := l) (r := r.erase a) (List.nodup_cons.mp hn).2 fun b hb => by
      refine (List.mem_erase_of_ne fun e => ?_).mpr (hs b (by simp [hb]))
      subst e; exact (List.nodup_cons.mp hn).1 hb
    rw [List.length_erase_of_mem ha] at h
    have := List.length_pos_of_mem ha
    simp only [List.length_cons]; omega
theorem nodup_map_on {α β : Type} {f : α → β} : ∀ {l : List α}, (∀ x ∈ l, ∀ y ∈ l, f x = f y → x = y) → l.Nodup → (l.map f).Nodup
  | [], _, _ => List.nodup_nil
  | a :: l, hi, hn => by
    rw [List.map_cons, List.nodup_cons]
    refine ⟨fun hm => ?_, nodup_map_on (fun x hx y hy => hi x (by simp [hx]) y (by simp [hy])) (List.nodup_cons.mp hn).2⟩
    obtain ⟨b, hb, e⟩ := List.mem_map.mp hm
    have := hi b (by simp [hb]) a (by simp) e
    subst this
    exact (List.nodup_cons.mp hn).1 hb
def putIn (b : Str) (k : Nat) (c : Nat) : Str := cutS b none (some (k : Int)) ++ ⟨#[c]⟩ ++ cutS b (some (k : Int)) none
theorem putIn_tl (b : Str) (k c : Nat) : tl (putIn b k c) = (tl b).take k ++ c :: (tl b).drop k := by
  unfold putIn; rw [tl_append, tl_append, cut_tl_lo, cut_tl_hi]; simp [tl]
theorem putIn_inj {b : Str} {k c d : Nat} (h : putIn b k c = putIn b k d) : c = d := by
  have := congrArg tl h
  rw [putIn_tl, putIn_tl] at this
  simpa using (List.append_cancel_left this)
theorem putIn_len (b : Str) (k c : Nat) : (putIn b k c).length = b.length + 1 := by
  rw [len_tl, putIn_tl, len_tl]; simp; omega
theorem putIn_low {b : Str} {k c : Nat} (hb : Low b) (hc : 97 ≤ c ∧ c ≤ 122) : Low (putIn b k c) := by
  intro d hd
  rw [putIn_tl] at hd
  rcases List.mem_append.mp hd with hd | hd
  · exact hb d (List.mem_of_mem_take hd)
  · rcases List.mem_cons.mp hd with rfl | hd
    · exact hc
    · exact hb d (List.mem_of_mem_drop hd)
theorem strsOf_words : ∀ xs : List Str, strsOf (xs.map D.str) = some xs
  | [] => rfl
  | x :: xs => by simp [strsOf, strsOf_words xs]
theorem in_words {x : Str} : ∀ {ws : List Str}, ((ws.map D.str).any fun z => D.eqv z (.str x)) = decide (x ∈ ws)
  | [] => by simp
  | w :: ws => by
    rw [List.map_cons, List.any_cons, in_words]
    have : D.eqv (.str w) (.str x) = decide (x = w) := by simp [D.eqv, eq_comm, Bool.beq_eq_decide_eq]
    rw [this]; simp
theorem all_sc_words (ws : List Str) : (ws.map D.str).all D.sc = true := by simp [D.sc]
theorem w_notIn_words {μ : Mem} {n : Nat} {ws : List Str} (h : μ.cells[n]? = some (.lst (ws.map D.str))) (x : Str) (E : EP) (Q : Bool → Mem → Prop) : wR (cNotIn (.str x) (.loc n) μ) Q E = Q (!decide (x ∈ ws)) μ := by
  have e : cIn (.str x) (.loc n) μ = .ok (decide (x ∈ ws)) μ := by
    unfold cIn
    have h1 : signIn (.str x) (.loc n) = none := rfl
    have h2 : dfind μ (.loc n) (.str x) = none := by unfold dfind dictOf; dsimp only; rw [h]; rfl
    have h3 : seqOf μ (.loc n) = some (ws.map D.str) := by unfold seqOf lstOf; dsimp only; rw [h]
    rw [h1, h2]
    dsimp only
    rw [h3]
    dsimp only
    rw [all_sc_words, in_words]
    rfl
  unfold cNotIn; rw [wR_bind, e]; rfl
structure Word (w : Str) : Prop where
  pos : 1 ≤ w.length
  le : w.length ≤ 7
  low : Low w
theorem Low.ok {w : Str} (h : Low w) : PyData.strOk w = true := by
  unfold PyData.strOk
  rw [Array.all_eq_true']
  intro c hc
  have := h c (by simpa [tl] using hc)
  simp; omega
theorem Word.ok {w : Str} (h : Word w) : PyData.strOk w = true := h.low.ok
theorem join_chars (cs : List Nat) : tl (Txt.join ("" : Str) (cs.map fun c => (⟨#[c]⟩ : Str))) = cs := by
  rw [TL.join_eq, TL.tl_join]
  have e : tl ("" : Str) = [] := by decide +kernel
  rw [e]
  have : ∀ cs : List Nat, TL.joinL [] ((cs.map fun c => (⟨#[c]⟩ : Str)).map tl) = cs := fun cs => by
    induction cs with
    | nil => rfl
    | cons c r ih =>
      cases r with
      | nil => rfl
      | cons d r => show [c] ++ ([] ++ TL.joinL [] (List.map tl (List.map (fun c => (⟨#[c]⟩ : Str)) (d :: r)))) = _; rw [List.nil_append, ih]; rfl
  exact this cs
theorem low_nil : Low "" := by intro c hc; rw [show tl ("" : Str) = [] by decide +kernel] at hc; cases hc
def nmE (n : Nat) (k : Int) (p : Nat) (body : Str) (b : Bool) (x6 x7 x8 x9 x10 x11 : Option D) : DEnv := [some (.loc n), some (.int k), some (.str "abcdefghijklmnopqrstuvwxyz"), some (.loc p), some (.str body), some (.bl b), x6, x7, x8, x9, x10, x11]
theorem names_ok {c : Cl} {μ : Mem} {n : Nat} {B k : Int} (h : SrcAt μ n B) (hB : B + 1 + 9 * k < 2 ^ 40) (hB0 : 0 ≤ B) (hk : 0 ≤ k) (hk2 : k ≤ 20) (hl : μ.lk = []) :
    wR (m_x__law_names c [.loc n, .int k] μ) (fun v μ' => ∃ ws : List Str, v = .lst (ws.map D.str) ∧ (ws.length : Int) = k ∧ ws.Nodup ∧ (∀ w ∈ ws, Word w) ∧ SrcAt μ' n (B + 1 + 9 * k) ∧ Fr [n] μ μ') noE := by
  have hn : n < μ.cells.length := by obtain ⟨_, _, _, h, _⟩ := h; exact at_lt h
  unfold m_x__law_names
  rw [w_run]
  show wS (t_x__law_names c) [some (.loc n), some (.int k), none, none, none, none, none, none, none, none, none, none] μ _
  unfold t_x__law_names
  simp_arith only [id_eq]
  refine (draw_ok (h.push _) (by omega) (by omega) (by omega)).go ?_
  rintro _ μ1 ⟨a, rfl, ha0, ha1, hs1, f1⟩
  simp_arith only [id_eq]
  refine ⟨by omega, ?_⟩
  have p1 : μ1.cells[μ.cells.length]? = some (.lst []) := f1.get at_push (by simp; omega)
  have g1 : Fr [n] μ μ1 := (Fr.push _ _ _).trans f1
  refine w_range (fun i δ μ' => ∃ (ws : List Str) (body : Str) (x6 x7 x8 x9 x10 x11 : Option D), δ = nmE n k μ.cells.length body (a == 1) x6 x7 x8 x9 x10 x11
    ∧ ws.length = i ∧ ws.Nodup ∧ (∀ w ∈ ws, Word w) ∧ body.length ≤ 6 ∧ Low body ∧ μ'.cells[μ.cells.length]? = some (.lst (ws.map D.str)) ∧ SrcAt μ' n (B + 1 + 9 * i) ∧ Fr [n] μ μ') _ _ ?_ ?_ ?_
  · refine ⟨[], "", none, none, none, none, none, none, rfl, rfl, List.nodup_nil, fun w hw => (by cases hw), (by decide), low_nil, p1, ?_, g1⟩
    simpa using hs1
  · rintro i δ μ2 hi ⟨ws, body, x6, x7, x8, x9, x10, x11, rfl, hw1, hw2, hw3, hb1, hb2, hp, hs2, f2⟩
    simp only [nmE, ↓wG_set0, ↓wG_setS]
    refine wS_cut (fun δ' μ' => ∃ (body : Str), δ' = nmE n k μ.cells.length body (a == 1) (some (.int (0 + (i : Nat)))) x7 x8 x9 x10 x11
      ∧ body.length ≤ 6 ∧ Low body ∧ μ'.cells[μ.cells.length]? = some (.lst (ws.map D.str)) ∧ SrcAt μ' n (B + 1 + 9 * i + 7) ∧ Fr [n] μ μ') ?_ ?_
    · rw [wS_if]
      refine wE_cut (fun b μ' => μ' = μ2) (by simp_arith only [id_eq]; split <;> trivial) ?_
      rintro b _ rfl
      cases b with
      | false =>
        simp_arith only [id_eq]
        exact ⟨body, rfl, hb1, hb2, hp, hs2.mono (by omega), f2⟩
      | true =>
        simp_arith only [id_eq]
        refine (draw_ok hs2 (by omega) (by omega) (by omega)).go ?_
        rintro _ μ3 ⟨d, rfl, hd0, hd1, hs3, f3⟩
        simp_arith only [id_eq]
        refine ⟨by omega, by simp [rngItems]; omega, ?_⟩
        refine w_compR (lo := 0) (n := d.toNat) (fun j ys μ' => ∃ cs : List Nat, ys = (cs.map fun c => (⟨#[c]⟩ : Str)).map D.str ∧ cs.length = j ∧ (∀ c ∈ cs, 97 ≤ c ∧ c ≤ 122) ∧ SrcAt μ' n (B + 1 + 9 * i + 1 + j) ∧ Fr [n] μ3 μ') ?_ ?_ ?_
        · exact ⟨[], rfl, rfl, by simp, by simpa using hs3, Fr.refl _ _⟩
        · rintro j ys μ4 hj ⟨cs, rfl, hc1, hc2, hs4, f4⟩
          simp only [wipeD, List.set, ↓wR_ok, ↓wR_err, ↓wE_var0, ↓wE_varS, ↓wE_C, ↓wE_op, ↓wE_cmp, ↓wE_bl, ↓qB_bl, ↓wE_asB, ↓wE_and, ↓wE_or, ↓wE_not, ↓wE_andV, ↓wE_orV, ↓wE_notV, ↓wE_if, ↓wE_nil, ↓wE_cons, ↓wE_fz, ↓wE_lc, ↓wE_tup, ↓wE_lst, ↓wE_call, ↓wE_nopart, ↓qI_int, ↓wE_part, ↓wE_slice, ↓wE_fld, ↓wE_dnew, ↓wE_iter, ↓wE_rev, ↓wE_pos, ↓wE_kws, ↓wE_noa, ↓wE_both, ↓wE_fn, ↓wE_mth, ↓qN_non, ↓wE_mk, ↓wE_meth, ↓wE_neg, ↓wE_chain, ↓wE_comp, ↓wS_nx, ↓wS_bk, ↓wS_ct, ↓wS_seq, ↓wS_drop, ↓wS_ret, ↓wS_retN, ↓wS_if, ↓wS_asg, ↓qL_loc, ↓qCl_lst, ↓wS_retFz, ↓wS_raise, ↓wS_for, ↓wS_try, ↓wG_set0, ↓wG_setS, ↓wG_then, ↓wG_sub, ↓wG_fld, ↓qT_tup, ↓wG_tup, ↓wGs_nil, ↓wGs_cons, ↓endB_nx, ↓endB_rt, ↓endB_er, ↓endB_bk, ↓endB_ct, ↓loopP_nx, ↓loopP_ct, ↓loopP_bk, ↓loopP_rt, ↓loopP_er, ↓qO_some, ↓qO_at0, ↓qO_at1, ↓qO_at2, ↓qO_at3, ↓qO_at4, ↓qO_at5, ↓w_add_int, ↓w_add_str, ↓w_add_tup, ↓w_add_lst, ↓w_sub, ↓w_mod, ↓w_div, ↓w_mul, ↓w_pow, ↓w_band, ↓w_lt, ↓w_le, ↓w_gt, ↓w_ge, ↓w_is, ↓w_isNot, ↓nonN, ↓nonI, ↓nonS, ↓nonT, ↓nonL, ↓nonLoc, ↓w_eq_int, ↓w_ne_int, ↓w_eq_str, ↓w_ne_str, ↓qIx_lst, ↓qIx_dK, ↓qIxS_dK, ↓w_ix_loc, ↓w_ix_locS, ↓w_ix_lst, ↓w_ix_tup, ↓w_ix_str, ↓qLS_0, ↓qLS_1, ↓qLS_2, ↓qLS_3, ↓qSet_lst, ↓qSet_dK, ↓qSetS_dK, ↓w_setI, ↓w_setS, ↓qF_ins, ↓w_fld, ↓qSF_ins, ↓w_setF, ↓w_len_str, ↓w_len_lst, ↓w_len_tup, ↓qLen_lst, ↓qLen_dK, ↓w_len_loc, ↓w_max, ↓w_min, ↓w_int_int, ↓w_int_bl, ↓w_str_int, ↓qDc_dK, ↓w_dict, ↓w_tuple_lst, ↓w_tuple_tup, ↓w_tuple_loc, ↓w_list_lst, ↓w_list_tup, ↓w_iter_lst, ↓w_iter_tup, ↓w_iter_str, ↓w_iter_loc, ↓w_rng1, ↓w_rng2, ↓w_sl_str, ↓w_sl_tup, ↓w_sl_lst, ↓w_append, ↓w_lclear, ↓tyS_str, ↓tyL_lst, ↓qM_loc, ↓look1, ↓wC_set, ↓wC_setn, ↓wC_push2, ↓wC_pushn, ↓wE_yes, ↓wE_revL, ↓qO_lst, ↓w_all_lst, ↓w_join_lst, ↓isi_non_int, ↓isi_non_bool, ↓isi_non_str, ↓isi_non_tuple, ↓isi_non_list, ↓isi_non_dict, ↓isi_bl_int, ↓isi_bl_bool, ↓isi_bl_str, ↓isi_bl_tuple, ↓isi_bl_list, ↓isi_bl_dict, ↓isi_int_int, ↓isi_int_bool, ↓isi_int_str, ↓isi_int_tuple, ↓isi_int_list, ↓isi_int_dict, ↓isi_str_int, ↓isi_str_bool, ↓isi_str_str, ↓isi_str_tuple, ↓isi_str_list, ↓isi_str_dict, ↓isi_tup_int, ↓isi_tup_bool, ↓isi_tup_str, ↓isi_tup_tuple, ↓isi_tup_list, ↓isi_tup_dict, ↓isi_lst_int, ↓isi_lst_bool, ↓isi_lst_str, ↓isi_lst_tuple, ↓isi_lst_list, ↓isi_lst_dict, decide_eq_true_eq, beq_iff_eq, Bool.not_eq_true', Bool.not_eq_eq_eq_not, Bool.not_true, Bool.not_false, decide_eq_false_iff_not, beq_eq_false_iff_ne, ne_eq, true_and, and_true, if_true, if_false, ite_true, ite_false, reduceIte, Bool.false_eq_true, not_false_eq_true, not_true_eq_false, Int.reduceLT, Int.reduceLE, Int.reduceToNat, Nat.reduceLT, Nat.reduceLeDiff, Int.reducePow, Nat.reduceAdd, Int.reduceAdd, Int.reduceMul, Int.reduceSub, Int.reduceNeg, Nat.reducePow, Int.reduceEq, Nat.reduceEqDiff, List.length_cons, List.length_nil, PySem.sizeLine_eq, str_len_app, str_len_one, wipeD, List.set_cons_zero, List.set_cons_succ, ↓wE_yes]
          refine (draw_ok hs4 (by omega) (by omega) (by omega)).go ?_
          rintro _ μ5 ⟨e, rfl, he0, he1, hs5, f5⟩
          simp_arith only [↓qO_of (letter_at he0 he1), letters_len]
          refine ⟨cs ++ [97 + e.toNat], by simp, by simp [hc1], ?_, hs5.mono (by omega), f4.trans f5⟩
          intro c hc
          rcases List.mem_append.mp hc with hc | hc
          · exact hc2 c hc
          · simp at hc; omega
        · rintro ys μ4 ⟨cs, rfl, hc1, hc2, hs4, f4⟩
          have hl : ((cs.map fun c => (⟨#[c]⟩ : Str)).map (·.length)).sum = cs.length := by
            clear hc1 hc2
            induction cs with
            | nil => rfl
            | cons c r ih => simp [Str.length] at ih ⊢; omega
          have ht := join_chars cs
          simp_arith only [↓w_join_lst, ↓qO_of (strsOf_words _)]
          have e0 : ("" : Str).length = 0 := by decide
          refine ⟨by rw [hl, e0]; simp; omega, _, rfl, ?_, ?_, ?_, hs4.mono (by omega), f2.trans (f3.trans f4)⟩
          · rw [len_tl, ht]; omega
          · intro c hc
            rw [ht] at hc; exact hc2 c hc
          · exact f4.get (f3.get hp (by simp; omega)) (by simp; omega)
    · rintro δ' μ3 ⟨body', rfl, hb1, hb2, hp, hs3, f3⟩
      simp_arith only [nmE]
      refine ⟨by omega, ?_⟩
      refine (draw_ok hs3 (by omega) (by omega) (by omega)).go ?_
      rintro _ μ4 ⟨d, rfl, hd0, hd1, hs4, f4⟩
      simp_arith only [id_eq]
      refine (draw_ok hs4 (by omega) (by omega) (by omega)).go ?_
      rintro _ μ5 ⟨e, rfl, he0, he1, hs5, f5⟩
      simp_arith only [id_eq]
      have hp5 : μ5.cells[μ.cells.length]? = some (.lst (ws.map D.str)) := f5.get (f4.get hp (by simp; omega)) (by simp; omega)
      have g5 : Fr [n] μ μ5 := f3.trans (f4.trans f5)
      let cand : Nat → Str := fun j => putIn body' d.toNat (97 + ((e + j) % 26).toNat)
      refine w_range (fun j δ μ' => μ' = μ5 ∧ ∃ (found : Str) (x10 x11 : Option D), δ = [some (.loc n), some (.int k), some (.str "abcdefghijklmnopqrstuvwxyz"), some (.loc μ.cells.length), some (.str body'), some (.bl (a == 1)), some (.int (0 + (i : Nat))), some (.int d), some (.int e), some (.str found), x10, x11] ∧
        ((found = "" ∧ ∀ j' < j, cand j' ∈ ws) ∨ ∃ j' < 26, found = cand j' ∧ found ∉ ws)) _ _ ?_ ?_ ?_
      · exact ⟨rfl, "", _, _, rfl, .inl ⟨rfl, by simp⟩⟩
      · rintro j δ _ hj ⟨rfl, found, x10, x11, rfl, hf⟩
        have h26 : 0 ≤ (e + (0 + (j : Int))) % 26 ∧ (e + (0 + (j : Int))) % 26 < 26 := ⟨Int.emod_nonneg _ (by decide), Int.emod_lt_of_pos _ (by decide)⟩
        have ec : cutS body' none (some d) ++ ⟨#[97 + ((e + (0 + (j : Int))) % 26).toNat]⟩ ++ cutS body' (some d) none = cand j := by
          show _ = putIn body' d.toNat _
          unfold putIn
          rw [Int.toNat_of_nonneg hd0, Int.zero_add]
        have el := putIn_len body' d.toNat (97 + ((e + (0 + (j : Int))) % 26).toNat)
        simp_arith only [↓qO_of (letter_at h26.1 h26.2), letters_len, ec, ↓w_notIn_words hp5]
        have l1 := cut_len_le body' none (some d)
        have l2 := cut_len_le body' (some d) none
        repeat refine And.intro (by (first | exact mulOk (by omega) (by omega) (by omega) (by omega) | exact divOk (by omega) (by omega) | exact powOk (by omega) (by omega) (by omega) (by omega) | exact strOk' (by omega) (by omega) | assumption | omega | decide)) ?_
        split
        · split
          · rename_i hj1
            exact ⟨_, _, _, rfl, .inr ⟨j, hj, rfl, hj1⟩⟩
          · rename_i hf0 hj1
            refine ⟨_, _, _, rfl, ?_⟩
            rcases hf with ⟨_, hf⟩ | hf
            · refine .inl ⟨hf0, fun j' hj' => ?_⟩
              rcases Nat.lt_or_ge j' j with h | h
              · exact hf j' h
              · have : j' = j := by omega
                subst this; exact Decidable.not_not.mp hj1
            · exact .inr hf
        · rename_i hf0
          refine ⟨_, _, _, rfl, ?_⟩
          rcases hf with ⟨h, _⟩ | hf
          · exact absurd h hf0
          · exact .inr hf
      · rintro δ _ ⟨rfl, found, x10, x11, rfl, hf⟩
        have hf : ∃ j' < 26, found = cand j' ∧ found ∉ ws := by
          rcases hf with ⟨_, hf⟩ | hf
          · exfalso
            have hnd : ((List.range 26).map cand).Nodup := by
              refine nodup_map_on ?_ List.nodup_range
              intro x hx y hy hxy
              have := putIn_inj hxy
              simp at hx hy
              omega
            have := pigeon hnd (r := ws) fun z hz => by
              obtain ⟨j, hj, rfl⟩ := List.mem_map.mp hz
              exact hf j (by simpa using hj)
            simp at this
            omega
          · exact hf
        obtain ⟨j, hj, rfl, hnot⟩ := hf
        have h26 : 0 ≤ (e + (j : Int)) % 26 ∧ (e + (j : Int)) % 26 < 26 := ⟨Int.emod_nonneg _ (by decide), Int.emod_lt_of_pos _ (by decide)⟩
        have hcl : (cand j).length = body'.length + 1 := putIn_len _ _ _
        have hlt := at_lt hp5
        simp_arith only [↓wC_of hp5, tyL_of hp5, List.length_map]
        refine ⟨by omega, ws ++ [cand j], body', _, _, _, _, _, _, rfl, by simp [hw1], ?_, ?_, hb1, hb2, ?_, ?_, g5.trans (Fr.set1 _ _ _) (by intro k hk _; simp at hk; omega)⟩
        · rw [List.nodup_append]
          refine ⟨hw2, by simp, fun x hx y hy => ?_⟩
          have : y = cand j := by simpa using hy
          subst this
          exact fun z => hnot (z ▸ hx)
        · intro w hw
          rcases List.mem_append.mp hw with hw | hw
          · exact hw3 w hw
          · have : w = cand j := by simpa using hw
            subst this
            exact ⟨by omega, by omega, putIn_low hb2 (by omega)⟩
        · rw [at_set hlt, List.map_append]; rfl
        · refine (hs5.fr (Fr.set1 _ μ.cells.length _) (by simp; omega)).mono (by omega)
  · rintro δ μ2 ⟨ws, body, x6, x7, x8, x9, x10, x11, rfl, hw1, hw2, hw3, hb1, hb2, hp, hs2, f2⟩
    simp_arith only [nmE, ↓wC_of hp]
    refine ⟨lkd_nil (f2.lk.trans hl), ws, rfl, by omega, hw2, hw3, ?_, f2.trans (Fr.set1 _ _ _) (by intro k hk _; simp at hk; omega)⟩
    exact (hs2.fr (Fr.set1 _ μ.cells.length _) (by simp; omega)).mono (by omega)
theorem number_ok {c : Cl} {μ : Mem} {n : Nat} {B : Int} (h : SrcAt μ n B) (hB : B + 2 < 2 ^ 40) :
    wR (m_x__law_number c [.loc n] μ) (fun v μ' => ∃ d : Int, v = .int d ∧ -(10 ^ 60) < d ∧ d < 10 ^ 60 ∧ SrcAt μ' n (B + 2) ∧ Fr [n] μ μ') noE := by
  unfold m_x__law_number
  rw [w_run]
  show wS (t_x__law_number c) [some (.loc n), none] μ _
  unfold t_x__law_number
  simp_arith only [id_eq]
  refine (draw_ok h (by omega) (by omega) (by omega)).go ?_
  rintro _ μ1 ⟨a, rfl, ha0, ha1, hs1, f1⟩
  simp_arith only [id_eq]
  split
  · repeat refine And.intro (by (first | exact mulOk (by omega) (by omega) (by omega) (by omega) | exact divOk (by omega) (by omega) | exact powOk (by omega) (by omega) (by omega) (by omega) | exact strOk' (by omega) (by omega) | assumption | omega | decide)) ?_
    refine (draw_ok hs1 (by omega) (by omega) (by omega)).go ?_
    rintro _ μ2 ⟨b, rfl, hb0, hb1, hs2, f2⟩
    exact ⟨b, rfl, by omega, by omega, hs2.mono (by omega), f1.trans f2⟩
  · split
    · repeat refine And.intro (by (first | exact mulOk (by omega) (by omega) (by omega) (by omega) | exact divOk (by omega) (by omega) | exact powOk (by omega) (by omega) (by omega) (by omega) | exact strOk' (by omega) (by omega) | assumption | omega | decide)) ?_
      refine (draw_ok hs1 (by omega) (by omega) (by omega)).go ?_
      rintro _ μ2 ⟨b, rfl, hb0, hb1, hs2, f2⟩
      simp_arith only [id_eq]
      exact ⟨_, rfl, by omega, by omega, hs2.mono (by omega), f1.trans f2⟩
    · refine (draw_ok hs1 (by omega) (by omega) (by omega)).go ?_
      rintro _ μ2 ⟨b, rfl, hb0, hb1, hs2, f2⟩
      simp_arith only [id_eq]
      exact ⟨_, rfl, by omega, by omega, hs2.mono (by omega), f1.trans f2⟩
end Doz
end
section
namespace Doz
open PySem L2
section
variable {α β γ : Type} [DecidableEq α]
def aget (l : List (α × β)) (k : α) : Option β := (l.find? fun p => decide (p.1 = k)).map (·.2)
def aput (l : List (α × β)) (k : α) (v : β) : List (α × β) := if (l.any fun p => decide (p.1 = k)) = true then l.map (fun p => if p.1 = k then (p.1, v) else p) else l ++ [(k, v)]
def adrop (l : List (α × β)) (k : α) : List (α × β) := l.filter fun p => decide (p.1 ≠ k)
def enc (f : α → Key) (g : β → D) (l : List (α × β)) : List (Key × D) := l.map fun p => (f p.1, g p.2)
variable {f : α → Key} {g : β → D} (hf : ∀ a b, f a = f b → a = b)
theorem enc_len (l : List (α × β)) : (enc f g l).length = l.length := by simp [enc]
include hf
theorem dec_inj (a b : α) : decide (f a = f b) = decide (a = b) := by
  by_cases h : a = b
  · subst h; simp
  · have : ¬ f a = f b := fun z => h (hf a b z)
    simp [h, this]
theorem enc_get (l : List (α × β)) (k : α) : kget (enc f g l) (f k) = (aget l k).map g := by
  unfold kget aget enc
  rw [List.find?_map]
  have : ((fun kv : Key × D => decide (kv.1 = f k)) ∘ fun p : α × β => (f p.1, g p.2)) = fun p => decide (p.1 = k) := by
    funext p; exact dec_inj hf p.1 k
  rw [this]
  cases l.find? fun p => decide (p.1 = k) <;> rfl
theorem enc_any (l : List (α × β)) (k : α) : ((enc f g l).any fun kv => decide (kv.1 = f k)) = l.any fun p => decide (p.1 = k) := by
  unfold enc
  rw [List.any_map]
  congr; funext p; exact dec_inj hf p.1 k
theorem enc_put (l : List (α × β)) (k : α) (v : β) : kput (enc f g l) (f k) (g v) = enc f g (aput l k v) := by
  unfold kput aput
  rw [enc_any hf]
  split
  · unfold enc
    rw [List.map_map, List.map_map]
    refine List.map_congr_left fun p _ => ?_
    show (if f p.1 = f k then (f p.1, g v) else (f p.1, g p.2)) = _
    by_cases h : p.1 = k
    · simp [h]
    · have : ¬ f p.1 = f k := fun z => h (hf _ _ z)
      simp [h, this]
  · simp [enc]
end
section
variable {α β : Type} [DecidableEq α]
theorem aget_nil (k : α) : aget ([] : List (α × β)) k = none := rfl
theorem aget_cons (p : α × β) (l : List (α × β)) (k : α) : aget (p :: l) k = if p.1 = k then some p.2 else aget l k := by
  unfold aget; rw [List.find?_cons]
  by_cases h : p.1 = k <;> simp [h]
theorem aget_some {l : List (α × β)} {k : α} {v : β} (h : aget l k = some v) : (k, v) ∈ l := by
  induction l with
  | nil => cases h
  | cons p l ih =>
    rw [aget_cons] at h
    split at h
    · rename_i e; cases h; subst e; simp
    · exact List.mem_cons_of_mem _ (ih h)
theorem aget_none {l : List (α × β)} {k : α} : aget l k = none ↔ k ∉ l.map (·.1) := by
  induction l with
  | nil => simp [aget_nil]
  | cons p l ih =>
    rw [aget_cons]
    by_cases e : p.1 = k
    · simp [e]
    · simp only [e, if_false, ih, List.map_cons, List.mem_cons, not_or]
      exact ⟨fun h => ⟨fun z => e z.symm, h⟩, fun h => h.2⟩
theorem aget_isSome (l : List (α × β)) (k : α) : (aget l k).isSome = decide (k ∈ l.map (·.1)) := by
  cases h : aget l k with
  | none => simp [aget_none.mp h]
  | some v => simp; exact ⟨v, aget_some h⟩
end
theorem inr_inj (a b : Str) (h : (Sum.inr a : Key) = Sum.inr b) : a = b := by injection h
abbrev encI {β : Type} (g : β → D) (l : List (Int × β)) : List (Key × D) := enc (Sum.inl : Int → Key) g l
abbrev encS {β : Type} (g : β → D) (l : List (Str × β)) : List (Key × D) := enc (Sum.inr : Str → Key) g l
theorem encS_get {β : Type} (g : β → D) (l : List (Str × β)) (k : Str) : kget (encS g l) (.inr k) = (aget l k).map g := enc_get inr_inj l k
theorem encS_put {β : Type} (g : β → D) (l : List (Str × β)) (k : Str) (v : β) : kput (encS g l) (.inr k) (g v) = encS g (aput l k v) := enc_put inr_inj l k v
end Doz
end
section
namespace Doz
open PySem L2
structure BedS where
  at_ : Nat
  place : Str
  turn : Int
  since : Int
  until_ : Option Int
  mask : Int
def oI : Option Int → D
  | none => .non
  | some i => .int i
def bedF (b : BedS) : List (Str × D) := [("place", .str b.place), ("turn", .int b.turn), ("since", .int b.since), ("until", oI b.until_), ("mask", .int b.mask)]
structure HS where
  num : List (Str × Int)
  beds : List (Int × BedS) := []
  ranks : List (Int × Int) := []
  ends : List (Int × Str) := []
  clock : Int := 0
  turns : Int := 0
  begun : Int := 0
  log : List D := []
structure HA where
  a : Nat
  aN : Nat
  aB : Nat
  aR : Nat
  aE : Nat
  aL : Nat
def HA.list (A : HA) : List Nat := [A.a, A.aN, A.aB, A.aR, A.aE, A.aL]
def foot (A : HA) (S : HS) : List Nat := A.list ++ S.beds.map fun p => p.2.at_
def hallF (A : HA) (S : HS) : List (Str × D) := [("numbers", .loc A.aN), ("beds", .loc A.aB), ("ranks", .loc A.aR), ("endings", .loc A.aE), ("clock", .int S.clock), ("turns", .int S.turns), ("begun", .int S.begun), ("entries", .loc A.aL)]
structure HallAt (c : Cl) (μ : Mem) (A : HA) (S : HS) : Prop where
  lk : μ.lk = []
  nd : (foot A S).Nodup
  hh : μ.cells[A.a]? = some (.ins c.n_Hall (hallF A S))
  hN : μ.cells[A.aN]? = some (.dK (encS D.int S.num))
  hB : μ.cells[A.aB]? = some (.dK (encI (fun b => D.loc b.at_) S.beds))
  hR : μ.cells[A.aR]? = some (.dK (encI D.int S.ranks))
  hE : μ.cells[A.aE]? = some (.dK (encI D.str S.ends))
  hL : μ.cells[A.aL]? = some (.lst S.log)
  hb : ∀ p ∈ S.beds, μ.cells[p.2.at_]? = some (.ins c.n_Bed (bedF p.2))
  nN : (S.num.map (·.1)).Nodup
  nB : (S.beds.map (·.1)).Nodup
  nR : (S.ranks.map (·.1)).Nodup
  nE : (S.ends.map (·.1)).Nodup
structure HallTo (c : Cl) (μ : Mem) (A : HA) (S : HS) (μ' : Mem) (S' : HS) : Prop where
  h : HallAt c μ' A S'
  f : Fr (foot A S) μ μ'
  new : ∀ k ∈ foot A S', k ∈ foot A S ∨ μ.cells.length ≤ k
theorem HallAt.ne {c : Cl} {μ : Mem} {A : HA} {S : HS} (h : HallAt c μ A S) : (A.a ≠ A.aN ∧ A.a ≠ A.aB ∧ A.a ≠ A.aR ∧ A.a ≠ A.aE ∧ A.a ≠ A.aL) ∧ (A.aN ≠ A.aB ∧ A.aN ≠ A.aR ∧ A.aN ≠ A.aE ∧ A.aN ≠ A.aL) ∧ (A.aB ≠ A.aR ∧ A.aB ≠ A.aE ∧ A.aB ≠ A.aL) ∧ (A.aR ≠ A.aE ∧ A.aR ≠ A.aL) ∧ A.aE ≠ A.aL := by
  have := (List.nodup_append.mp h.nd).1
  simp [HA.list] at this
  omega
theorem mem_foot {A : HA} {S : HS} : A.a ∈ foot A S ∧ A.aN ∈ foot A S ∧ A.aB ∈ foot A S ∧ A.aR ∈ foot A S ∧ A.aE ∈ foot A S ∧ A.aL ∈ foot A S := by simp [foot, HA.list]
theorem HallAt.fr {c : Cl} {μ μ' : Mem} {A : HA} {S : HS} {F : List Nat} (h : HallAt c μ A S) (f : Fr F μ μ') (hd : ∀ k ∈ foot A S, k ∉ F) : HallAt c μ' A S :=
  have m := mem_foot (A := A) (S := S)
  ⟨f.lk.trans h.lk, h.nd, f.get h.hh (hd _ m.1), f.get h.hN (hd _ m.2.1), f.get h.hB (hd _ m.2.2.1), f.get h.hR (hd _ m.2.2.2.1), f.get h.hE (hd _ m.2.2.2.2.1), f.get h.hL (hd _ m.2.2.2.2.2),
    fun p hp => f.get (h.hb p hp) (hd _ (by unfold foot; exact List.mem_append_right _ (List.mem_map_of_mem (f := fun p : Int × BedS => p.2.at_) hp))), h.nN, h.nB, h.nR, h.nE⟩
theorem HallAt.lt {c : Cl} {μ : Mem} {A : HA} {S : HS} (h : HallAt c μ A S) {k : Nat} (hk : k ∈ foot A S) : k < μ.cells.length := by
  unfold foot at hk
  rcases List.mem_append.mp hk with hk | hk
  · simp [HA.list] at hk
    rcases hk with rfl | rfl | rfl | rfl | rfl | rfl
    · exact at_lt h.hh
    · exact at_lt h.hN
    · exact at_lt h.hB
    · exact at_lt h.hR
    · exact at_lt h.hE
    · exact at_lt h.hL
  · obtain ⟨p, hp, rfl⟩ := List.mem_map.mp hk
    exact at_lt (h.hb p hp)
section
variable (A : HA) (S : HS) (Q : D → Prop)
theorem hf_numbers : qO ((hallF A S).lookup ("numbers" : Str)) Q = Q (.loc A.aN) := by kernel_rfl
theorem hf_beds : qO ((hallF A S).lookup ("beds" : Str)) Q = Q (.loc A.aB) := by kernel_rfl
theorem hf_ranks : qO ((hallF A S).lookup ("ranks" : Str)) Q = Q (.loc A.aR) := by kernel_rfl
theorem hf_endings : qO ((hallF A S).lookup ("endings" : Str)) Q = Q (.loc A.aE) := by kernel_rfl
theorem hf_clock : qO ((hallF A S).lookup ("clock" : Str)) Q = Q (.int S.clock) := by kernel_rfl
theorem hf_turns : qO ((hallF A S).lookup ("turns" : Str)) Q = Q (.int S.turns) := by kernel_rfl
theorem hf_begun : qO ((hallF A S).lookup ("begun" : Str)) Q = Q (.int S.begun) := by kernel_rfl
theorem hf_entries : qO ((hallF A S).lookup ("entries" : Str)) Q = Q (.loc A.aL) := by kernel_rfl
end
theorem pfh0 (v : D) : putFD "numbers" v [] = [(("numbers" : Str), v)] := by kernel_rfl
theorem pfh1 (x0 v : D) : putFD "beds" v [(("numbers" : Str), x0)] = [(("numbers" : Str), x0), (("beds" : Str), v)] := by kernel_rfl
theorem pfh2 (x0 x1 v : D) : putFD "ranks" v [(("numbers" : Str), x0), (("beds" : Str), x1)] = [(("numbers" : Str), x0), (("beds" : Str), x1), (("ranks" : Str), v)] := by kernel_rfl
theorem pfh3 (x0 x1 x2 v : D) : putFD "endings" v [(("numbers" : Str), x0), (("beds" : Str), x1), (("ranks" : Str), x2)] = [(("numbers" : Str), x0), (("beds" : Str), x1), (("ranks" : Str), x2), (("endings" : Str), v)] := by kernel_rfl
theorem pfh4 (x0 x1 x2 x3 v : D) : putFD "clock" v [(("numbers" : Str), x0), (("beds" : Str), x1), (("ranks" : Str), x2), (("endings" : Str), x3)] = [(("numbers" : Str), x0), (("beds" : Str), x1), (("ranks" : Str), x2), (("endings" : Str), x3), (("clock" : Str), v)] := by kernel_rfl
theorem pfh5 (x0 x1 x2 x3 x4 v : D) : putFD "turns" v [(("numbers" : Str), x0), (("beds" : Str), x1), (("ranks" : Str), x2), (("endings" : Str), x3), (("clock" : Str), x4)] = [(("numbers" : Str), x0), (("beds" : Str), x1), (("ranks" : Str), x2), (("endings" : Str), x3), (("clock" : Str), x4), (("turns" : Str), v)] := by kernel_rfl
theorem pfh6 (x0 x1 x2 x3 x4 x5 v : D) : putFD "begun" v [(("numbers" : Str), x0), (("beds" : Str), x1), (("ranks" : Str), x2), (("endings" : Str), x3), (("clock" : Str), x4), (("turns" : Str), x5)] = [(("numbers" : Str), x0), (("beds" : Str), x1), (("ranks" : Str), x2), (("endings" : Str), x3), (("clock" : Str), x4), (("turns" : Str), x5), (("begun" : Str), v)] := by kernel_rfl
theorem pfh7 (x0 x1 x2 x3 x4 x5 x6 v : D) : putFD "entries" v [(("numbers" : Str), x0), (("beds" : Str), x1), (("ranks" : Str), x2), (("endings" : Str), x3), (("clock" : Str), x4), (("turns" : Str), x5), (("begun" : Str), x6)] = [(("numbers" : Str), x0), (("beds" : Str), x1), (("ranks" : Str), x2), (("endings" : Str), x3), (("clock" : Str), x4), (("turns" : Str), x5), (("begun" : Str), x6), (("entries" : Str), v)] := by kernel_rfl
theorem noFld_of {fs : List (Str × D)} {nm : Str} (l : List Str) (h : fs.map (·.1) = l) (k : (l.all fun x => !(x == nm)) = true) : noFld fs nm = true := by
  unfold noFld; subst h; rw [List.all_map] at k; exact k
def hallKeys : List Str := ["numbers", "beds", "ranks", "endings", "clock", "turns", "begun", "entries"]
theorem hall_keys (A : HA) (S : HS) : (hallF A S).map (·.1) = hallKeys := rfl
theorem hall_nofld (A : HA) (S : HS) (nm : Str) (k : (hallKeys.all fun x => !(x == nm)) = true) : noFld (hallF A S) nm = true := noFld_of _ (hall_keys A S) k
section
variable (C : Addr) (A : HA) (S : HS) (T : Addr → Option MM) (K : MM → Prop)
theorem hm_look_for : qMc (.ins C (hallF A S)) "look_for" T K = qO (T C) K := qMc_ins (hall_nofld A S _ (by decide +kernel))
theorem hm_look_awake : qMc (.ins C (hallF A S)) "look_awake" T K = qO (T C) K := qMc_ins (hall_nofld A S _ (by decide +kernel))
theorem hm_next_turn : qMc (.ins C (hallF A S)) "next_turn" T K = qO (T C) K := qMc_ins (hall_nofld A S _ (by decide +kernel))
theorem hm_lie_down : qMc (.ins C (hallF A S)) "lie_down" T K = qO (T C) K := qMc_ins (hall_nofld A S _ (by decide +kernel))
theorem hm_rise : qMc (.ins C (hallF A S)) "rise" T K = qO (T C) K := qMc_ins (hall_nofld A S _ (by decide +kernel))
theorem hm_is_over : qMc (.ins C (hallF A S)) "is_over" T K = qO (T C) K := qMc_ins (hall_nofld A S _ (by decide +kernel))
theorem hm_put : qMc (.ins C (hallF A S)) "put" T K = qO (T C) K := qMc_ins (hall_nofld A S _ (by decide +kernel))
theorem hm_sleep : qMc (.ins C (hallF A S)) "sleep" T K = qO (T C) K := qMc_ins (hall_nofld A S _ (by decide +kernel))
theorem hm_wake : qMc (.ins C (hallF A S)) "wake" T K = qO (T C) K := qMc_ins (hall_nofld A S _ (by decide +kernel))
theorem hm_move : qMc (.ins C (hallF A S)) "move" T K = qO (T C) K := qMc_ins (hall_nofld A S _ (by decide +kernel))
theorem hm_tick : qMc (.ins C (hallF A S)) "tick" T K = qO (T C) K := qMc_ins (hall_nofld A S _ (by decide +kernel))
theorem hm_lateness : qMc (.ins C (hallF A S)) "lateness" T K = qO (T C) K := qMc_ins (hall_nofld A S _ (by decide +kernel))
theorem hm_nudge : qMc (.ins C (hallF A S)) "nudge" T K = qO (T C) K := qMc_ins (hall_nofld A S _ (by decide +kernel))
theorem hm_rank : qMc (.ins C (hallF A S)) "rank" T K = qO (T C) K := qMc_ins (hall_nofld A S _ (by decide +kernel))
theorem hm_number : qMc (.ins C (hallF A S)) "number" T K = qO (T C) K := qMc_ins (hall_nofld A S _ (by decide +kernel))
theorem hm_line : qMc (.ins C (hallF A S)) "line" T K = qO (T C) K := qMc_ins (hall_nofld A S _ (by decide +kernel))
theorem hm_line_at : qMc (.ins C (hallF A S)) "line_at" T K = qO (T C) K := qMc_ins (hall_nofld A S _ (by decide +kernel))
theorem hm_order : qMc (.ins C (hallF A S)) "order" T K = qO (T C) K := qMc_ins (hall_nofld A S _ (by decide +kernel))
theorem hm_asleep : qMc (.ins C (hallF A S)) "asleep" T K = qO (T C) K := qMc_ins (hall_nofld A S _ (by decide +kernel))
theorem hm_sleeper : qMc (.ins C (hallF A S)) "sleeper" T K = qO (T C) K := qMc_ins (hall_nofld A S _ (by decide +kernel))
theorem hm_ending : qMc (.ins C (hallF A S)) "ending" T K = qO (T C) K := qMc_ins (hall_nofld A S _ (by decide +kernel))
theorem hm_standing : qMc (.ins C (hallF A S)) "standing" T K = qO (T C) K := qMc_ins (hall_nofld A S _ (by decide +kernel))
theorem hm_now : qMc (.ins C (hallF A S)) "now" T K = qO (T C) K := qMc_ins (hall_nofld A S _ (by decide +kernel))
theorem hm_log : qMc (.ins C (hallF A S)) "log" T K = qO (T C) K := qMc_ins (hall_nofld A S _ (by decide +kernel))
theorem hm_who : qMc (.ins C (hallF A S)) "who" T K = qO (T C) K := qMc_ins (hall_nofld A S _ (by decide +kernel))
theorem hm_filled : qMc (.ins C (hallF A S)) "filled" T K = qO (T C) K := qMc_ins (hall_nofld A S _ (by decide +kernel))
theorem hm_twin : qMc (.ins C (hallF A S)) "twin" T K = qO (T C) K := qMc_ins (hall_nofld A S _ (by decide +kernel))
end
local macro_rules | `(tactic| simp_arith only [$xs,*]) => `(tactic| simp -failIfUnchanged -implicitDefEqProofs (disch := (first | (simp only [Doz.len_push, Doz.len_set]; omega) | omega | assumption)) only [↓wR_ok, ↓wR_err, ↓wE_var0, ↓wE_varS, ↓wE_C, ↓wE_op, ↓wE_cmp, ↓wE_bl, ↓qB_bl, ↓wE_asB, ↓wE_and, ↓wE_or, ↓wE_not, ↓wE_andV, ↓wE_orV, ↓wE_notV, ↓wE_if, ↓wE_nil, ↓wE_cons, ↓wE_fz, ↓wE_lc, ↓wE_tup, ↓wE_lst, ↓wE_call, ↓wE_nopart, ↓qI_int, ↓wE_part, ↓wE_slice, ↓wE_fld, ↓wE_dnew, ↓wE_iter, ↓wE_rev, ↓wE_pos, ↓wE_kws, ↓wE_noa, ↓wE_both, ↓wE_fn, ↓wE_mth, ↓qN_non, ↓wE_mk, ↓wE_meth, ↓wE_neg, ↓wE_chain, ↓wE_comp, ↓wS_nx, ↓wS_bk, ↓wS_ct, ↓wS_seq, ↓wS_drop, ↓wS_ret, ↓wS_retN, ↓wS_if, ↓wS_asg, ↓qL_loc, ↓qCl_lst, ↓wS_retFz, ↓wS_raise, ↓wS_for, ↓wS_try, ↓wG_set0, ↓wG_setS, ↓wG_then, ↓wG_sub, ↓wG_fld, ↓qT_tup, ↓wG_tup, ↓wGs_nil, ↓wGs_cons, ↓endB_nx, ↓endB_rt, ↓endB_er, ↓endB_bk, ↓endB_ct, ↓loopP_nx, ↓loopP_ct, ↓loopP_bk, ↓loopP_rt, ↓loopP_er, ↓qO_some, ↓qO_at0, ↓qO_at1, ↓qO_at2, ↓qO_at3, ↓qO_at4, ↓qO_at5, ↓w_add_int, ↓w_add_str, ↓w_add_tup, ↓w_add_lst, ↓w_sub, ↓w_mod, ↓w_div, ↓w_mul, ↓w_pow, ↓w_band, ↓w_lt, ↓w_le, ↓w_gt, ↓w_ge, ↓w_is, ↓w_isNot, ↓nonN, ↓nonI, ↓nonS, ↓nonT, ↓nonL, ↓nonLoc, ↓w_eq_int, ↓w_ne_int, ↓w_eq_str, ↓w_ne_str, ↓qIx_lst, ↓qIx_dK, ↓qIxS_dK, ↓w_ix_loc, ↓w_ix_locS, ↓w_ix_lst, ↓w_ix_tup, ↓w_ix_str, ↓qLS_0, ↓qLS_1, ↓qLS_2, ↓qLS_3, ↓qSet_lst, ↓qSet_dK, ↓qSetS_dK, ↓w_setI, ↓w_setS, ↓qF_ins, ↓w_fld, ↓qSF_ins, ↓w_setF, ↓w_len_str, ↓w_len_lst, ↓w_len_tup, ↓qLen_lst, ↓qLen_dK, ↓w_len_loc, ↓w_max, ↓w_min, ↓w_int_int, ↓w_int_bl, ↓w_str_int, ↓qDc_dK, ↓w_dict, ↓w_tuple_lst, ↓w_tuple_tup, ↓w_tuple_loc, ↓w_list_lst, ↓w_list_tup, ↓w_iter_lst, ↓w_iter_tup, ↓w_iter_str, ↓w_iter_loc, ↓w_rng1, ↓w_rng2, ↓w_sl_str, ↓w_sl_tup, ↓w_sl_lst, ↓w_append, ↓w_lclear, ↓tyS_str, ↓tyL_lst, ↓qM_loc, ↓look1, ↓wC_set, ↓wC_setn, ↓wC_push2, ↓wC_pushn, ↓wE_yes, ↓wE_revL, ↓qO_lst, ↓w_all_lst, ↓w_join_lst, ↓isi_non_int, ↓isi_non_bool, ↓isi_non_str, ↓isi_non_tuple, ↓isi_non_list, ↓isi_non_dict, ↓isi_bl_int, ↓isi_bl_bool, ↓isi_bl_str, ↓isi_bl_tuple, ↓isi_bl_list, ↓isi_bl_dict, ↓isi_int_int, ↓isi_int_bool, ↓isi_int_str, ↓isi_int_tuple, ↓isi_int_list, ↓isi_int_dict, ↓isi_str_int, ↓isi_str_bool, ↓isi_str_str, ↓isi_str_tuple, ↓isi_str_list, ↓isi_str_dict, ↓isi_tup_int, ↓isi_tup_bool, ↓isi_tup_str, ↓isi_tup_tuple, ↓isi_tup_list, ↓isi_tup_dict, ↓isi_lst_int, ↓isi_lst_bool, ↓isi_lst_str, ↓isi_lst_tuple, ↓isi_lst_list, ↓isi_lst_dict, ↓hm_look_for, ↓hm_look_awake, ↓hm_next_turn, ↓hm_lie_down, ↓hm_rise, ↓hm_is_over, ↓hm_put, ↓hm_sleep, ↓hm_wake, ↓hm_move, ↓hm_tick, ↓hm_lateness, ↓hm_nudge, ↓hm_rank, ↓hm_number, ↓hm_line, ↓hm_line_at, ↓hm_order, ↓hm_asleep, ↓hm_sleeper, ↓hm_ending, ↓hm_standing, ↓hm_now, ↓hm_log, ↓hm_who, ↓hm_filled, ↓hm_twin, ↓hf_numbers, ↓hf_beds, ↓hf_ranks, ↓hf_endings, ↓hf_clock, ↓hf_turns, ↓hf_begun, ↓hf_entries, decide_eq_true_eq, beq_iff_eq, Bool.not_eq_true', Bool.not_eq_eq_eq_not, Bool.not_true, Bool.not_false, decide_eq_false_iff_not, beq_eq_false_iff_ne, ne_eq, true_and, and_true, if_true, if_false, ite_true, ite_false, reduceIte, Bool.false_eq_true, not_false_eq_true, not_true_eq_false, Int.reduceLT, Int.reduceLE, Int.reduceToNat, Nat.reduceLT, Nat.reduceLeDiff, Int.reducePow, Nat.reduceAdd, Int.reduceAdd, Int.reduceMul, Int.reduceSub, Int.reduceNeg, Nat.reducePow, Int.reduceEq, Nat.reduceEqDiff, List.length_cons, List.length_nil, PySem.sizeLine_eq, str_len_app, str_len_one, wipeD, List.set_cons_zero, List.set_cons_succ, $xs,*])
def HS.put (S : HS) (r : Str) (v : Int) : HS := { S with num := aput S.num r v, log := S.log ++ [.tup [.str "put", .str r, .int v]] }
theorem init_ok {c : Cl} {μ : Mem} {r : Nat} {num : List (Str × Int)} (hl : μ.lk = []) (hr : μ.cells[r]? = some (.dK (encS D.int num))) (hn : (num.map (·.1)).Nodup) :
    wR (m_n_Halldd_initdd c [.loc μ.cells.length, .loc r] (μ.push (.ins c.n_Hall []))) (fun d μ' => d = .non ∧ ∃ A : HA, A.a = μ.cells.length ∧ HallAt c μ' A { num := num } ∧ Fr [] μ μ' ∧ ∀ k ∈ foot A { num := num }, μ.cells.length ≤ k) noE := by
  unfold m_n_Halldd_initdd
  rw [w_run]
  show wS (t_n_Halldd_initdd c) [some (.loc μ.cells.length), some (.loc r)] (μ.push (.ins c.n_Hall [])) _
  unfold t_n_Halldd_initdd
  have hlr := at_lt hr
  simp_arith only [↓wC_of hr, pfh0, pfh1, pfh2, pfh3, pfh4, pfh5, pfh6, pfh7, len_push, len_set, set_push2, set_pushn, set_set, List.contains_cons, beq_self_eq_true, Bool.true_or, Bool.or_true]
  repeat refine And.intro (by (first | exact mulOk (by omega) (by omega) (by omega) (by omega) | exact divOk (by omega) (by omega) | exact powOk (by omega) (by omega) (by omega) (by omega) | exact strOk' (by omega) (by omega) | assumption | omega | decide)) ?_
  have q : ∀ k, μ.cells.length + k ≠ r := by omega
  refine ⟨⟨μ.cells.length, μ.cells.length + 1, μ.cells.length + 1 + 1, μ.cells.length + 1 + 1 + 1, μ.cells.length + 1 + 1 + 1 + 1, μ.cells.length + 1 + 1 + 1 + 1 + 1⟩, rfl, ⟨hl, ?_, ?_, ?_, ?_, ?_, ?_, ?_, fun p hp => (by cases hp), hn, List.nodup_nil, List.nodup_nil, List.nodup_nil⟩, ?_, ?_⟩
  · simp [foot, HA.list]; omega
  · exact at_push_of (at_push_of (at_push_of (at_push_of (at_push_of at_push))))
  · exact at_push_of (at_push_of (at_push_of (at_push_of (at_push2 (by simp only [len_push])))))
  · exact at_push_of (at_push_of (at_push_of (at_push2 (by simp only [len_push]))))
  · exact at_push_of (at_push_of (at_push2 (by simp only [len_push])))
  · exact at_push_of (at_push2 (by simp only [len_push]))
  · exact at_push2 (by simp only [len_push])
  · exact (Fr.push _ _ _).trans ((Fr.push [] _ _).trans ((Fr.push [] _ _).trans ((Fr.push [] _ _).trans ((Fr.push [] _ _).trans (Fr.push [] _ _)))))
  · intro k hk; simp [foot, HA.list] at hk; omega
end Doz
end
section
namespace Doz
open PySem L2
section
variable {δ : DEnv} {μ : Mem} {E : EP}
theorem wE_get1 (mo mk : ME) (Q : D → Mem → Prop) : wE (mget1 mo mk) δ μ Q E = wE mo δ μ (fun d μ1 => qO (dictOf μ1 d) fun _ => wE mk δ μ1 (fun k μ2 => qO (dfind μ2 d k) fun o => Q (o.getD .non) μ2) E) E := by
  unfold mget1
  rw [wE_bind]
  congr 1; funext d μ1
  show wR (match dictOf μ1 d with | some _ => _ | none => _) Q E = _
  cases dictOf μ1 d with
  | none => rfl
  | some kds =>
    show wR ((mk δ μ1).bind _) Q E = _
    rw [wR_bind]
    show _ = wR (mk δ μ1) _ E
    congr 1; funext k μ2
    cases dfind μ2 d k <;> rfl
theorem wE_get2 (mo mk mz : ME) (Q : D → Mem → Prop) : wE (mget2 mo mk mz) δ μ Q E = wE mo δ μ (fun d μ1 => qO (dictOf μ1 d) fun _ => wE mk δ μ1 (fun k μ2 => wE mz δ μ2 (fun z μ3 => qO (dfind μ3 d k) fun o => Q (o.getD z) μ3) E) E) E := by
  unfold mget2
  rw [wE_bind]
  congr 1; funext d μ1
  show wR (match dictOf μ1 d with | some _ => _ | none => _) Q E = _
  cases dictOf μ1 d with
  | none => rfl
  | some kds =>
    show wR ((mk δ μ1).bind _) Q E = _
    rw [wR_bind]
    show _ = wR (mk δ μ1) _ E
    congr 1; funext k μ2
    rw [wR_bind]
    show _ = wR (mz δ μ2) _ E
    congr 1; funext z μ3
    cases dfind μ3 d k <;> rfl
theorem wE_pop1 (mo mk : ME) (Q : D → Mem → Prop) : wE (mpop1 mo mk) δ μ Q E = wE mo δ μ (fun d μ1 => qO (dictOf μ1 d) fun _ => wE mk δ μ1 (fun k μ2 => qO (dcell μ2 d) fun nk => qO (keyOf k) fun key => qO (kget nk.2 key) fun v => Q v (μ2.set nk.1 (.dK (kdrop nk.2 key)))) E) E := by
  unfold mpop1
  rw [wE_bind]
  congr 1; funext d μ1
  show wR (match dictOf μ1 d with | some _ => _ | none => _) Q E = _
  cases dictOf μ1 d with
  | none => rfl
  | some kds =>
    show wR ((mk δ μ1).bind _) Q E = _
    rw [wR_bind]
    show _ = wR (mk δ μ1) _ E
    congr 1; funext k μ2
    cases dcell μ2 d with
    | none => rfl
    | some nk =>
      obtain ⟨n, kds⟩ := nk
      cases keyOf k with
      | none => rfl
      | some key =>
        dsimp only [qO]
        cases kget kds key <;> rfl
theorem qO_keyI (i : Int) (Q : Key → Prop) : qO (keyOf (.int i)) Q = Q (.inl i) := rfl
theorem qO_keyS (x : Str) (Q : Key → Prop) : qO (keyOf (.str x)) Q = Q (.inr x) := rfl
def qIns (c : Cell) (Q : Addr → List (Str × D) → Prop) : Prop := match c with
  | .ins C fs => Q C fs
  | _ => False
theorem qIns_ins (C : Addr) (fs : List (Str × D)) (Q : Addr → List (Str × D) → Prop) : qIns (.ins C fs) Q = Q C fs := rfl
theorem wS_faug {P : Po} (g : Int → Int → Int) (f : Str) (mo me : ME) : wS (mfaug g f mo me) δ μ P = wE mo δ μ (fun d μ1 => qL d fun n => wC μ1 n fun c => qIns c fun C fs => qO (fs.lookup f) fun v => qI v fun i =>
    wE me δ μ1 (fun y μ2 => wC μ2 n fun c' => qIns c' fun C' fs' => qI y fun j => (C' = C ∧ (fs'.lookup f).isSome = true ∧ fs'.length < 1000) ∧ P.nx δ (μ2.set n (.ins C' (putFD f (.int (g i j)) fs')))) (fun C w μ2 => P.er C w δ μ2)) (fun C w μ1 => P.er C w δ μ1) := by
  unfold mfaug
  rw [wS_ofE]
  congr 1; funext d μ1
  unfold wS
  cases d with
  | loc n =>
    show wP (match insAt μ1 (.loc n) with | some (_, C, fs) => _ | none => _) P = wC μ1 n _
    unfold insAt wC
    dsimp only
    cases μ1.cells[n]? with
    | none => rfl
    | some c =>
      cases c with
      | ins C fs =>
        dsimp only [qIns]
        cases fs.lookup f with
        | none => rfl
        | some v =>
          cases v with
          | int i =>
            dsimp only [qO, qI]
            show wS (ofE me _) δ μ1 P = _
            rw [wS_ofE]
            congr 1; funext y μ2
            show wP (match insAt μ2 (.loc n), y with | some (n, C', fs'), .int j => _ | _, _ => _) P = _
            unfold insAt
            dsimp only
            cases μ2.cells[n]? with
            | none => rfl
            | some c' =>
              cases c' with
              | ins C' fs' =>
                cases y with
                | int j => dsimp only; rw [wP_ite]; rfl
                | _ => rfl
              | _ => rfl
          | _ => rfl
      | _ => rfl
  | _ => rfl
theorem wE_disp (ps : MP) (Q : D → Mem → Prop) : wE (mdisp ps) δ μ Q E = wE (mpairs ps) δ μ (fun kvs μ1 => qO (keysOf kvs) fun kds => kds.length ≤ 15 ∧ Q (.loc μ1.cells.length) (μ1.push (.dK (kmerge [] kds)))) E := by
  unfold mdisp
  rw [wE_bind]
  congr 1; funext kvs μ1
  show wR (match keysOf kvs with | some kds => _ | none => _) Q E = _
  cases keysOf kvs with
  | none => rfl
  | some kds => dsimp only [qO]; rw [wR_ite]; rfl
theorem wE_pairs0 (Q : List (D × D) → Mem → Prop) : wE (mpairs []) δ μ Q E = Q [] μ := rfl
theorem wE_pairsC (mk mv : ME) (r : MP) (Q : List (D × D) → Mem → Prop) : wE (mpairs ((mk, mv) :: r)) δ μ Q E = wE mk δ μ (fun k μ1 => wE mv δ μ1 (fun v μ2 => wE (mpairs r) δ μ2 (fun ps μ3 => Q ((k, v) :: ps) μ3) E) E) E := by
  show wE (bindM mk fun k => bindM mv fun v => bindM (mpairs r) fun ps => fun _ μ => .ok ((k, v) :: ps) μ) δ μ Q E = _
  rw [wE_bind]; congr 1; funext k μ1; rw [wE_bind]; congr 1; funext v μ2; rw [wE_bind]; rfl
theorem keysOf0 (Q : List (Key × D) → Prop) : qO (keysOf []) Q = Q [] := rfl
theorem keysOfS (x : Str) (v : D) (r : List (D × D)) (Q : List (Key × D) → Prop) : qO (keysOf ((.str x, v) :: r)) Q = qO (keysOf r) fun ks => Q ((.inr x, v) :: ks) := by
  show qO (match keyOf (.str x), keysOf r with | some k, some ks => _ | _, _ => _) Q = _
  cases keysOf r <;> rfl
theorem keysOfI (i : Int) (v : D) (r : List (D × D)) (Q : List (Key × D) → Prop) : qO (keysOf ((.int i, v) :: r)) Q = qO (keysOf r) fun ks => Q ((.inl i, v) :: ks) := by
  show qO (match keyOf (.int i), keysOf r with | some k, some ks => _ | _, _ => _) Q = _
  cases keysOf r <;> rfl
theorem wE_keys (m : ME) (Q : Its0 → Mem → Prop) : wE (mkeys m) δ μ Q E = wE m δ μ (fun d μ1 => qL d fun n => wC μ1 n fun c => qDc c fun kds => μ1.lkd n = true ∧ Q (kds.map fun k => keyD k.1, fun _ => true) μ1) E := by
  unfold mkeys
  rw [wE_bind]
  congr 1; funext d μ1
  cases d with
  | loc n =>
    show wR (match μ1.cells[n]? with | some (.dK kds) => _ | _ => _) Q E = wC μ1 n _
    unfold wC
    cases μ1.cells[n]? with
    | none => rfl
    | some c =>
      cases c with
      | dK kds => dsimp only [qDc]; rw [wR_ite]; rfl
      | _ => rfl
  | _ => rfl
theorem wE_sliceN (a : ME) (l u : MX (Option Int)) (Q : List D → Mem → Prop) : wE (msliceN a l u) δ μ Q E = wE a δ μ (fun x μ1 => wE l δ μ1 (fun lo μ2 => wE u δ μ2 (fun hi μ3 => qO (lstOf μ3 x) fun ds => Q (cutD ds lo hi) μ3) E) E) E := by
  unfold msliceN
  rw [wE_bind]; congr 1; funext x μ1; rw [wE_bind]; congr 1; funext lo μ2; rw [wE_bind]; congr 1; funext hi μ3
  show wR (match lstOf μ3 x with | some ds => _ | none => _) Q E = _
  cases lstOf μ3 x <;> rfl
def sortK (nm : Str) (T : Addr → Option MF) (xs d : D) (μ : Mem) : Res (List D) := match lstOf μ xs, insOf μ d with
  | some ds, some (C, fs) => if noFld fs nm = true then match T C with
      | some m => match ds.mapM (keyL m d μ) with
        | some ks => match ks.mapM (rsv μ 8) with
          | some ps => if keysOk ps = true then .ok (sortBy (ds.zip ps)) μ else .bad
          | none => .bad
        | none => .bad
      | none => .bad
    else .bad
  | _, _ => .bad
theorem wE_sortK (nm : Str) (T : Addr → Option MF) (me mo : ME) (Q : List D → Mem → Prop) : wE (msortK nm T me mo) δ μ Q E = wE me δ μ (fun xs μ1 => wE mo δ μ1 (fun d μ2 => wR (sortK nm T xs d μ2) Q E) E) E := by
  unfold msortK
  rw [wE_bind]; congr 1; funext x μ1; rw [wE_bind]; rfl
end
def le2 (p q : Int × Int) : Bool := decide (p.1 < q.1 ∨ (p.1 = q.1 ∧ p.2 ≤ q.2))
end Doz
end
section
namespace Doz
open PySem L2
section
variable (b : BedS) (Q : D → Prop)
theorem hb_place : qO ((bedF b).lookup ("place" : Str)) Q = Q (.str b.place) := by kernel_rfl
theorem hb_turn : qO ((bedF b).lookup ("turn" : Str)) Q = Q (.int b.turn) := by kernel_rfl
theorem hb_since : qO ((bedF b).lookup ("since" : Str)) Q = Q (.int b.since) := by kernel_rfl
theorem hb_until : qO ((bedF b).lookup ("until" : Str)) Q = Q (oI b.until_) := by kernel_rfl
theorem hb_mask : qO ((bedF b).lookup ("mask" : Str)) Q = Q (.int b.mask) := by kernel_rfl
end
def bedKeys : List Str := ["place", "turn", "since", "until", "mask"]
theorem bed_nofld (b : BedS) (nm : Str) (k : (bedKeys.all fun x => !(x == nm)) = true) : noFld (bedF b) nm = true := noFld_of bedKeys rfl k
section
variable (C : Addr) (b : BedS) (T : Addr → Option MM) (K : MM → Prop)
theorem hbm_meets : qMc (.ins C (bedF b)) "meets" T K = qO (T C) K := qMc_ins (bed_nofld b _ (by decide +kernel))
theorem hbm_is_over : qMc (.ins C (bedF b)) "is_over" T K = qO (T C) K := qMc_ins (bed_nofld b _ (by decide +kernel))
theorem hbm_twin : qMc (.ins C (bedF b)) "twin" T K = qO (T C) K := qMc_ins (bed_nofld b _ (by decide +kernel))
end
section
variable (A : HA) (S : HS) (v : Int)
end
theorem pfb0 (v : D) : putFD "place" v [] = [(("place" : Str), v)] := by kernel_rfl
theorem pfb1 (x0 v : D) : putFD "turn" v [(("place" : Str), x0)] = [(("place" : Str), x0), (("turn" : Str), v)] := by kernel_rfl
theorem pfb2 (x0 x1 v : D) : putFD "since" v [(("place" : Str), x0), (("turn" : Str), x1)] = [(("place" : Str), x0), (("turn" : Str), x1), (("since" : Str), v)] := by kernel_rfl
theorem pfb3 (x0 x1 x2 v : D) : putFD "until" v [(("place" : Str), x0), (("turn" : Str), x1), (("since" : Str), x2)] = [(("place" : Str), x0), (("turn" : Str), x1), (("since" : Str), x2), (("until" : Str), v)] := by kernel_rfl
theorem HallTo.refl {c : Cl} {μ : Mem} {A : HA} {S : HS} (h : HallAt c μ A S) : HallTo c μ A S μ S := ⟨h, Fr.refl _ _, fun _ hk => .inl hk⟩
theorem HallTo.trans {c : Cl} {μ μ1 μ2 : Mem} {A : HA} {S S1 S2 : HS} (a : HallTo c μ A S μ1 S1) (b : HallTo c μ1 A S1 μ2 S2) : HallTo c μ A S μ2 S2 :=
  ⟨b.h, a.f.trans b.f (fun k hk hl => (a.new k hk).resolve_right (by omega)), fun k hk => (b.new k hk).elim (a.new k) fun h => .inr (Nat.le_trans a.f.le h)⟩
theorem HallTo.fr {c : Cl} {μ μ1 μ2 : Mem} {A : HA} {S S1 : HS} (a : HallTo c μ A S μ1 S1) {F : List Nat} (b : Fr F μ1 μ2) (hd : ∀ k ∈ F, k ∉ foot A S1 ∧ μ.cells.length ≤ k) : HallTo c μ A S μ2 S1 :=
  ⟨a.h.fr b fun k hk hf => (hd k hf).1 hk, a.f.trans b fun k hk hl => by have := (hd k hk).2; omega, a.new⟩
section
variable {c : Cl} {μ : Mem} {A : HA} {S : HS}
local macro_rules | `(tactic| simp_arith only [$xs,*]) => `(tactic| simp -failIfUnchanged -implicitDefEqProofs (disch := (first | (simp only [Doz.len_push, Doz.len_set]; omega) | omega | assumption)) only [↓wR_ok, ↓wR_err, ↓wE_var0, ↓wE_varS, ↓wE_C, ↓wE_op, ↓wE_cmp, ↓wE_bl, ↓qB_bl, ↓wE_asB, ↓wE_and, ↓wE_or, ↓wE_not, ↓wE_andV, ↓wE_orV, ↓wE_notV, ↓wE_if, ↓wE_nil, ↓wE_cons, ↓wE_fz, ↓wE_lc, ↓wE_tup, ↓wE_lst, ↓wE_call, ↓wE_nopart, ↓qI_int, ↓wE_part, ↓wE_slice, ↓wE_fld, ↓wE_dnew, ↓wE_iter, ↓wE_rev, ↓wE_pos, ↓wE_kws, ↓wE_noa, ↓wE_both, ↓wE_fn, ↓wE_mth, ↓qN_non, ↓wE_mk, ↓wE_meth, ↓wE_neg, ↓wE_chain, ↓wE_comp, ↓wS_nx, ↓wS_bk, ↓wS_ct, ↓wS_seq, ↓wS_drop, ↓wS_ret, ↓wS_retN, ↓wS_if, ↓wS_asg, ↓qL_loc, ↓qCl_lst, ↓wS_retFz, ↓wS_raise, ↓wS_for, ↓wS_try, ↓wG_set0, ↓wG_setS, ↓wG_then, ↓wG_sub, ↓wG_fld, ↓qT_tup, ↓wG_tup, ↓wGs_nil, ↓wGs_cons, ↓endB_nx, ↓endB_rt, ↓endB_er, ↓endB_bk, ↓endB_ct, ↓loopP_nx, ↓loopP_ct, ↓loopP_bk, ↓loopP_rt, ↓loopP_er, ↓qO_some, ↓qO_at0, ↓qO_at1, ↓qO_at2, ↓qO_at3, ↓qO_at4, ↓qO_at5, ↓w_add_int, ↓w_add_str, ↓w_add_tup, ↓w_add_lst, ↓w_sub, ↓w_mod, ↓w_div, ↓w_mul, ↓w_pow, ↓w_band, ↓w_lt, ↓w_le, ↓w_gt, ↓w_ge, ↓w_is, ↓w_isNot, ↓nonN, ↓nonI, ↓nonS, ↓nonT, ↓nonL, ↓nonLoc, ↓w_eq_int, ↓w_ne_int, ↓w_eq_str, ↓w_ne_str, ↓qIx_lst, ↓qIx_dK, ↓qIxS_dK, ↓w_ix_loc, ↓w_ix_locS, ↓w_ix_lst, ↓w_ix_tup, ↓w_ix_str, ↓qLS_0, ↓qLS_1, ↓qLS_2, ↓qLS_3, ↓qSet_lst, ↓qSet_dK, ↓qSetS_dK, ↓w_setI, ↓w_setS, ↓qF_ins, ↓w_fld, ↓qSF_ins, ↓w_setF, ↓w_len_str, ↓w_len_lst, ↓w_len_tup, ↓qLen_lst, ↓qLen_dK, ↓w_len_loc, ↓w_max, ↓w_min, ↓w_int_int, ↓w_int_bl, ↓w_str_int, ↓qDc_dK, ↓w_dict, ↓w_tuple_lst, ↓w_tuple_tup, ↓w_tuple_loc, ↓w_list_lst, ↓w_list_tup, ↓w_iter_lst, ↓w_iter_tup, ↓w_iter_str, ↓w_iter_loc, ↓w_rng1, ↓w_rng2, ↓w_sl_str, ↓w_sl_tup, ↓w_sl_lst, ↓w_append, ↓w_lclear, ↓tyS_str, ↓tyL_lst, ↓qM_loc, ↓look1, ↓wC_set, ↓wC_setn, ↓wC_push2, ↓wC_pushn, ↓wE_yes, ↓wE_revL, ↓qO_lst, ↓w_all_lst, ↓w_join_lst, ↓wE_get1, ↓wE_get2, ↓wE_pop1, ↓qO_keyI, ↓qO_keyS, ↓qIns_ins, ↓wS_faug, ↓wE_disp, ↓wE_pairs0, ↓wE_pairsC, ↓keysOf0, ↓keysOfS, ↓keysOfI, ↓wE_keys, ↓wE_sliceN, ↓wE_sortK, ↓hb_place, ↓hb_turn, ↓hb_since, ↓hb_until, ↓hb_mask, ↓hbm_meets, ↓hbm_is_over, ↓hbm_twin, ↓isi_non_int, ↓isi_non_bool, ↓isi_non_str, ↓isi_non_tuple, ↓isi_non_list, ↓isi_non_dict, ↓isi_bl_int, ↓isi_bl_bool, ↓isi_bl_str, ↓isi_bl_tuple, ↓isi_bl_list, ↓isi_bl_dict, ↓isi_int_int, ↓isi_int_bool, ↓isi_int_str, ↓isi_int_tuple, ↓isi_int_list, ↓isi_int_dict, ↓isi_str_int, ↓isi_str_bool, ↓isi_str_str, ↓isi_str_tuple, ↓isi_str_list, ↓isi_str_dict, ↓isi_tup_int, ↓isi_tup_bool, ↓isi_tup_str, ↓isi_tup_tuple, ↓isi_tup_list, ↓isi_tup_dict, ↓isi_lst_int, ↓isi_lst_bool, ↓isi_lst_str, ↓isi_lst_tuple, ↓isi_lst_list, ↓isi_lst_dict, ↓hm_look_for, ↓hm_look_awake, ↓hm_next_turn, ↓hm_lie_down, ↓hm_rise, ↓hm_is_over, ↓hm_put, ↓hm_sleep, ↓hm_wake, ↓hm_move, ↓hm_tick, ↓hm_lateness, ↓hm_nudge, ↓hm_rank, ↓hm_number, ↓hm_line, ↓hm_line_at, ↓hm_order, ↓hm_asleep, ↓hm_sleeper, ↓hm_ending, ↓hm_standing, ↓hm_now, ↓hm_log, ↓hm_who, ↓hm_filled, ↓hm_twin, ↓hf_numbers, ↓hf_beds, ↓hf_ranks, ↓hf_endings, ↓hf_clock, ↓hf_turns, ↓hf_begun, ↓hf_entries, decide_eq_true_eq, beq_iff_eq, Bool.not_eq_true', Bool.not_eq_eq_eq_not, Bool.not_true, Bool.not_false, decide_eq_false_iff_not, beq_eq_false_iff_ne, ne_eq, true_and, and_true, if_true, if_false, ite_true, ite_false, reduceIte, Bool.false_eq_true, not_false_eq_true, not_true_eq_false, Int.reduceLT, Int.reduceLE, Int.reduceToNat, Nat.reduceLT, Nat.reduceLeDiff, Int.reducePow, Nat.reduceAdd, Int.reduceAdd, Int.reduceMul, Int.reduceSub, Int.reduceNeg, Nat.reducePow, Int.reduceEq, Nat.reduceEqDiff, List.length_cons, List.length_nil, PySem.sizeLine_eq, str_len_app, str_len_one, wipeD, List.set_cons_zero, List.set_cons_succ, $xs,*])
def overAt (u : Option Int) (t : Int) : Bool := match u with
  | none => false
  | some x => decide (x ≤ t)
def HS.lie (S : HS) (n : Nat) (g : Int) (r : Str) (u : Option Int) (m : Int) : HS := { S with beds := S.beds ++ [(g, ⟨n, r, S.turns + 1, S.begun + 1, u, m⟩)], turns := S.turns + 1, begun := S.begun + 1 }
end
end Doz
end
section
open PySem L2 Doz
local macro_rules | `(tactic| simp_arith only [$xs,*]) => `(tactic| simp -failIfUnchanged -implicitDefEqProofs (disch := (first | (simp only [Doz.len_push, Doz.len_set]; omega) | omega | assumption)) only [↓wR_ok, ↓wR_err, ↓wE_var0, ↓wE_varS, ↓wE_C, ↓wE_op, ↓wE_cmp, ↓wE_bl, ↓qB_bl, ↓wE_asB, ↓wE_and, ↓wE_or, ↓wE_not, ↓wE_andV, ↓wE_orV, ↓wE_notV, ↓wE_if, ↓wE_nil, ↓wE_cons, ↓wE_fz, ↓wE_lc, ↓wE_tup, ↓wE_lst, ↓wE_call, ↓wE_nopart, ↓qI_int, ↓wE_part, ↓wE_slice, ↓wE_fld, ↓wE_dnew, ↓wE_iter, ↓wE_rev, ↓wE_pos, ↓wE_kws, ↓wE_noa, ↓wE_both, ↓wE_fn, ↓wE_mth, ↓qN_non, ↓wE_mk, ↓wE_meth, ↓wE_neg, ↓wE_chain, ↓wE_comp, ↓wS_nx, ↓wS_bk, ↓wS_ct, ↓wS_seq, ↓wS_drop, ↓wS_ret, ↓wS_retN, ↓wS_if, ↓wS_asg, ↓qL_loc, ↓qCl_lst, ↓wS_retFz, ↓wS_raise, ↓wS_for, ↓wS_try, ↓wG_set0, ↓wG_setS, ↓wG_then, ↓wG_sub, ↓wG_fld, ↓qT_tup, ↓wG_tup, ↓wGs_nil, ↓wGs_cons, ↓endB_nx, ↓endB_rt, ↓endB_er, ↓endB_bk, ↓endB_ct, ↓loopP_nx, ↓loopP_ct, ↓loopP_bk, ↓loopP_rt, ↓loopP_er, ↓qO_some, ↓qO_at0, ↓qO_at1, ↓qO_at2, ↓qO_at3, ↓qO_at4, ↓qO_at5, ↓w_add_int, ↓w_add_str, ↓w_add_tup, ↓w_add_lst, ↓w_sub, ↓w_mod, ↓w_div, ↓w_mul, ↓w_pow, ↓w_band, ↓w_lt, ↓w_le, ↓w_gt, ↓w_ge, ↓w_is, ↓w_isNot, ↓nonN, ↓nonI, ↓nonS, ↓nonT, ↓nonL, ↓nonLoc, ↓w_eq_int, ↓w_ne_int, ↓w_eq_str, ↓w_ne_str, ↓qIx_lst, ↓qIx_dK, ↓qIxS_dK, ↓w_ix_loc, ↓w_ix_locS, ↓w_ix_lst, ↓w_ix_tup, ↓w_ix_str, ↓qLS_0, ↓qLS_1, ↓qLS_2, ↓qLS_3, ↓qSet_lst, ↓qSet_dK, ↓qSetS_dK, ↓w_setI, ↓w_setS, ↓qF_ins, ↓w_fld, ↓qSF_ins, ↓w_setF, ↓w_len_str, ↓w_len_lst, ↓w_len_tup, ↓qLen_lst, ↓qLen_dK, ↓w_len_loc, ↓w_max, ↓w_min, ↓w_int_int, ↓w_int_bl, ↓w_str_int, ↓qDc_dK, ↓w_dict, ↓w_tuple_lst, ↓w_tuple_tup, ↓w_tuple_loc, ↓w_list_lst, ↓w_list_tup, ↓w_iter_lst, ↓w_iter_tup, ↓w_iter_str, ↓w_iter_loc, ↓w_rng1, ↓w_rng2, ↓w_sl_str, ↓w_sl_tup, ↓w_sl_lst, ↓w_append, ↓w_lclear, ↓tyS_str, ↓tyL_lst, ↓qM_loc, ↓look1, ↓wC_set, ↓wC_setn, ↓wC_push2, ↓wC_pushn, ↓wE_yes, ↓wE_revL, ↓qO_lst, ↓w_all_lst, ↓w_join_lst, ↓wE_get1, ↓wE_get2, ↓wE_pop1, ↓qO_keyI, ↓qO_keyS, ↓qIns_ins, ↓wS_faug, ↓wE_disp, ↓wE_pairs0, ↓wE_pairsC, ↓keysOf0, ↓keysOfS, ↓keysOfI, ↓wE_keys, ↓wE_sliceN, ↓wE_sortK, ↓hb_place, ↓hb_turn, ↓hb_since, ↓hb_until, ↓hb_mask, ↓hbm_meets, ↓hbm_is_over, ↓hbm_twin, ↓isi_non_int, ↓isi_non_bool, ↓isi_non_str, ↓isi_non_tuple, ↓isi_non_list, ↓isi_non_dict, ↓isi_bl_int, ↓isi_bl_bool, ↓isi_bl_str, ↓isi_bl_tuple, ↓isi_bl_list, ↓isi_bl_dict, ↓isi_int_int, ↓isi_int_bool, ↓isi_int_str, ↓isi_int_tuple, ↓isi_int_list, ↓isi_int_dict, ↓isi_str_int, ↓isi_str_bool, ↓isi_str_str, ↓isi_str_tuple, ↓isi_str_list, ↓isi_str_dict, ↓isi_tup_int, ↓isi_tup_bool, ↓isi_tup_str, ↓isi_tup_tuple, ↓isi_tup_list, ↓isi_tup_dict, ↓isi_lst_int, ↓isi_lst_bool, ↓isi_lst_str, ↓isi_lst_tuple, ↓isi_lst_list, ↓isi_lst_dict, ↓hm_look_for, ↓hm_look_awake, ↓hm_next_turn, ↓hm_lie_down, ↓hm_rise, ↓hm_is_over, ↓hm_put, ↓hm_sleep, ↓hm_wake, ↓hm_move, ↓hm_tick, ↓hm_lateness, ↓hm_nudge, ↓hm_rank, ↓hm_number, ↓hm_line, ↓hm_line_at, ↓hm_order, ↓hm_asleep, ↓hm_sleeper, ↓hm_ending, ↓hm_standing, ↓hm_now, ↓hm_log, ↓hm_who, ↓hm_filled, ↓hm_twin, ↓hf_numbers, ↓hf_beds, ↓hf_ranks, ↓hf_endings, ↓hf_clock, ↓hf_turns, ↓hf_begun, ↓hf_entries, decide_eq_true_eq, beq_iff_eq, Bool.not_eq_true', Bool.not_eq_eq_eq_not, Bool.not_true, Bool.not_false, decide_eq_false_iff_not, beq_eq_false_iff_ne, ne_eq, true_and, and_true, if_true, if_false, ite_true, ite_false, reduceIte, Bool.false_eq_true, not_false_eq_true, not_true_eq_false, Int.reduceLT, Int.reduceLE, Int.reduceToNat, Nat.reduceLT, Nat.reduceLeDiff, Int.reducePow, Nat.reduceAdd, Int.reduceAdd, Int.reduceMul, Int.reduceSub, Int.reduceNeg, Nat.reducePow, Int.reduceEq, Nat.reduceEqDiff, List.length_cons, List.length_nil, PySem.sizeLine_eq, str_len_app, str_len_one, wipeD, List.set_cons_zero, List.set_cons_succ, $xs,*])
section
namespace Doz
open PySem L2
section
variable {c : Cl} {μ : Mem} {A : HA} {S : HS}
def HS.noted (S : HS) (g : Int) (a : Str) : HS := { S with ends := aput S.ends g a }
def HS.logged (S : HS) (d : D) : HS := { S with log := S.log ++ [d] }
def HS.sleepA (S : HS) (r : Str) (s : Int) (u : Option Int) : Str := if (aget S.num r).getD 0 = s then (if overAt u S.clock = true then "past" else "asleep") else "changed"
def HS.sleep (S : HS) (n : Nat) (g : Int) (r : Str) (s : Int) (u : Option Int) (m : Int) : HS :=
  ((if S.sleepA r s u = "asleep" then S.lie n g r u m else S).noted g (S.sleepA r s u)).logged (.tup [.str "sleep", .int g, .str r, .int s, oI u, .int m, .str (S.sleepA r s u)])
def HS.rise (S : HS) (g : Int) (a : Str) : HS := { S with beds := adrop S.beds g, ends := aput S.ends g a }
def HS.key (S : HS) (p : Int × BedS) : Int × Int := (0 - (aget S.ranks p.1).getD 0, p.2.turn)
def HS.lineB (S : HS) (r : Str) : List (Int × BedS) := (S.beds.filter fun p => p.2.place == r).mergeSort fun p q => le2 (S.key p) (S.key q)
def HS.line (S : HS) (r : Str) : List Int := (S.lineB r).map (·.1)
def meetsB (m : Int) (p : Int × BedS) : Bool := !(Builtin.bitAnd p.2.mask m == 0)
def HS.wakeL (S : HS) (r : Str) (k m : Int) : List (Int × BedS) := ((S.lineB r).filter (meetsB m)).take k.toNat
def HS.rises (S : HS) (gs : List Int) (a : Str) : HS := gs.foldl (fun S g => S.rise g a) S
def HS.wake (S : HS) (r : Str) (k m : Int) : HS := (S.rises ((S.wakeL r k m).map (·.1)) "woken").logged (.tup [.str "wake", .str r, .int k, .int m, .tup ((S.wakeL r k m).map fun p => D.int p.1)])
theorem cutD_to {α : Type} (xs : List α) {k : Int} (hk : 0 ≤ k) : cutD xs none (some k) = xs.take k.toNat := by
  unfold cutD
  obtain ⟨n, rfl⟩ := Int.eq_ofNat_of_zero_le hk
  show (xs.drop 0).take (HT.sIx xs.length xs.length (some (n : Int)) - 0) = _
  rw [HT.sIx_nat, List.drop_zero, Nat.sub_zero, Int.toNat_natCast]
  rcases Nat.le_total n xs.length with h | h
  · rw [Nat.min_eq_left h]
  · rw [Nat.min_eq_right h, List.take_of_length_le h, List.take_of_length_le (Nat.le_refl _)]
theorem sames_refl' (ds : List D) (n : Nat) (h : μ.cells[n]? = some (.lst ds)) : lstIs (.loc n) ds μ = true := by
  unfold lstIs lstOf; dsimp only; rw [h]; exact D.sames_refl ds
end
end Doz
end
section
namespace Doz
open PySem L2
theorem w_eq_rs {μ : Mem} {d e p q : D} (hd : dcell μ d = none) (h1 : rsv μ 8 d = some p) (h2 : rsv μ 8 e = some q) (f1 : p.fits = true) (f2 : q.fits = true) (Q : Bool → Mem → Prop) (E : EP) : wR (cEqA d e μ) Q E = Q (D.eqv p q) μ := by
  refine propext ⟨fun h => ?_, fun h => w_eq_of (.inl hd) h1 h2 f1 f2 E Q h⟩
  obtain ⟨b, μ', e1, e2, rfl⟩ := wR.of (w_eq_of (μ := μ) (.inl hd) h1 h2 f1 f2 noE (fun b μ' => b = D.eqv p q ∧ μ' = μ) ⟨rfl, rfl⟩)
  subst e2
  rw [e1] at h; exact h
theorem w_ne_rs {μ : Mem} {d e p q : D} (hd : dcell μ d = none) (h1 : rsv μ 8 d = some p) (h2 : rsv μ 8 e = some q) (f1 : p.fits = true) (f2 : q.fits = true) (Q : Bool → Mem → Prop) (E : EP) : wR (cNeA d e μ) Q E = Q (!(D.eqv p q)) μ := by
  unfold cNeA; rw [wR_bind, w_eq_rs hd h1 h2 f1 f2]; rfl
theorem rsv_loc {μ : Mem} {n : Nat} {ds : List D} (h : μ.cells[n]? = some (.lst ds)) (hn : nice 8 (.lst ds) = true) : rsv μ 8 (.loc n) = some (.lst ds) := by
  have := rsv_nice μ 8 (.lst ds) hn
  show (match μ.cells[n]? with | some (.lst ds) => (ds.mapM (rsv μ 7)).map D.lst | _ => none) = _
  rw [h]; exact this
theorem dcell_lst {μ : Mem} {n : Nat} {ds : List D} (h : μ.cells[n]? = some (.lst ds)) : dcell μ (.loc n) = none := by unfold dcell; dsimp only; rw [h]
theorem w_eq_loc {μ : Mem} {n : Nat} {ds : List D} {e : D} (h : μ.cells[n]? = some (.lst ds)) (hn : nice 8 (.lst ds) = true) (he : nice 8 e = true) (Q : Bool → Mem → Prop) (E : EP) : wR (cEqA (.loc n) e μ) Q E = Q (D.eqv (.lst ds) e) μ :=
  w_eq_rs (dcell_lst h) (rsv_loc h hn) (rsv_nice μ 8 e he) (fits_nice hn (by decide)) (fits_nice he (by decide)) Q E
theorem nice_map {α : Type} {f : α → D} (h : ∀ a, nice 7 (f a) = true) (xs : List α) : nice 8 (.lst (xs.map f)) = true := by
  show (xs.map f).all (nice 7) = true
  rw [List.all_map, List.all_eq_true]; exact fun a _ => h a
theorem nice_ints (xs : List Int) : nice 8 (.lst (xs.map D.int)) = true := nice_map (fun _ => rfl) xs
structure Calm (S : HS) : Prop where
  r : S.ranks = []
  o : S.beds.Pairwise fun p q => p.2.turn < q.2.turn
  t : ∀ p ∈ S.beds, p.2.turn ≤ S.turns
theorem Calm.line {S : HS} (h : Calm S) (r : Str) : S.lineB r = S.beds.filter fun p => p.2.place == r := by
  unfold HS.lineB
  refine List.mergeSort_of_pairwise ((h.o.sublist List.filter_sublist).imp fun {p q} hpq => ?_)
  simp [le2, HS.key, h.r, aget_nil]; omega
theorem Calm.lie {S : HS} (h : Calm S) (n : Nat) (g : Int) (r : Str) (u : Option Int) (m : Int) : Calm (S.lie n g r u m) := by
  refine ⟨h.r, ?_, ?_⟩
  · show (S.beds ++ [_]).Pairwise _
    rw [List.pairwise_append]
    exact ⟨h.o, by simp, fun p hp q hq => by simp at hq; subst hq; have := h.t p hp; simp; omega⟩
  · intro p hp
    rcases List.mem_append.mp (show p ∈ S.beds ++ [_] from hp) with hp | hp
    · have := h.t p hp; simp [HS.lie]; omega
    · simp at hp; subst hp; simp [HS.lie]
theorem Calm.sub {S S' : HS} (h : Calm S) (h1 : S'.ranks = S.ranks) (h2 : List.Sublist S'.beds S.beds) (h3 : S'.turns = S.turns) : Calm S' :=
  ⟨h1.trans h.r, h.o.sublist h2, fun p hp => by rw [h3]; exact h.t p (h2.subset hp)⟩
end Doz
end
section
namespace Doz
open PySem L2
theorem lstOf_loc {μ : Mem} {n : Nat} {ds : List D} (h : μ.cells[n]? = some (.lst ds)) : lstOf μ (.loc n) = some ds := by unfold lstOf; dsimp only; rw [h]
section
variable {c : Cl} {μ : Mem} {A : HA} {S : HS}
def HS.rank (S : HS) (g r : Int) : HS := ({ S with ranks := aput S.ranks g r } : HS).logged (.tup [.str "rank", .int g, .int r])
def lateKey (p : Int × BedS) : Int × Int := (p.2.until_.getD 0, p.2.since)
def HS.lateB (S : HS) (t : Int) : List (Int × BedS) := (S.beds.filter fun p => overAt p.2.until_ t).mergeSort fun p q => le2 (lateKey p) (lateKey q)
def HS.tick (S : HS) (y : Int) : HS := (({ S with clock := S.clock + y } : HS).rises ((S.lateB (S.clock + y)).map (·.1)) "late").logged (.tup [.str "tick", .int y, .tup ((S.lateB (S.clock + y)).map fun p => D.int p.1)])
end
end Doz
end
section
namespace Doz
open PySem L2
section
variable {c : Cl} {μ : Mem} {A : HA} {S : HS}
def HS.nudge (S : HS) (g : Int) : HS := (S.rise g "nudged").logged (.tup [.str "nudge", .int g])
end
end Doz
end
section
namespace Doz
open PySem L2
end Doz
end
section
namespace Doz
open PySem L2
end Doz
end
section
namespace Doz
open PySem L2
section
variable {δ : DEnv} {μ : Mem} {E : EP}
theorem wE_chainV (c c' : D → D → Mem → Res Bool) (a b z : ME) (Q : D → Mem → Prop) : wE (mchainV c c' a b z) δ μ Q E = wE a δ μ (fun x μ1 => wE b δ μ1 (fun y μ2 => wR (c x y μ2) (fun k μ3 => if k = true then wE z δ μ3 (fun w μ4 => wR (c' y w μ4) (fun b μ5 => Q (.bl b) μ5) E) E else Q (.bl false) μ3) E) E) E := by
  unfold mchainV; rw [wE_bind]; congr; funext x μ1; rw [wE_bind]; congr; funext y μ2
  show wR (Res.bind _ _) _ _ = _
  rw [wR_bind]; congr; funext k μ3
  cases k with
  | true => show wR (Res.bind _ _) _ _ = _; rw [wR_bind]; show wR _ _ _ = wR _ _ _; congr; funext w μ4; rw [wR_bind]; rfl
  | false => rfl
theorem wS_aug {P : Po} (g : Int → Int → Int) (i : Nat) (me : ME) : wS (maug g i me) δ μ P = wE (mvar i) δ μ (fun x _ => qI x fun x => wE me δ μ (fun y μ1 => qI y fun y => wG (gset i) (.int (g x y)) δ μ1 P.nx noE) (fun C w μ1 => P.er C w δ μ1)) noE := by
  unfold maug wE mvar wS
  dsimp only
  cases δ[i]? with
  | none => rfl
  | some o =>
    cases o with
    | none => rfl
    | some d =>
      cases d with
      | int x =>
        refine (wS_ofE (P := P) δ μ me _).trans ?_
        show wE me δ μ _ _ = wE me δ μ (fun y μ1 => qI y fun y => wG (gset i) (.int (g x y)) δ μ1 P.nx noE) (fun C w μ1 => P.er C w δ μ1)
        congr; funext y μ1
        cases y <;> rfl
      | _ => rfl
theorem index_at {ws : List Str} {w : Str} (h : w ∈ ws) : ∃ j, ws.findIdx? (fun z => z == w) = some j ∧ j < ws.length ∧ ws[j]? = some w := by
  cases e : ws.findIdx? fun z => z == w with
  | none => rw [List.findIdx?_eq_none_iff] at e; have := e w h; simp at this
  | some j =>
    obtain ⟨h1, h2, _⟩ := List.findIdx?_eq_some_iff_getElem.mp e
    exact ⟨j, rfl, h1, by rw [List.getElem?_eq_getElem h1]; congr 1; simpa using h2⟩
theorem w_pop {n : Nat} {ds : List D} {y : D} (h : μ.cells[n]? = some (.lst (ds ++ [y]))) (Q : D → Mem → Prop) : wR (fPop (.loc n) [] μ) Q E = Q y (μ.set n (.lst ds)) := by
  have e : fPop (.loc n) [] μ = .ok y (μ.set n (.lst ds)) := by
    unfold fPop lcell; dsimp only; rw [h]; simp
  rw [e]; rfl
theorem wG_star (n i : Nat) (gs : MGs) (ds : List D) (Q : DEnv → Mem → Prop) : wG (gstar n i gs) (.tup ds) δ μ Q E = (n ≤ ds.length + 1 ∧ wGs gs (ds.take i ++ [.lst ((ds.drop i).take (ds.length - (n - 1)))] ++ ds.drop (ds.length - (n - 1 - i))) δ μ Q) := by
  unfold wG gstar
  show wR (if _ then _ else _) _ _ = (_ ∧ _)
  split
  · rename_i h; simp only [h, true_and]; unfold wGs; cases gs (ds.take i ++ [.lst ((ds.drop i).take (ds.length - (n - 1)))] ++ ds.drop (ds.length - (n - 1 - i))) δ μ <;> rfl
  · rename_i h; simp [wR, h]
theorem wG_unl (n : Nat) (gs : MGs) (ds : List D) (Q : DEnv → Mem → Prop) : wG (gunl n gs) (.lst ds) δ μ Q E = (ds.length = n ∧ wGs gs ds δ μ Q) := by
  unfold wG gunl
  show wR (if _ then _ else _) _ _ = (_ ∧ _)
  split
  · rename_i h; simp only [h, true_and]; unfold wGs; cases gs ds δ μ <;> rfl
  · rename_i h; simp [wR, h]
theorem wE_repN (na : MX (List D)) (mb : ME) (Q : List D → Mem → Prop) : wE (mrepN na mb) δ μ Q E = wE na δ μ (fun ds μ1 => wE mb δ μ1 (fun k μ2 => qI k fun k => (-(2 ^ 63) ≤ k ∧ k < 2 ^ 63 ∧ ds.length * k.toNat ≤ sizeLine) ∧ Q (List.replicate k.toNat ds).flatten μ2) E) E := by
  unfold mrepN; rw [wE_bind]; congr; funext ds μ1; rw [wE_bind]; congr; funext k μ2
  cases k with
  | int k => exact wR_ite _ _ _ _
  | _ => rfl
theorem w_in_tupS (x : Str) (ss : List Str) (Q : Bool → Mem → Prop) : wR (cIn (.str x) (.tup (ss.map D.str)) μ) Q E = Q (ss.any fun z => z == x) μ := by
  have e : cIn (.str x) (.tup (ss.map D.str)) μ = .ok (ss.any fun z => z == x) μ := by
    show (if (D.sc (.str x) && (ss.map D.str).all D.sc) = true then Res.ok ((ss.map D.str).any fun z => D.eqv z (.str x)) μ else _) = _
    rw [if_pos (by simp [D.sc]), List.any_map]; rfl
  rw [e]; rfl
theorem w_in2 (x a b : Str) (Q : Bool → Mem → Prop) : wR (cIn (.str x) (.tup [.str a, .str b]) μ) Q E = Q (a == x || b == x) μ := by
  refine (w_in_tupS x [a, b] Q).trans ?_
  simp
theorem w_in5 (x a b c d e : Str) (Q : Bool → Mem → Prop) : wR (cIn (.str x) (.tup [.str a, .str b, .str c, .str d, .str e]) μ) Q E = Q (a == x || (b == x || (c == x || (d == x || e == x)))) μ := by
  refine (w_in_tupS x [a, b, c, d, e] Q).trans ?_
  simp
theorem w_loopU {gd : Mem → Bool} {stp : D → Mem → Res Unit} {Q : Unit → Mem → Prop} (I : List D → Mem → Prop) (hg : ∀ ds μ, I ds μ → gd μ = true) (hs : ∀ d ds μ, I (d :: ds) μ → wR (stp d μ) (fun _ μ' => I ds μ') noE) (he : ∀ μ, I [] μ → Q () μ) :
    ∀ (ds : List D) (μ : Mem), I ds μ → wR (loopU gd stp ds μ) Q E
  | [], μ, h => by unfold loopU; rw [if_pos (hg _ _ h)]; exact he μ h
  | d :: ds, μ, h => by
    unfold loopU; rw [if_pos (hg _ _ h)]
    obtain ⟨a, μ1, e, h1⟩ := wR.of (hs d ds μ h)
    rw [e]
    exact w_loopU I hg hs he ds μ1 h1
theorem w_stp1 {n : Nat} {g : MG} {mt : MX Bool} {mk mv : ME} {d : D} {Q : Unit → Mem → Prop} (h : wG g d δ μ (fun δ1 μ1 => wE mt δ1 μ1 (fun b μ2 => if b = true then wE mk δ1 μ2 (fun k μ3 => wE mv δ1 μ3 (fun v μ4 => isDK μ4 n = true ∧ wR (setD (.loc n) k v μ4) Q noE) noE) noE else Q () μ2) noE) noE) : wR (stp1 n g mt mk mv δ d μ) Q E := by
  unfold wG at h
  obtain ⟨δ1, μ1, e1, h⟩ := wR.of h
  unfold wE at h
  obtain ⟨b, μ2, e2, h⟩ := wR.of h
  unfold stp1
  rw [e1]; dsimp only; rw [e2]
  cases b with
  | false => exact h
  | true =>
    obtain ⟨k, μ3, e3, h⟩ := wR.of h
    obtain ⟨v, μ4, e4, h⟩ := wR.of h
    dsimp only; rw [e3]; dsimp only; rw [e4]; dsimp only
    rw [if_pos h.1]; exact h.2.go fun _ _ h => h
theorem wE_dc2 (vs vs1 : List Nat) (mi : MX Its0) (g : MG) (mt : MX Bool) (mj : MX Its0) (g1 : MG) (mt1 : MX Bool) (mk mv : ME) (Q : D → Mem → Prop) : wE (mdc2 vs vs1 mi g mt mj g1 mt1 mk mv) δ μ Q E = wE mi δ μ (fun it μ1 => wR (loopU it.2 (stp0 μ1.cells.length vs1 g mt mj g1 mt1 mk mv (wipeD δ vs)) it.1 (μ1.push (.dK []))) (fun _ μ2 => Q (.loc μ1.cells.length) μ2) noE) E := by
  unfold mdc2; rw [wE_bind]; congr; funext it μ1
  show wR (match loopU it.2 (stp0 μ1.cells.length vs1 g mt mj g1 mt1 mk mv (wipeD δ vs)) it.1 (μ1.push (.dK [])) with | .ok _ μ1' => _ | _ => _) Q E = _
  cases loopU it.2 (stp0 μ1.cells.length vs1 g mt mj g1 mt1 mk mv (wipeD δ vs)) it.1 (μ1.push (.dK [])) <;> rfl
theorem wE_dc (vs : List Nat) (mi : MX Its0) (g : MG) (mt : MX Bool) (mk mv : ME) (Q : D → Mem → Prop) : wE (mdc vs mi g mt mk mv) δ μ Q E = wE mi δ μ (fun it μ1 => wR (loopU it.2 (stp1 μ1.cells.length g mt mk mv (wipeD δ vs)) it.1 (μ1.push (.dK []))) (fun _ μ2 => Q (.loc μ1.cells.length) μ2) noE) E := by
  unfold mdc; rw [wE_bind]; congr; funext it μ1
  show wR (match loopU it.2 (stp1 μ1.cells.length g mt mk mv (wipeD δ vs)) it.1 (μ1.push (.dK [])) with | .ok _ μ1' => _ | _ => _) Q E = _
  cases loopU it.2 (stp1 μ1.cells.length g mt mk mv (wipeD δ vs)) it.1 (μ1.push (.dK [])) <;> rfl
end
end Doz
end
section
namespace Doz
open PySem L2
theorem words_ne : (("set" : Str) = "add") = False
    ∧ (("set" : Str) = "cas") = False ∧ (("set" : Str) = "swap") = False ∧ (("set" : Str) = "take") = False ∧ (("set" : Str) = "if") = False ∧ (("set" : Str) = "load") = False ∧ (("set" : Str) = "wait") = False
    ∧ (("set" : Str) = "still") = False ∧ (("set" : Str) = "wake") = False ∧ (("set" : Str) = "move") = False ∧ (("set" : Str) = "late") = False ∧ (("set" : Str) = "nudge") = False ∧ (("set" : Str) = "step") = False
    ∧ (("add" : Str) = "set") = False ∧ (("add" : Str) = "cas") = False ∧ (("add" : Str) = "swap") = False ∧ (("add" : Str) = "take") = False ∧ (("add" : Str) = "if") = False ∧ (("add" : Str) = "load") = False
    ∧ (("add" : Str) = "wait") = False ∧ (("add" : Str) = "still") = False ∧ (("add" : Str) = "wake") = False ∧ (("add" : Str) = "move") = False ∧ (("add" : Str) = "late") = False ∧ (("add" : Str) = "nudge") = False
    ∧ (("add" : Str) = "step") = False ∧ (("cas" : Str) = "set") = False ∧ (("cas" : Str) = "add") = False ∧ (("cas" : Str) = "swap") = False ∧ (("cas" : Str) = "take") = False ∧ (("cas" : Str) = "if") = False
    ∧ (("cas" : Str) = "load") = False ∧ (("cas" : Str) = "wait") = False ∧ (("cas" : Str) = "still") = False ∧ (("cas" : Str) = "wake") = False ∧ (("cas" : Str) = "move") = False ∧ (("cas" : Str) = "late") = False
    ∧ (("cas" : Str) = "nudge") = False ∧ (("cas" : Str) = "step") = False ∧ (("swap" : Str) = "set") = False ∧ (("swap" : Str) = "add") = False ∧ (("swap" : Str) = "cas") = False ∧ (("swap" : Str) = "take") = False
    ∧ (("swap" : Str) = "if") = False ∧ (("swap" : Str) = "load") = False ∧ (("swap" : Str) = "wait") = False ∧ (("swap" : Str) = "still") = False ∧ (("swap" : Str) = "wake") = False ∧ (("swap" : Str) = "move") = False
    ∧ (("swap" : Str) = "late") = False ∧ (("swap" : Str) = "nudge") = False ∧ (("swap" : Str) = "step") = False ∧ (("take" : Str) = "set") = False ∧ (("take" : Str) = "add") = False ∧ (("take" : Str) = "cas") = False
    ∧ (("take" : Str) = "swap") = False ∧ (("take" : Str) = "if") = False ∧ (("take" : Str) = "load") = False ∧ (("take" : Str) = "wait") = False ∧ (("take" : Str) = "still") = False ∧ (("take" : Str) = "wake") = False
    ∧ (("take" : Str) = "move") = False ∧ (("take" : Str) = "late") = False ∧ (("take" : Str) = "nudge") = False ∧ (("take" : Str) = "step") = False ∧ (("if" : Str) = "set") = False ∧ (("if" : Str) = "add") = False
    ∧ (("if" : Str) = "cas") = False ∧ (("if" : Str) = "swap") = False ∧ (("if" : Str) = "take") = False ∧ (("if" : Str) = "load") = False ∧ (("if" : Str) = "wait") = False ∧ (("if" : Str) = "still") = False
    ∧ (("if" : Str) = "wake") = False ∧ (("if" : Str) = "move") = False ∧ (("if" : Str) = "late") = False ∧ (("if" : Str) = "nudge") = False ∧ (("if" : Str) = "step") = False ∧ (("load" : Str) = "set") = False
    ∧ (("load" : Str) = "add") = False ∧ (("load" : Str) = "cas") = False ∧ (("load" : Str) = "swap") = False ∧ (("load" : Str) = "take") = False ∧ (("load" : Str) = "if") = False ∧ (("load" : Str) = "wait") = False
    ∧ (("load" : Str) = "still") = False ∧ (("load" : Str) = "wake") = False ∧ (("load" : Str) = "move") = False ∧ (("load" : Str) = "late") = False ∧ (("load" : Str) = "nudge") = False ∧ (("load" : Str) = "step") = False
    ∧ (("wait" : Str) = "set") = False ∧ (("wait" : Str) = "add") = False ∧ (("wait" : Str) = "cas") = False ∧ (("wait" : Str) = "swap") = False ∧ (("wait" : Str) = "take") = False ∧ (("wait" : Str) = "if") = False
    ∧ (("wait" : Str) = "load") = False ∧ (("wait" : Str) = "still") = False ∧ (("wait" : Str) = "wake") = False ∧ (("wait" : Str) = "move") = False ∧ (("wait" : Str) = "late") = False ∧ (("wait" : Str) = "nudge") = False
    ∧ (("wait" : Str) = "step") = False ∧ (("still" : Str) = "set") = False ∧ (("still" : Str) = "add") = False ∧ (("still" : Str) = "cas") = False ∧ (("still" : Str) = "swap") = False ∧ (("still" : Str) = "take") = False
    ∧ (("still" : Str) = "if") = False ∧ (("still" : Str) = "load") = False ∧ (("still" : Str) = "wait") = False ∧ (("still" : Str) = "wake") = False ∧ (("still" : Str) = "move") = False ∧ (("still" : Str) = "late") = False
    ∧ (("still" : Str) = "nudge") = False ∧ (("still" : Str) = "step") = False ∧ (("wake" : Str) = "set") = False ∧ (("wake" : Str) = "add") = False ∧ (("wake" : Str) = "cas") = False ∧ (("wake" : Str) = "swap") = False
    ∧ (("wake" : Str) = "take") = False ∧ (("wake" : Str) = "if") = False ∧ (("wake" : Str) = "load") = False ∧ (("wake" : Str) = "wait") = False ∧ (("wake" : Str) = "still") = False ∧ (("wake" : Str) = "move") = False
    ∧ (("wake" : Str) = "late") = False ∧ (("wake" : Str) = "nudge") = False ∧ (("wake" : Str) = "step") = False ∧ (("move" : Str) = "set") = False ∧ (("move" : Str) = "add") = False ∧ (("move" : Str) = "cas") = False
    ∧ (("move" : Str) = "swap") = False ∧ (("move" : Str) = "take") = False ∧ (("move" : Str) = "if") = False ∧ (("move" : Str) = "load") = False ∧ (("move" : Str) = "wait") = False ∧ (("move" : Str) = "still") = False
    ∧ (("move" : Str) = "wake") = False ∧ (("move" : Str) = "late") = False ∧ (("move" : Str) = "nudge") = False ∧ (("move" : Str) = "step") = False ∧ (("late" : Str) = "set") = False ∧ (("late" : Str) = "add") = False
    ∧ (("late" : Str) = "cas") = False ∧ (("late" : Str) = "swap") = False ∧ (("late" : Str) = "take") = False ∧ (("late" : Str) = "if") = False ∧ (("late" : Str) = "load") = False ∧ (("late" : Str) = "wait") = False
    ∧ (("late" : Str) = "still") = False ∧ (("late" : Str) = "wake") = False ∧ (("late" : Str) = "move") = False ∧ (("late" : Str) = "nudge") = False ∧ (("late" : Str) = "step") = False ∧ (("nudge" : Str) = "set") = False
    ∧ (("nudge" : Str) = "add") = False ∧ (("nudge" : Str) = "cas") = False ∧ (("nudge" : Str) = "swap") = False ∧ (("nudge" : Str) = "take") = False ∧ (("nudge" : Str) = "if") = False ∧ (("nudge" : Str) = "load") = False
    ∧ (("nudge" : Str) = "wait") = False ∧ (("nudge" : Str) = "still") = False ∧ (("nudge" : Str) = "wake") = False ∧ (("nudge" : Str) = "move") = False ∧ (("nudge" : Str) = "late") = False ∧ (("nudge" : Str) = "step") = False
    ∧ (("step" : Str) = "set") = False ∧ (("step" : Str) = "add") = False ∧ (("step" : Str) = "cas") = False ∧ (("step" : Str) = "swap") = False ∧ (("step" : Str) = "take") = False ∧ (("step" : Str) = "if") = False
    ∧ (("step" : Str) = "load") = False ∧ (("step" : Str) = "wait") = False ∧ (("step" : Str) = "still") = False ∧ (("step" : Str) = "wake") = False ∧ (("step" : Str) = "move") = False ∧ (("step" : Str) = "late") = False
    ∧ (("step" : Str) = "nudge") = False := by
  have h : ∀ {a b : Str}, decide (a = b) = false → (a = b) = False := fun h => by simpa using h
  exact ⟨h (by decide +kernel), h (by decide +kernel), h (by decide +kernel), h (by decide +kernel), h (by decide +kernel), h (by decide +kernel), h (by decide +kernel), h (by decide +kernel), h (by decide +kernel), h (by decide +kernel), h (by decide +kernel), h (by decide +kernel), h (by decide +kernel), h (by decide +kernel), h (by decide +kernel), h (by decide +kernel), h (by decide +kernel), h (by decide +kernel), h (by decide +kernel), h (by decide +kernel), h (by decide +kernel), h (by decide +kernel), h (by decide +kernel), h (by decide +kernel), h (by decide +kernel), h (by decide +kernel), h (by decide +kernel), h (by decide +kernel), h (by decide +kernel), h (by decide +kernel), h (by decide +kernel), h (by decide +kernel), h (by decide +kernel), h (by decide +kernel), h (by decide +kernel), h (by decide +kernel), h (by decide +kernel), h (by decide +kernel), h (by decide +kernel), h (by decide +kernel), h (by decide +kernel), h (by decide +kernel), h (by decide +kernel), h (by decide +kernel), h (by decide +kernel), h (by decide +kernel), h (by decide +kernel), h (by decide +kernel), h (by decide +kernel), h (by decide +kernel), h (by decide +kernel), h (by decide +kernel), h (by decide +kernel), h (by decide +kernel), h (by decide +kernel), h (by decide +kernel), h (by decide +kernel), h (by decide +kernel), h (by decide +kernel), h (by decide +kernel), h (by decide +kernel), h (by decide +kernel), h (by decide +kernel), h (by decide +kernel), h (by decide +kernel), h (by decide +kernel), h (by decide +kernel), h (by decide +kernel), h (by decide +kernel), h (by decide +kernel), h (by decide +kernel), h (by decide +kernel), h (by decide +kernel), h (by decide +kernel), h (by decide +kernel), h (by decide +kernel), h (by decide +kernel), h (by decide +kernel), h (by decide +kernel), h (by decide +kernel), h (by decide +kernel), h (by decide +kernel), h (by decide +kernel), h (by decide +kernel), h (by decide +kernel), h (by decide +kernel), h (by decide +kernel), h (by decide +kernel), h (by decide +kernel), h (by decide +kernel), h (by decide +kernel), h (by decide +kernel), h (by decide +kernel), h (by decide +kernel), h (by decide +kernel), h (by decide +kernel), h (by decide +kernel), h (by decide +kernel), h (by decide +kernel), h (by decide +kernel), h (by decide +kernel), h (by decide +kernel), h (by decide +kernel), h (by decide +kernel), h (by decide +kernel), h (by decide +kernel), h (by decide +kernel), h (by decide +kernel), h (by decide +kernel), h (by decide +kernel), h (by decide +kernel), h (by decide +kernel), h (by decide +kernel), h (by decide +kernel), h (by decide +kernel), h (by decide +kernel), h (by decide +kernel), h (by decide +kernel), h (by decide +kernel), h (by decide +kernel), h (by decide +kernel), h (by decide +kernel), h (by decide +kernel), h (by decide +kernel), h (by decide +kernel), h (by decide +kernel), h (by decide +kernel), h (by decide +kernel), h (by decide +kernel), h (by decide +kernel), h (by decide +kernel), h (by decide +kernel), h (by decide +kernel), h (by decide +kernel), h (by decide +kernel), h (by decide +kernel), h (by decide +kernel), h (by decide +kernel), h (by decide +kernel), h (by decide +kernel), h (by decide +kernel), h (by decide +kernel), h (by decide +kernel), h (by decide +kernel), h (by decide +kernel), h (by decide +kernel), h (by decide +kernel), h (by decide +kernel), h (by decide +kernel), h (by decide +kernel), h (by decide +kernel), h (by decide +kernel), h (by decide +kernel), h (by decide +kernel), h (by decide +kernel), h (by decide +kernel), h (by decide +kernel), h (by decide +kernel), h (by decide +kernel), h (by decide +kernel), h (by decide +kernel), h (by decide +kernel), h (by decide +kernel), h (by decide +kernel), h (by decide +kernel), h (by decide +kernel), h (by decide +kernel), h (by decide +kernel), h (by decide +kernel), h (by decide +kernel), h (by decide +kernel), h (by decide +kernel), h (by decide +kernel), h (by decide +kernel), h (by decide +kernel), h (by decide +kernel), h (by decide +kernel), h (by decide +kernel), h (by decide +kernel), h (by decide +kernel), h (by decide +kernel), h (by decide +kernel)⟩
inductive Row where
  | set (r : Str) (n : Int)
  | add (r : Str) (y due way : Int)
  | cas (r : Str) (due new way : Int)
  | swap (r : Str) (new due way : Int)
  | take (r : Str) (way : Int)
  | if_ (r : Str) (due way : Int)
  | load (r : Str)
  | wait (r : Str) (n ch wo la : Int)
  | still (r : Str) (ch wo la : Int)
  | wake (r : Str) (n : Int)
  | move (r o : Str) (n m : Int)
def Row.ds : Row → List D
  | .set r n => [.str "set", .str r, .int n]
  | .add r y due way => [.str "add", .str r, .int y, .int due, .int way]
  | .cas r due new way => [.str "cas", .str r, .int due, .int new, .int way]
  | .swap r new due way => [.str "swap", .str r, .int new, .int due, .int way]
  | .take r way => [.str "take", .str r, .int way]
  | .if_ r due way => [.str "if", .str r, .int due, .int way]
  | .load r => [.str "load", .str r]
  | .wait r n ch wo la => [.str "wait", .str r, .int n, .int ch, .int wo, .int la]
  | .still r ch wo la => [.str "still", .str r, .int ch, .int wo, .int la]
  | .wake r n => [.str "wake", .str r, .int n]
  | .move r o n m => [.str "move", .str r, .str o, .int n, .int m]
def Row.d (r : Row) : D := .tup r.ds
def Row.room : Row → Str
  | .set r _ => r | .add r _ _ _ => r | .cas r _ _ _ => r | .swap r _ _ _ => r | .take r _ => r | .if_ r _ _ => r | .load r => r | .wait r _ _ _ _ => r | .still r _ _ _ => r | .wake r _ => r | .move r _ _ _ => r
def Row.sleeps : Row → Bool
  | .wait .. => true | .still .. => true | _ => false
def Row.late : Row → Int
  | .wait _ _ _ _ la => la | .still _ _ _ la => la | _ => 0
def Row.woke : Row → Int
  | .wait _ _ _ wo _ => wo | .still _ _ wo _ => wo | _ => 0
structure Sta where
  num : List Int
  pl : List Int
  own : List Int
  ln : List (List Int)
def intsT (xs : List Int) : D := .tup (xs.map D.int)
def Sta.d (s : Sta) : D := .tup [intsT s.num, intsT s.pl, intsT s.own, .tup (s.ln.map intsT)]
structure Wo where
  names : List Str
  nums : List Int
  plans : List (List Row)
  ranks : List Int
  nud : Bool
def Wo.rowAt (W : Wo) (s : Sta) (k : Nat) : Option Row := (W.plans[k]?).bind fun plan => (s.pl[k]?).bind fun p => plan[p.toNat]?
def planD (plan : List Row) : D := .lst (plan.map Row.d)
def Row.ok (names : List Str) (size : Nat) : Row → Prop
  | .set r _ => r ∈ names
  | .add r _ _ way => r ∈ names ∧ 0 ≤ way ∧ way ≤ size
  | .cas r _ _ way => r ∈ names ∧ 0 ≤ way ∧ way ≤ size
  | .swap r _ _ way => r ∈ names ∧ 0 ≤ way ∧ way ≤ size
  | .take r way => r ∈ names ∧ 0 ≤ way ∧ way ≤ size
  | .if_ r _ way => r ∈ names ∧ 0 ≤ way ∧ way ≤ size
  | .load r => r ∈ names
  | .wait r _ ch wo la => r ∈ names ∧ (0 ≤ ch ∧ ch ≤ size) ∧ (0 ≤ wo ∧ wo ≤ size) ∧ (la = -1 ∨ (0 ≤ la ∧ la ≤ size))
  | .still r ch wo la => r ∈ names ∧ (0 ≤ ch ∧ ch ≤ size) ∧ (0 ≤ wo ∧ wo ≤ size) ∧ (la = -1 ∨ (0 ≤ la ∧ la ≤ size))
  | .wake r n => r ∈ names ∧ 0 ≤ n
  | .move r o n m => r ∈ names ∧ o ∈ names ∧ r ≠ o ∧ 0 ≤ n ∧ 0 ≤ m
structure Wo.Ok (W : Wo) : Prop where
  nn : W.names.Nodup
  ln : W.nums.length = W.names.length
  lr : W.ranks.length = W.plans.length
  few : W.plans.length ≤ 8
  rooms : W.names.length ≤ 12
  size : ∀ plan ∈ W.plans, plan.length ≤ 1000
  row : ∀ plan ∈ W.plans, ∀ r ∈ plan, r.ok W.names plan.length
structure Sta.Ok (W : Wo) (s : Sta) : Prop where
  ln : s.num.length = W.names.length
  lp : s.pl.length = W.plans.length
  lo : s.own.length = W.plans.length
  ll : s.ln.length = W.names.length
  pl : ∀ (k : Nat) p, s.pl[k]? = some p → ∃ plan, W.plans[k]? = some plan ∧ 0 ≤ p ∧ p ≤ plan.length
  nd : s.ln.flatten.Nodup
  sl : ∀ g ∈ s.ln.flatten, ∃ (k : Nat) (r : Row), g = (k : Int) ∧ W.rowAt s k = some r ∧ r.sleeps = true
theorem room_in {names : List Str} {size : Nat} {r : Row} (h : r.ok names size) : r.room ∈ names := by
  cases r <;> first | exact h | exact h.1
def lainGo (rk : Int → Int) (line : List Int) (r : Int) : Nat → Nat
  | 0 => 0
  | n + 1 => if rk (line.getD n 0) < r then lainGo rk line r n else n + 1
def rkOf (ranks : List Int) (x : Int) : Int := ranks.getD x.toNat 0
def lainP (ranks line : List Int) (g : Int) : List Int :=
  let k := lainGo (rkOf ranks) line (rkOf ranks g) line.length
  line.take k ++ g :: line.drop k
section
variable {δ : DEnv} {μ : Mem} {E : EP} (gs : MGs) (x0 x1 x2 x3 x4 x5 : D) (r : List D) (Q : DEnv → Mem → Prop)
theorem wG_s32 : wG (gstar 3 2 gs) (.tup (x0 :: x1 :: r)) δ μ Q E = wGs gs [x0, x1, .lst r] δ μ Q := by
  rw [wG_star]
  have e1 : (x0 :: x1 :: r).length - (3 - 1 - 2) = (x0 :: x1 :: r).length := by simp
  have e2 : (x0 :: x1 :: r).length - (3 - 1) = r.length := by simp
  rw [e1, e2, List.drop_length]
  simp
theorem wG_s40_5 : wG (gstar 4 0 gs) (.tup [x0, x1, x2, x3, x4]) δ μ Q E = wGs gs [.lst [x0, x1], x2, x3, x4] δ μ Q := by rw [wG_star]; simp
theorem wG_s40_6 : wG (gstar 4 0 gs) (.tup [x0, x1, x2, x3, x4, x5]) δ μ Q E = wGs gs [.lst [x0, x1, x2], x3, x4, x5] δ μ Q := by rw [wG_star]; simp
end
theorem cutD_from {α : Type} (xs : List α) {k : Int} (hk : 0 ≤ k) : cutD xs (some k) none = xs.drop k.toNat := by
  unfold cutD
  obtain ⟨n, rfl⟩ := Int.eq_ofNat_of_zero_le hk
  show (xs.drop (HT.sIx xs.length 0 (some (n : Int)))).take (xs.length - HT.sIx xs.length 0 (some (n : Int))) = _
  rw [HT.sIx_nat, Int.toNat_natCast]
  rcases Nat.le_total n xs.length with h | h
  · rw [Nat.min_eq_left h, List.take_of_length_le (by simp)]
  · rw [Nat.min_eq_right h, List.drop_of_length_le h, List.drop_of_length_le (Nat.le_refl _), List.take_nil]
theorem cutD_map {α β : Type} (f : α → β) (xs : List α) (lo hi : Option Int) : cutD (xs.map f) lo hi = (cutD xs lo hi).map f := by
  unfold cutD; rw [List.length_map, List.map_take, List.map_drop]
end Doz
end
end
section
namespace Doz
open PySem L2
section
variable {c : Cl} {μ : Mem}
local macro_rules | `(tactic| simp_arith only [$xs,*]) => `(tactic| simp -failIfUnchanged -implicitDefEqProofs (disch := (first | (simp only [Doz.len_push, Doz.len_set]; omega) | omega | assumption)) only [↓wR_ok, ↓wR_err, ↓wE_var0, ↓wE_varS, ↓wE_C, ↓wE_op, ↓wE_cmp, ↓wE_bl, ↓qB_bl, ↓wE_asB, ↓wE_and, ↓wE_or, ↓wE_not, ↓wE_andV, ↓wE_orV, ↓wE_notV, ↓wE_if, ↓wE_nil, ↓wE_cons, ↓wE_fz, ↓wE_lc, ↓wE_tup, ↓wE_lst, ↓wE_call, ↓wE_nopart, ↓qI_int, ↓wE_part, ↓wE_slice, ↓wE_fld, ↓wE_dnew, ↓wE_iter, ↓wE_rev, ↓wE_pos, ↓wE_kws, ↓wE_noa, ↓wE_both, ↓wE_fn, ↓wE_mth, ↓qN_non, ↓wE_mk, ↓wE_meth, ↓wE_neg, ↓wE_chain, ↓wE_comp, ↓wS_nx, ↓wS_bk, ↓wS_ct, ↓wS_seq, ↓wS_drop, ↓wS_ret, ↓wS_retN, ↓wS_if, ↓wS_asg, ↓qL_loc, ↓qCl_lst, ↓wS_retFz, ↓wS_raise, ↓wS_for, ↓wS_try, ↓wG_set0, ↓wG_setS, ↓wG_then, ↓wG_sub, ↓wG_fld, ↓qT_tup, ↓wG_tup, ↓wGs_nil, ↓wGs_cons, ↓endB_nx, ↓endB_rt, ↓endB_er, ↓endB_bk, ↓endB_ct, ↓loopP_nx, ↓loopP_ct, ↓loopP_bk, ↓loopP_rt, ↓loopP_er, ↓qO_some, ↓qO_at0, ↓qO_at1, ↓qO_at2, ↓qO_at3, ↓qO_at4, ↓qO_at5, ↓w_add_int, ↓w_add_str, ↓w_add_tup, ↓w_add_lst, ↓w_sub, ↓w_mod, ↓w_div, ↓w_mul, ↓w_pow, ↓w_band, ↓w_lt, ↓w_le, ↓w_gt, ↓w_ge, ↓w_is, ↓w_isNot, ↓nonN, ↓nonI, ↓nonS, ↓nonT, ↓nonL, ↓nonLoc, ↓w_eq_int, ↓w_ne_int, ↓w_eq_str, ↓w_ne_str, ↓qIx_lst, ↓qIx_dK, ↓qIxS_dK, ↓w_ix_loc, ↓w_ix_locS, ↓w_ix_lst, ↓w_ix_tup, ↓w_ix_str, ↓qLS_0, ↓qLS_1, ↓qLS_2, ↓qLS_3, ↓qSet_lst, ↓qSet_dK, ↓qSetS_dK, ↓w_setI, ↓w_setS, ↓qF_ins, ↓w_fld, ↓qSF_ins, ↓w_setF, ↓w_len_str, ↓w_len_lst, ↓w_len_tup, ↓qLen_lst, ↓qLen_dK, ↓w_len_loc, ↓w_max, ↓w_min, ↓w_int_int, ↓w_int_bl, ↓w_str_int, ↓qDc_dK, ↓w_dict, ↓w_tuple_lst, ↓w_tuple_tup, ↓w_tuple_loc, ↓w_list_lst, ↓w_list_tup, ↓w_iter_lst, ↓w_iter_tup, ↓w_iter_str, ↓w_iter_loc, ↓w_rng1, ↓w_rng2, ↓w_sl_str, ↓w_sl_tup, ↓w_sl_lst, ↓w_append, ↓w_lclear, ↓tyS_str, ↓tyL_lst, ↓qM_loc, ↓look1, ↓wC_set, ↓wC_setn, ↓wC_push2, ↓wC_pushn, ↓wE_yes, ↓wE_revL, ↓qO_lst, ↓w_all_lst, ↓w_join_lst, ↓wE_get1, ↓wE_get2, ↓wE_pop1, ↓qO_keyI, ↓qO_keyS, ↓qIns_ins, ↓wS_faug, ↓wE_disp, ↓wE_pairs0, ↓wE_pairsC, ↓keysOf0, ↓keysOfS, ↓keysOfI, ↓wE_keys, ↓wE_sliceN, ↓wE_sortK, ↓hb_place, ↓hb_turn, ↓hb_since, ↓hb_until, ↓hb_mask, ↓hbm_meets, ↓hbm_is_over, ↓hbm_twin, ↓isi_non_int, ↓isi_non_bool, ↓isi_non_str, ↓isi_non_tuple, ↓isi_non_list, ↓isi_non_dict, ↓isi_bl_int, ↓isi_bl_bool, ↓isi_bl_str, ↓isi_bl_tuple, ↓isi_bl_list, ↓isi_bl_dict, ↓isi_int_int, ↓isi_int_bool, ↓isi_int_str, ↓isi_int_tuple, ↓isi_int_list, ↓isi_int_dict, ↓isi_str_int, ↓isi_str_bool, ↓isi_str_str, ↓isi_str_tuple, ↓isi_str_list, ↓isi_str_dict, ↓isi_tup_int, ↓isi_tup_bool, ↓isi_tup_str, ↓isi_tup_tuple, ↓isi_tup_list, ↓isi_tup_dict, ↓isi_lst_int, ↓isi_lst_bool, ↓isi_lst_str, ↓isi_lst_tuple, ↓isi_lst_list, ↓isi_lst_dict, ↓hm_look_for, ↓hm_look_awake, ↓hm_next_turn, ↓hm_lie_down, ↓hm_rise, ↓hm_is_over, ↓hm_put, ↓hm_sleep, ↓hm_wake, ↓hm_move, ↓hm_tick, ↓hm_lateness, ↓hm_nudge, ↓hm_rank, ↓hm_number, ↓hm_line, ↓hm_line_at, ↓hm_order, ↓hm_asleep, ↓hm_sleeper, ↓hm_ending, ↓hm_standing, ↓hm_now, ↓hm_log, ↓hm_who, ↓hm_filled, ↓hm_twin, ↓hf_numbers, ↓hf_beds, ↓hf_ranks, ↓hf_endings, ↓hf_clock, ↓hf_turns, ↓hf_begun, ↓hf_entries, ↓wE_chainV, ↓wS_aug, ↓wG_unl, ↓wE_repN, ↓wE_dc2, ↓wE_dc, ↓w_in2, ↓w_in5, decide_eq_true_eq, beq_iff_eq, Bool.not_eq_true', Bool.not_eq_eq_eq_not, Bool.not_true, Bool.not_false, decide_eq_false_iff_not, beq_eq_false_iff_ne, ne_eq, true_and, and_true, if_true, if_false, ite_true, ite_false, reduceIte, Bool.false_eq_true, not_false_eq_true, not_true_eq_false, Int.reduceLT, Int.reduceLE, Int.reduceToNat, Nat.reduceLT, Nat.reduceLeDiff, Int.reducePow, Nat.reduceAdd, Int.reduceAdd, Int.reduceMul, Int.reduceSub, Int.reduceNeg, Nat.reducePow, Int.reduceEq, Nat.reduceEqDiff, List.length_cons, List.length_nil, PySem.sizeLine_eq, str_len_app, str_len_one, wipeD, List.set_cons_zero, List.set_cons_succ, $xs,*])
def Gs (n : Nat) (x : Int) : Prop := 0 ≤ x ∧ x < n
def leftP (lines : List (List Int)) (g : Int) : List (List Int) := lines.map fun l => l.filter fun x => !(x == g)
end
end Doz
end
section
namespace Doz
open PySem L2
def worldF (W : Wo) (m : D) : List (Str × D) := [("plans", .lst (W.plans.map planD)), ("names", .lst (W.names.map D.str)), ("numbers", intsT W.nums), ("nudges", .bl W.nud), ("ranks", .lst (W.ranks.map D.int)), ("marks", m)]
def PW (c : Cl) (μ : Mem) (a : Nat) (W : Wo) (m : D) : Prop := μ.cells[a]? = some (.ins c.n_World (worldF W m))
def lwD (W : Wo) (p o : Nat) : D := .tup [.lst (W.names.map D.str), .lst (W.nums.map D.int), .loc p, .loc o, .bl W.nud]
structure LW (μ : Mem) (p o : Nat) (W : Wo) : Prop where
  hp : μ.cells[p]? = some (.lst (W.plans.map planD))
  ho : μ.cells[o]? = some (.lst (W.ranks.map D.int))
theorem LW.fr {μ μ' : Mem} {p o : Nat} {W : Wo} {F : List Nat} (h : LW μ p o W) (f : Fr F μ μ') (h1 : p ∉ F) (h2 : o ∉ F) : LW μ' p o W := ⟨f.get h.hp h1, f.get h.ho h2⟩
section
variable (W : Wo) (m : D) (Q : D → Prop)
theorem hw_plans : qO ((worldF W m).lookup ("plans" : Str)) Q = Q (.lst (W.plans.map planD)) := by kernel_rfl
theorem hw_names : qO ((worldF W m).lookup ("names" : Str)) Q = Q (.lst (W.names.map D.str)) := by kernel_rfl
theorem hw_numbers : qO ((worldF W m).lookup ("numbers" : Str)) Q = Q (intsT W.nums) := by kernel_rfl
theorem hw_nudges : qO ((worldF W m).lookup ("nudges" : Str)) Q = Q (.bl W.nud) := by kernel_rfl
theorem hw_ranks : qO ((worldF W m).lookup ("ranks" : Str)) Q = Q (.lst (W.ranks.map D.int)) := by kernel_rfl
theorem hw_marks : qO ((worldF W m).lookup ("marks" : Str)) Q = Q m := by kernel_rfl
end
def worldKeys : List Str := ["plans", "names", "numbers", "nudges", "ranks", "marks"]
theorem world_nofld (W : Wo) (m : D) (nm : Str) (k : (worldKeys.all fun x => !(x == nm)) = true) : noFld (worldF W m) nm = true := noFld_of worldKeys rfl k
section
variable (C : Addr) (W : Wo) (m : D) (T : Addr → Option MM) (K : MM → Prop)
theorem hwm_start : qMc (.ins C (worldF W m)) "start" T K = qO (T C) K := qMc_ins (world_nofld W m _ (by decide +kernel))
theorem hwm_row_at : qMc (.ins C (worldF W m)) "row_at" T K = qO (T C) K := qMc_ins (world_nofld W m _ (by decide +kernel))
theorem hwm_are_sizes : qMc (.ins C (worldF W m)) "are_sizes" T K = qO (T C) K := qMc_ins (world_nofld W m _ (by decide +kernel))
theorem hwm_is_state : qMc (.ins C (worldF W m)) "is_state" T K = qO (T C) K := qMc_ins (world_nofld W m _ (by decide +kernel))
theorem hwm_may_lie : qMc (.ins C (worldF W m)) "may_lie" T K = qO (T C) K := qMc_ins (world_nofld W m _ (by decide +kernel))
theorem hwm_is_in_order : qMc (.ins C (worldF W m)) "is_in_order" T K = qO (T C) K := qMc_ins (world_nofld W m _ (by decide +kernel))
theorem hwm_can : qMc (.ins C (worldF W m)) "can" T K = qO (T C) K := qMc_ins (world_nofld W m _ (by decide +kernel))
theorem hwm_after : qMc (.ins C (worldF W m)) "after" T K = qO (T C) K := qMc_ins (world_nofld W m _ (by decide +kernel))
theorem hwm_stepped : qMc (.ins C (worldF W m)) "stepped" T K = qO (T C) K := qMc_ins (world_nofld W m _ (by decide +kernel))
theorem hwm_lain : qMc (.ins C (worldF W m)) "lain" T K = qO (T C) K := qMc_ins (world_nofld W m _ (by decide +kernel))
theorem hwm_roused : qMc (.ins C (worldF W m)) "roused" T K = qO (T C) K := qMc_ins (world_nofld W m _ (by decide +kernel))
theorem hwm_clash : qMc (.ins C (worldF W m)) "clash" T K = qO (T C) K := qMc_ins (world_nofld W m _ (by decide +kernel))
theorem hwm_ended : qMc (.ins C (worldF W m)) "ended" T K = qO (T C) K := qMc_ins (world_nofld W m _ (by decide +kernel))
theorem hwm_stuck : qMc (.ins C (worldF W m)) "stuck" T K = qO (T C) K := qMc_ins (world_nofld W m _ (by decide +kernel))
end
theorem wE_catN {δ : DEnv} {μ : Mem} {E : EP} (a b : ME) (Q : List D → Mem → Prop) : wE (mcatN a b) δ μ Q E = wE a δ μ (fun x μ1 => wE b δ μ1 (fun y μ2 => qO (catL μ2 x y) fun zs => Q zs μ2) E) E := by
  unfold mcatN; rw [wE_bind]; congr; funext x μ1; rw [wE_bind]; congr; funext y μ2
  show wR (match catL μ2 x y with | some zs => _ | none => _) Q E = _
  cases catL μ2 x y <;> rfl
theorem qO_cat (μ : Mem) (xs ys : List D) (Q : List D → Prop) : qO (catL μ (.lst xs) (.lst ys)) Q = (xs.length + ys.length ≤ sizeLine ∧ Q (xs ++ ys)) := by
  show qO (if xs.length + ys.length ≤ sizeLine then some (xs ++ ys) else none) Q = _
  by_cases h : xs.length + ys.length ≤ sizeLine
  · rw [if_pos h]; simp [h, qO]
  · rw [if_neg h]; simp [h, qO]
section
variable {c : Cl} {μ : Mem} {a : Nat} {W : Wo} {m : D} {s : Sta}
local macro_rules | `(tactic| simp_arith only [$xs,*]) => `(tactic| simp -failIfUnchanged -implicitDefEqProofs (disch := (first | (simp only [Doz.len_push, Doz.len_set]; omega) | omega | assumption)) only [↓wR_ok, ↓wR_err, ↓wE_var0, ↓wE_varS, ↓wE_C, ↓wE_op, ↓wE_cmp, ↓wE_bl, ↓qB_bl, ↓wE_asB, ↓wE_and, ↓wE_or, ↓wE_not, ↓wE_andV, ↓wE_orV, ↓wE_notV, ↓wE_if, ↓wE_nil, ↓wE_cons, ↓wE_fz, ↓wE_lc, ↓wE_tup, ↓wE_lst, ↓wE_call, ↓wE_nopart, ↓qI_int, ↓wE_part, ↓wE_slice, ↓wE_fld, ↓wE_dnew, ↓wE_iter, ↓wE_rev, ↓wE_pos, ↓wE_kws, ↓wE_noa, ↓wE_both, ↓wE_fn, ↓wE_mth, ↓qN_non, ↓wE_mk, ↓wE_meth, ↓wE_neg, ↓wE_chain, ↓wE_comp, ↓wS_nx, ↓wS_bk, ↓wS_ct, ↓wS_seq, ↓wS_drop, ↓wS_ret, ↓wS_retN, ↓wS_if, ↓wS_asg, ↓qL_loc, ↓qCl_lst, ↓wS_retFz, ↓wS_raise, ↓wS_for, ↓wS_try, ↓wG_set0, ↓wG_setS, ↓wG_then, ↓wG_sub, ↓wG_fld, ↓qT_tup, ↓wG_tup, ↓wGs_nil, ↓wGs_cons, ↓endB_nx, ↓endB_rt, ↓endB_er, ↓endB_bk, ↓endB_ct, ↓loopP_nx, ↓loopP_ct, ↓loopP_bk, ↓loopP_rt, ↓loopP_er, ↓qO_some, ↓qO_at0, ↓qO_at1, ↓qO_at2, ↓qO_at3, ↓qO_at4, ↓qO_at5, ↓w_add_int, ↓w_add_str, ↓w_add_tup, ↓w_add_lst, ↓w_sub, ↓w_mod, ↓w_div, ↓w_mul, ↓w_pow, ↓w_band, ↓w_lt, ↓w_le, ↓w_gt, ↓w_ge, ↓w_is, ↓w_isNot, ↓nonN, ↓nonI, ↓nonS, ↓nonT, ↓nonL, ↓nonLoc, ↓w_eq_int, ↓w_ne_int, ↓w_eq_str, ↓w_ne_str, ↓qIx_lst, ↓qIx_dK, ↓qIxS_dK, ↓w_ix_loc, ↓w_ix_locS, ↓w_ix_lst, ↓w_ix_tup, ↓w_ix_str, ↓qLS_0, ↓qLS_1, ↓qLS_2, ↓qLS_3, ↓qSet_lst, ↓qSet_dK, ↓qSetS_dK, ↓w_setI, ↓w_setS, ↓qF_ins, ↓w_fld, ↓qSF_ins, ↓w_setF, ↓w_len_str, ↓w_len_lst, ↓w_len_tup, ↓qLen_lst, ↓qLen_dK, ↓w_len_loc, ↓w_max, ↓w_min, ↓w_int_int, ↓w_int_bl, ↓w_str_int, ↓qDc_dK, ↓w_dict, ↓w_tuple_lst, ↓w_tuple_tup, ↓w_tuple_loc, ↓w_list_lst, ↓w_list_tup, ↓w_iter_lst, ↓w_iter_tup, ↓w_iter_str, ↓w_iter_loc, ↓w_rng1, ↓w_rng2, ↓w_sl_str, ↓w_sl_tup, ↓w_sl_lst, ↓w_append, ↓w_lclear, ↓tyS_str, ↓tyL_lst, ↓qM_loc, ↓look1, ↓wC_set, ↓wC_setn, ↓wC_push2, ↓wC_pushn, ↓wE_yes, ↓wE_revL, ↓qO_lst, ↓w_all_lst, ↓w_join_lst, ↓wE_get1, ↓wE_get2, ↓wE_pop1, ↓qO_keyI, ↓qO_keyS, ↓qIns_ins, ↓wS_faug, ↓wE_disp, ↓wE_pairs0, ↓wE_pairsC, ↓keysOf0, ↓keysOfS, ↓keysOfI, ↓wE_keys, ↓wE_sliceN, ↓wE_sortK, ↓hb_place, ↓hb_turn, ↓hb_since, ↓hb_until, ↓hb_mask, ↓hbm_meets, ↓hbm_is_over, ↓hbm_twin, ↓isi_non_int, ↓isi_non_bool, ↓isi_non_str, ↓isi_non_tuple, ↓isi_non_list, ↓isi_non_dict, ↓isi_bl_int, ↓isi_bl_bool, ↓isi_bl_str, ↓isi_bl_tuple, ↓isi_bl_list, ↓isi_bl_dict, ↓isi_int_int, ↓isi_int_bool, ↓isi_int_str, ↓isi_int_tuple, ↓isi_int_list, ↓isi_int_dict, ↓isi_str_int, ↓isi_str_bool, ↓isi_str_str, ↓isi_str_tuple, ↓isi_str_list, ↓isi_str_dict, ↓isi_tup_int, ↓isi_tup_bool, ↓isi_tup_str, ↓isi_tup_tuple, ↓isi_tup_list, ↓isi_tup_dict, ↓isi_lst_int, ↓isi_lst_bool, ↓isi_lst_str, ↓isi_lst_tuple, ↓isi_lst_list, ↓isi_lst_dict, ↓hm_look_for, ↓hm_look_awake, ↓hm_next_turn, ↓hm_lie_down, ↓hm_rise, ↓hm_is_over, ↓hm_put, ↓hm_sleep, ↓hm_wake, ↓hm_move, ↓hm_tick, ↓hm_lateness, ↓hm_nudge, ↓hm_rank, ↓hm_number, ↓hm_line, ↓hm_line_at, ↓hm_order, ↓hm_asleep, ↓hm_sleeper, ↓hm_ending, ↓hm_standing, ↓hm_now, ↓hm_log, ↓hm_who, ↓hm_filled, ↓hm_twin, ↓hf_numbers, ↓hf_beds, ↓hf_ranks, ↓hf_endings, ↓hf_clock, ↓hf_turns, ↓hf_begun, ↓hf_entries, ↓wE_chainV, ↓wS_aug, ↓wG_unl, ↓wE_repN, ↓wE_dc2, ↓wE_dc, ↓w_in2, ↓w_in5, ↓wG_s32, ↓wG_s40_5, ↓wG_s40_6, ↓wE_catN, ↓qO_cat, ↓hw_plans, ↓hw_names, ↓hw_numbers, ↓hw_nudges, ↓hw_ranks, ↓hw_marks, ↓hwm_start, ↓hwm_row_at, ↓hwm_are_sizes, ↓hwm_is_state, ↓hwm_may_lie, ↓hwm_is_in_order, ↓hwm_can, ↓hwm_after, ↓hwm_stepped, ↓hwm_lain, ↓hwm_roused, ↓hwm_clash, ↓hwm_ended, ↓hwm_stuck, decide_eq_true_eq, beq_iff_eq, Bool.not_eq_true', Bool.not_eq_eq_eq_not, Bool.not_true, Bool.not_false, decide_eq_false_iff_not, beq_eq_false_iff_ne, ne_eq, true_and, and_true, if_true, if_false, ite_true, ite_false, reduceIte, Bool.false_eq_true, not_false_eq_true, not_true_eq_false, Int.reduceLT, Int.reduceLE, Int.reduceToNat, Nat.reduceLT, Nat.reduceLeDiff, Int.reducePow, Nat.reduceAdd, Int.reduceAdd, Int.reduceMul, Int.reduceSub, Int.reduceNeg, Nat.reducePow, Int.reduceEq, Nat.reduceEqDiff, List.length_cons, List.length_nil, PySem.sizeLine_eq, str_len_app, str_len_one, wipeD, List.set_cons_zero, List.set_cons_succ, $xs,*])
theorem rowAt_of {k : Nat} {p : Int} {plan : List Row} (h1 : s.pl[k]? = some p) (h2 : W.plans[k]? = some plan) : W.rowAt s k = plan[p.toNat]? := by
  unfold Wo.rowAt; rw [h2, h1]; rfl
theorem Sta.Ok.at_ (h : s.Ok W) {k : Nat} (hk : k < W.plans.length) : ∃ p plan, s.pl[k]? = some p ∧ W.plans[k]? = some plan ∧ 0 ≤ p ∧ p ≤ plan.length ∧ W.rowAt s k = plan[p.toNat]? := by
  have hl : k < s.pl.length := by rw [h.lp]; exact hk
  obtain ⟨plan, h1, h2, h3⟩ := h.pl k _ (List.getElem?_eq_getElem hl)
  exact ⟨_, plan, List.getElem?_eq_getElem hl, h1, h2, h3, rowAt_of (List.getElem?_eq_getElem hl) h1⟩
theorem rowAt_lt {k : Nat} {r : Row} (h : W.rowAt s k = some r) : k < W.plans.length := by
  unfold Wo.rowAt at h
  cases e : W.plans[k]? with
  | none => rw [e] at h; cases h
  | some plan => exact (List.getElem?_eq_some_iff.mp e).1
def Sta.asleep (s : Sta) (k : Nat) : Bool := decide ((k : Int) ∈ s.ln.flatten)
end
end Doz
end
section
open PySem L2 Doz
local macro_rules | `(tactic| simp_arith only [$xs,*]) => `(tactic| simp -failIfUnchanged -implicitDefEqProofs (disch := (first | (simp only [Doz.len_push, Doz.len_set]; omega) | omega | assumption)) only [↓wR_ok, ↓wR_err, ↓wE_var0, ↓wE_varS, ↓wE_C, ↓wE_op, ↓wE_cmp, ↓wE_bl, ↓qB_bl, ↓wE_asB, ↓wE_and, ↓wE_or, ↓wE_not, ↓wE_andV, ↓wE_orV, ↓wE_notV, ↓wE_if, ↓wE_nil, ↓wE_cons, ↓wE_fz, ↓wE_lc, ↓wE_tup, ↓wE_lst, ↓wE_call, ↓wE_nopart, ↓qI_int, ↓wE_part, ↓wE_slice, ↓wE_fld, ↓wE_dnew, ↓wE_iter, ↓wE_rev, ↓wE_pos, ↓wE_kws, ↓wE_noa, ↓wE_both, ↓wE_fn, ↓wE_mth, ↓qN_non, ↓wE_mk, ↓wE_meth, ↓wE_neg, ↓wE_chain, ↓wE_comp, ↓wS_nx, ↓wS_bk, ↓wS_ct, ↓wS_seq, ↓wS_drop, ↓wS_ret, ↓wS_retN, ↓wS_if, ↓wS_asg, ↓qL_loc, ↓qCl_lst, ↓wS_retFz, ↓wS_raise, ↓wS_for, ↓wS_try, ↓wG_set0, ↓wG_setS, ↓wG_then, ↓wG_sub, ↓wG_fld, ↓qT_tup, ↓wG_tup, ↓wGs_nil, ↓wGs_cons, ↓endB_nx, ↓endB_rt, ↓endB_er, ↓endB_bk, ↓endB_ct, ↓loopP_nx, ↓loopP_ct, ↓loopP_bk, ↓loopP_rt, ↓loopP_er, ↓qO_some, ↓qO_at0, ↓qO_at1, ↓qO_at2, ↓qO_at3, ↓qO_at4, ↓qO_at5, ↓w_add_int, ↓w_add_str, ↓w_add_tup, ↓w_add_lst, ↓w_sub, ↓w_mod, ↓w_div, ↓w_mul, ↓w_pow, ↓w_band, ↓w_lt, ↓w_le, ↓w_gt, ↓w_ge, ↓w_is, ↓w_isNot, ↓nonN, ↓nonI, ↓nonS, ↓nonT, ↓nonL, ↓nonLoc, ↓w_eq_int, ↓w_ne_int, ↓w_eq_str, ↓w_ne_str, ↓qIx_lst, ↓qIx_dK, ↓qIxS_dK, ↓w_ix_loc, ↓w_ix_locS, ↓w_ix_lst, ↓w_ix_tup, ↓w_ix_str, ↓qLS_0, ↓qLS_1, ↓qLS_2, ↓qLS_3, ↓qSet_lst, ↓qSet_dK, ↓qSetS_dK, ↓w_setI, ↓w_setS, ↓qF_ins, ↓w_fld, ↓qSF_ins, ↓w_setF, ↓w_len_str, ↓w_len_lst, ↓w_len_tup, ↓qLen_lst, ↓qLen_dK, ↓w_len_loc, ↓w_max, ↓w_min, ↓w_int_int, ↓w_int_bl, ↓w_str_int, ↓qDc_dK, ↓w_dict, ↓w_tuple_lst, ↓w_tuple_tup, ↓w_tuple_loc, ↓w_list_lst, ↓w_list_tup, ↓w_iter_lst, ↓w_iter_tup, ↓w_iter_str, ↓w_iter_loc, ↓w_rng1, ↓w_rng2, ↓w_sl_str, ↓w_sl_tup, ↓w_sl_lst, ↓w_append, ↓w_lclear, ↓tyS_str, ↓tyL_lst, ↓qM_loc, ↓look1, ↓wC_set, ↓wC_setn, ↓wC_push2, ↓wC_pushn, ↓wE_yes, ↓wE_revL, ↓qO_lst, ↓w_all_lst, ↓w_join_lst, ↓wE_get1, ↓wE_get2, ↓wE_pop1, ↓qO_keyI, ↓qO_keyS, ↓qIns_ins, ↓wS_faug, ↓wE_disp, ↓wE_pairs0, ↓wE_pairsC, ↓keysOf0, ↓keysOfS, ↓keysOfI, ↓wE_keys, ↓wE_sliceN, ↓wE_sortK, ↓hb_place, ↓hb_turn, ↓hb_since, ↓hb_until, ↓hb_mask, ↓hbm_meets, ↓hbm_is_over, ↓hbm_twin, ↓isi_non_int, ↓isi_non_bool, ↓isi_non_str, ↓isi_non_tuple, ↓isi_non_list, ↓isi_non_dict, ↓isi_bl_int, ↓isi_bl_bool, ↓isi_bl_str, ↓isi_bl_tuple, ↓isi_bl_list, ↓isi_bl_dict, ↓isi_int_int, ↓isi_int_bool, ↓isi_int_str, ↓isi_int_tuple, ↓isi_int_list, ↓isi_int_dict, ↓isi_str_int, ↓isi_str_bool, ↓isi_str_str, ↓isi_str_tuple, ↓isi_str_list, ↓isi_str_dict, ↓isi_tup_int, ↓isi_tup_bool, ↓isi_tup_str, ↓isi_tup_tuple, ↓isi_tup_list, ↓isi_tup_dict, ↓isi_lst_int, ↓isi_lst_bool, ↓isi_lst_str, ↓isi_lst_tuple, ↓isi_lst_list, ↓isi_lst_dict, ↓hm_look_for, ↓hm_look_awake, ↓hm_next_turn, ↓hm_lie_down, ↓hm_rise, ↓hm_is_over, ↓hm_put, ↓hm_sleep, ↓hm_wake, ↓hm_move, ↓hm_tick, ↓hm_lateness, ↓hm_nudge, ↓hm_rank, ↓hm_number, ↓hm_line, ↓hm_line_at, ↓hm_order, ↓hm_asleep, ↓hm_sleeper, ↓hm_ending, ↓hm_standing, ↓hm_now, ↓hm_log, ↓hm_who, ↓hm_filled, ↓hm_twin, ↓hf_numbers, ↓hf_beds, ↓hf_ranks, ↓hf_endings, ↓hf_clock, ↓hf_turns, ↓hf_begun, ↓hf_entries, ↓wE_chainV, ↓wS_aug, ↓wG_unl, ↓wE_repN, ↓wE_dc2, ↓wE_dc, ↓w_in2, ↓w_in5, ↓wG_s32, ↓wG_s40_5, ↓wG_s40_6, ↓wE_catN, ↓qO_cat, ↓hw_plans, ↓hw_names, ↓hw_numbers, ↓hw_nudges, ↓hw_ranks, ↓hw_marks, ↓hwm_start, ↓hwm_row_at, ↓hwm_are_sizes, ↓hwm_is_state, ↓hwm_may_lie, ↓hwm_is_in_order, ↓hwm_can, ↓hwm_after, ↓hwm_stepped, ↓hwm_lain, ↓hwm_roused, ↓hwm_clash, ↓hwm_ended, ↓hwm_stuck, decide_eq_true_eq, beq_iff_eq, Bool.not_eq_true', Bool.not_eq_eq_eq_not, Bool.not_true, Bool.not_false, decide_eq_false_iff_not, beq_eq_false_iff_ne, ne_eq, true_and, and_true, if_true, if_false, ite_true, ite_false, reduceIte, Bool.false_eq_true, not_false_eq_true, not_true_eq_false, Int.reduceLT, Int.reduceLE, Int.reduceToNat, Nat.reduceLT, Nat.reduceLeDiff, Int.reducePow, Nat.reduceAdd, Int.reduceAdd, Int.reduceMul, Int.reduceSub, Int.reduceNeg, Nat.reducePow, Int.reduceEq, Nat.reduceEqDiff, List.length_cons, List.length_nil, PySem.sizeLine_eq, str_len_app, str_len_one, wipeD, List.set_cons_zero, List.set_cons_succ, $xs,*])
section
namespace Doz
open PySem L2
def lateAt (o : Option Row) : Int := match o with
  | some r => r.late
  | none => 0
def stepL (W : Wo) (s : Sta) (n : Nat) : List Nat := (List.range n).filter fun k => !s.asleep k && (W.rowAt s k).isSome
def lateL (W : Wo) (s : Sta) (n : Nat) : List Nat := (List.range n).filter fun k => s.asleep k && !(lateAt (W.rowAt s k) == -1)
def lieL (s : Sta) (n : Nat) : List Nat := (List.range n).filter fun k => s.asleep k
section
variable {c : Cl} {μ : Mem} {a : Nat} {W : Wo} {m : D} {s : Sta}
theorem sort_lie (h : s.Ok W) : sortInts s.ln.flatten = (lieL s W.plans.length).map fun k : Nat => (k : Int) := by
  symm
  refine sortInts_unique ?_ ?_
  · refine (List.perm_ext_iff_of_nodup ?_ h.nd).mpr fun x => ?_
    · rw [List.nodup_iff_pairwise_ne, List.pairwise_map]
      refine (List.Pairwise.sublist List.filter_sublist (List.pairwise_lt_range (n := W.plans.length))).imp fun h => by omega
    · constructor
      · intro hx
        obtain ⟨k, hk, rfl⟩ := List.mem_map.mp hx
        exact of_decide_eq_true (List.mem_filter.mp hk).2
      · intro hx
        obtain ⟨k, r, rfl, hr, _⟩ := h.sl x hx
        exact List.mem_map.mpr ⟨k, List.mem_filter.mpr ⟨List.mem_range.mpr (rowAt_lt hr), decide_eq_true hx⟩, rfl⟩
  · rw [List.pairwise_map]
    refine (List.Pairwise.sublist List.filter_sublist (List.pairwise_lt_range (n := W.plans.length))).imp fun h => by omega
theorem Sta.Ok.few (h : s.Ok W) : s.ln.flatten.length ≤ W.plans.length := by
  have e := congrArg List.length (sort_lie h)
  have e2 : (sortInts s.ln.flatten).length = s.ln.flatten.length := (List.mergeSort_perm _ _).length_eq
  have e3 := List.length_filter_le (fun k => s.asleep k) (List.range W.plans.length)
  rw [List.length_range] at e3
  rw [e2, List.length_map] at e
  exact e ▸ e3
theorem isDK_of {n : Nat} {kds : List (Key × D)} (h : μ.cells[n]? = some (.dK kds)) : isDK μ n = true := by unfold isDK; rw [h]
end
end Doz
end
section
namespace Doz
open PySem L2
section
variable {c : Cl} {μ : Mem} {a : Nat} {W : Wo} {m : D} {s : Sta}
end
end Doz
end
section
namespace Doz
open PySem L2
def plainP (row : Row) (x on : Int) : Int × Int := match row with
  | .set _ n => (n, on)
  | .add _ y due way => (x + y, if x + y = due then way else on)
  | .cas _ due new way => if x = due then (new, way) else (x, on)
  | .swap _ new due way => (new, if x = due then way else on)
  | .take _ way => if 0 < x then (x - 1, way) else (x, on)
  | .if_ _ due way => (x, if x = due then on else way)
  | _ => (x, on)
def Row.plain : Row → Bool
  | .wait .. => false | .still .. => false | .wake .. => false | .move .. => false | _ => true
section
variable {c : Cl} {μ : Mem} {a : Nat} {W : Wo} {m : D} {s : Sta}
end
end Doz
end
section
namespace Doz
open PySem L2
def Wo.at_ (W : Wo) (r : Str) : Nat := (W.names.findIdx? fun z => z == r).getD 0
theorem at_of {W : Wo} {r : Str} (h : r ∈ W.names) : W.names.findIdx? (fun z => z == r) = some (W.at_ r) ∧ W.at_ r < W.names.length ∧ W.names[W.at_ r]? = some r := by
  obtain ⟨j, h1, h2, h3⟩ := index_at h
  have e : W.at_ r = j := by unfold Wo.at_; rw [h1]; rfl
  rw [e]
  exact ⟨h1, h2, h3⟩
def lieP (W : Wo) (s : Sta) (k : Nat) (r : Str) (still ch : Int) : Sta :=
  if s.num.getD (W.at_ r) 0 = still then { s with ln := s.ln.set (W.at_ r) (lainP W.ranks (s.ln.getD (W.at_ r) []) k) } else { s with pl := s.pl.set k ch }
def wokeAt (o : Option Row) : Int := match o with
  | some r => r.woke
  | none => 0
def wokenP (W : Wo) (s : Sta) (pl : List Int) (gs : List Int) : List Int := gs.foldl (fun pl g => pl.set g.toNat (wokeAt (W.rowAt s g.toNat))) pl
def movedP (W : Wo) (i : Nat) (ln : List (List Int)) (gs : List Int) : List (List Int) := gs.foldl (fun ln g => ln.set i (lainP W.ranks (ln.getD i []) g)) ln
def rouseP (W : Wo) (s : Sta) (k : Nat) (r : Str) (n m : Int) (o : Option Str) : Sta :=
  let line := s.ln.getD (W.at_ r) []
  let pl := wokenP W s s.pl (cutD line none (some n))
  let ln := s.ln.set (W.at_ r) (cutD line (some (n + m)) none)
  { s with pl := pl.set k (pl.getD k 0 + 1), ln := match o with
    | none => ln
    | some o => movedP W (W.at_ o) ln (cutD line (some n) (some (n + m))) }
def flatP (W : Wo) (s : Sta) (k : Nat) (row : Row) : Sta :=
  let i := W.at_ row.room
  let q := plainP row (s.num.getD i 0) (s.pl.getD k 0 + 1)
  { num := s.num.set i q.1, pl := s.pl.set k q.2, own := (match row with | .load _ => s.own.set k (s.num.getD i 0) | _ => s.own), ln := s.ln }
def stepP (W : Wo) (s : Sta) (k : Nat) (row : Row) : Sta := match row with
  | .wait r n ch _ _ => lieP W s k r n ch
  | .still r ch _ _ => lieP W s k r (s.own.getD k 0) ch
  | .wake r n => rouseP W s k r n 0 none
  | .move r o n m => rouseP W s k r n m (some o)
  | row => flatP W s k row
theorem wokenP_len (W : Wo) (s : Sta) : ∀ (gs : List Int) (pl : List Int), (wokenP W s pl gs).length = pl.length
  | [], _ => rfl
  | g :: gs, pl => by
    show (wokenP W s (pl.set g.toNat (wokeAt (W.rowAt s g.toNat))) gs).length = _
    rw [wokenP_len W s gs, List.length_set]
theorem movedP_len (W : Wo) (i : Nat) : ∀ (gs : List Int) (ln : List (List Int)), (movedP W i ln gs).length = ln.length
  | [], _ => rfl
  | g :: gs, ln => by
    show (movedP W i (ln.set i _) gs).length = _
    rw [movedP_len W i gs, List.length_set]
section
variable {c : Cl} {μ : Mem} {a : Nat} {W : Wo} {m : D} {s : Sta}
theorem Sta.Ok.gs (hs : s.Ok W) (hW : W.Ok) {g : Int} (h : g ∈ s.ln.flatten) : Gs W.ranks.length g := by
  obtain ⟨k, r, rfl, hr, _⟩ := hs.sl g h
  have := rowAt_lt hr
  rw [hW.lr]
  exact ⟨by omega, by omega⟩
theorem Sta.Ok.line (hs : s.Ok W) (hW : W.Ok) (i : Nat) : ∀ x ∈ s.ln.getD i [], Gs W.ranks.length x := fun x hx => by
  rw [List.getD_eq_getElem?_getD] at hx
  cases e : s.ln[i]? with
  | none => rw [e] at hx; cases hx
  | some l =>
    rw [e] at hx
    exact hs.gs hW (List.mem_flatten.mpr ⟨l, List.mem_of_getElem? e, hx⟩)
theorem mem_lain {ranks line : List Int} {g x : Int} : x ∈ lainP ranks line g ↔ x = g ∨ x ∈ line := by
  unfold lainP
  generalize lainGo (rkOf ranks) line (rkOf ranks g) line.length = k
  show x ∈ line.take k ++ g :: line.drop k ↔ _
  rw [List.mem_append, List.mem_cons]
  constructor
  · rintro (h | h | h)
    · exact .inr (List.mem_of_mem_take h)
    · exact .inl h
    · exact .inr (List.mem_of_mem_drop h)
  · rintro (h | h)
    · exact .inr (.inl h)
    · have : x ∈ line.take k ++ line.drop k := by rw [List.take_append_drop]; exact h
      rcases List.mem_append.mp this with h | h
      · exact .inl h
      · exact .inr (.inr h)
theorem cut_none {α : Type} (xs : List α) (n : Int) : cutD xs (some n) (some (n + 0)) = [] := by
  unfold cutD
  have h : HT.sIx xs.length xs.length (some n) = HT.sIx xs.length 0 (some n) := rfl
  rw [Int.add_zero, h, Nat.sub_self, List.take_zero]
inductive Rouse : Row → Str → Int → Int → Option Str → Prop where
  | wake (r : Str) (n : Int) : Rouse (.wake r n) r n 0 none
  | move (r o : Str) (n m : Int) : Rouse (.move r o n m) r n m (some o)
theorem woke_at {row : Row} (h : row.sleeps = true) : wokeAt (some row) = row.woke := rfl
end
end Doz
end
section
namespace Doz
open PySem L2
theorem row_cases (row : Row) : row.plain = true ∨ row.sleeps = true ∨ ∃ r n k o, Rouse row r n k o := by
  cases row with
  | wait => exact .inr (.inl rfl)
  | still => exact .inr (.inl rfl)
  | wake r n => exact .inr (.inr ⟨r, n, 0, none, .wake r n⟩)
  | move r o n m => exact .inr (.inr ⟨r, n, m, some o, .move r o n m⟩)
  | _ => exact .inl rfl
theorem step_rouse {W : Wo} {s : Sta} {k : Nat} {row : Row} {r : Str} {n m : Int} {o : Option Str} (h : Rouse row r n m o) : stepP W s k row = rouseP W s k r n m o := by cases h <;> rfl
theorem step_plain {W : Wo} {s : Sta} {k : Nat} {row : Row} (h : row.plain = true) : stepP W s k row = flatP W s k row := by cases row <;> first | rfl | (cases h; done)
section
variable {c : Cl} {μ : Mem} {a : Nat} {W : Wo} {m : D} {s : Sta}
end
end Doz
end
section
namespace Doz
open PySem L2
section
variable {c : Cl} {μ : Mem} {a p o : Nat} {W : Wo} {m : D} {s : Sta}
theorem wokenP_get {j : Nat} : ∀ (gs : List Int) (pl : List Int), (∀ g ∈ gs, 0 ≤ g) → (j : Int) ∉ gs → (wokenP W s pl gs)[j]? = pl[j]?
  | [], _, _, _ => rfl
  | g :: gs, pl, h0, hj => by
    show (wokenP W s (pl.set g.toNat (wokeAt (W.rowAt s g.toNat))) gs)[j]? = _
    rw [wokenP_get gs _ (fun x hx => h0 x (by simp [hx])) (fun z => hj (by simp [z]))]
    have : g.toNat ≠ j := fun z => hj (by have := h0 g (by simp); rw [← z, Int.toNat_of_nonneg this]; simp)
    exact List.getElem?_set_ne this
end
end Doz
end
section
namespace Doz
open PySem L2
def canM (W : Wo) (s : Sta) : List (Str × Nat) := (stepL W s W.plans.length).map (fun k => (("step" : Str), k)) ++ (lateL W s W.plans.length).map (fun k => (("late" : Str), k)) ++ (if W.nud = true then (lieL s W.plans.length).map (fun k => (("nudge" : Str), k)) else [])
def afterP (W : Wo) (s : Sta) (q : Str × Nat) : Sta := match W.rowAt s q.2 with
  | some row => if q.1 = "step" then stepP W s q.2 row else { s with pl := s.pl.set q.2 (if q.1 = "late" then row.late else row.woke), ln := leftP s.ln q.2 }
  | none => s
section
variable {c : Cl} {μ : Mem} {a p o : Nat} {W : Wo} {m : D} {s : Sta}
theorem can_mem (hs : s.Ok W) {q : Str × Nat} (h : q ∈ canM W s) : ∃ row, W.rowAt s q.2 = some row ∧ (q.1 = "step" ∨ ((q.1 = "late" ∨ q.1 = "nudge") ∧ row.sleeps = true ∧ (q.2 : Int) ∈ s.ln.flatten)) := by
  have lie : ∀ k, s.asleep k = true → ∃ row, W.rowAt s k = some row ∧ row.sleeps = true ∧ (k : Int) ∈ s.ln.flatten := fun k hk => by
    have hm : (k : Int) ∈ s.ln.flatten := of_decide_eq_true hk
    obtain ⟨j, r, e1, hr, hsl⟩ := hs.sl _ hm
    have e1 : k = j := by omega
    subst e1
    exact ⟨r, hr, hsl, hm⟩
  unfold canM at h
  rcases List.mem_append.mp h with h | h
  · rcases List.mem_append.mp h with h | h
    · obtain ⟨k, hk, rfl⟩ := List.mem_map.mp h
      have := (List.mem_filter.mp hk).2
      simp only [Bool.and_eq_true] at this
      obtain ⟨row, hr⟩ := Option.isSome_iff_exists.mp this.2
      exact ⟨row, hr, .inl rfl⟩
    · obtain ⟨k, hk, rfl⟩ := List.mem_map.mp h
      have := (List.mem_filter.mp hk).2
      simp only [Bool.and_eq_true] at this
      obtain ⟨row, h1, h2, h3⟩ := lie k this.1
      exact ⟨row, h1, .inr ⟨.inl rfl, h2, h3⟩⟩
  · split at h
    · obtain ⟨k, hk, rfl⟩ := List.mem_map.mp h
      obtain ⟨row, h1, h2, h3⟩ := lie k (List.mem_filter.mp hk).2
      exact ⟨row, h1, .inr ⟨.inr rfl, h2, h3⟩⟩
    · cases h
end
end Doz
end
section
namespace Doz
open PySem L2
theorem w_skip {t : MX Bool} {a b : MS} {δ : DEnv} {μ : Mem} {P : Po} (h1 : wE t δ μ (fun x μ' => x = false ∧ μ' = μ) noE) (h2 : wS b δ μ P) : wS (mseq (mifS t a mnx) b) δ μ P := by
  rw [wS_seq, wS_if]
  refine wR.go h1 ?_
  rintro _ _ ⟨rfl, rfl⟩
  exact h2
def Row.ahead (low : Int) : Row → Prop
  | .add _ _ _ way => low ≤ way
  | .cas _ _ _ way => low ≤ way
  | .swap _ _ _ way => low ≤ way
  | .take _ way => low ≤ way
  | .if_ _ _ way => low ≤ way
  | .wait _ _ ch wo la => low ≤ ch ∧ low ≤ wo ∧ (la = -1 ∨ low ≤ la)
  | .still _ ch wo la => low ≤ ch ∧ low ≤ wo ∧ (la = -1 ∨ low ≤ la)
  | _ => True
def Row.word : Row → Str
  | .set .. => "set" | .add .. => "add" | .cas .. => "cas" | .swap .. => "swap" | .take .. => "take" | .if_ .. => "if" | .load .. => "load" | .wait .. => "wait" | .still .. => "still" | .wake .. => "wake" | .move .. => "move"
end Doz
end
section
namespace Doz
open PySem L2
theorem txtsOf_enc {β : Type} (g : β → D) : ∀ l : List (Str × β), txtsOf (encS g l) = some (l.map (·.1))
  | [] => rfl
  | p :: l => by
    show (txtsOf (encS g l)).map (p.1 :: ·) = _
    rw [txtsOf_enc g l]; rfl
theorem w_sortDS {β : Type} {μ : Mem} {n : Nat} {g : β → D} {p : Str × β} {l : List (Str × β)} (h : μ.cells[n]? = some (.dK (encS g (p :: l)))) (hl : (p :: l).length < 64) (Q : List D → Mem → Prop) (E : EP) : wR (fSortDN [.loc n] μ) Q E = Q ((sortTxts ((p :: l).map (·.1))).map D.str) μ := by
  have e : fSortDN [.loc n] μ = .ok ((sortTxts ((p :: l).map (·.1))).map D.str) μ := by
    unfold fSortDN
    have : dictOf μ (.loc n) = some (encS g (p :: l)) := by unfold dictOf; dsimp only; rw [h]
    dsimp only
    rw [this]; dsimp only
    have i0 : intsOf (encS g (p :: l)) = none := rfl
    rw [i0, txtsOf_enc]; dsimp only
    rw [if_pos (by simpa using hl)]
  rw [e]; rfl
theorem mem_sortTxts {xs : List Str} {w : Str} : w ∈ sortTxts xs ↔ w ∈ xs := (List.mergeSort_perm xs _).mem_iff
theorem len_sortTxts (xs : List Str) : (sortTxts xs).length = xs.length := (List.mergeSort_perm xs _).length_eq
theorem Row.ok.to {ns ms : List Str} {k : Nat} {r : Row} (h : r.ok ns k) (hs : ∀ w ∈ ns, w ∈ ms) : r.ok ms k := by
  cases r with
  | set => exact hs _ h
  | load => exact hs _ h
  | move => exact ⟨hs _ h.1, hs _ h.2.1, h.2.2⟩
  | _ => exact ⟨hs _ h.1, h.2⟩
def aheadP (plan : List Row) : Prop := ∀ (k : Nat) (row : Row), plan[k]? = some row → row.ahead ((k : Int) + 1)
section
variable {c : Cl} {μ : Mem}
end
end Doz
end
end
section
open PySem L2 Doz
local macro_rules | `(tactic| simp_arith only [$xs,*]) => `(tactic| simp -failIfUnchanged -implicitDefEqProofs (disch := (first | (simp only [Doz.len_push, Doz.len_set]; omega) | omega | assumption)) only [↓wR_ok, ↓wR_err, ↓wE_var0, ↓wE_varS, ↓wE_C, ↓wE_op, ↓wE_cmp, ↓wE_bl, ↓qB_bl, ↓wE_asB, ↓wE_and, ↓wE_or, ↓wE_not, ↓wE_andV, ↓wE_orV, ↓wE_notV, ↓wE_if, ↓wE_nil, ↓wE_cons, ↓wE_fz, ↓wE_lc, ↓wE_tup, ↓wE_lst, ↓wE_call, ↓wE_nopart, ↓qI_int, ↓wE_part, ↓wE_slice, ↓wE_fld, ↓wE_dnew, ↓wE_iter, ↓wE_rev, ↓wE_pos, ↓wE_kws, ↓wE_noa, ↓wE_both, ↓wE_fn, ↓wE_mth, ↓qN_non, ↓wE_mk, ↓wE_meth, ↓wE_neg, ↓wE_chain, ↓wE_comp, ↓wS_nx, ↓wS_bk, ↓wS_ct, ↓wS_seq, ↓wS_drop, ↓wS_ret, ↓wS_retN, ↓wS_if, ↓wS_asg, ↓qL_loc, ↓qCl_lst, ↓wS_retFz, ↓wS_raise, ↓wS_for, ↓wS_try, ↓wG_set0, ↓wG_setS, ↓wG_then, ↓wG_sub, ↓wG_fld, ↓qT_tup, ↓wG_tup, ↓wGs_nil, ↓wGs_cons, ↓endB_nx, ↓endB_rt, ↓endB_er, ↓endB_bk, ↓endB_ct, ↓loopP_nx, ↓loopP_ct, ↓loopP_bk, ↓loopP_rt, ↓loopP_er, ↓qO_some, ↓qO_at0, ↓qO_at1, ↓qO_at2, ↓qO_at3, ↓qO_at4, ↓qO_at5, ↓w_add_int, ↓w_add_str, ↓w_add_tup, ↓w_add_lst, ↓w_sub, ↓w_mod, ↓w_div, ↓w_mul, ↓w_pow, ↓w_band, ↓w_lt, ↓w_le, ↓w_gt, ↓w_ge, ↓w_is, ↓w_isNot, ↓nonN, ↓nonI, ↓nonS, ↓nonT, ↓nonL, ↓nonLoc, ↓w_eq_int, ↓w_ne_int, ↓w_eq_str, ↓w_ne_str, ↓qIx_lst, ↓qIx_dK, ↓qIxS_dK, ↓w_ix_loc, ↓w_ix_locS, ↓w_ix_lst, ↓w_ix_tup, ↓w_ix_str, ↓qLS_0, ↓qLS_1, ↓qLS_2, ↓qLS_3, ↓qSet_lst, ↓qSet_dK, ↓qSetS_dK, ↓w_setI, ↓w_setS, ↓qF_ins, ↓w_fld, ↓qSF_ins, ↓w_setF, ↓w_len_str, ↓w_len_lst, ↓w_len_tup, ↓qLen_lst, ↓qLen_dK, ↓w_len_loc, ↓w_max, ↓w_min, ↓w_int_int, ↓w_int_bl, ↓w_str_int, ↓qDc_dK, ↓w_dict, ↓w_tuple_lst, ↓w_tuple_tup, ↓w_tuple_loc, ↓w_list_lst, ↓w_list_tup, ↓w_iter_lst, ↓w_iter_tup, ↓w_iter_str, ↓w_iter_loc, ↓w_rng1, ↓w_rng2, ↓w_sl_str, ↓w_sl_tup, ↓w_sl_lst, ↓w_append, ↓w_lclear, ↓tyS_str, ↓tyL_lst, ↓qM_loc, ↓look1, ↓wC_set, ↓wC_setn, ↓wC_push2, ↓wC_pushn, ↓wE_yes, ↓wE_revL, ↓qO_lst, ↓w_all_lst, ↓w_join_lst, ↓wE_get1, ↓wE_get2, ↓wE_pop1, ↓qO_keyI, ↓qO_keyS, ↓qIns_ins, ↓wS_faug, ↓wE_disp, ↓wE_pairs0, ↓wE_pairsC, ↓keysOf0, ↓keysOfS, ↓keysOfI, ↓wE_keys, ↓wE_sliceN, ↓wE_sortK, ↓hb_place, ↓hb_turn, ↓hb_since, ↓hb_until, ↓hb_mask, ↓hbm_meets, ↓hbm_is_over, ↓hbm_twin, ↓isi_non_int, ↓isi_non_bool, ↓isi_non_str, ↓isi_non_tuple, ↓isi_non_list, ↓isi_non_dict, ↓isi_bl_int, ↓isi_bl_bool, ↓isi_bl_str, ↓isi_bl_tuple, ↓isi_bl_list, ↓isi_bl_dict, ↓isi_int_int, ↓isi_int_bool, ↓isi_int_str, ↓isi_int_tuple, ↓isi_int_list, ↓isi_int_dict, ↓isi_str_int, ↓isi_str_bool, ↓isi_str_str, ↓isi_str_tuple, ↓isi_str_list, ↓isi_str_dict, ↓isi_tup_int, ↓isi_tup_bool, ↓isi_tup_str, ↓isi_tup_tuple, ↓isi_tup_list, ↓isi_tup_dict, ↓isi_lst_int, ↓isi_lst_bool, ↓isi_lst_str, ↓isi_lst_tuple, ↓isi_lst_list, ↓isi_lst_dict, ↓hm_look_for, ↓hm_look_awake, ↓hm_next_turn, ↓hm_lie_down, ↓hm_rise, ↓hm_is_over, ↓hm_put, ↓hm_sleep, ↓hm_wake, ↓hm_move, ↓hm_tick, ↓hm_lateness, ↓hm_nudge, ↓hm_rank, ↓hm_number, ↓hm_line, ↓hm_line_at, ↓hm_order, ↓hm_asleep, ↓hm_sleeper, ↓hm_ending, ↓hm_standing, ↓hm_now, ↓hm_log, ↓hm_who, ↓hm_filled, ↓hm_twin, ↓hf_numbers, ↓hf_beds, ↓hf_ranks, ↓hf_endings, ↓hf_clock, ↓hf_turns, ↓hf_begun, ↓hf_entries, ↓wE_chainV, ↓wS_aug, ↓wG_unl, ↓wE_repN, ↓wE_dc2, ↓wE_dc, ↓w_in2, ↓w_in5, decide_eq_true_eq, beq_iff_eq, Bool.not_eq_true', Bool.not_eq_eq_eq_not, Bool.not_true, Bool.not_false, decide_eq_false_iff_not, beq_eq_false_iff_ne, ne_eq, true_and, and_true, if_true, if_false, ite_true, ite_false, reduceIte, Bool.false_eq_true, not_false_eq_true, not_true_eq_false, Int.reduceLT, Int.reduceLE, Int.reduceToNat, Nat.reduceLT, Nat.reduceLeDiff, Int.reducePow, Nat.reduceAdd, Int.reduceAdd, Int.reduceMul, Int.reduceSub, Int.reduceNeg, Nat.reducePow, Int.reduceEq, Nat.reduceEqDiff, List.length_cons, List.length_nil, PySem.sizeLine_eq, str_len_app, str_len_one, wipeD, List.set_cons_zero, List.set_cons_succ, $xs,*])
section
namespace Doz
open PySem L2
section
variable {c : Cl} {μ : Mem} {A : HA} {S : HS}
theorem cutD_mid {α : Type} (xs : List α) {i j : Int} (hi : 0 ≤ i) (hj : 0 ≤ j) : cutD xs (some i) (some (i + j)) = (xs.drop i.toNat).take j.toNat := by
  obtain ⟨m, rfl⟩ := Int.eq_ofNat_of_zero_le hi
  obtain ⟨n, rfl⟩ := Int.eq_ofNat_of_zero_le hj
  have e : ((m : Int) + (n : Int)) = ((m + n : Nat) : Int) := by omega
  unfold cutD
  rw [e, HT.sIx_nat, HT.sIx_nat, Int.toNat_natCast, Int.toNat_natCast]
  by_cases h : m ≤ xs.length
  · rw [Nat.min_eq_left h]
    by_cases h2 : m + n ≤ xs.length
    · rw [Nat.min_eq_left h2]; congr 1; omega
    · rw [Nat.min_eq_right (by omega), List.take_of_length_le (by simp), List.take_of_length_le (by simp; omega)]
  · have e1 : min m xs.length = xs.length := by omega
    rw [e1, List.drop_of_length_le (Nat.le_refl _), List.drop_of_length_le (show xs.length ≤ m by omega)]; simp
end
end Doz
end
end
section
namespace DozK
open PySem L2 Doz
structure BK where
  lk : List Str
  cd : List (Str × Str)
  ct : List (Str × Int)
  ce : List (Str × Int)
def pSS (p : Str × Str) : D := .tup [.str p.1, .str p.2]
def pSI (p : Str × Int) : D := .tup [.str p.1, .int p.2]
def BK.d (b : BK) : D := .tup [.lst (b.lk.map D.str), .lst (b.cd.map pSS), .lst (b.ct.map pSI), .lst (b.ce.map pSI)]
def BK.names (b : BK) : List Str := b.lk ++ b.cd.map (·.1) ++ b.ct.map (·.1) ++ b.ce.map (·.1)
structure WordK (w : Str) : Prop where
  pos : 1 ≤ w.length
  le : w.length ≤ 8
  low : Low w
theorem WordK.ok {w : Str} (h : WordK w) : PyData.strOk w = true := h.low.ok
structure BK.Ok (b : BK) : Prop where
  nd : b.names.Nodup
  word : ∀ w ∈ b.names, WordK w
  lk : 1 ≤ b.lk.length ∧ b.lk.length ≤ 3
  cd : b.cd.length ≤ 3
  ct : b.ct.length ≤ 2
  ce : 1 ≤ b.ce.length ∧ b.ce.length ≤ 3
  lock : ∀ p ∈ b.cd, p.2 ∈ b.lk
  num : ∀ p ∈ b.ct ++ b.ce, -(10 ^ 60) ≤ p.2 ∧ p.2 ≤ 10 ^ 60
theorem w_compL {α : Type} {f : α → D} {g : MG} {mt : MX Bool} {me : ME} {gd : Mem → Bool} {δ : DEnv} {μ : Mem} {xs : List α} {Q : List D → Mem → Prop} {E : EP} (J : List α → List D → Mem → Prop) (hg : ∀ done ys μ, J done ys μ → gd μ = true) (h0 : J [] [] μ)
    (hs : ∀ a done rest ys μ, xs = done ++ a :: rest → J done ys μ → wG g (f a) δ μ (fun δ1 μ1 => wE mt δ1 μ1 (fun b μ2 => if b = true then wE me δ1 μ2 (fun y μ3 => J (done ++ [a]) (ys ++ [y]) μ3) noE else J (done ++ [a]) ys μ2) noE) noE)
    (he : ∀ ys μ, J xs ys μ → Q ys μ) : wR (compL g mt me gd δ (xs.map f) μ) Q E := by
  refine w_comp (fun ds ys μ => ∃ done rest, xs = done ++ rest ∧ ds = rest.map f ∧ J done ys μ) (fun ds ys μ ⟨_, _, _, _, h⟩ => hg _ _ _ h) ?_ (xs.map f) [] μ Q E ⟨[], xs, rfl, rfl, h0⟩ ?_
  · rintro d ds ys μ ⟨done, rest, e1, e2, h⟩
    cases rest with
    | nil => cases e2
    | cons a rest =>
      rw [List.map_cons] at e2
      injection e2 with e2 e3
      subst e2
      have z := hs a done rest ys μ e1 h
      unfold wG at z ⊢
      refine wR.imp z fun δ1 μ1 z => ?_
      unfold Doz.wE at z ⊢
      refine wR.imp z fun b μ2 z => ?_
      cases b with
      | false => exact ⟨done ++ [a], rest, by rw [e1]; simp, e3, z⟩
      | true =>
        refine wR.imp z fun y μ3 z => ?_
        exact ⟨done ++ [a], rest, by rw [e1]; simp, e3, z⟩
  · rintro zs μ ⟨done, rest, e1, e2, h⟩
    cases rest with
    | nil => rw [List.append_nil] at e1; subst e1; exact he _ _ (by simpa using h)
    | cons a rest => cases e2
theorem at_strs {xs : List Str} {i : Int} (h0 : 0 ≤ i) (h1 : i < xs.length) : ∃ w ∈ xs, atI (xs.map D.str) i = some (.str w) := by
  obtain ⟨v, e, e'⟩ := atI_lt h0 h1
  exact ⟨v, List.mem_of_getElem? e', by rw [atI_map, e]; rfl⟩
theorem at_maps {α : Type} (f : α → D) {xs : List α} {i : Int} (h0 : 0 ≤ i) (h1 : i < xs.length) : ∃ w ∈ xs, atI (xs.map f) i = some (f w) := by
  obtain ⟨v, e, e'⟩ := atI_lt h0 h1
  exact ⟨v, List.mem_of_getElem? e', by rw [atI_map, e]; rfl⟩
theorem w_abs {μ : Mem} {E : EP} (i : Int) (Q : D → Mem → Prop) : wR (fAbs [.int i] μ) Q E = Q (.int (if i < 0 then -i else i)) μ := rfl
section
variable {c : Cl} {μ μ' : Mem} {n : Nat} {B : Int}
local macro_rules | `(tactic| simp_arith only [$xs,*]) => `(tactic| simp -failIfUnchanged -implicitDefEqProofs (disch := (first | (simp only [Doz.len_push, Doz.len_set]; omega) | omega | assumption)) only [↓wR_ok, ↓wR_err, ↓wE_var0, ↓wE_varS, ↓wE_C, ↓wE_op, ↓wE_cmp, ↓wE_bl, ↓qB_bl, ↓wE_asB, ↓wE_and, ↓wE_or, ↓wE_not, ↓wE_andV, ↓wE_orV, ↓wE_notV, ↓wE_if, ↓wE_nil, ↓wE_cons, ↓wE_fz, ↓wE_lc, ↓wE_tup, ↓wE_lst, ↓wE_call, ↓wE_nopart, ↓qI_int, ↓wE_part, ↓wE_slice, ↓wE_fld, ↓wE_dnew, ↓wE_iter, ↓wE_rev, ↓wE_pos, ↓wE_kws, ↓wE_noa, ↓wE_both, ↓wE_fn, ↓wE_mth, ↓qN_non, ↓wE_mk, ↓wE_meth, ↓wE_neg, ↓wE_chain, ↓wE_comp, ↓wS_nx, ↓wS_bk, ↓wS_ct, ↓wS_seq, ↓wS_drop, ↓wS_ret, ↓wS_retN, ↓wS_if, ↓wS_asg, ↓qL_loc, ↓qCl_lst, ↓wS_retFz, ↓wS_raise, ↓wS_for, ↓wS_try, ↓wG_set0, ↓wG_setS, ↓wG_then, ↓wG_sub, ↓wG_fld, ↓qT_tup, ↓wG_tup, ↓wGs_nil, ↓wGs_cons, ↓endB_nx, ↓endB_rt, ↓endB_er, ↓endB_bk, ↓endB_ct, ↓loopP_nx, ↓loopP_ct, ↓loopP_bk, ↓loopP_rt, ↓loopP_er, ↓qO_some, ↓qO_at0, ↓qO_at1, ↓qO_at2, ↓qO_at3, ↓qO_at4, ↓qO_at5, ↓w_add_int, ↓w_add_str, ↓w_add_tup, ↓w_add_lst, ↓w_sub, ↓w_mod, ↓w_div, ↓w_mul, ↓w_pow, ↓w_band, ↓w_lt, ↓w_le, ↓w_gt, ↓w_ge, ↓w_is, ↓w_isNot, ↓nonN, ↓nonI, ↓nonS, ↓nonT, ↓nonL, ↓nonLoc, ↓w_eq_int, ↓w_ne_int, ↓w_eq_str, ↓w_ne_str, ↓qIx_lst, ↓qIx_dK, ↓qIxS_dK, ↓w_ix_loc, ↓w_ix_locS, ↓w_ix_lst, ↓w_ix_tup, ↓w_ix_str, ↓qLS_0, ↓qLS_1, ↓qLS_2, ↓qLS_3, ↓qSet_lst, ↓qSet_dK, ↓qSetS_dK, ↓w_setI, ↓w_setS, ↓qF_ins, ↓w_fld, ↓qSF_ins, ↓w_setF, ↓w_len_str, ↓w_len_lst, ↓w_len_tup, ↓qLen_lst, ↓qLen_dK, ↓w_len_loc, ↓w_max, ↓w_min, ↓w_int_int, ↓w_int_bl, ↓w_str_int, ↓qDc_dK, ↓w_dict, ↓w_tuple_lst, ↓w_tuple_tup, ↓w_tuple_loc, ↓w_list_lst, ↓w_list_tup, ↓w_iter_lst, ↓w_iter_tup, ↓w_iter_str, ↓w_iter_loc, ↓w_rng1, ↓w_rng2, ↓w_sl_str, ↓w_sl_tup, ↓w_sl_lst, ↓w_append, ↓w_lclear, ↓tyS_str, ↓tyL_lst, ↓qM_loc, ↓look1, ↓wC_set, ↓wC_setn, ↓wC_push2, ↓wC_pushn, ↓wE_yes, ↓wE_revL, ↓qO_lst, ↓w_all_lst, ↓w_join_lst, ↓wE_get1, ↓wE_get2, ↓wE_pop1, ↓qO_keyI, ↓qO_keyS, ↓qIns_ins, ↓wS_faug, ↓wE_disp, ↓wE_pairs0, ↓wE_pairsC, ↓keysOf0, ↓keysOfS, ↓keysOfI, ↓wE_keys, ↓wE_sliceN, ↓wE_sortK, ↓hb_place, ↓hb_turn, ↓hb_since, ↓hb_until, ↓hb_mask, ↓hbm_meets, ↓hbm_is_over, ↓hbm_twin, ↓isi_non_int, ↓isi_non_bool, ↓isi_non_str, ↓isi_non_tuple, ↓isi_non_list, ↓isi_non_dict, ↓isi_bl_int, ↓isi_bl_bool, ↓isi_bl_str, ↓isi_bl_tuple, ↓isi_bl_list, ↓isi_bl_dict, ↓isi_int_int, ↓isi_int_bool, ↓isi_int_str, ↓isi_int_tuple, ↓isi_int_list, ↓isi_int_dict, ↓isi_str_int, ↓isi_str_bool, ↓isi_str_str, ↓isi_str_tuple, ↓isi_str_list, ↓isi_str_dict, ↓isi_tup_int, ↓isi_tup_bool, ↓isi_tup_str, ↓isi_tup_tuple, ↓isi_tup_list, ↓isi_tup_dict, ↓isi_lst_int, ↓isi_lst_bool, ↓isi_lst_str, ↓isi_lst_tuple, ↓isi_lst_list, ↓isi_lst_dict, ↓hm_look_for, ↓hm_look_awake, ↓hm_next_turn, ↓hm_lie_down, ↓hm_rise, ↓hm_is_over, ↓hm_put, ↓hm_sleep, ↓hm_wake, ↓hm_move, ↓hm_tick, ↓hm_lateness, ↓hm_nudge, ↓hm_rank, ↓hm_number, ↓hm_line, ↓hm_line_at, ↓hm_order, ↓hm_asleep, ↓hm_sleeper, ↓hm_ending, ↓hm_standing, ↓hm_now, ↓hm_log, ↓hm_who, ↓hm_filled, ↓hm_twin, ↓hf_numbers, ↓hf_beds, ↓hf_ranks, ↓hf_endings, ↓hf_clock, ↓hf_turns, ↓hf_begun, ↓hf_entries, ↓wE_chainV, ↓wS_aug, ↓wG_unl, ↓wE_repN, ↓wE_dc2, ↓wE_dc, ↓w_in2, ↓w_in5, ↓wG_s32, ↓wG_s40_5, ↓wG_s40_6, ↓wE_catN, ↓qO_cat, ↓hw_plans, ↓hw_names, ↓hw_numbers, ↓hw_nudges, ↓hw_ranks, ↓hw_marks, ↓hwm_start, ↓hwm_row_at, ↓hwm_are_sizes, ↓hwm_is_state, ↓hwm_may_lie, ↓hwm_is_in_order, ↓hwm_can, ↓hwm_after, ↓hwm_stepped, ↓hwm_lain, ↓hwm_roused, ↓hwm_clash, ↓hwm_ended, ↓hwm_stuck, decide_eq_true_eq, beq_iff_eq, Bool.not_eq_true', Bool.not_eq_eq_eq_not, Bool.not_true, Bool.not_false, decide_eq_false_iff_not, beq_eq_false_iff_ne, ne_eq, true_and, and_true, if_true, if_false, ite_true, ite_false, ↓reduceIte, Bool.false_eq_true, not_false_eq_true, not_true_eq_false, Int.reduceLT, Int.reduceLE, Int.reduceToNat, Nat.reduceLT, Nat.reduceLeDiff, Int.reducePow, Nat.reduceAdd, Int.reduceAdd, Int.reduceMul, Int.reduceSub, Int.reduceNeg, Nat.reducePow, Int.reduceEq, Nat.reduceEqDiff, List.length_cons, List.length_nil, PySem.sizeLine_eq, str_len_app, str_len_one, wipeD, List.set_cons_zero, List.set_cons_succ, $xs,*])
theorem number_ok (h : SrcAt μ n B) (hB : B < 2 ^ 39) : wR (m_x__law_number_5 c [.loc n] μ) (fun v μ' => ∃ g : Int, v = .int g ∧ -(10 ^ 60) ≤ g ∧ g ≤ 10 ^ 60 ∧ SrcAt μ' n (B + 2) ∧ Fr [n] μ μ') noE := by
  have hp : PowOk 10 60 := powOk (by omega) (by omega) (by omega) (by omega)
  unfold m_x__law_number_5
  rw [w_run]
  show wS (t_x__law_number_5 c) [some (.loc n), none] μ _
  unfold t_x__law_number_5
  generalize hδ : ([some (.loc n), none] : DEnv) = δ0
  refine wS_cut (fun δ μ' => ∃ y : Int, 0 ≤ y ∧ y < 6 ∧ δ = [some (.loc n), some (.int y)] ∧ SrcAt μ' n (B + 1) ∧ Fr [n] μ μ') ?_ ?_
  · subst hδ
    simp_arith only [id_eq]
    refine (draw_ok h (by omega) (by omega) (by omega)).go ?_
    rintro _ μ1 ⟨y, rfl, y0, y1, s1, f1⟩
    exact ⟨y, y0, y1, rfl, s1, f1⟩
  rintro δ1 μ1 ⟨y, y0, y1, e1, s1, f1⟩
  subst e1
  by_cases h4 : y = 4
  · subst h4
    simp_arith only [beq_self_eq_true]
    refine ⟨hp, ?_⟩
    refine (draw_ok s1 (by omega) (by omega) (by omega)).go ?_
    rintro _ μ2 ⟨z, rfl, z0, z1, s2, f2⟩
    exact ⟨z, rfl, by omega, by omega, s2.mono (by omega), f1.trans f2⟩
  · have b4 : (y == 4) = false := by simpa using h4
    by_cases h5 : y = 5
    · subst h5
      simp_arith only [beq_self_eq_true]
      refine ⟨hp, ?_⟩
      refine (draw_ok s1 (by omega) (by omega) (by omega)).go ?_
      rintro _ μ2 ⟨z, rfl, z0, z1, s2, f2⟩
      simp_arith only [id_eq]
      exact ⟨_, rfl, by omega, by omega, s2.mono (by omega), f1.trans f2⟩
    · have b5 : (y == 5) = false := by simpa using h5
      simp_arith only [b4, b5]
      refine (draw_ok s1 (by omega) (by omega) (by omega)).go ?_
      rintro _ μ2 ⟨z, rfl, z0, z1, s2, f2⟩
      simp_arith only [id_eq]
      exact ⟨_, rfl, by omega, by omega, s2.mono (by omega), f1.trans f2⟩
end
end DozK
namespace DozK
open PySem L2 Doz
section
variable {c : Cl} {μ μ' : Mem} {n : Nat} {B : Int}
theorem ap3 {α : Type} (xs : List α) (a b e : Nat) : xs = xs.take a ++ (xs.drop a).take b ++ (xs.drop (a + b)).take e ++ xs.drop (a + b + e) := by
  have h1 := List.take_append_drop a xs
  have h2 := List.take_append_drop b (xs.drop a)
  have h3 := List.take_append_drop e (xs.drop (a + b))
  rw [List.drop_drop] at h2 h3
  rw [List.append_assoc, List.append_assoc, h3, h2, h1]
local macro_rules | `(tactic| simp_arith only [$xs,*]) => `(tactic| simp -failIfUnchanged -implicitDefEqProofs (disch := (first | (simp only [Doz.len_push, Doz.len_set]; omega) | omega | assumption)) only [↓wR_ok, ↓wR_err, ↓wE_var0, ↓wE_varS, ↓wE_C, ↓wE_op, ↓wE_cmp, ↓wE_bl, ↓qB_bl, ↓wE_asB, ↓wE_and, ↓wE_or, ↓wE_not, ↓wE_andV, ↓wE_orV, ↓wE_notV, ↓wE_if, ↓wE_nil, ↓wE_cons, ↓wE_fz, ↓wE_lc, ↓wE_tup, ↓wE_lst, ↓wE_call, ↓wE_nopart, ↓qI_int, ↓wE_part, ↓wE_slice, ↓wE_fld, ↓wE_dnew, ↓wE_iter, ↓wE_rev, ↓wE_pos, ↓wE_kws, ↓wE_noa, ↓wE_both, ↓wE_fn, ↓wE_mth, ↓qN_non, ↓wE_mk, ↓wE_meth, ↓wE_neg, ↓wE_chain, ↓wE_comp, ↓wS_nx, ↓wS_bk, ↓wS_ct, ↓wS_seq, ↓wS_drop, ↓wS_ret, ↓wS_retN, ↓wS_if, ↓wS_asg, ↓qL_loc, ↓qCl_lst, ↓wS_retFz, ↓wS_raise, ↓wS_for, ↓wS_try, ↓wG_set0, ↓wG_setS, ↓wG_then, ↓wG_sub, ↓wG_fld, ↓qT_tup, ↓wG_tup, ↓wGs_nil, ↓wGs_cons, ↓endB_nx, ↓endB_rt, ↓endB_er, ↓endB_bk, ↓endB_ct, ↓loopP_nx, ↓loopP_ct, ↓loopP_bk, ↓loopP_rt, ↓loopP_er, ↓qO_some, ↓qO_at0, ↓qO_at1, ↓qO_at2, ↓qO_at3, ↓qO_at4, ↓qO_at5, ↓w_add_int, ↓w_add_str, ↓w_add_tup, ↓w_add_lst, ↓w_sub, ↓w_mod, ↓w_div, ↓w_mul, ↓w_pow, ↓w_band, ↓w_lt, ↓w_le, ↓w_gt, ↓w_ge, ↓w_is, ↓w_isNot, ↓nonN, ↓nonI, ↓nonS, ↓nonT, ↓nonL, ↓nonLoc, ↓w_eq_int, ↓w_ne_int, ↓w_eq_str, ↓w_ne_str, ↓qIx_lst, ↓qIx_dK, ↓qIxS_dK, ↓w_ix_loc, ↓w_ix_locS, ↓w_ix_lst, ↓w_ix_tup, ↓w_ix_str, ↓qLS_0, ↓qLS_1, ↓qLS_2, ↓qLS_3, ↓qSet_lst, ↓qSet_dK, ↓qSetS_dK, ↓w_setI, ↓w_setS, ↓qF_ins, ↓w_fld, ↓qSF_ins, ↓w_setF, ↓w_len_str, ↓w_len_lst, ↓w_len_tup, ↓qLen_lst, ↓qLen_dK, ↓w_len_loc, ↓w_max, ↓w_min, ↓w_int_int, ↓w_int_bl, ↓w_str_int, ↓qDc_dK, ↓w_dict, ↓w_tuple_lst, ↓w_tuple_tup, ↓w_tuple_loc, ↓w_list_lst, ↓w_list_tup, ↓w_iter_lst, ↓w_iter_tup, ↓w_iter_str, ↓w_iter_loc, ↓w_rng1, ↓w_rng2, ↓w_sl_str, ↓w_sl_tup, ↓w_sl_lst, ↓w_append, ↓w_lclear, ↓tyS_str, ↓tyL_lst, ↓qM_loc, ↓look1, ↓wC_set, ↓wC_setn, ↓wC_push2, ↓wC_pushn, ↓wE_yes, ↓wE_revL, ↓qO_lst, ↓w_all_lst, ↓w_join_lst, ↓wE_get1, ↓wE_get2, ↓wE_pop1, ↓qO_keyI, ↓qO_keyS, ↓qIns_ins, ↓wS_faug, ↓wE_disp, ↓wE_pairs0, ↓wE_pairsC, ↓keysOf0, ↓keysOfS, ↓keysOfI, ↓wE_keys, ↓wE_sliceN, ↓wE_sortK, ↓hb_place, ↓hb_turn, ↓hb_since, ↓hb_until, ↓hb_mask, ↓hbm_meets, ↓hbm_is_over, ↓hbm_twin, ↓isi_non_int, ↓isi_non_bool, ↓isi_non_str, ↓isi_non_tuple, ↓isi_non_list, ↓isi_non_dict, ↓isi_bl_int, ↓isi_bl_bool, ↓isi_bl_str, ↓isi_bl_tuple, ↓isi_bl_list, ↓isi_bl_dict, ↓isi_int_int, ↓isi_int_bool, ↓isi_int_str, ↓isi_int_tuple, ↓isi_int_list, ↓isi_int_dict, ↓isi_str_int, ↓isi_str_bool, ↓isi_str_str, ↓isi_str_tuple, ↓isi_str_list, ↓isi_str_dict, ↓isi_tup_int, ↓isi_tup_bool, ↓isi_tup_str, ↓isi_tup_tuple, ↓isi_tup_list, ↓isi_tup_dict, ↓isi_lst_int, ↓isi_lst_bool, ↓isi_lst_str, ↓isi_lst_tuple, ↓isi_lst_list, ↓isi_lst_dict, ↓hm_look_for, ↓hm_look_awake, ↓hm_next_turn, ↓hm_lie_down, ↓hm_rise, ↓hm_is_over, ↓hm_put, ↓hm_sleep, ↓hm_wake, ↓hm_move, ↓hm_tick, ↓hm_lateness, ↓hm_nudge, ↓hm_rank, ↓hm_number, ↓hm_line, ↓hm_line_at, ↓hm_order, ↓hm_asleep, ↓hm_sleeper, ↓hm_ending, ↓hm_standing, ↓hm_now, ↓hm_log, ↓hm_who, ↓hm_filled, ↓hm_twin, ↓hf_numbers, ↓hf_beds, ↓hf_ranks, ↓hf_endings, ↓hf_clock, ↓hf_turns, ↓hf_begun, ↓hf_entries, ↓wE_chainV, ↓wS_aug, ↓wG_unl, ↓wE_repN, ↓wE_dc2, ↓wE_dc, ↓w_in2, ↓w_in5, ↓wG_s32, ↓wG_s40_5, ↓wG_s40_6, ↓wE_catN, ↓qO_cat, ↓hw_plans, ↓hw_names, ↓hw_numbers, ↓hw_nudges, ↓hw_ranks, ↓hw_marks, ↓hwm_start, ↓hwm_row_at, ↓hwm_are_sizes, ↓hwm_is_state, ↓hwm_may_lie, ↓hwm_is_in_order, ↓hwm_can, ↓hwm_after, ↓hwm_stepped, ↓hwm_lain, ↓hwm_roused, ↓hwm_clash, ↓hwm_ended, ↓hwm_stuck, decide_eq_true_eq, beq_iff_eq, Bool.not_eq_true', Bool.not_eq_eq_eq_not, Bool.not_true, Bool.not_false, decide_eq_false_iff_not, beq_eq_false_iff_ne, ne_eq, true_and, and_true, if_true, if_false, ite_true, ite_false, ↓reduceIte, Bool.false_eq_true, not_false_eq_true, not_true_eq_false, Int.reduceLT, Int.reduceLE, Int.reduceToNat, Nat.reduceLT, Nat.reduceLeDiff, Int.reducePow, Nat.reduceAdd, Int.reduceAdd, Int.reduceMul, Int.reduceSub, Int.reduceNeg, Nat.reducePow, Int.reduceEq, Nat.reduceEqDiff, List.length_cons, List.length_nil, PySem.sizeLine_eq, str_len_app, str_len_one, wipeD, List.set_cons_zero, List.set_cons_succ, $xs,*])
theorem book_okW (h : SrcAt μ n B) (hB0 : 0 ≤ B) (hB : B < 100000) (hlk : μ.lk = []) : wR (m_x__law_book c [.loc n] μ) (fun v μ' => ∃ b : BK, v = b.d ∧ b.Ok ∧ ((∀ w ∈ b.names, Word w) ∧ ∀ p ∈ b.ct, 0 ≤ p.2) ∧ SrcAt μ' n (B + 200) ∧ Fr [n] μ μ') noE := by
  unfold m_x__law_book
  rw [w_run]
  show wS (t_x__law_book c) [some (.loc n), none, none, none, none, none, none, none, none] μ _
  unfold t_x__law_book
  generalize hδ : ([some (.loc n), none, none, none, none, none, none, none, none] : DEnv) = δ0
  refine wS_cut (fun δ μ' => ∃ a b e f : Int, (1 ≤ a ∧ a ≤ 3) ∧ (0 ≤ b ∧ b ≤ 3) ∧ (0 ≤ e ∧ e ≤ 2) ∧ (1 ≤ f ∧ f ≤ 3) ∧ δ = [some (.loc n), some (.lst [.int a, .int b, .int e, .int f]), none, none, none, none, none, none, none] ∧ SrcAt μ' n (B + 4) ∧ Fr [n] μ μ') ?_ ?_
  · subst hδ
    simp_arith only [id_eq]
    refine (draw_ok h (by omega) (by omega) (by omega)).go ?_
    rintro _ μ1 ⟨d1, rfl, a0, a1, s1, f1⟩
    simp_arith only [id_eq]
    refine (draw_ok s1 (by omega) (by omega) (by omega)).go ?_
    rintro _ μ2 ⟨d2, rfl, b0, b1, s2, f2⟩
    simp_arith only [id_eq]
    refine (draw_ok s2 (by omega) (by omega) (by omega)).go ?_
    rintro _ μ3 ⟨d3, rfl, e0, e1, s3, f3⟩
    simp_arith only [id_eq]
    refine (draw_ok s3 (by omega) (by omega) (by omega)).go ?_
    rintro _ μ4 ⟨d4, rfl, g0, g1, s4, f4⟩
    simp_arith only [id_eq]
    exact ⟨_, _, _, _, by omega, by omega, by omega, by omega, rfl, s4.mono (by omega), ((f1.trans f2).trans f3).trans f4⟩
  rintro δ1 μ1 ⟨a, b, e, f, ha, hb, he, hf, e1, s1, f1⟩
  refine wS_cut (fun δ μ' => ∃ ws : List Str, (ws.length : Int) = a + b + e + f ∧ ws.Nodup ∧ (∀ w ∈ ws, Word w) ∧ δ = [some (.loc n), some (.lst [.int a, .int b, .int e, .int f]), some (.lst (ws.map D.str)), none, none, none, none, none, none] ∧ SrcAt μ' n (B + 110) ∧ Fr [n] μ μ') ?_ ?_
  · subst e1
    simp_arith only [id_eq]
    refine (names_ok s1 (by omega) (by omega) (by omega) (by omega) (by rw [f1.lk]; exact hlk)).go ?_
    rintro _ μ2 ⟨ws, rfl, hl, hnd, hw, s2, f2⟩
    simp_arith only [id_eq]
    exact ⟨ws, hl, hnd, hw, rfl, s2.mono (by omega), f1.trans f2⟩
  rintro δ2 μ2 ⟨ws, hl, hnd, hw, e2, s2, f2⟩
  have cat := ap3 ws a.toNat b.toNat e.toNat
  obtain ⟨A, hA⟩ : ∃ A, A = ws.take a.toNat := ⟨_, rfl⟩
  obtain ⟨Bw, hB'⟩ : ∃ Bw, Bw = (ws.drop a.toNat).take b.toNat := ⟨_, rfl⟩
  obtain ⟨Ew, hE'⟩ : ∃ Ew, Ew = (ws.drop (a.toNat + b.toNat)).take e.toNat := ⟨_, rfl⟩
  obtain ⟨Fw, hF'⟩ : ∃ Fw, Fw = ws.drop (a.toNat + b.toNat + e.toNat) := ⟨_, rfl⟩
  have lA : A.length = a.toNat := by rw [hA, List.length_take]; omega
  have lB : Bw.length = b.toNat := by rw [hB', List.length_take, List.length_drop]; omega
  have lE : Ew.length = e.toNat := by rw [hE', List.length_take, List.length_drop]; omega
  have lF : Fw.length = f.toNat := by rw [hF', List.length_drop]; omega
  rw [← hA, ← hB', ← hE', ← hF'] at cat
  have cA : cutD (ws.map D.str) none (some a) = A.map D.str := by rw [cutD_map, cutD_to ws (by omega), hA]
  have cB : cutD (ws.map D.str) (some a) (some (a + b)) = Bw.map D.str := by rw [cutD_map, cutD_mid ws (by omega) (by omega), hB']
  have cE : cutD (ws.map D.str) (some (a + b)) (some (a + b + e)) = Ew.map D.str := by
    rw [cutD_map, cutD_mid ws (by omega) (by omega), hE']
    rw [show (a + b).toNat = a.toNat + b.toNat by omega]
  have cF : cutD (ws.map D.str) (some (a + b + e)) none = Fw.map D.str := by
    rw [cutD_map, cutD_from ws (by omega), hF']
    rw [show (a + b + e).toNat = a.toNat + b.toNat + e.toNat by omega]
  refine wS_cut (fun δ μ' => δ = [some (.loc n), some (.lst [.int a, .int b, .int e, .int f]), some (.lst (ws.map D.str)), some (.lst (A.map D.str)), none, none, none, none, none] ∧ μ' = μ2) ?_ ?_
  · subst e2
    simp_arith only [cA]
  rintro δ3 _ ⟨e3, e0⟩
  replace e0 := e0.symm
  subst e0
  refine wS_cut (fun δ μ' => δ = [some (.loc n), some (.lst [.int a, .int b, .int e, .int f]), some (.lst (ws.map D.str)), some (.lst (A.map D.str)), some (.int (a + b)), none, none, none, none] ∧ μ' = μ2) ?_ ?_
  · subst e3
    simp_arith only [id_eq]
  rintro δ4 _ ⟨e4, e0⟩
  replace e0 := e0.symm
  subst e0
  refine wS_cut (fun δ μ' => ∃ cd : List (Str × Str), cd.map (·.1) = Bw ∧ (∀ p ∈ cd, p.2 ∈ A) ∧ δ = [some (.loc n), some (.lst [.int a, .int b, .int e, .int f]), some (.lst (ws.map D.str)), some (.lst (A.map D.str)), some (.int (a + b)), some (.lst (cd.map pSS)), none, none, none] ∧ SrcAt μ' n (B + 120) ∧ Fr [n] μ μ') ?_ ?_
  · subst e4
    simp_arith only [cB, List.length_map]
    refine ⟨by omega, ?_⟩
    refine w_compL (f := D.str) (xs := Bw) (fun done ys μ' => ∃ cd : List (Str × Str), ys = cd.map pSS ∧ cd.map (·.1) = done ∧ (∀ p ∈ cd, p.2 ∈ A) ∧ SrcAt μ' n (B + 110 + done.length) ∧ Fr [n] μ μ') (fun _ _ _ _ => rfl) ⟨[], rfl, rfl, by simp, by simpa using s2, f2⟩ ?_ ?_
    · rintro x done rest ys μ3 hx ⟨cd, rfl, hcd, hcA, s3, f3⟩
      have dl : done.length < 3 := by have := congrArg List.length hx; simp at this; omega
      simp_arith only [id_eq]
      refine (draw_ok s3 (by omega) (by omega) (by omega)).go ?_
      rintro _ μ4 ⟨d, rfl, d0, d1, s4, f4⟩
      obtain ⟨w, hw', ea⟩ := at_strs (xs := A) d0 (by omega)
      simp_arith only [↓qO_of ea]
      refine ⟨cd ++ [(x, w)], by simp [pSS], by rw [List.map_append, hcd]; rfl, ?_, s4.mono (by simp; omega), f3.trans f4⟩
      intro p hp
      rcases List.mem_append.mp hp with hp | hp
      · exact hcA p hp
      · rw [List.mem_singleton.mp hp]; exact hw'
    · rintro ys μ3 ⟨cd, rfl, hcd, hcA, s3, f3⟩
      simp_arith only [id_eq]
      exact ⟨cd, hcd, hcA, rfl, s3.mono (by omega), f3⟩
  rintro δ5 μ5 ⟨cd, hcd, hcA, e5, s5, f5⟩
  refine wS_cut (fun δ μ' => ∃ ct : List (Str × Int), ct.map (·.1) = Ew ∧ (∀ p ∈ ct, 0 ≤ p.2 ∧ p.2 ≤ 10 ^ 60) ∧ δ = [some (.loc n), some (.lst [.int a, .int b, .int e, .int f]), some (.lst (ws.map D.str)), some (.lst (A.map D.str)), some (.int (a + b)), some (.lst (cd.map pSS)), some (.lst (ct.map pSI)), none, none] ∧ SrcAt μ' n (B + 130) ∧ Fr [n] μ μ') ?_ ?_
  · subst e5
    simp_arith only [cE, List.length_map]
    refine ⟨by omega, ?_⟩
    refine w_compL (f := D.str) (xs := Ew) (fun done ys μ' => ∃ ct : List (Str × Int), ys = ct.map pSI ∧ ct.map (·.1) = done ∧ (∀ p ∈ ct, 0 ≤ p.2 ∧ p.2 ≤ 10 ^ 60) ∧ SrcAt μ' n (B + 120 + 2 * done.length) ∧ Fr [n] μ μ') (fun _ _ _ _ => rfl) ⟨[], rfl, rfl, by simp, by simpa using s5, f5⟩ ?_ ?_
    · rintro x done rest ys μ3 hx ⟨ct, rfl, hcd, hcA, s3, f3⟩
      have dl : done.length < 3 := by have := congrArg List.length hx; simp at this; omega
      simp_arith only [id_eq]
      refine (number_ok s3 (by omega)).go ?_
      rintro _ μ4 ⟨g, rfl, g0, g1, s4, f4⟩
      simp_arith only [↓w_abs]
      refine ⟨ct ++ [(x, if g < 0 then -g else g)], by simp [pSI], by rw [List.map_append, hcd]; rfl, ?_, s4.mono (by simp; omega), f3.trans f4⟩
      intro p hp
      rcases List.mem_append.mp hp with hp | hp
      · exact hcA p hp
      · rw [List.mem_singleton.mp hp]
        dsimp only
        split <;> omega
    · rintro ys μ3 ⟨ct, rfl, hcd, hcA, s3, f3⟩
      simp_arith only [id_eq]
      exact ⟨ct, hcd, hcA, rfl, s3.mono (by omega), f3⟩
  rintro δ6 μ6 ⟨ct, hct, hctn, e6, s6, f6⟩
  refine wS_cut (fun δ μ' => ∃ ce : List (Str × Int), ce.map (·.1) = Fw ∧ (∀ p ∈ ce, -(10 ^ 60) ≤ p.2 ∧ p.2 ≤ 10 ^ 60) ∧ δ = [some (.loc n), some (.lst [.int a, .int b, .int e, .int f]), some (.lst (ws.map D.str)), some (.lst (A.map D.str)), some (.int (a + b)), some (.lst (cd.map pSS)), some (.lst (ct.map pSI)), some (.lst (ce.map pSI)), none] ∧ SrcAt μ' n (B + 140) ∧ Fr [n] μ μ') ?_ ?_
  · subst e6
    simp_arith only [cF, List.length_map]
    refine ⟨by omega, ?_⟩
    refine w_compL (f := D.str) (xs := Fw) (fun done ys μ' => ∃ ct : List (Str × Int), ys = ct.map pSI ∧ ct.map (·.1) = done ∧ (∀ p ∈ ct, -(10 ^ 60) ≤ p.2 ∧ p.2 ≤ 10 ^ 60) ∧ SrcAt μ' n (B + 130 + 2 * done.length) ∧ Fr [n] μ μ') (fun _ _ _ _ => rfl) ⟨[], rfl, rfl, by simp, by simpa using s6, f6⟩ ?_ ?_
    · rintro x done rest ys μ3 hx ⟨ct, rfl, hcd, hcA, s3, f3⟩
      have dl : done.length < 3 := by have := congrArg List.length hx; simp at this; omega
      simp_arith only [id_eq]
      refine (number_ok s3 (by omega)).go ?_
      rintro _ μ4 ⟨g, rfl, g0, g1, s4, f4⟩
      simp_arith only [id_eq]
      refine ⟨ct ++ [(x, g)], by simp [pSI], by rw [List.map_append, hcd]; rfl, ?_, s4.mono (by simp; omega), f3.trans f4⟩
      intro p hp
      rcases List.mem_append.mp hp with hp | hp
      · exact hcA p hp
      · rw [List.mem_singleton.mp hp]; exact ⟨g0, g1⟩
    · rintro ys μ3 ⟨ct, rfl, hcd, hcA, s3, f3⟩
      simp_arith only [id_eq]
      exact ⟨ct, hcd, hcA, rfl, s3.mono (by omega), f3⟩
  rintro δ7 μ7 ⟨ce, hce, hcen, e7, s7, f7⟩
  subst e7
  have hnames : ({ lk := A, cd := cd, ct := ct, ce := ce } : BK).names = ws := by
    unfold BK.names
    rw [hcd, hct, hce, ← cat]
  have l1 : cd.length = b.toNat := by rw [← lB, ← hcd, List.length_map]
  have l2 : ct.length = e.toNat := by rw [← lE, ← hct, List.length_map]
  have l3 : ce.length = f.toNat := by rw [← lF, ← hce, List.length_map]
  simp_arith only [id_eq]
  refine ⟨⟨A, cd, ct, ce⟩, rfl, ⟨by rw [hnames]; exact hnd, by rw [hnames]; exact fun w h => ⟨(hw w h).pos, Nat.le_succ_of_le (hw w h).le, (hw w h).low⟩, ⟨by show 1 ≤ A.length; omega, by show A.length ≤ 3; omega⟩, by show cd.length ≤ 3; omega, by show ct.length ≤ 2; omega, ⟨by show 1 ≤ ce.length; omega, by show ce.length ≤ 3; omega⟩, hcA, ?_⟩, ⟨by rw [hnames]; exact hw, fun p hp => (hctn p hp).1⟩, s7.mono (by omega), f7⟩
  intro p hp
  rcases List.mem_append.mp hp with hp | hp
  · have := hctn p hp
    exact ⟨by omega, this.2⟩
  · exact hcen p hp
end
end DozK
end
section
open PySem L2 Doz
local macro_rules | `(tactic| simp_arith only [$xs,*]) => `(tactic| simp -failIfUnchanged -implicitDefEqProofs (disch := (first | (simp only [Doz.len_push, Doz.len_set]; omega) | omega | assumption)) only [↓wR_ok, ↓wR_err, ↓wE_var0, ↓wE_varS, ↓wE_C, ↓wE_op, ↓wE_cmp, ↓wE_bl, ↓qB_bl, ↓wE_asB, ↓wE_and, ↓wE_or, ↓wE_not, ↓wE_andV, ↓wE_orV, ↓wE_notV, ↓wE_if, ↓wE_nil, ↓wE_cons, ↓wE_fz, ↓wE_lc, ↓wE_tup, ↓wE_lst, ↓wE_call, ↓wE_nopart, ↓qI_int, ↓wE_part, ↓wE_slice, ↓wE_fld, ↓wE_dnew, ↓wE_iter, ↓wE_rev, ↓wE_pos, ↓wE_kws, ↓wE_noa, ↓wE_both, ↓wE_fn, ↓wE_mth, ↓qN_non, ↓wE_mk, ↓wE_meth, ↓wE_neg, ↓wE_chain, ↓wE_comp, ↓wS_nx, ↓wS_bk, ↓wS_ct, ↓wS_seq, ↓wS_drop, ↓wS_ret, ↓wS_retN, ↓wS_if, ↓wS_asg, ↓qL_loc, ↓qCl_lst, ↓wS_retFz, ↓wS_raise, ↓wS_for, ↓wS_try, ↓wG_set0, ↓wG_setS, ↓wG_then, ↓wG_sub, ↓wG_fld, ↓qT_tup, ↓wG_tup, ↓wGs_nil, ↓wGs_cons, ↓endB_nx, ↓endB_rt, ↓endB_er, ↓endB_bk, ↓endB_ct, ↓loopP_nx, ↓loopP_ct, ↓loopP_bk, ↓loopP_rt, ↓loopP_er, ↓qO_some, ↓qO_at0, ↓qO_at1, ↓qO_at2, ↓qO_at3, ↓qO_at4, ↓qO_at5, ↓w_add_int, ↓w_add_str, ↓w_add_tup, ↓w_add_lst, ↓w_sub, ↓w_mod, ↓w_div, ↓w_mul, ↓w_pow, ↓w_band, ↓w_lt, ↓w_le, ↓w_gt, ↓w_ge, ↓w_is, ↓w_isNot, ↓nonN, ↓nonI, ↓nonS, ↓nonT, ↓nonL, ↓nonLoc, ↓w_eq_int, ↓w_ne_int, ↓w_eq_str, ↓w_ne_str, ↓qIx_lst, ↓qIx_dK, ↓qIxS_dK, ↓w_ix_loc, ↓w_ix_locS, ↓w_ix_lst, ↓w_ix_tup, ↓w_ix_str, ↓qLS_0, ↓qLS_1, ↓qLS_2, ↓qLS_3, ↓qSet_lst, ↓qSet_dK, ↓qSetS_dK, ↓w_setI, ↓w_setS, ↓qF_ins, ↓w_fld, ↓qSF_ins, ↓w_setF, ↓w_len_str, ↓w_len_lst, ↓w_len_tup, ↓qLen_lst, ↓qLen_dK, ↓w_len_loc, ↓w_max, ↓w_min, ↓w_int_int, ↓w_int_bl, ↓w_str_int, ↓qDc_dK, ↓w_dict, ↓w_tuple_lst, ↓w_tuple_tup, ↓w_tuple_loc, ↓w_list_lst, ↓w_list_tup, ↓w_iter_lst, ↓w_iter_tup, ↓w_iter_str, ↓w_iter_loc, ↓w_rng1, ↓w_rng2, ↓w_sl_str, ↓w_sl_tup, ↓w_sl_lst, ↓w_append, ↓w_lclear, ↓tyS_str, ↓tyL_lst, ↓qM_loc, ↓look1, ↓wC_set, ↓wC_setn, ↓wC_push2, ↓wC_pushn, ↓wE_yes, ↓wE_revL, ↓qO_lst, ↓w_all_lst, ↓w_join_lst, ↓wE_get1, ↓wE_get2, ↓wE_pop1, ↓qO_keyI, ↓qO_keyS, ↓qIns_ins, ↓wS_faug, ↓wE_disp, ↓wE_pairs0, ↓wE_pairsC, ↓keysOf0, ↓keysOfS, ↓keysOfI, ↓wE_keys, ↓wE_sliceN, ↓wE_sortK, ↓hb_place, ↓hb_turn, ↓hb_since, ↓hb_until, ↓hb_mask, ↓hbm_meets, ↓hbm_is_over, ↓hbm_twin, ↓isi_non_int, ↓isi_non_bool, ↓isi_non_str, ↓isi_non_tuple, ↓isi_non_list, ↓isi_non_dict, ↓isi_bl_int, ↓isi_bl_bool, ↓isi_bl_str, ↓isi_bl_tuple, ↓isi_bl_list, ↓isi_bl_dict, ↓isi_int_int, ↓isi_int_bool, ↓isi_int_str, ↓isi_int_tuple, ↓isi_int_list, ↓isi_int_dict, ↓isi_str_int, ↓isi_str_bool, ↓isi_str_str, ↓isi_str_tuple, ↓isi_str_list, ↓isi_str_dict, ↓isi_tup_int, ↓isi_tup_bool, ↓isi_tup_str, ↓isi_tup_tuple, ↓isi_tup_list, ↓isi_tup_dict, ↓isi_lst_int, ↓isi_lst_bool, ↓isi_lst_str, ↓isi_lst_tuple, ↓isi_lst_list, ↓isi_lst_dict, ↓hm_look_for, ↓hm_look_awake, ↓hm_next_turn, ↓hm_lie_down, ↓hm_rise, ↓hm_is_over, ↓hm_put, ↓hm_sleep, ↓hm_wake, ↓hm_move, ↓hm_tick, ↓hm_lateness, ↓hm_nudge, ↓hm_rank, ↓hm_number, ↓hm_line, ↓hm_line_at, ↓hm_order, ↓hm_asleep, ↓hm_sleeper, ↓hm_ending, ↓hm_standing, ↓hm_now, ↓hm_log, ↓hm_who, ↓hm_filled, ↓hm_twin, ↓hf_numbers, ↓hf_beds, ↓hf_ranks, ↓hf_endings, ↓hf_clock, ↓hf_turns, ↓hf_begun, ↓hf_entries, ↓wE_chainV, ↓wS_aug, ↓wG_unl, ↓wE_repN, ↓wE_dc2, ↓wE_dc, ↓w_in2, ↓w_in5, ↓wG_s32, ↓wG_s40_5, ↓wG_s40_6, ↓wE_catN, ↓qO_cat, ↓hw_plans, ↓hw_names, ↓hw_numbers, ↓hw_nudges, ↓hw_ranks, ↓hw_marks, ↓hwm_start, ↓hwm_row_at, ↓hwm_are_sizes, ↓hwm_is_state, ↓hwm_may_lie, ↓hwm_is_in_order, ↓hwm_can, ↓hwm_after, ↓hwm_stepped, ↓hwm_lain, ↓hwm_roused, ↓hwm_clash, ↓hwm_ended, ↓hwm_stuck, decide_eq_true_eq, beq_iff_eq, Bool.not_eq_true', Bool.not_eq_eq_eq_not, Bool.not_true, Bool.not_false, decide_eq_false_iff_not, beq_eq_false_iff_ne, ne_eq, true_and, and_true, if_true, if_false, ite_true, ite_false, ↓reduceIte, Bool.false_eq_true, not_false_eq_true, not_true_eq_false, Int.reduceLT, Int.reduceLE, Int.reduceToNat, Nat.reduceLT, Nat.reduceLeDiff, Int.reducePow, Nat.reduceAdd, Int.reduceAdd, Int.reduceMul, Int.reduceSub, Int.reduceNeg, Nat.reducePow, Int.reduceEq, Nat.reduceEqDiff, List.length_cons, List.length_nil, PySem.sizeLine_eq, str_len_app, str_len_one, wipeD, List.set_cons_zero, List.set_cons_succ, $xs,*])
section
namespace DozK
open PySem L2 Doz
inductive CR where
  | lock (n : Str) | free (n : Str) | rest (n : Str) | await (n e : Str) (k : Int) | tri (n e : Str) (k : Int) | call (n : Str) | all (n : Str)
  | down (n : Str) | up (n : Str) | set (n : Str) (k : Int) | add (n : Str) (k : Int)
def CR.ds : CR → List D
  | .lock n => [.str "lock", .str n]
  | .free n => [.str "free", .str n]
  | .rest n => [.str "rest", .str n]
  | .await n e k => [.str "await", .str n, .str e, .int k]
  | .tri n e k => [.str "try", .str n, .str e, .int k]
  | .call n => [.str "call", .str n]
  | .all n => [.str "all", .str n]
  | .down n => [.str "down", .str n]
  | .up n => [.str "up", .str n]
  | .set n k => [.str "set", .str n, .int k]
  | .add n k => [.str "add", .str n, .int k]
def CR.d (r : CR) : D := .tup r.ds
def Big (k : Int) : Prop := -(10 ^ 60) ≤ k ∧ k ≤ 10 ^ 60
def Cond (b : BK) (held : List Str) (n : Str) : Prop := ∃ l, (n, l) ∈ b.cd ∧ l ∈ held
def CR.keeps (b : BK) (held : List Str) : CR → Prop
  | .lock n => n ∈ b.lk ∧ n ∉ held
  | .free n => n ∈ held
  | .rest n => Cond b held n
  | .await n e k => Cond b held n ∧ e ∈ b.ce.map (·.1) ∧ Big k
  | .tri n e k => Cond b held n ∧ e ∈ b.ce.map (·.1) ∧ Big k
  | .call n => Cond b held n
  | .all n => Cond b held n
  | .down n => n ∈ b.ct.map (·.1)
  | .up n => n ∈ b.ct.map (·.1)
  | .set n k => n ∈ b.ce.map (·.1) ∧ Big k
  | .add n k => n ∈ b.ce.map (·.1) ∧ Big k
def heldB (held : List Str) : CR → List Str
  | .lock n => held ++ [n]
  | .free n => held.filter fun x => decide (x ≠ n)
  | _ => held
structure HOk (b : BK) (held : List Str) : Prop where
  nd : held.Nodup
  sub : ∀ x ∈ held, x ∈ b.lk
def heldAll : List Str → List CR → List Str
  | held, [] => held
  | held, r :: rs => heldAll (heldB held r) rs
def keepsAll (b : BK) : List Str → List CR → Prop
  | _, [] => True
  | held, r :: rs => r.keeps b held ∧ keepsAll b (heldB held r) rs
structure COk (b : BK) (rs : List CR) : Prop where
  keep : keepsAll b [] rs
  fin : heldAll [] rs = []
section
variable {μ : Mem} {E : EP}
theorem w_inL (x : Str) (ws : List Str) (Q : Bool → Mem → Prop) : wR (cIn (.str x) (.lst (ws.map D.str)) μ) Q E = Q (decide (x ∈ ws)) μ := by
  have e : cIn (.str x) (.lst (ws.map D.str)) μ = .ok (decide (x ∈ ws)) μ := by
    unfold cIn
    have h1 : signIn (.str x) (.lst (ws.map D.str)) = none := rfl
    have h2 : dfind μ (.lst (ws.map D.str)) (.str x) = none := rfl
    have h3 : seqOf μ (.lst (ws.map D.str)) = some (ws.map D.str) := rfl
    rw [h1, h2]
    dsimp only
    rw [h3]
    dsimp only
    rw [all_sc_words, in_words]
    rfl
  rw [e]; rfl
theorem w_notInL (x : Str) (ws : List Str) (Q : Bool → Mem → Prop) : wR (cNotIn (.str x) (.lst (ws.map D.str)) μ) Q E = Q (!decide (x ∈ ws)) μ := by
  unfold cNotIn; rw [wR_bind, w_inL]; rfl
end
theorem BK.Ok.wd {b : BK} (h : b.Ok) {p : Str × Str} (hp : p ∈ b.cd) : WordK p.1 := h.word _ (by unfold BK.names; simp only [List.mem_append, List.mem_map]; exact .inl (.inl (.inr ⟨p, hp, rfl⟩)))
section
variable {c : Cl} {μ μ' : Mem} {n : Nat} {B : Int}
end
end DozK
namespace DozK
open PySem L2 Doz
section
variable {c : Cl} {μ μ' : Mem} {n : Nat} {B : Int}
end
end DozK
end
section
namespace DozK
open PySem L2 Doz
section
variable {μ μ' : Mem} {E : EP} {d : D} {xs : List D}
theorem seq_loc {n : Nat} (h : seqOf μ (.loc n) = some xs) : μ.cells[n]? = some (.lst xs) := by
  unfold seqOf lstOf at h
  dsimp only at h
  split at h
  · rename_i e; injection h with h; rw [← h]; exact e
  · cases h
theorem cat_of {e : D} {ys : List D} (h1 : lstOf μ d = some xs) (h2 : lstOf μ e = some ys) (hl : xs.length + ys.length ≤ 16000000) : catL μ d e = some (xs ++ ys) := by
  unfold catL
  rw [h1, h2]
  show (if xs.length + ys.length ≤ sizeLine then some (xs ++ ys) else none) = _
  rw [if_pos (by have := PySem.sizeLine_eq; omega)]
theorem seq_of {n : Nat} (h : μ.cells[n]? = some (.lst xs)) : seqOf μ (.loc n) = some xs := lstOf_loc h
theorem seq_fr {S : List Nat} (h : seqOf μ d = some xs) (f : Fr S μ μ') (hS : ∀ n, d = .loc n → n ∉ S) : seqOf μ' d = some xs := by
  cases d with
  | loc n => exact seq_of (f.get (seq_loc h) (hS n rfl))
  | tup ds => exact h
  | lst ds => exact h
  | _ => cases h
theorem w_iterQ (h : seqOf μ d = some xs) : ∃ g : Mem → Bool, (∀ (Q : Its0 → Mem → Prop) (E : EP), wR (fIter d μ) Q E = Q (xs, g) μ) ∧ ∀ ν, seqOf ν d = some xs → g ν = true := by
  cases d with
  | tup ds => cases h; exact ⟨fun _ => true, fun Q E => rfl, fun _ _ => rfl⟩
  | lst ds => cases h; exact ⟨fun _ => true, fun Q E => rfl, fun _ _ => rfl⟩
  | loc n =>
    have hc := seq_loc h
    refine ⟨lstIs (.loc n) xs, fun Q E => by rw [w_iter_loc, wC_of hc, qCl_lst], fun ν hν => ?_⟩
    unfold lstIs
    rw [show lstOf ν (.loc n) = some xs from hν]
    exact D.sames_refl xs
  | _ => cases h
theorem w_listQ (h : seqOf μ d = some xs) (Q : List D → Mem → Prop) : wR (fListN [d] μ) Q E = Q xs μ := by
  cases d with
  | tup ds => cases h; rfl
  | lst ds => cases h; rfl
  | loc n =>
    have e : fListN [.loc n] μ = .ok xs μ := by
      unfold fListN
      have e1 : seqOf μ (.loc n) = some xs := h
      simp only [e1]
    rw [e]; rfl
  | _ => cases h
theorem w_inQ {ws : List Str} (h : seqOf μ d = some (ws.map D.str)) (x : Str) (Q : Bool → Mem → Prop) : wR (cIn (.str x) d μ) Q E = Q (decide (x ∈ ws)) μ := by
  have e : cIn (.str x) d μ = .ok (decide (x ∈ ws)) μ := by
    have h1 : signIn (.str x) d = none := by cases d <;> first | rfl | cases h
    have h2 : dfind μ d (.str x) = none := by
      cases d with
      | loc n => unfold dfind dictOf; dsimp only; rw [seq_loc h]; rfl
      | tup ds => rfl
      | lst ds => rfl
      | _ => cases h
    unfold cIn
    rw [h1, h2]
    dsimp only
    rw [h]
    dsimp only
    rw [all_sc_words, in_words]
    rfl
  rw [e]; rfl
theorem w_notInQ {ws : List Str} (h : seqOf μ d = some (ws.map D.str)) (x : Str) (Q : Bool → Mem → Prop) : wR (cNotIn (.str x) d μ) Q E = Q (!decide (x ∈ ws)) μ := by
  unfold cNotIn; rw [wR_bind, w_inQ h]; rfl
end
def pD (p : Str × D) : D := .tup [.str p.1, p.2]
theorem pSS_eq (l : List (Str × Str)) : l.map pSS = (l.map fun p => (p.1, D.str p.2)).map pD := by rw [List.map_map]; rfl
theorem pSI_eq (l : List (Str × Int)) : l.map pSI = (l.map fun p => (p.1, D.int p.2)).map pD := by rw [List.map_map]; rfl
theorem fst_eq {β γ : Type} (g : β → γ) (l : List (Str × β)) : (l.map fun p => (p.1, g p.2)).map (·.1) = l.map (·.1) := by rw [List.map_map]; rfl
section
variable {c : Cl} {μ μ' : Mem}
theorem names_read_ok {d1 d2 d3 d4 : D} {ls : List Str} {p2 p3 p4 : List (Str × D)} (h1 : seqOf μ d1 = some (ls.map D.str)) (h2 : seqOf μ d2 = some (p2.map pD)) (h3 : seqOf μ d3 = some (p3.map pD)) (h4 : seqOf μ d4 = some (p4.map pD)) (hl : ls.length ≤ 1000 ∧ p2.length ≤ 1000 ∧ p3.length ≤ 1000 ∧ p4.length ≤ 1000) :
    wR (m_n_names_read c [d1, d2, d3, d4] μ) (fun v μ' => ∃ l, v = .loc l ∧ μ.cells.length ≤ l ∧ μ'.cells[l]? = some (.lst ((ls ++ p2.map (·.1) ++ p3.map (·.1) ++ p4.map (·.1)).map D.str)) ∧ Fr [] μ μ') noE := by
  obtain ⟨l1, l2, l3, l4⟩ := hl
  unfold m_n_names_read
  rw [w_run]
  show wS (t_n_names_read c) [some d1, some d2, some d3, some d4, none, none, none, none] μ _
  unfold t_n_names_read
  generalize hδ : ([some d1, some d2, some d3, some d4, none, none, none, none] : DEnv) = δ0
  refine wS_cut (fun δ μ' => ∃ l, μ.cells.length ≤ l ∧ δ = [some d1, some d2, some d3, some d4, some (.loc l), none, none, none] ∧ μ'.cells[l]? = some (.lst (ls.map D.str)) ∧ Fr [] μ μ') ?_ ?_
  · subst hδ
    simp_arith only [↓w_listQ h1]
    exact ⟨_, Nat.le_refl _, rfl, at_push, Fr.push _ _ _⟩
  rintro δ1 μ1 ⟨l, hl, e1, hc1, f1⟩
  refine wS_cut (fun δ μ' => ∃ l x5 x6 x7, μ.cells.length ≤ l ∧ δ = [some d1, some d2, some d3, some d4, some (.loc l), x5, x6, x7] ∧ μ'.cells[l]? = some (.lst ((ls ++ p2.map (·.1) ++ p3.map (·.1) ++ p4.map (·.1)).map D.str)) ∧ Fr [] μ μ') ?_ ?_
  · subst e1
    simp_arith only [id_eq]
    refine w_loopM (f := Prod.fst) (fun (rest : List (D × List (Str × D))) δ μ' => ∃ (nm : List Str) (l : Nat) (x5 x6 x7 : Option D), ls ++ p2.map (·.1) ++ p3.map (·.1) ++ p4.map (·.1) = nm ++ (rest.map fun q => q.2.map (·.1)).flatten ∧ (∀ q ∈ rest, seqOf μ q.1 = some (q.2.map pD) ∧ q.2.length ≤ 1000) ∧ nm.length + (rest.map fun q => q.2.length).sum ≤ 4000 ∧ μ.cells.length ≤ l ∧ δ = [some d1, some d2, some d3, some d4, some (.loc l), x5, x6, x7] ∧ μ'.cells[l]? = some (.lst (nm.map D.str)) ∧ Fr [] μ μ') (fun _ _ _ _ => rfl) ?_ ?_ [(d2, p2), (d3, p3), (d4, p4)] _ _ ⟨ls, l, none, none, none, by simp, by simp [h2, h3, h4]; omega, by simp; omega, hl, rfl, hc1, f1⟩
    · rintro ⟨dq, pq⟩ rest δ μ2 ⟨nm, l, x5, x6, x7, en, hq, hs, hl, rfl, hc, f2⟩
      obtain ⟨hsq, hlq⟩ := hq (dq, pq) List.mem_cons_self
      have hsq2 := seq_fr hsq f2 (by simp)
      obtain ⟨g, hg, hgd⟩ := w_iterQ hsq2
      have hs' : nm.length + (pq.length + (rest.map fun q => q.2.length).sum) ≤ 4000 := by simpa using hs
      simp_arith only [↓hg, List.length_map]
      refine ⟨by omega, ?_⟩
      refine w_compMap (f := pD) (fun p => D.str p.1) (hgd _ hsq2) (fun p _ => ?_) ?_
      · simp_arith only [pD]
      · have hlo : lstOf μ2 (.loc l) = some (nm.map D.str) := lstOf_loc hc
        have hcat : catL μ2 (.loc l) (.lst (pq.map fun p => D.str p.1)) = some (nm.map D.str ++ pq.map fun p => D.str p.1) := by
          have h2 : lstOf μ2 (.lst (pq.map fun p => D.str p.1)) = some (pq.map fun p => D.str p.1) := rfl
          exact cat_of hlo h2 (by simp only [List.length_map]; omega)
        simp_arith only [↓qO_of hcat]
        refine ⟨nm ++ pq.map (·.1), μ2.cells.length, _, _, _, by rw [en]; simp, fun q hq' => hq q (List.mem_cons_of_mem _ hq'), by simp; omega, f2.le, rfl, ?_, f2.trans (Fr.push _ _ _)⟩
        rw [at_push]
        simp [Function.comp_def]
    · rintro δ μ2 ⟨nm, l, x5, x6, x7, en, _, _, hl, rfl, hc, f2⟩
      exact ⟨l, x5, x6, x7, hl, rfl, by rw [en]; simpa using hc, f2⟩
  rintro δ2 μ2 ⟨l, x5, x6, x7, hl, rfl, hc, f2⟩
  simp_arith only [id_eq]
  exact ⟨l, rfl, hl, hc, f2⟩
end
def dupL : List Str → List Str → Option Str
  | _, [] => none
  | seen, x :: xs => if x ∈ seen then some x else dupL (seen ++ [x]) xs
def seenD (s : List Str) : List (Key × D) := s.map fun x => (.inr x, .bl true)
theorem seen_get (s : List Str) (x : Str) : (kget (seenD s) (.inr x)).isSome = decide (x ∈ s) := by
  unfold kget seenD
  rw [Option.isSome_map]
  induction s with
  | nil => rfl
  | cons a r ih =>
    rw [List.map_cons, List.find?_cons]
    by_cases h : a = x
    · subst h; simp
    · have h1 : ¬ (Sum.inr a : Key) = .inr x := fun e => h (inr_inj _ _ e)
      rw [decide_eq_false h1]
      dsimp only
      rw [ih]
      have : (x ∈ a :: r) ↔ x ∈ r := by simp [Ne.symm h]
      exact decide_eq_decide.mpr this.symm
theorem seen_put {s : List Str} {x : Str} (h : x ∉ s) : kput (seenD s) (.inr x) (.bl true) = seenD (s ++ [x]) := by
  unfold kput seenD
  have h1 : ((s.map fun x => ((.inr x : Key), D.bl true)).any fun kv => decide (kv.1 = .inr x)) = false := by
    rw [List.any_map]
    refine List.any_eq_false.mpr fun a ha => ?_
    have : ¬ (Sum.inr a : Key) = .inr x := fun e => h (by rw [← inr_inj _ _ e]; exact ha)
    simpa using this
  rw [if_neg (by rw [h1]; exact Bool.false_ne_true)]
  simp
theorem enc_fresh {β : Type} {g : β → D} {l : List (Str × β)} {k : Str} (v : β) (h : k ∉ l.map (·.1)) : kput (encS g l) (.inr k) (g v) = encS g (l ++ [(k, v)]) := by
  rw [encS_put]
  congr 1
  unfold aput
  rw [if_neg]
  intro z
  obtain ⟨p, hp, e⟩ := List.any_eq_true.mp z
  exact h (List.mem_map.mpr ⟨p, hp, of_decide_eq_true e⟩)
def bookE (ls : List Str) (cd : List (Str × Str)) (names : List Str) : Option (Bool × Str) := match dupL [] names with
  | some n => some (true, n)
  | none => match cd.find? fun p => !decide (p.2 ∈ ls) with
    | some p => some (false, p.2)
    | none => none
theorem dup_none : ∀ (xs seen : List Str), dupL seen xs = none → (seen ++ xs).Nodup ∨ ¬ seen.Nodup
  | [], seen, _ => by rw [List.append_nil]; exact Classical.em _
  | x :: xs, seen, h => by
    unfold dupL at h
    split at h
    · cases h
    · rename_i hx
      rcases dup_none xs (seen ++ [x]) h with h | h
      · left; simpa using h
      · by_cases hs : seen.Nodup
        · refine absurd ?_ h
          rw [List.nodup_append]
          exact ⟨hs, by simp, fun a ha c hc => by rw [List.mem_singleton.mp hc]; exact fun e => hx (e ▸ ha)⟩
        · exact .inr hs
structure PA where
  a : Nat
  m1 : Nat
  m2 : Nat
  m3 : Nat
def PA.foot (A : PA) : List Nat := [A.a, A.m1, A.m2, A.m3]
structure PB (c : Cl) (μ : Mem) (A : PA) (b : BK) : Prop where
  h0 : μ.cells[A.a]? = some (.ins c.n_Book [("locks", .lst (b.lk.map D.str)), ("conds", .loc A.m1), ("counts", .loc A.m2), ("cells", .loc A.m3)])
  h1 : μ.cells[A.m1]? = some (.dK (encS D.str b.cd))
  h2 : μ.cells[A.m2]? = some (.dK (encS D.int b.ct))
  h3 : μ.cells[A.m3]? = some (.dK (encS D.int b.ce))
theorem PB.fr {c : Cl} {μ μ' : Mem} {A : PA} {b : BK} {S : List Nat} (h : PB c μ A b) (f : Fr S μ μ') (hS : ∀ k ∈ A.foot, k ∉ S) : PB c μ' A b :=
  ⟨f.get h.h0 (hS _ (by simp [PA.foot])), f.get h.h1 (hS _ (by simp [PA.foot])), f.get h.h2 (hS _ (by simp [PA.foot])), f.get h.h3 (hS _ (by simp [PA.foot]))⟩
theorem pfb0 (v : D) : putFD "locks" v [] = [(("locks" : Str), v)] := by kernel_rfl
theorem pfb1 (x0 v : D) : putFD "conds" v [(("locks" : Str), x0)] = [(("locks" : Str), x0), (("conds" : Str), v)] := by kernel_rfl
theorem pfb2 (x0 x1 v : D) : putFD "counts" v [(("locks" : Str), x0), (("conds" : Str), x1)] = [(("locks" : Str), x0), (("conds" : Str), x1), (("counts" : Str), v)] := by kernel_rfl
theorem pfb3 (x0 x1 x2 v : D) : putFD "cells" v [(("locks" : Str), x0), (("conds" : Str), x1), (("counts" : Str), x2)] = [(("locks" : Str), x0), (("conds" : Str), x1), (("counts" : Str), x2), (("cells" : Str), v)] := by kernel_rfl
section
variable {c : Cl} {μ μ' : Mem}
theorem w_pairs {β : Type} (g : β → D) {gs : MG} {mk mv : ME} {δ : DEnv} {l : List (Str × β)} {Q : Mem → Prop} {gd : Mem → Bool} (hnd : (l.map (·.1)).Nodup) (hl : l.length ≤ 1000) (hlk : μ.lk = []) (hg : ∀ ν, Fr [] μ ν → gd ν = true)
    (hgs : ∀ (p : Str × β) ν (R : Unit → Mem → Prop), (∀ n, isDK ν n = true → wR (setD (.loc n) (.str p.1) (g p.2) ν) R noE → wG gs (pD (p.1, g p.2)) δ ν (fun δ1 μ1 => wE myes δ1 μ1 (fun b μ2 => if b = true then wE mk δ1 μ2 (fun k μ3 => wE mv δ1 μ3 (fun v μ4 => isDK μ4 n = true ∧ wR (setD (.loc n) k v μ4) R noE) noE) noE else R () μ2) noE) noE))
    (hq : ∀ μ', μ'.cells[μ.cells.length]? = some (.dK (encS g l)) → Fr [] μ μ' → Q μ') : wR (loopU gd (stp1 μ.cells.length gs myes mk mv δ) ((l.map fun p => (p.1, g p.2)).map pD) (μ.push (.dK []))) (fun _ μ2 => Q μ2) noE := by
  refine w_loopU (fun ds μ' => ∃ done rest, l = done ++ rest ∧ ds = (rest.map fun p => (p.1, g p.2)).map pD ∧ μ'.cells[μ.cells.length]? = some (.dK (encS g done)) ∧ Fr [] μ μ') (fun _ _ ⟨_, _, _, _, _, f⟩ => hg _ f) ?_ ?_ _ _ ⟨[], l, rfl, rfl, at_push, Fr.push _ _ _⟩
  · rintro d ds μ1 ⟨done, rest, e1, e2, h1, f1⟩
    cases rest with
    | nil => cases e2
    | cons p rest =>
      rw [List.map_cons, List.map_cons] at e2
      injection e2 with e2 e3
      subst e2
      refine w_stp1 ?_
      have hk : p.1 ∉ done.map (·.1) := by
        rw [e1, List.map_append, List.map_cons, List.nodup_append] at hnd
        exact fun h => hnd.2.2 _ h _ List.mem_cons_self rfl
      have hdl : done.length ≤ 1000 := by rw [e1, List.length_append] at hl; omega
      refine hgs p μ1 _ μ.cells.length (isDK_of h1) ?_
      rw [w_setS, wC_of h1, qSetS_dK, enc_fresh (g := g) p.2 hk]
      refine ⟨⟨lkd_nil (by rw [f1.lk]; exact hlk), by rw [show (encS g done).length = done.length from enc_len _]; have := PySem.sizeLine_eq; omega⟩, ?_⟩
      exact ⟨done ++ [p], rest, by rw [e1]; simp, e3, at_set (at_lt h1), f1.trans (Fr.set1 _ _ _) (fun k hk hlt => by rw [List.mem_singleton.mp hk] at hlt; omega)⟩
  · rintro μ1 ⟨done, rest, e1, e2, h1, f1⟩
    cases rest with
    | nil => rw [List.append_nil] at e1; subst e1; exact hq μ1 h1 f1
    | cons p rest => cases e2
end
end DozK
end
section
namespace DozK
open PySem L2 Doz
section
variable {c : Cl} {μ μ' : Mem}
def bookErr (c : Cl) (μ : Mem) (a : Nat) (e : Option (Bool × Str)) : EP := fun C w μ' => ∃ t n, e = some (t, n) ∧ C = (if t = true then c.n_TwoNames else c.n_NoName) ∧ w = .str n ∧ Fr [a] μ μ'
theorem find_none {ls : List Str} : ∀ {cd : List (Str × Str)}, (∀ p ∈ cd, p.2 ∈ ls) → (cd.find? fun p => !decide (p.2 ∈ ls)) = none := fun h => List.find?_eq_none.mpr fun p hp => by simp [h p hp]
theorem find_at {ls : List Str} {done rest : List (Str × Str)} {p : Str × Str} (h : ∀ p ∈ done, p.2 ∈ ls) (hp : p.2 ∉ ls) : ((done ++ p :: rest).find? fun p => !decide (p.2 ∈ ls)) = some p := by
  rw [List.find?_append, find_none h, List.find?_cons]
  simp [hp]
theorem init_ok {a : Nat} {d1 d2 d3 d4 : D} {b : BK} (h1 : seqOf μ d1 = some (b.lk.map D.str)) (h2 : seqOf μ d2 = some (b.cd.map pSS)) (h3 : seqOf μ d3 = some (b.ct.map pSI)) (h4 : seqOf μ d4 = some (b.ce.map pSI)) (hl : b.lk.length ≤ 1000 ∧ b.cd.length ≤ 1000 ∧ b.ct.length ≤ 1000 ∧ b.ce.length ≤ 1000)
    (ha : μ.cells[a]? = some (.ins c.n_Book [])) (hlk : μ.lk = []) :
    wR (m_n_Bookdd_initdd c [.loc a, d1, d2, d3, d4] μ) (fun v μ' => v = .non ∧ bookE b.lk b.cd b.names = none ∧ ∃ A : PA, A.a = a ∧ (∀ k ∈ A.foot, k = a ∨ μ.cells.length ≤ k) ∧ PB c μ' A b ∧ Fr [a] μ μ') (bookErr c μ a (bookE b.lk b.cd b.names)) := by
  obtain ⟨l1, l2, l3, l4⟩ := hl
  have hal := at_lt ha
  have na : ∀ {d : D} {xs : List D}, seqOf μ d = some xs → ∀ n, d = .loc n → n ∉ [a] := fun h n e hm => by
    subst e
    rw [List.mem_singleton.mp hm] at h
    have := seq_loc h
    rw [ha] at this; cases this
  have h2' := h2
  have h3' := h3
  have h4' := h4
  rw [pSS_eq] at h2'
  rw [pSI_eq] at h3' h4'
  have fa : ∀ {μ1 μ2 : Mem}, Fr [] μ1 μ2 → Fr [a] μ1 μ2 := fun f => f.mono (by simp)
  unfold m_n_Bookdd_initdd
  rw [w_run]
  show wS (t_n_Bookdd_initdd c) [some (.loc a), some d1, some d2, some d3, some d4, none, none, none, none] μ _
  unfold t_n_Bookdd_initdd
  generalize hδ : ([some (.loc a), some d1, some d2, some d3, some d4, none, none, none, none] : DEnv) = δ0
  refine wS_cut (fun δ μ' => ∃ s, μ.cells.length ≤ s ∧ δ = [some (.loc a), some d1, some d2, some d3, some d4, some (.loc s), none, none, none] ∧ μ'.cells[s]? = some (.dK (seenD [])) ∧ Fr [] μ μ') ?_ ?_
  · subst hδ
    simp_arith only [id_eq]
    exact ⟨_, Nat.le_refl _, rfl, at_push, Fr.push _ _ _⟩
  rintro δ1 μ1 ⟨s, hs, e1, hc1, f1⟩
  have sd : ∀ {μ1 : Mem}, Fr [] μ μ1 → ∀ k ∈ [s], k < μ.cells.length → k ∈ ([] : List Nat) := fun _ k hk hlt => by rw [List.mem_singleton.mp hk] at hlt; omega
  refine wS_cut (fun δ μ' => ∃ x6, δ = [some (.loc a), some d1, some d2, some d3, some d4, some (.loc s), x6, none, none] ∧ dupL [] b.names = none ∧ Fr [] μ μ') ?_ ?_
  · subst e1
    simp_arith only [id_eq]
    refine (names_read_ok (seq_fr h1 f1 (by simp)) (seq_fr h2' f1 (by simp)) (seq_fr h3' f1 (by simp)) (seq_fr h4' f1 (by simp)) ⟨l1, by simpa using l2, by simpa using l3, by simpa using l4⟩).go ?_
    rintro _ μ2 ⟨l, rfl, hl, hcl, f2⟩
    rw [fst_eq, fst_eq, fst_eq] at hcl
    have hcs := f2.get hc1 (by simp)
    have f12 := f1.trans f2
    have hls : l ≠ s := by
      have := at_lt hc1
      omega
    have hcl' : μ2.cells[l]? = some (.lst (b.names.map D.str)) := hcl
    simp_arith only [↓wC_of hcl']
    refine w_loopM (f := D.str) (fun rest δ μ' => ∃ (pre : List Str) (x6 : Option D), b.names = pre ++ rest ∧ dupL [] b.names = dupL pre rest ∧ δ = [some (.loc a), some d1, some d2, some d3, some d4, some (.loc s), x6, none, none] ∧ μ'.cells[s]? = some (.dK (seenD pre)) ∧ μ'.cells[l]? = some (.lst (b.names.map D.str)) ∧ Fr [] μ μ') (fun _ _ ν ⟨_, _, _, _, _, _, hν, _⟩ => by unfold lstIs; rw [show lstOf ν (.loc l) = _ from lstOf_loc hν]; exact D.sames_refl _) ?_ ?_ b.names _ _ ⟨[], none, rfl, rfl, rfl, hcs, hcl', f12⟩
    · rintro x rest δ μ3 ⟨pre, x6, en, ed, rfl, hs3, hl3, f3⟩
      have hg := seen_get pre x
      by_cases hx : x ∈ pre
      · have e : bookE b.lk b.cd b.names = some (true, x) := by
          unfold bookE
          have : dupL [] b.names = some x := by rw [ed]; unfold dupL; rw [if_pos hx]
          rw [this]
        simp_arith only [↓w_in_dictS hs3, hg, hx, decide_true]
        exact ⟨true, x, e, rfl, rfl, f3.mono (by simp)⟩
      · have hp := seen_put hx
        have hpl : pre.length ≤ 5000 := by
          have := congrArg List.length en
          unfold BK.names at this
          simp only [List.length_append, List.length_map, List.length_cons] at this
          omega
        have lkf : μ3.lkd s = false := lkd_nil (by rw [f3.lk]; exact hlk)
        have sl : (seenD pre).length = pre.length := by unfold seenD; rw [List.length_map]
        simp_arith only [↓w_in_dictS hs3, hg, hx, decide_false, ↓wC_of hs3, hp, lkf, sl]
        refine ⟨by omega, pre ++ [x], _, by rw [en]; simp, by rw [ed]; show (if x ∈ pre then some x else dupL (pre ++ [x]) rest) = _; rw [if_neg hx], rfl, at_set (at_lt hs3), by rw [at_setn hls]; exact hl3, f3.trans (Fr.set1 _ _ _) (sd f3)⟩
    · rintro δ μ3 ⟨pre, x6, en, ed, rfl, hs3, hl3, f3⟩
      exact ⟨x6, rfl, by rw [ed]; rfl, f3⟩
  rintro δ2 μ2 ⟨x6, e2, hdup, f2⟩
  have hnd : b.names.Nodup := by
    rcases dup_none b.names [] hdup with h | h
    · simpa using h
    · exact absurd List.nodup_nil h
  refine wS_cut (fun δ μ' => ∃ x6 x7, δ = [some (.loc a), some d1, some d2, some d3, some d4, some (.loc s), x6, x7, none] ∧ (∀ p ∈ b.cd, p.2 ∈ b.lk) ∧ μ' = μ2) ?_ ?_
  · have hq := seq_fr h2 f2 (by simp)
    have hk := seq_fr h1 f2 (by simp)
    obtain ⟨g, hg, hgd⟩ := w_iterQ hq
    subst e2
    simp_arith only [↓hg]
    refine w_loopM (f := pSS) (fun rest δ μ' => ∃ (done : List (Str × Str)) (x6 x7 : Option D), b.cd = done ++ rest ∧ (∀ p ∈ done, p.2 ∈ b.lk) ∧ δ = [some (.loc a), some d1, some d2, some d3, some d4, some (.loc s), x6, x7, none] ∧ μ' = μ2) (fun _ _ ν ⟨_, _, _, _, _, _, hν⟩ => by rw [hν]; exact hgd _ hq) ?_ ?_ b.cd _ _ ⟨[], x6, none, rfl, by simp, rfl, rfl⟩
    · rintro p rest δ _ ⟨done, x6, x7, en, hd, rfl, rfl⟩
      by_cases hp : p.2 ∈ b.lk
      · simp_arith only [pSS, ↓w_notInQ hk, hp, decide_true]
        refine ⟨done ++ [p], _, _, by rw [en]; simp, fun q hq => ?_, rfl⟩
        rcases List.mem_append.mp hq with hq | hq
        · exact hd q hq
        · rw [List.mem_singleton.mp hq]; exact hp
      · have e : bookE b.lk b.cd b.names = some (false, p.2) := by
          unfold bookE
          rw [hdup, en, find_at hd hp]
        simp_arith only [pSS, ↓w_notInQ hk, hp, decide_false]
        exact ⟨false, p.2, e, rfl, rfl, f2.mono (by simp)⟩
    · rintro δ _ ⟨done, x6, x7, en, hd, rfl, rfl⟩
      rw [List.append_nil] at en
      exact ⟨x6, x7, rfl, by rw [en]; exact hd, rfl⟩
  rintro δ3 _ ⟨x6, x7, e3, hlock, e0⟩
  replace e0 := e0.symm
  subst e0
  have hE : bookE b.lk b.cd b.names = none := by
    unfold bookE
    rw [hdup, find_none hlock]
  have nd1 : (b.cd.map (·.1)).Nodup := hnd.sublist (by unfold BK.names; exact ((List.sublist_append_right _ _).trans (List.sublist_append_left _ _)).trans (List.sublist_append_left _ _))
  have nd2 : (b.ct.map (·.1)).Nodup := hnd.sublist (by unfold BK.names; exact (List.sublist_append_right _ _).trans (List.sublist_append_left _ _))
  have nd3 : (b.ce.map (·.1)).Nodup := hnd.sublist (by unfold BK.names; exact List.sublist_append_right _ _)
  have ha2 := f2.get ha (by simp)
  have ga : ∀ k ∈ [a], k < μ.cells.length → k ∈ [a] := fun k hk _ => hk
  have g0 : ∀ k ∈ [a], k < μ.cells.length → k ∈ ([] : List Nat) → False := fun k hk _ h => by simp at h
  -- locks
  refine wS_cut (fun δ μ' => ∃ x6 x7 x8, δ = [some (.loc a), some d1, some d2, some d3, some d4, some (.loc s), x6, x7, x8] ∧ μ'.cells[a]? = some (.ins c.n_Book [("locks", .lst (b.lk.map D.str))]) ∧ Fr [a] μ μ') ?_ ?_
  · subst e3
    simp_arith only [↓w_listQ (seq_fr h1 f2 (by simp)), ↓wC_of ha2, pfb0, List.contains_cons, beq_self_eq_true, Bool.true_or, Bool.or_true]
    exact ⟨_, _, _, rfl, at_set (at_lt ha2), (fa f2).trans (Fr.set1 _ _ _) ga⟩
  rintro δ4 μ4 ⟨x6, x7, x8, e4, ha4, f4⟩
  -- conds
  refine wS_cut (fun δ μ' => ∃ m1 x6 x7 x8, μ.cells.length ≤ m1 ∧ δ = [some (.loc a), some d1, some d2, some d3, some d4, some (.loc s), x6, x7, x8] ∧ μ'.cells[a]? = some (.ins c.n_Book [("locks", .lst (b.lk.map D.str)), ("conds", .loc m1)]) ∧ μ'.cells[m1]? = some (.dK (encS D.str b.cd)) ∧ Fr [a] μ μ') ?_ ?_
  · have hq := seq_fr h2' f4 (na h2')
    obtain ⟨g, hg, hgd⟩ := w_iterQ hq
    subst e4
    simp_arith only [↓hg]
    refine w_pairs D.str nd1 l2 (by rw [f4.lk]; exact hlk) (fun ν fν => hgd ν (seq_fr hq fν (by simp))) (fun p ν R n hD hR => ?_) (fun ν hν fν => ?_)
    · simp_arith only [pD]
      exact ⟨hD, by rw [← w_setS]; exact hR⟩
    · have haν := fν.get ha4 (by simp)
      have am : a ≠ μ4.cells.length := by have := f4.le; omega
      simp_arith only [↓wC_of haν, pfb1, List.contains_cons, beq_self_eq_true, Bool.true_or, Bool.or_true]
      exact ⟨_, _, _, _, f4.le, rfl, at_set (at_lt haν), by rw [at_setn (Ne.symm am)]; exact hν, (f4.trans (fa fν)).trans (Fr.set1 _ _ _) ga⟩
  rintro δ5 μ5 ⟨m1, x6, x7, x8, lm1, e5, ha5, hm1, f5⟩
  -- counts
  refine wS_cut (fun δ μ' => ∃ m2 x6 x7 x8, μ.cells.length ≤ m2 ∧ δ = [some (.loc a), some d1, some d2, some d3, some d4, some (.loc s), x6, x7, x8] ∧ μ'.cells[a]? = some (.ins c.n_Book [("locks", .lst (b.lk.map D.str)), ("conds", .loc m1), ("counts", .loc m2)]) ∧ μ'.cells[m1]? = some (.dK (encS D.str b.cd)) ∧ μ'.cells[m2]? = some (.dK (encS D.int b.ct)) ∧ Fr [a] μ μ') ?_ ?_
  · have hq := seq_fr h3' f5 (na h3')
    obtain ⟨g, hg, hgd⟩ := w_iterQ hq
    subst e5
    simp_arith only [↓hg]
    refine w_pairs D.int nd2 l3 (by rw [f5.lk]; exact hlk) (fun ν fν => hgd ν (seq_fr hq fν (by simp))) (fun p ν R n hD hR => ?_) (fun ν hν fν => ?_)
    · simp_arith only [pD]
      exact ⟨hD, by rw [← w_setS]; exact hR⟩
    · have haν := fν.get ha5 (by simp)
      have hmν := fν.get hm1 (by simp)
      have am : a ≠ μ5.cells.length := by have := f5.le; omega
      have am1 : m1 ≠ a := by omega
      simp_arith only [↓wC_of haν, pfb2, List.contains_cons, beq_self_eq_true, Bool.true_or, Bool.or_true]
      exact ⟨_, _, _, _, f5.le, rfl, at_set (at_lt haν), by rw [at_setn am1]; exact hmν, by rw [at_setn (Ne.symm am)]; exact hν, (f5.trans (fa fν)).trans (Fr.set1 _ _ _) ga⟩
  rintro δ6 μ6 ⟨m2, x6, x7, x8, lm2, e6, ha6, hm1', hm2, f6⟩
  -- cells
  have hq := seq_fr h4' f6 (na h4')
  obtain ⟨g, hg, hgd⟩ := w_iterQ hq
  subst e6
  simp_arith only [↓hg]
  refine w_pairs D.int nd3 l4 (by rw [f6.lk]; exact hlk) (fun ν fν => hgd ν (seq_fr hq fν (by simp))) (fun p ν R n hD hR => ?_) (fun ν hν fν => ?_)
  · simp_arith only [pD]
    exact ⟨hD, by rw [← w_setS]; exact hR⟩
  · have haν := fν.get ha6 (by simp)
    have hmν := fν.get hm1' (by simp)
    have hmν2 := fν.get hm2 (by simp)
    have am : a ≠ μ6.cells.length := by have := f6.le; omega
    have am1 : m1 ≠ a := by omega
    have am2 : m2 ≠ a := by omega
    simp_arith only [↓wC_of haν, pfb3, List.contains_cons, beq_self_eq_true, Bool.true_or, Bool.or_true]
    refine ⟨hE, ⟨a, m1, m2, μ6.cells.length⟩, rfl, fun k hk => ?_, ⟨at_set (at_lt haν), by rw [at_setn am1]; exact hmν, by rw [at_setn am2]; exact hmν2, by rw [at_setn (Ne.symm am)]; exact hν⟩, (f6.trans (fa fν)).trans (Fr.set1 _ _ _) ga⟩
    have := f6.le
    simp only [PA.foot, List.mem_cons, List.not_mem_nil, or_false] at hk
    omega
end
end DozK
end
section
namespace DozK
open PySem L2 Doz
theorem ofS_inj {a b : String} (h : Str.ofString a = Str.ofString b) : a = b := by
  have h2 : TL.tl (Str.ofString a) = TL.tl (Str.ofString b) := congrArg TL.tl h
  rw [TL.tl_ofString, TL.tl_ofString] at h2
  have h3 : a.toList = b.toList := by
    have inj : ∀ (l m : List Char), l.map Char.toNat = m.map Char.toNat → l = m := by
      intro l
      induction l with
      | nil => intro m h; cases m with
        | nil => rfl
        | cons a r => cases h
      | cons a r ih => intro m h; cases m with
        | nil => cases h
        | cons b t =>
          rw [List.map_cons, List.map_cons] at h
          injection h with h1 h2
          rw [Char.ext (UInt32.toNat_inj.mp h1), ih t h2]
    exact inj _ _ h2
  exact String.toList_inj.mp h3
theorem ofS_beq (a b : String) : (Str.ofString a == Str.ofString b) = (a == b) := by
  by_cases h : a = b
  · subst h; simp
  · have h2 : Str.ofString a ≠ Str.ofString b := fun e => h (ofS_inj e)
    rw [beq_eq_false_iff_ne.mpr h, beq_eq_false_iff_ne.mpr h2]
theorem fl_conds (x0 x1 x2 x3 : D) (Q : D → Prop) : qO (([(("locks" : Str), x0), (("conds" : Str), x1), (("counts" : Str), x2), (("cells" : Str), x3)] : List (Str × D)).lookup ("conds" : Str)) Q = Q x1 := by kernel_rfl
theorem hm_lock_of (x0 x1 x2 x3 : D) : noFld ([(("locks" : Str), x0), (("conds" : Str), x1), (("counts" : Str), x2), (("cells" : Str), x3)] : List (Str × D)) ("lock_of" : Str) = true := by kernel_rfl
def BK.L (b : BK) (n : Str) : Str := (aget b.cd n).getD ""
theorem aget_mem {β : Type} : ∀ {l : List (Str × β)} {k : Str} {v : β}, (l.map (·.1)).Nodup → (k, v) ∈ l → aget l k = some v
  | (a, w) :: l, k, v, hn, h => by
    rw [List.map_cons, List.nodup_cons] at hn
    unfold aget
    rw [List.find?_cons]
    rcases List.mem_cons.mp h with e | h
    · injection e with e1 e2
      subst e1; subst e2
      simp
    · have hne : ¬ a = k := fun e => hn.1 (by rw [e]; exact List.mem_map.mpr ⟨(k, v), h, rfl⟩)
      rw [decide_eq_false hne]
      exact aget_mem hn.2 h
theorem aget_isSome {β : Type} : ∀ (l : List (Str × β)) (k : Str), (aget l k).isSome = decide (k ∈ l.map (·.1))
  | [], k => by simp [aget]
  | (a, w) :: l, k => by
    have ih := aget_isSome l k
    unfold aget at ih ⊢
    rw [List.find?_cons]
    by_cases e : a = k
    · subst e; simp
    · rw [decide_eq_false e]
      dsimp only
      rw [ih]
      refine decide_eq_decide.mpr ?_
      simp [Ne.symm e]
theorem BK.Ok.nd1 {b : BK} (h : b.Ok) : (b.cd.map (·.1)).Nodup := h.nd.sublist (by unfold BK.names; exact ((List.sublist_append_right _ _).trans (List.sublist_append_left _ _)).trans (List.sublist_append_left _ _))
theorem Cond.lock {b : BK} (hb : b.Ok) {held : List Str} {n : Str} (h : Cond b held n) : aget b.cd n = some (b.L n) ∧ b.L n ∈ held ∧ n ∈ b.cd.map (·.1) := by
  obtain ⟨l, h1, h2⟩ := h
  have e := aget_mem hb.nd1 h1
  have e2 : b.L n = l := by unfold BK.L; rw [e]; rfl
  rw [e2]
  exact ⟨e, h2, List.mem_map_of_mem h1⟩
def CR.strs : CR → List Str
  | .lock n => [n] | .free n => [n] | .rest n => [n] | .await n e _ => [n, e] | .tri n e _ => [n, e] | .call n => [n] | .all n => [n]
  | .down n => [n] | .up n => [n] | .set n _ => [n] | .add n _ => [n]
def CR.Txt (r : CR) : Prop := ∀ w ∈ r.strs, PyData.strOk w = true
section
variable {c : Cl} {μ μ' : Mem} {A : PA} {b : BK}
theorem w_eqNN {E : EP} (Q : Bool → Mem → Prop) : wR (cEqA (.lst []) (.lst []) μ) Q E = Q true μ := w_eq_nice (d := .lst []) (e := .lst []) rfl rfl Q E
theorem w_eqCN {E : EP} {ds : List D} (h : ds.all (nice 7) = true) (h0 : ds ≠ []) (Q : Bool → Mem → Prop) : wR (cEqA (.lst ds) (.lst []) μ) Q E = Q false μ := by
  rw [w_eq_nice (d := .lst ds) (e := .lst []) h rfl]
  have : D.eqv (.lst ds) (.lst []) = false := by
    cases ds with
    | nil => exact absurd rfl h0
    | cons a r => simp [D.eqv, D.eqvs]
  rw [this]
theorem lock_of_ok (h : PB c μ A b) {n l : Str} (hn : aget b.cd n = some l) : wR (m_n_Book_lock_of c [.loc A.a, .str n] μ) (fun v μ' => v = .str l ∧ μ' = μ) noE := by
  have e : kget (encS D.str b.cd) (.inr n) = some (.str l) := by rw [encS_get, hn]; rfl
  unfold m_n_Book_lock_of
  rw [w_run]
  show wS (t_n_Book_lock_of c) [some (.loc A.a), some (.str n)] μ _
  unfold t_n_Book_lock_of
  simp_arith only [↓wC_of h.h0, fl_conds, ↓wC_of h.h1, ↓qO_of e]
end
end DozK
end
section
namespace DozK
open PySem L2 Doz
def restingR (l n : Str) (p back late : Int) : List Row := [.load n, .swap l 0 1 (p + 3), .wake l 1, .still n (p + 4) (p + 4) late, .swap l 2 0 back, .wait l 2 (p + 4) (p + 4) (-1)]
def CR.rows (L : Str → Str) (p : Int) : CR → List Row
  | .lock n => [.cas n 0 1 (p + 3), .swap n 2 0 (p + 3), .wait n 2 (p + 1) (p + 1) (-1)]
  | .free n => [.swap n 0 1 (p + 2), .wake n 1]
  | .rest n => restingR (L n) n p (p + 6) (-1)
  | .await n e k => .if_ e k (p + 7) :: restingR (L n) n (p + 1) p (-1)
  | .tri n e k => .if_ e k (p + 9) :: restingR (L n) n (p + 1) p (p + 7) ++ [.swap (L n) 2 0 (p + 9), .wait (L n) 2 (p + 7) (p + 7) (-1)]
  | .call n => [.add n 1 0 (p + 1), .wake n 1]
  | .all n => [.add n 1 0 (p + 1), .move n (L n) 1 1000]
  | .down n => [.take n (p + 2), .wait n 0 p p (-1)]
  | .up n => [.add n 1 0 (p + 1), .wake n 1]
  | .set n k => [.set n k]
  | .add n k => [.add n k 0 (p + 1)]
def CR.cond : CR → Option Str
  | .rest n => some n | .await n _ _ => some n | .tri n _ _ => some n | .call n => some n | .all n => some n | _ => none
section
variable {c : Cl} {μ μ' : Mem} {A : PA} {b : BK}
end
end DozK
namespace DozK
open PySem L2 Doz
def CR.word : CR → Str
  | .lock _ => "lock" | .free _ => "free" | .rest _ => "rest" | .await _ _ _ => "await" | .tri _ _ _ => "try" | .call _ => "call" | .all _ => "all"
  | .down _ => "down" | .up _ => "up" | .set _ _ => "set" | .add _ _ => "add"
def CR.name : CR → Str
  | .lock n => n | .free n => n | .rest n => n | .await n _ _ => n | .tri n _ _ => n | .call n => n | .all n => n
  | .down n => n | .up n => n | .set n _ => n | .add n _ => n
section
variable {c : Cl} {μ μ' : Mem} {b : BK} {E : EP}
def planR (L : Str → Str) : Nat → List CR → List Row
  | _, [] => []
  | p, r :: rs => r.rows L (p : Int) ++ planR L (p + (r.rows L (p : Int)).length) rs
end
end DozK
end
end
section
open PySem L2 Doz
local macro_rules | `(tactic| simp_arith only [$xs,*]) => `(tactic| simp -failIfUnchanged -implicitDefEqProofs (disch := (first | (simp only [Doz.len_push, Doz.len_set]; omega) | omega | assumption)) only [↓wR_ok, ↓wR_err, ↓wE_var0, ↓wE_varS, ↓wE_C, ↓wE_op, ↓wE_cmp, ↓wE_bl, ↓qB_bl, ↓wE_asB, ↓wE_and, ↓wE_or, ↓wE_not, ↓wE_andV, ↓wE_orV, ↓wE_notV, ↓wE_if, ↓wE_nil, ↓wE_cons, ↓wE_fz, ↓wE_lc, ↓wE_tup, ↓wE_lst, ↓wE_call, ↓wE_nopart, ↓qI_int, ↓wE_part, ↓wE_slice, ↓wE_fld, ↓wE_dnew, ↓wE_iter, ↓wE_rev, ↓wE_pos, ↓wE_kws, ↓wE_noa, ↓wE_both, ↓wE_fn, ↓wE_mth, ↓qN_non, ↓wE_mk, ↓wE_meth, ↓wE_neg, ↓wE_chain, ↓wE_comp, ↓wS_nx, ↓wS_bk, ↓wS_ct, ↓wS_seq, ↓wS_drop, ↓wS_ret, ↓wS_retN, ↓wS_if, ↓wS_asg, ↓qL_loc, ↓qCl_lst, ↓wS_retFz, ↓wS_raise, ↓wS_for, ↓wS_try, ↓wG_set0, ↓wG_setS, ↓wG_then, ↓wG_sub, ↓wG_fld, ↓qT_tup, ↓wG_tup, ↓wGs_nil, ↓wGs_cons, ↓endB_nx, ↓endB_rt, ↓endB_er, ↓endB_bk, ↓endB_ct, ↓loopP_nx, ↓loopP_ct, ↓loopP_bk, ↓loopP_rt, ↓loopP_er, ↓qO_some, ↓qO_at0, ↓qO_at1, ↓qO_at2, ↓qO_at3, ↓qO_at4, ↓qO_at5, ↓w_add_int, ↓w_add_str, ↓w_add_tup, ↓w_add_lst, ↓w_sub, ↓w_mod, ↓w_div, ↓w_mul, ↓w_pow, ↓w_band, ↓w_lt, ↓w_le, ↓w_gt, ↓w_ge, ↓w_is, ↓w_isNot, ↓nonN, ↓nonI, ↓nonS, ↓nonT, ↓nonL, ↓nonLoc, ↓w_eq_int, ↓w_ne_int, ↓w_eq_str, ↓w_ne_str, ↓qIx_lst, ↓qIx_dK, ↓qIxS_dK, ↓w_ix_loc, ↓w_ix_locS, ↓w_ix_lst, ↓w_ix_tup, ↓w_ix_str, ↓qLS_0, ↓qLS_1, ↓qLS_2, ↓qLS_3, ↓qSet_lst, ↓qSet_dK, ↓qSetS_dK, ↓w_setI, ↓w_setS, ↓qF_ins, ↓w_fld, ↓qSF_ins, ↓w_setF, ↓w_len_str, ↓w_len_lst, ↓w_len_tup, ↓qLen_lst, ↓qLen_dK, ↓w_len_loc, ↓w_max, ↓w_min, ↓w_int_int, ↓w_int_bl, ↓w_str_int, ↓qDc_dK, ↓w_dict, ↓w_tuple_lst, ↓w_tuple_tup, ↓w_tuple_loc, ↓w_list_lst, ↓w_list_tup, ↓w_iter_lst, ↓w_iter_tup, ↓w_iter_str, ↓w_iter_loc, ↓w_rng1, ↓w_rng2, ↓w_sl_str, ↓w_sl_tup, ↓w_sl_lst, ↓w_append, ↓w_lclear, ↓tyS_str, ↓tyL_lst, ↓qM_loc, ↓look1, ↓wC_set, ↓wC_setn, ↓wC_push2, ↓wC_pushn, ↓wE_yes, ↓wE_revL, ↓qO_lst, ↓w_all_lst, ↓w_join_lst, ↓wE_get1, ↓wE_get2, ↓wE_pop1, ↓qO_keyI, ↓qO_keyS, ↓qIns_ins, ↓wS_faug, ↓wE_disp, ↓wE_pairs0, ↓wE_pairsC, ↓keysOf0, ↓keysOfS, ↓keysOfI, ↓wE_keys, ↓wE_sliceN, ↓wE_sortK, ↓hb_place, ↓hb_turn, ↓hb_since, ↓hb_until, ↓hb_mask, ↓hbm_meets, ↓hbm_is_over, ↓hbm_twin, ↓isi_non_int, ↓isi_non_bool, ↓isi_non_str, ↓isi_non_tuple, ↓isi_non_list, ↓isi_non_dict, ↓isi_bl_int, ↓isi_bl_bool, ↓isi_bl_str, ↓isi_bl_tuple, ↓isi_bl_list, ↓isi_bl_dict, ↓isi_int_int, ↓isi_int_bool, ↓isi_int_str, ↓isi_int_tuple, ↓isi_int_list, ↓isi_int_dict, ↓isi_str_int, ↓isi_str_bool, ↓isi_str_str, ↓isi_str_tuple, ↓isi_str_list, ↓isi_str_dict, ↓isi_tup_int, ↓isi_tup_bool, ↓isi_tup_str, ↓isi_tup_tuple, ↓isi_tup_list, ↓isi_tup_dict, ↓isi_lst_int, ↓isi_lst_bool, ↓isi_lst_str, ↓isi_lst_tuple, ↓isi_lst_list, ↓isi_lst_dict, ↓hm_look_for, ↓hm_look_awake, ↓hm_next_turn, ↓hm_lie_down, ↓hm_rise, ↓hm_is_over, ↓hm_put, ↓hm_sleep, ↓hm_wake, ↓hm_move, ↓hm_tick, ↓hm_lateness, ↓hm_nudge, ↓hm_rank, ↓hm_number, ↓hm_line, ↓hm_line_at, ↓hm_order, ↓hm_asleep, ↓hm_sleeper, ↓hm_ending, ↓hm_standing, ↓hm_now, ↓hm_log, ↓hm_who, ↓hm_filled, ↓hm_twin, ↓hf_numbers, ↓hf_beds, ↓hf_ranks, ↓hf_endings, ↓hf_clock, ↓hf_turns, ↓hf_begun, ↓hf_entries, ↓wE_chainV, ↓wS_aug, ↓wG_unl, ↓wE_repN, ↓wE_dc2, ↓wE_dc, ↓w_in2, ↓w_in5, ↓wG_s32, ↓wG_s40_5, ↓wG_s40_6, ↓wE_catN, ↓qO_cat, ↓hw_plans, ↓hw_names, ↓hw_numbers, ↓hw_nudges, ↓hw_ranks, ↓hw_marks, ↓hwm_start, ↓hwm_row_at, ↓hwm_are_sizes, ↓hwm_is_state, ↓hwm_may_lie, ↓hwm_is_in_order, ↓hwm_can, ↓hwm_after, ↓hwm_stepped, ↓hwm_lain, ↓hwm_roused, ↓hwm_clash, ↓hwm_ended, ↓hwm_stuck, decide_eq_true_eq, beq_iff_eq, Bool.not_eq_true', Bool.not_eq_eq_eq_not, Bool.not_true, Bool.not_false, decide_eq_false_iff_not, beq_eq_false_iff_ne, ne_eq, true_and, and_true, if_true, if_false, ite_true, ite_false, reduceIte, Bool.false_eq_true, not_false_eq_true, not_true_eq_false, Int.reduceLT, Int.reduceLE, Int.reduceToNat, Nat.reduceLT, Nat.reduceLeDiff, Int.reducePow, Nat.reduceAdd, Int.reduceAdd, Int.reduceMul, Int.reduceSub, Int.reduceNeg, Nat.reducePow, Int.reduceEq, Nat.reduceEqDiff, List.length_cons, List.length_nil, PySem.sizeLine_eq, str_len_app, str_len_one, wipeD, List.set_cons_zero, List.set_cons_succ, $xs,*])
section
namespace Doz
open PySem L2
def Row.rms : Row → List Str
  | .move r o _ _ => [r, o]
  | row => [row.room]
def Row.cnts : Row → List Int
  | .wake _ n => [n]
  | .move _ _ n m => [n, m]
  | _ => []
def Row.wys : Row → List Int
  | .add _ _ _ w => [w] | .cas _ _ _ w => [w] | .swap _ _ _ w => [w] | .take _ w => [w] | .if_ _ _ w => [w]
  | .wait _ _ a b d => [a, b, d] | .still _ a b d => [a, b, d]
  | _ => []
section
variable {c : Cl} {μ : Mem}
theorem names_of_ok (row : Row) : wR (m_n_names_of c [row.d] μ) (fun v μ' => v = .tup (row.rms.map D.str) ∧ μ' = μ) noE := by
  have wn := words_ne
  unfold m_n_names_of
  rw [w_run]
  show wS (t_n_names_of c) [some row.d] μ _
  unfold t_n_names_of
  cases row <;> dsimp only [Row.d, Row.ds] <;> simp_arith only [wn] <;> rfl
theorem countsR_ok (row : Row) : wR (m_n_counts_of c [row.d] μ) (fun v μ' => v = .tup (row.cnts.map D.int) ∧ μ' = μ) noE := by
  have wn := words_ne
  unfold m_n_counts_of
  rw [w_run]
  show wS (t_n_counts_of c) [some row.d] μ _
  unfold t_n_counts_of
  cases row <;> dsimp only [Row.d, Row.ds] <;> simp_arith only [wn] <;> rfl
theorem ways_of_ok (row : Row) : wR (m_n_ways_of c [row.d] μ) (fun v μ' => v = .tup (row.wys.map D.int) ∧ μ' = μ) noE := by
  have wn := words_ne
  unfold m_n_ways_of
  rw [w_run]
  show wS (t_n_ways_of c) [some row.d] μ _
  unfold t_n_ways_of
  cases row <;> dsimp only [Row.d, Row.ds] <;> simp_arith only [wn, Bool.or_false, Bool.or_true, Bool.true_or, Bool.false_or, or_true, true_or, or_false, false_or] <;> rfl
theorem is_bad_ok {r : Nat} {num : List (Str × Int)} (hr : μ.cells[r]? = some (.dK (encS D.int num))) {row : Row} {size : Nat} (hok : row.ok (num.map (·.1)) size) :
    wR (m_n_is_bad c [row.d, .loc r, .int (size : Nat)] μ) (fun v μ' => v = .bl false ∧ Fr [] μ μ') noE := by
  have wn := words_ne
  have all1 : ∀ (α : Type) (xs : List α), (xs.map fun _ => true).all id = true := fun α xs => by simp
  unfold m_n_is_bad
  rw [w_run]
  show wS (t_n_is_bad c) [some row.d, some (.loc r), some (.int (size : Nat)), none, none, none, none] μ _
  unfold t_n_is_bad
  have hrm : ∀ w ∈ row.rms, w ∈ num.map (·.1) := by
    cases row <;> intro w hw <;> simp only [Row.rms, Row.room, List.mem_cons, List.not_mem_nil, or_false] at hw
    case move => rcases hw with rfl | rfl
                 · exact hok.1
                 · exact hok.2.1
    all_goals (subst hw; exact room_in hok)
  have hrl : row.rms.length ≤ 2 := by cases row <;> simp [Row.rms]
  have hcl : row.cnts.length ≤ 2 := by cases row <;> simp [Row.cnts]
  have hwl : row.wys.length ≤ 3 := by cases row <;> simp [Row.wys]
  refine w_skip ?_ ?_
  · simp_arith only [id_eq]
    refine (names_of_ok row).go ?_
    rintro _ _ ⟨rfl, rfl⟩
    simp_arith only [List.length_map]
    refine ⟨by omega, ?_⟩
    refine w_compMap (fun w => D.bl ((fun _ => true) w)) rfl (fun w hm => ?_) ?_
    · have h1 := aget_isSome num w
      rw [decide_eq_true (hrm w hm)] at h1
      simp_arith only [↓w_in_dictS hr, encS_get, Option.isSome_map, h1]
    · simp_arith only [↓qO_of (blsOf_map (fun _ => true) row.rms), all1]
  refine w_skip ?_ ?_
  · cases row with
    | move r o n m =>
      dsimp only [Row.d, Row.ds]
      simp_arith only [wn, hok.2.2.1]
    | _ => dsimp only [Row.d, Row.ds]; simp_arith only [wn]
  refine w_skip ?_ ?_
  · simp_arith only [id_eq]
    refine (countsR_ok row).go ?_
    rintro _ _ ⟨rfl, rfl⟩
    simp_arith only [List.length_map]
    refine ⟨by omega, ?_⟩
    refine w_compMap (fun w => D.bl ((fun _ => true) w)) rfl (fun w hm => ?_) ?_
    · have h1 : 0 ≤ w := by
        cases row <;> simp only [Row.cnts, List.mem_cons, List.not_mem_nil, or_false] at hm
        case wake => subst hm; exact hok.2
        case move => rcases hm with rfl | rfl
                     · exact hok.2.2.2.1
                     · exact hok.2.2.2.2
      simp_arith only [h1, ge_iff_le, decide_true]
    · simp_arith only [↓qO_of (blsOf_map (fun _ => true) row.cnts), all1]
  refine wS_cut (fun δ μ' => δ = [some row.d, some (.loc r), some (.int (size : Nat)), some (.loc μ.cells.length), none, none, none] ∧ μ' = μ.push (.lst (row.wys.map D.int))) ?_ ?_
  · simp_arith only [id_eq]
    refine (ways_of_ok row).go ?_
    rintro _ _ ⟨rfl, rfl⟩
    simp_arith only [List.length_map]
    try omega
  rintro _ _ ⟨rfl, rfl⟩
  have lr := at_lt hr
  refine wS_cut (fun δ μ' => ∃ ws : List Int, δ = [some row.d, some (.loc r), some (.int (size : Nat)), some (.loc μ.cells.length), none, none, none] ∧ μ'.cells[μ.cells.length]? = some (.lst (ws.map D.int)) ∧ ws.length ≤ 3 ∧ (∀ w ∈ ws, 0 ≤ w ∧ w ≤ (size : Int)) ∧ Fr [] μ μ') ?_ ?_
  · have pop : ∀ (x y z : Int), x.sign = x.sign → (0 ≤ x ∧ x ≤ (size : Int)) → (0 ≤ y ∧ y ≤ (size : Int)) → (z = -1 ∨ (0 ≤ z ∧ z ≤ (size : Int))) → z = -1 → ∃ ws : List Int, ((μ.push (.lst [.int x, .int y, .int z])).set μ.cells.length (.lst [.int x, .int y])).cells[μ.cells.length]? = some (.lst (ws.map D.int)) ∧ ws.length ≤ 3 ∧ (∀ w ∈ ws, 0 ≤ w ∧ w ≤ (size : Int)) ∧ Fr [] μ ((μ.push (.lst [.int x, .int y, .int z])).set μ.cells.length (.lst [.int x, .int y])) := by
      intro x y z _ hx hy _ _
      refine ⟨[x, y], ?_, by simp, ?_, (Fr.push [] _ _).trans (Fr.set1 _ _ _) (by intro k hk hl; simp at hk; omega)⟩
      · rw [at_set (by rw [len_push]; omega)]; rfl
      · intro w hw
        simp only [List.mem_cons, List.not_mem_nil, or_false] at hw
        rcases hw with rfl | rfl <;> assumption
    have stay : ∀ (ws : List Int), ws.length ≤ 3 → (∀ w ∈ ws, 0 ≤ w ∧ w ≤ (size : Int)) → ∃ ws' : List Int, (μ.push (.lst (ws.map D.int))).cells[μ.cells.length]? = some (.lst (ws'.map D.int)) ∧ ws'.length ≤ 3 ∧ (∀ w ∈ ws', 0 ≤ w ∧ w ≤ (size : Int)) ∧ Fr [] μ (μ.push (.lst (ws.map D.int))) := fun ws h1 h2 => ⟨ws, at_push, h1, h2, Fr.push [] _ _⟩
    have ge0 : ∀ {w a : Int}, w ∈ [a] → (0 ≤ a ∧ a ≤ (size : Int)) → 0 ≤ w ∧ w ≤ (size : Int) := fun hw h => by rw [List.mem_singleton.mp hw]; exact h
    have three : ∀ {w a b d : Int}, w ∈ [a, b, d] → (0 ≤ a ∧ a ≤ (size : Int)) → (0 ≤ b ∧ b ≤ (size : Int)) → (0 ≤ d ∧ d ≤ (size : Int)) → 0 ≤ w ∧ w ≤ (size : Int) := fun hw h1 h2 h3 => by
      simp only [List.mem_cons, List.not_mem_nil, or_false] at hw
      rcases hw with rfl | rfl | rfl <;> assumption
    cases row with
    | wait r n ch wo la =>
      obtain ⟨hk1, hk2, hk3, hk4⟩ := hok
      have hc : (μ.push (.lst ([ch, wo, la].map D.int))).cells[μ.cells.length]? = some (.lst ([.int ch, .int wo] ++ [.int la])) := at_push
      have hty := tyL_of hc
      dsimp only [Row.d, Row.ds, Row.wys]
      by_cases hla : la = -1
      · subst hla
        simp_arith only [wn, ↓wC_of hc, ↓qO_of (show atI ([D.int ch, .int wo] ++ [.int (-1)]) (-1) = some (.int (-1)) from rfl), hty, ↓w_pop hc, Bool.or_false, Bool.true_or, true_or, beq_self_eq_true]
        exact pop ch wo (-1) rfl hk2 hk3 hk4 rfl
      · simp_arith only [wn, ↓wC_of hc, ↓qO_of (show atI ([D.int ch, .int wo] ++ [.int la]) (-1) = some (.int la) from rfl), hla, Bool.or_false, Bool.true_or, true_or, beq_self_eq_true]
        exact stay [ch, wo, la] (by simp) fun w hw => three hw hk2 hk3 (hk4.resolve_left hla)
    | still r ch wo la =>
      obtain ⟨hk1, hk2, hk3, hk4⟩ := hok
      have hc : (μ.push (.lst ([ch, wo, la].map D.int))).cells[μ.cells.length]? = some (.lst ([.int ch, .int wo] ++ [.int la])) := at_push
      have hty := tyL_of hc
      dsimp only [Row.d, Row.ds, Row.wys]
      by_cases hla : la = -1
      · subst hla
        simp_arith only [wn, ↓wC_of hc, ↓qO_of (show atI ([D.int ch, .int wo] ++ [.int (-1)]) (-1) = some (.int (-1)) from rfl), hty, ↓w_pop hc, Bool.or_true, or_true, beq_self_eq_true]
        exact pop ch wo (-1) rfl hk2 hk3 hk4 rfl
      · simp_arith only [wn, ↓wC_of hc, ↓qO_of (show atI ([D.int ch, .int wo] ++ [.int la]) (-1) = some (.int la) from rfl), hla, Bool.or_true, or_true, beq_self_eq_true]
        exact stay [ch, wo, la] (by simp) fun w hw => three hw hk2 hk3 (hk4.resolve_left hla)
    | add => dsimp only [Row.d, Row.ds, Row.wys]; simp_arith only [wn, Bool.or_false, or_false]; exact stay [_] (by simp) fun w hw => ge0 hw hok.2
    | cas => dsimp only [Row.d, Row.ds, Row.wys]; simp_arith only [wn, Bool.or_false, or_false]; exact stay [_] (by simp) fun w hw => ge0 hw hok.2
    | swap => dsimp only [Row.d, Row.ds, Row.wys]; simp_arith only [wn, Bool.or_false, or_false]; exact stay [_] (by simp) fun w hw => ge0 hw hok.2
    | take => dsimp only [Row.d, Row.ds, Row.wys]; simp_arith only [wn, Bool.or_false, or_false]; exact stay [_] (by simp) fun w hw => ge0 hw hok.2
    | if_ => dsimp only [Row.d, Row.ds, Row.wys]; simp_arith only [wn, Bool.or_false, or_false]; exact stay [_] (by simp) fun w hw => ge0 hw hok.2
    | _ => dsimp only [Row.d, Row.ds, Row.wys]; simp_arith only [wn, Bool.or_false, or_false]; exact stay [] (by simp) fun w hw => by cases hw
  rintro _ μ2 ⟨ws, rfl, hc2, hl2, hb2, f2⟩
  simp_arith only [↓wC_of hc2, List.length_map]
  refine ⟨by omega, ?_⟩
  refine w_compMap (fun w => D.bl ((fun _ => true) w)) (sames_refl' _ _ hc2) (fun w hm => ?_) ?_
  · obtain ⟨h1, h2⟩ := hb2 w hm
    simp_arith only [h1, h2, decide_true]
  · simp_arith only [↓qO_of (blsOf_map (fun _ => true) ws), all1]
    exact f2
theorem w_enum_lst (ds : List D) (Q : Its0 → Mem → Prop) (E : EP) : wR (fEnum [.lst ds] μ) Q E = Q (numbered ds, lstIs (.lst ds) ds) μ := rfl
theorem numbered_map {α : Type} (f : α → D) (xs : List α) : numbered (xs.map f) = xs.zipIdx.map fun q => D.tup [.int (q.2 : Nat), f q.1] := by
  unfold numbered; rw [List.zipIdx_map, List.map_map]; rfl
theorem lstIs_lst (ds : List D) (μ : Mem) : lstIs (.lst ds) ds μ = true := D.sames_refl ds
theorem zip_mem {α : Type} {xs : List α} {q : α × Nat} (h : q ∈ xs.zipIdx) : q.1 ∈ xs := (List.mem_zipIdx' h).2 ▸ List.getElem_mem _
theorem look_ok {r : Nat} {num : List (Str × Int)} {plans : List (List Row)} (hr : μ.cells[r]? = some (.dK (encS D.int num))) (hok : ∀ plan ∈ plans, ∀ row ∈ plan, row.ok (num.map (·.1)) plan.length) (hl : plans.length ≤ 100) (hl2 : ∀ plan ∈ plans, plan.length ≤ 1000) :
    wR (m_n_look_at_plans c [.loc r, .lst (plans.map planD)] μ) (fun v μ' => Fr [] μ μ') noE := by
  unfold m_n_look_at_plans
  rw [w_run]
  show wS (t_n_look_at_plans c) [some (.loc r), some (.lst (plans.map planD)), none, none, none, none] μ _
  unfold t_n_look_at_plans
  simp_arith only [↓w_enum_lst, numbered_map]
  refine w_loopM (fun rest δ μ' => ∃ x2 x3 x4 x5, (∀ q ∈ rest, q.1 ∈ plans) ∧ δ = [some (.loc r), some (.lst (plans.map planD)), x2, x3, x4, x5] ∧ Fr [] μ μ') (fun _ _ _ _ => lstIs_lst _ _) ?_ ?_ _ _ _ ⟨none, none, none, none, fun q hq => zip_mem hq, rfl, Fr.refl _ _⟩
  · rintro q rest δ μ1 ⟨x2, x3, x4, x5, hq, rfl, f1⟩
    have hq0 := hq q (by simp)
    simp_arith only [↓w_enum_lst, numbered_map, planD]
    refine w_loopM (fun rest' δ μ' => ∃ x4 x5, (∀ p ∈ rest', p.1 ∈ q.1) ∧ δ = [some (.loc r), some (.lst (plans.map planD)), some (.int (q.2 : Nat)), some (.lst (q.1.map Row.d)), x4, x5] ∧ Fr [] μ μ') (fun _ _ _ _ => lstIs_lst _ _) ?_ ?_ _ _ _ ⟨x4, x5, fun q hq => zip_mem hq, rfl, f1⟩
    · rintro p rest' δ μ2 ⟨y4, y5, hp, rfl, f2⟩
      have hp0 := hp p (by simp)
      simp_arith only [List.length_map]
      refine (is_bad_ok (f2.get hr (by simp)) (hok _ hq0 _ hp0)).go ?_
      rintro _ μ3 ⟨rfl, f3⟩
      simp_arith only [id_eq]
      exact ⟨_, _, fun p' h' => hp p' (by simp [h']), rfl, f2.trans f3⟩
    · rintro δ μ2 ⟨y4, y5, hp, rfl, f2⟩
      exact ⟨_, _, _, _, fun q' h' => hq q' (by simp [h']), rfl, f2⟩
  · rintro δ μ1 ⟨x2, x3, x4, x5, hq, rfl, f1⟩
    exact f1
theorem pfw0 (v : D) : putFD "plans" v [] = [(("plans" : Str), v)] := by kernel_rfl
theorem pfw1 (x0 v : D) : putFD "names" v [(("plans" : Str), x0)] = [(("plans" : Str), x0), (("names" : Str), v)] := by kernel_rfl
theorem pfw2 (x0 x1 v : D) : putFD "numbers" v [(("plans" : Str), x0), (("names" : Str), x1)] = [(("plans" : Str), x0), (("names" : Str), x1), (("numbers" : Str), v)] := by kernel_rfl
theorem pfw3 (x0 x1 x2 v : D) : putFD "nudges" v [(("plans" : Str), x0), (("names" : Str), x1), (("numbers" : Str), x2)] = [(("plans" : Str), x0), (("names" : Str), x1), (("numbers" : Str), x2), (("nudges" : Str), v)] := by kernel_rfl
theorem pfw4 (x0 x1 x2 x3 v : D) : putFD "ranks" v [(("plans" : Str), x0), (("names" : Str), x1), (("numbers" : Str), x2), (("nudges" : Str), x3)] = [(("plans" : Str), x0), (("names" : Str), x1), (("numbers" : Str), x2), (("nudges" : Str), x3), (("ranks" : Str), v)] := by kernel_rfl
theorem pfw5 (x0 x1 x2 x3 x4 v : D) : putFD "ranks" v [(("plans" : Str), x0), (("names" : Str), x1), (("numbers" : Str), x2), (("nudges" : Str), x3), (("ranks" : Str), x4)] = [(("plans" : Str), x0), (("names" : Str), x1), (("numbers" : Str), x2), (("nudges" : Str), x3), (("ranks" : Str), v)] := by kernel_rfl
theorem pfw6 (x0 x1 x2 x3 x4 v : D) : putFD "marks" v [(("plans" : Str), x0), (("names" : Str), x1), (("numbers" : Str), x2), (("nudges" : Str), x3), (("ranks" : Str), x4)] = [(("plans" : Str), x0), (("names" : Str), x1), (("numbers" : Str), x2), (("nudges" : Str), x3), (("ranks" : Str), x4), (("marks" : Str), v)] := by kernel_rfl
theorem fw_plans (x0 : D) (Q : D → Prop) : qO (([(("plans" : Str), x0)] : List (Str × D)).lookup ("plans" : Str)) Q = Q x0 := by kernel_rfl
theorem fw_names (x0 x1 : D) (Q : D → Prop) : qO (([(("plans" : Str), x0), (("names" : Str), x1)] : List (Str × D)).lookup ("names" : Str)) Q = Q x1 := by kernel_rfl
end
section
variable {c : Cl} {μ : Mem}
theorem winit_ok {r : Nat} {W : Wo} {rk : D} {num : List (Str × Int)} (hW : W.Ok) (h0 : 0 < W.names.length) (hr : μ.cells[r]? = some (.dK (encS D.int num))) (hnd : (num.map (·.1)).Nodup) (hnm : W.names = sortTxts (num.map (·.1))) (hnu : W.nums = W.names.map fun w => (aget num w).getD 0) (hrk : (rk = .non ∧ W.ranks = W.plans.map fun _ => 0) ∨ rk = .lst (W.ranks.map D.int)) :
    wR (m_n_Worlddd_initdd c [.loc μ.cells.length, .loc r, .lst (W.plans.map planD), .non, rk, .bl W.nud] (μ.push (.ins c.n_World []))) (fun d μ' => d = .non ∧ PW c μ' μ.cells.length W .non ∧ Fr [] μ μ') noE := by
  have hnl : num.length = W.names.length := by rw [hnm, len_sortTxts]; simp
  have hrooms := hW.rooms
  have hfew := hW.few
  have lr := at_lt hr
  have hok : ∀ plan ∈ W.plans, ∀ row ∈ plan, row.ok (num.map (·.1)) plan.length := fun plan hp row hrow => (hW.row plan hp row hrow).to fun w hw => by rw [hnm] at hw; exact mem_sortTxts.mp hw
  generalize ha : μ.cells.length = a
  unfold m_n_Worlddd_initdd
  rw [w_run]
  show wS (t_n_Worlddd_initdd c) [some (.loc a), some (.loc r), some (.lst (W.plans.map planD)), some .non, some rk, some (.bl W.nud), none, none, none, none] (μ.push (.ins c.n_World [])) _
  unfold t_n_Worlddd_initdd
  refine wS_cut (fun δ μ' => δ = [some (.loc a), some (.loc r), some (.lst (W.plans.map planD)), some .non, some rk, some (.bl W.nud), none, none, none, none] ∧ μ'.cells[a]? = some (.ins c.n_World [("plans", .lst (W.plans.map planD))]) ∧ Fr [] μ μ') ?_ ?_
  · simp_arith only [List.length_map]
    refine ⟨by omega, ?_⟩
    refine w_compMap planD rfl (fun plan _ => ?_) ?_
    · simp_arith only [planD]
    · have hc : (μ.push (.ins c.n_World [])).cells[a]? = some (.ins c.n_World []) := at_push2 ha.symm
      simp_arith only [↓wC_of hc, pfw0, List.contains_cons, beq_self_eq_true, Bool.true_or, Bool.or_true]
      refine ⟨?_, ?_⟩
      · rw [at_set (by rw [len_push]; omega)]
      · exact (Fr.push [] _ _).trans (Fr.set1 _ a _) (by intro k hk hl; simp at hk; omega)
  rintro _ μ1 ⟨rfl, hc1, f1⟩
  refine wS_cut (fun δ μ' => δ = [some (.loc a), some (.loc r), some (.lst (W.plans.map planD)), some .non, some rk, some (.bl W.nud), none, none, none, none] ∧ μ'.cells[a]? = some (.ins c.n_World [("plans", .lst (W.plans.map planD))]) ∧ Fr [] μ μ') ?_ ?_
  · simp_arith only [↓wC_of hc1, ↓fw_plans]
    refine (look_ok (f1.get hr (by simp)) hok (by omega) (fun plan hp => by have := hW.size plan hp; omega)).go ?_
    rintro v μ2 f2
    exact ⟨f2.get hc1 (by simp), f1.trans f2⟩
  rintro _ μ2 ⟨rfl, hc2, f2⟩
  have hr2 := f2.get hr (by simp)
  refine wS_cut (fun δ μ' => δ = [some (.loc a), some (.loc r), some (.lst (W.plans.map planD)), some .non, some rk, some (.bl W.nud), none, none, none, none] ∧ μ'.cells[a]? = some (.ins c.n_World [("plans", .lst (W.plans.map planD)), ("names", .lst (W.names.map D.str))]) ∧ Fr [] μ μ') ?_ ?_
  · cases num with
    | nil => simp at hnl; omega
    | cons p l =>
      simp_arith only [↓w_sortDS hr2 (show (p :: l).length < 64 by omega), ↓wC_of hc2, pfw1, List.contains_cons, beq_self_eq_true, Bool.true_or, Bool.or_true, ← hnm]
      refine ⟨?_, f2.trans (Fr.set1 _ a _) (by intro k hk hl; simp at hk; omega)⟩
      rw [at_set (at_lt hc2)]
  rintro _ μ3 ⟨rfl, hc3, f3⟩
  have hr3 := f3.get hr (by simp)
  refine wS_cut (fun δ μ' => δ = [some (.loc a), some (.loc r), some (.lst (W.plans.map planD)), some .non, some rk, some (.bl W.nud), none, none, none, none] ∧ μ'.cells[a]? = some (.ins c.n_World [("plans", .lst (W.plans.map planD)), ("names", .lst (W.names.map D.str)), ("numbers", intsT W.nums)]) ∧ Fr [] μ μ') ?_ ?_
  · simp_arith only [↓wC_of hc3, ↓fw_names, List.length_map]
    refine ⟨by omega, ?_⟩
    refine w_compMap (fun w => D.int ((aget num w).getD 0)) rfl (fun w hw => ?_) ?_
    · have h1 : w ∈ num.map (·.1) := by rw [hnm] at hw; exact mem_sortTxts.mp hw
      have h2 := aget_isSome num w
      rw [decide_eq_true h1] at h2
      obtain ⟨v, hv⟩ := Option.isSome_iff_exists.mp h2
      simp_arith only [↓wC_of hr3, ↓qO_of (show kget (encS D.int num) (.inr w) = some (.int v) by rw [encS_get, hv]; rfl), hv, Option.getD_some]
    · have e1 : (D.tup (W.names.map fun w => D.int ((aget num w).getD 0))) = intsT W.nums := by rw [hnu]; unfold intsT; rw [List.map_map]; rfl
      simp_arith only [↓wC_of hc3, pfw2, List.contains_cons, beq_self_eq_true, Bool.true_or, Bool.or_true, e1]
      refine ⟨?_, f3.trans (Fr.set1 _ a _) (by intro k hk hl; simp at hk; omega)⟩
      rw [at_set (at_lt hc3)]
  rintro _ μ4 ⟨rfl, hc4, f4⟩
  refine wS_cut (fun δ μ' => δ = [some (.loc a), some (.loc r), some (.lst (W.plans.map planD)), some .non, some rk, some (.bl W.nud), none, none, none, none] ∧ μ'.cells[a]? = some (.ins c.n_World [("plans", .lst (W.plans.map planD)), ("names", .lst (W.names.map D.str)), ("numbers", intsT W.nums), ("nudges", .bl W.nud)]) ∧ Fr [] μ μ') ?_ ?_
  · simp_arith only [↓wC_of hc4, pfw3, List.contains_cons, beq_self_eq_true, Bool.true_or, Bool.or_true]
    refine ⟨?_, f4.trans (Fr.set1 _ a _) (by intro k hk hl; simp at hk; omega)⟩
    rw [at_set (at_lt hc4)]
  rintro _ μ5 ⟨rfl, hc5, f5⟩
  refine wS_cut (fun δ μ' => δ = [some (.loc a), some (.loc r), some (.lst (W.plans.map planD)), some .non, some rk, some (.bl W.nud), none, none, none, none] ∧ μ'.cells[a]? = some (.ins c.n_World [("plans", .lst (W.plans.map planD)), ("names", .lst (W.names.map D.str)), ("numbers", intsT W.nums), ("nudges", .bl W.nud), ("ranks", .lst ((W.plans.map fun _ => (0 : Int)).map D.int))]) ∧ Fr [] μ μ') ?_ ?_
  · simp_arith only [List.length_map]
    refine ⟨by omega, ?_⟩
    refine w_compMap (fun _ => D.int 0) rfl (fun _ _ => ?_) ?_
    · simp_arith only [id_eq]
    · have e0 : (W.plans.map fun _ => D.int 0) = (W.plans.map fun _ => (0 : Int)).map D.int := by rw [List.map_map]; rfl
      simp_arith only [↓wC_of hc5, pfw4, List.contains_cons, beq_self_eq_true, Bool.true_or, Bool.or_true, e0]
      refine ⟨?_, f5.trans (Fr.set1 _ a _) (by intro k hk hl; simp at hk; omega)⟩
      rw [at_set (at_lt hc5)]
  rintro _ μ6 ⟨rfl, hc6, f6⟩
  refine wS_cut (fun δ μ' => δ = [some (.loc a), some (.loc r), some (.lst (W.plans.map planD)), some .non, some rk, some (.bl W.nud), none, none, none, none] ∧ μ'.cells[a]? = some (.ins c.n_World [("plans", .lst (W.plans.map planD)), ("names", .lst (W.names.map D.str)), ("numbers", intsT W.nums), ("nudges", .bl W.nud), ("ranks", .lst (W.ranks.map D.int))]) ∧ Fr [] μ μ') ?_ ?_
  · rcases hrk with ⟨rfl, e⟩ | rfl
    · simp_arith only [id_eq]
      exact ⟨by rw [hc6, e], f6⟩
    · simp_arith only [↓wC_of hc6, pfw5, List.contains_cons, beq_self_eq_true, Bool.true_or, Bool.or_true, List.length_map]
      refine ⟨?_, f6.trans (Fr.set1 _ a _) (by intro k hk hl; simp at hk; omega)⟩
      rw [at_set (at_lt hc6)]
  rintro _ μ7 ⟨rfl, hc7, f7⟩
  refine wS_cut (fun δ μ' => δ = [some (.loc a), some (.loc r), some (.lst (W.plans.map planD)), some .non, some rk, some (.bl W.nud), none, none, none, none] ∧ μ'.cells[a]? = some (.ins c.n_World (worldF W .non)) ∧ Fr [] μ μ') ?_ ?_
  · simp_arith only [↓wC_of hc7, pfw6, List.contains_cons, beq_self_eq_true, Bool.true_or, Bool.or_true]
    refine ⟨?_, f7.trans (Fr.set1 _ a _) (by intro k hk hl; simp at hk; omega)⟩
    rw [at_set (at_lt hc7)]; rfl
  rintro _ μ8 ⟨rfl, hc8, f8⟩
  simp_arith only [id_eq]
  exact ⟨hc8, f8⟩
end
end Doz
end
end
section
open PySem L2 Doz
local macro_rules | `(tactic| simp_arith only [$xs,*]) => `(tactic| simp -failIfUnchanged -implicitDefEqProofs (disch := (first | (simp only [Doz.len_push, Doz.len_set]; omega) | omega | assumption)) only [↓wR_ok, ↓wR_err, ↓wE_var0, ↓wE_varS, ↓wE_C, ↓wE_op, ↓wE_cmp, ↓wE_bl, ↓qB_bl, ↓wE_asB, ↓wE_and, ↓wE_or, ↓wE_not, ↓wE_andV, ↓wE_orV, ↓wE_notV, ↓wE_if, ↓wE_nil, ↓wE_cons, ↓wE_fz, ↓wE_lc, ↓wE_tup, ↓wE_lst, ↓wE_call, ↓wE_nopart, ↓qI_int, ↓wE_part, ↓wE_slice, ↓wE_fld, ↓wE_dnew, ↓wE_iter, ↓wE_rev, ↓wE_pos, ↓wE_kws, ↓wE_noa, ↓wE_both, ↓wE_fn, ↓wE_mth, ↓qN_non, ↓wE_mk, ↓wE_meth, ↓wE_neg, ↓wE_chain, ↓wE_comp, ↓wS_nx, ↓wS_bk, ↓wS_ct, ↓wS_seq, ↓wS_drop, ↓wS_ret, ↓wS_retN, ↓wS_if, ↓wS_asg, ↓qL_loc, ↓qCl_lst, ↓wS_retFz, ↓wS_raise, ↓wS_for, ↓wS_try, ↓wG_set0, ↓wG_setS, ↓wG_then, ↓wG_sub, ↓wG_fld, ↓qT_tup, ↓wG_tup, ↓wGs_nil, ↓wGs_cons, ↓endB_nx, ↓endB_rt, ↓endB_er, ↓endB_bk, ↓endB_ct, ↓loopP_nx, ↓loopP_ct, ↓loopP_bk, ↓loopP_rt, ↓loopP_er, ↓qO_some, ↓qO_at0, ↓qO_at1, ↓qO_at2, ↓qO_at3, ↓qO_at4, ↓qO_at5, ↓w_add_int, ↓w_add_str, ↓w_add_tup, ↓w_add_lst, ↓w_sub, ↓w_mod, ↓w_div, ↓w_mul, ↓w_pow, ↓w_band, ↓w_lt, ↓w_le, ↓w_gt, ↓w_ge, ↓w_is, ↓w_isNot, ↓nonN, ↓nonI, ↓nonS, ↓nonT, ↓nonL, ↓nonLoc, ↓w_eq_int, ↓w_ne_int, ↓w_eq_str, ↓w_ne_str, ↓qIx_lst, ↓qIx_dK, ↓qIxS_dK, ↓w_ix_loc, ↓w_ix_locS, ↓w_ix_lst, ↓w_ix_tup, ↓w_ix_str, ↓qLS_0, ↓qLS_1, ↓qLS_2, ↓qLS_3, ↓qSet_lst, ↓qSet_dK, ↓qSetS_dK, ↓w_setI, ↓w_setS, ↓qF_ins, ↓w_fld, ↓qSF_ins, ↓w_setF, ↓w_len_str, ↓w_len_lst, ↓w_len_tup, ↓qLen_lst, ↓qLen_dK, ↓w_len_loc, ↓w_max, ↓w_min, ↓w_int_int, ↓w_int_bl, ↓w_str_int, ↓qDc_dK, ↓w_dict, ↓w_tuple_lst, ↓w_tuple_tup, ↓w_tuple_loc, ↓w_list_lst, ↓w_list_tup, ↓w_iter_lst, ↓w_iter_tup, ↓w_iter_str, ↓w_iter_loc, ↓w_rng1, ↓w_rng2, ↓w_sl_str, ↓w_sl_tup, ↓w_sl_lst, ↓w_append, ↓w_lclear, ↓tyS_str, ↓tyL_lst, ↓qM_loc, ↓look1, ↓wC_set, ↓wC_setn, ↓wC_push2, ↓wC_pushn, ↓wE_yes, ↓wE_revL, ↓qO_lst, ↓w_all_lst, ↓w_join_lst, ↓wE_get1, ↓wE_get2, ↓wE_pop1, ↓qO_keyI, ↓qO_keyS, ↓qIns_ins, ↓wS_faug, ↓wE_disp, ↓wE_pairs0, ↓wE_pairsC, ↓keysOf0, ↓keysOfS, ↓keysOfI, ↓wE_keys, ↓wE_sliceN, ↓wE_sortK, ↓hb_place, ↓hb_turn, ↓hb_since, ↓hb_until, ↓hb_mask, ↓hbm_meets, ↓hbm_is_over, ↓hbm_twin, ↓isi_non_int, ↓isi_non_bool, ↓isi_non_str, ↓isi_non_tuple, ↓isi_non_list, ↓isi_non_dict, ↓isi_bl_int, ↓isi_bl_bool, ↓isi_bl_str, ↓isi_bl_tuple, ↓isi_bl_list, ↓isi_bl_dict, ↓isi_int_int, ↓isi_int_bool, ↓isi_int_str, ↓isi_int_tuple, ↓isi_int_list, ↓isi_int_dict, ↓isi_str_int, ↓isi_str_bool, ↓isi_str_str, ↓isi_str_tuple, ↓isi_str_list, ↓isi_str_dict, ↓isi_tup_int, ↓isi_tup_bool, ↓isi_tup_str, ↓isi_tup_tuple, ↓isi_tup_list, ↓isi_tup_dict, ↓isi_lst_int, ↓isi_lst_bool, ↓isi_lst_str, ↓isi_lst_tuple, ↓isi_lst_list, ↓isi_lst_dict, ↓hm_look_for, ↓hm_look_awake, ↓hm_next_turn, ↓hm_lie_down, ↓hm_rise, ↓hm_is_over, ↓hm_put, ↓hm_sleep, ↓hm_wake, ↓hm_move, ↓hm_tick, ↓hm_lateness, ↓hm_nudge, ↓hm_rank, ↓hm_number, ↓hm_line, ↓hm_line_at, ↓hm_order, ↓hm_asleep, ↓hm_sleeper, ↓hm_ending, ↓hm_standing, ↓hm_now, ↓hm_log, ↓hm_who, ↓hm_filled, ↓hm_twin, ↓hf_numbers, ↓hf_beds, ↓hf_ranks, ↓hf_endings, ↓hf_clock, ↓hf_turns, ↓hf_begun, ↓hf_entries, ↓wE_chainV, ↓wS_aug, ↓wG_unl, ↓wE_repN, ↓wE_dc2, ↓wE_dc, ↓w_in2, ↓w_in5, ↓wG_s32, ↓wG_s40_5, ↓wG_s40_6, ↓wE_catN, ↓qO_cat, ↓hw_plans, ↓hw_names, ↓hw_numbers, ↓hw_nudges, ↓hw_ranks, ↓hw_marks, ↓hwm_start, ↓hwm_row_at, ↓hwm_are_sizes, ↓hwm_is_state, ↓hwm_may_lie, ↓hwm_is_in_order, ↓hwm_can, ↓hwm_after, ↓hwm_stepped, ↓hwm_lain, ↓hwm_roused, ↓hwm_clash, ↓hwm_ended, ↓hwm_stuck, decide_eq_true_eq, beq_iff_eq, Bool.not_eq_true', Bool.not_eq_eq_eq_not, Bool.not_true, Bool.not_false, decide_eq_false_iff_not, beq_eq_false_iff_ne, ne_eq, true_and, and_true, if_true, if_false, ite_true, ite_false, ↓reduceIte, Bool.false_eq_true, not_false_eq_true, not_true_eq_false, Int.reduceLT, Int.reduceLE, Int.reduceToNat, Nat.reduceLT, Nat.reduceLeDiff, Int.reducePow, Nat.reduceAdd, Int.reduceAdd, Int.reduceMul, Int.reduceSub, Int.reduceNeg, Nat.reducePow, Int.reduceEq, Nat.reduceEqDiff, List.length_cons, List.length_nil, PySem.sizeLine_eq, str_len_app, str_len_one, wipeD, List.set_cons_zero, List.set_cons_succ, $xs,*])
section
namespace DozK
open PySem L2 Doz
section
variable {μ μ' : Mem} {d : D} {xs : List D}
end
section
variable {c : Cl} {μ μ' : Mem} {A : PA} {b : BK}
end
end DozK
end
section
namespace DozK
open PySem L2 Doz
def sizeR : CR → Nat
  | .lock _ => 3 | .free _ => 2 | .rest _ => 6 | .await _ _ _ => 7 | .tri _ _ _ => 9 | .call _ => 2 | .all _ => 2 | .down _ => 2 | .up _ => 2 | .set _ _ => 1 | .add _ _ => 1
def goneR (L : Str → Str) : CR → Option (Str × Nat)
  | .free n => some (n, 1)
  | .rest n => some (L n, 2)
  | .await n _ _ => some (L n, 3)
  | .tri n _ _ => some (L n, 3)
  | _ => none
def markAt (L : Str → Str) (H : List Str) (r : CR) (k : Nat) : List Str := match goneR L r with
  | none => H
  | some (g, f) => if k < f then H else H.filter fun x => !(x == g)
section
variable {c : Cl} {μ μ' : Mem} {A : PA} {b : BK}
end
end DozK
namespace DozK
open PySem L2 Doz
def gD0 : List D → List D → List D := fun ds _ => ds
def tabT (c : Cl) : List (Addr × MV) := [((c.fn "add_rows"), vfn gD0 (m_n_add_rows c)), ((c.fn "all_rows"), vfn gD0 (m_n_all_rows c)), ((c.fn "await_rows"), vfn gD0 (m_n_await_rows c)), ((c.fn "call_rows"), vfn gD0 (m_n_call_rows c)), ((c.fn "down_rows"), vfn gD0 (m_n_down_rows c)), ((c.fn "free_rows"), vfn gD0 (m_n_free_rows c)), ((c.fn "lock_rows"), vfn gD0 (m_n_lock_rows c)), ((c.fn "rest_rows"), vfn gD0 (m_n_rest_rows c)), ((c.fn "set_rows"), vfn gD0 (m_n_set_rows c)), ((c.fn "try_rows"), vfn gD0 (m_n_try_rows c))]
structure FOk (c : Cl) : Prop where
  h : ((tabT c).map (·.1)).Nodup
section
variable {μ : Mem} {δ : DEnv} {E : EP}
end
section
variable {c : Cl} {μ μ' : Mem} {A : PA} {b : BK}
end
end DozK
end
section
namespace DozK
open PySem L2 Doz
section
variable {c : Cl} {μ μ' : Mem} {b : BK}
theorem w_reverseK {E : EP} {n : Nat} {ds : List D} (h : μ.cells[n]? = some (.lst ds)) (Q : D → Mem → Prop) : wR (fReverse (.loc n) [] μ) Q E = Q .non (μ.set n (.lst ds.reverse)) := by
  have e : fReverse (.loc n) [] μ = .ok .non (μ.set n (.lst ds.reverse)) := by
    unfold fReverse lcell; dsimp only; rw [h]
  rw [e]; rfl
end
end DozK
end
end
section
open PySem L2 Doz
local macro_rules | `(tactic| simp_arith only [$xs,*]) => `(tactic| simp -failIfUnchanged -implicitDefEqProofs (disch := (first | (simp only [Doz.len_push, Doz.len_set]; omega) | omega | assumption)) only [↓wR_ok, ↓wR_err, ↓wE_var0, ↓wE_varS, ↓wE_C, ↓wE_op, ↓wE_cmp, ↓wE_bl, ↓qB_bl, ↓wE_asB, ↓wE_and, ↓wE_or, ↓wE_not, ↓wE_andV, ↓wE_orV, ↓wE_notV, ↓wE_if, ↓wE_nil, ↓wE_cons, ↓wE_fz, ↓wE_lc, ↓wE_tup, ↓wE_lst, ↓wE_call, ↓wE_nopart, ↓qI_int, ↓wE_part, ↓wE_slice, ↓wE_fld, ↓wE_dnew, ↓wE_iter, ↓wE_rev, ↓wE_pos, ↓wE_kws, ↓wE_noa, ↓wE_both, ↓wE_fn, ↓wE_mth, ↓qN_non, ↓wE_mk, ↓wE_meth, ↓wE_neg, ↓wE_chain, ↓wE_comp, ↓wS_nx, ↓wS_bk, ↓wS_ct, ↓wS_seq, ↓wS_drop, ↓wS_ret, ↓wS_retN, ↓wS_if, ↓wS_asg, ↓qL_loc, ↓qCl_lst, ↓wS_retFz, ↓wS_raise, ↓wS_for, ↓wS_try, ↓wG_set0, ↓wG_setS, ↓wG_then, ↓wG_sub, ↓wG_fld, ↓qT_tup, ↓wG_tup, ↓wGs_nil, ↓wGs_cons, ↓endB_nx, ↓endB_rt, ↓endB_er, ↓endB_bk, ↓endB_ct, ↓loopP_nx, ↓loopP_ct, ↓loopP_bk, ↓loopP_rt, ↓loopP_er, ↓qO_some, ↓qO_at0, ↓qO_at1, ↓qO_at2, ↓qO_at3, ↓qO_at4, ↓qO_at5, ↓w_add_int, ↓w_add_str, ↓w_add_tup, ↓w_add_lst, ↓w_sub, ↓w_mod, ↓w_div, ↓w_mul, ↓w_pow, ↓w_band, ↓w_lt, ↓w_le, ↓w_gt, ↓w_ge, ↓w_is, ↓w_isNot, ↓nonN, ↓nonI, ↓nonS, ↓nonT, ↓nonL, ↓nonLoc, ↓w_eq_int, ↓w_ne_int, ↓w_eq_str, ↓w_ne_str, ↓qIx_lst, ↓qIx_dK, ↓qIxS_dK, ↓w_ix_loc, ↓w_ix_locS, ↓w_ix_lst, ↓w_ix_tup, ↓w_ix_str, ↓qLS_0, ↓qLS_1, ↓qLS_2, ↓qLS_3, ↓qSet_lst, ↓qSet_dK, ↓qSetS_dK, ↓w_setI, ↓w_setS, ↓qF_ins, ↓w_fld, ↓qSF_ins, ↓w_setF, ↓w_len_str, ↓w_len_lst, ↓w_len_tup, ↓qLen_lst, ↓qLen_dK, ↓w_len_loc, ↓w_max, ↓w_min, ↓w_int_int, ↓w_int_bl, ↓w_str_int, ↓qDc_dK, ↓w_dict, ↓w_tuple_lst, ↓w_tuple_tup, ↓w_tuple_loc, ↓w_list_lst, ↓w_list_tup, ↓w_iter_lst, ↓w_iter_tup, ↓w_iter_str, ↓w_iter_loc, ↓w_rng1, ↓w_rng2, ↓w_sl_str, ↓w_sl_tup, ↓w_sl_lst, ↓w_append, ↓w_lclear, ↓tyS_str, ↓tyL_lst, ↓qM_loc, ↓look1, ↓wC_set, ↓wC_setn, ↓wC_push2, ↓wC_pushn, ↓wE_yes, ↓wE_revL, ↓qO_lst, ↓w_all_lst, ↓w_join_lst, ↓wE_get1, ↓wE_get2, ↓wE_pop1, ↓qO_keyI, ↓qO_keyS, ↓qIns_ins, ↓wS_faug, ↓wE_disp, ↓wE_pairs0, ↓wE_pairsC, ↓keysOf0, ↓keysOfS, ↓keysOfI, ↓wE_keys, ↓wE_sliceN, ↓wE_sortK, ↓hb_place, ↓hb_turn, ↓hb_since, ↓hb_until, ↓hb_mask, ↓hbm_meets, ↓hbm_is_over, ↓hbm_twin, ↓isi_non_int, ↓isi_non_bool, ↓isi_non_str, ↓isi_non_tuple, ↓isi_non_list, ↓isi_non_dict, ↓isi_bl_int, ↓isi_bl_bool, ↓isi_bl_str, ↓isi_bl_tuple, ↓isi_bl_list, ↓isi_bl_dict, ↓isi_int_int, ↓isi_int_bool, ↓isi_int_str, ↓isi_int_tuple, ↓isi_int_list, ↓isi_int_dict, ↓isi_str_int, ↓isi_str_bool, ↓isi_str_str, ↓isi_str_tuple, ↓isi_str_list, ↓isi_str_dict, ↓isi_tup_int, ↓isi_tup_bool, ↓isi_tup_str, ↓isi_tup_tuple, ↓isi_tup_list, ↓isi_tup_dict, ↓isi_lst_int, ↓isi_lst_bool, ↓isi_lst_str, ↓isi_lst_tuple, ↓isi_lst_list, ↓isi_lst_dict, ↓hm_look_for, ↓hm_look_awake, ↓hm_next_turn, ↓hm_lie_down, ↓hm_rise, ↓hm_is_over, ↓hm_put, ↓hm_sleep, ↓hm_wake, ↓hm_move, ↓hm_tick, ↓hm_lateness, ↓hm_nudge, ↓hm_rank, ↓hm_number, ↓hm_line, ↓hm_line_at, ↓hm_order, ↓hm_asleep, ↓hm_sleeper, ↓hm_ending, ↓hm_standing, ↓hm_now, ↓hm_log, ↓hm_who, ↓hm_filled, ↓hm_twin, ↓hf_numbers, ↓hf_beds, ↓hf_ranks, ↓hf_endings, ↓hf_clock, ↓hf_turns, ↓hf_begun, ↓hf_entries, ↓wE_chainV, ↓wS_aug, ↓wG_unl, ↓wE_repN, ↓wE_dc2, ↓wE_dc, ↓w_in2, ↓w_in5, ↓wG_s32, ↓wG_s40_5, ↓wG_s40_6, ↓wE_catN, ↓qO_cat, ↓hw_plans, ↓hw_names, ↓hw_numbers, ↓hw_nudges, ↓hw_ranks, ↓hw_marks, ↓hwm_start, ↓hwm_row_at, ↓hwm_are_sizes, ↓hwm_is_state, ↓hwm_may_lie, ↓hwm_is_in_order, ↓hwm_can, ↓hwm_after, ↓hwm_stepped, ↓hwm_lain, ↓hwm_roused, ↓hwm_clash, ↓hwm_ended, ↓hwm_stuck, decide_eq_true_eq, beq_iff_eq, Bool.not_eq_true', Bool.not_eq_eq_eq_not, Bool.not_true, Bool.not_false, decide_eq_false_iff_not, beq_eq_false_iff_ne, ne_eq, true_and, and_true, if_true, if_false, ite_true, ite_false, reduceIte, Bool.false_eq_true, not_false_eq_true, not_true_eq_false, Int.reduceLT, Int.reduceLE, Int.reduceToNat, Nat.reduceLT, Nat.reduceLeDiff, Int.reducePow, Nat.reduceAdd, Int.reduceAdd, Int.reduceMul, Int.reduceSub, Int.reduceNeg, Nat.reducePow, Int.reduceEq, Nat.reduceEqDiff, List.length_cons, List.length_nil, PySem.sizeLine_eq, str_len_app, str_len_one, wipeD, List.set_cons_zero, List.set_cons_succ, $xs,*])
section
namespace Doz
open PySem L2
theorem eqvs_ints : ∀ xs ys : List Int, D.eqvs (xs.map D.int) (ys.map D.int) = decide (xs = ys)
  | [], [] => by simp [D.eqvs]
  | [], _ :: _ => by simp [D.eqvs]
  | _ :: _, [] => by simp [D.eqvs]
  | x :: xs, y :: ys => by
    rw [List.map_cons, List.map_cons]
    show (D.eqv (.int x) (.int y) && D.eqvs (xs.map D.int) (ys.map D.int)) = _
    rw [eqvs_ints xs ys]
    show ((x == y) && decide (xs = ys)) = _
    by_cases h : x = y
    · by_cases k : xs = ys
      · simp [h, k]
      · simp [h, k]
    · simp [h]
theorem rep_zero (k : Nat) : (List.replicate k [D.int 0]).flatten = (List.replicate k (0 : Int)).map D.int := by
  induction k with
  | zero => rfl
  | succ k ih => rw [List.replicate_succ, List.flatten_cons, ih]; rfl
section
variable {c : Cl} {μ : Mem} {W : Wo} {p o : Nat}
theorem w_list_loc {n : Nat} {ds : List D} (h : μ.cells[n]? = some (.lst ds)) (Q : List D → Mem → Prop) (E : EP) : wR (fListN [.loc n] μ) Q E = Q ds μ := by
  have e : fListN [.loc n] μ = .ok ds μ := by
    unfold fListN; dsimp only; unfold seqOf; dsimp only; rw [lstOf_loc h]
  rw [e]; rfl
theorem made_ok {r : Nat} {num : List (Str × Int)} (hw : LW μ p o W) (hW : W.Ok) (h0 : 0 < W.names.length) (hr : μ.cells[r]? = some (.dK (encS D.int num))) (hnd : (num.map (·.1)).Nodup) (hnm : W.names = sortTxts (num.map (·.1))) (hnu : W.nums = W.names.map fun w => (aget num w).getD 0) :
    wR (m_x__law_made c [.loc r, lwD W p o] μ) (fun v μ' => ∃ a, v = .loc a ∧ μ.cells.length ≤ a ∧ PW c μ' a W .non ∧ Fr [] μ μ') noE := by
  have hfew := hW.few
  have hlr := hW.lr
  unfold m_x__law_made
  rw [w_run]
  show wS (t_x__law_made c) [some (.loc r), some (lwD W p o), none, none] μ _
  unfold t_x__law_made
  refine wS_cut (fun δ μ' => δ = [some (.loc r), some (lwD W p o), some (.lst (W.plans.map planD)), none] ∧ μ' = μ) ?_ ?_
  · simp_arith only [lwD, ↓wC_of hw.hp, List.length_map]
    refine ⟨by omega, ?_⟩
    refine w_compMap planD (sames_refl' _ _ hw.hp) (fun plan _ => ?_) ?_
    · simp_arith only [planD]
    · simp_arith only [id_eq]
  rintro _ _ ⟨rfl, e0⟩
  replace e0 := e0.symm
  subst e0
  rw [wS_seq, wS_if]
  refine wE_cut (fun b μ' => b = (decide (W.ranks = List.replicate W.ranks.length 0) && !W.nud) ∧ μ' = μ) ?_ ?_
  · have hn2 : nice 8 (.lst ((List.replicate W.ranks.length (0 : Int)).map D.int)) = true := nice_ints _
    have ev : D.eqv (.lst (W.ranks.map D.int)) (.lst ((List.replicate W.ranks.length (0 : Int)).map D.int)) = decide (W.ranks = List.replicate W.ranks.length 0) := eqvs_ints _ _
    simp_arith only [lwD, ↓wC_of hw.ho, List.length_map, rep_zero, Int.toNat_natCast, ↓w_eq_loc hw.ho (nice_ints W.ranks) hn2, ev, List.length_cons, List.length_nil]
    refine ⟨by omega, ?_⟩
    by_cases hz : W.ranks = List.replicate W.ranks.length 0
    · rw [if_pos (by simpa using hz)]
      simp_arith only [lwD]
      simp only [← hz, decide_true, Bool.true_and, Bool.not_not]
    · rw [if_neg (by simpa using hz)]
      simp [hz]
  rintro _ _ ⟨rfl, e0⟩
  replace e0 := e0.symm
  subst e0
  have hr1 : (μ.push (.dK (encS D.int num))).cells[μ.cells.length]? = some (.dK (encS D.int num)) := at_push
  by_cases hb : (decide (W.ranks = List.replicate W.ranks.length 0) && !W.nud) = true
  · rw [if_pos hb]
    simp only [Bool.and_eq_true, decide_eq_true_eq, Bool.not_eq_true'] at hb
    have hz : W.ranks = W.plans.map fun _ => 0 := by
      rw [hb.1, hlr]
      exact (List.eq_replicate_iff.mpr ⟨by simp, by simp⟩).symm
    simp_arith only [↓wC_of hr]
    have z := winit_ok (c := c) (μ := μ.push (.dK (encS D.int num))) (rk := .non) hW h0 hr1 hnd hnm hnu (.inl ⟨rfl, hz⟩)
    rw [hb.2] at z
    refine z.go ?_
    rintro _ μ2 ⟨rfl, hp2, f2⟩
    simp_arith only [id_eq]
    exact ⟨_, rfl, by rw [len_push]; omega, hp2, (Fr.push [] _ _).trans f2⟩
  · rw [if_neg hb]
    simp_arith only [↓wC_of hr, lwD, ↓w_list_loc (at_push_of hw.ho)]
    have z := winit_ok (c := c) (μ := μ.push (.dK (encS D.int num))) (rk := .lst (W.ranks.map D.int)) hW h0 hr1 hnd hnm hnu (.inr rfl)
    refine z.go ?_
    rintro _ μ2 ⟨rfl, hp2, f2⟩
    simp_arith only [id_eq]
    exact ⟨_, rfl, by rw [len_push]; omega, hp2, (Fr.push [] _ _).trans f2⟩
end
end Doz
end
section
namespace Doz
open PySem L2
theorem lain_perm (ranks line : List Int) (g : Int) : (lainP ranks line g).Perm (g :: line) := by
  unfold lainP
  refine List.perm_middle.trans ?_
  rw [List.take_append_drop]
theorem flat_lain (ranks : List Int) (g : Int) : ∀ (ln : List (List Int)) (i : Nat), i < ln.length → (ln.set i (lainP ranks (ln.getD i []) g)).flatten.Perm (g :: ln.flatten)
  | [], i, h => absurd h (by simp)
  | l :: ln, 0, _ => by
    simp only [List.set_cons_zero, List.flatten_cons, List.getD_cons_zero]
    exact (lain_perm ranks l g).append_right _
  | l :: ln, i + 1, h => by
    simp only [List.set_cons_succ, List.flatten_cons, List.getD_cons_succ]
    refine ((flat_lain ranks g ln i (by simpa using h)).append_left l).trans ?_
    exact List.perm_middle
def plOk (W : Wo) (pl : List Int) : Prop := ∀ (k : Nat) p, pl[k]? = some p → ∃ plan, W.plans[k]? = some plan ∧ 0 ≤ p ∧ p ≤ plan.length
def lieOk (W : Wo) (pl : List Int) (k : Nat) : Prop := ∃ plan p row, W.plans[k]? = some plan ∧ pl[k]? = some p ∧ plan[p.toNat]? = some row ∧ row.sleeps = true
theorem lieOk.row {W : Wo} {s : Sta} {k : Nat} (h : lieOk W s.pl k) : ∃ r, W.rowAt s k = some r ∧ r.sleeps = true := by
  obtain ⟨plan, p, row, h1, h2, h3, h4⟩ := h
  exact ⟨row, by unfold Wo.rowAt; rw [h1, h2]; exact h3, h4⟩
theorem lieOk.app {W : Wo} {pl : List Int} {k : Nat} (h : lieOk W pl k) (x : Int) : lieOk W (pl ++ [x]) k := by
  obtain ⟨plan, p, row, h1, h2, h3, h4⟩ := h
  refine ⟨plan, p, row, h1, ?_, h3, h4⟩
  rw [List.getElem?_append_left (List.getElem?_eq_some_iff.mp h2).1]; exact h2
theorem plOk.app {W : Wo} {pl : List Int} (h : plOk W pl) {plan : List Row} (hp : W.plans[pl.length]? = some plan) {x : Int} (h0 : 0 ≤ x) (h1 : x ≤ plan.length) : plOk W (pl ++ [x]) := by
  intro k p hk
  by_cases hl : k < pl.length
  · rw [List.getElem?_append_left hl] at hk; exact h k p hk
  · have := (List.getElem?_eq_some_iff.mp hk).1
    have : k = pl.length := by simp at this; omega
    subst this
    simp at hk
    subst hk
    exact ⟨plan, hp, h0, h1⟩
def natD (k : Nat) : D := .int (k : Nat)
structure Stand (W : Wo) (n P L : Nat) (B : Int) (μ0 : Mem) (k : Nat) (pl : List Int) (lf : List Nat) (μ' : Mem) : Prop where
  hl : pl.length = k
  hP : μ'.cells[P]? = some (.lst (pl.map D.int))
  hL : μ'.cells[L]? = some (.lst (lf.map natD))
  ok : plOk W pl
  lie : ∀ g ∈ lf, lieOk W pl g
  lt : ∀ g ∈ lf, g < k
  nd : lf.Nodup
  src : SrcAt μ' n (B + 4 * k)
  fr : Fr [n] μ0 μ'
section
variable {c : Cl} {μ : Mem} {W : Wo} {p o : Nat}
end
end Doz
end
section
namespace Doz
open PySem L2
section
variable {c : Cl} {μ : Mem} {W : Wo} {p o : Nat}
end
end Doz
end
section
namespace Doz
open PySem L2
section
variable {W : Wo} {s : Sta}
theorem flat_set {α : Type} (x : List α) : ∀ (ln : List (List α)) (i : Nat), i < ln.length → (ln.set i x).flatten.Perm (x ++ (ln.set i []).flatten)
  | [], i, h => absurd h (by simp)
  | l :: ln, 0, _ => by simp
  | l :: ln, i + 1, h => by
    have ih := flat_set x ln i (by simpa using h)
    simp only [List.set_cons_succ, List.flatten_cons]
    refine (ih.append_left l).trans ?_
    rw [← List.append_assoc, ← List.append_assoc]
    exact List.perm_append_comm.append_right _
theorem flat_self {α : Type} (ln : List (List α)) (i : Nat) (h : i < ln.length) : ln.flatten.Perm (ln.getD i [] ++ (ln.set i []).flatten) := by
  have e : ln.set i (ln.getD i []) = ln := by
    rw [List.getD_eq_getElem?_getD, List.getElem?_eq_getElem h]
    exact List.set_getElem_self h
  have := flat_set (ln.getD i []) ln i h
  rw [e] at this
  exact this
theorem moved_perm (j : Nat) : ∀ (gs : List Int) (ln : List (List Int)), j < ln.length → (movedP W j ln gs).flatten.Perm (gs ++ ln.flatten)
  | [], ln, _ => List.Perm.refl _
  | g :: gs, ln, h => by
    have ih := moved_perm j gs (ln.set j (lainP W.ranks (ln.getD j []) g)) (by simpa using h)
    refine ih.trans (((flat_lain W.ranks g ln j h).append_left gs).trans ?_)
    exact List.perm_middle
theorem plOk.put {pl : List Int} (h : plOk W pl) {k : Nat} {plan : List Row} {v : Int} (hp : W.plans[k]? = some plan) (h0 : 0 ≤ v) (h1 : v ≤ plan.length) : plOk W (pl.set k v) := by
  intro j p hj
  by_cases e : k = j
  · subst e
    have hl : k < pl.length := by have := (List.getElem?_eq_some_iff.mp hj).1; simpa using this
    rw [List.getElem?_set_self hl] at hj
    cases hj
    exact ⟨plan, hp, h0, h1⟩
  · rw [List.getElem?_set_ne e] at hj
    exact h j p hj
theorem row_full (hW : W.Ok) (hs : s.Ok W) {k : Nat} {row : Row} (h : W.rowAt s k = some row) : ∃ plan p, W.plans[k]? = some plan ∧ s.pl[k]? = some p ∧ 0 ≤ p ∧ p < plan.length ∧ row.ok W.names plan.length := by
  have hk := rowAt_lt h
  have hkp : k < s.pl.length := by rw [hs.lp]; exact hk
  have e1 := List.getElem?_eq_getElem hkp
  obtain ⟨plan, hp, h0, h1⟩ := hs.pl k _ e1
  have e2 := rowAt_of e1 hp
  rw [h] at e2
  obtain ⟨hl, hr⟩ := List.getElem?_eq_some_iff.mp e2.symm
  refine ⟨plan, _, hp, e1, h0, by omega, hW.row plan (List.mem_of_getElem? hp) row ?_⟩
  rw [← hr]; exact List.getElem_mem hl
theorem row_same {s' : Sta} {k : Nat} (h : s'.pl[k]? = s.pl[k]?) : W.rowAt s' k = W.rowAt s k := by unfold Wo.rowAt; rw [h]
theorem woke_in {row : Row} {names : List Str} {n : Nat} (h : row.ok names n) (hs : row.sleeps = true) : 0 ≤ row.woke ∧ row.woke ≤ n := by
  cases row with
  | wait => exact h.2.2.1
  | still => exact h.2.2.1
  | _ => cases hs
theorem late_in {row : Row} {names : List Str} {n : Nat} (h : row.ok names n) (hs : row.sleeps = true) (hl : row.late ≠ -1) : 0 ≤ row.late ∧ row.late ≤ n := by
  cases row with
  | wait => exact h.2.2.2.resolve_left hl
  | still => exact h.2.2.2.resolve_left hl
  | _ => cases hs
theorem woken_ok (hW : W.Ok) (hs : s.Ok W) : ∀ (gs : List Int) (pl : List Int), plOk W pl → (∀ g ∈ gs, g ∈ s.ln.flatten) → plOk W (wokenP W s pl gs)
  | [], _, h, _ => h
  | g :: gs, pl, h, hg => by
    show plOk W (wokenP W s (pl.set g.toNat (wokeAt (W.rowAt s g.toNat))) gs)
    refine woken_ok hW hs gs _ ?_ fun x hx => hg x (by simp [hx])
    obtain ⟨k, r, rfl, hr, hsl⟩ := hs.sl g (hg g (by simp))
    rw [Int.toNat_natCast, hr]
    obtain ⟨plan, p, h1, _, _, _, h5⟩ := row_full hW hs hr
    obtain ⟨w1, w2⟩ := woke_in h5 hsl
    exact h.put h1 w1 w2
theorem plain_in {row : Row} {names : List Str} {n : Nat} {x on : Int} (h : row.ok names n) (h0 : 0 ≤ on) (h1 : on ≤ n) : 0 ≤ (plainP row x on).2 ∧ (plainP row x on).2 ≤ n := by
  cases row with
  | set => exact ⟨h0, h1⟩
  | add =>
    simp only [plainP]
    split
    · exact h.2
    · exact ⟨h0, h1⟩
  | cas =>
    simp only [plainP]
    split
    · exact h.2
    · exact ⟨h0, h1⟩
  | swap =>
    simp only [plainP]
    split
    · exact h.2
    · exact ⟨h0, h1⟩
  | take =>
    simp only [plainP]
    split
    · exact h.2
    · exact ⟨h0, h1⟩
  | if_ =>
    simp only [plainP]
    split
    · exact ⟨h0, h1⟩
    · exact h.2
  | _ => exact ⟨h0, h1⟩
theorem get_set_ne {α : Type} {xs : List α} {i j : Nat} {v : α} (h : i ≠ j) : (xs.set i v)[j]? = xs[j]? := List.getElem?_set_ne h
theorem Ok.go (hW : W.Ok) (hs : s.Ok W) {k : Nat} {v : Int} {plan : List Row} {num own : List Int} (hk : (k : Int) ∉ s.ln.flatten) (hp : W.plans[k]? = some plan) (h0 : 0 ≤ v) (h1 : v ≤ plan.length) (hn : num.length = s.num.length) (ho : own.length = s.own.length) : Sta.Ok W ⟨num, s.pl.set k v, own, s.ln⟩ := by
  refine ⟨by rw [hn]; exact hs.ln, by simpa using hs.lp, by rw [ho]; exact hs.lo, hs.ll, plOk.put hs.pl hp h0 h1, hs.nd, ?_⟩
  intro g hg
  obtain ⟨j, r, rfl, hr, hsl⟩ := hs.sl g hg
  refine ⟨j, r, rfl, ?_, hsl⟩
  rw [← hr]
  refine row_same ?_
  exact get_set_ne fun e => hk (by rw [e]; exact hg)
theorem cut_mid {α : Type} (l : List α) {n m : Int} (h0 : 0 ≤ n) (h1 : 0 ≤ m) : cutD l (some n) (some (n + m)) = (l.drop n.toNat).take m.toNat := by
  obtain ⟨a, rfl⟩ := Int.eq_ofNat_of_zero_le h0
  obtain ⟨b, rfl⟩ := Int.eq_ofNat_of_zero_le h1
  have e : (a : Int) + (b : Int) = ((a + b : Nat) : Int) := by omega
  unfold cutD
  rw [e, HT.sIx_nat, HT.sIx_nat, Int.toNat_natCast, Int.toNat_natCast]
  rcases Nat.le_total a l.length with h | h
  · rw [Nat.min_eq_left h]
    rcases Nat.le_total (a + b) l.length with k | k
    · rw [Nat.min_eq_left k, Nat.add_sub_cancel_left]
    · rw [Nat.min_eq_right k, List.take_of_length_le (by simp), List.take_of_length_le (by simp; omega)]
  · rw [Nat.min_eq_right h, List.drop_of_length_le h, List.drop_of_length_le (Nat.le_refl _), List.take_nil, List.take_nil]
theorem cut_parts {α : Type} (l : List α) {n m : Int} (h0 : 0 ≤ n) (h1 : 0 ≤ m) : cutD l none (some n) ++ (cutD l (some n) (some (n + m)) ++ cutD l (some (n + m)) none) = l := by
  rw [cut_mid l h0 h1, cutD_to l h0, cutD_from l (k := n + m) (by omega)]
  have e : (n + m).toNat = n.toNat + m.toNat := by omega
  rw [e, ← List.drop_drop, List.take_append_drop, List.take_append_drop]
theorem Ok.rouse (hW : W.Ok) (hs : s.Ok W) {k : Nat} {row : Row} {r : Str} {n m : Int} {o : Option Str} (hro : Rouse row r n m o) (hr : W.rowAt s k = some row) (hk : (k : Int) ∉ s.ln.flatten) : (rouseP W s k r n m o).Ok W := by
  obtain ⟨plan, p, hp, hpk, hp0, hp1, hok⟩ := row_full hW hs hr
  have hrm : r ∈ W.names := by cases hro with
    | wake => exact hok.1
    | move => exact hok.1
  have hnm : 0 ≤ n ∧ 0 ≤ m := by cases hro with
    | wake => exact ⟨hok.2, by omega⟩
    | move => exact ⟨hok.2.2.2.1, hok.2.2.2.2⟩
  have hi : W.at_ r < s.ln.length := by rw [hs.ll]; exact (at_of hrm).2.1
  generalize hline : s.ln.getD (W.at_ r) [] = line
  generalize ha : cutD line none (some n) = a
  generalize hb : cutD line (some n) (some (n + m)) = b
  generalize hc : cutD line (some (n + m)) none = cc
  generalize hR : (s.ln.set (W.at_ r) []).flatten = R
  have hcut : a ++ (b ++ cc) = line := by rw [← ha, ← hb, ← hc]; exact cut_parts line hnm.1 hnm.2
  have pf : s.ln.flatten.Perm (a ++ (b ++ cc) ++ R) := by
    have := flat_self s.ln _ hi
    rw [hline, hR] at this
    rw [hcut]; exact this
  have nd0 : (a ++ (b ++ cc ++ R)).Nodup := by
    have := pf.nodup_iff.mp hs.nd
    rwa [List.append_assoc] at this
  obtain ⟨nda, ndb, dis⟩ := List.nodup_append.mp nd0
  have sub : ∀ g ∈ a ++ (b ++ cc ++ R), g ∈ s.ln.flatten := fun g hg => pf.mem_iff.mpr (by rw [List.append_assoc]; exact hg)
  have hpa : plOk W (wokenP W s s.pl a) := woken_ok hW hs a s.pl hs.pl fun g hg => sub g (by simp [hg])
  have hpos : ∀ g ∈ a, 0 ≤ g := fun g hg => by
    obtain ⟨j, _, rfl, _⟩ := hs.sl g (sub g (by simp [hg]))
    omega
  have hka : (wokenP W s s.pl a)[k]? = some p := by
    rw [wokenP_get a s.pl hpos (fun z => hk (sub _ (by simp [z])))]; exact hpk
  have main : ∀ ln' : List (List Int), ln'.length = s.ln.length → (∀ g ∈ ln'.flatten, g ∈ b ++ cc ++ R) → ln'.flatten.Nodup → Sta.Ok W ⟨s.num, (wokenP W s s.pl a).set k ((wokenP W s s.pl a).getD k 0 + 1), s.own, ln'⟩ := by
    intro ln' hl hm hnd
    have eg : (wokenP W s s.pl a).getD k 0 = p := by rw [List.getD_eq_getElem?_getD, hka]; rfl
    refine ⟨hs.ln, by rw [List.length_set, wokenP_len]; exact hs.lp, hs.lo, by rw [hl]; exact hs.ll, by rw [eg]; exact hpa.put hp (by omega) (by omega), hnd, ?_⟩
    intro g hg
    have hg1 := hm g hg
    have hg2 := sub g (List.mem_append.mpr (.inr hg1))
    obtain ⟨j, q, rfl, hq, hsl⟩ := hs.sl g hg2
    refine ⟨j, q, rfl, ?_, hsl⟩
    rw [← hq]
    refine row_same ?_
    show ((wokenP W s s.pl a).set k _)[j]? = _
    rw [get_set_ne fun e => hk (by rw [e]; exact hg2)]
    exact wokenP_get a s.pl hpos fun z => dis _ z _ hg1 rfl
  have e1 : rouseP W s k r n m o = ⟨s.num, (wokenP W s s.pl a).set k ((wokenP W s s.pl a).getD k 0 + 1), s.own, match o with | none => s.ln.set (W.at_ r) cc | some o => movedP W (W.at_ o) (s.ln.set (W.at_ r) cc) b⟩ := by
    unfold rouseP
    dsimp only
    rw [hline, ha, hb, hc]
    cases o <;> rfl
  rw [e1]
  have ps : (s.ln.set (W.at_ r) cc).flatten.Perm (cc ++ R) := by rw [← hR]; exact flat_set cc s.ln _ hi
  cases o with
  | none =>
    refine main _ (by simp) (fun g hg => ?_) ?_
    · have := ps.mem_iff.mp hg
      rw [List.append_assoc]; exact List.mem_append.mpr (.inr this)
    · refine ps.nodup_iff.mpr ?_
      rw [List.append_assoc] at ndb
      exact (List.nodup_append.mp ndb).2.1
  | some o =>
    have ho : W.at_ o < (s.ln.set (W.at_ r) cc).length := by
      rw [List.length_set, hs.ll]
      cases hro
      exact (at_of hok.2.1).2.1
    have pm := (moved_perm (W := W) (W.at_ o) b _ ho).trans (ps.append_left b)
    rw [← List.append_assoc] at pm
    refine main _ (by rw [movedP_len]; simp) (fun g hg => pm.mem_iff.mp hg) (pm.nodup_iff.mpr ndb)
theorem Ok.lie (hW : W.Ok) (hs : s.Ok W) {k : Nat} {row : Row} {r : Str} {still ch : Int} (hr : W.rowAt s k = some row) (hsl : row.sleeps = true) (hrm : r ∈ W.names) (hk : (k : Int) ∉ s.ln.flatten) {plan : List Row} (hp : W.plans[k]? = some plan) (h0 : 0 ≤ ch) (h1 : ch ≤ plan.length) : (lieP W s k r still ch).Ok W := by
  unfold lieP
  split
  · have hi : W.at_ r < s.ln.length := by rw [hs.ll]; exact (at_of hrm).2.1
    have fp := flat_lain W.ranks (k : Int) s.ln (W.at_ r) hi
    refine ⟨hs.ln, hs.lp, hs.lo, by rw [List.length_set]; exact hs.ll, hs.pl, fp.nodup_iff.mpr (List.nodup_cons.mpr ⟨hk, hs.nd⟩), ?_⟩
    intro g hg
    rcases List.mem_cons.mp (fp.mem_iff.mp hg) with rfl | hg
    · exact ⟨k, row, rfl, hr, hsl⟩
    · exact hs.sl g hg
  · exact Ok.go hW hs hk hp h0 h1 rfl rfl
theorem Ok.leave (hW : W.Ok) (hs : s.Ok W) {k : Nat} {v : Int} {plan : List Row} (hp : W.plans[k]? = some plan) (h0 : 0 ≤ v) (h1 : v ≤ plan.length) : Sta.Ok W { s with pl := s.pl.set k v, ln := leftP s.ln k } := by
  have ef : (leftP s.ln k).flatten = s.ln.flatten.filter fun x => !(x == (k : Int)) := by unfold leftP; rw [List.filter_flatten]
  refine ⟨hs.ln, by simpa using hs.lp, hs.lo, by unfold leftP; simpa using hs.ll, plOk.put hs.pl hp h0 h1, ?_, ?_⟩
  · show (leftP s.ln k).flatten.Nodup
    rw [ef]; exact hs.nd.filter _
  · intro g hg
    have hg : g ∈ (leftP s.ln k).flatten := hg
    rw [ef] at hg
    obtain ⟨h2, h3⟩ := List.mem_filter.mp hg
    obtain ⟨j, r, rfl, hr, hsl⟩ := hs.sl g h2
    refine ⟨j, r, rfl, ?_, hsl⟩
    rw [← hr]
    refine row_same (get_set_ne fun e => ?_)
    subst e
    simp at h3
theorem Ok.after (hW : W.Ok) (hs : s.Ok W) {q : Str × Nat} (hq : q ∈ canM W s) : (afterP W s q).Ok W := by
  have stp : q.1 = "step" → (q.2 : Int) ∉ s.ln.flatten := by
    intro e
    unfold canM at hq
    have n1 : ¬ (("late" : Str) = "step") := by decide +kernel
    have n2 : ¬ (("nudge" : Str) = "step") := by decide +kernel
    rcases List.mem_append.mp hq with h | h
    · rcases List.mem_append.mp h with h | h
      · obtain ⟨k, hk, rfl⟩ := List.mem_map.mp h
        have := (List.mem_filter.mp hk).2
        simp only [Bool.and_eq_true, Bool.not_eq_true'] at this
        exact of_decide_eq_false this.1
      · obtain ⟨k, hk, rfl⟩ := List.mem_map.mp h; exact absurd e n1
    · split at h
      · obtain ⟨k, hk, rfl⟩ := List.mem_map.mp h; exact absurd e n2
      · cases h
  have ltl : q.1 = "late" → ∀ row, W.rowAt s q.2 = some row → row.late ≠ -1 := by
    intro e row hrow
    unfold canM at hq
    have n1 : ¬ (("step" : Str) = "late") := by decide +kernel
    have n2 : ¬ (("nudge" : Str) = "late") := by decide +kernel
    rcases List.mem_append.mp hq with h | h
    · rcases List.mem_append.mp h with h | h
      · obtain ⟨k, hk, rfl⟩ := List.mem_map.mp h; exact absurd e n1
      · obtain ⟨k, hk, rfl⟩ := List.mem_map.mp h
        have := (List.mem_filter.mp hk).2
        simp only [hrow, lateAt, Bool.and_eq_true, Bool.not_eq_true', beq_eq_false_iff_ne] at this
        exact this.2
    · split at h
      · obtain ⟨k, hk, rfl⟩ := List.mem_map.mp h; exact absurd e n2
      · cases h
  obtain ⟨row, hrow, hcase⟩ := can_mem hs hq
  obtain ⟨plan, p, hp, hpk, hp0, hp1, hok⟩ := row_full hW hs hrow
  have eg : s.pl.getD q.2 0 = p := by rw [List.getD_eq_getElem?_getD, hpk]; rfl
  unfold afterP
  rw [hrow]
  dsimp only
  by_cases he : q.1 = "step"
  · rw [if_pos he]
    have hk := stp he
    have flat : row.plain = true → (flatP W s q.2 row).Ok W := fun _ => by
      unfold flatP
      have := plain_in (x := s.num.getD (W.at_ row.room) 0) (on := s.pl.getD q.2 0 + 1) hok (by omega) (by omega)
      refine Ok.go hW hs hk hp this.1 this.2 (by simp) ?_
      cases row <;> simp
    cases row with
    | wait r n ch wo la => exact Ok.lie hW hs hrow rfl hok.1 hk hp hok.2.1.1 hok.2.1.2
    | still r ch wo la => exact Ok.lie hW hs hrow rfl hok.1 hk hp hok.2.1.1 hok.2.1.2
    | wake r n => exact Ok.rouse hW hs (.wake r n) hrow hk
    | move r o n m => exact Ok.rouse hW hs (.move r o n m) hrow hk
    | _ => exact flat rfl
  · rw [if_neg he]
    rcases hcase with h | ⟨h, hsl, hin⟩
    · exact absurd h he
    · have hv : 0 ≤ (if q.1 = "late" then row.late else row.woke) ∧ (if q.1 = "late" then row.late else row.woke) ≤ plan.length := by
        split
        · rename_i hl; exact late_in hok hsl (ltl hl row hrow)
        · exact woke_in hok hsl
      exact Ok.leave hW hs hp hv.1 hv.2
end
end Doz
end
section
namespace Doz
open PySem L2
end Doz
end
section
namespace Doz
open PySem L2
section
variable {c : Cl} {μ : Mem} {W : Wo} {p o a : Nat}
end
end Doz
end
end
section
open PySem L2 Doz
local macro_rules | `(tactic| simp_arith only [$xs,*]) => `(tactic| simp -failIfUnchanged -implicitDefEqProofs (disch := (first | (simp only [Doz.len_push, Doz.len_set]; omega) | omega | assumption)) only [↓wR_ok, ↓wR_err, ↓wE_var0, ↓wE_varS, ↓wE_C, ↓wE_op, ↓wE_cmp, ↓wE_bl, ↓qB_bl, ↓wE_asB, ↓wE_and, ↓wE_or, ↓wE_not, ↓wE_andV, ↓wE_orV, ↓wE_notV, ↓wE_if, ↓wE_nil, ↓wE_cons, ↓wE_fz, ↓wE_lc, ↓wE_tup, ↓wE_lst, ↓wE_call, ↓wE_nopart, ↓qI_int, ↓wE_part, ↓wE_slice, ↓wE_fld, ↓wE_dnew, ↓wE_iter, ↓wE_rev, ↓wE_pos, ↓wE_kws, ↓wE_noa, ↓wE_both, ↓wE_fn, ↓wE_mth, ↓qN_non, ↓wE_mk, ↓wE_meth, ↓wE_neg, ↓wE_chain, ↓wE_comp, ↓wS_nx, ↓wS_bk, ↓wS_ct, ↓wS_seq, ↓wS_drop, ↓wS_ret, ↓wS_retN, ↓wS_if, ↓wS_asg, ↓qL_loc, ↓qCl_lst, ↓wS_retFz, ↓wS_raise, ↓wS_for, ↓wS_try, ↓wG_set0, ↓wG_setS, ↓wG_then, ↓wG_sub, ↓wG_fld, ↓qT_tup, ↓wG_tup, ↓wGs_nil, ↓wGs_cons, ↓endB_nx, ↓endB_rt, ↓endB_er, ↓endB_bk, ↓endB_ct, ↓loopP_nx, ↓loopP_ct, ↓loopP_bk, ↓loopP_rt, ↓loopP_er, ↓qO_some, ↓qO_at0, ↓qO_at1, ↓qO_at2, ↓qO_at3, ↓qO_at4, ↓qO_at5, ↓w_add_int, ↓w_add_str, ↓w_add_tup, ↓w_add_lst, ↓w_sub, ↓w_mod, ↓w_div, ↓w_mul, ↓w_pow, ↓w_band, ↓w_lt, ↓w_le, ↓w_gt, ↓w_ge, ↓w_is, ↓w_isNot, ↓nonN, ↓nonI, ↓nonS, ↓nonT, ↓nonL, ↓nonLoc, ↓w_eq_int, ↓w_ne_int, ↓w_eq_str, ↓w_ne_str, ↓qIx_lst, ↓qIx_dK, ↓qIxS_dK, ↓w_ix_loc, ↓w_ix_locS, ↓w_ix_lst, ↓w_ix_tup, ↓w_ix_str, ↓qLS_0, ↓qLS_1, ↓qLS_2, ↓qLS_3, ↓qSet_lst, ↓qSet_dK, ↓qSetS_dK, ↓w_setI, ↓w_setS, ↓qF_ins, ↓w_fld, ↓qSF_ins, ↓w_setF, ↓w_len_str, ↓w_len_lst, ↓w_len_tup, ↓qLen_lst, ↓qLen_dK, ↓w_len_loc, ↓w_max, ↓w_min, ↓w_int_int, ↓w_int_bl, ↓w_str_int, ↓qDc_dK, ↓w_dict, ↓w_tuple_lst, ↓w_tuple_tup, ↓w_tuple_loc, ↓w_list_lst, ↓w_list_tup, ↓w_iter_lst, ↓w_iter_tup, ↓w_iter_str, ↓w_iter_loc, ↓w_rng1, ↓w_rng2, ↓w_sl_str, ↓w_sl_tup, ↓w_sl_lst, ↓w_append, ↓w_lclear, ↓tyS_str, ↓tyL_lst, ↓qM_loc, ↓look1, ↓wC_set, ↓wC_setn, ↓wC_push2, ↓wC_pushn, ↓wE_yes, ↓wE_revL, ↓qO_lst, ↓w_all_lst, ↓w_join_lst, ↓wE_get1, ↓wE_get2, ↓wE_pop1, ↓qO_keyI, ↓qO_keyS, ↓qIns_ins, ↓wS_faug, ↓wE_disp, ↓wE_pairs0, ↓wE_pairsC, ↓keysOf0, ↓keysOfS, ↓keysOfI, ↓wE_keys, ↓wE_sliceN, ↓wE_sortK, ↓hb_place, ↓hb_turn, ↓hb_since, ↓hb_until, ↓hb_mask, ↓hbm_meets, ↓hbm_is_over, ↓hbm_twin, ↓isi_non_int, ↓isi_non_bool, ↓isi_non_str, ↓isi_non_tuple, ↓isi_non_list, ↓isi_non_dict, ↓isi_bl_int, ↓isi_bl_bool, ↓isi_bl_str, ↓isi_bl_tuple, ↓isi_bl_list, ↓isi_bl_dict, ↓isi_int_int, ↓isi_int_bool, ↓isi_int_str, ↓isi_int_tuple, ↓isi_int_list, ↓isi_int_dict, ↓isi_str_int, ↓isi_str_bool, ↓isi_str_str, ↓isi_str_tuple, ↓isi_str_list, ↓isi_str_dict, ↓isi_tup_int, ↓isi_tup_bool, ↓isi_tup_str, ↓isi_tup_tuple, ↓isi_tup_list, ↓isi_tup_dict, ↓isi_lst_int, ↓isi_lst_bool, ↓isi_lst_str, ↓isi_lst_tuple, ↓isi_lst_list, ↓isi_lst_dict, ↓hm_look_for, ↓hm_look_awake, ↓hm_next_turn, ↓hm_lie_down, ↓hm_rise, ↓hm_is_over, ↓hm_put, ↓hm_sleep, ↓hm_wake, ↓hm_move, ↓hm_tick, ↓hm_lateness, ↓hm_nudge, ↓hm_rank, ↓hm_number, ↓hm_line, ↓hm_line_at, ↓hm_order, ↓hm_asleep, ↓hm_sleeper, ↓hm_ending, ↓hm_standing, ↓hm_now, ↓hm_log, ↓hm_who, ↓hm_filled, ↓hm_twin, ↓hf_numbers, ↓hf_beds, ↓hf_ranks, ↓hf_endings, ↓hf_clock, ↓hf_turns, ↓hf_begun, ↓hf_entries, ↓wE_chainV, ↓wS_aug, ↓wG_unl, ↓wE_repN, ↓wE_dc2, ↓wE_dc, ↓w_in2, ↓w_in5, ↓wG_s32, ↓wG_s40_5, ↓wG_s40_6, ↓wE_catN, ↓qO_cat, ↓hw_plans, ↓hw_names, ↓hw_numbers, ↓hw_nudges, ↓hw_ranks, ↓hw_marks, ↓hwm_start, ↓hwm_row_at, ↓hwm_are_sizes, ↓hwm_is_state, ↓hwm_may_lie, ↓hwm_is_in_order, ↓hwm_can, ↓hwm_after, ↓hwm_stepped, ↓hwm_lain, ↓hwm_roused, ↓hwm_clash, ↓hwm_ended, ↓hwm_stuck, decide_eq_true_eq, beq_iff_eq, Bool.not_eq_true', Bool.not_eq_eq_eq_not, Bool.not_true, Bool.not_false, decide_eq_false_iff_not, beq_eq_false_iff_ne, ne_eq, true_and, and_true, if_true, if_false, ite_true, ite_false, ↓reduceIte, Bool.false_eq_true, not_false_eq_true, not_true_eq_false, Int.reduceLT, Int.reduceLE, Int.reduceToNat, Nat.reduceLT, Nat.reduceLeDiff, Int.reducePow, Nat.reduceAdd, Int.reduceAdd, Int.reduceMul, Int.reduceSub, Int.reduceNeg, Nat.reducePow, Int.reduceEq, Nat.reduceEqDiff, List.length_cons, List.length_nil, PySem.sizeLine_eq, str_len_app, str_len_one, wipeD, List.set_cons_zero, List.set_cons_succ, $xs,*])
section
namespace Doz
open PySem L2
section
variable {c : Cl} {μ : Mem} {a : Nat} {W : Wo} {m : D} {s : Sta}
end
end Doz
end
section
namespace Doz
open PySem L2
section
variable {c : Cl} {μ : Mem}
end
end Doz
end
section
namespace DozK
open PySem L2 Doz
section
variable {c : Cl} {μ μ' : Mem} {A : PA} {b : BK}
end
end DozK
end
section
namespace DozK
open PySem L2 Doz
section
variable {c : Cl} {μ : Mem}
end
end DozK
end
section
namespace DozK
open PySem L2 Doz
def allMarkT (L : Str → Str) : List Str → List CR → List (List D)
  | _, [] => []
  | held, r :: rs => ((List.range (sizeR r)).map fun k => (markAt L (sortTxts held) r k).map D.str) ++ allMarkT L (heldB held r) rs
def planMarks (L : Str → Str) (rs : List CR) : List (List D) := allMarkT L [] rs ++ [[]]
section
variable {c : Cl} {μ : Mem} {A : PA} {b : BK}
structure MD where
  r : Nat
  m : Nat
  rs : List CR
def MD.d (t : MD) : D := .tup [.loc t.r, .loc t.m]
def MD.At (b : BK) (n : Nat) (μ : Mem) (t : MD) : Prop := n ≤ t.r ∧ n ≤ t.m ∧ μ.cells[t.r]? = some (.lst ((planR b.L 0 t.rs).map Row.d)) ∧ μ.cells[t.m]? = some (.lst ((planMarks b.L t.rs).map D.tup))
theorem MD.At.fr {n : Nat} {t : MD} {μ' : Mem} (h : t.At b n μ) (f : Fr [] μ μ') : t.At b n μ' := ⟨h.1, h.2.1, f.get h.2.2.1 (by simp), f.get h.2.2.2 (by simp)⟩
end
end DozK
end
section
namespace Doz
open PySem L2
section
variable {c : Cl} {μ : Mem} {a : Nat} {W : Wo} {m : D} {s : Sta}
end
section
variable {c : Cl} {μ : Mem}
end
end Doz
end
section
namespace Doz
open PySem L2
section
variable {c : Cl} {μ : Mem} {a : Nat} {W : Wo} {s : Sta}
end
end Doz
end
section
namespace Doz
open PySem L2
theorem step_mem {W : Wo} {s : Sta} {k : Nat} : (("step" : Str), k) ∈ canM W s ↔ k < W.plans.length ∧ s.asleep k = false ∧ (W.rowAt s k).isSome = true := by
  constructor
  · intro h
    unfold canM at h
    rcases List.mem_append.mp h with h | h
    · rcases List.mem_append.mp h with h | h
      · obtain ⟨j, hj, e⟩ := List.mem_map.mp h
        injection e with e1 e2
        subst e2
        unfold stepL at hj
        rw [List.mem_filter, List.mem_range] at hj
        simpa using hj
      · obtain ⟨j, hj, e⟩ := List.mem_map.mp h
        injection e with e1 e2
        exact absurd e1 (by decide +kernel)
    · split at h
      · obtain ⟨j, hj, e⟩ := List.mem_map.mp h
        injection e with e1 e2
        exact absurd e1 (by decide +kernel)
      · cases h
  · rintro ⟨h1, h2, h3⟩
    exact List.mem_append.mpr (.inl (List.mem_append.mpr (.inl (List.mem_map.mpr ⟨k, by unfold stepL; rw [List.mem_filter, List.mem_range]; simp [h1, h2, h3], rfl⟩))))
def noStep (W : Wo) (s : Sta) : Prop := ∀ k : Nat, (("step" : Str), k) ∉ canM W s
inductive Trail (W : Wo) : Int → Sta → Nat → List (Str × Nat) → Prop where
  | out {m : Int} {s : Sta} {t : Nat} (h : m ≤ 0) : Trail W m s t []
  | idle {m : Int} {s : Sta} {t : Nat} (h : noStep W s) : Trail W m s t []
  | go {m : Int} {s : Sta} {t : Nat} {l : List (Str × Nat)} (hm : 0 < m) (h : (("step" : Str), t) ∈ canM W s) (r : Trail W (m - 1) (afterP W s ("step", t)) ((t + 1) % W.plans.length) l) : Trail W m s t (("step", t) :: l)
  | skip {m : Int} {s : Sta} {t : Nat} {l : List (Str × Nat)} (hm : 0 < m) (h : (("step" : Str), t) ∉ canM W s) (r : Trail W m s ((t + 1) % W.plans.length) l) : Trail W m s t l
theorem Trail.none {W : Wo} {m : Int} {s : Sta} {t : Nat} {l : List (Str × Nat)} (h : Trail W m s t l) (hn : noStep W s) : l = [] := by
  induction h with
  | out => rfl
  | idle => rfl
  | go hm h r ih => exact absurd h (hn _)
  | skip hm h r ih => exact ih hn
theorem Trail.same {W : Wo} {m : Int} {s : Sta} {t : Nat} {l l' : List (Str × Nat)} (h : Trail W m s t l) (h' : Trail W m s t l') : l = l' := by
  induction h generalizing l' with
  | out h => cases h' with
    | out => rfl
    | idle => rfl
    | go hm => omega
    | skip hm => omega
  | idle hn => exact (h'.none hn).symm
  | go hm h r ih => cases h' with
    | out h0 => omega
    | idle hn => exact absurd h (hn _)
    | go _ _ r' => rw [ih r']
    | skip _ hno => exact absurd h hno
  | skip hm h r ih => cases h' with
    | out h0 => omega
    | idle hn => exact r.none hn
    | go _ hy => exact absurd hy h
    | skip _ _ r' => exact ih r'
def ago (n t k : Nat) : Nat := if k < t then t - 1 - k else n + t - 1 - k
theorem next_eq {n t : Nat} (h : t < n) : (t + 1) % n = if t + 1 = n then 0 else t + 1 := by
  split
  · rename_i e; rw [e, Nat.mod_self]
  · exact Nat.mod_eq_of_lt (by omega)
def Seen (W : Wo) (s : Sta) (t i : Nat) : Prop := i ≤ W.plans.length ∧ (t < W.plans.length ∨ (W.plans.length = 0 ∧ t = 0)) ∧ ∀ k, k < W.plans.length → ago W.plans.length t k < i → (("step" : Str), k) ∉ canM W s
theorem Seen.zero {W : Wo} {s : Sta} {t : Nat} (h : t < W.plans.length ∨ (W.plans.length = 0 ∧ t = 0)) : Seen W s t 0 := ⟨Nat.zero_le _, h, fun _ _ h => absurd h (by omega)⟩
theorem Seen.next {W : Wo} {s : Sta} {t i : Nat} (h : Seen W s t i) (hi : i < W.plans.length) (hno : (("step" : Str), t) ∉ canM W s) : Seen W s ((t + 1) % W.plans.length) (i + 1) := by
  obtain ⟨h1, h2, h3⟩ := h
  have ht : t < W.plans.length := by omega
  refine ⟨by omega, .inl (Nat.mod_lt _ (by omega)), fun k hk ha => ?_⟩
  by_cases e : k = t
  · rw [e]; exact hno
  · refine h3 k hk ?_
    rw [next_eq ht] at ha
    unfold ago at ha ⊢
    split at ha <;> split at ha <;> split <;> omega
theorem Seen.all {W : Wo} {s : Sta} {t : Nat} (h : Seen W s t W.plans.length) : noStep W s := by
  intro k hk
  have hl := (step_mem.mp hk).1
  obtain ⟨h1, h2, h3⟩ := h
  refine h3 k hl ?_ hk
  unfold ago
  split <;> omega
theorem Seen.lt {W : Wo} {s : Sta} {t i : Nat} (h : Seen W s t i) (hy : ¬ noStep W s) : i < W.plans.length := by
  rcases Nat.lt_or_ge i W.plans.length with z | z
  · exact z
  · have := Nat.le_antisymm h.1 z
    subst this
    exact absurd h.all hy
def pot (W : Wo) (s : Sta) (k : Nat) : Int := 2 * (((W.plans.getD k []).length : Int) - s.pl.getD k 0) - (if s.asleep k = true then 1 else 0)
def phi (W : Wo) (s : Sta) : Int := ((List.range W.plans.length).map (pot W s)).sum
theorem sum_le {f g : Nat → Int} : ∀ n : Nat, (∀ j, j < n → f j ≤ g j) → ((List.range n).map f).sum ≤ ((List.range n).map g).sum
  | 0, _ => by simp
  | n + 1, h => by
    rw [List.range_succ, List.map_append, List.map_append, List.sum_append, List.sum_append]
    have := sum_le n fun j hj => h j (by omega)
    have := h n (by omega)
    simp
    omega
theorem sum_lt {f g : Nat → Int} {k : Nat} : ∀ n : Nat, (∀ j, j < n → f j ≤ g j) → k < n → f k < g k → ((List.range n).map f).sum < ((List.range n).map g).sum
  | 0, _, hk, _ => absurd hk (by omega)
  | n + 1, h, hk, hlt => by
    rw [List.range_succ, List.map_append, List.map_append, List.sum_append, List.sum_append]
    have hn := h n (by omega)
    by_cases e : k = n
    · subst e
      have := sum_le k fun j hj => h j (by omega)
      simp
      omega
    · have := sum_lt n (fun j hj => h j (by omega)) (by omega) hlt
      simp
      omega
theorem sum_bd {f : Nat → Int} {b : Int} (h0 : 0 ≤ b) : ∀ n : Nat, (∀ j, j < n → 0 ≤ f j ∧ f j ≤ b) → 0 ≤ ((List.range n).map f).sum ∧ ((List.range n).map f).sum ≤ n * b
  | 0, _ => by simp
  | n + 1, h => by
    rw [List.range_succ, List.map_append, List.sum_append]
    have h1 := sum_bd h0 n fun j hj => h j (by omega)
    have h2 := h n (by omega)
    have e : ((n + 1 : Nat) : Int) * b = n * b + b := by rw [Int.natCast_add, Int.add_mul]; simp
    rw [e]
    simp
    omega
section
variable {W : Wo} {s : Sta}
theorem asleep_iff {k : Nat} : s.asleep k = true ↔ (k : Int) ∈ s.ln.flatten := by unfold Sta.asleep; simp
theorem pot_bd (hW : W.Ok) (hs : s.Ok W) {k : Nat} (hk : k < W.plans.length) (h10 : ∀ plan ∈ W.plans, plan.length ≤ 10) : 0 ≤ pot W s k ∧ pot W s k ≤ 20 := by
  obtain ⟨p, plan, h1, h2, h3, h4, h5⟩ := hs.at_ hk
  have h6 := h10 plan (List.mem_of_getElem? h2)
  unfold pot
  rw [List.getD_eq_getElem?_getD, List.getD_eq_getElem?_getD, h1, h2, Option.getD_some, Option.getD_some]
  split
  · rename_i ha
    obtain ⟨j, r, e, hr, _⟩ := hs.sl _ (asleep_iff.mp ha)
    have e : k = j := by omega
    subst e
    rw [h5] at hr
    obtain ⟨q1, _⟩ := List.getElem?_eq_some_iff.mp hr
    omega
  · omega
theorem phi_bd (hW : W.Ok) (hs : s.Ok W) (h10 : ∀ plan ∈ W.plans, plan.length ≤ 10) : 0 ≤ phi W s ∧ phi W s ≤ 160 := by
  have := sum_bd (f := pot W s) (b := 20) (by omega) W.plans.length fun j hj => pot_bd hW hs hj h10
  have := hW.few
  unfold phi
  omega
theorem plain_ahead {row : Row} {x on : Int} (h : row.ahead on) : on ≤ (plainP row x on).2 := by
  cases row <;> simp only [plainP, Row.ahead] at h ⊢ <;> (try split) <;> simp_all
theorem woken_in {j : Nat} : ∀ (gs : List Int) (pl : List Int), j < pl.length → (∀ g ∈ gs, 0 ≤ g) → (j : Int) ∈ gs → (wokenP W s pl gs)[j]? = some (wokeAt (W.rowAt s j))
  | [], pl, hj, hg, h => by cases h
  | g :: gs, pl, hj, hg, h => by
    have hg0 := hg g (by simp)
    show (wokenP W s (pl.set g.toNat (wokeAt (W.rowAt s g.toNat))) gs)[j]? = _
    by_cases hm : (j : Int) ∈ gs
    · exact woken_in gs _ (by simpa using hj) (fun x hx => hg x (by simp [hx])) hm
    · rw [wokenP_get gs _ (fun x hx => hg x (by simp [hx])) hm]
      have e : (j : Int) = g := by
        rcases List.mem_cons.mp h with z | z
        · exact z
        · exact absurd z hm
      subst e
      rw [Int.toNat_natCast, List.getElem?_set_self hj]
theorem pot_same {s' : Sta} {j : Nat} (h1 : s'.pl[j]? = s.pl[j]?) (h2 : s.asleep j = true → s'.asleep j = true) : pot W s' j ≤ pot W s j := by
  unfold pot
  rw [List.getD_eq_getElem?_getD, List.getD_eq_getElem?_getD, h1]
  rw [List.getD_eq_getElem?_getD]
  split
  · split <;> omega
  · rename_i hn
    split
    · rename_i hy; exact absurd (h2 hy) hn
    · omega
theorem pot_fwd {s' : Sta} {j : Nat} {p v : Int} (h1 : s.pl[j]? = some p) (h2 : s'.pl[j]? = some v) (hv : p < v) : pot W s' j < pot W s j := by
  unfold pot
  rw [List.getD_eq_getElem?_getD (l := s'.pl), List.getD_eq_getElem?_getD (l := s.pl), h1, h2, Option.getD_some, Option.getD_some]
  split <;> split <;> omega
theorem phi_step (hW : W.Ok) (hah : ∀ plan ∈ W.plans, aheadP plan) (hs : s.Ok W) {k : Nat} (h : (("step" : Str), k) ∈ canM W s) : phi W (afterP W s ("step", k)) < phi W s := by
  obtain ⟨hk, hnas, hrow⟩ := step_mem.mp h
  obtain ⟨row, hr⟩ := Option.isSome_iff_exists.mp hrow
  obtain ⟨plan, p, hp, hpk, hp0, hp1, hok⟩ := row_full hW hs hr
  have hkn : (k : Int) ∉ s.ln.flatten := fun z => by rw [asleep_iff.mpr z] at hnas; cases hnas
  have hlk : k < s.pl.length := by rw [hs.lp]; exact hk
  have hgk : s.pl.getD k 0 = p := by rw [List.getD_eq_getElem?_getD, hpk]; rfl
  have hrowp : plan[p.toNat]? = some row := by
    have := rowAt_of (W := W) (s := s) hpk hp
    rw [this] at hr; exact hr
  have hahr : row.ahead (p + 1) := by
    have := hah plan (List.mem_of_getElem? hp) p.toNat row hrowp
    rwa [Int.toNat_of_nonneg hp0] at this
  have ea : afterP W s ("step", k) = stepP W s k row := by
    unfold afterP
    dsimp only
    rw [hr]
    rfl
  rw [ea]
  have hset : ∀ (num own : List Int) (v : Int), p < v → phi W ⟨num, s.pl.set k v, own, s.ln⟩ < phi W s := by
    intro num own v hv
    refine sum_lt _ (fun j hj => ?_) hk (pot_fwd hpk (List.getElem?_set_self hlk) hv)
    by_cases e : j = k
    · subst e
      exact Int.le_of_lt (pot_fwd hpk (List.getElem?_set_self hlk) hv)
    · exact pot_same (get_set_ne fun z => e z.symm) (fun h => h)
  have hlie : ∀ (r : Str) (still ch : Int), r ∈ W.names → p < ch → phi W (lieP W s k r still ch) < phi W s := by
    intro r still ch hrm hch
    unfold lieP
    split
    · have hi : W.at_ r < s.ln.length := by rw [hs.ll]; exact (at_of hrm).2.1
      have hmem : ∀ g, g ∈ (s.ln.set (W.at_ r) (lainP W.ranks (s.ln.getD (W.at_ r) []) k)).flatten ↔ g = (k : Int) ∨ g ∈ s.ln.flatten := by
        intro g
        have p1 := flat_set (lainP W.ranks (s.ln.getD (W.at_ r) []) k) s.ln _ hi
        have p2 := flat_self s.ln _ hi
        rw [p1.mem_iff, p2.mem_iff, List.mem_append, List.mem_append, mem_lain, or_assoc]
      refine sum_lt _ (fun j hj => pot_same rfl fun h => asleep_iff.mpr ((hmem _).mpr (.inr (asleep_iff.mp h)))) hk ?_
      unfold pot
      rw [if_pos (asleep_iff.mpr ((hmem _).mpr (.inl rfl))), hnas]
      simp
      omega
    · exact hset _ _ _ hch
  have hrou : ∀ (r : Str) (n m : Int) (o : Option Str), Rouse row r n m o → phi W (rouseP W s k r n m o) < phi W s := by
    intro r n m o hro
    have hrm : r ∈ W.names := by cases hro with
      | wake => exact hok.1
      | move => exact hok.1
    have hnm : 0 ≤ n ∧ 0 ≤ m := by cases hro with
      | wake => exact ⟨hok.2, by omega⟩
      | move => exact ⟨hok.2.2.2.1, hok.2.2.2.2⟩
    have hi : W.at_ r < s.ln.length := by rw [hs.ll]; exact (at_of hrm).2.1
    have hbn : o = none → cutD (s.ln.getD (W.at_ r) []) (some n) (some (n + m)) = [] := by
      intro e; subst e
      cases hro
      exact cut_none _ _
    generalize hline : s.ln.getD (W.at_ r) [] = line at hbn
    generalize ha : cutD line none (some n) = a
    generalize hb : cutD line (some n) (some (n + m)) = b at hbn
    generalize hc : cutD line (some (n + m)) none = cc
    generalize hR : (s.ln.set (W.at_ r) []).flatten = R
    have hcut : a ++ (b ++ cc) = line := by rw [← ha, ← hb, ← hc]; exact cut_parts line hnm.1 hnm.2
    have pf : s.ln.flatten.Perm (a ++ (b ++ cc) ++ R) := by
      have := flat_self s.ln _ hi
      rw [hline, hR] at this
      rw [hcut]; exact this
    have sub : ∀ g ∈ a, g ∈ s.ln.flatten := fun g hg => pf.mem_iff.mpr (by simp [hg])
    have hpos : ∀ g ∈ a, 0 ≤ g := fun g hg => by
      obtain ⟨j, _, rfl, _⟩ := hs.sl g (sub g hg)
      omega
    have hka : (wokenP W s s.pl a)[k]? = some p := by
      rw [wokenP_get a s.pl hpos (fun z => hkn (sub _ z))]; exact hpk
    have eg : (wokenP W s s.pl a).getD k 0 = p := by rw [List.getD_eq_getElem?_getD, hka]; rfl
    have main : ∀ ln' : List (List Int), (∀ g ∈ b ++ cc ++ R, g ∈ ln'.flatten) → phi W ⟨s.num, (wokenP W s s.pl a).set k ((wokenP W s s.pl a).getD k 0 + 1), s.own, ln'⟩ < phi W s := by
      intro ln' hm
      have hkk : ((wokenP W s s.pl a).set k ((wokenP W s s.pl a).getD k 0 + 1))[k]? = some (p + 1) := by
        rw [List.getElem?_set_self (by rw [wokenP_len]; exact hlk), eg]
      refine sum_lt _ (fun j hj => ?_) hk (pot_fwd hpk hkk (by omega))
      by_cases e : j = k
      · subst e
        exact Int.le_of_lt (pot_fwd hpk hkk (by omega))
      · by_cases hja : (j : Int) ∈ a
        · obtain ⟨j', q, e', hq, hsl⟩ := hs.sl _ (sub _ hja)
          have e' : j = j' := by omega
          subst e'
          obtain ⟨plan', p', hp', hpk', hp0', hp1', hok'⟩ := row_full hW hs hq
          have hq' : plan'[p'.toNat]? = some q := by
            have := rowAt_of (W := W) (s := s) hpk' hp'
            rw [this] at hq; exact hq
          have hahq : q.ahead (p' + 1) := by
            have := hah plan' (List.mem_of_getElem? hp') p'.toNat q hq'
            rwa [Int.toNat_of_nonneg hp0'] at this
          have hwo : p' < q.woke := by
            cases q <;> first | (cases hsl; done) | (have := hahq.2.1; show p' < _; simp only [Row.woke]; omega)
          refine Int.le_of_lt (pot_fwd hpk' (v := q.woke) ?_ hwo)
          show ((wokenP W s s.pl a).set k _)[j]? = _
          rw [get_set_ne fun z => e z.symm, woken_in a s.pl (by rw [hs.lp]; exact hj) hpos hja, hq, woke_at hsl]
        · refine pot_same ?_ fun h => ?_
          · show ((wokenP W s s.pl a).set k _)[j]? = _
            rw [get_set_ne fun z => e z.symm, wokenP_get a s.pl hpos hja]
          · have := pf.mem_iff.mp (asleep_iff.mp h)
            refine asleep_iff.mpr (hm _ ?_)
            rw [List.append_assoc] at this
            rcases List.mem_append.mp this with z | z
            · exact absurd z hja
            · exact z
    have e1 : rouseP W s k r n m o = ⟨s.num, (wokenP W s s.pl a).set k ((wokenP W s s.pl a).getD k 0 + 1), s.own, match o with | none => s.ln.set (W.at_ r) cc | some o => movedP W (W.at_ o) (s.ln.set (W.at_ r) cc) b⟩ := by
      unfold rouseP
      dsimp only
      rw [hline, ha, hb, hc]
      cases o <;> rfl
    rw [e1]
    have ps : (s.ln.set (W.at_ r) cc).flatten.Perm (cc ++ R) := by rw [← hR]; exact flat_set cc s.ln _ hi
    cases o with
    | none =>
      refine main _ (fun g hg => ?_)
      rw [hbn rfl] at hg
      exact ps.mem_iff.mpr (by simpa using hg)
    | some o =>
      have ho : W.at_ o < (s.ln.set (W.at_ r) cc).length := by
        rw [List.length_set, hs.ll]
        cases hro
        exact (at_of hok.2.1).2.1
      have pm := (moved_perm (W := W) (W.at_ o) b _ ho).trans (ps.append_left b)
      rw [← List.append_assoc] at pm
      exact main _ (fun g hg => pm.mem_iff.mpr hg)
  rcases row_cases row with hpl | hsl | ⟨r, n, m, o, hro⟩
  · rw [step_plain hpl]
    unfold flatP
    dsimp only
    refine hset _ _ _ ?_
    have := plain_ahead (x := s.num.getD (W.at_ row.room) 0) hahr
    rw [hgk]
    omega
  · cases row with
    | wait r nn ch wo la => exact hlie r nn ch hok.1 (by have := hahr.1; omega)
    | still r ch wo la => exact hlie r _ ch hok.1 (by have := hahr.1; omega)
    | _ => cases hsl
  · rw [step_rouse hro]
    exact hrou r n m o hro
def Bud (W : Wo) (b : Nat) (m : Int) (s : Sta) : Prop := m ≤ b ∨ ((∀ plan ∈ W.plans, aheadP plan) ∧ (∀ plan ∈ W.plans, plan.length ≤ 10) ∧ phi W s ≤ b)
theorem Bud.step {b : Nat} {m : Int} (h : Bud W b m s) (hW : W.Ok) (hs : s.Ok W) (hm : 0 < m) {k : Nat} (hk : (("step" : Str), k) ∈ canM W s) : ∃ b', b = b' + 1 ∧ Bud W b' (m - 1) (afterP W s ("step", k)) := by
  rcases h with h | ⟨h1, h2, h3⟩
  · exact ⟨b - 1, by omega, .inl (by omega)⟩
  · have z := phi_step hW h1 hs hk
    have y := phi_bd hW (Ok.after hW hs hk) h2
    exact ⟨b - 1, by omega, .inr ⟨h1, h2, by omega⟩⟩
end
end Doz
end
section
namespace Doz
open PySem L2
section
variable {c : Cl} {μ : Mem} {W : Wo} {p o a : Nat} {s : Sta}
end
end Doz
end
section
namespace Doz
open PySem L2
section
variable {c : Cl} {μ : Mem}
end
end Doz
end
section
namespace Doz
open PySem L2
def cWs : List Str := ["set", "add", "cas", "swap", "take", "if", "load", "wait", "still", "wake", "wait"]
def isChW (w : Str) : Bool := (("set" : Str) == w) || ((("add" : Str) == w) || ((("cas" : Str) == w) || ((("swap" : Str) == w) || (("take" : Str) == w))))
structure WOk (ws : List Str) : Prop where
  nxt : ∀ (k : Nat) w, ws[k]? = some w → isChW w = true → ws[k + 1]? = some "all"
  bef : ∀ k : Nat, ws[k]? = some "all" → ∃ j w, k = j + 1 ∧ ws[j]? = some w ∧ isChW w = true
  wds : ∀ w ∈ ws, w = "all" ∨ w ∈ cWs
theorem WOk.nil : WOk [] := ⟨by simp, by simp, by simp⟩
theorem WOk.app {xs ys : List Str} (h : WOk xs) (g : WOk ys) : WOk (xs ++ ys) := by
  refine ⟨fun k w hk hc => ?_, fun k hk => ?_, fun w hw => ?_⟩
  · rw [List.getElem?_append] at hk
    split at hk
    · have := h.nxt k w hk hc
      obtain ⟨q, _⟩ := List.getElem?_eq_some_iff.mp this
      rw [List.getElem?_append_left q, this]
    · have := g.nxt _ w hk hc
      rw [List.getElem?_append_right (by omega), ← this]
      congr 1
      omega
  · rw [List.getElem?_append] at hk
    split at hk
    · obtain ⟨j, w, e, hj, hc⟩ := h.bef k hk
      obtain ⟨q, _⟩ := List.getElem?_eq_some_iff.mp hj
      exact ⟨j, w, e, by rw [List.getElem?_append_left q, hj], hc⟩
    · obtain ⟨j, w, e, hj, hc⟩ := g.bef _ hk
      refine ⟨j + xs.length, w, by omega, ?_, hc⟩
      rw [List.getElem?_append_right (by omega), ← hj]
      congr 1
      omega
  · rcases List.mem_append.mp hw with z | z
    · exact h.wds w z
    · exact g.wds w z
theorem all_ne : isChW "all" = false ∧ (("all" : Str) ∉ cWs) := ⟨by decide +kernel, by decide +kernel⟩
theorem WOk.one {w : Str} (h : w ∈ cWs) (hc : isChW w = false) : WOk [w] := by
  refine ⟨fun k x hk hx => ?_, fun k hk => ?_, fun x hx => ?_⟩
  · cases k with
    | zero => simp at hk; subst hk; rw [hc] at hx; cases hx
    | succ k => simp at hk
  · cases k with
    | zero => simp at hk; subst hk; exact absurd h all_ne.2
    | succ k => simp at hk
  · rw [List.mem_singleton.mp hx]; exact .inr h
theorem WOk.two {w : Str} (h : w ∈ cWs) (hc : isChW w = true) : WOk [w, "all"] := by
  refine ⟨fun k x hk hx => ?_, fun k hk => ?_, fun x hx => ?_⟩
  · match k with
    | 0 => rfl
    | 1 => simp at hk; subst hk; rw [all_ne.1] at hx; cases hx
    | k + 2 => simp at hk
  · match k with
    | 0 => simp at hk; subst hk; exact absurd h all_ne.2
    | 1 => exact ⟨0, w, rfl, rfl, hc⟩
    | k + 2 => simp at hk
  · simp at hx
    rcases hx with rfl | rfl
    · exact .inr h
    · exact .inl rfl
structure ROk (names : List Str) (size : Nat) (many : Int) (ws : List Str) (rows : List Row) : Prop where
  ok : ∀ row ∈ rows, row.ok names size
  wd : ∀ (k : Nat) w row, ws[k]? = some w → rows[k]? = some row → w ≠ "all" → row.word = w
  all : ∀ (k : Nat) row prev, ws[k + 1]? = some "all" → rows[k + 1]? = some row → rows[k]? = some prev → ∃ n, row = .wake prev.room n ∧ many ≤ n
end Doz
end
section
namespace Doz
open PySem L2
section
variable {c : Cl} {μ : Mem}
end
end Doz
end
section
namespace Doz
open PySem L2
section
variable {c : Cl} {μ : Mem}
end
end Doz
end
end
section
open PySem L2 Doz
local macro_rules | `(tactic| simp_arith only [$xs,*]) => `(tactic| simp -failIfUnchanged -implicitDefEqProofs (disch := (first | (simp only [Doz.len_push, Doz.len_set]; omega) | omega | assumption)) only [↓wR_ok, ↓wR_err, ↓wE_var0, ↓wE_varS, ↓wE_C, ↓wE_op, ↓wE_cmp, ↓wE_bl, ↓qB_bl, ↓wE_asB, ↓wE_and, ↓wE_or, ↓wE_not, ↓wE_andV, ↓wE_orV, ↓wE_notV, ↓wE_if, ↓wE_nil, ↓wE_cons, ↓wE_fz, ↓wE_lc, ↓wE_tup, ↓wE_lst, ↓wE_call, ↓wE_nopart, ↓qI_int, ↓wE_part, ↓wE_slice, ↓wE_fld, ↓wE_dnew, ↓wE_iter, ↓wE_rev, ↓wE_pos, ↓wE_kws, ↓wE_noa, ↓wE_both, ↓wE_fn, ↓wE_mth, ↓qN_non, ↓wE_mk, ↓wE_meth, ↓wE_neg, ↓wE_chain, ↓wE_comp, ↓wS_nx, ↓wS_bk, ↓wS_ct, ↓wS_seq, ↓wS_drop, ↓wS_ret, ↓wS_retN, ↓wS_if, ↓wS_asg, ↓qL_loc, ↓qCl_lst, ↓wS_retFz, ↓wS_raise, ↓wS_for, ↓wS_try, ↓wG_set0, ↓wG_setS, ↓wG_then, ↓wG_sub, ↓wG_fld, ↓qT_tup, ↓wG_tup, ↓wGs_nil, ↓wGs_cons, ↓endB_nx, ↓endB_rt, ↓endB_er, ↓endB_bk, ↓endB_ct, ↓loopP_nx, ↓loopP_ct, ↓loopP_bk, ↓loopP_rt, ↓loopP_er, ↓qO_some, ↓qO_at0, ↓qO_at1, ↓qO_at2, ↓qO_at3, ↓qO_at4, ↓qO_at5, ↓w_add_int, ↓w_add_str, ↓w_add_tup, ↓w_add_lst, ↓w_sub, ↓w_mod, ↓w_div, ↓w_mul, ↓w_pow, ↓w_band, ↓w_lt, ↓w_le, ↓w_gt, ↓w_ge, ↓w_is, ↓w_isNot, ↓nonN, ↓nonI, ↓nonS, ↓nonT, ↓nonL, ↓nonLoc, ↓w_eq_int, ↓w_ne_int, ↓w_eq_str, ↓w_ne_str, ↓qIx_lst, ↓qIx_dK, ↓qIxS_dK, ↓w_ix_loc, ↓w_ix_locS, ↓w_ix_lst, ↓w_ix_tup, ↓w_ix_str, ↓qLS_0, ↓qLS_1, ↓qLS_2, ↓qLS_3, ↓qSet_lst, ↓qSet_dK, ↓qSetS_dK, ↓w_setI, ↓w_setS, ↓qF_ins, ↓w_fld, ↓qSF_ins, ↓w_setF, ↓w_len_str, ↓w_len_lst, ↓w_len_tup, ↓qLen_lst, ↓qLen_dK, ↓w_len_loc, ↓w_max, ↓w_min, ↓w_int_int, ↓w_int_bl, ↓w_str_int, ↓qDc_dK, ↓w_dict, ↓w_tuple_lst, ↓w_tuple_tup, ↓w_tuple_loc, ↓w_list_lst, ↓w_list_tup, ↓w_iter_lst, ↓w_iter_tup, ↓w_iter_str, ↓w_iter_loc, ↓w_rng1, ↓w_rng2, ↓w_sl_str, ↓w_sl_tup, ↓w_sl_lst, ↓w_append, ↓w_lclear, ↓tyS_str, ↓tyL_lst, ↓qM_loc, ↓look1, ↓wC_set, ↓wC_setn, ↓wC_push2, ↓wC_pushn, ↓wE_yes, ↓wE_revL, ↓qO_lst, ↓w_all_lst, ↓w_join_lst, ↓wE_get1, ↓wE_get2, ↓wE_pop1, ↓qO_keyI, ↓qO_keyS, ↓qIns_ins, ↓wS_faug, ↓wE_disp, ↓wE_pairs0, ↓wE_pairsC, ↓keysOf0, ↓keysOfS, ↓keysOfI, ↓wE_keys, ↓wE_sliceN, ↓wE_sortK, ↓hb_place, ↓hb_turn, ↓hb_since, ↓hb_until, ↓hb_mask, ↓hbm_meets, ↓hbm_is_over, ↓hbm_twin, ↓isi_non_int, ↓isi_non_bool, ↓isi_non_str, ↓isi_non_tuple, ↓isi_non_list, ↓isi_non_dict, ↓isi_bl_int, ↓isi_bl_bool, ↓isi_bl_str, ↓isi_bl_tuple, ↓isi_bl_list, ↓isi_bl_dict, ↓isi_int_int, ↓isi_int_bool, ↓isi_int_str, ↓isi_int_tuple, ↓isi_int_list, ↓isi_int_dict, ↓isi_str_int, ↓isi_str_bool, ↓isi_str_str, ↓isi_str_tuple, ↓isi_str_list, ↓isi_str_dict, ↓isi_tup_int, ↓isi_tup_bool, ↓isi_tup_str, ↓isi_tup_tuple, ↓isi_tup_list, ↓isi_tup_dict, ↓isi_lst_int, ↓isi_lst_bool, ↓isi_lst_str, ↓isi_lst_tuple, ↓isi_lst_list, ↓isi_lst_dict, ↓hm_look_for, ↓hm_look_awake, ↓hm_next_turn, ↓hm_lie_down, ↓hm_rise, ↓hm_is_over, ↓hm_put, ↓hm_sleep, ↓hm_wake, ↓hm_move, ↓hm_tick, ↓hm_lateness, ↓hm_nudge, ↓hm_rank, ↓hm_number, ↓hm_line, ↓hm_line_at, ↓hm_order, ↓hm_asleep, ↓hm_sleeper, ↓hm_ending, ↓hm_standing, ↓hm_now, ↓hm_log, ↓hm_who, ↓hm_filled, ↓hm_twin, ↓hf_numbers, ↓hf_beds, ↓hf_ranks, ↓hf_endings, ↓hf_clock, ↓hf_turns, ↓hf_begun, ↓hf_entries, ↓wE_chainV, ↓wS_aug, ↓wG_unl, ↓wE_repN, ↓wE_dc2, ↓wE_dc, ↓w_in2, ↓w_in5, ↓wG_s32, ↓wG_s40_5, ↓wG_s40_6, ↓wE_catN, ↓qO_cat, ↓hw_plans, ↓hw_names, ↓hw_numbers, ↓hw_nudges, ↓hw_ranks, ↓hw_marks, ↓hwm_start, ↓hwm_row_at, ↓hwm_are_sizes, ↓hwm_is_state, ↓hwm_may_lie, ↓hwm_is_in_order, ↓hwm_can, ↓hwm_after, ↓hwm_stepped, ↓hwm_lain, ↓hwm_roused, ↓hwm_clash, ↓hwm_ended, ↓hwm_stuck, decide_eq_true_eq, beq_iff_eq, Bool.not_eq_true', Bool.not_eq_eq_eq_not, Bool.not_true, Bool.not_false, decide_eq_false_iff_not, beq_eq_false_iff_ne, ne_eq, true_and, and_true, if_true, if_false, ite_true, ite_false, reduceIte, Bool.false_eq_true, not_false_eq_true, not_true_eq_false, Int.reduceLT, Int.reduceLE, Int.reduceToNat, Nat.reduceLT, Nat.reduceLeDiff, Int.reducePow, Nat.reduceAdd, Int.reduceAdd, Int.reduceMul, Int.reduceSub, Int.reduceNeg, Nat.reducePow, Int.reduceEq, Nat.reduceEqDiff, List.length_cons, List.length_nil, PySem.sizeLine_eq, str_len_app, str_len_one, wipeD, List.set_cons_zero, List.set_cons_succ, $xs,*])
section
namespace Doz
open PySem L2
section
variable {c : Cl} {μ : Mem}
end
section
variable {c : Cl} {μ : Mem}
end
end Doz
end
section
namespace Doz
open PySem L2
def Weave (W : Wo) : Sta → List (Str × Nat) → Prop
  | _, [] => True
  | s, q :: l => q ∈ canM W s ∧ Weave W (afterP W s q) l
def statesP (W : Wo) : Sta → List (Str × Nat) → List Sta
  | s, [] => [s]
  | s, q :: l => s :: statesP W (afterP W s q) l
def endP (W : Wo) : Sta → List (Str × Nat) → Sta
  | s, [] => s
  | s, q :: l => endP W (afterP W s q) l
theorem Weave.ok {W : Wo} (hW : W.Ok) : ∀ {l : List (Str × Nat)} {s : Sta}, s.Ok W → Weave W s l → (endP W s l).Ok W ∧ ∀ t ∈ statesP W s l, t.Ok W
  | [], s, hs, _ => ⟨hs, fun t ht => by rw [List.mem_singleton.mp ht]; exact hs⟩
  | x :: l, s, hs, h => by
    obtain ⟨h1, h2⟩ := Weave.ok hW (l := l) (Ok.after hW hs h.1) h.2
    refine ⟨h1, fun t ht => ?_⟩
    rcases List.mem_cons.mp ht with rfl | ht
    · exact hs
    · exact h2 t ht
theorem Weave.app {W : Wo} : ∀ {a : List (Str × Nat)} {s : Sta} {b : List (Str × Nat)}, Weave W s (a ++ b) ↔ Weave W s a ∧ Weave W (endP W s a) b
  | [], s, b => by simp [Weave, endP]
  | x :: a, s, b => by
    show x ∈ canM W s ∧ Weave W (afterP W s x) (a ++ b) ↔ (x ∈ canM W s ∧ Weave W (afterP W s x) a) ∧ _
    rw [Weave.app (a := a), and_assoc]; rfl
section
variable {c : Cl} {μ : Mem} {W : Wo} {p o a : Nat}
end
end Doz
end
section
end
end
section
open PySem L2 Doz
local macro_rules | `(tactic| simp_arith only [$xs,*]) => `(tactic| simp -failIfUnchanged -implicitDefEqProofs (disch := (first | (simp only [Doz.len_push, Doz.len_set]; omega) | omega | assumption)) only [↓wR_ok, ↓wR_err, ↓wE_var0, ↓wE_varS, ↓wE_C, ↓wE_op, ↓wE_cmp, ↓wE_bl, ↓qB_bl, ↓wE_asB, ↓wE_and, ↓wE_or, ↓wE_not, ↓wE_andV, ↓wE_orV, ↓wE_notV, ↓wE_if, ↓wE_nil, ↓wE_cons, ↓wE_fz, ↓wE_lc, ↓wE_tup, ↓wE_lst, ↓wE_call, ↓wE_nopart, ↓qI_int, ↓wE_part, ↓wE_slice, ↓wE_fld, ↓wE_dnew, ↓wE_iter, ↓wE_rev, ↓wE_pos, ↓wE_kws, ↓wE_noa, ↓wE_both, ↓wE_fn, ↓wE_mth, ↓qN_non, ↓wE_mk, ↓wE_meth, ↓wE_neg, ↓wE_chain, ↓wE_comp, ↓wS_nx, ↓wS_bk, ↓wS_ct, ↓wS_seq, ↓wS_drop, ↓wS_ret, ↓wS_retN, ↓wS_if, ↓wS_asg, ↓qL_loc, ↓qCl_lst, ↓wS_retFz, ↓wS_raise, ↓wS_for, ↓wS_try, ↓wG_set0, ↓wG_setS, ↓wG_then, ↓wG_sub, ↓wG_fld, ↓qT_tup, ↓wG_tup, ↓wGs_nil, ↓wGs_cons, ↓endB_nx, ↓endB_rt, ↓endB_er, ↓endB_bk, ↓endB_ct, ↓loopP_nx, ↓loopP_ct, ↓loopP_bk, ↓loopP_rt, ↓loopP_er, ↓qO_some, ↓qO_at0, ↓qO_at1, ↓qO_at2, ↓qO_at3, ↓qO_at4, ↓qO_at5, ↓w_add_int, ↓w_add_str, ↓w_add_tup, ↓w_add_lst, ↓w_sub, ↓w_mod, ↓w_div, ↓w_mul, ↓w_pow, ↓w_band, ↓w_lt, ↓w_le, ↓w_gt, ↓w_ge, ↓w_is, ↓w_isNot, ↓nonN, ↓nonI, ↓nonS, ↓nonT, ↓nonL, ↓nonLoc, ↓w_eq_int, ↓w_ne_int, ↓w_eq_str, ↓w_ne_str, ↓qIx_lst, ↓qIx_dK, ↓qIxS_dK, ↓w_ix_loc, ↓w_ix_locS, ↓w_ix_lst, ↓w_ix_tup, ↓w_ix_str, ↓qLS_0, ↓qLS_1, ↓qLS_2, ↓qLS_3, ↓qSet_lst, ↓qSet_dK, ↓qSetS_dK, ↓w_setI, ↓w_setS, ↓qF_ins, ↓w_fld, ↓qSF_ins, ↓w_setF, ↓w_len_str, ↓w_len_lst, ↓w_len_tup, ↓qLen_lst, ↓qLen_dK, ↓w_len_loc, ↓w_max, ↓w_min, ↓w_int_int, ↓w_int_bl, ↓w_str_int, ↓qDc_dK, ↓w_dict, ↓w_tuple_lst, ↓w_tuple_tup, ↓w_tuple_loc, ↓w_list_lst, ↓w_list_tup, ↓w_iter_lst, ↓w_iter_tup, ↓w_iter_str, ↓w_iter_loc, ↓w_rng1, ↓w_rng2, ↓w_sl_str, ↓w_sl_tup, ↓w_sl_lst, ↓w_append, ↓w_lclear, ↓tyS_str, ↓tyL_lst, ↓qM_loc, ↓look1, ↓wC_set, ↓wC_setn, ↓wC_push2, ↓wC_pushn, ↓wE_yes, ↓wE_revL, ↓qO_lst, ↓w_all_lst, ↓w_join_lst, ↓wE_get1, ↓wE_get2, ↓wE_pop1, ↓qO_keyI, ↓qO_keyS, ↓qIns_ins, ↓wS_faug, ↓wE_disp, ↓wE_pairs0, ↓wE_pairsC, ↓keysOf0, ↓keysOfS, ↓keysOfI, ↓wE_keys, ↓wE_sliceN, ↓wE_sortK, ↓hb_place, ↓hb_turn, ↓hb_since, ↓hb_until, ↓hb_mask, ↓hbm_meets, ↓hbm_is_over, ↓hbm_twin, ↓isi_non_int, ↓isi_non_bool, ↓isi_non_str, ↓isi_non_tuple, ↓isi_non_list, ↓isi_non_dict, ↓isi_bl_int, ↓isi_bl_bool, ↓isi_bl_str, ↓isi_bl_tuple, ↓isi_bl_list, ↓isi_bl_dict, ↓isi_int_int, ↓isi_int_bool, ↓isi_int_str, ↓isi_int_tuple, ↓isi_int_list, ↓isi_int_dict, ↓isi_str_int, ↓isi_str_bool, ↓isi_str_str, ↓isi_str_tuple, ↓isi_str_list, ↓isi_str_dict, ↓isi_tup_int, ↓isi_tup_bool, ↓isi_tup_str, ↓isi_tup_tuple, ↓isi_tup_list, ↓isi_tup_dict, ↓isi_lst_int, ↓isi_lst_bool, ↓isi_lst_str, ↓isi_lst_tuple, ↓isi_lst_list, ↓isi_lst_dict, ↓hm_look_for, ↓hm_look_awake, ↓hm_next_turn, ↓hm_lie_down, ↓hm_rise, ↓hm_is_over, ↓hm_put, ↓hm_sleep, ↓hm_wake, ↓hm_move, ↓hm_tick, ↓hm_lateness, ↓hm_nudge, ↓hm_rank, ↓hm_number, ↓hm_line, ↓hm_line_at, ↓hm_order, ↓hm_asleep, ↓hm_sleeper, ↓hm_ending, ↓hm_standing, ↓hm_now, ↓hm_log, ↓hm_who, ↓hm_filled, ↓hm_twin, ↓hf_numbers, ↓hf_beds, ↓hf_ranks, ↓hf_endings, ↓hf_clock, ↓hf_turns, ↓hf_begun, ↓hf_entries, ↓wE_chainV, ↓wS_aug, ↓wG_unl, ↓wE_repN, ↓wE_dc2, ↓wE_dc, ↓w_in2, ↓w_in5, ↓wG_s32, ↓wG_s40_5, ↓wG_s40_6, ↓wE_catN, ↓qO_cat, ↓hw_plans, ↓hw_names, ↓hw_numbers, ↓hw_nudges, ↓hw_ranks, ↓hw_marks, ↓hwm_start, ↓hwm_row_at, ↓hwm_are_sizes, ↓hwm_is_state, ↓hwm_may_lie, ↓hwm_is_in_order, ↓hwm_can, ↓hwm_after, ↓hwm_stepped, ↓hwm_lain, ↓hwm_roused, ↓hwm_clash, ↓hwm_ended, ↓hwm_stuck, decide_eq_true_eq, beq_iff_eq, Bool.not_eq_true', Bool.not_eq_eq_eq_not, Bool.not_true, Bool.not_false, decide_eq_false_iff_not, beq_eq_false_iff_ne, ne_eq, true_and, and_true, if_true, if_false, ite_true, ite_false, ↓reduceIte, Bool.false_eq_true, not_false_eq_true, not_true_eq_false, Int.reduceLT, Int.reduceLE, Int.reduceToNat, Nat.reduceLT, Nat.reduceLeDiff, Int.reducePow, Nat.reduceAdd, Int.reduceAdd, Int.reduceMul, Int.reduceSub, Int.reduceNeg, Nat.reducePow, Int.reduceEq, Nat.reduceEqDiff, List.length_cons, List.length_nil, PySem.sizeLine_eq, str_len_app, str_len_one, wipeD, List.set_cons_zero, List.set_cons_succ, $xs,*])
section
namespace DozK
open PySem L2 Doz
end DozK
end
section
namespace DozK
open PySem L2 Doz
section
variable {c : Cl} {μ : Mem} {W : Wo} {p o : Nat}
end
end DozK
end
section
namespace DozK
open PySem L2 Doz
section
variable {c : Cl} {μ : Mem} {W : Wo} {b : BK}
end
section
variable {c : Cl} {μ : Mem} {b : BK}
end
section
variable {c : Cl} {μ : Mem} {b : BK}
end
end DozK
end
section
namespace DozK
open PySem L2 Doz
section
variable {c : Cl} {μ : Mem} {b : BK}
end
end DozK
end
section
namespace DozK
open PySem L2 Doz
end DozK
end
section
namespace K62
open PySem L2 Doz DozK
section
variable {δ : DEnv} {μ : Mem} {P : Po}
theorem wS_try2 (i : Nat) (t1 t2 : Addr → Option Bool) (mb : MS) (m1 m2 : Addr → D → MS) : wS (mtry2 i t1 t2 mb m1 m2) δ μ P = wS mb δ μ { P with er := fun C w δ1 μ1 =>
      (t1 C = some true ∧ i < δ1.length ∧ wS (m1 C w) (δ1.set i none) μ1 { nx := fun δ2 μ2 => P.nx (δ2.set i none) μ2, rt := P.rt, bk := fun δ2 μ2 => P.bk (δ2.set i none) μ2, ct := fun δ2 μ2 => P.ct (δ2.set i none) μ2, er := fun C w δ2 μ2 => P.er C w (δ2.set i none) μ2 }) ∨
      (t1 C = some false ∧ ((t2 C = some false ∧ P.er C w δ1 μ1) ∨ (t2 C = some true ∧ i < δ1.length ∧ wS (m2 C w) (δ1.set i none) μ1 { nx := fun δ2 μ2 => P.nx (δ2.set i none) μ2, rt := P.rt, bk := fun δ2 μ2 => P.bk (δ2.set i none) μ2, ct := fun δ2 μ2 => P.ct (δ2.set i none) μ2, er := fun C w δ2 μ2 => P.er C w (δ2.set i none) μ2 }))) } := by
  unfold wS mtry2
  cases h : mb δ μ with
  | err C w δ1 μ1 =>
    simp only [wP]
    cases ht : t1 C with
    | none => simp
    | some b =>
      cases b with
      | false =>
        simp only [Option.some.injEq, Bool.false_eq_true, false_and, true_and, false_or]
        cases ht2 : t2 C with
        | none => simp
        | some b2 =>
          cases b2 with
          | false => simp [wP]
          | true =>
            simp only [Option.some.injEq, Bool.true_eq_false, false_and, true_and, false_or]
            by_cases hi : i < δ1.length
            · rw [if_pos hi]
              cases m2 C w (δ1.set i none) μ1 <;> simp [unY, wP, hi]
            · rw [if_neg hi]; simp [wP, hi]
      | true =>
        simp only [Option.some.injEq, Bool.true_eq_false, false_and, true_and, or_false]
        by_cases hi : i < δ1.length
        · rw [if_pos hi]
          cases m1 C w (δ1.set i none) μ1 <;> simp [unY, wP, hi]
        · rw [if_neg hi]; simp [wP, hi]
  | _ => rfl
end
theorem w_inLoc {μ : Mem} {E : Doz.EP} {t : Nat} {ws : List Str} (h : μ.cells[t]? = some (.lst (ws.map D.str))) (x : Str) (Q : Bool → Mem → Prop) : wR (cIn (.str x) (.loc t) μ) Q E = Q (decide (x ∈ ws)) μ := by
  rw [← w_inL (μ := μ) (E := E) x ws Q]
  have e : cIn (.str x) (.loc t) μ = cIn (.str x) (.lst (ws.map D.str)) μ := by
    unfold cIn
    have h1 : signIn (.str x) (.loc t) = none := rfl
    have h1' : signIn (.str x) (.lst (ws.map D.str)) = none := rfl
    have h2 : dfind μ (.loc t) (.str x) = none := by
      unfold dfind dictOf; dsimp only; rw [h]; rfl
    have h2' : dfind μ (.lst (ws.map D.str)) (.str x) = none := rfl
    have h3 : seqOf μ (.loc t) = some (ws.map D.str) := lstOf_loc h
    have h3' : seqOf μ (.lst (ws.map D.str)) = some (ws.map D.str) := rfl
    rw [h1, h1', h2, h2']
    dsimp only
    rw [h3, h3']
    dsimp only
    by_cases hs : (D.sc (.str x) && (ws.map D.str).all D.sc) = true
    · rw [if_pos hs, if_pos hs]
    · exact absurd (by simp [D.sc, List.all_map]) hs
  rw [e]
def dueV (b : BK) : D := match bookE b.lk b.cd b.names with
  | some (true, n) => .tup [.str "two", .str n]
  | some (false, n) => .tup [.str "none", .str n]
  | none => .tup [.str "made", .lst (b.cd.map fun p => D.str p.2)]
def pairsB (b : BK) : List (Str × D) := b.cd.map (fun p => (p.1, D.str p.2)) ++ b.ct.map (fun p => (p.1, D.int p.2)) ++ b.ce.map (fun p => (p.1, D.int p.2))
def pD (p : Str × D) : D := .tup [.str p.1, p.2]
theorem pairs_eq (b : BK) : b.cd.map pSS ++ b.ct.map pSI ++ b.ce.map pSI = (pairsB b).map pD := by
  unfold pairsB
  simp only [List.map_append, List.map_map]
  rfl
theorem names_eq (b : BK) : b.names = b.lk ++ (pairsB b).map (·.1) := by
  unfold BK.names pairsB
  simp [Function.comp_def]
section
variable {c : Cl} {μ : Mem}
theorem due_ok {b : BK} (hl : b.lk.length ≤ 1000 ∧ b.cd.length ≤ 1000 ∧ b.ct.length ≤ 1000 ∧ b.ce.length ≤ 1000) : wR (m_x__law_due c [.lst (b.lk.map D.str), .lst (b.cd.map pSS), .lst (b.ct.map pSI), .lst (b.ce.map pSI)] μ) (fun v μ' => v = dueV b ∧ Fr [] μ μ') noE := by
  obtain ⟨l1, l2, l3, l4⟩ := hl
  have lp : (pairsB b).length ≤ 3000 := by unfold pairsB; simp; omega
  unfold m_x__law_due
  rw [w_run]
  show wS (t_x__law_due c) [some (.lst (b.lk.map D.str)), some (.lst (b.cd.map pSS)), some (.lst (b.ct.map pSI)), some (.lst (b.ce.map pSI)), none, none, none] μ _
  unfold t_x__law_due
  generalize hδ : ([some (.lst (b.lk.map D.str)), some (.lst (b.cd.map pSS)), some (.lst (b.ct.map pSI)), some (.lst (b.ce.map pSI)), none, none, none] : DEnv) = δ0
  refine wS_cut (fun δ μ' => ∃ t, μ.cells.length ≤ t ∧ δ = [some (.lst (b.lk.map D.str)), some (.lst (b.cd.map pSS)), some (.lst (b.ct.map pSI)), some (.lst (b.ce.map pSI)), some (.loc t), none, none] ∧ μ'.cells[t]? = some (.lst []) ∧ Fr [] μ μ') ?_ ?_
  · subst hδ
    simp_arith only [id_eq]
    exact ⟨_, Nat.le_refl _, rfl, at_push, Fr.push _ _ _⟩
  clear hδ
  rintro δ1 μ1 ⟨t, ht, e1, h1, f1⟩
  have gt : ∀ k ∈ [t], k < μ.cells.length → k ∈ ([] : List Nat) := fun k hk hlt => by rw [List.mem_singleton.mp hk] at hlt; omega
  refine wS_cut (fun δ μ' => ∃ x5 x6, δ = [some (.lst (b.lk.map D.str)), some (.lst (b.cd.map pSS)), some (.lst (b.ct.map pSI)), some (.lst (b.ce.map pSI)), some (.loc t), x5, x6] ∧ dupL [] b.names = none ∧ Fr [] μ μ') ?_ ?_
  · subst e1
    simp_arith only [List.length_map]
    refine ⟨by omega, by simp; omega, by simp; omega, ?_⟩
    rw [pairs_eq]
    refine w_compMap (f := pD) (fun p : Str × D => D.str p.1) rfl (fun p _ => ?_) ?_
    · simp_arith only [pD]
    simp_arith only [List.length_map]
    have en : b.lk.map D.str ++ (pairsB b).map (fun p => D.str p.1) = b.names.map D.str := by
      rw [names_eq, List.map_append, List.map_map]; rfl
    rw [en]
    refine ⟨by omega, ?_⟩
    refine w_loopM (f := D.str) (fun rest δ μ' => ∃ (done : List Str) (x5 : Option D), done.length + rest.length ≤ 4000 ∧ dupL done rest = dupL [] b.names ∧ δ = [some (.lst (b.lk.map D.str)), some (.lst (b.cd.map pSS)), some (.lst (b.ct.map pSI)), some (.lst (b.ce.map pSI)), some (.loc t), x5, none] ∧ μ'.cells[t]? = some (.lst (done.map D.str)) ∧ Fr [] μ μ') (fun _ _ _ _ => rfl) ?_ ?_ b.names _ _ ⟨[], none, by rw [names_eq]; simp; omega, rfl, rfl, h1, f1⟩
    · rintro x rest δ ν ⟨done, x5, hlen, hd, rfl, hc, fν⟩
      have hd' : (if x ∈ done then some x else dupL (done ++ [x]) rest) = dupL [] b.names := hd
      simp only [List.length_cons] at hlen
      simp only [wG_set0, wG_setS]
      by_cases hx : x ∈ done
      · rw [if_pos hx] at hd'
        simp_arith only [↓w_inLoc hc, hx, decide_true]
        refine ⟨?_, fν⟩
        unfold dueV bookE
        rw [← hd']
      · rw [if_neg hx] at hd'
        simp_arith only [↓w_inLoc hc, hx, decide_false, tyL_of hc, ↓wC_of hc, List.length_map]
        refine ⟨by omega, done ++ [x], _, by simp; omega, hd', rfl, by rw [at_set (at_lt hc)]; simp, fν.trans (Fr.set1 _ t _) gt⟩
    · rintro δ ν ⟨done, x5, hlen, hd, rfl, hc, fν⟩
      exact ⟨_, _, rfl, hd.symm, fν⟩
  clear e1
  rintro δ1 μ2 ⟨x5, x6, e1, hdup, f2⟩
  have hE : bookE b.lk b.cd b.names = match b.cd.find? fun p => !decide (p.2 ∈ b.lk) with | some p => some (false, p.2) | none => none := by
    unfold bookE
    first | (simp only [hdup]; done) | (simp only [hdup]; generalize (b.cd.find? fun p => !decide (p.2 ∈ b.lk)) = o; cases o <;> rfl)
  refine wS_cut (fun δ μ' => ∃ x5 x6, δ = [some (.lst (b.lk.map D.str)), some (.lst (b.cd.map pSS)), some (.lst (b.ct.map pSI)), some (.lst (b.ce.map pSI)), some (.loc t), x5, x6] ∧ (∀ p ∈ b.cd, p.2 ∈ b.lk) ∧ μ' = μ2) ?_ ?_
  · subst e1
    simp_arith only [id_eq]
    refine w_loopM (f := pSS) (fun rest δ μ' => ∃ (done : List (Str × Str)) (x6 : Option D), b.cd = done ++ rest ∧ (∀ p ∈ done, p.2 ∈ b.lk) ∧ δ = [some (.lst (b.lk.map D.str)), some (.lst (b.cd.map pSS)), some (.lst (b.ct.map pSI)), some (.lst (b.ce.map pSI)), some (.loc t), x5, x6] ∧ μ' = μ2) (fun _ _ _ _ => rfl) ?_ ?_ b.cd _ _ ⟨[], x6, rfl, (fun _ h => by cases h), rfl, rfl⟩
    · rintro p rest δ ν ⟨done, x6, en, hg, rfl, rfl⟩
      simp only [wG_set0, wG_setS]
      by_cases hp : p.2 ∈ b.lk
      · simp_arith only [pSS, ↓w_notInL, hp, decide_true, Bool.not_true]
        refine ⟨done ++ [p], _, by rw [en]; simp, fun q hq => ?_, rfl⟩
        rcases List.mem_append.mp hq with hq | hq
        · exact hg q hq
        · rw [List.mem_singleton.mp hq]; exact hp
      · simp_arith only [pSS, ↓w_notInL, hp, decide_false, Bool.not_false]
        refine ⟨?_, f2⟩
        unfold dueV
        rw [hE, en, find_at hg hp]
    · rintro δ ν ⟨done, x6, en, hg, rfl, rfl⟩
      rw [List.append_nil] at en
      exact ⟨_, _, rfl, by rw [en]; exact hg, rfl⟩
  clear e1
  rintro δ1 _ ⟨x5, x6, e1, hall, e0⟩
  replace e0 := e0.symm
  subst e0
  subst e1
  simp_arith only [List.length_map]
  refine ⟨by omega, ?_⟩
  refine w_compMap (f := pSS) (fun p : Str × Str => D.str p.2) rfl (fun p _ => ?_) ?_
  · simp_arith only [pSS]
  simp_arith only [id_eq]
  refine ⟨?_, f2⟩
  unfold dueV
  rw [hE, find_none hall]
end
end K62
end
section
namespace K62
open PySem L2 Doz DozK
def kindsV (b : BK) : D := match bookE b.lk b.cd b.names with
  | none => .lst [.bl false, .bl false, .bl false]
  | some (t, _) => .lst [.bl true, .bl t, .bl (!t)]
section
variable {c : Cl} {μ : Mem}
theorem kinds_ok {b : BK} (hcc : c.n_TwoNames ≠ c.n_NoName) (hl : b.lk.length ≤ 1000 ∧ b.cd.length ≤ 1000 ∧ b.ct.length ≤ 1000 ∧ b.ce.length ≤ 1000) (hlk : μ.lk = []) : wR (m_x__law_kinds c [.lst (b.lk.map D.str), .lst (b.cd.map pSS), .lst (b.ct.map pSI), .lst (b.ce.map pSI)] μ) (fun v μ' => v = kindsV b ∧ Fr [] μ μ') noE := by
  unfold m_x__law_kinds
  rw [w_run]
  show wS (t_x__law_kinds c) [some (.lst (b.lk.map D.str)), some (.lst (b.cd.map pSS)), some (.lst (b.ct.map pSI)), some (.lst (b.ce.map pSI)), none, none] μ _
  unfold t_x__law_kinds
  generalize hδ : ([some (.lst (b.lk.map D.str)), some (.lst (b.cd.map pSS)), some (.lst (b.ct.map pSI)), some (.lst (b.ce.map pSI)), none, none] : DEnv) = δ0
  refine wS_cut (fun δ μ' => δ = [some (.lst (b.lk.map D.str)), some (.lst (b.cd.map pSS)), some (.lst (b.ct.map pSI)), some (.lst (b.ce.map pSI)), some (.lst [.bl false, .bl false, .bl false]), none] ∧ μ' = μ) (by subst hδ; simp_arith only [id_eq]) ?_
  rintro δ1 _ ⟨e1, e0⟩
  replace e0 := e0.symm
  subst e0
  clear hδ
  have ga : ∀ k ∈ [μ.cells.length], k < μ.cells.length → k ∈ ([] : List Nat) := fun k hk hlt => by rw [List.mem_singleton.mp hk] at hlt; omega
  have hini := init_ok (c := c) (μ := μ.push (.ins c.n_Book [])) (a := μ.cells.length) (b := b) (d1 := .tup (b.lk.map D.str)) (d2 := .tup (b.cd.map pSS)) (d3 := .tup (b.ct.map pSI)) (d4 := .tup (b.ce.map pSI)) rfl rfl rfl rfl hl at_push hlk
  refine wS_cut (fun δ μ' => ∃ x5, δ = [some (.lst (b.lk.map D.str)), some (.lst (b.cd.map pSS)), some (.lst (b.ct.map pSI)), some (.lst (b.ce.map pSI)), some (kindsV b), x5] ∧ Fr [] μ μ') ?_ ?_
  · subst e1
    simp_arith only [id_eq]
    refine hini.imp2 ?_ ?_
    · rintro _ μ2 ⟨rfl, hE, A, _, _, _, f2⟩
      simp_arith only [id_eq]
      have ek : kindsV b = .lst [.bl false, .bl false, .bl false] := by unfold kindsV; rw [hE]
      rw [ek]
      exact ⟨_, rfl, (Fr.push _ _ _).trans f2 ga⟩
    · rintro C w μ2 ⟨t, n, hE, rfl, rfl, f2⟩
      have f := (Fr.push (S := []) μ (.ins c.n_Book [])).trans f2 ga
      have hcc' : (c.n_NoName == c.n_TwoNames) = false := beq_eq_false_iff_ne.mpr fun z => hcc z.symm
      cases t with
      | true =>
        have ek : kindsV b = .lst [.bl true, .bl true, .bl false] := by unfold kindsV; rw [hE]; rfl
        have lk : ∀ x y : Bool, List.lookup c.n_TwoNames [(c.n_TwoNames, x), (c.n_NoName, y)] = some x := fun x y => by simp [List.lookup]
        rw [if_pos rfl, ek]
        refine .inr ⟨lk _ _, ?_⟩
        simp only [lk, Option.getD_some]
        exact ⟨_, rfl, f⟩
      | false =>
        have ek : kindsV b = .lst [.bl true, .bl false, .bl true] := by unfold kindsV; rw [hE]; rfl
        have lk : ∀ x y : Bool, List.lookup c.n_NoName [(c.n_TwoNames, x), (c.n_NoName, y)] = some y := fun x y => by simp [List.lookup, hcc']
        rw [if_neg (by decide), ek]
        refine .inr ⟨lk _ _, ?_⟩
        simp only [lk, Option.getD_some]
        exact ⟨_, rfl, f⟩
  rintro δ2 μ2 ⟨x5, e2, f2⟩
  subst e2
  simp_arith only [id_eq]
  exact f2
end
end K62
end
section
namespace K62
open PySem L2 Doz DozK
structure Four (μ : Mem) (b : BK) (p1 p2 p3 p4 : Nat) : Prop where
  h1 : μ.cells[p1]? = some (.lst (b.lk.map D.str))
  h2 : μ.cells[p2]? = some (.lst (b.cd.map pSS))
  h3 : μ.cells[p3]? = some (.lst (b.ct.map pSI))
  h4 : μ.cells[p4]? = some (.lst (b.ce.map pSI))
theorem Four.fr {μ ν : Mem} {b : BK} {p1 p2 p3 p4 : Nat} (h : Four μ b p1 p2 p3 p4) (f : Fr [] μ ν) : Four ν b p1 p2 p3 p4 := ⟨f.get h.h1 (by simp), f.get h.h2 (by simp), f.get h.h3 (by simp), f.get h.h4 (by simp)⟩
structure TxtB (b : BK) : Prop where
  t1 : ∀ w ∈ b.lk, PyData.strOk w = true
  t2 : ∀ p ∈ b.cd, PyData.strOk p.1 = true ∧ PyData.strOk p.2 = true
  t3 : ∀ p ∈ b.ct ++ b.ce, PyData.strOk p.1 = true
def fourD (b : BK) : D := .lst [.lst (b.lk.map D.str), .lst (b.cd.map pSS), .lst (b.ct.map pSI), .lst (b.ce.map pSI)]
theorem four_nice {b : BK} (h : TxtB b) : nice 8 (fourD b) = true := by
  have n1 : (b.lk.map D.str).all (nice 6) = true := List.all_eq_true.mpr fun d hd => by
    obtain ⟨w, hw, rfl⟩ := List.mem_map.mp hd
    exact h.t1 w hw
  have n2 : (b.cd.map pSS).all (nice 6) = true := List.all_eq_true.mpr fun d hd => by
    obtain ⟨p, hp, rfl⟩ := List.mem_map.mp hd
    have := h.t2 p hp
    simp [pSS, nice, this.1, this.2]
  have n3 : ∀ xs : List (Str × Int), (∀ p ∈ xs, p ∈ b.ct ++ b.ce) → (xs.map pSI).all (nice 6) = true := fun xs hx => List.all_eq_true.mpr fun d hd => by
    obtain ⟨p, hp, rfl⟩ := List.mem_map.mp hd
    have := h.t3 p (hx p hp)
    simp [pSI, nice, this]
  have n4 := n3 b.ct fun p hp => List.mem_append_left _ hp
  have n5 := n3 b.ce fun p hp => List.mem_append_right _ hp
  unfold fourD
  simp only [nice, List.all_cons, List.all_nil, Bool.and_true, Bool.and_eq_true]
  exact ⟨n1, n2, n4, n5⟩
theorem four_rsv {μ : Mem} {b : BK} {p1 p2 p3 p4 : Nat} (h : Four μ b p1 p2 p3 p4) (ht : TxtB b) : rsv μ 8 (.lst [.loc p1, .loc p2, .loc p3, .loc p4]) = some (fourD b) := by
  have hn := four_nice ht
  unfold fourD at hn
  simp only [nice, List.all_cons, List.all_nil, Bool.and_true, Bool.and_eq_true] at hn
  obtain ⟨n1, n2, n3, n4⟩ := hn
  have r : ∀ {p : Nat} {ds : List D}, μ.cells[p]? = some (.lst ds) → ds.all (nice 6) = true → rsv μ 7 (.loc p) = some (.lst ds) := fun {p ds} hc hd => by
    have z := rsv_nice μ 7 (.lst ds) hd
    show (match μ.cells[p]? with | some (.lst ds) => (ds.mapM (rsv μ 6)).map D.lst | _ => none) = _
    rw [hc]; exact z
  show ([D.loc p1, .loc p2, .loc p3, .loc p4].mapM (rsv μ 7)).map D.lst = _
  simp only [List.mapM_cons, List.mapM_nil, r h.h1 n1, r h.h2 n2, r h.h3 n3, r h.h4 n4]
  rfl
end K62
end
section
namespace K62
open PySem L2 Doz DozK
section
variable {c : Cl} {μ : Mem}
def Calls (b : BK) (all_ : Bool) : Prop := all_ = true ∨ (all_ = false ∧ b.ct = [] ∧ b.ce = [] ∧ b.lk = []) ∨ (all_ = false ∧ b.ct = [] ∧ b.ce ≠ [] ∧ b.cd = [])
theorem found_ok {b : BK} {all_ : Bool} (hcc : c.n_TwoNames ≠ c.n_NoName) (ht : TxtB b) (hca : Calls b all_) (hl : b.lk.length ≤ 1000 ∧ b.cd.length ≤ 1000 ∧ b.ct.length ≤ 1000 ∧ b.ce.length ≤ 1000) (hlk : μ.lk = []) : wR (m_x__law_found c [.lst (b.lk.map D.str), .lst (b.cd.map pSS), .lst (b.ct.map pSI), .lst (b.ce.map pSI), .bl all_] μ) (fun v μ' => v = dueV b ∧ Fr [] μ μ') noE := by
  unfold m_x__law_found
  rw [w_run]
  show wS (t_x__law_found c) [some (.lst (b.lk.map D.str)), some (.lst (b.cd.map pSS)), some (.lst (b.ct.map pSI)), some (.lst (b.ce.map pSI)), some (.bl all_), none, none, none, none, none, none, none, none] μ _
  unfold t_x__law_found
  generalize hδ : ([some (.lst (b.lk.map D.str)), some (.lst (b.cd.map pSS)), some (.lst (b.ct.map pSI)), some (.lst (b.ce.map pSI)), some (.bl all_), none, none, none, none, none, none, none, none] : DEnv) = δ0
  refine wS_cut (fun δ μ' => δ = [some (.lst (b.lk.map D.str)), some (.lst (b.cd.map pSS)), some (.lst (b.ct.map pSI)), some (.lst (b.ce.map pSI)), some (.bl all_), some .non, none, none, none, none, none, none, none] ∧ μ' = μ) (by subst hδ; simp_arith only [id_eq]) ?_
  rintro δ1 _ ⟨e1, e0⟩
  replace e0 := e0.symm
  subst e0
  clear hδ
  refine wS_cut (fun δ μ' => δ = [some (.lst (b.lk.map D.str)), some (.lst (b.cd.map pSS)), some (.lst (b.ct.map pSI)), some (.lst (b.ce.map pSI)), some (.bl all_), some .non, some .non, none, none, none, none, none, none] ∧ μ' = μ) (by subst e1; simp_arith only [id_eq]) ?_
  clear e1
  rintro δ1 _ ⟨e1, e0⟩
  replace e0 := e0.symm
  subst e0
  refine wS_cut (fun δ μ' => ∃ p1 p2 p3 p4, (μ.cells.length ≤ p1 ∧ p1 < p2 ∧ p2 < p3 ∧ p3 < p4) ∧ Four μ' b p1 p2 p3 p4 ∧ δ = [some (.lst (b.lk.map D.str)), some (.lst (b.cd.map pSS)), some (.lst (b.ct.map pSI)), some (.lst (b.ce.map pSI)), some (.bl all_), some .non, some .non, some (.lst [.loc p1, .loc p2, .loc p3, .loc p4]), none, none, none, none, none] ∧ Fr [] μ μ') ?_ ?_
  · subst e1
    simp_arith only [id_eq]
    have lp : ∀ (ν : Mem) (x : Cell), ν.cells.length < (ν.push x).cells.length := fun ν x => by rw [len_push]; omega
    have k1 : ∀ {ν : Mem} {x y : Cell} {p : Nat}, ν.cells[p]? = some y → (ν.push x).cells[p]? = some y := fun {ν x y p} h => (Fr.push [] ν x).get h (by simp)
    exact ⟨_, _, _, _, ⟨Nat.le_refl _, lp _ _, lp _ _, lp _ _⟩, ⟨k1 (k1 (k1 at_push)), k1 (k1 at_push), k1 at_push, at_push⟩, rfl, (((Fr.push [] _ _).trans (Fr.push [] _ _)).trans (Fr.push [] _ _)).trans (Fr.push [] _ _)⟩
  clear e1
  rintro δ1 μ1 ⟨p1, p2, p3, p4, hlt, h4, e1, f1⟩
  have k1 : μ1.lk = [] := by rw [f1.lk]; exact hlk
  refine wS_cut (fun δ μ' => ∃ x5 x6 x8, δ = [some (.lst (b.lk.map D.str)), some (.lst (b.cd.map pSS)), some (.lst (b.ct.map pSI)), some (.lst (b.ce.map pSI)), some (.bl all_), x5, x6, some (.lst [.loc p1, .loc p2, .loc p3, .loc p4]), x8, none, none, none, none] ∧ Fr [] μ1 μ' ∧ ((bookE b.lk b.cd b.names = none ∧ ∃ A : PA, x5 = some (.loc A.a) ∧ x6 = some .non ∧ PB c μ' A b) ∨ ((∃ r, bookE b.lk b.cd b.names = some r) ∧ x5 = some .non ∧ x6 = some (dueV b)))) ?_ ?_
  · have lks : ∀ x y : Bool, List.lookup c.n_TwoNames [(c.n_TwoNames, x), (c.n_NoName, y)] = some x := fun x y => by simp [List.lookup]
    have hcc' : (c.n_NoName == c.n_TwoNames) = false := beq_eq_false_iff_ne.mpr fun z => hcc z.symm
    have lkn : ∀ x y : Bool, List.lookup c.n_NoName [(c.n_TwoNames, x), (c.n_NoName, y)] = some y := fun x y => by simp [List.lookup, hcc']
    have q1 : seqOf (μ1.push (.ins c.n_Book [])) (.loc p1) = some (b.lk.map D.str) := lstOf_loc ((Fr.push [] μ1 _).get h4.h1 (by simp))
    have q2 : seqOf (μ1.push (.ins c.n_Book [])) (.loc p2) = some (b.cd.map pSS) := lstOf_loc ((Fr.push [] μ1 _).get h4.h2 (by simp))
    have q3 : seqOf (μ1.push (.ins c.n_Book [])) (.loc p3) = some (b.ct.map pSI) := lstOf_loc ((Fr.push [] μ1 _).get h4.h3 (by simp))
    have q4 : seqOf (μ1.push (.ins c.n_Book [])) (.loc p4) = some (b.ce.map pSI) := lstOf_loc ((Fr.push [] μ1 _).get h4.h4 (by simp))
    have ga : ∀ k ∈ [μ1.cells.length], k < μ1.cells.length → k ∈ ([] : List Nat) := fun k hk hlt => by rw [List.mem_singleton.mp hk] at hlt; omega
    subst e1
    rcases hca with rfl | ⟨rfl, z1, z2, z3⟩ | ⟨rfl, z1, z2, z3⟩
    · simp_arith only [↓wS_try2]
      refine (init_ok (a := μ1.cells.length) q1 q2 q3 q4 hl at_push k1).imp2 ?_ ?_
      · rintro _ μ2 ⟨rfl, hE, A, hA, _, hp, f2⟩
        simp_arith only [id_eq]
        exact ⟨_, _, _, rfl, (Fr.push _ _ _).trans f2 ga, .inl ⟨hE, A, by rw [hA], rfl, hp⟩⟩
      · rintro C w μ2 ⟨t, n, hE, rfl, rfl, f2⟩
        have f := (Fr.push (S := []) μ1 (.ins c.n_Book [])).trans f2 ga
        cases t with
        | true =>
          have ek : dueV b = .tup [.str "two", .str n] := by unfold dueV; rw [hE]
          rw [if_pos rfl, ek]
          refine .inl ⟨lks _ _, ?_⟩
          simp_arith only [id_eq]
          exact ⟨_, _, _, rfl, f, .inr ⟨⟨_, hE⟩, rfl, by first | rfl | rw [ek]⟩⟩
        | false =>
          have ek : dueV b = .tup [.str "none", .str n] := by unfold dueV; rw [hE]
          rw [if_neg (by decide), ek]
          refine .inr ⟨lkn _ _, .inr ⟨lkn _ _, ?_⟩⟩
          simp_arith only [id_eq]
          exact ⟨_, _, _, rfl, f, .inr ⟨⟨_, hE⟩, rfl, by first | rfl | rw [ek]⟩⟩
    · have e0 : ∀ (ν : Mem) (Q : Bool → Mem → Prop) (E : Doz.EP), wR (cEqA (.lst []) (.lst []) ν) Q E = Q true ν := fun ν Q E => by
        have hn : nice 8 (.lst []) = true := rfl
        rw [w_eq_rs (dcell_nice hn) (rsv_nice ν 8 _ hn) (rsv_nice ν 8 _ hn) (fits_nice hn (by decide)) (fits_nice hn (by decide)), eqv_nice hn]
      simp_arith only [↓wS_try2, z1, z2, List.map_nil, ↓e0]
      refine (init_ok (a := μ1.cells.length) (d1 := .tup []) (d2 := .loc p2) (d3 := .tup []) (d4 := .tup []) (by rw [z3]; rfl) q2 (by rw [z1]; rfl) (by rw [z2]; rfl) hl at_push k1).imp2 ?_ ?_
      · rintro _ μ2 ⟨rfl, hE, A, hA, _, hp, f2⟩
        simp_arith only [id_eq]
        exact ⟨_, _, _, rfl, (Fr.push _ _ _).trans f2 ga, .inl ⟨hE, A, by rw [hA], rfl, hp⟩⟩
      · rintro C w μ2 ⟨t, n, hE, rfl, rfl, f2⟩
        have f := (Fr.push (S := []) μ1 (.ins c.n_Book [])).trans f2 ga
        cases t with
        | true =>
          have ek : dueV b = .tup [.str "two", .str n] := by unfold dueV; rw [hE]
          rw [if_pos rfl, ek]
          refine .inl ⟨lks _ _, ?_⟩
          simp_arith only [id_eq]
          exact ⟨_, _, _, rfl, f, .inr ⟨⟨_, hE⟩, rfl, by first | rfl | rw [ek]⟩⟩
        | false =>
          have ek : dueV b = .tup [.str "none", .str n] := by unfold dueV; rw [hE]
          rw [if_neg (by decide), ek]
          refine .inr ⟨lkn _ _, .inr ⟨lkn _ _, ?_⟩⟩
          simp_arith only [id_eq]
          exact ⟨_, _, _, rfl, f, .inr ⟨⟨_, hE⟩, rfl, by first | rfl | rw [ek]⟩⟩
    · have nc : (b.ce.map pSI).all (nice 7) = true := List.all_eq_true.mpr fun d hd => by
        obtain ⟨p, hp, rfl⟩ := List.mem_map.mp hd
        have := ht.t3 p (List.mem_append_right _ hp)
        simp [pSI, nice, this]
      have ne : b.ce.map pSI ≠ [] := fun z => z2 (List.map_eq_nil_iff.mp z)
      simp_arith only [↓wS_try2, z1, z3, List.map_nil, ↓w_eqNN, ↓w_eqCN nc ne]
      refine (init_ok (a := μ1.cells.length) (d1 := .loc p1) (d2 := .tup []) (d3 := .tup []) (d4 := .loc p4) q1 (by rw [z3]; rfl) (by rw [z1]; rfl) q4 hl at_push k1).imp2 ?_ ?_
      · rintro _ μ2 ⟨rfl, hE, A, hA, _, hp, f2⟩
        simp_arith only [id_eq]
        exact ⟨_, _, _, rfl, (Fr.push _ _ _).trans f2 ga, .inl ⟨by rw [z3] at hE; exact hE, A, by rw [hA], rfl, hp⟩⟩
      · rintro C w μ2 ⟨t, n, hE, rfl, rfl, f2⟩
        have f := (Fr.push (S := []) μ1 (.ins c.n_Book [])).trans f2 ga
        cases t with
        | true =>
          have ek : dueV b = .tup [.str "two", .str n] := by unfold dueV; rw [hE]
          rw [if_pos rfl, ek]
          refine .inl ⟨lks _ _, ?_⟩
          simp_arith only [id_eq]
          exact ⟨_, _, _, rfl, f, .inr ⟨⟨_, by rw [z3] at hE; exact hE⟩, rfl, by first | rfl | rw [ek]⟩⟩
        | false =>
          have ek : dueV b = .tup [.str "none", .str n] := by unfold dueV; rw [hE]
          rw [if_neg (by decide), ek]
          refine .inr ⟨lkn _ _, .inr ⟨lkn _ _, ?_⟩⟩
          simp_arith only [id_eq]
          exact ⟨_, _, _, rfl, f, .inr ⟨⟨_, by rw [z3] at hE; exact hE⟩, rfl, by first | rfl | rw [ek]⟩⟩
  clear e1
  rintro δ1 μ2 ⟨x5, x6, x8, e1, f2, hc⟩
  have g4 := h4.fr f2
  have hF : Fr [] μ μ2 := f1.trans f2
  have hn := four_nice ht
  have hrs := four_rsv g4 ht
  unfold fourD at hn hrs
  have ne0 : ∀ (Q : Bool → Mem → Prop) (E : Doz.EP), wR (cNeA (.lst [.loc p1, .loc p2, .loc p3, .loc p4]) (.lst [.lst (b.lk.map D.str), .lst (b.cd.map pSS), .lst (b.ct.map pSI), .lst (b.ce.map pSI)]) μ2) Q E = Q false μ2 := fun Q E => by
    rw [w_ne_rs rfl hrs (rsv_nice μ2 8 _ hn) (fits_nice hn (by decide)) (fits_nice hn (by decide)), eqv_nice hn]; rfl
  refine wS_cut (fun δ μ' => δ = [some (.lst (b.lk.map D.str)), some (.lst (b.cd.map pSS)), some (.lst (b.ct.map pSI)), some (.lst (b.ce.map pSI)), some (.bl all_), x5, x6, some (.lst [.loc p1, .loc p2, .loc p3, .loc p4]), x8, none, none, none, none] ∧ μ' = μ2) ?_ ?_
  · subst e1
    simp_arith only [↓ne0]
  clear e1
  rintro δ1 _ ⟨e1, e0⟩
  replace e0 := e0.symm
  subst e0
  rcases hc with ⟨hE, A, rfl, rfl, hp⟩ | ⟨⟨r, hE⟩, rfl, rfl⟩
  rotate_left
  · subst e1
    simp_arith only [id_eq]
    exact hF
  have hdue : dueV b = .tup [.str "made", .lst (b.cd.map fun p => D.str p.2)] := by unfold dueV; rw [hE]
  have hnd : b.names.Nodup := by
    have hd0 : dupL [] b.names = none := by
      unfold bookE at hE
      split at hE
      · cases hE
      · rename_i z; exact z
    rcases dup_none b.names [] hd0 with h | h
    · simpa using h
    · exact absurd List.nodup_nil h
  have nd1 : (b.cd.map (·.1)).Nodup := hnd.sublist (by unfold BK.names; exact ((List.sublist_append_right _ _).trans (List.sublist_append_left _ _)).trans (List.sublist_append_left _ _))
  refine wS_cut (fun δ μ' => δ = [some (.lst (b.lk.map D.str)), some (.lst (b.cd.map pSS)), some (.lst (b.ct.map pSI)), some (.lst (b.ce.map pSI)), some (.bl all_), some (.loc A.a), some .non, some (.lst [.loc p1, .loc p2, .loc p3, .loc p4]), x8, none, none, none, none] ∧ μ' = μ2) (by subst e1; simp_arith only [id_eq]) ?_
  clear e1
  rintro δ1 _ ⟨e1, e0⟩
  replace e0 := e0.symm
  subst e0
  refine wS_cut (fun δ μ' => ∃ x9, δ = [some (.lst (b.lk.map D.str)), some (.lst (b.cd.map pSS)), some (.lst (b.ct.map pSI)), some (.lst (b.ce.map pSI)), some (.bl all_), some (.loc A.a), some .non, some (.lst [.loc p1, .loc p2, .loc p3, .loc p4]), x8, x9, none, none, none] ∧ PB c μ' A b ∧ Fr [] μ μ') ?_ ?_
  · subst e1
    simp_arith only [id_eq]
    refine w_loopM (f := D.loc) (fun rest δ μ' => ∃ x9, δ = [some (.lst (b.lk.map D.str)), some (.lst (b.cd.map pSS)), some (.lst (b.ct.map pSI)), some (.lst (b.ce.map pSI)), some (.bl all_), some (.loc A.a), some .non, some (.lst [.loc p1, .loc p2, .loc p3, .loc p4]), x8, x9, none, none, none] ∧ rest.Nodup ∧ (∀ k ∈ rest, μ.cells.length ≤ k ∧ ∃ ds, μ'.cells[k]? = some (.lst ds) ∧ ds.length ≤ 1000) ∧ PB c μ' A b ∧ Fr [] μ μ') (fun _ _ _ _ => rfl) ?_ ?_ [p1, p2, p3, p4] _ _ ⟨none, rfl, ?_, ?_, hp, hF⟩
    · rintro k rest δ ν ⟨x9, rfl, hnr, hk, hpν, fν⟩
      obtain ⟨hk1, ds, hds, hdl⟩ := hk k List.mem_cons_self
      have gk : ∀ j ∈ [k], j < μ.cells.length → j ∈ ([] : List Nat) := fun j hj hlt => by rw [List.mem_singleton.mp hj] at hlt; omega
      have hka : ∀ j ∈ A.foot, j ∉ [k] := fun j hj hm => by
        rw [List.mem_singleton.mp hm] at hj
        simp only [PA.foot, List.mem_cons, List.not_mem_nil, or_false] at hj
        rcases hj with hj | hj | hj | hj
        · rw [hj, hpν.h0] at hds; cases hds
        · rw [hj, hpν.h1] at hds; cases hds
        · rw [hj, hpν.h2] at hds; cases hds
        · rw [hj, hpν.h3] at hds; cases hds
      have hs1 : (ν.set k (.lst (ds ++ [D.tup [.str ("zzzzzzzz" : Str), .str ("zzzzzzzz" : Str)]]))).cells[k]? = some (.lst (ds ++ [D.tup [.str ("zzzzzzzz" : Str), .str ("zzzzzzzz" : Str)]])) := at_set (at_lt hds)
      simp only [wG_set0, wG_setS]
      simp_arith only [tyL_of hds, ↓wC_of hds, tyL_of hs1, ↓w_reverseK hs1]
      refine ⟨by omega, _, rfl, (List.nodup_cons.mp hnr).2, fun j hj => ?_, ?_, ?_⟩
      · obtain ⟨hj1, es, hes, hel⟩ := hk j (List.mem_cons_of_mem _ hj)
        have hjk : j ≠ k := fun e => (List.nodup_cons.mp hnr).1 (by rw [← e]; exact hj)
        exact ⟨hj1, es, by rw [at_setn hjk, at_setn hjk]; exact hes, hel⟩
      · exact (hpν.fr (Fr.set1 _ k _) hka).fr (Fr.set1 _ k _) hka
      · exact (fν.trans (Fr.set1 _ k _) gk).trans (Fr.set1 _ k _) gk
    · rintro δ ν ⟨x9, rfl, _, _, hpν, fν⟩
      exact ⟨_, rfl, hpν, fν⟩
    · have : p1 < p3 := by omega
      have : p1 < p4 := by omega
      have : p2 < p4 := by omega
      simp only [List.nodup_cons, List.mem_cons, List.not_mem_nil, or_false, not_or, not_false_eq_true, List.nodup_nil, and_true]
      omega
    · intro k hk
      simp only [List.mem_cons, List.not_mem_nil, or_false] at hk
      obtain ⟨l1, l2, l3, l4⟩ := hl
      rcases hk with rfl | rfl | rfl | rfl
      · exact ⟨by omega, _, g4.h1, by simpa using l1⟩
      · exact ⟨by omega, _, g4.h2, by simpa using l2⟩
      · exact ⟨by omega, _, g4.h3, by simpa using l3⟩
      · exact ⟨by omega, _, g4.h4, by simpa using l4⟩
  clear e1
  rintro δ1 μ3 ⟨x9, e1, hp3, f3⟩
  have hlo := hm_lock_of (.lst (b.lk.map D.str)) (.loc A.m1) (.loc A.m2) (.loc A.m3)
  have hget : ∀ p ∈ b.cd, aget b.cd p.1 = some p.2 := fun p hp => aget_mem nd1 hp
  refine wS_cut (fun δ μ' => δ = [some (.lst (b.lk.map D.str)), some (.lst (b.cd.map pSS)), some (.lst (b.ct.map pSI)), some (.lst (b.ce.map pSI)), some (.bl all_), some (.loc A.a), some .non, some (.lst [.loc p1, .loc p2, .loc p3, .loc p4]), x8, x9, some (.lst (b.cd.map fun p => D.str p.2)), none, none] ∧ μ' = μ3) ?_ ?_
  · subst e1
    simp_arith only [List.length_map]
    refine ⟨by omega, ?_⟩
    refine w_compMap (f := pSS) (fun p : Str × Str => D.str p.2) rfl (fun p hpm => ?_) ?_
    · simp_arith only [pSS, ↓wC_of hp3.h0, ↓qMc_ins hlo, look1]
      refine (lock_of_ok hp3 (hget p hpm)).go ?_
      rintro _ _ ⟨rfl, rfl⟩
      simp_arith only [id_eq]
    simp_arith only [id_eq]
  clear e1
  rintro δ1 _ ⟨e1, e0⟩
  replace e0 := e0.symm
  subst e0
  have hrev : ∀ (Q : Its0 → Mem → Prop) (E : Doz.EP), wR (fRev (.lst (b.cd.map pSS)) μ3) Q E = Q (b.cd.reverse.map pSS, fun _ => true) μ3 := fun Q E => by
    rw [List.map_reverse]; rfl
  refine wS_cut (fun δ μ' => δ = [some (.lst (b.lk.map D.str)), some (.lst (b.cd.map pSS)), some (.lst (b.ct.map pSI)), some (.lst (b.ce.map pSI)), some (.bl all_), some (.loc A.a), some .non, some (.lst [.loc p1, .loc p2, .loc p3, .loc p4]), x8, x9, some (.lst (b.cd.map fun p => D.str p.2)), some (.lst (b.cd.reverse.map fun p => D.str p.2)), none] ∧ μ' = μ3) ?_ ?_
  · subst e1
    simp_arith only [↓hrev, List.length_map, List.length_reverse]
    refine ⟨by omega, ?_⟩
    refine w_compMap (f := pSS) (fun p : Str × Str => D.str p.2) rfl (fun p hpm => ?_) ?_
    · simp_arith only [pSS, ↓wC_of hp3.h0, ↓qMc_ins hlo, look1]
      refine (lock_of_ok hp3 (hget p (List.mem_reverse.mp hpm))).go ?_
      rintro _ _ ⟨rfl, rfl⟩
      simp_arith only [id_eq]
    simp_arith only [id_eq]
  clear e1
  rintro δ1 _ ⟨e1, e0⟩
  replace e0 := e0.symm
  subst e0
  have hnl : nice 8 (.lst (b.cd.map fun p => D.str p.2)) = true := List.all_eq_true.mpr fun d hd => by
    obtain ⟨p, hp, rfl⟩ := List.mem_map.mp hd
    exact (ht.t2 p hp).2
  have hlo2 : ∀ Q : List D → Prop, qO (lstOf μ3 (.lst (b.cd.reverse.map fun p => D.str p.2))) Q = Q (b.cd.reverse.map fun p => D.str p.2) := fun Q => rfl
  have hrr : (b.cd.reverse.map fun p => D.str p.2).reverse = b.cd.map fun p => D.str p.2 := by rw [← List.map_reverse, List.reverse_reverse]
  subst e1
  simp_arith only [↓hlo2, hrr, ↓w_ne_nice hnl hnl, eqv_nice hnl]
  exact ⟨hdue.symm, f3⟩
end
end K62
end
section
namespace K62
open PySem L2 Doz DozK
theorem at_txt {ws : List Str} {i : Int} (h0 : 0 ≤ i) (h1 : i < ws.length) (hw : ∀ w ∈ ws, PyData.strOk w = true) : ∃ w, PyData.strOk w = true ∧ atI (ws.map D.str) i = some (.str w) := by
  obtain ⟨w, hm, e⟩ := at_strs h0 h1
  exact ⟨w, hw w hm, e⟩
section
variable {c : Cl} {μ : Mem} {n : Nat} {B : Int}
theorem spoilt_ok {b : BK} (hb : b.Ok) (h : SrcAt μ n B) (hB0 : 0 ≤ B) (hB : B < 100000) : wR (m_x__law_spoilt c [.loc n, b.d] μ) (fun v μ' => ∃ b2 : BK, v = b2.d ∧ TxtB b2 ∧ (b2.lk.length ≤ 1000 ∧ b2.cd.length ≤ 1000 ∧ b2.ct.length ≤ 1000 ∧ b2.ce.length ≤ 1000) ∧ b2.ce ≠ [] ∧ Fr [n] μ μ') noE := by
  have l1 := hb.lk
  have l2 := hb.cd
  have l3 := hb.ct
  have l4 := hb.ce
  have hwd : ∀ w ∈ b.names, PyData.strOk w = true := fun w hw => (hb.word w hw).ok
  have hlen : b.names.length = b.lk.length + b.cd.length + b.ct.length + b.ce.length := by simp [BK.names]; omega
  have lp : (pairsB b).length = b.cd.length + b.ct.length + b.ce.length := by simp [pairsB, Nat.add_assoc]
  unfold m_x__law_spoilt
  rw [w_run]
  show wS (t_x__law_spoilt c) [some (.loc n), some b.d, none, none, none, none, none, none, none, none, none, none, none, none, none, none, none, none, none] μ _
  unfold t_x__law_spoilt
  generalize hδ : ([some (.loc n), some b.d, none, none, none, none, none, none, none, none, none, none, none, none, none, none, none, none, none] : DEnv) = δ0
  refine wS_cut (fun δ μ' => ∃ sp : Int, 0 ≤ sp ∧ sp < 9 ∧ δ = [some (.loc n), some b.d, some (.int sp), none, none, none, none, none, none, none, none, none, none, none, none, none, none, none, none] ∧ SrcAt μ' n (B + 1) ∧ Fr [n] μ μ') ?_ ?_
  · subst hδ
    simp_arith only [id_eq]
    refine (draw_ok h (by omega) (by omega) (by omega)).go ?_
    rintro _ μ1 ⟨d, rfl, d0, d1, s1, f1⟩
    simp_arith only [id_eq]
    exact ⟨d, d0, d1, rfl, s1, f1⟩
  clear hδ
  rintro δ1 μ1 ⟨sp, h0, h9, e1, s1, f1⟩
  refine wS_cut (fun δ μ' => δ = [some (.loc n), some b.d, some (.int sp), none, none, none, none, none, none, some (.lst (b.cd.map pSS)), none, some (.lst (b.ct.map pSI)), some (.lst (b.ce.map pSI)), some (.lst (b.lk.map D.str)), none, none, none, none, none] ∧ μ' = μ1) ?_ ?_
  · subst e1
    simp_arith only [BK.d]
  clear e1
  rintro δ1 _ ⟨e1, e0⟩
  replace e0 := e0.symm
  subst e0
  refine wS_cut (fun δ μ' => δ = [some (.loc n), some b.d, some (.int sp), some (.lst (b.names.map D.str)), none, none, none, none, none, some (.lst (b.cd.map pSS)), none, some (.lst (b.ct.map pSI)), some (.lst (b.ce.map pSI)), some (.lst (b.lk.map D.str)), none, none, none, none, none] ∧ μ' = μ1) ?_ ?_
  · subst e1
    simp_arith only [List.length_map]
    refine ⟨by omega, by simp; omega, by simp; omega, ?_⟩
    rw [pairs_eq]
    refine w_compMap (f := pD) (fun p : Str × D => D.str p.1) rfl (fun p _ => ?_) ?_
    · simp_arith only [pD]
    simp_arith only [List.length_map]
    have en : b.lk.map D.str ++ (pairsB b).map (fun p => D.str p.1) = b.names.map D.str := by
      rw [names_eq, List.map_append, List.map_map]; rfl
    rw [en]
    exact ⟨by omega, rfl⟩
  clear e1
  rintro δ1 _ ⟨e1, e0⟩
  replace e0 := e0.symm
  subst e0
  refine wS_cut (fun δ μ' => δ = [some (.loc n), some b.d, some (.int sp), some (.lst (b.names.map D.str)), some (.int (b.names.length : Nat)), none, none, none, none, some (.lst (b.cd.map pSS)), none, some (.lst (b.ct.map pSI)), some (.lst (b.ce.map pSI)), some (.lst (b.lk.map D.str)), none, none, none, none, none] ∧ μ' = μ1) ?_ ?_
  · subst e1
    simp_arith only [List.length_map]
  clear e1
  rintro δ1 _ ⟨e1, e0⟩
  replace e0 := e0.symm
  subst e0
  refine wS_cut (fun δ μ' => ∃ ev : List Str, ev.length = b.names.length + 1 ∧ (∀ w ∈ ev, PyData.strOk w = true) ∧ δ = [some (.loc n), some b.d, some (.int sp), some (.lst (b.names.map D.str)), some (.int (b.names.length : Nat)), some (.lst (ev.map D.str)), none, none, none, some (.lst (b.cd.map pSS)), none, some (.lst (b.ct.map pSI)), some (.lst (b.ce.map pSI)), some (.lst (b.lk.map D.str)), none, none, none, none, none] ∧ μ' = μ1) ?_ ?_
  · subst e1
    simp_arith only [List.length_map]
    refine ⟨by omega, b.names ++ [("zzzzzzzz" : Str)], by simp, fun w hw => ?_, by simp⟩
    rcases List.mem_append.mp hw with hw | hw
    · exact hwd w hw
    · rw [List.mem_singleton.mp hw]; decide +kernel
  clear e1
  rintro δ1 _ ⟨ev, hel, hev, e1, e0⟩
  replace e0 := e0.symm
  subst e0
  refine wS_cut (fun δ μ' => ∃ (ws : List Str) (x6 x14 x15 : Option D), ws.length = b.names.length ∧ (∀ w ∈ ws, PyData.strOk w = true) ∧ δ = [some (.loc n), some b.d, some (.int sp), some (.lst (ws.map D.str)), some (.int (b.names.length : Nat)), some (.lst (ev.map D.str)), x6, none, none, some (.lst (b.cd.map pSS)), none, some (.lst (b.ct.map pSI)), some (.lst (b.ce.map pSI)), some (.lst (b.lk.map D.str)), x14, x15, none, none, none] ∧ SrcAt μ' n (B + 50) ∧ Fr [n] μ μ') ?_ ?_
  · have m0 : 0 ≤ sp % 3 := Int.emod_nonneg _ (by omega)
    have m1 : sp % 3 < 3 := Int.emod_lt_of_pos _ (by omega)
    obtain ⟨q, eq⟩ := Int.eq_ofNat_of_zero_le m0
    subst e1
    simp_arith only [eq]
    refine ⟨by omega, ?_⟩
    refine w_range (lo := 0) (n := q) (fun i δ μ' => ∃ (ws : List Str) (x6 x14 x15 : Option D), ws.length = b.names.length ∧ (∀ w ∈ ws, PyData.strOk w = true) ∧ δ = [some (.loc n), some b.d, some (.int sp), some (.lst (ws.map D.str)), some (.int (b.names.length : Nat)), some (.lst (ev.map D.str)), x6, none, none, some (.lst (b.cd.map pSS)), none, some (.lst (b.ct.map pSI)), some (.lst (b.ce.map pSI)), some (.lst (b.lk.map D.str)), x14, x15, none, none, none] ∧ SrcAt μ' n (B + 1 + 2 * (i : Nat)) ∧ Fr [n] μ μ') _ _ ⟨b.names, none, none, none, rfl, hwd, rfl, s1.mono (by omega), f1⟩ ?_ ?_
    · rintro i δ ν hi ⟨ws, x6, x14, x15, hwl, hws, rfl, sν, fν⟩
      simp only [wG_set0, wG_setS]
      simp_arith only [id_eq]
      refine (draw_ok sν (by omega) (by omega) (by omega)).go ?_
      rintro _ ν1 ⟨d, rfl, d0, d1, sa, fa⟩
      simp_arith only [id_eq]
      refine (draw_ok sa (by omega) (by omega) (by omega)).go ?_
      rintro _ ν2 ⟨o, rfl, o0, o1, sb, fb⟩
      obtain ⟨w, hw, ew⟩ := at_txt (ws := ws) o0 (by omega) hws
      simp_arith only [↓qO_of ew, cutD_map, cutD_to _ d0, cutD_from _ (show 0 ≤ d + 1 by omega), List.length_map]
      refine ⟨by simp; omega, by simp; omega, ws.take d.toNat ++ [w] ++ ws.drop (d + 1).toNat, some (.int (0 + (i : Nat))), some (.int d), some (.int o), by simp; omega, fun x hx => ?_, by simp, sb.mono (by omega), (fν.trans fa).trans fb⟩
      simp only [List.mem_append, List.mem_singleton] at hx
      rcases hx with (hx | hx) | hx
      · exact hws x (List.mem_of_mem_take hx)
      · rw [hx]; exact hw
      · exact hws x (List.mem_of_mem_drop hx)
    · rintro δ ν ⟨ws, x6, x14, x15, hwl, hws, rfl, sν, fν⟩
      exact ⟨ws, _, _, _, hwl, hws, rfl, sν.mono (by omega), fν⟩
  clear e1
  rintro δ1 μ2 ⟨ws, x6, x14, x15, hwl, hws, e1, s2, f2⟩
  refine wS_cut (fun δ μ' => δ = [some (.loc n), some b.d, some (.int sp), some (.lst (ws.map D.str)), some (.int (b.names.length : Nat)), some (.lst (ev.map D.str)), x6, some (.int (b.lk.length : Nat)), none, some (.lst (b.cd.map pSS)), none, some (.lst (b.ct.map pSI)), some (.lst (b.ce.map pSI)), some (.lst (b.lk.map D.str)), x14, x15, none, none, none] ∧ μ' = μ2) ?_ ?_
  · subst e1
    simp_arith only [List.length_map]
  clear e1
  rintro δ1 _ ⟨e1, e0⟩
  replace e0 := e0.symm
  subst e0
  refine wS_cut (fun δ μ' => ∃ td : List Str, td.length = b.cd.length ∧ (∀ w ∈ td, PyData.strOk w = true) ∧ δ = [some (.loc n), some b.d, some (.int sp), some (.lst (ws.map D.str)), some (.int (b.names.length : Nat)), some (.lst (ev.map D.str)), x6, some (.int (b.lk.length : Nat)), some (.lst (td.map D.str)), some (.lst (b.cd.map pSS)), none, some (.lst (b.ct.map pSI)), some (.lst (b.ce.map pSI)), some (.lst (b.lk.map D.str)), x14, x15, none, none, none] ∧ μ' = μ2) ?_ ?_
  · subst e1
    simp_arith only [List.length_map]
    refine ⟨by omega, ?_⟩
    refine w_compMap (f := pSS) (fun p : Str × Str => D.str p.2) rfl (fun p _ => ?_) ?_
    · simp_arith only [pSS]
    refine ⟨b.cd.map (·.2), by simp, fun w hw => ?_, by rw [List.map_map]; rfl, rfl⟩
    obtain ⟨p, hp, rfl⟩ := List.mem_map.mp hw
    exact (hb.word _ (by unfold BK.names; simp [hb.lock p hp])).ok
  clear e1
  rintro δ1 _ ⟨td0, htl0, htd0, e1, e0⟩
  replace e0 := e0.symm
  subst e0
  refine wS_cut (fun δ μ' => ∃ (td : List Str) (x6 x14 x16 : Option D), td.length = b.cd.length ∧ (∀ w ∈ td, PyData.strOk w = true) ∧ δ = [some (.loc n), some b.d, some (.int sp), some (.lst (ws.map D.str)), some (.int (b.names.length : Nat)), some (.lst (ev.map D.str)), x6, some (.int (b.lk.length : Nat)), some (.lst (td.map D.str)), some (.lst (b.cd.map pSS)), none, some (.lst (b.ct.map pSI)), some (.lst (b.ce.map pSI)), some (.lst (b.lk.map D.str)), x14, x15, x16, none, none] ∧ Fr [n] μ μ') ?_ ?_
  · have m0 : 0 ≤ sp / 3 := Int.ediv_nonneg h0 (by omega)
    have m1 : sp / 3 < 3 := by omega
    obtain ⟨q, eq⟩ := Int.eq_ofNat_of_zero_le m0
    subst e1
    simp_arith only [eq]
    refine ⟨divOk (by omega) (by omega), by omega, ?_⟩
    refine w_range (lo := 0) (n := q) (fun i δ μ' => ∃ (td : List Str) (x6 x14 x16 : Option D), td.length = b.cd.length ∧ (∀ w ∈ td, PyData.strOk w = true) ∧ δ = [some (.loc n), some b.d, some (.int sp), some (.lst (ws.map D.str)), some (.int (b.names.length : Nat)), some (.lst (ev.map D.str)), x6, some (.int (b.lk.length : Nat)), some (.lst (td.map D.str)), some (.lst (b.cd.map pSS)), none, some (.lst (b.ct.map pSI)), some (.lst (b.ce.map pSI)), some (.lst (b.lk.map D.str)), x14, x15, x16, none, none] ∧ SrcAt μ' n (B + 50 + 2 * (i : Nat)) ∧ Fr [n] μ μ') _ _ ⟨td0, _, _, _, htl0, htd0, rfl, s2.mono (by omega), f2⟩ ?_ ?_
    · rintro i δ ν hi ⟨td, x6, x14, x16, htl, htd, rfl, sν, fν⟩
      simp only [wG_set0, wG_setS]
      simp_arith only [id_eq]
      refine (draw_ok sν (by omega) (by omega) (by omega)).go ?_
      rintro _ ν1 ⟨d, rfl, d0, d1, sa, fa⟩
      simp_arith only [id_eq]
      refine (draw_ok sa (by omega) (by omega) (by omega)).go ?_
      rintro _ ν2 ⟨o, rfl, o0, o1, sb, fb⟩
      obtain ⟨w, hw, ew⟩ := at_txt (ws := ev) o0 (by omega) hev
      simp_arith only [↓qO_of ew, List.length_map]
      refine ⟨by omega, by simp [rngItems]; omega, ?_⟩
      rw [Int.toNat_natCast]
      refine w_compR (lo := 0) (n := td.length) (fun j ys μ' => ∃ zs : List Str, zs.length = j ∧ (∀ w ∈ zs, PyData.strOk w = true) ∧ ys = zs.map D.str ∧ μ' = ν2) ⟨[], rfl, (fun _ h => by cases h), rfl, rfl⟩ ?_ ?_
      · rintro j ys ν3 hj ⟨zs, hzl, hzs, rfl, rfl⟩
        obtain ⟨x, hx, ex⟩ := at_txt (ws := td) (i := 0 + (j : Nat)) (by omega) (by omega) htd
        simp only [wG_set0, wG_setS]
        by_cases hjd : (0 + (j : Int)) = d
        · have e5 : ((0 + (j : Int)) == d) = true := by simpa using hjd
          simp_arith only [↓qO_of ex, e5]
          refine ⟨zs ++ [w], by simp; omega, fun y hy => ?_, by simp⟩
          rcases List.mem_append.mp hy with hy | hy
          · exact hzs y hy
          · rw [List.mem_singleton.mp hy]; exact hw
        · have e5 : ((0 + (j : Int)) == d) = false := by simpa using hjd
          simp_arith only [↓qO_of ex, e5]
          refine ⟨zs ++ [x], by simp; omega, fun y hy => ?_, by simp⟩
          rcases List.mem_append.mp hy with hy | hy
          · exact hzs y hy
          · rw [List.mem_singleton.mp hy]; exact hx
      · rintro ys ν3 ⟨zs, hzl, hzs, rfl, rfl⟩
        simp_arith only [id_eq]
        exact ⟨zs, _, _, _, by omega, hzs, rfl, sb.mono (by omega), (fν.trans fa).trans fb⟩
    · rintro δ ν ⟨td, x6, x14, x16, htl, htd, rfl, sν, fν⟩
      exact ⟨td, _, _, _, htl, htd, rfl, fν⟩
  clear e1 x6 x14 td0 htl0 htd0
  rintro δ1 μ3 ⟨td, x6, x14, x16, htl, htd, e1, f3⟩
  -- the three lists
  refine wS_cut (fun δ μ' => ∃ (cd2 : List (Str × Str)), cd2.length = b.cd.length ∧ (∀ p ∈ cd2, PyData.strOk p.1 = true ∧ PyData.strOk p.2 = true) ∧ δ = [some (.loc n), some b.d, some (.int sp), some (.lst (ws.map D.str)), some (.int (b.names.length : Nat)), some (.lst (ev.map D.str)), x6, some (.int (b.lk.length : Nat)), some (.lst (td.map D.str)), some (.lst (cd2.map pSS)), none, some (.lst (b.ct.map pSI)), some (.lst (b.ce.map pSI)), some (.lst (b.lk.map D.str)), x14, x15, x16, none, none] ∧ μ' = μ3) ?_ ?_
  · subst e1
    simp_arith only [List.length_map]
    refine ⟨by omega, by simp [rngItems]; omega, ?_⟩
    rw [Int.toNat_natCast]
    refine w_compR (lo := 0) (n := b.cd.length) (fun j ys μ' => ∃ zs : List (Str × Str), zs.length = j ∧ (∀ p ∈ zs, PyData.strOk p.1 = true ∧ PyData.strOk p.2 = true) ∧ ys = zs.map pSS ∧ μ' = μ3) ⟨[], rfl, (fun _ h => by cases h), rfl, rfl⟩ ?_ ?_
    · rintro j ys ν3 hj ⟨zs, hzl, hzs, rfl, rfl⟩
      obtain ⟨x, hx, ex⟩ := at_txt (ws := ws) (i := (b.lk.length : Nat) + (0 + (j : Int))) (by omega) (by omega) hws
      obtain ⟨y, hy, ey⟩ := at_txt (ws := td) (i := 0 + (j : Int)) (by omega) (by omega) htd
      simp only [wG_set0, wG_setS]
      simp_arith only [↓qO_of ex, ↓qO_of ey]
      refine ⟨zs ++ [(x, y)], by simp; omega, fun p hp => ?_, by simp [pSS]⟩
      rcases List.mem_append.mp hp with hp | hp
      · exact hzs p hp
      · rw [List.mem_singleton.mp hp]; exact ⟨hx, hy⟩
    · rintro ys ν3 ⟨zs, hzl, hzs, rfl, rfl⟩
      exact ⟨zs, hzl, hzs, rfl, rfl⟩
  clear e1
  rintro δ1 _ ⟨cd2, hc2, hct, e1, e0⟩
  replace e0 := e0.symm
  subst e0
  refine wS_cut (fun δ μ' => δ = [some (.loc n), some b.d, some (.int sp), some (.lst (ws.map D.str)), some (.int (b.names.length : Nat)), some (.lst (ev.map D.str)), x6, some (.int (b.lk.length : Nat)), some (.lst (td.map D.str)), some (.lst (cd2.map pSS)), some (.int ((b.lk.length : Nat) + (cd2.length : Nat))), some (.lst (b.ct.map pSI)), some (.lst (b.ce.map pSI)), some (.lst (b.lk.map D.str)), x14, x15, x16, none, none] ∧ μ' = μ3) ?_ ?_
  · subst e1
    simp_arith only [List.length_map]
  clear e1
  rintro δ1 _ ⟨e1, e0⟩
  replace e0 := e0.symm
  subst e0
  refine wS_cut (fun δ μ' => ∃ ct2 : List (Str × Int), ct2.length = b.ct.length ∧ (∀ p ∈ ct2, PyData.strOk p.1 = true) ∧ δ = [some (.loc n), some b.d, some (.int sp), some (.lst (ws.map D.str)), some (.int (b.names.length : Nat)), some (.lst (ev.map D.str)), x6, some (.int (b.lk.length : Nat)), some (.lst (td.map D.str)), some (.lst (cd2.map pSS)), some (.int ((b.lk.length : Nat) + (cd2.length : Nat))), some (.lst (ct2.map pSI)), some (.lst (b.ce.map pSI)), some (.lst (b.lk.map D.str)), x14, x15, x16, none, none] ∧ μ' = μ3) ?_ ?_
  · subst e1
    simp_arith only [List.length_map]
    refine ⟨by omega, by simp [rngItems]; omega, ?_⟩
    rw [Int.toNat_natCast]
    refine w_compR (lo := 0) (n := b.ct.length) (fun j ys μ' => ∃ zs : List (Str × Int), zs.length = j ∧ (∀ p ∈ zs, PyData.strOk p.1 = true) ∧ ys = zs.map pSI ∧ μ' = μ3) ⟨[], rfl, (fun _ h => by cases h), rfl, rfl⟩ ?_ ?_
    · rintro j ys ν3 hj ⟨zs, hzl, hzs, rfl, rfl⟩
      obtain ⟨x, hx, ex⟩ := at_txt (ws := ws) (i := (b.lk.length : Nat) + (cd2.length : Nat) + (0 + (j : Int))) (by omega) (by omega) hws
      obtain ⟨y, hy, ey⟩ := at_maps pSI (xs := b.ct) (i := 0 + (j : Int)) (by omega) (by omega)
      simp only [wG_set0, wG_setS]
      simp_arith only [↓qO_of ex, ↓qO_of ey, pSI]
      refine ⟨zs ++ [(x, y.2)], by simp; omega, fun p hp => ?_, by simp [pSI]⟩
      rcases List.mem_append.mp hp with hp | hp
      · exact hzs p hp
      · rw [List.mem_singleton.mp hp]; exact hx
    · rintro ys ν3 ⟨zs, hzl, hzs, rfl, rfl⟩
      exact ⟨zs, hzl, hzs, rfl, rfl⟩
  clear e1
  rintro δ1 _ ⟨ct2, hk2, hkt, e1, e0⟩
  replace e0 := e0.symm
  subst e0
  refine wS_cut (fun δ μ' => δ = [some (.loc n), some b.d, some (.int sp), some (.lst (ws.map D.str)), some (.int (b.names.length : Nat)), some (.lst (ev.map D.str)), x6, some (.int (b.lk.length : Nat)), some (.lst (td.map D.str)), some (.lst (cd2.map pSS)), some (.int ((b.lk.length : Nat) + (cd2.length : Nat) + (ct2.length : Nat))), some (.lst (ct2.map pSI)), some (.lst (b.ce.map pSI)), some (.lst (b.lk.map D.str)), x14, x15, x16, none, none] ∧ μ' = μ3) ?_ ?_
  · subst e1
    simp_arith only [List.length_map]
  clear e1
  rintro δ1 _ ⟨e1, e0⟩
  replace e0 := e0.symm
  subst e0
  refine wS_cut (fun δ μ' => ∃ ce2 : List (Str × Int), ce2.length = b.ce.length ∧ (∀ p ∈ ce2, PyData.strOk p.1 = true) ∧ δ = [some (.loc n), some b.d, some (.int sp), some (.lst (ws.map D.str)), some (.int (b.names.length : Nat)), some (.lst (ev.map D.str)), x6, some (.int (b.lk.length : Nat)), some (.lst (td.map D.str)), some (.lst (cd2.map pSS)), some (.int ((b.lk.length : Nat) + (cd2.length : Nat) + (ct2.length : Nat))), some (.lst (ct2.map pSI)), some (.lst (ce2.map pSI)), some (.lst (b.lk.map D.str)), x14, x15, x16, none, none] ∧ μ' = μ3) ?_ ?_
  · subst e1
    simp_arith only [List.length_map]
    refine ⟨by omega, by simp [rngItems]; omega, ?_⟩
    rw [Int.toNat_natCast]
    refine w_compR (lo := 0) (n := b.ce.length) (fun j ys μ' => ∃ zs : List (Str × Int), zs.length = j ∧ (∀ p ∈ zs, PyData.strOk p.1 = true) ∧ ys = zs.map pSI ∧ μ' = μ3) ⟨[], rfl, (fun _ h => by cases h), rfl, rfl⟩ ?_ ?_
    · rintro j ys ν3 hj ⟨zs, hzl, hzs, rfl, rfl⟩
      obtain ⟨x, hx, ex⟩ := at_txt (ws := ws) (i := (b.lk.length : Nat) + (cd2.length : Nat) + (ct2.length : Nat) + (0 + (j : Int))) (by omega) (by omega) hws
      obtain ⟨y, hy, ey⟩ := at_maps pSI (xs := b.ce) (i := 0 + (j : Int)) (by omega) (by omega)
      simp only [wG_set0, wG_setS]
      simp_arith only [↓qO_of ex, ↓qO_of ey, pSI]
      refine ⟨zs ++ [(x, y.2)], by simp; omega, fun p hp => ?_, by simp [pSI]⟩
      rcases List.mem_append.mp hp with hp | hp
      · exact hzs p hp
      · rw [List.mem_singleton.mp hp]; exact hx
    · rintro ys ν3 ⟨zs, hzl, hzs, rfl, rfl⟩
      exact ⟨zs, hzl, hzs, rfl, rfl⟩
  clear e1
  rintro δ1 _ ⟨ce2, hm2, hmt, e1, e0⟩
  replace e0 := e0.symm
  subst e0
  subst e1
  simp_arith only [cutD_to _ (Int.natCast_nonneg b.lk.length), Int.toNat_natCast]
  refine ⟨⟨ws.take b.lk.length, cd2, ct2, ce2⟩, by simp only [BK.d, List.map_take], ⟨fun w hw => hws w (List.mem_of_mem_take hw), hct, fun p hp => ?_⟩, ⟨by simp; omega, by simp; omega, by simp; omega, by simp; omega⟩, fun z => by simp only at z; rw [z] at hm2; simp at hm2; omega, f3⟩
  rcases List.mem_append.mp hp with hp | hp
  · exact hkt p hp
  · exact hmt p hp
end
end K62
end
section
namespace K62
open PySem L2 Doz DozK
theorem dup_mem : ∀ (xs seen : List Str) {n : Str}, dupL seen xs = some n → n ∈ xs
  | [], _, _, h => by cases h
  | x :: xs, seen, n, h => by
    unfold dupL at h
    split at h
    · injection h with h; rw [← h]; exact List.mem_cons_self
    · exact List.mem_cons_of_mem _ (dup_mem xs _ h)
theorem TxtB.names {b : BK} (h : TxtB b) : ∀ w ∈ b.names, PyData.strOk w = true := fun w hw => by
  unfold BK.names at hw
  simp only [List.mem_append, List.mem_map] at hw
  rcases hw with ((hw | ⟨p, hp, rfl⟩) | ⟨p, hp, rfl⟩) | ⟨p, hp, rfl⟩
  · exact h.t1 w hw
  · exact (h.t2 p hp).1
  · exact h.t3 p (List.mem_append_left _ hp)
  · exact h.t3 p (List.mem_append_right _ hp)
theorem made_ok : PyData.strOk ("made" : Str) = true := by decide +kernel
theorem two_ok : PyData.strOk ("two" : Str) = true := by decide +kernel
theorem none_ok : PyData.strOk ("none" : Str) = true := by decide +kernel
theorem due_nice {b : BK} (h : TxtB b) : nice 8 (dueV b) = true := by
  unfold dueV bookE
  split
  · rename_i n e
    split at e
    · rename_i m hd
      injection e with e
      injection e with _ e
      have := h.names _ (dup_mem _ _ hd)
      rw [← e]
      simp [nice, this, two_ok]
    · split at e
      · injection e with e; injection e with e _; cases e
      · cases e
  · rename_i n e
    split at e
    · injection e with e; injection e with e _; cases e
    · split at e
      · rename_i p hf
        injection e with e
        injection e with _ e
        have := (h.t2 p (List.mem_of_find?_eq_some hf)).2
        rw [← e]
        simp [nice, this, none_ok]
      · cases e
  · have : ∀ d ∈ (b.cd.map fun p => D.str p.2), nice 6 d = true := fun d hd => by
      obtain ⟨p, hp, rfl⟩ := List.mem_map.mp hd
      exact (h.t2 p hp).2
    have h2 := List.all_eq_true.mpr this
    simp only [nice, List.all_cons, List.all_nil, Bool.and_true, Bool.and_eq_true]
    exact ⟨made_ok, h2⟩
section
theorem law_ok (c : Cl) (hcc : c.n_TwoNames ≠ c.n_NoName) (ns : List Int) (hn : ns.length ≤ 63) : wR (m_n_law c [.lst (ns.map D.int)] { cells := [] }) (fun v _ => v = .bl true) noE := by
  unfold m_n_law
  rw [w_run]
  show wS (t_n_law c) [some (.lst (ns.map D.int)), none, none, none, none, none] { cells := [] } _
  unfold t_n_law
  generalize hδ : ([some (.lst (ns.map D.int)), none, none, none, none, none] : DEnv) = δ0
  refine wS_cut (fun δ μ' => ∃ b : BK, TxtB b ∧ (b.lk.length ≤ 1000 ∧ b.cd.length ≤ 1000 ∧ b.ct.length ≤ 1000 ∧ b.ce.length ≤ 1000) ∧ b.ce ≠ [] ∧ δ = [some (.lst (ns.map D.int)), none, some (.lst (b.lk.map D.str)), some (.lst (b.cd.map pSS)), some (.lst (b.ct.map pSI)), some (.lst (b.ce.map pSI))] ∧ μ'.lk = []) ?_ ?_
  · subst hδ
    simp_arith only [id_eq]
    refine (source_ok (c := c) (ns := ns) (k := 1) (μ := { cells := [] }) (by omega) (by omega) hn).go ?_
    rintro _ μ1 ⟨rfl, s1, f1⟩
    have k1 : μ1.lk = [] := f1.lk
    simp_arith only [id_eq]
    refine (source_ok (c := c) (ns := ns) (k := 0) (by omega) (by omega) hn).go ?_
    rintro _ μ2 ⟨rfl, s2, f2⟩
    have k2 : μ2.lk = [] := by rw [f2.lk]; exact k1
    simp_arith only [id_eq]
    refine (book_okW s2 (by omega) (by omega) k2).go ?_
    rintro _ μ3 ⟨b, rfl, hb, _, s3, f3⟩
    have k3 : μ3.lk = [] := by rw [f3.lk]; exact k2
    have hlt := s1.lt
    have sA := (s1.fr f2 (by simp)).fr f3 (by simp; omega)
    simp_arith only [id_eq]
    refine (spoilt_ok hb sA (by omega) (by omega)).go ?_
    rintro _ μ4 ⟨b2, rfl, ht, hl, hce, f4⟩
    simp_arith only [BK.d]
    exact ⟨b2, ht, hl, hce, rfl, by rw [f4.lk]; exact k3⟩
  clear hδ
  rintro δ1 μ1 ⟨b, ht, hl, hce, e1, k1⟩
  have hdn := due_nice ht
  refine wS_cut (fun δ μ' => δ = [some (.lst (ns.map D.int)), some (dueV b), some (.lst (b.lk.map D.str)), some (.lst (b.cd.map pSS)), some (.lst (b.ct.map pSI)), some (.lst (b.ce.map pSI))] ∧ μ'.lk = []) ?_ ?_
  · subst e1
    simp_arith only [id_eq]
    refine (due_ok hl).go ?_
    rintro _ μ2 ⟨rfl, f2⟩
    simp_arith only [id_eq]
    rw [f2.lk]; exact k1
  clear e1 k1
  rintro δ1 μ2 ⟨e1, k2⟩
  refine wS_cut (fun δ μ' => δ = [some (.lst (ns.map D.int)), some (dueV b), some (.lst (b.lk.map D.str)), some (.lst (b.cd.map pSS)), some (.lst (b.ct.map pSI)), some (.lst (b.ce.map pSI))] ∧ μ'.lk = []) ?_ ?_
  · subst e1
    simp_arith only [id_eq]
    refine (found_ok hcc ht (.inl rfl) hl k2).go ?_
    rintro _ μ3 ⟨rfl, f3⟩
    simp_arith only [↓w_ne_nice hdn hdn, eqv_nice hdn]
    rw [f3.lk]; exact k2
  clear e1 k2
  rintro δ1 μ3 ⟨e1, k3⟩
  refine wS_cut (fun δ μ' => δ = [some (.lst (ns.map D.int)), some (dueV b), some (.lst (b.lk.map D.str)), some (.lst (b.cd.map pSS)), some (.lst (b.ct.map pSI)), some (.lst (b.ce.map pSI))] ∧ μ'.lk = []) ?_ ?_
  · subst e1
    simp_arith only [id_eq]
    refine (kinds_ok hcc hl k3).go ?_
    rintro _ μ4 ⟨rfl, f4⟩
    have k4 : μ4.lk = [] := by rw [f4.lk]; exact k3
    have hkn : ∀ x y z : Bool, nice 8 (.lst [.bl x, .bl y, .bl z]) = true := fun x y z => rfl
    rcases hE : bookE b.lk b.cd b.names with _ | ⟨t, n⟩
    · have ed : dueV b = .tup [.str "made", .lst (b.cd.map fun p => D.str p.2)] := by unfold dueV; rw [hE]
      have ek : kindsV b = .lst [.bl false, .bl false, .bl false] := by unfold kindsV; rw [hE]
      rw [ek, ed]
      simp_arith only [ofS_beq, String.reduceBEq, ↓w_ne_nice (hkn _ _ _) (hkn _ _ _), eqv_nice (hkn _ _ _)]
      exact k4
    · cases t with
      | true =>
        have ed : dueV b = .tup [.str "two", .str n] := by unfold dueV; rw [hE]
        have ek : kindsV b = .lst [.bl true, .bl true, .bl false] := by unfold kindsV; rw [hE]; rfl
        rw [ek, ed]
        simp_arith only [ofS_beq, String.reduceBEq, ↓w_ne_nice (hkn _ _ _) (hkn _ _ _), eqv_nice (hkn _ _ _)]
        exact k4
      | false =>
        have ed : dueV b = .tup [.str "none", .str n] := by unfold dueV; rw [hE]
        have ek : kindsV b = .lst [.bl true, .bl false, .bl true] := by unfold kindsV; rw [hE]; rfl
        rw [ek, ed]
        simp_arith only [ofS_beq, String.reduceBEq, ↓w_ne_nice (hkn _ _ _) (hkn _ _ _), eqv_nice (hkn _ _ _)]
        exact k4
  clear e1 k3
  rintro δ1 μ4 ⟨e1, k4⟩
  obtain ⟨l1, l2, l3, l4⟩ := hl
  refine wS_cut (fun δ μ' => δ = [some (.lst (ns.map D.int)), some (dueV b), some (.lst (b.lk.map D.str)), some (.lst (b.cd.map pSS)), some (.lst (b.ct.map pSI)), some (.lst (b.ce.map pSI))] ∧ μ'.lk = []) ?_ ?_
  · have ht2 : TxtB ⟨[], b.cd, [], []⟩ := ⟨(fun _ h => by cases h), ht.t2, (fun _ h => by cases h)⟩
    have hd2 := due_nice ht2
    have hf := found_ok (c := c) (μ := μ4) (b := ⟨[], b.cd, [], []⟩) (all_ := false) hcc ht2 (.inr (.inl ⟨rfl, rfl, rfl, rfl⟩)) ⟨by simp, l2, by simp, by simp⟩ k4
    have hd : ∀ μ, wR (m_x__law_due c [.lst [], .lst (b.cd.map pSS), .lst [], .lst []] μ) (fun v μ' => v = dueV ⟨[], b.cd, [], []⟩ ∧ Fr [] μ μ') noE := fun μ => due_ok (c := c) (μ := μ) (b := ⟨[], b.cd, [], []⟩) ⟨by simp, l2, by simp, by simp⟩
    subst e1
    simp_arith only [id_eq]
    refine hf.go ?_
    rintro _ μ5 ⟨rfl, f5⟩
    simp_arith only [id_eq]
    refine (hd μ5).go ?_
    rintro _ μ6 ⟨rfl, f6⟩
    simp_arith only [↓w_ne_nice hd2 hd2, eqv_nice hd2]
    rw [f6.lk, f5.lk]; exact k4
  clear e1 k4
  rintro δ1 μ5 ⟨e1, k5⟩
  refine wS_cut (fun δ μ' => δ = [some (.lst (ns.map D.int)), some (dueV b), some (.lst (b.lk.map D.str)), some (.lst (b.cd.map pSS)), some (.lst (b.ct.map pSI)), some (.lst (b.ce.map pSI))] ∧ μ'.lk = []) ?_ ?_
  · have ht2 : TxtB ⟨b.lk, [], [], b.ce⟩ := ⟨ht.t1, (fun _ h => by cases h), fun p hp => ht.t3 p (List.mem_append_right _ hp)⟩
    have hd2 := due_nice ht2
    have hf := found_ok (c := c) (μ := μ5) (b := ⟨b.lk, [], [], b.ce⟩) (all_ := false) hcc ht2 (.inr (.inr ⟨rfl, rfl, hce, rfl⟩)) ⟨l1, by simp, by simp, l4⟩ k5
    have hd : ∀ μ, wR (m_x__law_due c [.lst (b.lk.map D.str), .lst [], .lst [], .lst (b.ce.map pSI)] μ) (fun v μ' => v = dueV ⟨b.lk, [], [], b.ce⟩ ∧ Fr [] μ μ') noE := fun μ => due_ok (c := c) (μ := μ) (b := ⟨b.lk, [], [], b.ce⟩) ⟨l1, by simp, by simp, l4⟩
    subst e1
    simp_arith only [id_eq]
    refine hf.go ?_
    rintro _ μ6 ⟨rfl, f6⟩
    simp_arith only [id_eq]
    refine (hd μ6).go ?_
    rintro _ μ7 ⟨rfl, f7⟩
    simp_arith only [↓w_ne_nice hd2 hd2, eqv_nice hd2]
    rw [f7.lk, f6.lk]; exact k5
  clear e1 k5
  rintro δ1 μ6 ⟨e1, k6⟩
  subst e1
  simp_arith only [id_eq]
end
end K62
theorem PySem.Challenge.cw_dozehall_k62_books_of_names_holds : PySem.Challenge.rw_dozehall_k62_books_of_names.Holds :=
  K62.holds fun K hK ns hn => by
    have hcc : (Doz.clOf K).n_TwoNames ≠ (Doz.clOf K).n_NoName := by
      have h : ([He.ga K "NoName", He.ga K "TwoNames", He.ga K "Book"] : List _).Nodup := hK
      intro z
      have z' : He.ga K "TwoNames" = He.ga K "NoName" := z
      rw [List.nodup_cons] at h
      exact h.1 (by rw [z']; exact List.mem_cons_self)
    obtain ⟨v, μ, e, rfl⟩ := Doz.wR.of (K62.law_ok (Doz.clOf K) hcc ns hn)
    exact ⟨μ, e⟩
end
end
