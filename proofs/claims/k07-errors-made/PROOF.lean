import PyProof.Rows.All
import Wide.All
import OpenK.AllK
import Wide.FinOn
import HandS.ForMost
import HandS.WordsExc
import HandS.CallSlots
import HandS.HeadHook2
import HandS.Nested
import KE.KNestM
import HandS.Wide
import HandS.Deep
import HandS.TupAny
import PyProof.P3In
import HandS.Zip
import HandS.MakeKwOnly
import HandS.MakeKw
import HandS.Property
import HandS.Strs
import HandS.More
import HandS.FStr
import HandS.IsInst
import HandS.Star
import HandS.RaiseMore
import HandS.Style
import HandS.TupLe
import HandS.ClsMeth
import KE.KSuper
import HandS.HeadEnd
import HandS.Head0
import HandS.Head1
import HandS.Head2
import HandS.ExcInit
import HandS.ExcField
import HandS.ExcIs
import HandS.ExcOwn
import HandS.Spec
import KE.KExcInit
import OpenK.KMake
import PyProof.ExcBaseAll.RuntimeError
import PyProof.ExcBaseAll.LookupError
import HandS.TryMany
import HandS.DeepEq
import PySem.Challenge.RW_asbefore_k07_errors_made
set_option Elab.async false
set_option linter.all false
set_option maxRecDepth 100000
set_option maxHeartbeats 0
namespace G
open PySem L2

/-- plain data, references into the store -/
inductive D where
  | non | bl (b : Bool) | int (i : Int) | str (s : Str) | ty (n : String) | glo (x : String)
  | tup (ds : List D) | lst (ds : List D) | dct (kvs : List (D × D)) | obj (C : String) (fs : List (String × D)) | exn (C : String) (fs : List (String × D)) | ref (i : Nat) | clo (i : Nat) (ws : List D)
  deriving Inhabited

inductive Cell where
  | lst (ds : List D) | dct (kvs : List (D × D)) | ins (C : String) (fs : List (String × D)) | gone
  deriving Inhabited
abbrev Store := List Cell

/-! ### which references are there: all below m -/
mutual
def low (m : Nat) : D → Bool
  | .tup ds => lowL m ds
  | .lst ds => lowL m ds
  | .dct kvs => lowP m kvs
  | .obj _ fs => lowF m fs
  | .exn _ fs => lowF m fs
  | .clo _ ws => lowL m ws
  | .ref i => decide (i < m)
  | _ => true
def lowL (m : Nat) : List D → Bool
  | [] => true
  | d :: ds => low m d && lowL m ds
def lowP (m : Nat) : List (D × D) → Bool
  | [] => true
  | (k, v) :: r => low m k && (low m v && lowP m r)
def lowF (m : Nat) : List (String × D) → Bool
  | [] => true
  | (_, v) :: r => low m v && lowF m r
end
def lowC (m : Nat) : Cell → Bool
  | .lst ds => lowL m ds
  | .dct kvs => lowP m kvs
  | .ins _ fs => lowF m fs
  | .gone => true

mutual
theorem low_mono {m k : Nat} (h : m ≤ k) : ∀ d : D, low m d = true → low k d = true
  | .tup ds, q => lowL_mono h ds q
  | .lst ds, q => lowL_mono h ds q
  | .dct kvs, q => lowP_mono h kvs q
  | .obj _ fs, q => lowF_mono h fs q
  | .exn _ fs, q => lowF_mono h fs q
  | .clo _ ws, q => lowL_mono h ws q
  | .ref i, q => by
    simp only [low, decide_eq_true_eq] at q ⊢
    omega
  | .non, _ => rfl
  | .bl _, _ => rfl
  | .int _, _ => rfl
  | .str _, _ => rfl
  | .ty _, _ => rfl
  | .glo _, _ => rfl
theorem lowL_mono {m k : Nat} (h : m ≤ k) : ∀ ds : List D, lowL m ds = true → lowL k ds = true
  | [], _ => rfl
  | d :: ds, q => by
    simp only [lowL, Bool.and_eq_true] at q ⊢
    exact ⟨low_mono h d q.1, lowL_mono h ds q.2⟩
theorem lowP_mono {m k : Nat} (h : m ≤ k) : ∀ ds : List (D × D), lowP m ds = true → lowP k ds = true
  | [], _ => rfl
  | (a, b) :: ds, q => by
    simp only [lowP, Bool.and_eq_true] at q ⊢
    exact ⟨low_mono h a q.1, low_mono h b q.2.1, lowP_mono h ds q.2.2⟩
theorem lowF_mono {m k : Nat} (h : m ≤ k) : ∀ ds : List (String × D), lowF m ds = true → lowF k ds = true
  | [], _ => rfl
  | (_, b) :: ds, q => by
    simp only [lowF, Bool.and_eq_true] at q ⊢
    exact ⟨low_mono h b q.1, lowF_mono h ds q.2⟩
end
theorem lowC_mono {m k : Nat} (h : m ≤ k) : ∀ c : Cell, lowC m c = true → lowC k c = true
  | .lst ds, q => lowL_mono h ds q
  | .dct kvs, q => lowP_mono h kvs q
  | .ins _ fs, q => lowF_mono h fs q
  | .gone, _ => rfl

/-- addresses: r the store's, x of what is being made (a comprehension's list): values stand apart from both -/
structure Ad where
  r : List Addr
  x : List Addr := []
def Ad.av (ρ : Ad) (a : Addr) : Prop := a ∉ ρ.r ∧ a ∉ ρ.x
/-! ### what stands for what: K the written part, ρ the store's addresses, H the abstract heap -/
/-- a key of a dict -/
def keyD : D → Option Key
  | .int i => some (.inl i)
  | .str s => some (.inr s)
  | _ => none
/-- a list, a tuple that no store cell is -/
def LstN (_ : PySem.W.Frag) (ρ : Ad) (H : Hp) (a : Addr) (xs : List V) : Prop := Rd H a (.lst xs) ∧ ρ.av a
def TupN (K : PySem.W.Frag) (ρ : Ad) (H : Hp) (a : Addr) (xs : List V) : Prop :=
  (Rd H a (.tup xs) ∧ ρ.av a) ∨
    ∃ (o : Obj) (its : Array Value) (n : Nat), K.lookup a = some o ∧ o.cls = .type "tuple" ∧ o.data = .seq its n ∧ its.size ≤ sizeLine ∧ Vals xs its.toList
theorem LstN.sq {K : PySem.W.Frag} {ρ : Ad} {H : Hp} {a : Addr} {xs : List V} (h : LstN K ρ H a xs) : SqL K H a xs := .inl h.1
theorem TupN.sq {K : PySem.W.Frag} {ρ : Ad} {H : Hp} {a : Addr} {xs : List V} (h : TupN K ρ H a xs) : SqT K H a xs := h.elim (fun q => .inl q.1) .inr
/-- a caught exception -/
def exv (a : Addr) (o : Obj) : HO := .ext fun h => h.get? a = some o
/-- it, of the class at C, its dict -/
structure ExvAt (ρ : Ad) (H : Hp) (a C : Addr) (d : Option Addr) : Prop where
  ex : ∃ o vs, H a = some (exv a o) ∧ o.cls = .ref C ∧ o.dict = d ∧ o.data = .fields vs
  av : ρ.av a
mutual
def Rp (K : PySem.W.Frag) (ρ : Ad) (H : Hp) : D → V → Prop
  | .non, v => v = .non
  | .bl b, v => v = .bl b
  | .int i, v => v = .int i
  | .str s, v => v = .str s
  | .ty n, v => v = .ty n
  | .glo x, v => v = .ref (He.ga K (Str.ofString x))
  | .tup ds, v => ∃ a vs, v = .ref a ∧ TupN K ρ H a vs ∧ RpL K ρ H ds vs
  | .lst ds, v => ∃ a vs, v = .ref a ∧ LstN K ρ H a vs ∧ RpL K ρ H ds vs
  | .dct kvs, v => ∃ a ks, v = .ref a ∧ Rd H a (.dK ks) ∧ ρ.av a ∧ RpP K ρ H kvs ks
  | .obj C fs, v => ∃ a dx gs, v = .ref a ∧ H a = some (.ins (He.ga K (Str.ofString C)) dx gs) ∧ ρ.av a ∧ RpF K ρ H fs gs
  | .exn C fs, v => ∃ a d gs, v = .ref a ∧ ExvAt ρ H a (He.ga K (Str.ofString C)) d ∧ ((gs = [] ∧ d = none) ∨ ∃ dd, d = some dd ∧ H dd = some (.xd gs) ∧ ρ.av dd) ∧ RpF K ρ H fs gs
  | .ref i, v => ∃ a, ρ.r[i]? = some a ∧ v = .ref a
  | .clo _ _, _ => False
def RpL (K : PySem.W.Frag) (ρ : Ad) (H : Hp) : List D → List V → Prop
  | [], vs => vs = []
  | d :: ds, vs => ∃ v ws, vs = v :: ws ∧ Rp K ρ H d v ∧ RpL K ρ H ds ws
def RpP (K : PySem.W.Frag) (ρ : Ad) (H : Hp) : List (D × D) → List (Key × V) → Prop
  | [], vs => vs = []
  | (k, d) :: ds, vs => ∃ q v ws, vs = (q, v) :: ws ∧ keyD k = some q ∧ Rp K ρ H d v ∧ RpP K ρ H ds ws
def RpF (K : PySem.W.Frag) (ρ : Ad) (H : Hp) : List (String × D) → List (Str × V) → Prop
  | [], vs => vs = []
  | (f, d) :: ds, vs => ∃ v ws, vs = (Str.ofString f, v) :: ws ∧ Rp K ρ H d v ∧ RpF K ρ H ds ws
end
def CellOk (K : PySem.W.Frag) (ρ : Ad) (H : Hp) (a : Addr) : Cell → Prop
  | .lst ds => ∃ vs, H a = some (.lst vs) ∧ RpL K ρ H ds vs
  | .dct kvs => ∃ ks, H a = some (.dK ks) ∧ RpP K ρ H kvs ks
  | .ins C fs => ∃ dx gs, H a = some (.ins (He.ga K (Str.ofString C)) dx gs) ∧ RpF K ρ H fs gs
  | .gone => ∃ o, H a = some o

/-- what a later heap keeps of an earlier one -/
structure Kp (ρ : Ad) (H : Hp) (ρ' : Ad) (H' : Hp) : Prop where
  pre : ρ.r <+: ρ'.r
  ex : ∀ a ∈ ρ'.x, a ∈ ρ.x ∨ a ∈ ρ.r ∨ H a = none
  sub : ∀ a ∈ ρ.x, a ∈ ρ'.x
  keep : ∀ a o, H a = some o → a ∉ ρ.r → (∀ ps, o ≠ .tbl ps) → H' a = some o
  there : ∀ a o, H a = some o → a ∉ ρ.r → ∃ o', H' a = some o'
  new : ∀ a ∈ ρ'.r, a ∉ ρ.r → H a = none
/-- the same, where nothing is written but what is ρ's -/
structure Kp5 (ρ : Ad) (H : Hp) (ρ' : Ad) (H' : Hp) : Prop where
  pre : ρ.r <+: ρ'.r
  ex : ∀ a ∈ ρ'.x, a ∈ ρ.x ∨ a ∈ ρ.r ∨ H a = none
  sub : ∀ a ∈ ρ.x, a ∈ ρ'.x
  keep : ∀ a o, H a = some o → a ∉ ρ.r → H' a = some o
  new : ∀ a ∈ ρ'.r, a ∉ ρ.r → H a = none
theorem Kp5.kp {ρ ρ' : Ad} {H H' : Hp} (k : Kp5 ρ H ρ' H') : Kp ρ H ρ' H' := ⟨k.pre, k.ex, k.sub, fun a o h n _ => k.keep a o h n, fun a o h n => ⟨o, k.keep a o h n⟩, k.new⟩
theorem Kp.refl {ρ : Ad} {H : Hp} : Kp ρ H ρ H := ⟨List.prefix_refl _, fun _ m => .inl m, fun _ m => m, fun _ _ h _ _ => h, fun _ o h _ => ⟨o, h⟩, fun _ h n => absurd h n⟩
theorem Kp.notr {ρ ρ' : Ad} {H H' : Hp} (k : Kp ρ H ρ' H') {a : Addr} {o : HO} (h : H a = some o) (n : a ∉ ρ.r) : a ∉ ρ'.r := fun m => by
  rw [k.new a m n] at h
  cases h
theorem Kp.notin {ρ ρ' : Ad} {H H' : Hp} (k : Kp ρ H ρ' H') {a : Addr} {o : HO} (h : H a = some o) (n : ρ.av a) : ρ'.av a := by
  refine ⟨k.notr h n.1, fun m => ?_⟩
  rcases k.ex a m with q | q | q
  · exact n.2 q
  · exact n.1 q
  · rw [h] at q; cases q
theorem Kp.trans {ρ ρ1 ρ2 : Ad} {H H1 H2 : Hp} (k : Kp ρ H ρ1 H1) (l : Kp ρ1 H1 ρ2 H2) : Kp ρ H ρ2 H2 := by
  refine ⟨k.pre.trans l.pre, fun a m => ?_, fun a m => l.sub a (k.sub a m), fun a o h n t => l.keep a o (k.keep a o h n t) (k.notr h n) t, fun a o h n => ?_, fun a m n => ?_⟩
  · by_cases r : a ∈ ρ.r
    · exact .inr (.inl r)
    · rcases l.ex a m with q | q | q
      · exact k.ex a q
      · exact .inr (.inr (k.new a q r))
      · refine .inr (.inr ?_)
        cases e : H a with
        | none => rfl
        | some o =>
          obtain ⟨o1, h1⟩ := k.there a o e r
          rw [h1] at q
          cases q
  · obtain ⟨o1, h1⟩ := k.there a o h n
    exact l.there a o1 h1 (k.notr h n)
  · by_cases q : a ∈ ρ1.r
    · exact k.new a q n
    · cases e : H a with
      | none => rfl
      | some o =>
        have z := l.new a m q
        obtain ⟨o1, h1⟩ := k.there a o e n
        rw [h1] at z
        cases z
section
variable {K : PySem.W.Frag} {ρ ρ' : Ad} {H H' : Hp}
theorem Kp.rd (k : Kp ρ H ρ' H') {a : Addr} {u : HO} (h : Rd H a u) (n : ρ.av a) (nt : ∀ ps, u ≠ .tbl ps := by intro _ z; cases z) : Rd H' a u := by
  rcases h with h | ⟨o, h⟩
  · exact .inl (k.keep _ _ h n.1 nt)
  · exact .inr ⟨o, k.keep _ _ h n.1 (fun _ z => by cases z)⟩
theorem Kp.lstN (k : Kp ρ H ρ' H') {a : Addr} {xs : List V} (h : LstN K ρ H a xs) : LstN K ρ' H' a xs := by
  obtain ⟨h, n⟩ := h
  refine ⟨k.rd h n, ?_⟩
  rcases h with h | ⟨o, h⟩ <;> exact k.notin h n
theorem Kp.tupN (k : Kp ρ H ρ' H') {a : Addr} {xs : List V} (h : TupN K ρ H a xs) : TupN K ρ' H' a xs := by
  rcases h with ⟨h, n⟩ | h
  · refine .inl ⟨k.rd h n, ?_⟩
    rcases h with h | ⟨o, h⟩ <;> exact k.notin h n
  · exact .inr h
end
theorem Kp.exv {ρ ρ' : Ad} {H H' : Hp} (k : Kp ρ H ρ' H') {a C : Addr} {d : Option Addr} (h : ExvAt ρ H a C d) : ExvAt ρ' H' a C d := by
  obtain ⟨⟨o, vs, h1, h2⟩, n⟩ := h
  exact ⟨⟨o, vs, k.keep _ _ h1 n.1 (fun _ z => by unfold G.exv at z; cases z), h2⟩, k.notin h1 n⟩
theorem Kp.xd {ρ ρ' : Ad} {H H' : Hp} (k : Kp ρ H ρ' H') {d : Option Addr} {gs : List (Str × V)} (h : (gs = [] ∧ d = none) ∨ ∃ dd, d = some dd ∧ H dd = some (.xd gs) ∧ ρ.av dd) : (gs = [] ∧ d = none) ∨ ∃ dd, d = some dd ∧ H' dd = some (.xd gs) ∧ ρ'.av dd := by
  rcases h with h | ⟨dd, h1, h2, n⟩
  · exact .inl h
  · exact .inr ⟨dd, h1, k.keep _ _ h2 n.1 (fun _ z => by cases z), k.notin h2 n⟩
mutual
theorem Rp.kp {K : PySem.W.Frag} {ρ ρ' : Ad} {H H' : Hp} (k : Kp ρ H ρ' H') : ∀ (d : D) (v : V), Rp K ρ H d v → Rp K ρ' H' d v
  | .non, v, h => h
  | .bl _, v, h => h
  | .int _, v, h => h
  | .str _, v, h => h
  | .ty _, v, h => h
  | .glo _, v, h => h
  | .tup ds, v, ⟨a, vs, e, t, r⟩ => ⟨a, vs, e, k.tupN t, RpL.kp k ds vs r⟩
  | .lst ds, v, ⟨a, vs, e, t, r⟩ => ⟨a, vs, e, k.lstN t, RpL.kp k ds vs r⟩
  | .dct kvs, v, ⟨a, ks, e, t, n, r⟩ => ⟨a, ks, e, k.rd t n, by rcases t with t | ⟨o, t⟩ <;> exact k.notin t n, RpP.kp k kvs ks r⟩
  | .obj C fs, v, ⟨a, dx, gs, e, t, n, r⟩ => ⟨a, dx, gs, e, k.keep _ _ t n.1 (fun _ z => by cases z), k.notin t n, RpF.kp k fs gs r⟩
  | .clo _ _, v, h => h.elim
  | .exn C fs, v, ⟨a, d, gs, e, t, x, r⟩ => ⟨a, d, gs, e, k.exv t, k.xd x, RpF.kp k fs gs r⟩
  | .ref i, v, ⟨a, e, q⟩ => ⟨a, by
    obtain ⟨t, ht⟩ := k.pre
    have hi : i < ρ.r.length := (List.getElem?_eq_some_iff.mp e).1
    rw [← ht, List.getElem?_append_left hi]
    exact e, q⟩
theorem RpL.kp {K : PySem.W.Frag} {ρ ρ' : Ad} {H H' : Hp} (k : Kp ρ H ρ' H') : ∀ (ds : List D) (vs : List V), RpL K ρ H ds vs → RpL K ρ' H' ds vs
  | [], vs, h => h
  | d :: ds, vs, ⟨v, ws, e, h, r⟩ => ⟨v, ws, e, Rp.kp k d v h, RpL.kp k ds ws r⟩
theorem RpP.kp {K : PySem.W.Frag} {ρ ρ' : Ad} {H H' : Hp} (k : Kp ρ H ρ' H') : ∀ (ds : List (D × D)) (vs : List (Key × V)), RpP K ρ H ds vs → RpP K ρ' H' ds vs
  | [], vs, h => h
  | (c, d) :: ds, vs, ⟨q, v, ws, e, y, h, r⟩ => ⟨q, v, ws, e, y, Rp.kp k d v h, RpP.kp k ds ws r⟩
theorem RpF.kp {K : PySem.W.Frag} {ρ ρ' : Ad} {H H' : Hp} (k : Kp ρ H ρ' H') : ∀ (ds : List (String × D)) (vs : List (Str × V)), RpF K ρ H ds vs → RpF K ρ' H' ds vs
  | [], vs, h => h
  | (c, d) :: ds, vs, ⟨v, ws, e, h, r⟩ => ⟨v, ws, e, Rp.kp k d v h, RpF.kp k ds ws r⟩
end
/-! ### references stand within the store; a store cut off -/
mutual
theorem Rp.low {K : PySem.W.Frag} {ρ : Ad} {H : Hp} : ∀ (d : D) (v : V), Rp K ρ H d v → low ρ.r.length d = true
  | .non, v, h => rfl
  | .bl _, v, h => rfl
  | .int _, v, h => rfl
  | .str _, v, h => rfl
  | .ty _, v, h => rfl
  | .glo _, v, h => rfl
  | .tup ds, v, ⟨a, vs, e, t, r⟩ => RpL.low ds vs r
  | .lst ds, v, ⟨a, vs, e, t, r⟩ => RpL.low ds vs r
  | .dct kvs, v, ⟨a, ks, e, t, n, r⟩ => RpP.low kvs ks r
  | .obj C fs, v, ⟨a, dx, gs, e, t, n, r⟩ => RpF.low fs gs r
  | .clo _ _, v, h => h.elim
  | .exn C fs, v, ⟨a, d, gs, e, t, n, r⟩ => RpF.low fs gs r
  | .ref i, v, ⟨a, e, q⟩ => by
    simp only [G.low, decide_eq_true_eq]
    exact (List.getElem?_eq_some_iff.mp e).1
theorem RpL.low {K : PySem.W.Frag} {ρ : Ad} {H : Hp} : ∀ (ds : List D) (vs : List V), RpL K ρ H ds vs → lowL ρ.r.length ds = true
  | [], vs, h => rfl
  | d :: ds, vs, ⟨v, ws, e, h, r⟩ => by
    simp only [lowL, Bool.and_eq_true]
    exact ⟨Rp.low d v h, RpL.low ds ws r⟩
theorem RpP.low {K : PySem.W.Frag} {ρ : Ad} {H : Hp} : ∀ (ds : List (D × D)) (vs : List (Key × V)), RpP K ρ H ds vs → lowP ρ.r.length ds = true
  | [], vs, h => rfl
  | (c, d) :: ds, vs, ⟨q, v, ws, e, y, h, r⟩ => by
    simp only [lowP, Bool.and_eq_true]
    refine ⟨?_, Rp.low d v h, RpP.low ds ws r⟩
    cases c <;> first | rfl | cases y
theorem RpF.low {K : PySem.W.Frag} {ρ : Ad} {H : Hp} : ∀ (ds : List (String × D)) (vs : List (Str × V)), RpF K ρ H ds vs → lowF ρ.r.length ds = true
  | [], vs, h => rfl
  | (c, d) :: ds, vs, ⟨v, ws, e, h, r⟩ => by
    simp only [lowF, Bool.and_eq_true]
    exact ⟨Rp.low d v h, RpF.low ds ws r⟩
end
theorem CellOk.low {K : PySem.W.Frag} {ρ : Ad} {H : Hp} {a : Addr} : ∀ {c : Cell}, CellOk K ρ H a c → lowC ρ.r.length c = true
  | .lst _, ⟨_, _, r⟩ => RpL.low _ _ r
  | .dct _, ⟨_, _, r⟩ => RpP.low _ _ r
  | .ins _ _, ⟨_, _, _, r⟩ => RpF.low _ _ r
  | .gone, _ => rfl
/-- ρ' begins with ρ -/
structure Cut (ρ ρ' : Ad) : Prop where
  pre : ρ.r <+: ρ'.r
  ex : ∀ a ∈ ρ.x, a ∈ ρ'.x
theorem Cut.av {ρ ρ' : Ad} (k : Cut ρ ρ') {a : Addr} (n : ρ'.av a) : ρ.av a := ⟨fun m => n.1 (k.pre.subset m), fun m => n.2 (k.ex a m)⟩
/-- what names no later cell -/
theorem LstN.cut {K : PySem.W.Frag} {ρ ρ' : Ad} {H : Hp} (k : Cut ρ ρ') {a : Addr} {xs : List V} (h : LstN K ρ' H a xs) : LstN K ρ H a xs := ⟨h.1, k.av h.2⟩
theorem TupN.cut {K : PySem.W.Frag} {ρ ρ' : Ad} {H : Hp} (k : Cut ρ ρ') {a : Addr} {xs : List V} (h : TupN K ρ' H a xs) : TupN K ρ H a xs := by
  rcases h with ⟨h, n⟩ | h
  · exact .inl ⟨h, k.av n⟩
  · exact .inr h
theorem Cut.exv {ρ ρ' : Ad} {H : Hp} (k : Cut ρ ρ') {a C : Addr} {d : Option Addr} (h : ExvAt ρ' H a C d) : ExvAt ρ H a C d := ⟨h.ex, k.av h.av⟩
theorem Cut.xd {ρ ρ' : Ad} {H : Hp} (k : Cut ρ ρ') {d : Option Addr} {gs : List (Str × V)} (h : (gs = [] ∧ d = none) ∨ ∃ dd, d = some dd ∧ H dd = some (.xd gs) ∧ ρ'.av dd) : (gs = [] ∧ d = none) ∨ ∃ dd, d = some dd ∧ H dd = some (.xd gs) ∧ ρ.av dd := by
  rcases h with h | ⟨dd, h1, h2, n⟩
  · exact .inl h
  · exact .inr ⟨dd, h1, h2, k.av n⟩
mutual
theorem Rp.cut {K : PySem.W.Frag} {ρ ρ' : Ad} {H : Hp} (k : Cut ρ ρ') : ∀ (d : D) (v : V), G.low ρ.r.length d = true → Rp K ρ' H d v → Rp K ρ H d v
  | .non, v, _, h => h
  | .bl _, v, _, h => h
  | .int _, v, _, h => h
  | .str _, v, _, h => h
  | .ty _, v, _, h => h
  | .glo _, v, _, h => h
  | .tup ds, v, l, ⟨a, vs, e, t, r⟩ => ⟨a, vs, e, t.cut k, RpL.cut k ds vs l r⟩
  | .lst ds, v, l, ⟨a, vs, e, t, r⟩ => ⟨a, vs, e, t.cut k, RpL.cut k ds vs l r⟩
  | .dct kvs, v, l, ⟨a, ks, e, t, n, r⟩ => ⟨a, ks, e, t, k.av n, RpP.cut k kvs ks l r⟩
  | .obj C fs, v, l, ⟨a, dx, gs, e, t, n, r⟩ => ⟨a, dx, gs, e, t, k.av n, RpF.cut k fs gs l r⟩
  | .clo _ _, v, _, h => h.elim
  | .exn C fs, v, l, ⟨a, d, gs, e, t, x, r⟩ => ⟨a, d, gs, e, k.exv t, k.xd x, RpF.cut k fs gs l r⟩
  | .ref i, v, l, ⟨a, e, q⟩ => ⟨a, by
    obtain ⟨t, ht⟩ := k.pre
    simp only [G.low, decide_eq_true_eq] at l
    rw [← ht, List.getElem?_append_left l] at e
    exact e, q⟩
theorem RpL.cut {K : PySem.W.Frag} {ρ ρ' : Ad} {H : Hp} (k : Cut ρ ρ') : ∀ (ds : List D) (vs : List V), lowL ρ.r.length ds = true → RpL K ρ' H ds vs → RpL K ρ H ds vs
  | [], vs, _, h => h
  | d :: ds, vs, l, ⟨v, ws, e, h, r⟩ => by
    simp only [lowL, Bool.and_eq_true] at l
    exact ⟨v, ws, e, Rp.cut k d v l.1 h, RpL.cut k ds ws l.2 r⟩
theorem RpP.cut {K : PySem.W.Frag} {ρ ρ' : Ad} {H : Hp} (k : Cut ρ ρ') : ∀ (ds : List (D × D)) (vs : List (Key × V)), lowP ρ.r.length ds = true → RpP K ρ' H ds vs → RpP K ρ H ds vs
  | [], vs, _, h => h
  | (c, d) :: ds, vs, l, ⟨q, v, ws, e, y, h, r⟩ => by
    simp only [lowP, Bool.and_eq_true] at l
    exact ⟨q, v, ws, e, y, Rp.cut k d v l.2.1 h, RpP.cut k ds ws l.2.2 r⟩
theorem RpF.cut {K : PySem.W.Frag} {ρ ρ' : Ad} {H : Hp} (k : Cut ρ ρ') : ∀ (ds : List (String × D)) (vs : List (Str × V)), lowF ρ.r.length ds = true → RpF K ρ' H ds vs → RpF K ρ H ds vs
  | [], vs, _, h => h
  | (c, d) :: ds, vs, l, ⟨v, ws, e, h, r⟩ => by
    simp only [lowF, Bool.and_eq_true] at l
    exact ⟨v, ws, e, Rp.cut k d v l.1 h, RpF.cut k ds ws l.2 r⟩
end
/-! ### what is being made, written -/
theorem Rd.hset {ρ : Ad} {H : Hp} {D0 a : Addr} {o u : HO} (k : D0 ∈ ρ.x) (h : Rd H a u) (n : ρ.av a) : Rd (upd H D0 o) a u := by
  have ne : a ≠ D0 := fun z => n.2 (by rw [z]; exact k)
  rcases h with h | ⟨p, h⟩
  · exact .inl (by rw [upd_ne ne]; exact h)
  · exact .inr ⟨p, by rw [upd_ne ne]; exact h⟩
mutual
theorem Rp.hset {K : PySem.W.Frag} {ρ : Ad} {H : Hp} {D0 : Addr} {o : HO} (k : D0 ∈ ρ.x) : ∀ (d : D) (v : V), Rp K ρ H d v → Rp K ρ (upd H D0 o) d v
  | .non, v, h => h
  | .bl _, v, h => h
  | .int _, v, h => h
  | .str _, v, h => h
  | .ty _, v, h => h
  | .glo _, v, h => h
  | .tup ds, v, ⟨a, vs, e, t, r⟩ => ⟨a, vs, e, by
    rcases t with ⟨t, n⟩ | t
    · exact .inl ⟨Rd.hset k t n, n⟩
    · exact .inr t, RpL.hset k ds vs r⟩
  | .lst ds, v, ⟨a, vs, e, t, r⟩ => ⟨a, vs, e, ⟨Rd.hset k t.1 t.2, t.2⟩, RpL.hset k ds vs r⟩
  | .dct kvs, v, ⟨a, ks, e, t, n, r⟩ => ⟨a, ks, e, Rd.hset k t n, n, RpP.hset k kvs ks r⟩
  | .obj C fs, v, ⟨a, dx, gs, e, t, n, r⟩ => ⟨a, dx, gs, e, by rw [upd_ne (fun z : a = D0 => n.2 (by rw [z]; exact k))]; exact t, n, RpF.hset k fs gs r⟩
  | .clo _ _, v, h => h.elim
  | .exn C fs, v, ⟨a, d, gs, e, t, x, r⟩ => ⟨a, d, gs, e, by
    obtain ⟨⟨u, vs, h1, h2⟩, n⟩ := t
    exact ⟨⟨u, vs, by rw [upd_ne (fun z : a = D0 => n.2 (by rw [z]; exact k))]; exact h1, h2⟩, n⟩, by
    rcases x with x | ⟨dd, h1, h2, n⟩
    · exact .inl x
    · exact .inr ⟨dd, h1, by rw [upd_ne (fun z : dd = D0 => n.2 (by rw [z]; exact k))]; exact h2, n⟩, RpF.hset k fs gs r⟩
  | .ref i, v, ⟨a, e, q⟩ => ⟨a, e, q⟩
theorem RpL.hset {K : PySem.W.Frag} {ρ : Ad} {H : Hp} {D0 : Addr} {o : HO} (k : D0 ∈ ρ.x) : ∀ (ds : List D) (vs : List V), RpL K ρ H ds vs → RpL K ρ (upd H D0 o) ds vs
  | [], vs, h => h
  | d :: ds, vs, ⟨v, ws, e, h, r⟩ => ⟨v, ws, e, Rp.hset k d v h, RpL.hset k ds ws r⟩
theorem RpP.hset {K : PySem.W.Frag} {ρ : Ad} {H : Hp} {D0 : Addr} {o : HO} (k : D0 ∈ ρ.x) : ∀ (ds : List (D × D)) (vs : List (Key × V)), RpP K ρ H ds vs → RpP K ρ (upd H D0 o) ds vs
  | [], vs, h => h
  | (c, d) :: ds, vs, ⟨q, v, ws, e, y, h, r⟩ => ⟨q, v, ws, e, y, Rp.hset k d v h, RpP.hset k ds ws r⟩
theorem RpF.hset {K : PySem.W.Frag} {ρ : Ad} {H : Hp} {D0 : Addr} {o : HO} (k : D0 ∈ ρ.x) : ∀ (ds : List (String × D)) (vs : List (Str × V)), RpF K ρ H ds vs → RpF K ρ (upd H D0 o) ds vs
  | [], vs, h => h
  | (c, d) :: ds, vs, ⟨v, ws, e, h, r⟩ => ⟨v, ws, e, Rp.hset k d v h, RpF.hset k ds ws r⟩
end
/-! ### the lambdas of one def: values that stand in slots alone -/
structure LamI where
  params : Arguments
  body : Expr
  scope : Scope
  pos : Pos
def lamOf : Expr → Option LamI
  | .Lambda a b s p => some ⟨a, b, s, p⟩
  | _ => none
def lamsT : Expr → List LamI
  | .Tuple es _ _ => es.filterMap lamOf
  | _ => []
def lamsS : Stmt → List LamI
  | .For _ (.List es _) _ _ _ => es.flatMap lamsT
  | _ => []
/-- the def that makes them -/
def mkrK (K : PySem.W.Frag) : Option FuncData := match K.lookup (He.ma K (He.ga K "Board") "__init__") with
  | some ⟨_, _, .func fd, _⟩ => some fd
  | _ => none
def lamK (K : PySem.W.Frag) (i : Nat) : Option LamI := (mkrK K).bind fun fd => match fd.body with
  | .stmts ss => (ss.flatMap lamsS)[i]?
  | _ => none
def qualK (K : PySem.W.Frag) : Str := match mkrK K with
  | some fd => (PyProof.Rows.envOfC fd.qualname fd.scope 0 0 .none).qual ++ "<lambda>"
  | none => Str.empty
/-- its code object, that one's table -/
def codeK (K : PySem.W.Frag) : Option (Addr × Addr) := match mkrK K with
  | some fd => match fd.code with
    | .ref c => match K.lookup c with
      | some ⟨_, _, .fields vs, _⟩ => match (vs[11]? : Option Value) with
        | some (.ref P) => some (c, P)
        | _ => none
      | _ => none
    | _ => none
  | none => none
def TabG (K : PySem.W.Frag) (ρ : Ad) (H : Hp) : Prop := ∀ c P, codeK K = some (c, P) → ρ.av P ∧ ∃ ps : Array Value, H P = some (.tbl ps) ∧ TriplesOk ps.toList ∧
  ∀ (pos : Pos) (cv : Value), codeAmong pos ps.toList = some cv → ∃ c', cv = .ref c' ∧ H c' = some (LamX.CodeO c' (qualK K)) ∧ ρ.av c'
theorem TabG.to {K : PySem.W.Frag} {ρ ρ' : Ad} {H H' : Hp} (t : TabG K ρ H) (k : ∀ b o, H b = some o → ρ.av b → H' b = some o ∧ ρ'.av b) : TabG K ρ' H' := fun c P e => by
  obtain ⟨n, ps, h1, h2, h3⟩ := t c P e
  refine ⟨(k P _ h1 n).2, ps, (k P _ h1 n).1, h2, fun pos cv hc => ?_⟩
  obtain ⟨c', e1, e2, e3⟩ := h3 pos cv hc
  exact ⟨c', e1, (k c' _ e2 e3).1, (k c' _ e2 e3).2⟩
theorem TabG.to' {K : PySem.W.Frag} {ρ : Ad} {H H' : Hp} (t : TabG K ρ H) (k : ∀ b o, H b = some o → (∀ ob, o ≠ .frz ob (.own 0)) → H' b = some o) : TabG K ρ H' := fun c P e => by
  obtain ⟨n, ps, h1, h2, h3⟩ := t c P e
  refine ⟨n, ps, k P _ h1 (fun _ z => by cases z), h2, fun pos cv hc => ?_⟩
  obtain ⟨c', e1, e2, e3⟩ := h3 pos cv hc
  exact ⟨c', e1, k c' _ e2 (fun _ z => by unfold LamX.CodeO at z; cases z), e3⟩
def frL (L : LamI) : List Str := L.scope.names.filterMap fun p => if p.2 = .free then some p.1 else none
/-- at f: the lambda L, its cells cl, its code object at c -/
def LamO (f : Addr) (L : LamI) (q : Str) (cl : List (Str × Addr)) (c : Addr) : HO := .ext fun h => ∃ pm ctv : Value, h.get? f = some (PySem.W.kla_obj "<lambda>" q L.params L.body L.scope cl pm c ctv)
/-- a captured cell, while others may read it -/
def cel (o : Obj) : HO := .frz o (.own 0)
structure CloOk (K : PySem.W.Frag) (ρ : Ad) (H : Hp) (i : Nat) (ws : List D) (v : V) : Prop where
  ex : ∃ L f c cl us, lamK K i = some L ∧ v = .ref f ∧ H f = some (LamO f L (qualK K) cl c) ∧ ρ.av f ∧ H c = some (LamX.CodeO c (qualK K)) ∧ ρ.av c ∧ RpL K ρ H ws us ∧
    ((frL L = [] ∧ cl = [] ∧ us = []) ∨ ∃ y ca o val u, frL L = [y] ∧ cl = [(y, ca)] ∧ us = [u] ∧ H ca = some (cel o) ∧ ρ.av ca ∧ o.data = .cell (some val) ∧ RelV u val)
def RpS (K : PySem.W.Frag) (ρ : Ad) (H : Hp) (d : D) (v : V) : Prop := match d with
  | .clo i ws => CloOk K ρ H i ws v
  | d => Rp K ρ H d v
def isClo : D → Bool
  | .clo _ _ => true
  | _ => false
section
variable {K : PySem.W.Frag} {ρ ρ' : Ad} {H H' : Hp} {d : D} {v : V}
theorem Rp.s (h : Rp K ρ H d v) : RpS K ρ H d v := by
  cases d <;> first | exact h | exact h.elim
theorem RpS.ns (h : RpS K ρ H d v) (n : isClo d = false) : Rp K ρ H d v := by
  cases d <;> first | exact h | cases n
theorem lamO_tbl {f c : Addr} {L : LamI} {q : Str} {cl : List (Str × Addr)} (ps : Array Value) : LamO f L q cl c ≠ .tbl ps := fun z => by unfold LamO at z; cases z
theorem exv_tbl {a : Addr} {o : Obj} (ps : Array Value) : exv a o ≠ .tbl ps := fun z => by unfold exv at z; cases z
theorem cel_tbl {o : Obj} (ps : Array Value) : cel o ≠ .tbl ps := fun z => by unfold cel at z; cases z
theorem CloOk.to {i : Nat} {ws : List D} (h : CloOk K ρ H i ws v) (k : ∀ b o, H b = some o → ρ.av b → (∀ ps, o ≠ .tbl ps) → H' b = some o ∧ ρ'.av b) (r : ∀ us, RpL K ρ H ws us → RpL K ρ' H' ws us) : CloOk K ρ' H' i ws v := by
  obtain ⟨L, f, c, cl, us, h1, h2, h3, h4, h5, h6, h7, h8⟩ := h.ex
  refine ⟨L, f, c, cl, us, h1, h2, (k f _ h3 h4 lamO_tbl).1, (k f _ h3 h4 lamO_tbl).2, (k c _ h5 h6 LamX.codeO_ne).1, (k c _ h5 h6 LamX.codeO_ne).2, r us h7, ?_⟩
  rcases h8 with h8 | ⟨y, ca, o, val, u, g1, g2, g3, g4, g5, g6, g7⟩
  · exact .inl h8
  · exact .inr ⟨y, ca, o, val, u, g1, g2, g3, (k ca _ g4 g5 cel_tbl).1, (k ca _ g4 g5 cel_tbl).2, g6, g7⟩
theorem RpS.kp (k : Kp ρ H ρ' H') (h : RpS K ρ H d v) : RpS K ρ' H' d v := by
  cases d with
  | clo i ws => exact CloOk.to h (fun b o e n nt => ⟨k.keep b o e n.1 nt, k.notin e n⟩) fun us r => RpL.kp k ws us r
  | _ => exact Rp.kp k _ v h
theorem RpS.cut (k : Cut ρ ρ') (l : G.low ρ.r.length d = true) (h : RpS K ρ' H d v) : RpS K ρ H d v := by
  cases d with
  | clo i ws => exact CloOk.to h (fun b o e n nt => ⟨e, k.av n⟩) fun us r => RpL.cut k ws us l r
  | _ => exact Rp.cut k _ v l h
theorem RpS.hset {D0 : Addr} {o : HO} (k : D0 ∈ ρ.x) (h : RpS K ρ H d v) : RpS K ρ (upd H D0 o) d v := by
  cases d with
  | clo i ws => exact CloOk.to h (fun b o e n nt => ⟨by rw [upd_ne (fun z : b = D0 => n.2 (by rw [z]; exact k))]; exact e, n⟩) fun us r => RpL.hset k ws us r
  | _ => exact Rp.hset k _ v h
theorem RpS.low (h : RpS K ρ H d v) : G.low ρ.r.length d = true := by
  cases d with
  | clo i ws =>
    obtain ⟨L, f, c, cl, us, h1, h2, h3, h4, h5, h6, h7, h8⟩ := (show CloOk K ρ H i ws v from h).ex
    exact RpL.low ws us h7
  | _ => exact Rp.low (K := K) (H := H) _ v h
def RpLS (K : PySem.W.Frag) (ρ : Ad) (H : Hp) : List D → List V → Prop
  | [], vs => vs = []
  | d :: ds, vs => ∃ v ws, vs = v :: ws ∧ RpS K ρ H d v ∧ RpLS K ρ H ds ws
theorem RpL.s : ∀ {ds : List D} {vs : List V}, RpL K ρ H ds vs → RpLS K ρ H ds vs
  | [], _, h => h
  | _ :: _, _, ⟨v, ws, e, h, r⟩ => ⟨v, ws, e, h.s, RpL.s r⟩
theorem RpLS.length : ∀ {ds : List D} {vs : List V}, RpLS K ρ H ds vs → vs.length = ds.length
  | [], vs, h => by cases (show vs = [] from h); rfl
  | _ :: _, _, ⟨v, ws, e, h, r⟩ => by rw [e, List.length_cons, List.length_cons, r.length]
theorem RpLS.get : ∀ {ds : List D} {vs : List V} {i : Nat} {d : D}, RpLS K ρ H ds vs → ds[i]? = some d → ∃ v, vs[i]? = some v ∧ RpS K ρ H d v
  | [], _, _, _, _, e => by simp at e
  | _ :: _, _, 0, _, ⟨v, ws, e1, h, r⟩, e => by
    rw [List.getElem?_cons_zero] at e
    cases e
    exact ⟨v, by rw [e1]; rfl, h⟩
  | _ :: _, _, i + 1, _, ⟨v, ws, e1, h, r⟩, e => by
    rw [List.getElem?_cons_succ] at e
    obtain ⟨u, h1, h2⟩ := r.get e
    exact ⟨u, by rw [e1, List.getElem?_cons_succ]; exact h1, h2⟩
end
end G

namespace G
open PySem L2
/-! ### results, denotations -/
inductive Res (α : Type) where
  | ok (a : α) (S : Store) | exc (x : D) (S : Store) | bad
def Res.bind {α β : Type} (r : Res α) (f : α → Store → Res β) : Res β := match r with
  | .ok a S => f a S
  | .exc x S => .exc x S
  | .bad => .bad
@[simp] theorem Res.bind_ok {α β : Type} {a : α} {S : Store} {f : α → Store → Res β} : (Res.ok a S).bind f = f a S := rfl
@[simp] theorem Res.bind_exc {α β : Type} {x : D} {S : Store} {f : α → Store → Res β} : (Res.exc x S : Res α).bind f = .exc x S := rfl
@[simp] theorem Res.bind_bad {α β : Type} {f : α → Store → Res β} : (Res.bad : Res α).bind f = .bad := rfl
theorem Res.bind_assoc {α β γ : Type} (r : Res α) (f : α → Store → Res β) (g : β → Store → Res γ) : (r.bind f).bind g = r.bind fun a S => (f a S).bind g := by
  cases r <;> rfl
abbrev Slots := List (Option D)
/-- n: the store's cells below n are older than the running def's call -/
abbrev DE := Nat → Slots → Store → Res D
abbrev DA := Nat → Slots → Store → Res (List D)
abbrev DT := Nat → Slots → Store → Res Bool

structure Good (K : PySem.W.Frag) (ρ : Ad) (S : Store) (H : Hp) : Prop where
  len : ρ.r.length = S.length
  nd : ρ.r.Nodup
  cell : ∀ (i : Nat) (a : Addr) (c : Cell), ρ.r[i]? = some a → S[i]? = some c → CellOk K ρ H a c
  hid : ∀ a ∈ ρ.x, a ∉ ρ.r ∧ ∃ o, H a = some o
  tab : TabG K ρ H
def EnvOk (K : PySem.W.Frag) (ρ : Ad) (H : Hp) (δ : Slots) (σ : St) : Prop :=
  δ.length = σ.length ∧ ∀ (i : Nat) (d : D), δ[i]? = some (some d) → ∃ v, σ[i]? = some (some v) ∧ RpS K ρ H d v
/-- cells below n get no new references -/
structure Shr (n : Nat) (S S' : Store) : Prop where
  len : S.length ≤ S'.length
  sh : ∀ (i : Nat) (c c' : Cell), i < n → S[i]? = some c → S'[i]? = some c' → ∀ m, lowC m c = true → lowC m c' = true
theorem Shr.refl {n : Nat} {S : Store} : Shr n S S := ⟨Nat.le_refl _, fun i c c' _ e e' m h => by rw [e] at e'; cases e'; exact h⟩
theorem Shr.trans {n : Nat} {S S1 S2 : Store} (a : Shr n S S1) (b : Shr n S1 S2) : Shr n S S2 := ⟨Nat.le_trans a.len b.len, fun i c c' hi e e' m h => by
  have h1 : i < S1.length := Nat.lt_of_lt_of_le (List.getElem?_eq_some_iff.mp e).1 a.len
  have e1 := List.getElem?_eq_getElem h1
  exact b.sh i _ c' hi e1 e' m (a.sh i c _ hi e e1 m h)⟩
theorem Shr.mono {n m : Nat} {S S' : Store} (h : m ≤ n) (a : Shr n S S') : Shr m S S' := ⟨a.len, fun i c c' hi => a.sh i c c' (Nat.lt_of_lt_of_le hi h)⟩
theorem Shr.push {n : Nat} {S : Store} {c : Cell} : Shr n S (S ++ [c]) := ⟨by simp, fun i d d' _ e e' m h => by
  rw [List.getElem?_append_left (List.getElem?_eq_some_iff.mp e).1, e] at e'
  cases e'; exact h⟩
/-- a cell written: of this call's own, or by what names no cell -/
theorem Shr.set {n i : Nat} {S : Store} {c d : Cell} (e : S[i]? = some c) (h : n ≤ i ∨ ∀ m, lowC m c = true → lowC m d = true) : Shr n S (S.set i d) := ⟨by simp, fun j a b hj e1 e2 m q => by
  by_cases hji : j = i
  · subst hji
    rw [e] at e1; cases e1
    rw [List.getElem?_set_self (List.getElem?_eq_some_iff.mp e).1] at e2
    cases e2
    rcases h with h | h
    · exact absurd hj (by omega)
    · exact h m q
  · rw [List.getElem?_set_ne (fun z => hji z.symm)] at e2
    rw [e1] at e2; cases e2; exact q⟩
structure Fr (n : Nat) (ρ : Ad) (S : Store) (H : Hp) (ρ' : Ad) (S' : Store) (H' : Hp) : Prop where
  kp : Kp ρ H ρ' H'
  shr : Shr n S S'
theorem Fr.refl {n : Nat} {ρ : Ad} {S : Store} {H : Hp} : Fr n ρ S H ρ S H := ⟨Kp.refl, Shr.refl⟩
theorem Fr.trans {n : Nat} {ρ ρ1 ρ2 : Ad} {S S1 S2 : Store} {H H1 H2 : Hp} (a : Fr n ρ S H ρ1 S1 H1) (b : Fr n ρ1 S1 H1 ρ2 S2 H2) : Fr n ρ S H ρ2 S2 H2 := ⟨a.kp.trans b.kp, a.shr.trans b.shr⟩
theorem EnvOk.kp {K : PySem.W.Frag} {ρ ρ' : Ad} {H H' : Hp} {δ : Slots} {σ : St} (e : EnvOk K ρ H δ σ) (k : Kp ρ H ρ' H') : EnvOk K ρ' H' δ σ :=
  ⟨e.1, fun i d h => by
    obtain ⟨v, h1, h2⟩ := e.2 i d h
    exact ⟨v, h1, h2.kp k⟩⟩
/-- an exception: its class, its dict -/
def RX (K : PySem.W.Frag) (ρ : Ad) (H : Hp) (x : D) (cls : Value) (e : Option Addr) : Prop :=
  (∃ C fs, x = .obj C fs ∧ cls = .ref (He.ga K (Str.ofString C)) ∧ ((fs = [] ∧ e = none) ∨ ∃ dd gs, e = some dd ∧ H dd = some (.xd gs) ∧ ρ.av dd ∧ RpF K ρ H fs gs)) ∨
  ∃ n, x = .ty n ∧ cls = .type n
theorem RX.kp {K : PySem.W.Frag} {ρ ρ' : Ad} {H H' : Hp} {x : D} {cls : Value} {e : Option Addr} (h : RX K ρ H x cls e) (k : Kp ρ H ρ' H') : RX K ρ' H' x cls e := by
  rcases h with ⟨C, fs, e1, e2, h⟩ | h
  · refine .inl ⟨C, fs, e1, e2, ?_⟩
    rcases h with h | ⟨dd, gs, e3, e4, n, r⟩
    · exact .inl h
    · exact .inr ⟨dd, gs, e3, k.keep _ _ e4 n.1 (fun _ z => by cases z), k.notin e4 n, RpF.kp k fs gs r⟩
  · exact .inr h

/-- what is wanted of a result: r is reckoned from the store S that stands at ρ in H -/
def Rest {α β : Type} (rel : Ad → Hp → α → β → Prop) (K : PySem.W.Frag) (n : Nat) (ρ : Ad) (S : Store) (H : Hp) (σ : St) (Q : β → Hp → Prop) (W : WX) (r : Res α) : Prop := match r with
  | .ok d S' => ∀ v ρ' H', Good K ρ' S' H' → rel ρ' H' d v → Fr n ρ S H ρ' S' H' → Q v H'
  | .exc x S' => ∀ cls e ρ' H', Good K ρ' S' H' → RX K ρ' H' x cls e → Fr n ρ S H ρ' S' H' → W cls e σ H'
  | .bad => False
section
variable {α β : Type} {rel : Ad → Hp → α → β → Prop} {K : PySem.W.Frag} {n : Nat} {ρ ρ1 : Ad} {S S1 : Store} {H H1 : Hp} {σ : St} {Q Q' : β → Hp → Prop} {W : WX} {r : Res α} {δ : Slots}
theorem Rest.mono (h : Rest rel K n ρ S H σ Q W r) (q : ∀ v H', Q v H' → Q' v H') : Rest rel K n ρ S H σ Q' W r := by
  cases r with
  | ok d S' => exact fun v ρ' H' g a f => q _ _ (h v ρ' H' g a f)
  | exc x S' => exact h
  | bad => exact h
theorem Rest.root (f : Fr n ρ S H ρ1 S1 H1) (h : Rest rel K n ρ S H σ Q W r) : Rest rel K n ρ1 S1 H1 σ Q W r := by
  cases r with
  | ok d S' => exact fun v ρ' H' g a f2 => h v ρ' H' g a (f.trans f2)
  | exc x S' => exact fun c e ρ' H' g a f2 => h c e ρ' H' g a (f.trans f2)
  | bad => exact h
theorem Rest.bind {α' β' : Type} {rel' : Ad → Hp → α' → β' → Prop} {r : Res α'} {f : α' → Store → Res α} (he : EnvOk K ρ H δ σ) (h : Rest rel K n ρ S H σ Q W (r.bind f)) :
    Rest rel' K n ρ S H σ (fun v H1 => ∃ ρ1 S1 d, Good K ρ1 S1 H1 ∧ EnvOk K ρ1 H1 δ σ ∧ rel' ρ1 H1 d v ∧ Fr n ρ S H ρ1 S1 H1 ∧ Rest rel K n ρ1 S1 H1 σ Q W (f d S1)) W r := by
  cases r with
  | ok d S' => exact fun v ρ' H' g a fr => ⟨ρ', S', d, g, he.kp fr.kp, a, fr, Rest.root fr h⟩
  | exc x S' => exact h
  | bad => exact h
/-- a value, nothing else -/
theorem Rest.val {d : α} {v : β} (h : Rest rel K n ρ S H σ Q W (.ok d S)) (g : Good K ρ S H) (a : rel ρ H d v) : Q v H := h v ρ H g a Fr.refl
end
/-! ### the judgements -/
def tE (K : PySem.W.Frag) (de : DE) (W : WX) : TE := fun σ H Q => ∃ n ρ S δ, Good K ρ S H ∧ EnvOk K ρ H δ σ ∧ Rest (Rp K) K n ρ S H σ Q W (de n δ S)
def tT (K : PySem.W.Frag) (de : DT) (W : WX) : TT := fun σ H Q => ∃ n ρ S δ, Good K ρ S H ∧ EnvOk K ρ H δ σ ∧ Rest (fun _ _ a b => a = b) K n ρ S H σ Q W (de n δ S)
def tA (K : PySem.W.Frag) (de : DA) (W : WX) : TA := fun σ H Q => ∃ n ρ S δ, Good K ρ S H ∧ EnvOk K ρ H δ σ ∧ Rest (RpL K) K n ρ S H σ Q W (de n δ S)
abbrev SE (X : Cx) (W : WX) (e : Expr) (de : DE) : Prop := PE X e (tE X.K de W)
abbrev ST (X : Cx) (W : WX) (e : Expr) (de : DT) : Prop := PT X e (tT X.K de W)
abbrev SA (X : Cx) (W : WX) (es : List Expr) (de : DA) : Prop := PA X es (tA X.K de W)
theorem PE.imp {X : Cx} {e : Expr} {t t' : TE} (h : PE X e t) (i : ∀ σ H Q, t' σ H Q → t σ H Q) : PE X e t' := ⟨fun pins s σ H Q I q => h.run pins s σ H Q I (i σ H Q q)⟩
theorem PT.imp {X : Cx} {e : Expr} {t t' : TT} (h : PT X e t) (i : ∀ σ H Q, t' σ H Q → t σ H Q) : PT X e t' := ⟨fun pins s σ H Q I q => h.run pins s σ H Q I (i σ H Q q)⟩
theorem PA.imp {X : Cx} {e : List Expr} {t t' : TA} (h : PA X e t) (i : ∀ σ H Q, t' σ H Q → t σ H Q) : PA X e t' := ⟨fun pos pins s σ H Q I q => h.run pos pins s σ H Q I (i σ H Q q)⟩
theorem PS.imp {X : Cx} {e : Stmt} {t t' : TS} (h : PS X e t) (i : ∀ D σ H, t' D σ H → t D σ H) : PS X e t' := ⟨fun pins s σ H D I q => h.run pins s σ H D I (i D σ H q)⟩
theorem PSs.imp {X : Cx} {e : List Stmt} {t t' : TS} (h : PSs X e t) (i : ∀ D σ H, t' D σ H → t D σ H) : PSs X e t' := ⟨fun pins s σ H D I q => h.run pins s σ H D I (i D σ H q)⟩
section
variable {X : Cx} {W : WX} {a b : Expr} {da db : DE} {pos : Pos}
/-- the first of two -/
theorem tE.first {K : PySem.W.Frag} {f : D → Store → Res D} {σ : St} {H : Hp} {Q : VK} {n : Nat} {ρ : Ad} {S : Store} {δ : Slots} (g : Good K ρ S H) (e : EnvOk K ρ H δ σ) (h : Rest (Rp K) K n ρ S H σ Q W ((da n δ S).bind f)) :
    tE K da W σ H (fun v H1 => ∃ ρ1 S1 d, Good K ρ1 S1 H1 ∧ EnvOk K ρ1 H1 δ σ ∧ Rp K ρ1 H1 d v ∧ Fr n ρ S H ρ1 S1 H1 ∧ Rest (Rp K) K n ρ1 S1 H1 σ Q W (f d S1)) := ⟨n, ρ, S, δ, g, e, Rest.bind e h⟩
/-! ### names, constants -/
def dVar (i : Nat) : DE := fun _ δ S => match δ[i]? with
  | some (some d) => if isClo d = true then .bad else .ok d S
  | _ => .bad
theorem se_var {i : Nat} {t : TE} (h : PE X a (tVar i)) : SE X W a (dVar i) := PE.imp h fun σ H Q ⟨n, ρ, S, δ, g, e, r⟩ => by
  unfold dVar at r
  split at r
  · rename_i d hd
    split at r
    · exact r.elim
    · rename_i hc
      obtain ⟨v, h1, h2⟩ := e.2 _ _ hd
      exact ⟨v, h1, r.val g (h2.ns (by simpa using hc))⟩
  · exact r.elim
def dC (d : D) : DE := fun _ _ S => .ok d S
/-- a value that asks nothing of the heap -/
def flatD : D → Option V
  | .non => some .non
  | .bl b => some (.bl b)
  | .int i => some (.int i)
  | .str s => some (.str s)
  | .ty n => some (.ty n)
  | _ => none
theorem flatD_rp {K : PySem.W.Frag} {ρ : Ad} {H : Hp} {d : D} {v : V} (h : flatD d = some v) : Rp K ρ H d v := by
  cases d <;> first | (cases h; rfl) | cases h
theorem se_c {d : D} {v : V} (h : PE X a (tC v)) (e : flatD d = some v := by rfl) : SE X W a (dC d) := PE.imp h fun σ H Q ⟨n, ρ, S, δ, g, _, r⟩ => r.val g (flatD_rp e)
theorem se_int {i j pos} : SE X W (.Constant (.int i) j pos) (dC (.int i)) := se_c pe_int
theorem se_bl {i j pos} : SE X W (.Constant (.bool i) j pos) (dC (.bl i)) := se_c pe_bl
theorem se_non {j pos} : SE X W (.Constant .none j pos) (dC .non) := se_c pe_non
theorem se_str {i j pos} : SE X W (.Constant (.str i) j pos) (dC (.str i)) := se_c pe_str
/-! ### two operands -/
def dBin (op : D → D → Store → Res D) (da db : DE) : DE := fun n δ S => (da n δ S).bind fun x S1 => (db n δ S1).bind fun y S2 => op x y S2
def OpG (K : PySem.W.Frag) (W : WX) (r : R2) (op : D → D → Store → Res D) : Prop := ∀ n ρ S H σ dx dy x y Q, Good K ρ S H → Rp K ρ H dx x → Rp K ρ H dy y → Rest (Rp K) K n ρ S H σ Q W (op dx dy S) → r x y H Q
theorem tE.bin {K : PySem.W.Frag} {r : R2} {op : D → D → Store → Res D} (ho : OpG K W r op) {σ : St} {H : Hp} {Q : VK} (h : tE K (dBin op da db) W σ H Q) : tOp r (tE K da W) (tE K db W) σ H Q := by
  obtain ⟨n, ρ, S, δ, g, e, h⟩ := h
  refine ⟨n, ρ, S, δ, g, e, (Rest.bind e h).mono fun x H1 ⟨ρ1, S1, d1, g1, e1, r1, f1, h1⟩ => ?_⟩
  refine ⟨n, ρ1, S1, δ, g1, e1, (Rest.bind e1 h1).mono fun y H2 ⟨ρ2, S2, d2, g2, e2, r2, f2, h2⟩ => ?_⟩
  exact ho n ρ2 S2 H2 σ d1 d2 x y Q g2 (r1.kp f2.kp) r2 h2
theorem se_op {o : Operator} {r : R2} {op : D → D → Store → Res D} (hr : OpR X (binaryOp o) r) (ho : OpG X.K W r op) (ha : SE X W a da) (hb : SE X W b db) : SE X W (.BinOp a o b pos) (dBin op da db) := PE.imp (pe_op hr ha hb) fun _ _ _ h => tE.bin ho h
theorem se_cmp {o : CmpOp} {r : R2} {op : D → D → Store → Res D} (hr : OpR X (compareOp o) r) (ho : OpG X.K W r op) (ha : SE X W a da) (hb : SE X W b db) (hm : behindInMarks o b = false) : SE X W (.Compare a [o] [b] pos) (dBin op da db) := PE.imp (pe_cmpR hr ha hb hm) fun _ _ _ h => tE.bin ho h
end
end G

namespace G
open PySem L2 PyProof.Rows
/-! ### sequences, by value or in the store -/
def seqL (S : Store) : D → Option (List D)
  | .lst ds => some ds
  | .ref i => match S[i]? with
    | some (.lst ds) => some ds
    | _ => none
  | _ => none
section
variable {K : PySem.W.Frag} {ρ : Ad} {S : Store} {H : Hp} {σ : L2.St} {W : WX} {n : Nat}
theorem RpL.length : ∀ {ds : List D} {vs : List V}, RpL K ρ H ds vs → vs.length = ds.length
  | [], _, h => by rw [show _ = [] from h]; rfl
  | d :: ds, _, ⟨v, ws, e, _, r⟩ => by rw [e, List.length_cons, List.length_cons, RpL.length r]
theorem RpL.append : ∀ {ds es : List D} {vs ws : List V}, RpL K ρ H ds vs → RpL K ρ H es ws → RpL K ρ H (ds ++ es) (vs ++ ws)
  | [], _, _, _, h, q => by rw [show _ = [] from h]; exact q
  | d :: ds, _, _, _, ⟨v, ws, e, h, r⟩, q => by rw [e]; exact ⟨v, ws ++ _, rfl, h, RpL.append r q⟩
theorem RpL.get : ∀ {ds : List D} {vs : List V} {i : Nat} {d : D}, RpL K ρ H ds vs → ds[i]? = some d → ∃ v, vs[i]? = some v ∧ Rp K ρ H d v
  | [], _, _, _, _, q => by simp at q
  | d :: ds, _, 0, _, ⟨v, ws, e, h, r⟩, q => by
    simp at q; subst q; subst e
    exact ⟨v, rfl, h⟩
  | d :: ds, _, i + 1, _, ⟨v, ws, e, h, r⟩, q => by
    subst e
    obtain ⟨u, h1, h2⟩ := RpL.get (i := i) r (by simpa using q)
    exact ⟨u, by simpa using h1, h2⟩
theorem RpL.one {d : D} {v : V} (h : Rp K ρ H d v) : RpL K ρ H [d] [v] := ⟨v, [], rfl, h, rfl⟩
theorem RpL.take : ∀ {ds : List D} {vs : List V} (k : Nat), RpL K ρ H ds vs → RpL K ρ H (ds.take k) (vs.take k)
  | _, _, 0, _ => rfl
  | [], _, _ + 1, h => by rw [show _ = [] from h]; rfl
  | d :: ds, _, k + 1, ⟨v, ws, e, h, r⟩ => by rw [e]; exact ⟨v, ws.take k, rfl, h, RpL.take k r⟩
theorem RpL.drop : ∀ {ds : List D} {vs : List V} (k : Nat), RpL K ρ H ds vs → RpL K ρ H (ds.drop k) (vs.drop k)
  | _, _, 0, h => h
  | [], _, _ + 1, h => by rw [show _ = [] from h]; rfl
  | d :: ds, _, k + 1, ⟨v, ws, e, h, r⟩ => by rw [e]; exact RpL.drop k r
theorem RpL.set : ∀ {ds : List D} {vs : List V} {d : D} {v : V} (i : Nat), RpL K ρ H ds vs → Rp K ρ H d v → RpL K ρ H (ds.set i d) (vs.set i v)
  | [], _, _, _, _, h, _ => by rw [show _ = [] from h]; rfl
  | _ :: ds, _, _, _, 0, ⟨v, ws, e, h, r⟩, q => by rw [e]; exact ⟨_, ws, rfl, q, r⟩
  | _ :: ds, _, _, _, i + 1, ⟨v, ws, e, h, r⟩, q => by rw [e]; exact ⟨v, _, rfl, h, RpL.set i r q⟩
theorem Good.at {i : Nat} {a : Addr} {c : Cell} (g : Good K ρ S H) (h : ρ.r[i]? = some a) (e : S[i]? = some c) : CellOk K ρ H a c := g.cell i a c h e
theorem seqL_rp (g : Good K ρ S H) {d : D} {v : V} {ds : List D} (h : Rp K ρ H d v) (e : seqL S d = some ds) : ∃ a vs, v = .ref a ∧ Rd H a (.lst vs) ∧ RpL K ρ H ds vs := by
  cases d <;> simp only [seqL, reduceCtorEq, Option.some.injEq] at e
  case lst es =>
    subst e
    obtain ⟨a, vs, e, t, r⟩ := h
    exact ⟨a, vs, e, t.1, r⟩
  case ref i =>
    obtain ⟨a, h1, h2⟩ := h
    split at e
    · rename_i es he
      cases e
      obtain ⟨vs, h3, r⟩ := g.at h1 he
      exact ⟨a, vs, h2, .inl h3, r⟩
    · cases e
theorem tup_rp {ds : List D} {v : V} (h : Rp K ρ H (.tup ds) v) : ∃ a vs, v = .ref a ∧ SqT K H a vs ∧ RpL K ρ H ds vs := by
  obtain ⟨a, vs, e, t, r⟩ := h
  exact ⟨a, vs, e, t.sq, r⟩
/-- a new object that is no store cell -/
theorem Kp.fresh {p : Addr} {o : HO} (h : H p = none) : Kp ρ H ρ (upd H p o) := (⟨List.prefix_refl _, fun _ m => .inl m, fun _ m => m, fun a u e _ => by rw [upd_ne (ne_of_none e h)]; exact e, fun _ m n => absurd m n⟩ : Kp5 ρ H ρ (upd H p o)).kp
theorem CellOk.kp {ρ' : Ad} {H' : Hp} {a : Addr} (k : Kp ρ H ρ' H') (hk : ∀ o, H a = some o → H' a = some o) : ∀ {c : Cell}, CellOk K ρ H a c → CellOk K ρ' H' a c
  | .lst _, ⟨vs, e, r⟩ => ⟨vs, hk _ e, r.kp k⟩
  | .dct _, ⟨vs, e, r⟩ => ⟨vs, hk _ e, r.kp k⟩
  | .ins _ _, ⟨dx, vs, e, r⟩ => ⟨dx, vs, hk _ e, r.kp k⟩
  | .gone, ⟨o, e⟩ => ⟨o, hk _ e⟩
theorem Good.tracked (g : Good K ρ S H) {a : Addr} (h : a ∈ ρ.r) : ∃ o, H a = some o := by
  obtain ⟨i, hi, e⟩ := List.getElem_of_mem h
  have h1 : ρ.r[i]? = some a := by rw [List.getElem?_eq_getElem hi, e]
  have hs : i < S.length := g.len ▸ hi
  have h2 := g.at h1 (List.getElem?_eq_getElem hs)
  revert h2
  cases S[i] with
  | lst _ => exact fun ⟨_, e, _⟩ => ⟨_, e⟩
  | dct _ => exact fun ⟨_, e, _⟩ => ⟨_, e⟩
  | ins _ _ => exact fun ⟨_, _, e, _⟩ => ⟨_, e⟩
  | gone => exact fun h => h
theorem Good.fresh (g : Good K ρ S H) {p : Addr} {o : HO} (h : H p = none) : Good K ρ S (upd H p o) :=
  ⟨g.len, g.nd, fun i a c h1 h2 => (g.cell i a c h1 h2).kp (Kp.fresh h) fun u e => by rw [upd_ne (ne_of_none e h)]; exact e, fun a m => ⟨(g.hid a m).1, by
    obtain ⟨u, e⟩ := (g.hid a m).2
    exact ⟨u, by rw [upd_ne (ne_of_none e h)]; exact e⟩⟩, g.tab.to fun b u e n => ⟨by rw [upd_ne (ne_of_none e h)]; exact e, n⟩⟩
theorem Good.notin (g : Good K ρ S H) {p : Addr} (h : H p = none) : ρ.av p := by
  refine ⟨fun m => ?_, fun m => ?_⟩
  · obtain ⟨o, e⟩ := g.tracked m
    rw [e] at h
    cases h
  · obtain ⟨o, e⟩ := (g.hid p m).2
    rw [e] at h
    cases h
/-- a new list, a new tuple -/
theorem rp_newL (g : Good K ρ S H) {p : Addr} {ds : List D} {vs : List V} (h : H p = none) (r : RpL K ρ H ds vs) : Rp K ρ (upd H p (.lst vs)) (.lst ds) (.ref p) :=
  ⟨p, vs, rfl, ⟨.inl upd_same, g.notin h⟩, RpL.kp (Kp.fresh h) ds vs r⟩
theorem rp_newT (g : Good K ρ S H) {p : Addr} {ds : List D} {vs : List V} (h : H p = none) (r : RpL K ρ H ds vs) : Rp K ρ (upd H p (.tup vs)) (.tup ds) (.ref p) :=
  ⟨p, vs, rfl, .inl ⟨.inl upd_same, g.notin h⟩, RpL.kp (Kp.fresh h) ds vs r⟩
theorem Rest.newL {Q : VK} {ds : List D} {vs : List V} {p : Addr} (h : Rest (Rp K) K n ρ S H σ Q W (.ok (.lst ds) S)) (g : Good K ρ S H) (r : RpL K ρ H ds vs) (hp : H p = none) : Q (.ref p) (upd H p (.lst vs)) :=
  h _ ρ _ (g.fresh hp) (rp_newL g hp r) ⟨Kp.fresh hp, Shr.refl⟩
theorem Rest.newT {Q : VK} {ds : List D} {vs : List V} {p : Addr} (h : Rest (Rp K) K n ρ S H σ Q W (.ok (.tup ds) S)) (g : Good K ρ S H) (r : RpL K ρ H ds vs) (hp : H p = none) : Q (.ref p) (upd H p (.tup vs)) :=
  h _ ρ _ (g.fresh hp) (rp_newT g hp r) ⟨Kp.fresh hp, Shr.refl⟩
end
/-! ### ints -/
def dI2 (C : Int → Int → Bool) (f : Int → Int → Int) : D → D → Store → Res D
  | .int i, .int j, S => if C i j then .ok (.int (f i j)) S else .bad
  | _, _, _ => .bad
def dAddI : D → D → Store → Res D
  | .int i, .int j, S => .ok (.int (i + j)) S
  | _, _, _ => .bad
def dSub : D → D → Store → Res D
  | .int i, .int j, S => .ok (.int (i - j)) S
  | _, _, _ => .bad
def dMul : D → D → Store → Res D := dI2 (fun i j => decide (i.natAbs.log2 + j.natAbs.log2 < 1000000)) (· * ·)
def dMod : D → D → Store → Res D := dI2 (fun _ j => decide (0 < j)) (· % ·)
def dFdiv : D → D → Store → Res D := dI2 (fun _ j => decide (0 < j) && decide (j.natAbs.log2 < 9000)) (· / ·)
def dPow : D → D → Store → Res D := dI2 (fun i j => decide (0 ≤ j) && (decide (j ≤ 1000000) && decide (i.natAbs < 2 ^ 64))) fun i j => i ^ j.toNat
def dCmpI (f : Int → Int → Bool) : D → D → Store → Res D
  | .int i, .int j, S => .ok (.bl (f i j)) S
  | _, _, _ => .bad
section
variable {K : PySem.W.Frag} {W : WX}
theorem og_I0 {f : Int → Int → Int} {g : D → D → Store → Res D} (h : ∀ x y S, g x y S = .bad ∨ ∃ i j, x = .int i ∧ y = .int j ∧ g x y S = .ok (.int (f i j)) S) : OpG K W (rI0 fun i j => .int (f i j)) g := by
  intro n ρ S H σ dx dy x y Q gd rx ry r
  rcases h dx dy S with e | ⟨i, j, rfl, rfl, e⟩
  · rw [e] at r; exact False.elim r
  · rw [e] at r
    exact ⟨i, j, rx, ry, r.val gd rfl⟩
theorem og_add : OpG K W (rI0 fun i j => .int (i + j)) dAddI := og_I0 fun x y S => by
  cases x <;> first | exact .inl rfl | (cases y <;> first | exact .inl rfl | exact .inr ⟨_, _, rfl, rfl, rfl⟩)
theorem og_sub : OpG K W (rI0 fun i j => .int (i - j)) dSub := og_I0 fun x y S => by
  cases x <;> first | exact .inl rfl | (cases y <;> first | exact .inl rfl | exact .inr ⟨_, _, rfl, rfl, rfl⟩)
theorem og_I2 {C : Int → Int → Prop} {c : Int → Int → Bool} {f : Int → Int → Int} (hC : ∀ i j, c i j = true → C i j) : OpG K W (rI C fun i j => .int (f i j)) (dI2 c f) := by
  intro n ρ S H σ dx dy x y Q gd rx ry r
  cases dx <;> first | exact False.elim r | skip
  cases dy <;> first | exact False.elim r | skip
  rename_i i j
  simp only [dI2] at r
  split at r
  · rename_i hc
    exact ⟨i, j, rx, ry, hC i j hc, r.val gd rfl⟩
  · exact False.elim r
theorem og_mul : OpG K W (rI CMulW fun i j => .int (i * j)) dMul := og_I2 fun i j h => of_decide_eq_true (p := i.natAbs.log2 + j.natAbs.log2 < 1000000) h
theorem og_mod : OpG K W (rI (fun _ j => 0 < j) fun i j => .int (i % j)) dMod := og_I2 fun i j h => of_decide_eq_true h
theorem og_fdiv : OpG K W (rI CDivW fun i j => .int (i / j)) dFdiv := og_I2 fun i j h => by
  simp only [Bool.and_eq_true, decide_eq_true_eq] at h
  exact h
theorem og_pow : OpG K W (rI CPow fun i j => .int (i ^ j.toNat)) dPow := og_I2 fun i j h => by
  simp only [Bool.and_eq_true, decide_eq_true_eq] at h
  exact h
theorem og_cmpI {f : Int → Int → Bool} : OpG K W (rI0 fun i j => .bl (f i j)) (dCmpI f) := by
  intro n ρ S H σ dx dy x y Q gd rx ry r
  cases dx <;> first | exact False.elim r | skip
  cases dy <;> first | exact False.elim r | skip
  exact ⟨_, _, rx, ry, r.val gd rfl⟩
end
/-! ### texts -/
def dAddS : D → D → Store → Res D
  | .str a, .str b, S => if a.length + b.length ≤ sizeLine then .ok (.str (a ++ b)) S else .bad
  | _, _, _ => .bad
def dCmpS (f : Str → Str → Bool) : D → D → Store → Res D
  | .str a, .str b, S => .ok (.bl (f a b)) S
  | _, _, _ => .bad
section
variable {K : PySem.W.Frag} {W : WX}
theorem og_addS : OpG K W (fun x y H Q => ∃ i j, x = .str i ∧ y = .str j ∧ i.length + j.length ≤ sizeLine ∧ Q (.str (i ++ j)) H) dAddS := by
  intro n ρ S H σ dx dy x y Q gd rx ry r
  cases dx <;> first | exact False.elim r | skip
  cases dy <;> first | exact False.elim r | skip
  simp only [dAddS] at r
  split at r
  · exact ⟨_, _, rx, ry, by assumption, r.val gd rfl⟩
  · exact False.elim r
theorem og_cmpS {f : Str → Str → Bool} : OpG K W (fun x y H Q => ∃ i j, x = .str i ∧ y = .str j ∧ Q (.bl (f i j)) H) (dCmpS f) := by
  intro n ρ S H σ dx dy x y Q gd rx ry r
  cases dx <;> first | exact False.elim r | skip
  cases dy <;> first | exact False.elim r | skip
  exact ⟨_, _, rx, ry, r.val gd rfl⟩
end
/-- a sign in a text, not in a text -/
def dInSign (neg : Bool) : D → D → Store → Res D
  | .str a, .str b, S => if a.cps.size = 1 then .ok (.bl (if neg then !decide (a.cps.getD 0 0 ∈ b.cps.toList) else decide (a.cps.getD 0 0 ∈ b.cps.toList))) S else .bad
  | _, _, _ => .bad
theorem str_one {a : Str} (h : a.cps.size = 1) : a = ⟨#[a.cps.getD 0 0]⟩ := by
  obtain ⟨⟨l⟩⟩ := a
  match l, h with
  | [c], _ => rfl
section
variable {K : PySem.W.Frag} {W : WX}
theorem og_inSign : OpG K W (fun x y H Q => ∃ (c : Nat) (z : Str), x = .str ⟨#[c]⟩ ∧ y = .str z ∧ Q (.bl (decide (c ∈ z.cps.toList))) H) (dInSign false) := by
  intro n ρ S H σ dx dy x y Q gd rx ry r
  cases dx <;> first | exact False.elim r | skip
  cases dy <;> first | exact False.elim r | skip
  rename_i a b
  simp only [dInSign] at r
  split at r
  · rename_i h
    have e := str_one h
    refine ⟨a.cps.getD 0 0, b, ?_, ry, r.val gd rfl⟩
    rw [← e]; exact rx
  · exact False.elim r
theorem og_notInSign : OpG K W (fun x y H Q => ∃ (c : Nat) (z : Str), x = .str ⟨#[c]⟩ ∧ y = .str z ∧ Q (.bl (!decide (c ∈ z.cps.toList))) H) (dInSign true) := by
  intro n ρ S H σ dx dy x y Q gd rx ry r
  cases dx <;> first | exact False.elim r | skip
  cases dy <;> first | exact False.elim r | skip
  rename_i a b
  simp only [dInSign] at r
  split at r
  · rename_i h
    have e := str_one h
    refine ⟨a.cps.getD 0 0, b, ?_, ry, r.val gd rfl⟩
    rw [← e]; exact rx
  · exact False.elim r
end
/-! ### == of data; in, not in -/
mutual
def toPy (S : Store) : D → Option PyData
  | .non => some .none
  | .bl b => some (.bool b)
  | .int i => some (.int i)
  | .str s => some (.str s)
  | .tup ds => (toPyL S ds).map .tuple
  | .lst ds => (toPyL S ds).map .list
  | .ref i => match S[i]? with
    | some (.lst ds) => (flatPy ds).map .list
    | _ => none
  | _ => none
def toPyL (S : Store) : List D → Option (List PyData)
  | [] => some []
  | d :: ds => match toPy S d, toPyL S ds with
    | some p, some ps => some (p :: ps)
    | _, _ => none
/-- the items of a store cell: data without references -/
def flatPy : List D → Option (List PyData)
  | [] => some []
  | d :: ds => match valPy d, flatPy ds with
    | some p, some ps => some (p :: ps)
    | _, _ => none
def valPy : D → Option PyData
  | .non => some .none
  | .bl b => some (.bool b)
  | .int i => some (.int i)
  | .str s => some (.str s)
  | .tup ds => (flatPy ds).map .tuple
  | .lst ds => (flatPy ds).map .list
  | _ => none
end
section
variable {K : PySem.W.Frag} {ρ : Ad} {S : Store} {H : Hp} {σ : L2.St} {W : WX}
mutual
theorem valPy_dp : ∀ (d : D) (p : PyData) (v : V), valPy d = some p → Rp K ρ H d v → Dp K H v p
  | .non, p, v, e, h => by cases e; rw [show v = _ from h]; exact .non
  | .bl b, p, v, e, h => by cases e; rw [show v = _ from h]; exact .bl b
  | .int i, p, v, e, h => by cases e; rw [show v = _ from h]; exact .int i
  | .str s, p, v, e, h => by cases e; rw [show v = _ from h]; exact .str s
  | .tup ds, p, v, e, h => by
    obtain ⟨a, vs, e1, t, r⟩ := tup_rp h
    obtain ⟨ps, h1, h2⟩ := Option.map_eq_some_iff.mp (show (flatPy ds).map .tuple = some p from e)
    subst e1; subst h2
    exact .tup t (flatPy_dp ds ps vs h1 r)
  | .lst ds, p, v, e, h => by
    obtain ⟨a, vs, e1, t, r⟩ := h
    obtain ⟨ps, h1, h2⟩ := Option.map_eq_some_iff.mp (show (flatPy ds).map .list = some p from e)
    subst e1; subst h2
    exact .lst t.sq (flatPy_dp ds ps vs h1 r)
  | .ty _, _, _, e, _ => by cases e
  | .glo _, _, _, e, _ => by cases e
  | .dct _, _, _, e, _ => by cases e
  | .obj _ _, _, _, e, _ => by cases e
  | .exn _ _, _, _, e, _ => by cases e
  | .ref _, _, _, e, _ => by cases e
theorem flatPy_dp : ∀ (ds : List D) (ps : List PyData) (vs : List V), flatPy ds = some ps → RpL K ρ H ds vs → DpAll K H vs ps
  | [], ps, vs, e, h => by cases e; rw [show vs = _ from h]; exact .nil
  | d :: ds, ps, vs, e, ⟨v, ws, e1, h, r⟩ => by
    unfold flatPy at e
    cases e2 : valPy d with
    | none => rw [e2] at e; cases e
    | some p =>
      cases e3 : flatPy ds with
      | none => rw [e2, e3] at e; cases e
      | some qs =>
        rw [e2, e3] at e
        cases e; subst e1
        exact .cons (valPy_dp d p v e2 h) (flatPy_dp ds qs ws e3 r)
end
mutual
theorem toPy_dp (g : Good K ρ S H) : ∀ (d : D) (p : PyData) (v : V), toPy S d = some p → Rp K ρ H d v → Dp K H v p
  | .non, p, v, e, h => by cases e; rw [show v = _ from h]; exact .non
  | .bl b, p, v, e, h => by cases e; rw [show v = _ from h]; exact .bl b
  | .int i, p, v, e, h => by cases e; rw [show v = _ from h]; exact .int i
  | .str s, p, v, e, h => by cases e; rw [show v = _ from h]; exact .str s
  | .tup ds, p, v, e, h => by
    obtain ⟨a, vs, e1, t, r⟩ := tup_rp h
    obtain ⟨ps, h1, h2⟩ := Option.map_eq_some_iff.mp (show (toPyL S ds).map .tuple = some p from e)
    subst e1; subst h2
    exact .tup t (toPyL_dp g ds ps vs h1 r)
  | .lst ds, p, v, e, h => by
    obtain ⟨a, vs, e1, t, r⟩ := h
    obtain ⟨ps, h1, h2⟩ := Option.map_eq_some_iff.mp (show (toPyL S ds).map .list = some p from e)
    subst e1; subst h2
    exact .lst t.sq (toPyL_dp g ds ps vs h1 r)
  | .ref i, p, v, e, h => by
    obtain ⟨a, h1, h2⟩ := h
    unfold toPy at e
    split at e
    · rename_i ds hc
      obtain ⟨vs, h3, r⟩ := g.at h1 hc
      obtain ⟨ps, h4, h5⟩ := Option.map_eq_some_iff.mp e
      subst h2; subst h5
      exact .lst (SqL.of h3) (flatPy_dp ds ps vs h4 r)
    · cases e
  | .ty _, _, _, e, _ => by cases e
  | .glo _, _, _, e, _ => by cases e
  | .dct _, _, _, e, _ => by cases e
  | .obj _ _, _, _, e, _ => by cases e
  | .exn _ _, _, _, e, _ => by cases e
theorem toPyL_dp (g : Good K ρ S H) : ∀ (ds : List D) (ps : List PyData) (vs : List V), toPyL S ds = some ps → RpL K ρ H ds vs → DpAll K H vs ps
  | [], ps, vs, e, h => by cases e; rw [show vs = _ from h]; exact .nil
  | d :: ds, ps, vs, e, ⟨v, ws, e1, h, r⟩ => by
    unfold toPyL at e
    cases e2 : toPy S d with
    | none => rw [e2] at e; cases e
    | some p =>
      cases e3 : toPyL S ds with
      | none => rw [e2, e3] at e; cases e
      | some qs =>
        rw [e2, e3] at e
        cases e; subst e1
        exact .cons (toPy_dp g d p v e2 h) (toPyL_dp g ds qs ws e3 r)
end
end
/-- flat values compared -/
def scalD : D → Bool
  | .non => true
  | .bl _ => true
  | .int _ => true
  | .str _ => true
  | _ => false
def dEq (neg : Bool) : D → D → Store → Res D := fun x y S => match toPy S x, toPy S y with
  | some p, some q => if SeqAt.shaped p && SeqAt.shaped q then .ok (.bl (if neg then !PyData.eqv p q else PyData.eqv p q)) S else .bad
  | _, _ => .bad
section
variable {K : PySem.W.Frag} {W : WX} {X : Cx}
theorem og_eqD : OpG K W (rEqD K) (dEq false) := by
  intro n ρ S H σ dx dy x y Q gd rx ry r
  unfold dEq at r
  split at r
  · rename_i p q e1 e2
    split at r
    · rename_i h
      simp only [Bool.and_eq_true] at h
      exact ⟨p, q, toPy_dp gd _ _ _ e1 rx, toPy_dp gd _ _ _ e2 ry, h.1, h.2, r.val gd rfl⟩
    · exact False.elim r
  · exact False.elim r
theorem og_neD : OpG K W (rNeD K) (dEq true) := by
  intro n ρ S H σ dx dy x y Q gd rx ry r
  unfold dEq at r
  split at r
  · rename_i p q e1 e2
    split at r
    · rename_i h
      simp only [Bool.and_eq_true] at h
      exact ⟨p, q, toPy_dp gd _ _ _ e1 rx, toPy_dp gd _ _ _ e2 ry, h.1, h.2, r.val gd rfl⟩
    · exact False.elim r
  · exact False.elim r
/-- x in c, c a list or a tuple of data -/
def rInA (K : PySem.W.Frag) (neg : Bool) : R2 := fun x y H Q => ∃ d ds, Dp K H x d ∧ (Dp K H y (.list ds) ∨ Dp K H y (.tuple ds)) ∧ SeqAt.shaped d = true ∧ PyData.canLayAll0 ds = true ∧ Q (.bl (if neg then !(ds.any fun z => PyData.eqv z d) else ds.any fun z => PyData.eqv z d)) H
theorem op_inA (hu : X.A.units + 65 < cLine) : OpR X (compareOp .In) (rInA X.K false) := by
  intro pins s σ H x y v u Q I rx ry h
  obtain ⟨d, ds, hd, he, sd, se, q⟩ := h
  obtain ⟨as, r1⟩ := Dp.reads I d x v hd rx
  rcases he with he | he
  · obtain ⟨bs, r2⟩ := Dp.reads I (.list ds) y u he ry
    exact SeqAt.in_list_reads r2 r1 se (SeqAt.canLay_of_shaped sd) (room_in_shaped sd hu) ⟨.bl _, H, I, rfl, q⟩
  · obtain ⟨bs, r2⟩ := Dp.reads I (.tuple ds) y u he ry
    exact SeqAt.in_tuple_reads r2 r1 se (SeqAt.canLay_of_shaped sd) (room_in_shaped sd hu) ⟨.bl _, H, I, rfl, q⟩
theorem op_notInA (hu : X.A.units + 65 < cLine) : OpR X (compareOp .NotIn) (rInA X.K true) := by
  intro pins s σ H x y v u Q I rx ry h
  obtain ⟨d, ds, hd, he, sd, se, q⟩ := h
  obtain ⟨as, r1⟩ := Dp.reads I d x v hd rx
  rcases he with he | he
  · obtain ⟨bs, r2⟩ := Dp.reads I (.list ds) y u he ry
    exact SeqAt.notIn_list_reads r2 r1 se (SeqAt.canLay_of_shaped sd) (room_in_shaped sd hu) ⟨.bl _, H, I, rfl, q⟩
  · obtain ⟨bs, r2⟩ := Dp.reads I (.tuple ds) y u he ry
    exact SeqAt.notIn_tuple_reads r2 r1 se (SeqAt.canLay_of_shaped sd) (room_in_shaped sd hu) ⟨.bl _, H, I, rfl, q⟩
def dIn (neg : Bool) : D → D → Store → Res D := fun x y S => match toPy S x, toPy S y with
  | some p, some (.list ds) => if SeqAt.shaped p && PyData.canLayAll0 ds then .ok (.bl (if neg then !(ds.any fun z => PyData.eqv z p) else ds.any fun z => PyData.eqv z p)) S else .bad
  | some p, some (.tuple ds) => if SeqAt.shaped p && PyData.canLayAll0 ds then .ok (.bl (if neg then !(ds.any fun z => PyData.eqv z p) else ds.any fun z => PyData.eqv z p)) S else .bad
  | _, _ => .bad
theorem og_in {neg : Bool} : OpG K W (rInA K neg) (dIn neg) := by
  intro n ρ S H σ dx dy x y Q gd rx ry r
  unfold dIn at r
  split at r
  · rename_i p ds e1 e2
    split at r
    · rename_i h
      simp only [Bool.and_eq_true] at h
      exact ⟨p, ds, toPy_dp gd _ _ _ e1 rx, .inl (toPy_dp gd _ _ _ e2 ry), h.1, h.2, r.val gd rfl⟩
    · exact False.elim r
  · rename_i p ds e1 e2
    split at r
    · rename_i h
      simp only [Bool.and_eq_true] at h
      exact ⟨p, ds, toPy_dp gd _ _ _ e1 rx, .inr (toPy_dp gd _ _ _ e2 ry), h.1, h.2, r.val gd rfl⟩
    · exact False.elim r
  · exact False.elim r
/-! ### is None -/
def isNon : D → Bool
  | .non => true
  | _ => false
def dIsN (neg : Bool) : D → D → Store → Res D
  | d, .non, S => .ok (.bl (if neg then !isNon d else isNon d)) S
  | _, _, _ => .bad
theorem rp_non {ρ : Ad} {H : Hp} {d : D} {v : V} (h : Rp K ρ H d v) : decide (v = .non) = isNon d := by
  cases d with
  | clo _ _ => exact h.elim
  | non => obtain rfl : v = _ := h; rfl
  | bl _ => obtain rfl : v = _ := h; rfl
  | int _ => obtain rfl : v = _ := h; rfl
  | str _ => obtain rfl : v = _ := h; rfl
  | ty _ => obtain rfl : v = _ := h; rfl
  | glo _ => obtain rfl : v = _ := h; rfl
  | tup _ => obtain ⟨a, _, rfl, _⟩ := h; rfl
  | lst _ => obtain ⟨a, _, rfl, _⟩ := h; rfl
  | dct _ => obtain ⟨a, _, rfl, _⟩ := h; rfl
  | obj _ _ => obtain ⟨a, _, _, rfl, _⟩ := h; rfl
  | exn _ _ => obtain ⟨a, _, _, rfl, _⟩ := h; rfl
  | ref _ => obtain ⟨a, _, rfl⟩ := h; rfl
theorem og_isN : OpG K W (fun x y H Q => y = .non ∧ Q (.bl (decide (x = .non))) H) (dIsN false) := by
  intro n ρ S H σ dx dy x y Q gd rx ry r
  cases dy <;> first | exact False.elim r | skip
  refine ⟨ry, ?_⟩
  rw [rp_non rx]
  exact r.val gd rfl
theorem og_notN : OpG K W (fun x y H Q => y = .non ∧ Q (.bl (!decide (x = .non))) H) (dIsN true) := by
  intro n ρ S H σ dx dy x y Q gd rx ry r
  cases dy <;> first | exact False.elim r | skip
  refine ⟨ry, ?_⟩
  rw [rp_non rx]
  exact r.val gd rfl
/-! ### + of lists, of tuples -/
theorem Rd.obj {K : PySem.W.Frag} {P : Program} {w : World} {H : Hp} {h : Heap} {a : Addr} {xs : List V} (r : Rd H a (.lst xs)) (x : HOk P w H h) :
    xs.length ≤ sizeLine ∧ ∃ (its : List Value) (n : Nat), Vals xs its ∧ h.get? a = some { cls := .type "list", data := .seq its.toArray n } := r.ok x
def rCatL : R2 := fun x y H Q => ∃ l b xs zs, x = .ref l ∧ y = .ref b ∧ Rd H l (.lst xs) ∧ Rd H b (.lst zs) ∧ xs.length + zs.length ≤ sizeLine ∧ ∀ p, H p = none → Q (.ref p) (upd H p (.lst (xs ++ zs)))
theorem op_catL : OpR X (binaryOp .Add) rCatL := by
  intro pins s σ H x y v u Q I rx ry h
  obtain ⟨l, b, xs, zs, rfl, rfl, hH, hB, hz, q⟩ := h
  cases rx
  cases ry
  obtain ⟨z, its, n, r, e⟩ := hH.ok I.hok
  obtain ⟨z2, its2, n2, r2, e2⟩ := hB.ok I.hok
  have hl := r.length
  have hl2 := r2.length
  refine PySem.P.add_list e e2 ?_ (by rw [List.size_toArray, List.size_toArray]; omega)
  have ea : its.toArray ++ its2.toArray = (its ++ its2).toArray := by simp
  rw [ea]
  exact ⟨.ref _, _, I.lnew (t' := s.toks) (r.append r2) (by rw [List.length_append]; omega), rfl, q _ I.fresh⟩
def dAddL : D → D → Store → Res D := fun x y S => match seqL S x, seqL S y with
  | some xs, some ys => if xs.length + ys.length ≤ sizeLine then .ok (.lst (xs ++ ys)) S else .bad
  | _, _ => .bad
theorem og_catL : OpG K W rCatL dAddL := by
  intro n ρ S H σ dx dy x y Q gd rx ry r
  unfold dAddL at r
  split at r
  · rename_i xs ys e1 e2
    split at r
    · rename_i h
      obtain ⟨a, vs, e3, s3, r3⟩ := seqL_rp gd rx e1
      obtain ⟨b, ws, e4, s4, r4⟩ := seqL_rp gd ry e2
      exact ⟨a, b, vs, ws, e3, e4, s3, s4, by rw [r3.length, r4.length]; exact h, fun p hp => Rest.newL (σ := σ) (W := W) r gd (r3.append r4) hp⟩
    · exact False.elim r
  · exact False.elim r
def dAddT : D → D → Store → Res D
  | .tup xs, .tup ys, S => if xs.length + ys.length ≤ sizeLine then .ok (.tup (xs ++ ys)) S else .bad
  | _, _, _ => .bad
theorem og_catT : OpG K W (rCatA K) dAddT := by
  intro n ρ S H σ dx dy x y Q gd rx ry r
  cases dx <;> first | exact False.elim r | skip
  cases dy <;> first | exact False.elim r | skip
  rename_i xs ys
  simp only [dAddT] at r
  split at r
  · rename_i h
    obtain ⟨a, vs, e3, s3, r3⟩ := tup_rp rx
    obtain ⟨b, ws, e4, s4, r4⟩ := tup_rp ry
    refine ⟨a, b, vs, ws, e3, e4, s3, s4, by rw [r3.length, r4.length]; exact h, fun e => ?_, fun e1 e2 => ?_, fun _ _ p hp => Rest.newT (σ := σ) (W := W) r gd (r3.append r4) hp⟩
    · have : xs = [] := by
        have z := r3.length
        rw [e] at z
        exact List.eq_nil_of_length_eq_zero z.symm
      subst this
      rw [← e4]
      exact r.val gd ry
    · have : ys = [] := by
        have z := r4.length
        rw [e2] at z
        exact List.eq_nil_of_length_eq_zero z.symm
      subst this
      rw [List.append_nil] at r
      rw [← e3]
      exact r.val gd rx
  · exact False.elim r
end
end G

namespace G
open PySem L2
/-! ### statements -/
inductive SR where
  | nx (δ : Slots) (S : Store) | rt (d : D) (S : Store) | bk (δ : Slots) (S : Store) | ct (δ : Slots) (S : Store) | exc (x : D) (δ : Slots) (S : Store) | bad
abbrev DS := Nat → Slots → Store → SR
def SR.andThen (r : SR) (f : Slots → Store → SR) : SR := match r with
  | .nx δ S => f δ S
  | r => r
@[simp] theorem SR.then_nx {δ : Slots} {S : Store} {f : Slots → Store → SR} : (SR.nx δ S).andThen f = f δ S := rfl
@[simp] theorem SR.then_rt {d : D} {S : Store} {f : Slots → Store → SR} : (SR.rt d S).andThen f = .rt d S := rfl
@[simp] theorem SR.then_bk {δ : Slots} {S : Store} {f : Slots → Store → SR} : (SR.bk δ S).andThen f = .bk δ S := rfl
@[simp] theorem SR.then_ct {δ : Slots} {S : Store} {f : Slots → Store → SR} : (SR.ct δ S).andThen f = .ct δ S := rfl
@[simp] theorem SR.then_exc {x : D} {δ : Slots} {S : Store} {f : Slots → Store → SR} : (SR.exc x δ S).andThen f = .exc x δ S := rfl
@[simp] theorem SR.then_bad {f : Slots → Store → SR} : SR.bad.andThen f = .bad := rfl
/-- behind an expression -/
def Res.to {α : Type} (r : Res α) (δ : Slots) (f : α → Store → SR) : SR := match r with
  | .ok a S => f a S
  | .exc x S => .exc x δ S
  | .bad => .bad
@[simp] theorem Res.to_ok {α : Type} {a : α} {S : Store} {δ : Slots} {f : α → Store → SR} : (Res.ok a S).to δ f = f a S := rfl
@[simp] theorem Res.to_exc {α : Type} {x : D} {S : Store} {δ : Slots} {f : α → Store → SR} : (Res.exc x S : Res α).to δ f = .exc x δ S := rfl
@[simp] theorem Res.to_bad {α : Type} {δ : Slots} {f : α → Store → SR} : (Res.bad : Res α).to δ f = .bad := rfl

def RestS (K : PySem.W.Frag) (n : Nat) (ρ : Ad) (S : Store) (H : Hp) (E : Ends) (W : WX) (r : SR) : Prop := match r with
  | .nx δ' S' => ∀ σ' ρ' H', Good K ρ' S' H' → EnvOk K ρ' H' δ' σ' → Fr n ρ S H ρ' S' H' → E.nx σ' H'
  | .rt d S' => ∀ v ρ' H', Good K ρ' S' H' → Rp K ρ' H' d v → Fr n ρ S H ρ' S' H' → E.rt v H'
  | .bk δ' S' => ∀ σ' ρ' H', Good K ρ' S' H' → EnvOk K ρ' H' δ' σ' → Fr n ρ S H ρ' S' H' → E.bk σ' H'
  | .ct δ' S' => ∀ σ' ρ' H', Good K ρ' S' H' → EnvOk K ρ' H' δ' σ' → Fr n ρ S H ρ' S' H' → E.ct σ' H'
  | .exc x δ' S' => ∀ σ' cls e ρ' H', Good K ρ' S' H' → EnvOk K ρ' H' δ' σ' → RX K ρ' H' x cls e → Fr n ρ S H ρ' S' H' → W cls e σ' H'
  | .bad => False
def tS (K : PySem.W.Frag) (ds : DS) (W : WX) : TS := fun E σ H => ∃ n ρ S δ, Good K ρ S H ∧ EnvOk K ρ H δ σ ∧ RestS K n ρ S H E W (ds n δ S)
abbrev SS (X : Cx) (W : WX) (s : Stmt) (ds : DS) : Prop := PS X s (tS X.K ds W)
abbrev SB (X : Cx) (W : WX) (s : List Stmt) (ds : DS) : Prop := PSs X s (tS X.K ds W)
section
variable {K : PySem.W.Frag} {n : Nat} {ρ ρ1 : Ad} {S S1 : Store} {H H1 : Hp} {σ : L2.St} {δ : Slots} {E E' : Ends} {W : WX} {r : SR}
theorem RestS.root (f : Fr n ρ S H ρ1 S1 H1) (h : RestS K n ρ S H E W r) : RestS K n ρ1 S1 H1 E W r := by
  cases r with
  | nx d S' => exact fun v ρ' H' g a f2 => h v ρ' H' g a (f.trans f2)
  | rt d S' => exact fun v ρ' H' g a f2 => h v ρ' H' g a (f.trans f2)
  | bk d S' => exact fun v ρ' H' g a f2 => h v ρ' H' g a (f.trans f2)
  | ct d S' => exact fun v ρ' H' g a f2 => h v ρ' H' g a (f.trans f2)
  | exc x d S' => exact fun v c e ρ' H' g a b f2 => h v c e ρ' H' g a b (f.trans f2)
  | bad => exact h
theorem RestS.seq {f : Slots → Store → SR} (h : RestS K n ρ S H E W (r.andThen f)) :
    RestS K n ρ S H { E with nx := fun σ1 H1 => ∃ ρ1 S1 δ1, Good K ρ1 S1 H1 ∧ EnvOk K ρ1 H1 δ1 σ1 ∧ Fr n ρ S H ρ1 S1 H1 ∧ RestS K n ρ1 S1 H1 E W (f δ1 S1) } W r := by
  cases r with
  | nx d S' => exact fun v ρ' H' g a fr => ⟨ρ', S', d, g, a, fr, RestS.root fr h⟩
  | rt d S' => exact h
  | bk d S' => exact h
  | ct d S' => exact h
  | exc x d S' => exact h
  | bad => exact h
theorem RestS.mono (h : RestS K n ρ S H E W r) (h1 : ∀ σ H, E.nx σ H → E'.nx σ H) (h2 : ∀ v H, E.rt v H → E'.rt v H) (h3 : ∀ σ H, E.bk σ H → E'.bk σ H) (h4 : ∀ σ H, E.ct σ H → E'.ct σ H) : RestS K n ρ S H E' W r := by
  cases r with
  | nx d S' => exact fun v ρ' H' g a f2 => h1 _ _ (h v ρ' H' g a f2)
  | rt d S' => exact fun v ρ' H' g a f2 => h2 _ _ (h v ρ' H' g a f2)
  | bk d S' => exact fun v ρ' H' g a f2 => h3 _ _ (h v ρ' H' g a f2)
  | ct d S' => exact fun v ρ' H' g a f2 => h4 _ _ (h v ρ' H' g a f2)
  | exc x d S' => exact h
  | bad => exact h
/-- an expression ahead of the rest of a statement -/
theorem RestS.ex {α β : Type} {rel : Ad → Hp → α → β → Prop} {r : Res α} {f : α → Store → SR} (g : Good K ρ S H) (he : EnvOk K ρ H δ σ) (h : RestS K n ρ S H E W (r.to δ f)) :
    Rest rel K n ρ S H σ (fun v H1 => ∃ ρ1 S1 d, Good K ρ1 S1 H1 ∧ EnvOk K ρ1 H1 δ σ ∧ rel ρ1 H1 d v ∧ Fr n ρ S H ρ1 S1 H1 ∧ RestS K n ρ1 S1 H1 E W (f d S1)) W r := by
  cases r with
  | ok d S' => exact fun v ρ' H' g a fr => ⟨ρ', S', d, g, he.kp fr.kp, a, fr, RestS.root fr h⟩
  | exc x S' => exact fun c e ρ' H' g a fr => h σ c e ρ' H' g (he.kp fr.kp) a fr
  | bad => exact h
end
section
variable {X : Cx} {W : WX} {a b c e : Expr} {da db dc de : DE} {pos : Pos} {st : Stmt} {rest body orelse : List Stmt} {ds dr : DS} {dt du : DT}
theorem sb_nil : SB X W [] (fun _ δ S => .nx δ S) := PSs.imp pss_nil fun E σ H ⟨n, ρ, S, δ, g, en, r⟩ => r σ ρ H g en Fr.refl
def dSeq (a b : DS) : DS := fun n δ S => (a n δ S).andThen (b n)
theorem sb_cons (h1 : SS X W st ds) (h2 : SB X W rest dr) : SB X W (st :: rest) (dSeq ds dr) := PSs.imp (pss_cons h1 h2) fun E σ H ⟨n, ρ, S, δ, g, en, r⟩ => by
  refine ⟨n, ρ, S, δ, g, en, (RestS.seq r).mono (fun σ1 H1 ⟨ρ1, S1, δ1, g1, e1, f1, r1⟩ => ?_) (fun _ _ h => h) (fun _ _ h => h) fun _ _ h => h⟩
  exact ⟨n, ρ1, S1, δ1, g1, e1, r1⟩
theorem sb_one (h1 : SS X W st ds) : SB X W [st] ds := pss_one h1
def dPass : DS := fun _ δ S => .nx δ S
theorem ss_pass : SS X W (.Pass pos) dPass := PS.imp ps_pass fun E σ H ⟨n, ρ, S, δ, g, en, r⟩ => r σ ρ H g en Fr.refl
def dBreak : DS := fun _ δ S => .bk δ S
theorem ss_break : SS X W (.Break pos) dBreak := PS.imp ps_break fun E σ H ⟨n, ρ, S, δ, g, en, r⟩ => r σ ρ H g en Fr.refl
def dCont : DS := fun _ δ S => .ct δ S
theorem ss_continue : SS X W (.Continue pos) dCont := PS.imp ps_continue fun E σ H ⟨n, ρ, S, δ, g, en, r⟩ => r σ ρ H g en Fr.refl
def dNever : DS := fun _ _ _ => .bad
theorem ss_never : SS X W st dNever := PS.imp ps_never fun E σ H ⟨n, ρ, S, δ, g, en, r⟩ => r
theorem sb_never : SB X W rest dNever := PSs.imp pss_never fun E σ H ⟨n, ρ, S, δ, g, en, r⟩ => r
def dRet (de : DE) : DS := fun n δ S => (de n δ S).to δ fun d S => .rt d S
theorem ss_ret (h : SE X W e de) : SS X W (.Return (some e) pos) (dRet de) := PS.imp (ps_ret h) fun E σ H ⟨n, ρ, S, δ, g, en, r⟩ => by
  refine ⟨n, ρ, S, δ, g, en, (RestS.ex (rel := Rp X.K) g en r).mono fun v H1 ⟨ρ1, S1, d1, g1, e1, r1, f1, q⟩ => q v ρ1 H1 g1 r1 Fr.refl⟩
def dRetN : DS := fun _ _ S => .rt .non S
theorem ss_retN : SS X W (.Return none pos) dRetN := PS.imp ps_retN fun E σ H ⟨n, ρ, S, δ, g, en, r⟩ => r _ ρ H g rfl Fr.refl
def dExpr (de : DE) : DS := fun n δ S => (de n δ S).to δ fun _ S => .nx δ S
theorem ss_expr (h : SE X W e de) (hs : swapsWith e none pos.line X.env = pure false := by rfl) : SS X W (.Expr e pos) (dExpr de) := PS.imp (ps_expr h hs) fun E σ H ⟨n, ρ, S, δ, g, en, r⟩ => by
  refine ⟨n, ρ, S, δ, g, en, (RestS.ex (rel := Rp X.K) g en r).mono fun v H1 ⟨ρ1, S1, d1, g1, e1, r1, f1, q⟩ => q σ ρ1 H1 g1 e1 Fr.refl⟩
theorem EnvOk.set {K : PySem.W.Frag} {ρ : Ad} {H : Hp} {δ : Slots} {σ : L2.St} {d : D} {v : V} (i : Nat) (h : EnvOk K ρ H δ σ) (r : Rp K ρ H d v) : EnvOk K ρ H (δ.set i (some d)) (σ.set i (some v)) := by
  refine ⟨by simp [h.1], fun j d' e => ?_⟩
  by_cases hj : j = i
  · subst hj
    by_cases hl : j < δ.length
    · rw [List.getElem?_set_self hl] at e
      cases e
      exact ⟨v, by rw [List.getElem?_set_self (h.1 ▸ hl)], r.s⟩
    · rw [List.getElem?_eq_none (by simp; omega)] at e
      cases e
  · rw [List.getElem?_set_ne (fun z => hj z.symm)] at e
    obtain ⟨u, h1, h2⟩ := h.2 j d' e
    exact ⟨u, by rw [List.getElem?_set_ne (fun z => hj z.symm)]; exact h1, h2⟩
def dSet (i : Nat) (de : DE) : DS := fun n δ S => (de n δ S).to δ fun d S => .nx (δ.set i (some d)) S
theorem ss_set {i : Nat} {x : Str} {pos' : Pos} (hN : X.N.Nodup) (hi : X.N[i]? = some x) (hx : Loc X.env.scope x) (he : SE X W e de) (hs : swapsWith e (some (.Name x pos')) pos.line X.env = pure false := by rfl) (hf : X.fn x = true ∨ X.env.scope.names.lookup x = some .local := by first | exact .inl rfl | exact .inr rfl | assumption) :
    SS X W (.Assign [.Name x pos'] e pos) (dSet i de) := PS.imp (ps_set hN hi hx he hs hf) fun E σ H ⟨n, ρ, S, δ, g, en, r⟩ => by
  refine ⟨n, ρ, S, δ, g, en, (RestS.ex (rel := Rp X.K) g en r).mono fun v H1 ⟨ρ1, S1, d1, g1, e1, r1, f1, q⟩ => q _ ρ1 H1 g1 (e1.set i r1) Fr.refl⟩
/-! ### tests -/
def dTest (de : DE) : DT := fun n δ S => (de n δ S).bind fun d S => match d with
  | .bl b => .ok b S
  | _ => .bad
theorem tT.of_tE {K : PySem.W.Frag} {σ : L2.St} {H : Hp} {Q : Bool → Hp → Prop} (h : tT K (dTest de) W σ H Q) : tE K de W σ H fun x H1 => ∃ c, x = .bl c ∧ Q c H1 := by
  obtain ⟨n, ρ, S, δ, g, en, r⟩ := h
  refine ⟨n, ρ, S, δ, g, en, (Rest.bind (rel' := Rp K) en r).mono fun v H1 ⟨ρ1, S1, d1, g1, e1, r1, f1, q⟩ => ?_⟩
  cases d1 <;> first | exact False.elim q | skip
  exact ⟨_, r1, q _ ρ1 H1 g1 rfl Fr.refl⟩
theorem st_val (h : SE X W e de) (he : ∀ whole, isTrue e X.env whole = (do let v ← whole; standAt e.pos; holding [v] (truthy v)) := by intro _; rfl) : ST X W e (dTest de) := PT.imp (pt_val h he) fun σ H Q q => tT.of_tE q
theorem st_cmp {o : CmpOp} {r : R2} {op : D → D → Store → Res D} (hr : OpR X (compareOp o) r) (ho : OpG X.K W r op) (ha : SE X W a da) (hb : SE X W b db) (hm : behindInMarks o b = false) : ST X W (.Compare a [o] [b] pos) (dTest (dBin op da db)) :=
  PT.imp (pt_cmpR hr ha hb hm) fun σ H Q q => tE.bin ho (tT.of_tE q)
/-- a value's truth -/
def truD (S : Store) : D → Option Bool
  | .non => some false
  | .bl b => some b
  | .int i => some (i != 0)
  | .str y => if y.length ≤ sizeLine then some ((y.length : Int) != 0) else none
  | .tup ds => some (!ds.isEmpty)
  | .lst ds => some (!ds.isEmpty)
  | .ref i => match S[i]? with
    | some (.lst ds) => some (!ds.isEmpty)
    | some (.dct ds) => some (!ds.isEmpty)
    | _ => none
  | _ => none
theorem isEmpty_rpL {K : PySem.W.Frag} {ρ : Ad} {H : Hp} {ds : List D} {vs : List V} (r : RpL K ρ H ds vs) : (!vs.isEmpty) = !ds.isEmpty := by
  have e := r.length
  cases vs <;> cases ds <;> first | rfl | (simp at e)
theorem isEmpty_rpP {K : PySem.W.Frag} {ρ : Ad} {H : Hp} {ds : List (D × D)} {vs : List (Key × V)} (r : RpP K ρ H ds vs) : (!vs.isEmpty) = !ds.isEmpty := by
  cases ds with
  | nil => obtain rfl : vs = _ := r; rfl
  | cons p ds => obtain ⟨_, _, _, rfl, _⟩ := r; rfl
theorem truD_ok {K : PySem.W.Frag} {ρ : Ad} {S : Store} {H : Hp} {d : D} {v : V} {k : Bool} (g : Good K ρ S H) (r : Rp K ρ H d v) (h : truD S d = some k) : TruV K v H k := by
  cases d with
  | non => obtain rfl : v = _ := r; cases h; rfl
  | bl b => obtain rfl : v = _ := r; cases h; rfl
  | int i => obtain rfl : v = _ := r; cases h; rfl
  | str y =>
    obtain rfl : v = _ := r
    simp only [truD] at h
    split at h
    · cases h; exact ⟨by assumption, rfl⟩
    · cases h
  | tup ds =>
    obtain ⟨a, vs, rfl, t, q⟩ := tup_rp r
    cases h
    exact .inr (.inl ⟨vs, t, (isEmpty_rpL q).symm⟩)
  | lst ds =>
    obtain ⟨a, vs, rfl, t, q⟩ := r
    cases h
    exact .inl ⟨vs, t.sq, (isEmpty_rpL q).symm⟩
  | ref i =>
    obtain ⟨a, h1, rfl⟩ := r
    simp only [truD] at h
    split at h
    · rename_i ds hc
      cases h
      obtain ⟨vs, h3, q⟩ := g.at h1 hc
      exact .inl ⟨vs, SqL.of h3, (isEmpty_rpL q).symm⟩
    · rename_i ds hc
      cases h
      obtain ⟨vs, h3, q⟩ := g.at h1 hc
      exact .inr (.inr ⟨vs, h3, (isEmpty_rpP q).symm⟩)
    · cases h
  | _ => cases h
def dTru (de : DE) : DT := fun n δ S => (de n δ S).bind fun d S => match truD S d with
  | some b => .ok b S
  | none => .bad
theorem st_tru (h : SE X W e de) (he : ∀ whole, isTrue e X.env whole = (do let v ← whole; standAt e.pos; holding [v] (truthy v)) := by intro _; rfl) : ST X W e (dTru de) := PT.imp (pt_truth h he) fun σ H Q ⟨n, ρ, S, δ, g, en, r⟩ => by
  refine ⟨n, ρ, S, δ, g, en, (Rest.bind (rel' := Rp X.K) en r).mono fun v H1 ⟨ρ1, S1, d1, g1, e1, r1, f1, q⟩ => ?_⟩
  split at q
  · rename_i k hk
    exact ⟨k, truD_ok g1 r1 hk, q _ ρ1 H1 g1 rfl Fr.refl⟩
  · exact False.elim q
abbrev SW (X : Cx) (W : WX) (e : Expr) (dt : DT) : Prop := PW X e (tT X.K dt W)
theorem PW.imp {X : Cx} {e : Expr} {t t' : TT} (h : PW X e t) (i : ∀ σ H Q, t' σ H Q → t σ H Q) : PW X e t' := ⟨fun wh pins s σ H Q I q => h.run wh pins s σ H Q I (i σ H Q q)⟩
def tAndD (a b : DT) : DT := fun n δ S => (a n δ S).bind fun c S => if c = true then b n δ S else .ok false S
def tOrD (a b : DT) : DT := fun n δ S => (a n δ S).bind fun c S => if c = true then .ok true S else b n δ S
def tNotD (a : DT) : DT := fun n δ S => (a n δ S).bind fun c S => .ok (!c) S
theorem sw_and1 (ha : ST X W a dt) : SW X W (.BoolOp .And [a] pos) dt := pw_and1 ha
theorem sw_or1 (ha : ST X W a dt) : SW X W (.BoolOp .Or [a] pos) dt := pw_or1 ha
theorem sw_and {es : List Expr} (ha : ST X W a dt) (hb : SW X W (.BoolOp .And (b :: es) pos) du) : SW X W (.BoolOp .And (a :: b :: es) pos) (tAndD dt du) := PW.imp (pw_and ha hb) fun σ H Q ⟨n, ρ, S, δ, g, en, r⟩ => by
  refine ⟨n, ρ, S, δ, g, en, (Rest.bind (rel' := fun _ _ a b => a = b) en r).mono fun v H1 ⟨ρ1, S1, d1, g1, e1, r1, f1, q⟩ => ?_⟩
  subst r1
  cases d1 with
  | true => rw [if_pos rfl] at q ⊢; exact ⟨n, ρ1, S1, δ, g1, e1, q⟩
  | false => rw [if_neg Bool.false_ne_true] at q ⊢; exact q _ ρ1 H1 g1 rfl Fr.refl
theorem sw_or {es : List Expr} (ha : ST X W a dt) (hb : SW X W (.BoolOp .Or (b :: es) pos) du) : SW X W (.BoolOp .Or (a :: b :: es) pos) (tOrD dt du) := PW.imp (pw_or ha hb) fun σ H Q ⟨n, ρ, S, δ, g, en, r⟩ => by
  refine ⟨n, ρ, S, δ, g, en, (Rest.bind (rel' := fun _ _ a b => a = b) en r).mono fun v H1 ⟨ρ1, S1, d1, g1, e1, r1, f1, q⟩ => ?_⟩
  subst r1
  cases d1 with
  | true => rw [if_pos rfl] at q ⊢; exact q _ ρ1 H1 g1 rfl Fr.refl
  | false => rw [if_neg Bool.false_ne_true] at q ⊢; exact ⟨n, ρ1, S1, δ, g1, e1, q⟩
theorem st_w (h : SW X W e dt) : ST X W e dt := PW.pt h
theorem st_not (h : ST X W a dt) : ST X W (.UnaryOp .Not a pos) (tNotD dt) := PT.imp (pt_not h) fun σ H Q ⟨n, ρ, S, δ, g, en, r⟩ => by
  refine ⟨n, ρ, S, δ, g, en, (Rest.bind (rel' := fun _ _ a b => a = b) en r).mono fun v H1 ⟨ρ1, S1, d1, g1, e1, r1, f1, q⟩ => ?_⟩
  subst r1
  exact q _ ρ1 H1 g1 rfl Fr.refl
/-- a < b < c -/
def dChain (op op' : D → D → Store → Res D) (da db dc : DE) : DE := fun n δ S => (da n δ S).bind fun x S1 => (db n δ S1).bind fun y S2 => (op x y S2).bind fun z S3 => match z with
  | .bl true => (dc n δ S3).bind fun w S4 => op' y w S4
  | .bl false => .ok (.bl false) S3
  | _ => .bad
theorem tE.chain {K : PySem.W.Frag} {r r' : R2} {op op' : D → D → Store → Res D} (ho : OpG K W r op) (ho' : OpG K W r' op') {σ : L2.St} {H : Hp} {Q : VK} (h : tE K (dChain op op' da db dc) W σ H Q) : tChain r r' (tE K da W) (tE K db W) (tE K dc W) σ H Q := by
  obtain ⟨n, ρ, S, δ, g, e, h⟩ := h
  refine ⟨n, ρ, S, δ, g, e, (Rest.bind (rel' := Rp K) e h).mono fun x H1 ⟨ρ1, S1, d1, g1, e1, r1, f1, h1⟩ => ?_⟩
  refine ⟨n, ρ1, S1, δ, g1, e1, (Rest.bind (rel' := Rp K) e1 h1).mono fun y H2 ⟨ρ2, S2, d2, g2, e2, r2, f2, h2⟩ => ?_⟩
  refine ho n ρ2 S2 H2 σ d1 d2 x y _ g2 (r1.kp f2.kp) r2 ((Rest.bind (rel' := Rp K) e2 h2).mono fun z H3 ⟨ρ3, S3, d3, g3, e3, r3, f3, h3⟩ => ?_)
  cases d3 with
  | bl k =>
    obtain rfl : z = _ := r3
    refine ⟨k, rfl, ?_⟩
    cases k with
    | true =>
      rw [if_pos rfl]
      refine ⟨n, ρ3, S3, δ, g3, e3, (Rest.bind (rel' := Rp K) e3 h3).mono fun w H4 ⟨ρ4, S4, d4, g4, e4, r4, f4, h4⟩ => ?_⟩
      exact ho' n ρ4 S4 H4 σ d2 d4 y w Q g4 ((r2.kp f3.kp).kp f4.kp) r4 h4
    | false =>
      rw [if_neg Bool.false_ne_true]
      exact h3.val g3 rfl
  | _ => exact False.elim h3
theorem se_chain {o o' : CmpOp} {r r' : R2} {op op' : D → D → Store → Res D} (hr : OpR X (compareOp o) r) (ho : OpG X.K W r op) (hr' : OpR X (compareOp o') r') (ho' : OpG X.K W r' op') (ha : SE X W a da) (hb : SE X W b db) (hc : SE X W c dc)
    (hm : lastMarks [o, o'] [b, c] = false := by with_unfolding_all rfl) : SE X W (.Compare a [o, o'] [b, c] pos) (dChain op op' da db dc) := PE.imp (pe_chain hr hr' ha hb hc hm) fun _ _ _ h => tE.chain ho ho' h
theorem st_chain {o o' : CmpOp} {r r' : R2} {op op' : D → D → Store → Res D} (hr : OpR X (compareOp o) r) (ho : OpG X.K W r op) (hr' : OpR X (compareOp o') r') (ho' : OpG X.K W r' op') (ha : SE X W a da) (hb : SE X W b db) (hc : SE X W c dc)
    (hm : lastMarks [o, o'] [b, c] = false := by with_unfolding_all rfl) : ST X W (.Compare a [o, o'] [b, c] pos) (dTest (dChain op op' da db dc)) := PT.imp (pt_chain hr hr' ha hb hc hm) fun _ _ _ h => tE.chain ho ho' (tT.of_tE h)
/-! ### and, or, not as values; a if t else b -/
def dAnd (a b : DE) : DE := fun n δ S => (a n δ S).bind fun c S => match c with
  | .bl true => b n δ S
  | .bl false => .ok (.bl false) S
  | _ => .bad
def dOr (a b : DE) : DE := fun n δ S => (a n δ S).bind fun c S => match c with
  | .bl true => .ok (.bl true) S
  | .bl false => b n δ S
  | _ => .bad
def dNot (a : DE) : DE := fun n δ S => (a n δ S).bind fun c S => match c with
  | .bl b => .ok (.bl (!b)) S
  | _ => .bad
theorem se_one {op} (h : SE X W a da) : SE X W (.BoolOp op [a] pos) da := pe_one h
theorem se_and {es : List Expr} (ha : SE X W a da) (hb : SE X W (.BoolOp .And (b :: es) pos) db) : SE X W (.BoolOp .And (a :: b :: es) pos) (dAnd da db) := PE.imp (pe_and ha hb) fun σ H Q ⟨n, ρ, S, δ, g, en, r⟩ => by
  refine ⟨n, ρ, S, δ, g, en, (Rest.bind (rel' := Rp X.K) en r).mono fun v H1 ⟨ρ1, S1, d1, g1, e1, r1, f1, q⟩ => ?_⟩
  cases d1 with
  | bl k =>
    refine ⟨k, r1, ?_⟩
    cases k with
    | true => rw [if_pos rfl]; exact ⟨n, ρ1, S1, δ, g1, e1, q⟩
    | false => rw [if_neg Bool.false_ne_true]; exact q.val g1 rfl
  | _ => exact False.elim q
theorem se_or {es : List Expr} (ha : SE X W a da) (hb : SE X W (.BoolOp .Or (b :: es) pos) db) : SE X W (.BoolOp .Or (a :: b :: es) pos) (dOr da db) := PE.imp (pe_or ha hb) fun σ H Q ⟨n, ρ, S, δ, g, en, r⟩ => by
  refine ⟨n, ρ, S, δ, g, en, (Rest.bind (rel' := Rp X.K) en r).mono fun v H1 ⟨ρ1, S1, d1, g1, e1, r1, f1, q⟩ => ?_⟩
  cases d1 with
  | bl k =>
    refine ⟨k, r1, ?_⟩
    cases k with
    | true => rw [if_pos rfl]; exact q.val g1 rfl
    | false => rw [if_neg Bool.false_ne_true]; exact ⟨n, ρ1, S1, δ, g1, e1, q⟩
  | _ => exact False.elim q
theorem se_not (ha : SE X W a da) : SE X W (.UnaryOp .Not a pos) (dNot da) := PE.imp (pe_not ha) fun σ H Q ⟨n, ρ, S, δ, g, en, r⟩ => by
  refine ⟨n, ρ, S, δ, g, en, (Rest.bind (rel' := Rp X.K) en r).mono fun v H1 ⟨ρ1, S1, d1, g1, e1, r1, f1, q⟩ => ?_⟩
  cases d1 with
  | bl k => exact ⟨k, r1, q.val g1 rfl⟩
  | _ => exact False.elim q
def dNeg (a : DE) : DE := fun n δ S => (a n δ S).bind fun c S => match c with
  | .int i => .ok (.int (-i)) S
  | _ => .bad
theorem se_neg (ha : SE X W a da) : SE X W (.UnaryOp .USub a pos) (dNeg da) := PE.imp (pe_un un_neg ha) fun σ H Q ⟨n, ρ, S, δ, g, en, r⟩ => by
  refine ⟨n, ρ, S, δ, g, en, (Rest.bind (rel' := Rp X.K) en r).mono fun v H1 ⟨ρ1, S1, d1, g1, e1, r1, f1, q⟩ => ?_⟩
  cases d1 with
  | int k => exact ⟨k, r1, q.val g1 rfl⟩
  | _ => exact False.elim q
def dIfE (t : DT) (a b : DE) : DE := fun n δ S => (t n δ S).bind fun c S => if c = true then a n δ S else b n δ S
theorem se_ife (ht : ST X W c dt) (ha : SE X W a da) (hb : SE X W b db) : SE X W (.IfExp c a b pos) (dIfE dt da db) := PE.imp (pe_ifExp ht ha hb) fun σ H Q ⟨n, ρ, S, δ, g, en, r⟩ => by
  refine ⟨n, ρ, S, δ, g, en, (Rest.bind (rel' := fun _ _ a b => a = b) en r).mono fun v H1 ⟨ρ1, S1, d1, g1, e1, r1, f1, q⟩ => ?_⟩
  subst r1
  cases d1 with
  | true => rw [if_pos rfl] at q ⊢; exact ⟨n, ρ1, S1, δ, g1, e1, q⟩
  | false => rw [if_neg Bool.false_ne_true] at q ⊢; exact ⟨n, ρ1, S1, δ, g1, e1, q⟩
def dIf (t : DT) (a b : DS) : DS := fun n δ S => (t n δ S).to δ fun c S => if c = true then a n δ S else b n δ S
theorem ss_if (ht : ST X W c dt) (ha : SB X W body ds) (hb : SB X W orelse dr) : SS X W (.If c body orelse pos) (dIf dt ds dr) := PS.imp (ps_if ht ha hb) fun E σ H ⟨n, ρ, S, δ, g, en, r⟩ => by
  refine ⟨n, ρ, S, δ, g, en, (RestS.ex (rel := fun _ _ a b => a = b) g en r).mono fun v H1 ⟨ρ1, S1, d1, g1, e1, r1, f1, q⟩ => ?_⟩
  subst r1
  cases d1 with
  | true => rw [if_pos rfl] at q ⊢; exact ⟨n, ρ1, S1, δ, g1, e1, q⟩
  | false => rw [if_neg Bool.false_ne_true] at q ⊢; exact ⟨n, ρ1, S1, δ, g1, e1, q⟩
/-! ### argument lists, displays -/
def aNil : DA := fun _ _ S => .ok [] S
def aCons (da : DE) (dr : DA) : DA := fun n δ S => (da n δ S).bind fun d S1 => (dr n δ S1).bind fun ds S2 => .ok (d :: ds) S2
theorem sa_nil : SA X W [] aNil := PA.imp pa_nil fun σ H Q ⟨n, ρ, S, δ, g, en, r⟩ => r.val g rfl
theorem sa_cons {es : List Expr} {dr : DA} (ha : SE X W a da) (hr : SA X W es dr) (hs : starEach (a :: es) X.env = (false, eval a X.env) :: starEach es X.env := by rfl) : SA X W (a :: es) (aCons da dr) := PA.imp (pa_cons ha hr hs) fun σ H Q ⟨n, ρ, S, δ, g, en, r⟩ => by
  refine ⟨n, ρ, S, δ, g, en, (Rest.bind (rel' := Rp X.K) en r).mono fun v H1 ⟨ρ1, S1, d1, g1, e1, r1, f1, q⟩ => ?_⟩
  refine ⟨n, ρ1, S1, δ, g1, e1, (Rest.bind (rel' := RpL X.K) e1 q).mono fun vs H2 ⟨ρ2, S2, d2, g2, e2, r2, f2, q2⟩ => ?_⟩
  exact q2.val g2 ⟨v, vs, rfl, r1.kp f2.kp, r2⟩
def dTup (da : DA) : DE := fun n δ S => (da n δ S).bind fun ds S => if ds.length ≤ sizeLine then .ok (.tup ds) S else .bad
def dLst (da : DA) : DE := fun n δ S => (da n δ S).bind fun ds S => if ds.length ≤ sizeLine then .ok (.lst ds) S else .bad
/-- a list that will be changed: a new cell of the store -/
def dLstR (da : DA) : DE := fun n δ S => (da n δ S).bind fun ds S => if ds.length ≤ sizeLine then .ok (.ref S.length) (S ++ [.lst ds]) else .bad
theorem se_tup {es : List Expr} {dr : DA} {x1} (h : SA X W es dr) : SE X W (.Tuple es x1 pos) (dTup dr) := PE.imp (pe_tup h) fun σ H Q ⟨n, ρ, S, δ, g, en, r⟩ => by
  refine ⟨n, ρ, S, δ, g, en, (Rest.bind (rel' := RpL X.K) en r).mono fun vs H1 ⟨ρ1, S1, d1, g1, e1, r1, f1, q⟩ => ?_⟩
  split at q
  · rename_i h
    exact ⟨by rw [r1.length]; exact h, fun p hp => Rest.newT (σ := σ) (W := W) q g1 r1 hp⟩
  · exact False.elim q
theorem se_lst {es : List Expr} {dr : DA} (h : SA X W es dr) : SE X W (.List es pos) (dLst dr) := PE.imp (pe_lst h) fun σ H Q ⟨n, ρ, S, δ, g, en, r⟩ => by
  refine ⟨n, ρ, S, δ, g, en, (Rest.bind (rel' := RpL X.K) en r).mono fun vs H1 ⟨ρ1, S1, d1, g1, e1, r1, f1, q⟩ => ?_⟩
  split at q
  · rename_i h
    exact ⟨by rw [r1.length]; exact h, fun p hp => Rest.newL (σ := σ) (W := W) q g1 r1 hp⟩
  · exact False.elim q
end
/-! ### a new store cell -/
def Ad.push (ρ : Ad) (p : Addr) : Ad := ⟨ρ.r ++ [p], ρ.x⟩
section
variable {K : PySem.W.Frag} {ρ : Ad} {S : Store} {H : Hp} {σ : L2.St} {W : WX} {n : Nat} {p : Addr} {o : HO} {c : Cell}
theorem Kp.push (h : H p = none) : Kp ρ H (ρ.push p) (upd H p o) := (⟨List.prefix_append _ _, fun _ m => .inl m, fun _ m => m, fun a u e _ => by rw [upd_ne (ne_of_none e h)]; exact e, fun a m nm => by
  rcases List.mem_append.mp m with m | m
  · exact absurd m nm
  · rw [List.mem_singleton.mp m]; exact h⟩ : Kp5 ρ H (ρ.push p) (upd H p o)).kp
theorem Good.push (g : Good K ρ S H) (h : H p = none) (hc : CellOk K (ρ.push p) (upd H p o) p c) : Good K (ρ.push p) (S ++ [c]) (upd H p o) := by
  refine ⟨by simp [Ad.push, g.len], ?_, fun i a d h1 h2 => ?_, fun a m => ?_, g.tab.to fun b u e n => ⟨by rw [upd_ne (ne_of_none e h)]; exact e, fun q => ?_, n.2⟩⟩
  rotate_right
  · rcases List.mem_append.mp q with q | q
    · exact n.1 q
    · rw [List.mem_singleton.mp q, h] at e; cases e
  · show (ρ.r ++ [p]).Nodup
    rw [List.nodup_append]
    refine ⟨g.nd, by simp, fun a ha b hb => ?_⟩
    rw [List.mem_singleton.mp hb]
    rintro rfl
    exact (g.notin h).1 ha
  · have h1 : (ρ.r ++ [p])[i]? = some a := h1
    by_cases hi : i < ρ.r.length
    · rw [List.getElem?_append_left hi] at h1
      rw [List.getElem?_append_left (g.len ▸ hi)] at h2
      exact (g.cell i a d h1 h2).kp (Kp.push h) fun u e => by rw [upd_ne (ne_of_none e h)]; exact e
    · have hlt : i < (ρ.r ++ [p]).length := (List.getElem?_eq_some_iff.mp h1).1
      have hi' : i = ρ.r.length := by simp at hlt; omega
      subst hi'
      rw [List.getElem?_append_right (Nat.le_refl _), Nat.sub_self] at h1
      rw [g.len, List.getElem?_append_right (Nat.le_refl _), Nat.sub_self] at h2
      cases h1; cases h2
      exact hc
  · obtain ⟨h1, u, e⟩ := g.hid a m
    refine ⟨fun q => ?_, u, by rw [upd_ne (ne_of_none e h)]; exact e⟩
    rcases List.mem_append.mp q with q | q
    · exact h1 q
    · rw [List.mem_singleton.mp q, h] at e; cases e
theorem Rest.newR {Q : VK} (h : Rest (Rp K) K n ρ S H σ Q W (.ok (.ref S.length) (S ++ [c]))) (g : Good K ρ S H) (hp : H p = none) (hc : CellOk K (ρ.push p) (upd H p o) p c) : Q (.ref p) (upd H p o) :=
  h _ (ρ.push p) _ (g.push hp hc) ⟨p, by rw [← g.len]; simp [Ad.push], rfl⟩ ⟨Kp.push hp, Shr.push⟩
/-- a cell written -/
theorem Kp.set {a : Addr} (h : a ∈ ρ.r) : Kp ρ H ρ (upd H a o) := (⟨List.prefix_refl _, fun _ m => .inl m, fun _ m => m, fun b u e nm => by rw [upd_ne (fun z : b = a => nm (by rw [z]; exact h))]; exact e, fun _ m nm => absurd m nm⟩ : Kp5 ρ H ρ (upd H a o)).kp
theorem Good.set {i : Nat} {a : Addr} (g : Good K ρ S H) (h : ρ.r[i]? = some a) (hc : CellOk K ρ (upd H a o) a c) : Good K ρ (S.set i c) (upd H a o) := by
  refine ⟨by simp [g.len], g.nd, fun j b d h1 h2 => ?_, fun b m => ?_, g.tab.to fun b u e n => ⟨by rw [upd_ne (fun z : b = a => n.1 (by rw [z]; exact List.mem_of_getElem? h))]; exact e, n⟩⟩
  · by_cases hj : j = i
    · subst hj
      rw [h] at h1; cases h1
      rw [List.getElem?_set_self (g.len ▸ (List.getElem?_eq_some_iff.mp h).1)] at h2
      cases h2
      exact hc
    · rw [List.getElem?_set_ne (fun z => hj z.symm)] at h2
      have hne : b ≠ a := by
        rintro rfl
        obtain ⟨l1, e1⟩ := List.getElem?_eq_some_iff.mp h
        obtain ⟨l2, e2⟩ := List.getElem?_eq_some_iff.mp h1
        exact hj ((List.getElem_inj g.nd).mp (e2.trans e1.symm))
      exact (g.cell j b d h1 h2).kp (Kp.set (List.mem_of_getElem? h)) fun u e => by rw [upd_ne hne]; exact e
  · obtain ⟨h1, u, e⟩ := g.hid b m
    exact ⟨h1, u, by rw [upd_ne (fun z : b = a => h1 (by rw [z]; exact List.mem_of_getElem? h))]; exact e⟩
end
section
variable {X : Cx} {W : WX} {pos : Pos}
theorem se_lstR {es : List Expr} {dr : DA} (h : SA X W es dr) : SE X W (.List es pos) (dLstR dr) := PE.imp (pe_lst h) fun σ H Q ⟨n, ρ, S, δ, g, en, r⟩ => by
  refine ⟨n, ρ, S, δ, g, en, (Rest.bind (rel' := RpL X.K) en r).mono fun vs H1 ⟨ρ1, S1, d1, g1, e1, r1, f1, q⟩ => ?_⟩
  split at q
  · rename_i h
    exact ⟨by rw [r1.length]; exact h, fun p hp => Rest.newR (σ := σ) (W := W) q g1 hp ⟨vs, upd_same, RpL.kp (Kp.push hp) _ _ r1⟩⟩
  · exact False.elim q
end
end G

namespace G
open PySem L2
/-! ### what a loop walks -/
/-- J goes through the items ds, from (ρ0, H0) on -/
def Wk (K : PySem.W.Frag) (ρ0 : Ad) (H0 : Hp) (ds : List D) (J : It) : Prop := ∀ (ρ : Ad) (S : Store) (H : Hp), Kp ρ0 H0 ρ H → Good K ρ S H →
  (∀ (i : Nat) (d : D), ds[i]? = some d → J.go i H ∧ ∀ x H', J.yld i H x H' → Kp ρ H ρ H' ∧ Good K ρ S H' ∧ Rp K ρ H' d x) ∧ J.stop ds.length H
abbrev DI := Nat → Slots → Store → Res (List D)
def tI (K : PySem.W.Frag) (di : DI) (W : WX) : TI := fun σ H R => ∃ n ρ S δ, Good K ρ S H ∧ EnvOk K ρ H δ σ ∧ Rest (fun ρ H ds J => Wk K ρ H ds J) K n ρ S H σ (fun J H' => R J H') W (di n δ S)
abbrev SI (X : Cx) (W : WX) (tg iter : Expr) (di : DI) : Prop := PI X tg iter (tI X.K di W)
theorem PI.imp {X : Cx} {tg e : Expr} {t t' : TI} (h : PI X tg e t) (i : ∀ σ H R, t' σ H R → t σ H R) : PI X tg e t' := ⟨fun pins s σ H R I q => h.run pins s σ H R I (i σ H R q)⟩
section
variable {K : PySem.W.Frag} {ρ0 : Ad} {H0 : Hp} {ds : List D} {vs : List V} {a : Addr}
theorem wk_list (h : LstN K ρ0 H0 a vs) (r : RpL K ρ0 H0 ds vs) : Wk K ρ0 H0 ds (Itl K a) := fun ρ S H k g => by
  have hs : SqL K H a vs := (k.lstN h).sq
  refine ⟨fun i d e => ?_, vs, hs, by rw [r.length]; exact Nat.le_refl _⟩
  obtain ⟨v, h1, h2⟩ := r.get e
  refine ⟨⟨vs, v, hs, h1⟩, fun x H' y => ?_⟩
  obtain ⟨rfl, y⟩ := y
  have e2 := y vs hs
  rw [h1] at e2; cases e2
  exact ⟨Kp.refl, g, h2.kp k⟩
theorem wk_tup (h : TupN K ρ0 H0 a vs) (r : RpL K ρ0 H0 ds vs) : Wk K ρ0 H0 ds (Itt K a) := fun ρ S H k g => by
  have hs : SqT K H a vs := (k.tupN h).sq
  refine ⟨fun i d e => ?_, vs, hs, by rw [r.length]; exact Nat.le_refl _⟩
  obtain ⟨v, h1, h2⟩ := r.get e
  refine ⟨⟨vs, v, hs, h1⟩, fun x H' y => ?_⟩
  obtain ⟨rfl, y⟩ := y
  have e2 := y vs hs
  rw [h1] at e2; cases e2
  exact ⟨Kp.refl, g, h2.kp k⟩
/-- lo, lo + c, .. -/
def rangeD (lo c : Int) : Nat → List D
  | 0 => []
  | n + 1 => .int lo :: rangeD (lo + c) c n
theorem rangeD_length (c : Int) : ∀ (n : Nat) (lo : Int), (rangeD lo c n).length = n
  | 0, _ => rfl
  | n + 1, lo => by rw [rangeD, List.length_cons, rangeD_length c n]
theorem rangeD_get (c : Int) : ∀ (n : Nat) (lo : Int) (i : Nat) (d : D), (rangeD lo c n)[i]? = some d → i < n ∧ d = .int (lo + (i : Nat) * c)
  | 0, _, _, _, h => by simp [rangeD] at h
  | n + 1, lo, 0, d, h => by
    simp [rangeD] at h
    exact ⟨by omega, by rw [← h]; simp⟩
  | n + 1, lo, i + 1, d, h => by
    simp [rangeD] at h
    obtain ⟨h1, h2⟩ := rangeD_get c n (lo + c) i d h
    refine ⟨by omega, ?_⟩
    rw [h2]
    congr 1
    rw [show ((i + 1 : Nat) : Int) = (i : Int) + 1 by omega, Int.add_mul]
    omega
theorem wk_range {lo c : Int} {n : Nat} : Wk K ρ0 H0 (rangeD lo c n) (Itc lo c n) := fun ρ S H k g => by
  refine ⟨fun i d e => ?_, by show n ≤ _; rw [rangeD_length]; exact Nat.le_refl _⟩
  obtain ⟨h1, h2⟩ := rangeD_get c n lo i d e
  refine ⟨h1, fun x H' y => ?_⟩
  obtain ⟨rfl, rfl⟩ := y
  exact ⟨Kp.refl, g, by rw [h2]; rfl⟩
theorem wk_range1 {lo : Int} {n : Nat} : Wk K ρ0 H0 (rangeD lo 1 n) (Itr lo n) := fun ρ S H k g => by
  refine ⟨fun i d e => ?_, by show n ≤ _; rw [rangeD_length]; exact Nat.le_refl _⟩
  obtain ⟨h1, h2⟩ := rangeD_get 1 n lo i d e
  refine ⟨h1, fun x H' y => ?_⟩
  obtain ⟨rfl, rfl⟩ := y
  exact ⟨Kp.refl, g, by rw [h2, Int.mul_one]; rfl⟩
def signsD (x : Str) : List D := x.cps.toList.map fun c => .str ⟨#[c]⟩
theorem wk_str {x : Str} : Wk K ρ0 H0 (signsD x) (Its x) := fun ρ S H k g => by
  refine ⟨fun i d e => ?_, by show x.cps.size ≤ _; simp [signsD]⟩
  simp only [signsD, List.getElem?_map, Option.map_eq_some_iff] at e
  obtain ⟨c, h1, rfl⟩ := e
  have h2 : x.cps[i]? = some c := by simpa using h1
  refine ⟨(Array.getElem?_eq_some_iff.mp h2).1, fun v H' y => ?_⟩
  obtain ⟨rfl, c', h3, rfl⟩ := y
  rw [h2] at h3; cases h3
  exact ⟨Kp.refl, g, rfl⟩
/-- (0, x), (1, y), .. -/
def enumD : Nat → List D → List D
  | _, [] => []
  | i, d :: ds => .tup [.int (i : Nat), d] :: enumD (i + 1) ds
theorem enumD_length : ∀ (ds : List D) (k : Nat), (enumD k ds).length = ds.length
  | [], _ => rfl
  | d :: ds, k => by rw [enumD, List.length_cons, List.length_cons, enumD_length ds]
theorem enumD_get : ∀ (ds : List D) (k i : Nat) (d : D), (enumD k ds)[i]? = some d → ∃ c, ds[i]? = some c ∧ d = .tup [.int ((k + i : Nat) : Int), c]
  | [], _, _, _, h => by simp [enumD] at h
  | c :: ds, k, 0, d, h => by
    simp [enumD] at h
    exact ⟨c, rfl, by rw [← h]; rfl⟩
  | c :: ds, k, i + 1, d, h => by
    simp only [enumD, List.getElem?_cons_succ] at h
    obtain ⟨e, h1, h2⟩ := enumD_get ds (k + 1) i d h
    exact ⟨e, by simpa using h1, by rw [h2]; congr 3; omega⟩
theorem rp_pair {ρ : Ad} {S : Store} {H : Hp} {T : Addr} {x y : D} {v w : V} (g : Good K ρ S H) (hT : H T = none) (h1 : Rp K ρ H x v) (h2 : Rp K ρ H y w) : Kp ρ H ρ (upd H T (.tup [v, w])) ∧ Good K ρ S (upd H T (.tup [v, w])) ∧ Rp K ρ (upd H T (.tup [v, w])) (.tup [x, y]) (.ref T) :=
  ⟨Kp.fresh hT, g.fresh hT, rp_newT g hT ⟨v, [w], rfl, h1, w, [], rfl, h2, rfl⟩⟩
theorem wk_enum (h : LstN K ρ0 H0 a vs) (r : RpL K ρ0 H0 ds vs) : Wk K ρ0 H0 (enumD 0 ds) (Ite K a) := fun ρ S H k g => by
  have hs : SqL K H a vs := (k.lstN h).sq
  refine ⟨fun i d e => ?_, vs, hs, by rw [r.length, enumD_length]; exact Nat.le_refl _⟩
  obtain ⟨c, h0, rfl⟩ := enumD_get ds 0 i d e
  obtain ⟨v, h1, h2⟩ := r.get h0
  refine ⟨⟨vs, v, hs, h1⟩, fun x H' y => ?_⟩
  obtain ⟨T, u, rfl, hT, rfl, y⟩ := y
  have e2 := y vs hs
  rw [h1] at e2; cases e2
  rw [Nat.zero_add]
  exact rp_pair g hT rfl (h2.kp k)
def zipD : List D → List D → List D
  | x :: xs, y :: ys => .tup [x, y] :: zipD xs ys
  | _, _ => []
theorem zipD_length : ∀ (xs ys : List D), (zipD xs ys).length = min xs.length ys.length
  | [], _ => by simp [zipD]
  | _ :: _, [] => by simp [zipD]
  | x :: xs, y :: ys => by simp only [zipD, List.length_cons, zipD_length xs ys]; omega
theorem zipD_get : ∀ (xs ys : List D) (i : Nat) (d : D), (zipD xs ys)[i]? = some d → ∃ x y, xs[i]? = some x ∧ ys[i]? = some y ∧ d = .tup [x, y]
  | [], _, _, _, h => by simp [zipD] at h
  | _ :: _, [], _, _, h => by simp [zipD] at h
  | x :: xs, y :: ys, 0, d, h => by
    simp [zipD] at h
    exact ⟨x, y, rfl, rfl, h.symm⟩
  | x :: xs, y :: ys, i + 1, d, h => by
    simp only [zipD, List.getElem?_cons_succ] at h ⊢
    exact zipD_get xs ys i d h
theorem wk_zip {es : List D} {b : Addr} {ws : List V} (h : LstN K ρ0 H0 a vs) (r : RpL K ρ0 H0 ds vs) (h' : LstN K ρ0 H0 b ws) (r' : RpL K ρ0 H0 es ws) : Wk K ρ0 H0 (zipD ds es) (Itz K a b) := fun ρ S H k g => by
  have hs : SqL K H a vs := (k.lstN h).sq
  have hs' : SqL K H b ws := (k.lstN h').sq
  refine ⟨fun i d e => ?_, vs, ws, hs, hs', by rw [r.length, r'.length, zipD_length]; omega⟩
  obtain ⟨x, y, h0, h0', rfl⟩ := zipD_get ds es i d e
  obtain ⟨v, h1, h2⟩ := r.get h0
  obtain ⟨w, h1', h2'⟩ := r'.get h0'
  refine ⟨⟨vs, ws, v, w, hs, hs', h1, h1'⟩, fun x H' y => ?_⟩
  obtain ⟨T, u, u', rfl, hT, rfl, y, y'⟩ := y
  have e2 := y vs hs
  rw [h1] at e2; cases e2
  have e3 := y' ws hs'
  rw [h1'] at e3; cases e3
  exact rp_pair g hT (h2.kp k) (h2'.kp k)
theorem wk_zipT {es : List D} {b : Addr} {ws : List V} (h : TupN K ρ0 H0 a vs) (r : RpL K ρ0 H0 ds vs) (h' : TupN K ρ0 H0 b ws) (r' : RpL K ρ0 H0 es ws) : Wk K ρ0 H0 (zipD ds es) (RZ.ItzT K a b) := fun ρ S H k g => by
  have hs : SqT K H a vs := (k.tupN h).sq
  have hs' : SqT K H b ws := (k.tupN h').sq
  refine ⟨fun i d e => ?_, vs, ws, hs, hs', by rw [r.length, r'.length, zipD_length]; omega⟩
  obtain ⟨x, y, h0, h0', rfl⟩ := zipD_get ds es i d e
  obtain ⟨v, h1, h2⟩ := r.get h0
  obtain ⟨w, h1', h2'⟩ := r'.get h0'
  refine ⟨⟨vs, ws, v, w, hs, hs', h1, h1'⟩, fun x H' y => ?_⟩
  obtain ⟨T, u, u', rfl, hT, rfl, y, y'⟩ := y
  have e2 := y vs hs
  rw [h1] at e2; cases e2
  have e3 := y' ws hs'
  rw [h1'] at e3; cases e3
  exact rp_pair g hT (h2.kp k) (h2'.kp k)
end
/-- a list, a tuple, a text -/
def iSeq (K : PySem.W.Frag) (tl : TE) : TI := fun σ H R => tl σ H fun x H1 => (∃ a, x = .ref a ∧ (∃ xs, SqL K H1 a xs) ∧ R (Itl K a) H1) ∨ (∃ a, x = .ref a ∧ (∃ xs, SqT K H1 a xs) ∧ R (Itt K a) H1) ∨ ∃ y, x = .str y ∧ R (Its y) H1
theorem pi_seq {X : Cx} {tg l : Expr} {tl : TE} (hl : PE X l tl) : PI X tg l (iSeq X.K tl) := by
  refine ⟨fun pins s σ H R I h => ?_⟩
  refine thn (hl.run pins s σ H _ I h) fun v s1 ⟨x, H1, I1, r1, q1⟩ => ?_
  rcases q1 with ⟨a, e, ⟨xs, hq⟩, q⟩ | ⟨a, e, ⟨xs, hq⟩, q⟩ | ⟨y, e, q⟩
  · subst e
    cases r1
    obtain ⟨its, rv, p, hz⟩ := I1.list hq
    refine wpAny_pyIter_list p.isList ?_
    refine ⟨s1.heap.objs.size, [s1.heap.objs.size], _, _, H1, rfl, I1.kept (t' := s1.toks) fun b o e => Heap.get?_push_of_some _ e, turn_list a _, ⟨_, Heap.get?_push_size _ rfl, rfl, rfl⟩, fun b hb => ?_, q⟩
    have e : b = s1.heap.objs.size := by simpa using hb
    subst e
    exact I1.fpOk (Nat.le_refl _) (I1.hok.fresh (Nat.le_refl _))
  · subst e
    cases r1
    obtain ⟨its, rv, p, hz⟩ := I1.tuple hq
    refine wpAny_pyIter_tuple (show s1.heap.IsTuple a its.toArray from p) ?_
    refine ⟨s1.heap.objs.size, [s1.heap.objs.size], _, _, H1, rfl, I1.kept (t' := s1.toks) fun b o e => Heap.get?_push_of_some _ e, turn_tuple a _, ⟨_, Heap.get?_push_size _ rfl, rfl, rfl⟩, fun b hb => ?_, q⟩
    have e : b = s1.heap.objs.size := by simpa using hb
    subst e
    exact I1.fpOk (Nat.le_refl _) (I1.hok.fresh (Nat.le_refl _))
  · subst e
    obtain ⟨t, rfl⟩ := r1
    cases ha : y.cps.all (· < 128)
    · exact wpAny_pyIter_wide ha (pi_one (tk := s1.toks) I1 _ (turn_str _ y t "str_iterator" (.inr rfl)) ⟨_, Heap.get?_push_size _ rfl, rfl, rfl⟩ q)
    · exact wpAny_pyIter_ascii ha (pi_one (tk := s1.toks) I1 _ (turn_str _ y t "str_ascii_iterator" (.inl rfl)) ⟨_, Heap.get?_push_size _ rfl, rfl, rfl⟩ q)
def itemsD : D → Option (List D)
  | .lst ds => some ds
  | .tup ds => some ds
  | .str y => some (signsD y)
  | _ => none
def iD (de : DE) : DI := fun n δ S => (de n δ S).bind fun d S => match itemsD d with
  | some ds => .ok ds S
  | none => .bad
section
variable {X : Cx} {W : WX} {tg e e2 : Expr} {de d2 : DE} {da : DA} {p pos tpos : Pos} {elts : List Expr} {kk : Nat}
theorem si_seq (h : SE X W e de) : SI X W tg e (iD de) := PI.imp (pi_seq h) fun σ H R ⟨n, ρ, S, δ, g, en, r⟩ => by
  refine ⟨n, ρ, S, δ, g, en, (Rest.bind (rel' := Rp X.K) en r).mono fun v H1 ⟨ρ1, S1, d1, g1, e1, r1, f1, q⟩ => ?_⟩
  cases d1 <;> first | exact False.elim q | skip
  case str y => exact .inr (.inr ⟨y, r1, q _ ρ1 H1 g1 wk_str Fr.refl⟩)
  case tup ds =>
    obtain ⟨a, vs, e, t, r⟩ := r1
    exact .inr (.inl ⟨a, e, ⟨vs, t.sq⟩, q _ ρ1 H1 g1 (wk_tup t r) Fr.refl⟩)
  case lst ds =>
    obtain ⟨a, vs, e, t, r⟩ := r1
    exact .inl ⟨a, e, ⟨vs, t.sq⟩, q _ ρ1 H1 g1 (wk_list t r) Fr.refl⟩
@[irreducible] def iR1 (da : DA) : DI := fun n δ S => (da n δ S).bind fun ds S => match ds with
  | [.int j] => if -(2 ^ 62) ≤ j ∧ j < 2 ^ 62 then .ok (rangeD 0 1 j.toNat) S else .bad
  | _ => .bad
theorem rpL_one {K : PySem.W.Frag} {ρ : Ad} {H : Hp} {x : D} {vs : List V} (h : RpL K ρ H [x] vs) : ∃ v, vs = [v] ∧ Rp K ρ H x v := by
  obtain ⟨v, ws, rfl, h, rfl⟩ := h
  exact ⟨v, rfl, h⟩
theorem rpL_two {K : PySem.W.Frag} {ρ : Ad} {H : Hp} {x y : D} {vs : List V} (h : RpL K ρ H [x, y] vs) : ∃ v w, vs = [v, w] ∧ Rp K ρ H x v ∧ Rp K ρ H y w := by
  obtain ⟨v, ws, rfl, h, w, _, rfl, h', rfl⟩ := h
  exact ⟨v, w, rfl, h, h'⟩
theorem rpL_three {K : PySem.W.Frag} {ρ : Ad} {H : Hp} {x y z : D} {vs : List V} (h : RpL K ρ H [x, y, z] vs) : ∃ v w u, vs = [v, w, u] ∧ Rp K ρ H x v ∧ Rp K ρ H y w ∧ Rp K ρ H z u := by
  obtain ⟨v, ws, rfl, h, w, _, rfl, h', u, _, rfl, h'', rfl⟩ := h
  exact ⟨v, w, u, rfl, h, h', h''⟩
theorem si_range1 {a : Expr} (hg : Gl X "range") (hm : X.mg "range" = none) (ha : SA X W [a] da) (hs : starEach [a] X.env = [(false, eval a X.env)] := by rfl) : SI X W tg (.Call (.Name "range" p) [a] [] pos) (iR1 da) := PI.imp (pi_range1 hg hm ha hs) fun σ H R ⟨n, ρ, S, δ, g, en, r⟩ => by
  unfold iR1 at r
  refine ⟨n, ρ, S, δ, g, en, (Rest.bind (rel' := RpL X.K) en r).mono fun v H1 ⟨ρ1, S1, d1, g1, e1, r1, f1, q⟩ => ?_⟩
  split at q
  · rename_i j
    split at q
    · rename_i h
      obtain ⟨v, rfl, rv⟩ := rpL_one r1
      obtain rfl : v = _ := rv
      exact ⟨j, rfl, h.1, h.2, q _ ρ1 H1 g1 wk_range1 Fr.refl⟩
    · exact False.elim q
  · exact False.elim q
@[irreducible] def iR2 (da : DA) : DI := fun n δ S => (da n δ S).bind fun ds S => match ds with
  | [.int i, .int j] => if -(2 ^ 62) ≤ i ∧ i < 2 ^ 62 ∧ -(2 ^ 62) ≤ j ∧ j < 2 ^ 62 then .ok (rangeD i 1 (j - i).toNat) S else .bad
  | _ => .bad
theorem si_range2 {a b : Expr} (hg : Gl X "range") (hm : X.mg "range" = none) (ha : SA X W [a, b] da) (hs : starEach [a, b] X.env = [(false, eval a X.env), (false, eval b X.env)] := by rfl) (hs2 : starEach [b] X.env = [(false, eval b X.env)] := by rfl) :
    SI X W tg (.Call (.Name "range" p) [a, b] [] pos) (iR2 da) := PI.imp (pi_range2 hg hm ha hs hs2) fun σ H R ⟨n, ρ, S, δ, g, en, r⟩ => by
  unfold iR2 at r
  refine ⟨n, ρ, S, δ, g, en, (Rest.bind (rel' := RpL X.K) en r).mono fun v H1 ⟨ρ1, S1, d1, g1, e1, r1, f1, q⟩ => ?_⟩
  split at q
  · rename_i i j
    split at q
    · rename_i h
      obtain ⟨v, w, rfl, rv, rw'⟩ := rpL_two r1
      obtain rfl : v = _ := rv
      obtain rfl : w = _ := rw'
      exact ⟨i, j, rfl, h, q _ ρ1 H1 g1 wk_range1 Fr.refl⟩
    · exact False.elim q
  · exact False.elim q
/-- range(i, j, c) upward -/
@[irreducible] def iR3 (da : DA) : DI := fun n δ S => (da n δ S).bind fun ds S => match ds with
  | [.int i, .int j, .int c] => if c ≠ 0 ∧ c.natAbs < 1073741824 ∧ Builtin.Range.small i j c = true ∧ 0 ≤ Builtin.Range.rangeSize i j c then .ok (rangeD i c (Builtin.Range.rangeSize i j c).toNat) S else .bad
  | _ => .bad
theorem si_range3 {a b c : Expr} (hg : Gl X "range") (hm : X.mg "range" = none) (ha : SA X W [a, b, c] da)
    (hs : starEach [a, b, c] X.env = (false, eval a X.env) :: starEach [b, c] X.env := by rfl) (hpl : (backTo pos (starEach [b, c] X.env)).any (·.1) = false := by rfl) :
    SI X W tg (.Call (.Name "range" p) [a, b, c] [] pos) (iR3 da) := PI.imp (pi_range3 hg hm ha hs hpl) fun σ H R ⟨n, ρ, S, δ, g, en, r⟩ => by
  unfold iR3 at r
  refine ⟨n, ρ, S, δ, g, en, (Rest.bind (rel' := RpL X.K) en r).mono fun v H1 ⟨ρ1, S1, d1, g1, e1, r1, f1, q⟩ => ?_⟩
  split at q
  · rename_i i j c
    split at q
    · rename_i h
      obtain ⟨v, w, u, rfl, rv, rw', ru⟩ := rpL_three r1
      obtain rfl : v = _ := rv
      obtain rfl : w = _ := rw'
      obtain rfl : u = _ := ru
      exact ⟨i, j, c, _, rfl, ⟨h.1, h.2.1, h.2.2.1, (Int.toNat_of_nonneg h.2.2.2).symm⟩, q _ ρ1 H1 g1 wk_range Fr.refl⟩
    · exact False.elim q
  · exact False.elim q
def iEn (da : DA) : DI := fun n δ S => (da n δ S).bind fun ds S => match ds with
  | [.lst xs] => .ok (enumD 0 xs) S
  | _ => .bad
theorem si_enum (hg : Gl X "enumerate") (hm : X.mg "enumerate" = none) (ha : SA X W [e] da) (hs : starEach [e] X.env = [(false, eval e X.env)] := by rfl) :
    SI X W (.Tuple elts kk tpos) (.Call (.Name "enumerate" p) [e] [] pos) (iEn da) := PI.imp (pi_enum hg hm ha hs) fun σ H R ⟨n, ρ, S, δ, g, en, r⟩ => by
  refine ⟨n, ρ, S, δ, g, en, (Rest.bind (rel' := RpL X.K) en r).mono fun v H1 ⟨ρ1, S1, d1, g1, e1, r1, f1, q⟩ => ?_⟩
  split at q
  · obtain ⟨v, rfl, rv⟩ := rpL_one r1
    obtain ⟨a, vs, rfl, t, r⟩ := rv
    exact ⟨a, vs, rfl, t.sq, q _ ρ1 H1 g1 (wk_enum t r) Fr.refl⟩
  · exact False.elim q
def iZp (da : DA) : DI := fun n δ S => (da n δ S).bind fun ds S => match ds with
  | [.lst xs, .lst ys] => .ok (zipD xs ys) S
  | [.tup xs, .tup ys] => .ok (zipD xs ys) S
  | _ => .bad
theorem si_zip (hg : Gl X "zip") (hm : X.mg "zip" = none) (ha : SA X W [e, e2] da)
    (hs : starEach [e, e2] X.env = (false, eval e X.env) :: starEach [e2] X.env := by rfl) (hpl : (backTo pos (starEach [e2] X.env)).any (·.1) = false := by rfl) :
    SI X W (.Tuple elts kk tpos) (.Call (.Name "zip" p) [e, e2] [] pos) (iZp da) := PI.imp (RZ.pi_zipA hg hm ha hs hpl) fun σ H R ⟨n, ρ, S, δ, g, en, r⟩ => by
  refine ⟨n, ρ, S, δ, g, en, (Rest.bind (rel' := RpL X.K) en r).mono fun v H1 ⟨ρ1, S1, d1, g1, e1, r1, f1, q⟩ => ?_⟩
  split at q
  · obtain ⟨v, w, rfl, rv, rw'⟩ := rpL_two r1
    obtain ⟨a, vs, rfl, t, r⟩ := rv
    obtain ⟨b, ws, rfl, t', r'⟩ := rw'
    exact ⟨a, b, vs, ws, rfl, .inl ⟨t.sq, t'.sq, q _ ρ1 H1 g1 (wk_zip t r t' r') Fr.refl⟩⟩
  · obtain ⟨v, w, rfl, rv, rw'⟩ := rpL_two r1
    obtain ⟨a, vs, rfl, t, r⟩ := rv
    obtain ⟨b, ws, rfl, t', r'⟩ := rw'
    exact ⟨a, b, vs, ws, rfl, .inr ⟨t.sq, t'.sq, q _ ρ1 H1 g1 (wk_zipT t r t' r') Fr.refl⟩⟩
  · exact False.elim q
end
/-! ### targets -/
abbrev GT := D → Slots → Option Slots
abbrev GTs := List D → Slots → Option Slots
def TgOk (K : PySem.W.Frag) (t : TG) (g : GT) (is : List Nat) : Prop := ∀ (ρ : Ad) (H : Hp) (δ δ' : Slots) (σ : L2.St) (d : D) (v : V) (Q : L2.St → Hp → Prop), EnvOk K ρ H δ σ → Rp K ρ H d v → g d δ = some δ' →
  (∀ σ', EnvOk K ρ H δ' σ' → (∀ vs : List Nat, (∀ i ∈ is, i ∈ vs) → wipe σ' vs = wipe σ vs) → Q σ' H) → t v σ H Q
def TgsOk (K : PySem.W.Frag) (t : TGs) (g : GTs) (is : List Nat) : Prop := ∀ (ρ : Ad) (H : Hp) (δ δ' : Slots) (σ : L2.St) (ds : List D) (vs : List V) (Q : L2.St → Hp → Prop), EnvOk K ρ H δ σ → RpL K ρ H ds vs → g ds δ = some δ' →
  (∀ σ', EnvOk K ρ H δ' σ' → (∀ vs : List Nat, (∀ i ∈ is, i ∈ vs) → wipe σ' vs = wipe σ vs) → Q σ' H) → t vs σ H Q
structure SG (X : Cx) (e : Expr) (t : TG) (g : GT) (is : List Nat) : Prop where
  pg : PG X e t
  ok : TgOk X.K t g is
structure SGs (X : Cx) (es : List Expr) (t : TGs) (g : GTs) (is : List Nat) : Prop where
  pg : PGs X es t
  ok : TgsOk X.K t g is
theorem wipe_set : ∀ (vs : List Nat) (σ : L2.St) (i : Nat) (x : Option V), i ∈ vs → wipe (σ.set i x) vs = wipe σ vs
  | [], _, _, _, h => by cases h
  | v :: vs, σ, i, x, h => by
    by_cases hv : i ∈ vs
    · show (wipe (σ.set i x) vs).set v none = (wipe σ vs).set v none
      rw [wipe_set vs σ i x hv]
    · have e : i = v := by
        rcases List.mem_cons.mp h with h | h
        · exact h
        · exact absurd h hv
      subst e
      show (wipe (σ.set i x) vs).set i none = (wipe σ vs).set i none
      have q : ∀ (vs : List Nat) (σ : L2.St), i ∉ vs → wipe (σ.set i x) vs = (wipe σ vs).set i x := by
        intro vs
        induction vs with
        | nil => intro σ _; rfl
        | cons u us ih =>
          intro σ hn
          have h1 : i ≠ u := fun z => hn (by rw [z]; exact List.mem_cons_self)
          show (wipe (σ.set i x) us).set u none = ((wipe σ us).set u none).set i x
          rw [ih σ fun z => hn (List.mem_cons_of_mem _ z), List.set_comm _ _ h1]
      rw [q vs σ hv, List.set_set]
def gN (i : Nat) : GT := fun d δ => some (δ.set i (some d))
def gT (g : GTs) : GT := fun d δ => match d with
  | .tup ds => g ds δ
  | _ => none
def gsN : GTs := fun ds δ => match ds with
  | [] => some δ
  | _ => none
def gsC (g : GT) (gs : GTs) : GTs := fun ds δ => match ds with
  | d :: ds => (g d δ).bind (gs ds)
  | [] => none
section
variable {X : Cx} {pos : Pos} {e : Expr} {es : List Expr}
theorem sg_name {i : Nat} {x : Str} (hN : X.N.Nodup) (hi : X.N[i]? = some x) (hx : Loc X.env.scope x) (hf : X.fn x = true ∨ X.env.scope.names.lookup x = some .local := by first | exact .inl rfl | exact .inr rfl | assumption) : SG X (.Name x pos) (gName i) (gN i) [i] :=
  ⟨pg_name hN hi hx hf, fun ρ H δ δ' σ d v Q en r e q => by cases e; exact q _ (en.set i r) fun vs h => wipe_set vs σ i _ (h i (by simp))⟩
theorem sgs_nil : SGs X [] gNil gsN [] := ⟨pgs_nil, fun ρ H δ δ' σ ds vs Q en r e q => by
  cases ds <;> cases e
  exact ⟨r, q _ en fun _ _ => rfl⟩⟩
theorem sgs_cons {t : TG} {u : TGs} {g : GT} {gs : GTs} {is js : List Nat} (h1 : SG X e t g is) (h2 : SGs X es u gs js) (hs : (assignEach (e :: es) X.env).map (·.2) = assign e X.env :: (assignEach es X.env).map (·.2) := by rfl) : SGs X (e :: es) (gCons t u) (gsC g gs) (is ++ js) := by
  refine ⟨pgs_cons h1.pg h2.pg hs, fun ρ H δ δ' σ ds vs Q en r e q => ?_⟩
  cases ds with
  | nil => cases e
  | cons d ds =>
    obtain ⟨v, ws, rfl, r1, r2⟩ := r
    obtain ⟨δ1, e1, e2⟩ := Option.bind_eq_some_iff.mp (show (g d δ).bind (gs ds) = some δ' from e)
    exact ⟨v, ws, rfl, h1.ok ρ H δ δ1 σ d v _ en r1 e1 fun σ1 en1 w1 => h2.ok ρ H δ1 δ' σ1 ds ws Q en1 r2 e2 fun σ2 en2 w2 => q σ2 en2 fun vs h => (w2 vs fun i hi => h i (by simp [hi])).trans (w1 vs fun i hi => h i (by simp [hi]))⟩
theorem gsC_len {g : GTs} {n : Nat} (h : ∀ ds δ δ', g ds δ = some δ' → ds.length = n) (t : GT) : ∀ ds δ δ', gsC t g ds δ = some δ' → ds.length = n + 1
  | [], _, _, e => by cases e
  | d :: ds, δ, δ', e => by
    obtain ⟨δ1, _, e2⟩ := Option.bind_eq_some_iff.mp (show (t d δ).bind (g ds) = some δ' from e)
    rw [List.length_cons, h ds δ1 δ' e2]
theorem gsN_len : ∀ ds δ δ', gsN ds δ = some δ' → ds.length = 0
  | [], _, _, _ => rfl
  | _ :: _, _, _, e => by cases e
theorem sg_tup {k : Nat} {u : TGs} {gs : GTs} {is : List Nat} {n : Nat} (hc : X.calm = true) (h : SGs X es u gs is) (hl : ∀ ds δ δ', gs ds δ = some δ' → ds.length = n) (hn : (assignEach es X.env).length = n := by rfl) (hst : (assignEach es X.env).findIdx? (·.1) = none := by rfl) : SG X (.Tuple es k pos) (gTup X.K n u) (gT gs) is := by
  refine ⟨pg_tup hc h.pg hn hst, fun ρ H δ δ' σ d v Q en r e q => ?_⟩
  cases d with
  | tup ds =>
    obtain ⟨a, vs, rfl, t, r⟩ := tup_rp r
    exact ⟨a, vs, rfl, t, by rw [r.length]; exact hl ds δ δ' e, h.ok ρ H δ δ' σ ds vs Q en r e q⟩
  | _ => cases e
end
/-- target = value -/
def dAsg (g : GT) (de : DE) : DS := fun n δ S => (de n δ S).to δ fun d S => match g d δ with
  | some δ' => .nx δ' S
  | none => .bad
theorem ss_asg {X : Cx} {W : WX} {tg e : Expr} {de : DE} {t : TG} {g : GT} {is : List Nat} {pos : Pos} (he : SE X W e de) (hg : SG X tg t g is) (hs : swapsWithSole [tg] e pos.line X.env = pure false := by rfl) (hw : swappedStores [tg] e X.env = pure none := by rfl)
    (h1 : (assignEach [tg] X.env).map (·.2) = [assign tg X.env] := by rfl) : SS X W (.Assign [tg] e pos) (dAsg g de) := by
  refine PS.imp (ps_asg he hg.pg hs hw h1) fun E σ H ⟨n, ρ, S, δ, g0, en, r⟩ => ?_
  refine ⟨n, ρ, S, δ, g0, en, (RestS.ex (rel := Rp X.K) g0 en r).mono fun v H1 ⟨ρ1, S1, d1, g1, e1, r1, f1, q⟩ => ?_⟩
  split at q
  · rename_i δ' e
    exact hg.ok ρ1 H1 δ δ' σ d1 v _ e1 r1 e fun σ' en' _ => q σ' ρ1 H1 g1 en' Fr.refl
  · exact False.elim q
/-! ### for -/
def forL (step : D → Slots → Store → SR) : List D → Slots → Store → SR
  | [], δ, S => .nx δ S
  | d :: ds, δ, S => match step d δ S with
    | .nx δ' S' => forL step ds δ' S'
    | .ct δ' S' => forL step ds δ' S'
    | .bk δ' S' => .nx δ' S'
    | r => r
def forStep (g : GT) (body : DS) (n : Nat) (d : D) (δ : Slots) (S : Store) : SR := match g d δ with
  | some δ' => body n δ' S
  | none => .bad
def dFor (g : GT) (di : DI) (body : DS) : DS := fun n δ S => (di n δ S).to δ fun ds S => forL (forStep g body n) ds δ S
theorem ss_for {X : Cx} {W : WX} {tg iter : Expr} {body : List Stmt} {t : TG} {g : GT} {is : List Nat} {di : DI} {db : DS} {pos : Pos} (hp : PassesOwn (model X.prog X.w) X.A X.env X.xe) (hc : X.calm = true) (hg : SG X tg t g is) (hi : SI X W tg iter di) (hb : SB X W body db)
    (hs : ∀ x, foldedSetIterable iter X.env x = pure x := by intro _; rfl) : SS X W (.For tg iter body [] pos) (dFor g di db) := by
  refine PS.imp (ps_for hp hc hi hg.pg hb hs) fun E σ H ⟨n, ρ, S, δ, g0, en, r⟩ => ?_
  refine ⟨n, ρ, S, δ, g0, en, (RestS.ex (rel := fun ρ H ds J => Wk X.K ρ H ds J) g0 en r).mono fun J H1 ⟨ρ1, S1, ds, g1, e1, wk, f1, q⟩ => ?_⟩
  refine ⟨fun i m σ H => m + i = ds.length ∧ ∃ ρ S δ, Good X.K ρ S H ∧ EnvOk X.K ρ H δ σ ∧ Kp ρ1 H1 ρ H ∧ RestS X.K n ρ S H E W (forL (forStep g db n) (ds.drop i) δ S), ⟨ds.length, rfl, ρ1, S1, δ, g1, e1, Kp.refl, q⟩, ?_⟩
  rintro i m σ2 H2 ⟨hm, ρ2, S2, δ2, g2, e2, k2, q2⟩
  obtain ⟨w1, w2⟩ := wk ρ2 S2 H2 k2 g2
  by_cases hlt : i < ds.length
  · obtain ⟨w3, w4⟩ := w1 i _ (List.getElem?_eq_getElem hlt)
    rw [List.drop_eq_getElem_cons hlt] at q2
    simp only [forL] at q2
    refine .inr ⟨w3, fun σ' H' => ∃ m', m' < m ∧ m' + (i + 1) = ds.length ∧ ∃ ρ S δ, Good X.K ρ S H' ∧ EnvOk X.K ρ H' δ σ' ∧ Kp ρ1 H1 ρ H' ∧ RestS X.K n ρ S H' E W (forL (forStep g db n) (ds.drop (i + 1)) δ S), fun σ' H' ⟨m', h1, h2⟩ => ⟨m', h1, h2⟩, fun x H' y => ?_⟩
    obtain ⟨k3, g3, r3⟩ := w4 x H' y
    cases hgd : g ds[i] δ2 with
    | none =>
      rw [show forStep g db n ds[i] δ2 S2 = .bad by unfold forStep; rw [hgd]] at q2
      exact False.elim q2
    | some δ3 =>
      rw [show forStep g db n ds[i] δ2 S2 = db n δ3 S2 by unfold forStep; rw [hgd]] at q2
      refine hg.ok ρ2 H' δ2 δ3 σ2 _ x _ (e2.kp k3) r3 hgd fun σ3 e3 _ => ⟨n, ρ2, S2, δ3, g3, e3, ?_⟩
      have fr : Fr n ρ2 S2 H2 ρ2 S2 H' := ⟨k3, Shr.refl⟩
      revert q2
      cases db n δ3 S2 with
      | nx δ4 S4 => exact fun q2 σ4 ρ4 H4 g4 e4 f4 => ⟨m - 1, by omega, by omega, ρ4, S4, δ4, g4, e4, k2.trans (k3.trans f4.kp), RestS.root (fr.trans f4) q2⟩
      | ct δ4 S4 => exact fun q2 σ4 ρ4 H4 g4 e4 f4 => ⟨m - 1, by omega, by omega, ρ4, S4, δ4, g4, e4, k2.trans (k3.trans f4.kp), RestS.root (fr.trans f4) q2⟩
      | bk δ4 S4 => exact fun q2 => RestS.root (r := .nx δ4 S4) fr q2
      | rt d4 S4 => exact fun q2 => RestS.root (r := .rt d4 S4) fr q2
      | exc x4 d4 S4 => exact fun q2 => RestS.root (r := .exc x4 d4 S4) fr q2
      | bad => exact fun q2 => q2
  · have hi' : i = ds.length := by omega
    subst hi'
    rw [List.drop_length] at q2
    exact .inl ⟨w2, q2 _ ρ2 H2 g2 e2 Fr.refl⟩
/-! ### while: fuel -/
def whileL (test : DT) (body : DS) (n : Nat) : Nat → Slots → Store → SR
  | 0, _, _ => .bad
  | k + 1, δ, S => (test n δ S).to δ fun b S => if b = true then (match body n δ S with
    | .nx δ' S' => whileL test body n k δ' S'
    | .ct δ' S' => whileL test body n k δ' S'
    | .bk δ' S' => .nx δ' S'
    | r => r) else .nx δ S
def dWhile (fuel : Slots → Store → Nat) (test : DT) (body : DS) : DS := fun n δ S => whileL test body n (fuel δ S) δ S
theorem ss_while {X : Cx} {W : WX} {c : Expr} {body : List Stmt} {dt : DT} {db : DS} {pos : Pos} (fuel : Slots → Store → Nat) (hp : PassesOwn (model X.prog X.w) X.A X.env X.xe) (hc : ST X W c dt) (hb : SB X W body db) : SS X W (.While c body [] pos) (dWhile fuel dt db) := by
  refine PS.imp (ps_while hp hc hb) fun E σ H ⟨n, ρ, S, δ, g0, en, r⟩ => ?_
  refine ⟨fun m σ H => ∃ ρ S δ, Good X.K ρ S H ∧ EnvOk X.K ρ H δ σ ∧ RestS X.K n ρ S H E W (whileL dt db n m δ S), ⟨_, ρ, S, δ, g0, en, r⟩, ?_⟩
  rintro m σ2 H2 ⟨ρ2, S2, δ2, g2, e2, q2⟩
  cases m with
  | zero => exact False.elim q2
  | succ m =>
    unfold whileL at q2
    refine ⟨n, ρ2, S2, δ2, g2, e2, (RestS.ex (rel := fun _ _ a b => a = b) g2 e2 q2).mono fun b H3 ⟨ρ3, S3, b', g3, e3, r3, f3, q3⟩ => ?_⟩
    subst r3
    cases b' with
    | false =>
      rw [if_neg Bool.false_ne_true] at q3 ⊢
      exact q3 _ ρ3 H3 g3 e3 Fr.refl
    | true =>
      rw [if_pos rfl] at q3 ⊢
      refine ⟨fun σ' H' => ∃ ρ S δ, Good X.K ρ S H' ∧ EnvOk X.K ρ H' δ σ' ∧ RestS X.K n ρ S H' E W (whileL dt db n m δ S), fun σ' H' q => ⟨m, Nat.lt_succ_self m, q⟩, n, ρ3, S3, δ2, g3, e3, ?_⟩
      revert q3
      cases db n δ2 S3 with
      | nx δ4 S4 => exact fun q2 σ4 ρ4 H4 g4 e4 f4 => ⟨ρ4, S4, δ4, g4, e4, RestS.root f4 q2⟩
      | ct δ4 S4 => exact fun q2 σ4 ρ4 H4 g4 e4 f4 => ⟨ρ4, S4, δ4, g4, e4, RestS.root f4 q2⟩
      | bk δ4 S4 => exact fun q2 => q2
      | rt d4 S4 => exact fun q2 => q2
      | exc x4 d4 S4 => exact fun q2 => q2
      | bad => exact fun q2 => q2
end G

namespace G
open PySem L2
/-! ### comprehensions -/
abbrev W0 : WX := fun _ _ _ _ => False
/-- a raise within is not served -/
def Res.nox {α : Type} (r : Res α) : Res α := match r with
  | .exc _ _ => .bad
  | r => r
@[simp] theorem Res.nox_ok {α : Type} {a : α} {S : Store} : (Res.ok a S).nox = .ok a S := rfl
@[simp] theorem Res.nox_bad {α : Type} : (Res.bad : Res α).nox = .bad := rfl
@[simp] theorem Res.nox_exc {α : Type} {x : D} {S : Store} : (Res.exc x S : Res α).nox = .bad := rfl
def wipeD (δ : Slots) : List Nat → Slots
  | [] => δ
  | v :: vs => (wipeD δ vs).set v none
theorem EnvOk.none {K : PySem.W.Frag} {ρ : Ad} {H : Hp} {δ : Slots} {σ : L2.St} (i : Nat) (h : EnvOk K ρ H δ σ) : EnvOk K ρ H (δ.set i none) (σ.set i none) := by
  refine ⟨by simp [h.1], fun j d' e => ?_⟩
  by_cases hj : j = i
  · subst hj
    by_cases hl : j < δ.length
    · rw [List.getElem?_set_self hl] at e
      cases e
    · rw [List.getElem?_eq_none (by simp; omega)] at e
      cases e
  · rw [List.getElem?_set_ne (fun z => hj z.symm)] at e
    obtain ⟨u, h1, h2⟩ := h.2 j d' e
    exact ⟨u, by rw [List.getElem?_set_ne (fun z => hj z.symm)]; exact h1, h2⟩
theorem EnvOk.wipe {K : PySem.W.Frag} {ρ : Ad} {H : Hp} {δ : Slots} {σ : L2.St} (h : EnvOk K ρ H δ σ) : ∀ vs : List Nat, EnvOk K ρ H (wipeD δ vs) (L2.wipe σ vs)
  | [] => h
  | v :: vs => (EnvOk.wipe h vs).none v
def Ad.hide (ρ : Ad) (p : Addr) : Ad := ⟨ρ.r, p :: ρ.x⟩
section
variable {K : PySem.W.Frag} {ρ ρ1 : Ad} {S : Store} {H H1 : Hp} {σ σ2 : L2.St} {W : WX} {n : Nat} {p : Addr} {o : HO}
theorem Rest.noxb {α β α' β' : Type} {rel : Ad → Hp → α → β → Prop} {rel' : Ad → Hp → α' → β' → Prop} {r : Res α'} {f : α' → Store → Res α} {Q : β → Hp → Prop} {S1 : Store} (h : Rest rel K n ρ1 S1 H1 σ Q W (r.nox.bind f)) :
    Rest rel' K n ρ S H σ2 (fun v H' => ∃ ρ' S' d, Good K ρ' S' H' ∧ rel' ρ' H' d v ∧ Fr n ρ S H ρ' S' H' ∧ Rest rel K n ρ1 S1 H1 σ Q W (f d S')) W0 r := by
  cases r with
  | ok d S' => exact fun v ρ' H' g a fr => ⟨ρ', S', d, g, a, fr, h⟩
  | exc x S' => exact False.elim h
  | bad => exact h
theorem Kp.hide (h : H p = none) : Kp ρ H (ρ.hide p) (upd H p o) := (⟨List.prefix_refl _, fun a m => by
  rcases List.mem_cons.mp m with m | m
  · exact .inr (.inr (by rw [m]; exact h))
  · exact .inl m, fun _ m => List.mem_cons_of_mem _ m, fun a u e _ => by rw [upd_ne (ne_of_none e h)]; exact e, fun _ m n => absurd m n⟩ : Kp5 ρ H (ρ.hide p) (upd H p o)).kp
theorem Good.hide (g : Good K ρ S H) (h : H p = none) : Good K (ρ.hide p) S (upd H p o) :=
  ⟨g.len, g.nd, fun i a c h1 h2 => (g.cell i a c h1 h2).kp (Kp.hide h) fun u e => by rw [upd_ne (ne_of_none e h)]; exact e, fun a m => by
    rcases List.mem_cons.mp m with m | m
    · subst m
      exact ⟨(g.notin h).1, o, upd_same⟩
    · obtain ⟨h1, u, e⟩ := g.hid a m
      exact ⟨h1, u, by rw [upd_ne (ne_of_none e h)]; exact e⟩, g.tab.to fun b u e n => ⟨by rw [upd_ne (ne_of_none e h)]; exact e, n.1, fun m => by
    rcases List.mem_cons.mp m with m | m
    · rw [m, h] at e; cases e
    · exact n.2 m⟩⟩
theorem CellOk.hset {a : Addr} (k : p ∈ ρ.x) (ha : a ≠ p) : ∀ {c : Cell}, CellOk K ρ H a c → CellOk K ρ (upd H p o) a c
  | .lst _, ⟨vs, e, r⟩ => ⟨vs, by rw [upd_ne ha]; exact e, r.hset k⟩
  | .dct _, ⟨vs, e, r⟩ => ⟨vs, by rw [upd_ne ha]; exact e, r.hset k⟩
  | .ins _ _, ⟨dx, vs, e, r⟩ => ⟨dx, vs, by rw [upd_ne ha]; exact e, r.hset k⟩
  | .gone, ⟨u, e⟩ => ⟨u, by rw [upd_ne ha]; exact e⟩
theorem Good.hset (g : Good K ρ S H) (k : p ∈ ρ.x) : Good K ρ S (upd H p o) :=
  ⟨g.len, g.nd, fun i a c h1 h2 => (g.cell i a c h1 h2).hset k fun z => (g.hid p k).1 (by rw [← z]; exact List.mem_of_getElem? h1), fun a m => ⟨(g.hid a m).1, by
    by_cases z : a = p
    · subst z; exact ⟨o, upd_same⟩
    · obtain ⟨u, e⟩ := (g.hid a m).2
      exact ⟨u, by rw [upd_ne z]; exact e⟩⟩, g.tab.to fun b u e n => ⟨by rw [upd_ne (fun z : b = p => n.2 (by rw [z]; exact k))]; exact e, n⟩⟩
/-- seen from ahead of the making -/
theorem Kp.hset (k : Kp ρ1 H1 ρ H) (h : H1 p = none) : Kp ρ1 H1 ρ (upd H p o) := ⟨k.pre, k.ex, k.sub, fun a u e n t => by rw [upd_ne (ne_of_none e h)]; exact k.keep a u e n t, fun a u e n => by rw [upd_ne (ne_of_none e h)]; exact k.there a u e n, k.new⟩
/-- the made list is a value now -/
theorem Good.unhide (g : Good K ρ S H) (x : List Addr) (hx : ∀ a ∈ x, a ∈ ρ.x) : Good K ⟨ρ.r, x⟩ S H :=
  have c : Cut ⟨ρ.r, x⟩ ρ := ⟨List.prefix_refl _, hx⟩
  ⟨g.len, g.nd, fun i a c' h1 h2 => by
    have q := g.cell i a c' h1 h2
    cases c' with
    | lst ds => obtain ⟨vs, e, r⟩ := q; exact ⟨vs, e, RpL.cut c ds vs (RpL.low (ρ := ρ) ds vs r) r⟩
    | dct ds => obtain ⟨vs, e, r⟩ := q; exact ⟨vs, e, RpP.cut c ds vs (RpP.low (ρ := ρ) ds vs r) r⟩
    | ins C ds => obtain ⟨dx, vs, e, r⟩ := q; exact ⟨dx, vs, e, RpF.cut c ds vs (RpF.low (ρ := ρ) ds vs r) r⟩
    | gone => exact q, fun a m => g.hid a (hx a m), g.tab.to fun b u e n => ⟨e, n.1, fun m => n.2 (hx b m)⟩⟩
theorem Kp.unhide (k : Kp ρ1 H1 ρ H) : Kp ρ1 H1 ⟨ρ.r, ρ1.x⟩ H := ⟨k.pre, fun _ m => .inl m, fun _ m => m, k.keep, k.there, k.new⟩
theorem EnvOk.hset {δ : Slots} (e : EnvOk K ρ H δ σ) (k : p ∈ ρ.x) : EnvOk K ρ (upd H p o) δ σ := ⟨e.1, fun i d h => by
  obtain ⟨v, h1, h2⟩ := e.2 i d h
  exact ⟨v, h1, h2.hset k⟩⟩
end
/-- the elements -/
def lcL (g : GT) (dt : DT) (de : DE) (n : Nat) (δ : Slots) : List D → Store → Res (List D)
  | [], S => .ok [] S
  | d :: ds, S => match g d δ with
    | none => .bad
    | some δ2 => (dt n δ2 S).nox.bind fun b S1 => if b = true then (de n δ2 S1).nox.bind fun y S2 => (lcL g dt de n δ ds S2).bind fun ys S3 => .ok (y :: ys) S3 else lcL g dt de n δ ds S1
def dLc (own : List Nat) (g : GT) (di : DI) (dt : DT) (de : DE) : DE := fun n δ S => (di n δ S).bind fun ds S1 => if ds.length < sizeLine then (lcL g dt de n (wipeD δ own) ds S1).bind fun ys S2 => .ok (.lst ys) S2 else .bad
abbrev SPTs (X : Cx) (W : WX) (ifs : List Expr) (dt : DT) : Prop := PTs X ifs (tT X.K dt W)
def tYesD : DT := fun _ _ S => .ok true S
theorem PTs.imp {X : Cx} {e : List Expr} {t t' : TT} (h : PTs X e t) (i : ∀ σ H Q, t' σ H Q → t σ H Q) : PTs X e t' := ⟨fun pins s σ H Q I q => h.run pins s σ H Q I (i σ H Q q)⟩
theorem spt_nil {X : Cx} {W : WX} : SPTs X W [] tYesD := PTs.imp pts_nil fun σ H Q ⟨n, ρ, S, δ, g, en, r⟩ => r true ρ H g rfl Fr.refl
theorem spt_one {X : Cx} {W : WX} {c : Expr} {dt : DT} (h : ST X W c dt) : SPTs X W [c] dt := pts_one h
/-- the turns of a comprehension -/
theorem lc_turns {K : PySem.W.Frag} {t : TG} {g : GT} {is own : List Nat} {dt : DT} {de : DE} (ho : TgOk K t g is) (his : ∀ i ∈ is, i ∈ own) {n : Nat} {ρ1 : Ad} {S1 : Store} {H1 : Hp} {δ : Slots} {σ : L2.St} {W : WX} {Q : VK} {ds : List D} {J : It} {p : Addr}
    (g1 : Good K ρ1 S1 H1) (e1 : EnvOk K ρ1 H1 δ σ) (wk : Wk K ρ1 H1 ds J) (hp : H1 p = none) (hz : ds.length < sizeLine)
    (q : Rest (Rp K) K n ρ1 S1 H1 σ Q W ((lcL g dt de n (wipeD δ own) ds S1).bind fun ys S2 => .ok (.lst ys) S2)) :
    ∃ Wv : Nat → Nat → Hp → Prop, (∃ m, Wv 0 m (upd H1 p (.lst []))) ∧ ∀ i m H, Wv i m H →
      (J.stop i H ∧ Q (.ref p) H) ∨ (J.go i H ∧ ∃ Nx : Hp → Prop, (∀ H', Nx H' → ∃ m', m' < m ∧ Wv (i + 1) m' H') ∧ ∀ x H', J.yld i H x H' → t x (wipe σ own) H' fun σ2 H2 => wipe σ2 own = wipe σ own ∧ tT K dt W0 σ2 H2 fun b H3 =>
        if b = true then tE K de W0 σ2 H3 fun y H4 => ∃ acc, H4 p = some (.lst acc) ∧ acc.length < sizeLine ∧ Nx (upd H4 p (.lst (acc ++ [y]))) else Nx H3) := by
  -- at turn i: what is made so far
  let Inv : Nat → Hp → Prop := fun i H => ∃ ρ S es vs, Good K ρ S H ∧ p ∈ ρ.x ∧ Fr n ρ1 S1 H1 ρ S H ∧ EnvOk K ρ H δ σ ∧ H p = some (.lst vs) ∧ RpL K ρ H es vs ∧ es.length ≤ i ∧
    Rest (Rp K) K n ρ1 S1 H1 σ Q W ((lcL g dt de n (wipeD δ own) (ds.drop i) S).bind fun ys S2 => .ok (.lst (es ++ ys)) S2)
  refine ⟨fun i m H => m + i = ds.length ∧ Inv i H, ⟨ds.length, rfl, ρ1.hide p, S1, [], [], g1.hide hp, List.mem_cons_self, ⟨Kp.hide hp, Shr.refl⟩, e1.kp (Kp.hide hp), upd_same, rfl, Nat.le_refl _, q⟩, ?_⟩
  rintro i m H ⟨hm, ρ2, S2, es, vs, g2, px, f2, e2, hH, r2, hl, q2⟩
  obtain ⟨w1, w2⟩ := wk ρ2 S2 H f2.kp g2
  by_cases hlt : i < ds.length
  · obtain ⟨w3, w4⟩ := w1 i _ (List.getElem?_eq_getElem hlt)
    rw [List.drop_eq_getElem_cons hlt] at q2
    refine .inr ⟨w3, fun H' => Inv (i + 1) H', fun H' h' => ⟨m - 1, by omega, by omega, h'⟩, fun x H' y => ?_⟩
    obtain ⟨k3, g3, r3⟩ := w4 x H' y
    have hH' : H' p = some (.lst vs) := k3.keep p _ hH (g2.hid p px).1 (fun _ z => by cases z)
    have f3 : Fr n ρ1 S1 H1 ρ2 S2 H' := ⟨f2.kp.trans k3, f2.shr⟩
    have e3 : EnvOk K ρ2 H' δ σ := e2.kp k3
    have r3' : RpL K ρ2 H' es vs := r2.kp k3
    cases hgd : g ds[i] (wipeD δ own) with
    | none =>
      rw [show lcL g dt de n (wipeD δ own) (ds[i] :: ds.drop (i + 1)) S2 = .bad by simp only [lcL, hgd]] at q2
      exact False.elim q2
    | some δ2 =>
      rw [show lcL g dt de n (wipeD δ own) (ds[i] :: ds.drop (i + 1)) S2 = (dt n δ2 S2).nox.bind fun b S1 => if b = true then (de n δ2 S1).nox.bind fun y S2 => (lcL g dt de n (wipeD δ own) (ds.drop (i + 1)) S2).bind fun ys S3 => .ok (y :: ys) S3 else lcL g dt de n (wipeD δ own) (ds.drop (i + 1)) S1 by simp only [lcL, hgd]] at q2
      rw [Res.bind_assoc] at q2
      refine ho ρ2 H' (wipeD δ own) δ2 (wipe σ own) _ x _ (e3.wipe own) r3 hgd fun σ3 e4 hw => ⟨?_, n, ρ2, S2, δ2, g3, e4, (Rest.noxb (rel' := fun _ _ a b => a = b) (σ2 := σ3) q2).mono fun b H3 ⟨ρ3, S3, b', g5, rb, f5, q5⟩ => ?_⟩
      · rw [hw own his]
        -- wipe of wiped
        have ww : ∀ (us vs : List Nat) (τ : L2.St), (∀ i ∈ us, i ∈ vs) → wipe (wipe τ us) vs = wipe τ vs := by
          intro us
          induction us with
          | nil => intro vs τ _; rfl
          | cons u us ih =>
            intro vs τ h
            show wipe ((wipe τ us).set u none) vs = wipe τ vs
            rw [wipe_set vs _ u none (h u (by simp))]
            exact ih vs τ fun i hi => h i (List.mem_cons_of_mem _ hi)
        exact ww own own σ fun _ h => h
      · subst rb
        have hH3 : H3 p = some (.lst vs) := f5.kp.keep p _ hH' (g2.hid p px).1 (fun _ z => by cases z)
        have px3 : p ∈ ρ3.x := f5.kp.sub p px
        cases b' with
        | false =>
          rw [if_neg Bool.false_ne_true] at q5 ⊢
          exact ⟨ρ3, S3, es, vs, g5, px3, f3.trans f5, e3.kp f5.kp, hH3, r3'.kp f5.kp, by omega, q5⟩
        | true =>
          rw [if_pos rfl] at q5 ⊢
          rw [Res.bind_assoc] at q5
          refine ⟨n, ρ3, S3, δ2, g5, e4.kp f5.kp, (Rest.noxb (rel' := Rp K) (σ2 := σ3) q5).mono fun y H4 ⟨ρ4, S4, d4, g6, r6, f6, q6⟩ => ?_⟩
          have hH4 : H4 p = some (.lst vs) := f6.kp.keep p _ hH3 (g5.hid p px3).1 (fun _ z => by cases z)
          have px4 : p ∈ ρ4.x := f6.kp.sub p px3
          have r4 := (r3'.kp f5.kp).kp f6.kp
          refine ⟨vs, hH4, by rw [r4.length]; omega, ?_⟩
          refine ⟨ρ4, S4, es ++ [d4], vs ++ [y], g6.hset px4, px4, ⟨(f3.trans (f5.trans f6)).kp.hset hp, (f3.trans (f5.trans f6)).shr⟩, ((e3.kp f5.kp).kp f6.kp).hset px4, upd_same, (r4.hset px4).append (RpL.one (r6.hset px4)), by rw [List.length_append, List.length_singleton]; omega, ?_⟩
          rw [Res.bind_assoc] at q6
          have e : (fun (ys : List D) (S2 : Store) => Res.ok (D.lst (es ++ [d4] ++ ys)) S2) = fun (a : List D) (S : Store) => (Res.ok (d4 :: a) S).bind fun ys S2 => Res.ok (D.lst (es ++ ys)) S2 := by
            funext ys S2
            simp
          rw [e]
          exact q6
  · have hi' : i = ds.length := by omega
    subst hi'
    rw [List.drop_length] at q2
    refine .inl ⟨w2, ?_⟩
    have q2 : Rest (Rp K) K n ρ1 S1 H1 σ Q W (.ok (.lst (es ++ [])) S2) := q2
    rw [List.append_nil] at q2
    have c : Cut ⟨ρ2.r, ρ1.x⟩ ρ2 := ⟨List.prefix_refl _, fun a m => f2.kp.sub a m⟩
    refine q2 (.ref p) ⟨ρ2.r, ρ1.x⟩ H (g2.unhide _ fun a m => f2.kp.sub a m) ⟨p, vs, rfl, ⟨.inl hH, fun m => (g2.hid p px).1 m, fun m => ?_⟩, RpL.cut c es vs (RpL.low (ρ := ρ2) es vs r2) r2⟩ ⟨f2.kp.unhide, f2.shr⟩
    obtain ⟨_, u, e⟩ := g1.hid p m
    rw [hp] at e
    cases e
section
variable {X : Cx} {W : WX} {tg iter elt : Expr} {ifs : List Expr} {scope : Scope} {own : List (Str × Nat)} {pos spos : Pos} {t : TG} {g : GT} {is : List Nat} {di : DI} {dt : DT} {de : DE}
theorem se_lc (hc : X.calm = true) (hN : X.N.Nodup) (hi : SI X W tg iter di) (ok : BlkOk X.N X.env.scope scope own) (ho : TgOk X.K t g is)
    (hg : ∀ (s : Shared) (H : Hp) (C : Addr) (cl : List (Str × Addr)) (fp : List Addr), PG (X.blk s H scope (compEnvC scope cl C X.env) fp) tg t) (ht : ∀ (s : Shared) (H : Hp) (C : Addr) (cl : List (Str × Addr)) (fp : List Addr), PTs (X.blk s H scope (compEnvC scope cl C X.env) fp) ifs (tT X.K dt W0))
    (he : ∀ (s : Shared) (H : Hp) (C : Addr) (cl : List (Str × Addr)) (fp : List Addr), PE (X.blk s H scope (compEnvC scope cl C X.env) fp) elt (tE X.K de W0)) (his : ∀ i ∈ is, i ∈ own.map (·.2) := by decide) (hs : ∀ x, foldedSetIterable iter X.env x = pure x := by intro _; rfl) :
    SE X W (.ListComp elt [⟨tg, iter, ifs, 0⟩] scope pos) (dLc (own.map (·.2)) g di dt de) := PE.imp (pe_lc hc hN hi ok hg ht he hs) fun σ H Q ⟨n, ρ, S, δ, g0, en, r⟩ => by
  refine ⟨n, ρ, S, δ, g0, en, (Rest.bind (rel' := fun ρ H ds J => Wk X.K ρ H ds J) en r).mono fun J H1 ⟨ρ1, S1, ds, g1, e1, wk, f1, q⟩ => fun p hp => ?_⟩
  split at q
  · rename_i hz
    exact lc_turns ho his g1 e1 wk hp hz q
  · exact False.elim q
/-- y = [..]: a statement of its own -/
theorem ss_setLc {i : Nat} {y : Str} {py : Pos} (hc : X.calm = true) (hN : X.N.Nodup) (hy : X.N[i]? = some y) (hyl : X.env.scope.names.lookup y = some .local)
    (hsw : swapsWith (.ListComp elt [⟨tg, iter, ifs, 0⟩] scope pos) (some (.Name y py)) spos.line X.env = pure true) (hi : SI X W tg iter di) (ok : BlkOk X.N X.env.scope scope own) (ho : TgOk X.K t g is)
    (hg : ∀ (s : Shared) (H : Hp) (C : Addr) (cl : List (Str × Addr)) (fp : List Addr), PG (X.blk s H scope (compEnvC scope cl C X.env) fp) tg t) (ht : ∀ (s : Shared) (H : Hp) (C : Addr) (cl : List (Str × Addr)) (fp : List Addr), PTs (X.blk s H scope (compEnvC scope cl C X.env) fp) ifs (tT X.K dt W0))
    (he : ∀ (s : Shared) (H : Hp) (C : Addr) (cl : List (Str × Addr)) (fp : List Addr), PE (X.blk s H scope (compEnvC scope cl C X.env) fp) elt (tE X.K de W0)) (his : ∀ i ∈ is, i ∈ own.map (·.2) := by decide) (hs : ∀ x, foldedSetIterable iter X.env x = pure x := by intro _; rfl) :
    SS X W (.Assign [.Name y py] (.ListComp elt [⟨tg, iter, ifs, 0⟩] scope pos) spos) (dSet i (dLc (own.map (·.2)) g di dt de)) := PS.imp (ps_setLc hc hN hy hyl hsw hi ok hg ht he hs) fun E σ H ⟨n, ρ, S, δ, g0, en, r⟩ => by
  have key : tE X.K (dLc (own.map (·.2)) g di dt de) W σ H (fun x H1 => gName i x σ H1 E.nx) := ⟨n, ρ, S, δ, g0, en, (RestS.ex (rel := Rp X.K) g0 en r).mono fun v H1 ⟨ρ1, S1, d1, g1, e1, r1, f1, q⟩ => q _ ρ1 H1 g1 (e1.set i r1) Fr.refl⟩
  obtain ⟨n, ρ, S, δ, g0, en, r⟩ := key
  refine ⟨n, ρ, S, δ, g0, en, (Rest.bind (rel' := fun ρ H ds J => Wk X.K ρ H ds J) en r).mono fun J H1 ⟨ρ1, S1, ds, g1, e1, wk, f1, q⟩ => fun p hp => ?_⟩
  split at q
  · rename_i hz
    exact lc_turns ho his g1 e1 wk hp hz q
  · exact False.elim q
end
end G

namespace G
open PySem PySem.Spec PyProof.Rows L2
/-! ### defs -/
abbrev Mf := Nat → List D → Store → Res D
/-- the promise: the def does what m does -/
def spD (K : PySem.W.Frag) (ar : Nat) (m : Mf) : Sp := fun vs H Q E => vs.length = ar ∧ ∃ n ρ S ds, Good K ρ S H ∧ RpLS K ρ H ds vs ∧ Rest (Rp K) K n ρ S H [] Q (fun c e _ H' => E c e H') (m n ds S)
def startD (N : Nat) (ds : List D) : Slots := ds.map some ++ List.replicate (N - ds.length) none
/-- a def that may keep what it made -/
def SR.fin : SR → Res D
  | .nx _ S' => .ok .non S'
  | .rt d S' => .ok d S'
  | .exc x _ S' => .exc x S'
  | _ => .bad
def mKeep (ar N : Nat) (db : DS) : Mf := fun n ds S => if ds.length = ar then (db n (startD N ds) S).fin else .bad
/-! ### a pure def: what it made is dropped, its answer made a value -/
def mapO {α β : Type} (f : α → Option β) : List α → Option (List β)
  | [] => some []
  | a :: as => match f a, mapO f as with
    | some b, some bs => some (b :: bs)
    | _, _ => none
def fzD (n : Nat) (S : Store) : Nat → D → Option D
  | 0, d => if low n d = true then some d else none
  | k + 1, d => if low n d = true then some d else match d with
    | .ref i => match S[i]? with
      | some (.lst ds) => (mapO (fzD n S k) ds).map .lst
      | some (.ins C fs) => (mapO (fun q : String × D => (fzD n S k q.2).map fun d => (q.1, d)) fs).map (.obj C)
      | some (.dct kvs) => (mapO (fun q : D × D => (fzD n S k q.2).map fun d => (q.1, d)) kvs).map .dct
      | _ => none
    | .tup ds => (mapO (fzD n S k) ds).map .tup
    | .lst ds => (mapO (fzD n S k) ds).map .lst
    | .dct kvs => (mapO (fun q : D × D => (fzD n S k q.2).map fun d => (q.1, d)) kvs).map .dct
    | .obj C fs => (mapO (fun q : String × D => (fzD n S k q.2).map fun d => (q.1, d)) fs).map (.obj C)
    | .exn C fs => (mapO (fun q : String × D => (fzD n S k q.2).map fun d => (q.1, d)) fs).map (.exn C)
    | _ => none
def fzFuel : Nat := 12
def cutR (S0 : Store) (r : Res D) : Res D := match r with
  | .ok d S' => match fzD S0.length S' fzFuel d with
    | some d' => .ok d' (S'.take S0.length)
    | none => .bad
  | .exc x S' => if low S0.length x = true then .exc x (S'.take S0.length) else .bad
  | .bad => .bad
def mPure (ar N : Nat) (db : DS) : Mf := fun _ ds S => cutR S (mKeep ar N db S.length ds S)
section
variable {K : PySem.W.Frag} {ρ ρ' : Ad} {S S' : Store} {H H' : Hp} {σ : L2.St} {W : WX} {n : Nat}
theorem EnvOk.start {N : List Str} {ds : List D} {vs : List V} (r : RpLS K ρ H ds vs) : EnvOk K ρ H (startD N.length ds) (L2.start N vs) := by
  have hl := r.length
  refine ⟨by simp [startD, L2.start, hl], fun i d e => ?_⟩
  unfold startD at e
  by_cases hi : i < ds.length
  · rw [List.getElem?_append_left (by simpa using hi), List.getElem?_map] at e
    obtain ⟨d', e1, e2⟩ := Option.map_eq_some_iff.mp e
    cases e2
    obtain ⟨v, h1, h2⟩ := r.get e1
    refine ⟨v, ?_, h2⟩
    unfold L2.start
    rw [List.getElem?_append_left (by simpa [hl] using hi), List.getElem?_map, h1]
    rfl
  · rw [List.getElem?_append_right (by simpa using hi), List.getElem?_replicate] at e
    split at e <;> cases e
theorem fzL_aux {f : D → Option D} (hf : ∀ d d' v, Rp K ρ' H d v → f d = some d' → Rp K ρ H d' v) : ∀ (ds ds' : List D) (vs : List V), RpL K ρ' H ds vs → mapO f ds = some ds' → RpL K ρ H ds' vs
  | [], _, _, r, e => by cases e; exact r
  | d :: ds, ds', _, ⟨v, ws, e1, r, rr⟩, e => by
    subst e1
    unfold mapO at e
    cases h1 : f d with
    | none => rw [h1] at e; cases e
    | some b =>
      cases h2 : mapO f ds with
      | none => rw [h1, h2] at e; cases e
      | some bs =>
        rw [h1, h2] at e; cases e
        exact ⟨v, ws, rfl, hf d b v r h1, fzL_aux hf ds bs ws rr h2⟩
theorem fzP_aux {f : D → Option D} (hf : ∀ d d' v, Rp K ρ' H d v → f d = some d' → Rp K ρ H d' v) : ∀ (ds ds' : List (D × D)) (vs : List (Key × V)), RpP K ρ' H ds vs → mapO (fun q : D × D => (f q.2).map fun d => (q.1, d)) ds = some ds' → RpP K ρ H ds' vs
  | [], _, _, r, e => by cases e; exact r
  | (c, d) :: ds, ds', _, ⟨q, v, ws, e1, y, r, rr⟩, e => by
    subst e1
    unfold mapO at e
    cases h1 : f d with
    | none => simp only [h1, Option.map_none] at e; cases e
    | some b =>
      cases h2 : mapO (fun q : D × D => (f q.2).map fun d => (q.1, d)) ds with
      | none => simp only [h1, h2, Option.map_some] at e; cases e
      | some bs =>
        simp only [h1, h2, Option.map_some] at e; cases e
        exact ⟨q, v, ws, rfl, y, hf d b v r h1, fzP_aux hf ds bs ws rr h2⟩
theorem fzF_aux {f : D → Option D} (hf : ∀ d d' v, Rp K ρ' H d v → f d = some d' → Rp K ρ H d' v) : ∀ (ds ds' : List (String × D)) (vs : List (Str × V)), RpF K ρ' H ds vs → mapO (fun q : String × D => (f q.2).map fun d => (q.1, d)) ds = some ds' → RpF K ρ H ds' vs
  | [], _, _, r, e => by cases e; exact r
  | (c, d) :: ds, ds', _, ⟨v, ws, e1, r, rr⟩, e => by
    subst e1
    unfold mapO at e
    cases h1 : f d with
    | none => simp only [h1, Option.map_none] at e; cases e
    | some b =>
      cases h2 : mapO (fun q : String × D => (f q.2).map fun d => (q.1, d)) ds with
      | none => simp only [h1, h2, Option.map_some] at e; cases e
      | some bs =>
        simp only [h1, h2, Option.map_some] at e; cases e
        exact ⟨v, ws, rfl, hf d b v r h1, fzF_aux hf ds bs ws rr h2⟩
theorem fz_ok (g : Good K ρ' S' H) (c : Cut ρ ρ') : ∀ (k : Nat) (d d' : D) (v : V), Rp K ρ' H d v → fzD ρ.r.length S' k d = some d' → Rp K ρ H d' v
  | 0, d, d', v, r, e => by
    unfold fzD at e
    split at e
    · rename_i h
      cases e
      exact Rp.cut c d v h r
    · cases e
  | k + 1, d, d', v, r, e => by
    have ih : ∀ d d' v, Rp K ρ' H d v → fzD ρ.r.length S' k d = some d' → Rp K ρ H d' v := fun d d' v => fz_ok g c k d d' v
    unfold fzD at e
    split at e
    · rename_i h
      cases e
      exact Rp.cut c d v h r
    · rename_i hlow
      cases d with
      | ref i =>
        obtain ⟨a, h1, rfl⟩ := r
        have hi : ρ.r.length ≤ i := by
          simp only [G.low, decide_eq_true_eq] at hlow
          omega
        have hav : ρ.av a := by
          refine ⟨fun m => ?_, fun m => ?_⟩
          · obtain ⟨j, hj, ej⟩ := List.getElem_of_mem m
            obtain ⟨t, ht⟩ := c.pre
            have e1 : ρ'.r[j]? = some a := by rw [← ht, List.getElem?_append_left hj, List.getElem?_eq_getElem hj, ej]
            obtain ⟨l1, q1⟩ := List.getElem?_eq_some_iff.mp e1
            obtain ⟨l2, q2⟩ := List.getElem?_eq_some_iff.mp h1
            have := (List.getElem_inj g.nd).mp (q1.trans q2.symm)
            omega
          · exact (g.hid a (c.ex a m)).1 (List.mem_of_getElem? h1)
        simp only at e
        split at e
        · rename_i ds hc
          obtain ⟨ds', e1, rfl⟩ := Option.map_eq_some_iff.mp e
          obtain ⟨vs, h3, rr⟩ := g.at h1 hc
          exact ⟨a, vs, rfl, ⟨.inl h3, hav⟩, fzL_aux ih ds ds' vs rr e1⟩
        · rename_i C fs hc
          obtain ⟨ds', e1, rfl⟩ := Option.map_eq_some_iff.mp e
          obtain ⟨dx, vs, h3, rr⟩ := g.at h1 hc
          exact ⟨a, dx, vs, rfl, h3, hav, fzF_aux ih fs ds' vs rr e1⟩
        · rename_i kvs hc
          obtain ⟨ds', e1, rfl⟩ := Option.map_eq_some_iff.mp e
          obtain ⟨vs, h3, rr⟩ := g.at h1 hc
          exact ⟨a, vs, rfl, .inl h3, hav, fzP_aux ih kvs ds' vs rr e1⟩
        · cases e
      | tup ds =>
        simp only at e
        obtain ⟨ds', e1, rfl⟩ := Option.map_eq_some_iff.mp e
        obtain ⟨a, vs, rfl, t, rr⟩ := r
        exact ⟨a, vs, rfl, t.cut c, fzL_aux ih ds ds' vs rr e1⟩
      | lst ds =>
        simp only at e
        obtain ⟨ds', e1, rfl⟩ := Option.map_eq_some_iff.mp e
        obtain ⟨a, vs, rfl, t, rr⟩ := r
        exact ⟨a, vs, rfl, t.cut c, fzL_aux ih ds ds' vs rr e1⟩
      | dct ds =>
        simp only at e
        obtain ⟨ds', e1, rfl⟩ := Option.map_eq_some_iff.mp e
        obtain ⟨a, vs, rfl, t, n, rr⟩ := r
        exact ⟨a, vs, rfl, t, c.av n, fzP_aux ih ds ds' vs rr e1⟩
      | obj C ds =>
        simp only at e
        obtain ⟨ds', e1, rfl⟩ := Option.map_eq_some_iff.mp e
        obtain ⟨a, dx, vs, rfl, t, n, rr⟩ := r
        exact ⟨a, dx, vs, rfl, t, c.av n, fzF_aux ih ds ds' vs rr e1⟩
      | exn C ds =>
        simp only at e
        obtain ⟨ds', e1, rfl⟩ := Option.map_eq_some_iff.mp e
        obtain ⟨a, dx, vs, rfl, t, x, rr⟩ := r
        exact ⟨a, dx, vs, rfl, c.exv t, c.xd x, fzF_aux ih ds ds' vs rr e1⟩
      | _ => cases e
theorem Good.cut (g0 : Good K ρ S H) (g : Good K ρ' S' H') (k : Kp ρ H ρ' H') (s : Shr S.length S S') : Good K ρ (S'.take S.length) H' := by
  have hlen : S.length ≤ S'.length := s.len
  have c : Cut ρ ρ' := ⟨k.pre, k.sub⟩
  refine ⟨by rw [List.length_take, g0.len]; omega, g0.nd, fun i a ce h1 h2 => ?_, fun a m => ⟨(g0.hid a m).1, (g.hid a (k.sub a m)).2⟩, g.tab.to fun b u e n => ⟨e, c.av n⟩⟩
  have hi : i < S.length := g0.len ▸ (List.getElem?_eq_some_iff.mp h1).1
  rw [List.getElem?_take_of_lt hi] at h2
  obtain ⟨t, ht⟩ := k.pre
  have h1' : ρ'.r[i]? = some a := by rw [← ht, List.getElem?_append_left (g0.len ▸ hi)]; exact h1
  have q := g.at h1' h2
  have hS : S[i]? = some S[i] := List.getElem?_eq_getElem hi
  have hlow : lowC ρ.r.length ce = true := s.sh i _ ce hi hS h2 _ (g0.at h1 hS).low
  cases ce with
  | lst ds => obtain ⟨vs, e, r⟩ := q; exact ⟨vs, e, RpL.cut c ds vs hlow r⟩
  | dct ds => obtain ⟨vs, e, r⟩ := q; exact ⟨vs, e, RpP.cut c ds vs hlow r⟩
  | ins C ds => obtain ⟨dx, vs, e, r⟩ := q; exact ⟨dx, vs, e, RpF.cut c ds vs hlow r⟩
  | gone => exact q
theorem Kp.drop (k : Kp ρ H ρ' H') : Kp ρ H ρ H' := ⟨List.prefix_refl _, fun _ m => .inl m, fun _ m => m, k.keep, k.there, fun _ m n => absurd m n⟩
theorem Shr.cut (s : Shr S.length S S') : Shr n S (S'.take S.length) := ⟨by rw [List.length_take]; have := s.len; omega, fun i c c' _ e e' m h => by
  have hi := (List.getElem?_eq_some_iff.mp e).1
  rw [List.getElem?_take_of_lt hi] at e'
  exact s.sh i c c' hi e e' m h⟩
theorem RX.cut {x : D} {cls : Value} {e : Option Addr} (c : Cut ρ ρ') (h : low ρ.r.length x = true) (r : RX K ρ' H x cls e) : RX K ρ H x cls e := by
  rcases r with ⟨C, fs, rfl, e2, r⟩ | r
  · refine .inl ⟨C, fs, rfl, e2, ?_⟩
    rcases r with r | ⟨dd, gs, e3, e4, n, r⟩
    · exact .inl r
    · exact .inr ⟨dd, gs, e3, e4, c.av n, RpF.cut c fs gs h r⟩
  · exact .inr r
/-- a pure call's end -/
theorem Rest.cutR {Q : VK} {r : Res D} (g0 : Good K ρ S H) (h : Rest (Rp K) K n ρ S H σ Q W (cutR S r)) : Rest (Rp K) K S.length ρ S H σ Q W r := by
  cases r with
  | ok d S' =>
    intro v ρ' H' g r f
    have c : Cut ρ ρ' := ⟨f.kp.pre, f.kp.sub⟩
    simp only [G.cutR] at h
    split at h
    · rename_i d' hd
      refine h v ρ H' (g0.cut g f.kp f.shr) (fz_ok g c fzFuel d d' v r (by rw [g0.len]; exact hd)) ⟨f.kp.drop, f.shr.cut⟩
    · exact False.elim h
  | exc x S' =>
    intro cls e ρ' H' g r f
    have c : Cut ρ ρ' := ⟨f.kp.pre, f.kp.sub⟩
    simp only [G.cutR] at h
    split at h
    · rename_i hl
      exact h cls e ρ H' (g0.cut g f.kp f.shr) (r.cut c (by rw [g0.len]; exact hl)) ⟨f.kp.drop, f.shr.cut⟩
    · exact False.elim h
  | bad => exact h
theorem RestS.of_keep {ar N : Nat} {db : DS} {ds : List D} {Q : VK} {E : XK} (h : Rest (Rp K) K n ρ S H [] Q (fun c e _ H' => E c e H') (mKeep ar N db n ds S)) :
    RestS K n ρ S H { nx := fun _ H' => Q .non H', rt := Q } (fun c e _ H' => E c e H') (db n (startD N ds) S) := by
  unfold mKeep at h
  split at h
  · revert h
    cases db n (startD N ds) S with
    | nx δ S' => exact fun h σ' ρ' H' g en f => h .non ρ' H' g rfl f
    | rt d S' => exact fun h => h
    | exc x δ S' => exact fun h σ' c e ρ' H' g en r f => h c e ρ' H' g r f
    | bk _ _ => exact fun h => False.elim h
    | ct _ _ => exact fun h => False.elim h
    | bad => exact fun h => h
  · exact False.elim h
end
section
variable {P : Program} {w : World} {K : PySem.W.Frag} {mg : Str → Option Value} {base : Heap} {x qual : Str} {params : Arguments} {body : List Stmt} {scope : Scope} {dvs : List V} {kws : List (Str × V)} {f : Addr} {fd : FuncData} {N ps : List Str} {k : Nat} {db : DS}
/-- the context of a body -/
abbrev bodyX (P : Program) (w : World) (K : PySem.W.Frag) (mg : Str → Option Value) (base : Heap) (N : List Str) (qual : Str) (scope : Scope) (f : Addr) (cdv : Value) (A : Around) (outer : List Env) (s : Shared) (H : Hp) (E : XK) : Cx := cxOf (L2.CX P w) P w K mg base N qual scope f cdv A outer s H E
abbrev WE0 (E : XK) : WX := fun c d _ H => E c d H
theorem fn_keep (F : FunD K x qual params body scope dvs kws f fd) (S : FnScope N ps scope)
    (hb : ∀ (cdv : Value) (A : Around) (outer : List Env) (s : Shared) (H : Hp) (E : XK), Room k (A.deeper (envOfC qual scope s.heap.objs.size f cdv)) → Takes (bodyX P w K mg base N qual scope f cdv A outer s H E) (WE0 E) →
      SB (bodyX P w K mg base N qual scope f cdv A outer s H E) (WE0 E) body db) : FnOk P w K mg base (L2.CX P w) (k + 1) f fd ps (spD K ps.length (mKeep ps.length N.length db)) := by
  refine F.ok S (fun vs H Q E h => h.1) fun cdv A outer s H vs Q E hr ⟨hl, n, ρ, S0, ds, g, r, h⟩ => ⟨tS K db (WE0 E), hb cdv A outer s H E hr (takes_of rfl rfl rfl rfl), ?_⟩
  exact ⟨n, ρ, S0, _, g, EnvOk.start r, RestS.of_keep h⟩
theorem fn_pure (F : FunD K x qual params body scope dvs kws f fd) (S : FnScope N ps scope)
    (hb : ∀ (cdv : Value) (A : Around) (outer : List Env) (s : Shared) (H : Hp) (E : XK), Room k (A.deeper (envOfC qual scope s.heap.objs.size f cdv)) → Takes (bodyX P w K mg base N qual scope f cdv A outer s H E) (WE0 E) →
      SB (bodyX P w K mg base N qual scope f cdv A outer s H E) (WE0 E) body db) : FnOk P w K mg base (L2.CX P w) (k + 1) f fd ps (spD K ps.length (mPure ps.length N.length db)) := by
  refine F.ok S (fun vs H Q E h => h.1) fun cdv A outer s H vs Q E hr ⟨hl, n, ρ, S0, ds, g, r, h⟩ => ⟨tS K db (WE0 E), hb cdv A outer s H E hr (takes_of rfl rfl rfl rfl), ?_⟩
  exact ⟨S0.length, ρ, S0, _, g, EnvOk.start r, RestS.of_keep (Rest.cutR g h)⟩
end
/-! ### calls -/
/-- defaults that stand in the written part -/
def DfOk (K : PySem.W.Frag) (dds : List D) (dvs : List V) : Prop := ∀ (ρ : Ad) (H : Hp), RpL K ρ H dds dvs
theorem df_nil {K : PySem.W.Frag} : DfOk K [] [] := fun _ _ => rfl
def dCall (m : Mf) (dds : List D) (da : DA) : DE := fun n δ S => (da n δ S).bind fun ds S1 => m n (ds ++ dds) S1
section
variable {X : Cx} {W : WX} {k : Nat} {f : Addr} {fd : FuncData} {ps : List Str} {m : Mf} {dvs : List V} {dds : List D} {ds : List Value} {x : Str} {p pos apos : Pos} {e o : Expr} {es : List Expr} {da : DA} {de : DE}
theorem spD_ofS {K : PySem.W.Frag} {ar : Nat} {n : Nat} {ρ : Ad} {S : Store} {H : Hp} {σ : L2.St} {Q : VK} {ds : List D} {vs : List V} (g : Good K ρ S H) (r : RpLS K ρ H ds vs) (hl : ds.length = ar) (h : Rest (Rp K) K n ρ S H σ Q W (m n ds S)) : spD K ar m vs H Q (fun c e H' => W c e σ H') := by
  refine ⟨r.length.trans hl, n, ρ, S, ds, g, r, ?_⟩
  revert h
  cases m n ds S with
  | ok d S' => exact fun h => h
  | exc x S' => exact fun h => h
  | bad => exact fun h => h
theorem spD_of {K : PySem.W.Frag} {ar : Nat} {n : Nat} {ρ : Ad} {S : Store} {H : Hp} {σ : L2.St} {Q : VK} {ds : List D} {vs : List V} (g : Good K ρ S H) (r : RpL K ρ H ds vs) (hl : ds.length = ar) (h : Rest (Rp K) K n ρ S H σ Q W (m n ds S)) : spD K ar m vs H Q (fun c e H' => W c e σ H') := spD_ofS g r.s hl h
/-- m asks so many arguments -/
def Arity (m : Mf) (ar : Nat) : Prop := ∀ n ds S, ds.length ≠ ar → m n ds S = .bad
theorem ar_keep {ar N : Nat} {db : DS} : Arity (mKeep ar N db) ar := fun n ds S h => if_neg h
theorem ar_pure {ar N : Nat} {db : DS} : Arity (mPure ar N db) ar := fun n ds S h => by
  unfold mPure
  rw [ar_keep _ _ _ h]
  rfl
theorem se_call (F : FnOk X.prog X.w X.K X.mg X.base (L2.CX X.prog X.w) k f fd ps (spD X.K ps.length m)) (hm0 : Arity m ps.length) (hr : Room k X.A) (hg : Gl X x) (hm : X.mg x = some (.ref f)) (hk : PySem.W.keepIn X.K (.ref f) = true) (hb : Binds X.K fd ps ds) (hd : Vals dvs ds) (hdd : DfOk X.K dds dvs) (tk : Takes X W)
    (ha : SA X W (e :: es) da) (hdb : (x == ("__debug__" : Str)) = false := by decide) (he : starEach (e :: es) X.env = (false, eval e X.env) :: starEach es X.env := by rfl) (hpl : (backTo pos (starEach es X.env)).any (·.1) = false := by rfl) :
    SE X W (.Call (.Name x p) (e :: es) [] pos) (dCall m dds da) := PE.imp (pe_callSD (E := WE W) F hr hg hm hk hb hd (fun σ => passAt tk σ) ha hdb he hpl) fun σ H Q ⟨n, ρ, S, δ, g, en, r⟩ => by
  refine ⟨n, ρ, S, δ, g, en, (Rest.bind (rel' := RpL X.K) en r).mono fun vs H1 ⟨ρ1, S1, d1, g1, e1, r1, f1, q⟩ => ?_⟩
  by_cases hl : (d1 ++ dds).length = ps.length
  · exact spD_of g1 (r1.append (hdd ρ1 H1)) hl q
  · rw [hm0 _ _ _ hl] at q; exact False.elim q
def dCall0 (m : Mf) (dds : List D) : DE := fun n _ S => m n dds S
theorem se_call0 (F : FnOk X.prog X.w X.K X.mg X.base (L2.CX X.prog X.w) k f fd ps (spD X.K ps.length m)) (hm0 : Arity m ps.length) (hr : Room k X.A) (hg : Gl X x) (hm : X.mg x = some (.ref f)) (hk : PySem.W.keepIn X.K (.ref f) = true) (hb : Binds X.K fd ps ds) (hd : Vals dvs ds) (hdd : DfOk X.K dds dvs) (tk : Takes X W)
    (hdb : (x == ("__debug__" : Str)) = false := by decide) : SE X W (.Call (.Name x p) [] [] pos) (dCall0 m dds) := by
  refine ⟨fun pins s σ H Q I ⟨n, ρ, S, δ, g, en, r⟩ => ?_⟩
  refine wpAny_Call_Name_kw (ld_glob I hg hm ?_ hdb)
  have q : spD X.K ps.length m ([] ++ dvs) H Q (WE W σ) := by
    by_cases hl : dds.length = ps.length
    · exact spD_of g (hdd ρ H) hl r
    · rw [show dCall0 m dds n δ S = .bad from hm0 _ _ _ hl] at r; exact False.elim r
  exact PySem.W.callWith_K0 I.kIn hk (run_fnSD (E := WE W) (us := []) F hr hb hd (passAt tk σ) I .nil q)
/-! ### keywords -/
abbrev SK (X : Cx) (W : WX) (kws : List Keyword) (da : DA) : Prop := PK X kws (tA X.K da W)
theorem PK.imp {X : Cx} {e : List Keyword} {t t' : TA} (h : PK X e t) (i : ∀ σ H Q, t' σ H Q → t σ H Q) : PK X e t' := ⟨fun pos pins s σ H Q I q => h.run pos pins s σ H Q I (i σ H Q q)⟩
theorem sk_nil : SK X W [] aNil := PK.imp pk_nil fun σ H Q ⟨n, ρ, S, δ, g, en, r⟩ => r.val g rfl
theorem sk_cons {nm : Option Str} {kpos : Pos} {kws : List Keyword} {dr : DA} (ha : SE X W e de) (hr : SK X W kws dr) : SK X W (⟨nm, e, kpos⟩ :: kws) (aCons de dr) := PK.imp (pk_cons ha hr) fun σ H Q ⟨n, ρ, S, δ, g, en, r⟩ => by
  refine ⟨n, ρ, S, δ, g, en, (Rest.bind (rel' := Rp X.K) en r).mono fun v H1 ⟨ρ1, S1, d1, g1, e1, r1, f1, q⟩ => ?_⟩
  refine ⟨n, ρ1, S1, δ, g1, e1, (Rest.bind (rel' := RpL X.K) e1 q).mono fun vs H2 ⟨ρ2, S2, d2, g2, e2, r2, f2, q2⟩ => ?_⟩
  exact q2.val g2 ⟨v, vs, rfl, r1.kp f2.kp, r2⟩
/-- how the parameters come: us positional, ws by keyword; the same of the data -/
structure KwOk (K : PySem.W.Frag) (fd : FuncData) (ps : List Str) (n : Nat) (ks : List Str) (gD : List D → List D → List D) : Prop where
  ex : ∃ g gV, KBn K fd ps n ks g gV ∧ ∀ (ρ : Ad) (H : Hp) (ds es : List D) (vs ws : List V), ds.length = n → es.length = ks.length → RpL K ρ H ds vs → RpL K ρ H es ws → RpL K ρ H (gD ds es) (gV vs ws) ∧ (gD ds es).length = ps.length
def dCallK (m : Mf) (np nk : Nat) (gD : List D → List D → List D) (da dk : DA) : DE := fun n δ S => (da n δ S).bind fun ds S1 => (dk n δ S1).bind fun es S2 => if ds.length = np ∧ es.length = nk then m n (gD ds es) S2 else .bad
theorem run_fnND {pins : List (Addr × Obj)} {σ : L2.St} {H : Hp} {s : Shared} {Q : VK} {us ws : List Value} {vs zs : List V} {n : Nat} {ks : List Str} {sp : Sp} {E : L2.St → XK} {CX : CXT} {g : List Value → List Value → List Value} {gV : List V → List V → List V} (F : FnOk X.prog X.w X.K X.mg X.base CX k f fd ps sp) (hr : Room k X.A) (hb : KBn X.K fd ps n ks g gV) (hx : PassesAt CX X σ (E σ))
    (I : L2.Inv X pins σ H s) (r : Vals vs us) (rz : Vals zs ws) (l1 : vs.length = n) (l2 : zs.length = ks.length) (h : sp (gV vs zs) H Q (E σ)) : wpAny (model X.prog X.w) X.A (call (.ref f) us (ks.zip ws)) (EP X pins σ Q) X.xe s := by
  have r2 := hb.rel r rz
  refine wpAny_call (codeAny_mono (F.run X.A X.stack s H ⟨us, ks.zip ws⟩ (g us ws) (gV vs zs) Q (E σ) hr I.env0 (hb.to s us ws I.kIn (r.length.symm.trans l1) (rz.length.symm.trans l2)) r2 h) fun r s' hq => ?_)
  cases r with
  | error e => exact hx pins H s e s' I hq
  | ok fl =>
    cases fl with
    | ret u => exact I.after hq
    | next => exact False.elim hq
    | brk => exact False.elim hq
    | cont => exact False.elim hq
theorem se_callK {np : Nat} {ks : List Str} {gD : List D → List D → List D} {kws : List Keyword} {dk : DA} (F : FnOk X.prog X.w X.K X.mg X.base (L2.CX X.prog X.w) k f fd ps (spD X.K ps.length m)) (hr : Room k X.A) (hg : Gl X x) (hm : X.mg x = some (.ref f)) (hk : PySem.W.keepIn X.K (.ref f) = true) (hb : KwOk X.K fd ps np ks gD) (tk : Takes X W)
    (ha : SA X W (e :: es) da) (hkw : SK X W kws dk) (hall : (backToKw pos (keywordEach kws X.env)).all (·.1.isSome) = true := by rfl) (hks : (backToKw pos (keywordEach kws X.env)).filterMap (·.1) = ks := by rfl)
    (hdb : (x == ("__debug__" : Str)) = false := by decide) (he : starEach (e :: es) X.env = (false, eval e X.env) :: starEach es X.env := by rfl)
    (hpl : ((backTo pos (starEach (e :: es) X.env)).any (·.1) || (backToKw pos (keywordEach kws X.env)).any (·.1.isNone)) = false := by rfl) :
    SE X W (.Call (.Name x p) (e :: es) kws pos) (dCallK m np ks.length gD da dk) := by
  obtain ⟨g, gV, hb, hrel⟩ := hb.ex
  refine ⟨fun pins s σ H Q I ⟨n, ρ, S, δ, g0, en, r⟩ => ?_⟩
  refine wpAny_Call_Name_kw (ld_glob I hg hm ?_ hdb)
  refine PySem.W.callWith_KW (h₀ := X.base) I.ok.mod.kin hk hall (thn (ha.run pos pins s σ H _ I ⟨n, ρ, S, δ, g0, en, Rest.bind (rel' := RpL X.K) en r⟩) fun us s1 ⟨vs, H1, I1, rv, ρ1, S1, d1, g1, e1, r1, f1, q⟩ => ?_) hpl he
  refine thn (hkw.run pos pins s1 σ H1 _ I1 ⟨n, ρ1, S1, δ, g1, e1, Rest.bind (rel' := RpL X.K) e1 q⟩) fun ws s2 ⟨zs, H2, I2, rz, ρ2, S2, d2, g2, e2, r2, f2, q2⟩ => ⟨I2.kIn, ?_⟩
  rw [hks]
  split at q2
  · rename_i hl
    obtain ⟨h1, h2⟩ := hrel ρ2 H2 d1 d2 vs zs hl.1 hl.2 (r1.kp f2.kp) r2
    exact run_fnND (E := WE W) F hr hb (passAt tk σ) I2 rv rz (r1.length.trans hl.1) (r2.length.trans hl.2) (spD_of g2 h1 h2 q2)
  · exact False.elim q2
/-! ### instances made -/
/-- a class whose instances are values once they are made -/
def mkV (C : String) (m : Mf) : Mf := fun _ ds S => cutR S (match m S.length (.ref S.length :: ds) (S ++ [.ins C []]) with
  | .ok .non S' => .ok (.ref S.length) S'
  | .exc x S' => .exc x S'
  | _ => .bad)
/-- a class whose instances are changed later -/
def mkR (C : String) (m : Mf) : Mf := fun n ds S => match m n (.ref S.length :: ds) (S ++ [.ins C []]) with
  | .ok .non S' => .ok (.ref S.length) S'
  | .exc x S' => .exc x S'
  | _ => .bad
/-- what __init__ is asked at the new instance -/
theorem mk_init {K : PySem.W.Frag} {C : String} {n : Nat} {ρ : Ad} {S : Store} {H : Hp} {σ : L2.St} {Q : VK} {ds : List D} {vs : List V} {y dx : Addr} {ar : Nat} (g : Good K ρ S H) (r : RpL K ρ H ds vs) (hy : H y = none) (hdx : H dx = none) (hne : dx ≠ y) (hl : ds.length + 1 = ar)
    (h : Rest (Rp K) K n ρ S H σ Q W (match m n (.ref S.length :: ds) (S ++ [.ins C []]) with | .ok .non S' => .ok (.ref S.length) S' | .exc x S' => .exc x S' | _ => .bad)) :
    spD K ar m (.ref y :: vs) (upd (upd H dx (.own y)) y (.ins (He.ga K (Str.ofString C)) dx [])) (fun v H2 => v = .non ∧ Q (.ref y) H2) (fun c e H' => W c e σ H') := by
  have hy' : upd H dx (.own y) y = none := by rw [upd_ne (fun z => hne z.symm)]; exact hy
  have k1 : Kp ρ H ρ (upd H dx (.own y)) := Kp.fresh hdx
  have k2 : Kp ρ (upd H dx (.own y)) (ρ.push y) (upd (upd H dx (.own y)) y (.ins (He.ga K (Str.ofString C)) dx [])) := Kp.push hy'
  have g2 : Good K (ρ.push y) (S ++ [.ins C []]) (upd (upd H dx (.own y)) y (.ins (He.ga K (Str.ofString C)) dx [])) := (g.fresh hdx).push hy' ⟨dx, [], upd_same, rfl⟩
  have hpush : (ρ.push y).r[S.length]? = some y := by rw [← g.len]; simp [Ad.push]
  have fr : Fr n ρ S H (ρ.push y) (S ++ [.ins C []]) (upd (upd H dx (.own y)) y (.ins (He.ga K (Str.ofString C)) dx [])) := ⟨k1.trans k2, Shr.push⟩
  refine ⟨by rw [List.length_cons, r.length]; exact hl, n, _, _, .ref S.length :: ds, g2, RpL.s (ds := .ref S.length :: ds) ⟨.ref y, vs, rfl, ⟨y, hpush, rfl⟩, r.kp (k1.trans k2)⟩, ?_⟩
  revert h
  cases m n (.ref S.length :: ds) (S ++ [.ins C []]) with
  | ok d S' =>
    intro h v ρ' H' g' r' f'
    cases d <;> first | exact False.elim h | skip
    have hr : Rp K ρ' H' (.ref S.length) (.ref y) := by
      obtain ⟨t, ht⟩ := f'.kp.pre
      refine ⟨y, ?_, rfl⟩
      rw [← ht, List.getElem?_append_left (List.getElem?_eq_some_iff.mp hpush).1]
      exact hpush
    exact ⟨r', h _ ρ' H' g' hr (fr.trans f')⟩
  | exc x S' => exact fun h c e ρ' H' g' r' f' => h c e ρ' H' g' r' (fr.trans f')
  | bad => exact fun h => h
theorem run_makeSD {C : Addr} {CX : CXT} {sp : Sp} {E : L2.St → XK} {pins : List (Addr × Obj)} {σ : L2.St} {H : Hp} {s : Shared} {Q : VK} {us : List Value} {vs : List V} (M : Mk X.K C f) (F : FnOk X.prog X.w X.K X.mg X.base CX k f fd ps sp) (hr : Room (k + 1) X.A) (hb : Binds X.K fd ps ds) (hd : Vals dvs ds)
    (hx : PassesAt CX X σ (E σ)) (I : L2.Inv X pins σ H s) (r : Vals vs us)
    (h : ∀ x dx, H x = none → H dx = none → dx ≠ x → sp (.ref x :: (vs ++ dvs)) (upd (upd H dx (.own x)) x (.ins C dx [])) (fun v H2 => v = .non ∧ Q (.ref x) H2) (E σ)) :
    wpAny (model X.prog X.w) X.A (call (.ref C) us) (EP X pins σ Q) X.xe s := by
  have hq := h (s.heap.objs.size + 1) s.heap.objs.size (I.hok.fresh (Nat.le_succ _)) (I.hok.fresh (Nat.le_refl _)) (Nat.ne_of_lt (Nat.lt_succ_self _))
  have I2 := Inv.made (C := C) I
  have r2 : Vals (V.ref (s.heap.objs.size + 1) :: (vs ++ dvs)) (Value.ref (s.heap.objs.size + 1) :: (us ++ ds)) := .cons rfl (r.append hd)
  have hl : (Value.ref (s.heap.objs.size + 1) :: us ++ ds).length = ps.length := by
    have e := r2.length
    rw [F.len _ _ _ _ hq] at e
    exact e.symm
  refine wpAny_call (make_map (f := f) I.kIn M.makes M.init (beq_iff_eq.mp M.fn) (codeAny_mono (F.run _ X.stack _ _ ⟨Value.ref (s.heap.objs.size + 1) :: us, []⟩ (Value.ref (s.heap.objs.size + 1) :: (us ++ ds)) _ _ (E σ) (hr.make C us [])
    (I2.env0.make C us []) (hb _ (Value.ref (s.heap.objs.size + 1) :: us) I2.kIn hl) r2 hq) fun r s' hq' => ?_))
  cases r with
  | error e => exact hx pins _ _ e s' I2 hq'
  | ok fl =>
    cases fl with
    | ret u =>
      obtain ⟨v, H', I3, rv, ev, q3⟩ := I2.after hq'
      subst ev
      exact ⟨rv, ⟨V.ref (s.heap.objs.size + 1), H', I3, rfl, q3⟩⟩
    | next => exact False.elim hq'
    | brk => exact False.elim hq'
    | cont => exact False.elim hq'
/-- the maker mk of a class, over its __init__ m: mkV or mkR -/
def Mks (C : String) (m mk : Mf) : Prop := ∀ (K : PySem.W.Frag) (n : Nat) (ρ : Ad) (S : Store) (H : Hp) (σ : L2.St) (Q : VK) (W : WX) (ds : List D), Good K ρ S H → Rest (Rp K) K n ρ S H σ Q W (mk n ds S) →
  ∃ n', Rest (Rp K) K n' ρ S H σ Q W (match m n' (.ref S.length :: ds) (S ++ [.ins C []]) with | .ok .non S' => .ok (.ref S.length) S' | .exc x S' => .exc x S' | _ => .bad)
theorem mks_R {C : String} : Mks C m (mkR C m) := fun K n ρ S H σ Q W ds g h => ⟨n, h⟩
theorem mks_V {C : String} : Mks C m (mkV C m) := fun K n ρ S H σ Q W ds g h => ⟨S.length, Rest.cutR g h⟩
theorem se_make {C : String} {mk : Mf} (hmk : Mks C m mk) (hm0 : Arity m ps.length) (M : Mk X.K (He.ga X.K (Str.ofString C)) f) (F : FnOk X.prog X.w X.K X.mg X.base (L2.CX X.prog X.w) k f fd ps (spD X.K ps.length m)) (hr : Room (k + 1) X.A) (hg : Gl X x) (hm : X.mg x = some (.ref (He.ga X.K (Str.ofString C)))) (hb : Binds X.K fd ps ds) (hd : Vals dvs ds) (hdd : DfOk X.K dds dvs) (tk : Takes X W)
    (ha : SA X W (e :: es) da) (hdb : (x == ("__debug__" : Str)) = false := by decide) (he : starEach (e :: es) X.env = (false, eval e X.env) :: starEach es X.env := by rfl) (hpl : (backTo pos (starEach es X.env)).any (·.1) = false := by rfl) :
    SE X W (.Call (.Name x p) (e :: es) [] pos) (dCall mk dds da) := by
  refine ⟨fun pins s σ H Q I ⟨n, ρ, S, δ, g0, en, r⟩ => ?_⟩
  refine wpAny_Call_Name_kw (ld_glob I hg hm ?_ hdb)
  refine PySem.W.callWith_K (h₀ := X.base) I.ok.mod.kin M.kp (thn (ha.run pos pins s σ H _ I ⟨n, ρ, S, δ, g0, en, Rest.bind (rel' := RpL X.K) en r⟩) fun us s1 ⟨vs, H1, I1, rv, ρ1, S1, d1, g1, e1, r1, f1, q⟩ => ⟨I1.kIn, ?_⟩) he hpl
  obtain ⟨n', q'⟩ := hmk X.K n ρ1 S1 H1 σ Q W (d1 ++ dds) g1 q
  by_cases hl : (d1 ++ dds).length + 1 = ps.length
  · exact run_makeSD (E := WE W) M F hr hb hd (passAt tk σ) I1 rv fun y dx h1 h2 h3 => mk_init g1 (r1.append (hdd ρ1 H1)) h1 h2 h3 hl q'
  · rw [hm0 n' (.ref S1.length :: (d1 ++ dds)) _ (by rw [List.length_cons]; exact hl)] at q'
    exact False.elim q'
/-- C(k = v, ..), C(e, .., k = v, ..) -/
theorem run_makeND {C : Addr} {CX : CXT} {sp : Sp} {E : L2.St → XK} {n : Nat} {ks : List Str} {g : List Value → List Value → List Value} {gV : List V → List V → List V} {pins : List (Addr × Obj)} {σ : L2.St} {H : Hp} {s : Shared} {Q : VK} {us ws : List Value} {vs zs : List V} (M : Mk X.K C f) (F : FnOk X.prog X.w X.K X.mg X.base CX k f fd ps sp) (hr : Room (k + 1) X.A) (hb : KBn X.K fd ps (n + 1) ks g gV)
    (hx : PassesAt CX X σ (E σ)) (I : L2.Inv X pins σ H s) (r : Vals vs us) (rz : Vals zs ws) (l1 : vs.length = n) (l2 : zs.length = ks.length)
    (h : ∀ x dx, H x = none → H dx = none → dx ≠ x → sp (gV (.ref x :: vs) zs) (upd (upd H dx (.own x)) x (.ins C dx [])) (fun v H2 => v = .non ∧ Q (.ref x) H2) (E σ)) :
    wpAny (model X.prog X.w) X.A (call (.ref C) us (ks.zip ws)) (EP X pins σ Q) X.xe s := by
  have hq := h (s.heap.objs.size + 1) s.heap.objs.size (I.hok.fresh (Nat.le_succ _)) (I.hok.fresh (Nat.le_refl _)) (Nat.ne_of_lt (Nat.lt_succ_self _))
  have I2 := Inv.made (C := C) I
  have r1 : Vals (V.ref (s.heap.objs.size + 1) :: vs) (Value.ref (s.heap.objs.size + 1) :: us) := .cons rfl r
  have r2 := hb.rel r1 rz
  have n1 : (Value.ref (s.heap.objs.size + 1) :: us).length = n + 1 := by
    rw [List.length_cons, ← r.length, l1]
  refine wpAny_call (make_map (f := f) I.kIn M.makes M.init (beq_iff_eq.mp M.fn) (codeAny_mono (F.run _ X.stack _ _ ⟨Value.ref (s.heap.objs.size + 1) :: us, ks.zip ws⟩ (g (Value.ref (s.heap.objs.size + 1) :: us) ws) _ _ (E σ) (hr.make C us (ks.zip ws))
    (I2.env0.make C us (ks.zip ws)) (hb.to _ (Value.ref (s.heap.objs.size + 1) :: us) ws I2.kIn n1 (rz.length.symm.trans l2)) r2 hq) fun r s' hq' => ?_))
  cases r with
  | error e => exact hx pins _ _ e s' I2 hq'
  | ok fl =>
    cases fl with
    | ret u =>
      obtain ⟨v, H', I3, rv, ev, q3⟩ := I2.after hq'
      subst ev
      exact ⟨rv, ⟨V.ref (s.heap.objs.size + 1), H', I3, rfl, q3⟩⟩
    | next => exact False.elim hq'
    | brk => exact False.elim hq'
    | cont => exact False.elim hq'
/-- the binding of a made class: the new instance first, whatever it is -/
structure KwMk (K : PySem.W.Frag) (fd : FuncData) (ps : List Str) (n : Nat) (ks : List Str) (gD : List D → List D → List D) : Prop where
  ex : ∃ g gV, KBn K fd ps (n + 1) ks g gV ∧ (∀ (v : V) (vs ws : List V), vs.length = n → ws.length = ks.length → gV (v :: vs) ws = v :: (gV (v :: vs) ws).tail) ∧
    ∀ (ρ : Ad) (H : Hp) (v : V) (ds es : List D) (vs ws : List V), ds.length = n → es.length = ks.length → RpL K ρ H ds vs → RpL K ρ H es ws → RpL K ρ H (gD ds es) (gV (v :: vs) ws).tail
def dMakeK (mk : Mf) (np nk : Nat) (gD : List D → List D → List D) (da dk : DA) : DE := dCallK mk np nk gD da dk
theorem se_makeK {C : String} {mk : Mf} {np : Nat} {ks : List Str} {gD : List D → List D → List D} {kws : List Keyword} {dk : DA} (hmk : Mks C m mk) (hm0 : Arity m ps.length) (M : Mk X.K (He.ga X.K (Str.ofString C)) f) (F : FnOk X.prog X.w X.K X.mg X.base (L2.CX X.prog X.w) k f fd ps (spD X.K ps.length m)) (hr : Room (k + 1) X.A) (hg : Gl X x) (hm : X.mg x = some (.ref (He.ga X.K (Str.ofString C)))) (hb : KwMk X.K fd ps np ks gD) (tk : Takes X W)
    (ha : SA X W (e :: es) da) (hkw : SK X W kws dk) (hall : (backToKw pos (keywordEach kws X.env)).all (·.1.isSome) = true := by rfl) (hks : (backToKw pos (keywordEach kws X.env)).filterMap (·.1) = ks := by rfl)
    (hdb : (x == ("__debug__" : Str)) = false := by decide) (he : starEach (e :: es) X.env = (false, eval e X.env) :: starEach es X.env := by rfl)
    (hpl : ((backTo pos (starEach (e :: es) X.env)).any (·.1) || (backToKw pos (keywordEach kws X.env)).any (·.1.isNone)) = false := by rfl) :
    SE X W (.Call (.Name x p) (e :: es) kws pos) (dCallK mk np ks.length gD da dk) := by
  obtain ⟨g, gV, hb, hh, hrel⟩ := hb.ex
  refine ⟨fun pins s σ H Q I ⟨n, ρ, S, δ, g0, en, r⟩ => ?_⟩
  refine wpAny_Call_Name_kw (ld_glob I hg hm ?_ hdb)
  refine PySem.W.callWith_KW (h₀ := X.base) I.ok.mod.kin M.kp hall (thn (ha.run pos pins s σ H _ I ⟨n, ρ, S, δ, g0, en, Rest.bind (rel' := RpL X.K) en r⟩) fun us s1 ⟨vs, H1, I1, rv, ρ1, S1, d1, g1, e1, r1, f1, q⟩ => ?_) hpl he
  refine thn (hkw.run pos pins s1 σ H1 _ I1 ⟨n, ρ1, S1, δ, g1, e1, Rest.bind (rel' := RpL X.K) e1 q⟩) fun ws s2 ⟨zs, H2, I2, rz, ρ2, S2, d2, g2, e2, r2, f2, q2⟩ => ⟨I2.kIn, ?_⟩
  rw [hks]
  split at q2
  · rename_i hl
    obtain ⟨n', q'⟩ := hmk X.K n ρ2 S2 H2 σ Q W (gD d1 d2) g2 q2
    refine run_makeND (E := WE W) M F hr hb (passAt tk σ) I2 rv rz (r1.length.trans hl.1) (r2.length.trans hl.2) fun y dx h1 h2 h3 => ?_
    by_cases hlen : (gD d1 d2).length + 1 = ps.length
    · rw [hh (.ref y) vs zs (r1.length.trans hl.1) (r2.length.trans hl.2)]
      exact mk_init g2 (hrel ρ2 H2 (.ref y) d1 d2 vs zs hl.1 hl.2 (r1.kp f2.kp) r2) h1 h2 h3 hlen q'
    · rw [hm0 n' (.ref S2.length :: gD d1 d2) _ (by rw [List.length_cons]; exact hlen)] at q'
      exact False.elim q'
  · exact False.elim q2
end
end G

namespace G
open PySem PySem.Spec PyProof.Rows L2
/-! ### where a parameter's value comes from -/
inductive Src where
  | pos (i : Nat) | dfl (i : Nat) | mis (i : Nat) | kw (i : Nat)
def Src.of {α : Type} (us its mv ws : List α) : Src → Option α
  | .pos i => us[i]?
  | .dfl i => its[i]?
  | .mis i => mv[i]?
  | .kw i => ws[i]?
def pick {α : Type} (ss : List Src) (us its mv ws : List α) : List α := ss.filterMap (Src.of us its mv ws)
theorem Vals.both {vs : List V} {us : List Value} (r : Vals vs us) (i : Nat) : (∃ v u, vs[i]? = some v ∧ us[i]? = some u ∧ L2.RelV v u) ∨ (vs[i]? = none ∧ us[i]? = none) := by
  cases h : vs[i]? with
  | some v =>
    obtain ⟨u, h1, h2⟩ := r.get h
    exact .inl ⟨v, u, rfl, h1, h2⟩
  | none =>
    refine .inr ⟨rfl, ?_⟩
    rw [List.getElem?_eq_none_iff] at h ⊢
    rw [← r.length]; exact h
theorem pick_vals {vs ds mz zs : List V} {us its mv ws : List Value} (h1 : Vals vs us) (h2 : Vals ds its) (h3 : Vals mz mv) (h4 : Vals zs ws) : ∀ ss : List Src, Vals (pick ss vs ds mz zs) (pick ss us its mv ws)
  | [] => .nil
  | s :: ss => by
    have ih := pick_vals h1 h2 h3 h4 ss
    unfold pick at ih ⊢
    have hb : (∃ v u, Src.of vs ds mz zs s = some v ∧ Src.of us its mv ws s = some u ∧ L2.RelV v u) ∨ (Src.of vs ds mz zs s = none ∧ Src.of us its mv ws s = none) := by
      cases s with
      | pos i => exact Vals.both h1 i
      | dfl i => exact Vals.both h2 i
      | mis i => exact Vals.both h3 i
      | kw i => exact Vals.both h4 i
    rcases hb with ⟨v, u, e1, e2, r⟩ | ⟨e1, e2⟩
    · rw [List.filterMap_cons_some e1, List.filterMap_cons_some e2]
      exact .cons r ih
    · rw [List.filterMap_cons_none e1, List.filterMap_cons_none e2]
      exact ih
theorem RpL.both {K : PySem.W.Frag} {ρ : Ad} {H : Hp} {ds : List D} {vs : List V} (r : RpL K ρ H ds vs) (i : Nat) : (∃ d v, ds[i]? = some d ∧ vs[i]? = some v ∧ Rp K ρ H d v) ∨ (ds[i]? = none ∧ vs[i]? = none) := by
  cases h : ds[i]? with
  | some d =>
    obtain ⟨v, h1, h2⟩ := r.get h
    exact .inl ⟨d, v, rfl, h1, h2⟩
  | none =>
    refine .inr ⟨rfl, ?_⟩
    rw [List.getElem?_eq_none_iff] at h ⊢
    rw [r.length]; exact h
theorem pick_rp {K : PySem.W.Frag} {ρ : Ad} {H : Hp} {us its mv ws : List D} {vs ds mz zs : List V} (h1 : RpL K ρ H us vs) (h2 : RpL K ρ H its ds) (h3 : RpL K ρ H mv mz) (h4 : RpL K ρ H ws zs) : ∀ ss : List Src, RpL K ρ H (pick ss us its mv ws) (pick ss vs ds mz zs)
  | [] => rfl
  | s :: ss => by
    have ih := pick_rp h1 h2 h3 h4 ss
    unfold pick at ih ⊢
    have hb : (∃ d v, Src.of us its mv ws s = some d ∧ Src.of vs ds mz zs s = some v ∧ Rp K ρ H d v) ∨ (Src.of us its mv ws s = none ∧ Src.of vs ds mz zs s = none) := by
      cases s with
      | pos i => exact RpL.both h1 i
      | dfl i => exact RpL.both h2 i
      | mis i => exact RpL.both h3 i
      | kw i => exact RpL.both h4 i
    rcases hb with ⟨d, v, e1, e2, r⟩ | ⟨e1, e2⟩
    · rw [List.filterMap_cons_some e1, List.filterMap_cons_some e2]
      exact ⟨v, _, rfl, r, ih⟩
    · rw [List.filterMap_cons_none e1, List.filterMap_cons_none e2]
      exact ih
/-- every source is there -/
def srcOk (n j m k : Nat) : Src → Bool
  | .pos i => decide (i < n)
  | .dfl i => decide (i < j)
  | .mis i => decide (i < m)
  | .kw i => decide (i < k)
theorem pick_len {α : Type} {us its mv ws : List α} : ∀ ss : List Src, ss.all (srcOk us.length its.length mv.length ws.length) = true → (pick ss us its mv ws).length = ss.length
  | [], _ => rfl
  | s :: ss, h => by
    rw [List.all_cons, Bool.and_eq_true] at h
    have ih := pick_len ss h.2
    unfold pick at ih ⊢
    have hs : ∃ a, Src.of us its mv ws s = some a := by
      cases s <;> simp only [srcOk, decide_eq_true_eq] at h <;> exact ⟨_, List.getElem?_eq_getElem h.1⟩
    obtain ⟨a, e⟩ := hs
    rw [List.filterMap_cons_some e, List.length_cons, List.length_cons, ih]
/-! ### defs with a closure, defaults as data -/
structure FunG (K : PySem.W.Frag) (cl : List (Str × Addr)) (x qual : Str) (params : Arguments) (body : List Stmt) (scope : Scope) (dfl : List D) (kwd : List (Str × D)) (f : Addr) (fd : FuncData) : Prop where
  ex : ∃ (oc : Value) (od : Option Addr) (dV kV doc pm : Value) (an : Option Addr) (cdv ct : Value) (osl : Array (Option Value)) (dvs : List V) (kws : List (Str × V)),
    fd = PySem.W.fnX x qual params body scope cl dV kV doc pm an cdv ct ∧ K.lookup f = some ⟨oc, od, .func fd, osl⟩ ∧ PySem.W.codeIn K cdv qual = true ∧ DflV K dV dvs ∧ KwdV K kV kws ∧
      DfOk K dfl dvs ∧ kws.map (·.1) = kwd.map (·.1) ∧ DfOk K (kwd.map (·.2)) (kws.map (·.2))
  kp : PySem.W.keepIn K (.ref f) = true
/-- as the kit's rule for defs wants it -/
theorem FunG.funD {K : PySem.W.Frag} {x qual : Str} {params : Arguments} {body : List Stmt} {scope : Scope} {dfl : List D} {kwd : List (Str × D)} {f : Addr} {fd : FuncData} (F : FunG K [] x qual params body scope dfl kwd f fd) : ∃ dvs kws, FunD K x qual params body scope dvs kws f fd := by
  obtain ⟨oc, od, dV, kV, doc, pm, an, cdv, ct, osl, dvs, kws, e, lk, hc, hd, hk, _⟩ := F.ex
  exact ⟨dvs, kws, ⟨oc, od, dV, kV, doc, pm, an, cdv, ct, osl, e, lk, hc, hd, hk⟩, F.kp⟩
/-- how bindArgs goes: the defaults' tuple at T, then the lacking keyword-only ones of the dict at D0 -/
def BShape {α : Type} (b : Bool) (T D0 : Addr) (its : Array Value) (l : List (Str × Value)) (t : Sem α) (r : α) : Prop := match b with
  | true => KwChain D0 l t r
  | false => ∃ k, t = seqItems? (.ref T) >>= k ∧ KwChain D0 l (k (some its)) r
theorem kwd_pick {K : PySem.W.Frag} {D0 : Addr} {kws : List (Str × V)} {kwd : List (Str × D)} (hq : ∀ q ∈ kws, ∃ u, PySem.W.nsIn K D0 q.1 = some (some u) ∧ L2.RelV q.2 u) (he : kws.map (·.1) = kwd.map (·.1)) (hd : DfOk K (kwd.map (·.2)) (kws.map (·.2))) :
    ∀ ms : List (Str × D), (∀ q ∈ ms, q ∈ kwd) → ∃ mz : List V, ∃ mv : List Value, mv.length = ms.length ∧ Vals mz mv ∧ DfOk K (ms.map (·.2)) mz ∧ ∀ q ∈ (ms.map (·.1)).zip mv, PySem.W.nsIn K D0 q.1 = some (some q.2)
  | [], _ => ⟨[], [], rfl, .nil, fun _ _ => rfl, fun q h => by simp at h⟩
  | m :: ms, h => by
    obtain ⟨mz, mv, l, r, d, a⟩ := kwd_pick hq he hd ms fun q hq => h q (List.mem_cons_of_mem _ hq)
    obtain ⟨i, hi⟩ := List.mem_iff_getElem?.mp (h m List.mem_cons_self)
    have h1 : (kws.map (·.1))[i]? = some m.1 := by rw [he, List.getElem?_map, hi]; rfl
    rw [List.getElem?_map] at h1
    obtain ⟨q, hq1, hq2⟩ := Option.map_eq_some_iff.mp h1
    obtain ⟨u, e1, e2⟩ := hq q (List.mem_of_getElem? hq1)
    refine ⟨q.2 :: mz, u :: mv, congrArg Nat.succ l, .cons e2 r, fun ρ H => ?_, fun p hp => ?_⟩
    · have h2 : (kwd.map (·.2))[i]? = some m.2 := by rw [List.getElem?_map, hi]; rfl
      obtain ⟨v, hv, rv⟩ := (hd ρ H).get h2
      rw [List.getElem?_map, hq1] at hv
      obtain rfl : q.2 = v := Option.some.inj hv
      exact ⟨q.2, mz, rfl, rv, d ρ H⟩
    · rcases List.mem_cons.mp (show p ∈ (m.1, u) :: (ms.map (·.1)).zip mv from hp) with e | hp
      · rw [e, ← hq2]; exact e1
      · exact a p hp
section
variable {K : PySem.W.Frag} {cl : List (Str × Addr)} {x qual : Str} {params : Arguments} {body : List Stmt} {scope : Scope} {dfl : List D} {kwd : List (Str × D)} {f : Addr} {fd : FuncData} {ps : List Str}
def dV0 (b : Bool) (T : Addr) : Value := match b with | true => .none | false => .ref T
/-- the values that a call binds, and what they stand for -/
theorem bind_ex (F : FunG K cl x qual params body scope dfl kwd f fd) (n : Nat) (ks : List Str) (ms : List (Str × D)) (hms : ∀ q ∈ ms, q ∈ kwd) (g : List Value → List Value → List Value → List Value → List Value)
    (h : ∀ (T D0 : Addr) (kV doc pm : Value) (an : Option Addr) (cdv ct : Value) (us its mv ws : List Value), (ms = [] ∨ kV = .ref D0) → us.length = n → its.length = dfl.length → mv.length = ms.length → ws.length = ks.length →
      BShape dfl.isEmpty T D0 its.toArray ((ms.map (·.1)).zip mv) (bindArgs (PySem.W.fnX x qual params body scope cl (dV0 dfl.isEmpty T) kV doc pm an cdv ct) ⟨us, ks.zip ws⟩) (ps.zip (g us its mv ws))) :
    ∃ (its mv : List Value) (dvs mz : List V), Vals dvs its ∧ Vals mz mv ∧ DfOk K dfl dvs ∧ DfOk K (ms.map (·.2)) mz ∧ its.length = dfl.length ∧ mv.length = ms.length ∧
      ∀ (s : Shared) (us ws : List Value), K.In s.heap → us.length = n → ws.length = ks.length → BindsTo s fd ⟨us, ks.zip ws⟩ (ps.zip (g us its mv ws)) := by
  obtain ⟨oc, od, dV, kV, doc, pm, an, cdv, ct, osl, dvs, kws, rfl, lk, hc, hd, hk, hdd, hkn, hkd⟩ := F.ex
  have hdl : dvs.length = dfl.length := (hdd ⟨[], []⟩ (fun _ => none)).length
  have hK : ∃ D0, (ms = [] ∨ kV = .ref D0) ∧ ∃ mz mv, mv.length = ms.length ∧ Vals mz mv ∧ DfOk K (ms.map (·.2)) mz ∧ ∀ q ∈ (ms.map (·.1)).zip mv, PySem.W.nsIn K D0 q.1 = some (some q.2) := by
    cases ms with
    | nil => exact ⟨0, .inl rfl, [], [], rfl, .nil, fun _ _ => rfl, fun q h => by simp at h⟩
    | cons m ms =>
      rcases hk with e | ⟨D0, rfl, hq⟩
      · subst e
        have : kwd = [] := by
          cases kwd with
          | nil => rfl
          | cons a b => simp at hkn
        rw [this] at hms
        exact absurd (hms m List.mem_cons_self) (by simp)
      · exact ⟨D0, .inr rfl, kwd_pick hq hkn hkd _ hms⟩
  obtain ⟨D0, hD0, mz, mv, ml, rm, dm, am⟩ := hK
  rcases hd with ⟨e, rfl⟩ | ⟨hne, T, o, its, m, rfl, lT, oT, rT⟩
  · subst e
    have hnil : dfl = [] := List.length_eq_zero_iff.mp hdl.symm
    subst hnil
    refine ⟨[], mv, [], mz, .nil, rm, hdd, dm, rfl, ml, fun s us ws X l1 l2 => BindsTo.of_looks fun M => ?_⟩
    exact KwChain.looks X am (h 0 D0 kV doc pm an cdv ct us [] mv ws hD0 l1 rfl ml l2)
  · have hi : its.length = dfl.length := by rw [← hdl]; exact rT.length.symm
    have hemp : dfl.isEmpty = false := by
      cases dfl with
      | nil =>
        have : dvs = [] := List.length_eq_zero_iff.mp hdl
        exact absurd this hne
      | cons a b => rfl
    refine ⟨its, mv, dvs, mz, rT, rm, hdd, dm, hi, ml, fun s us ws X l1 l2 => BindsTo.of_looks fun M => ?_⟩
    have z := h T D0 kV doc pm an cdv ct us its mv ws hD0 l1 hi ml l2
    rw [hemp] at z
    obtain ⟨k, e1, e2⟩ := z
    rw [show PySem.W.fnX x qual params body scope cl (dV0 false T) kV doc pm an cdv ct = PySem.W.fnX x qual params body scope cl (.ref T) kV doc pm an cdv ct from rfl] at e1
    rw [e1]
    exact looks_items X lT oT (KwChain.looks X am e2)
/-- f(e, .., k = v, ..) -/
theorem kw_ok (F : FunG K cl x qual params body scope dfl kwd f fd) (n : Nat) (ks : List Str) (ms : List (Str × D)) (ss : List Src) (hms : ∀ q ∈ ms, q ∈ kwd) (hss : ss.all (srcOk n dfl.length ms.length ks.length) = true ∧ ss.length = ps.length)
    (h : ∀ (T D0 : Addr) (kV doc pm : Value) (an : Option Addr) (cdv ct : Value) (us its mv ws : List Value), (ms = [] ∨ kV = .ref D0) → us.length = n → its.length = dfl.length → mv.length = ms.length → ws.length = ks.length →
      BShape dfl.isEmpty T D0 its.toArray ((ms.map (·.1)).zip mv) (bindArgs (PySem.W.fnX x qual params body scope cl (dV0 dfl.isEmpty T) kV doc pm an cdv ct) ⟨us, ks.zip ws⟩) (ps.zip (pick ss us its mv ws))) :
    KwOk K fd ps n ks (fun ds es => pick ss ds dfl (ms.map (·.2)) es) := by
  obtain ⟨its, mv, dvs, mz, r1, r2, d1, d2, l1, l2, hb⟩ := bind_ex F n ks ms hms (pick ss) h
  refine ⟨fun us ws => pick ss us its mv ws, fun vs zs => pick ss vs dvs mz zs, ⟨hb, fun q1 q2 => pick_vals q1 r1 r2 q2 ss⟩, fun ρ H ds es vs ws h1 h2 q1 q2 => ⟨pick_rp q1 (d1 ρ H) (d2 ρ H) q2 ss, ?_⟩⟩
  rw [pick_len ss (by rw [h1, h2, List.length_map]; exact hss.1)]
  exact hss.2
/-- C(e, .., k = v, ..): behind the new instance -/
theorem kw_mk (F : FunG K cl x qual params body scope dfl kwd f fd) (n : Nat) (ks : List Str) (ms : List (Str × D)) (ss : List Src) (hms : ∀ q ∈ ms, q ∈ kwd)
    (h : ∀ (T D0 : Addr) (kV doc pm : Value) (an : Option Addr) (cdv ct u : Value) (us its mv ws : List Value), (ms = [] ∨ kV = .ref D0) → us.length = n → its.length = dfl.length → mv.length = ms.length → ws.length = ks.length →
      BShape dfl.isEmpty T D0 its.toArray ((ms.map (·.1)).zip mv) (bindArgs (PySem.W.fnX x qual params body scope cl (dV0 dfl.isEmpty T) kV doc pm an cdv ct) ⟨u :: us, ks.zip ws⟩) (ps.zip (u :: pick ss us its mv ws))) :
    KwMk K fd ps n ks (fun ds es => pick ss ds dfl (ms.map (·.2)) es) := by
  obtain ⟨its, mv, dvs, mz, r1, r2, d1, d2, l1, l2, hb⟩ := bind_ex F (n + 1) ks ms hms (fun us its mv ws => match us with | u :: us => u :: pick ss us its mv ws | [] => []) fun T D0 kV doc pm an cdv ct us its mv ws h0 h1 h2 h3 h4 => by
    cases us with
    | nil => simp at h1
    | cons u us => exact h T D0 kV doc pm an cdv ct u us its mv ws h0 (by simpa using h1) h2 h3 h4
  refine ⟨fun us ws => match us with | u :: us => u :: pick ss us its mv ws | [] => [], fun vs zs => match vs with | v :: vs => v :: pick ss vs dvs mz zs | [] => [], ⟨hb, fun {vs us zs ws} q1 q2 => ?_⟩, fun v vs ws _ _ => rfl, fun ρ H v ds es vs ws h1 h2 q1 q2 => pick_rp q1 (d1 ρ H) (d2 ρ H) q2 ss⟩
  cases q1 with
  | nil => exact .nil
  | cons a b => exact .cons a (pick_vals b r1 r2 q2 ss)
/-- a getter: no more than the object -/
theorem get_ok (F : FunG K cl x qual params body scope [] kwd f fd)
    (h : ∀ (kV doc pm : Value) (an : Option Addr) (cdv ct : Value) (us : List Value), us.length = ps.length → bindArgs (PySem.W.fnX x qual params body scope cl .none kV doc pm an cdv ct) ⟨us, []⟩ = pure (ps.zip us)) : Binds K fd ps [] := by
  obtain ⟨oc, od, dV, kV, doc, pm, an, cdv, ct, osl, dvs, kws, rfl, lk, hc, hd, hk, hdd, hkn, hkd⟩ := F.ex
  have hdl : dvs.length = 0 := (hdd ⟨[], []⟩ (fun _ => none)).length
  rcases hd with ⟨_, rfl⟩ | ⟨e, _⟩
  · exact .all (h kV doc pm an cdv ct)
  · exact absurd (List.length_eq_zero_iff.mp hdl) e
end
/-! ### what may be called: a def; np values are written, gD makes the parameters of them; j more frames between -/
/-- a promise of a def, at X's own place -/
structure FnAt (X : Cx) (k : Nat) (f : Addr) (fd : FuncData) (ps : List Str) (sp : Sp) : Prop where
  run : ∀ (s : Shared) (H : Hp) (args : Args) (us : List Value) (vs : List V) (Q : VK) (E : XK), Room k X.A → Env0 X.prog X.w X.K X.mg X.base X.A X.stack s H → BindsTo s fd args (ps.zip us) → Vals vs us → sp vs H Q E →
    codeAny (model X.prog X.w) X.A (.call (.ref f) args) (CR (L2.CX X.prog X.w) X.stack X.prog X.w H s Q E) s
theorem fnAt {X : Cx} {k : Nat} {f : Addr} {fd : FuncData} {ps : List Str} {sp : Sp} (F : FnOk X.prog X.w X.K X.mg X.base (L2.CX X.prog X.w) k f fd ps sp) : FnAt X k f fd ps sp := ⟨fun s H args us vs Q E => F.run X.A X.stack s H args us vs Q E⟩
structure Cal (X : Cx) (j : Nat) (f : Addr) (np : Nat) (ks : List Str) (gD : List D → List D → List D) (m : Mf) : Prop where
  ex : ∃ k fd ps, FnAt X k f fd ps (spD X.K ps.length m) ∧ Room (k + j) X.A ∧ KwOk X.K fd ps np ks gD
/-- the call -/
def callD (m : Mf) (np : Nat) (gD : List D → List D → List D) (n : Nat) (ds es : List D) (S : Store) : Res D := if ds.length = np then m n (gD ds es) S else .bad
section
variable {X : Cx} {W : WX} {j : Nat} {f : Addr} {np : Nat} {ks : List Str} {gD : List D → List D → List D} {m : Mf} {pins : List (Addr × Obj)} {σ : L2.St} {H : Hp} {s : Shared} {Q : VK}
theorem Cal.runC (c : Cal X 0 f np ks gD m) (tk : Takes X W) (I : L2.Inv X pins σ H s) {vs zs : List V} {us ws : List Value} (r : Vals vs us) (rz : Vals zs ws) {n : Nat} {ρ : Ad} {S : Store} {ds es : List D} (g : Good X.K ρ S H) (rd : RpL X.K ρ H ds vs) (re : RpL X.K ρ H es zs) (hl : es.length = ks.length)
    (h : Rest (Rp X.K) X.K n ρ S H σ Q W (callD m np gD n ds es S)) : codeAny (model X.prog X.w) X.A (.call (.ref f) ⟨us, ks.zip ws⟩) (fun r s' => match r with | .ok (.ret u) => EP X pins σ Q u s' | .ok _ => False | .error e => X.xe e s') s := by
  obtain ⟨k, fd, ps, F, hr, hb⟩ := c.ex
  unfold callD at h
  split at h
  · rename_i hn
    obtain ⟨gv, gV, hb, hrel⟩ := hb.ex
    obtain ⟨h1, h2⟩ := hrel ρ H ds es vs zs hn hl rd re
    have hsp := spD_of (σ := σ) (W := W) (Q := Q) g h1 h2 h
    refine codeAny_mono (F.run s H ⟨us, ks.zip ws⟩ (gv us ws) (gV vs zs) Q (WE W σ) hr I.env0 (hb.to s us ws I.kIn (r.length.symm.trans (rd.length.trans hn)) (rz.length.symm.trans (re.length.trans hl))) (hb.rel r rz) hsp) fun r s' hq => ?_
    cases r with
    | error e => exact passAt tk σ pins H s e s' I hq
    | ok fl => cases fl <;> first | exact I.after hq | exact False.elim hq
  · exact False.elim h
theorem Cal.run (c : Cal X 0 f np ks gD m) (tk : Takes X W) (I : L2.Inv X pins σ H s) {vs zs : List V} {us ws : List Value} (r : Vals vs us) (rz : Vals zs ws) {n : Nat} {ρ : Ad} {S : Store} {ds es : List D} (g : Good X.K ρ S H) (rd : RpL X.K ρ H ds vs) (re : RpL X.K ρ H es zs) (hl : es.length = ks.length)
    (h : Rest (Rp X.K) X.K n ρ S H σ Q W (callD m np gD n ds es S)) : wpAny (model X.prog X.w) X.A (call (.ref f) us (ks.zip ws)) (EP X pins σ Q) X.xe s :=
  wpAny_call (codeAny_mono (c.runC tk I r rz g rd re hl h) fun r s' hq => by
    cases r with
    | error e => exact hq
    | ok fl => cases fl <;> exact hq)
end
/-! ### calls by name -/
def dFn (m : Mf) (np : Nat) (gD : List D → List D → List D) (da : DA) : DE := fun n δ S => (da n δ S).bind fun ds S1 => callD m np gD n ds [] S1
def dFnK (m : Mf) (np nk : Nat) (gD : List D → List D → List D) (da dk : DA) : DE := fun n δ S => (da n δ S).bind fun ds S1 => (dk n δ S1).bind fun es S2 => if es.length = nk then callD m np gD n ds es S2 else .bad
/-- a def by its name -/
structure Fnm (X : Cx) (x : Str) (f : Addr) : Prop where
  gl : Gl X x
  mg : X.mg x = some (.ref f)
  kp : PySem.W.keepIn X.K (.ref f) = true
section
variable {X : Cx} {W : WX} {f : Addr} {np : Nat} {ks : List Str} {gD : List D → List D → List D} {m : Mf} {x : Str} {p pos : Pos} {e : Expr} {es : List Expr} {da dk : DA} {kws : List Keyword}
theorem se_fn (N : Fnm X x f) (c : Cal X 0 f np [] gD m) (tk : Takes X W) (ha : SA X W (e :: es) da) (hdb : (x == ("__debug__" : Str)) = false := by decide) (he : starEach (e :: es) X.env = (false, eval e X.env) :: starEach es X.env := by rfl) (hpl : (backTo pos (starEach es X.env)).any (·.1) = false := by rfl) :
    SE X W (.Call (.Name x p) (e :: es) [] pos) (dFn m np gD da) := by
  refine ⟨fun pins s σ H Q I ⟨n, ρ, S, δ, g, en, r⟩ => ?_⟩
  refine wpAny_Call_Name_kw (ld_glob I N.gl N.mg ?_ hdb)
  refine PySem.W.callWith_K (h₀ := X.base) I.ok.mod.kin N.kp (thn (ha.run pos pins s σ H _ I ⟨n, ρ, S, δ, g, en, Rest.bind (rel' := RpL X.K) en r⟩) fun us s1 ⟨vs, H1, I1, rv, ρ1, S1, d1, g1, e1, r1, f1, q⟩ => ⟨I1.kIn, ?_⟩) he hpl
  exact c.run tk I1 (ws := []) (zs := []) rv .nil g1 r1 (es := []) rfl rfl q
theorem se_fn0 (N : Fnm X x f) (c : Cal X 0 f np [] gD m) (tk : Takes X W) (hdb : (x == ("__debug__" : Str)) = false := by decide) : SE X W (.Call (.Name x p) [] [] pos) (dFn m np gD aNil) := by
  refine ⟨fun pins s σ H Q I ⟨n, ρ, S, δ, g, en, r⟩ => ?_⟩
  refine wpAny_Call_Name_kw (ld_glob I N.gl N.mg ?_ hdb)
  exact PySem.W.callWith_K0 I.kIn N.kp (c.run tk I (us := []) (vs := []) (ws := []) (zs := []) .nil .nil g (ds := []) rfl (es := []) rfl rfl r)
theorem se_fnK (N : Fnm X x f) (c : Cal X 0 f np ks gD m) (tk : Takes X W) (ha : SA X W (e :: es) da) (hkw : SK X W kws dk)
    (hall : (backToKw pos (keywordEach kws X.env)).all (·.1.isSome) = true := by rfl) (hks : (backToKw pos (keywordEach kws X.env)).filterMap (·.1) = ks := by rfl)
    (hdb : (x == ("__debug__" : Str)) = false := by decide) (he : starEach (e :: es) X.env = (false, eval e X.env) :: starEach es X.env := by rfl)
    (hpl : ((backTo pos (starEach (e :: es) X.env)).any (·.1) || (backToKw pos (keywordEach kws X.env)).any (·.1.isNone)) = false := by rfl) :
    SE X W (.Call (.Name x p) (e :: es) kws pos) (dFnK m np ks.length gD da dk) := by
  refine ⟨fun pins s σ H Q I ⟨n, ρ, S, δ, g, en, r⟩ => ?_⟩
  refine wpAny_Call_Name_kw (ld_glob I N.gl N.mg ?_ hdb)
  refine PySem.W.callWith_KW (h₀ := X.base) I.ok.mod.kin N.kp hall (thn (ha.run pos pins s σ H _ I ⟨n, ρ, S, δ, g, en, Rest.bind (rel' := RpL X.K) en r⟩) fun us s1 ⟨vs, H1, I1, rv, ρ1, S1, d1, g1, e1, r1, f1, q⟩ => ?_) hpl he
  refine thn (hkw.run pos pins s1 σ H1 _ I1 ⟨n, ρ1, S1, δ, g1, e1, Rest.bind (rel' := RpL X.K) e1 q⟩) fun ws s2 ⟨zs, H2, I2, rz, ρ2, S2, d2, g2, e2, r2, f2, q2⟩ => ⟨I2.kIn, ?_⟩
  rw [hks]
  split at q2
  · rename_i hl
    exact c.run tk I2 rv rz g2 (r1.kp f2.kp) r2 hl q2
  · exact False.elim q2
end
/-! ### instances made -/
/-- the class C: its __init__ does m -/
structure Mkn (X : Cx) (x : Str) (C : String) (np : Nat) (ks : List Str) (gD : List D → List D → List D) (m : Mf) : Prop where
  gl : Gl X x
  mg : X.mg x = some (.ref (He.ga X.K (Str.ofString C)))
  ex : ∃ k f fd ps, Mk X.K (He.ga X.K (Str.ofString C)) f ∧ FnOk X.prog X.w X.K X.mg X.base (L2.CX X.prog X.w) k f fd ps (spD X.K ps.length m) ∧ Room (k + 1) X.A ∧ KwMk X.K fd ps np ks gD ∧ Arity m ps.length
section
variable {X : Cx} {W : WX} {np : Nat} {ks : List Str} {gD : List D → List D → List D} {m mk : Mf} {C : String} {x : Str} {p pos : Pos} {e : Expr} {es : List Expr} {da dk : DA} {kws : List Keyword}
theorem Mkn.run (N : Mkn X x C np ks gD m) (hmk : Mks C m mk) (tk : Takes X W) {pins : List (Addr × Obj)} {σ : L2.St} {H : Hp} {s : Shared} {Q : VK} (I : L2.Inv X pins σ H s) {vs zs : List V} {us ws : List Value} (r : Vals vs us) (rz : Vals zs ws) {n : Nat} {ρ : Ad} {S : Store} {ds ys : List D} (g : Good X.K ρ S H) (rd : RpL X.K ρ H ds vs) (re : RpL X.K ρ H ys zs) (hl : ys.length = ks.length)
    (h : Rest (Rp X.K) X.K n ρ S H σ Q W (callD mk np gD n ds ys S)) : wpAny (model X.prog X.w) X.A (call (.ref (He.ga X.K (Str.ofString C))) us (ks.zip ws)) (EP X pins σ Q) X.xe s := by
  obtain ⟨k, f, fd, ps, M, F, hr, hb, ar⟩ := N.ex
  obtain ⟨gv, gV, hb, hh, hrel⟩ := hb.ex
  unfold callD at h
  split at h
  · rename_i hn
    obtain ⟨n', q'⟩ := hmk X.K n ρ S H σ Q W (gD ds ys) g h
    refine run_makeND (E := WE W) M F hr hb (passAt tk σ) I r rz (rd.length.trans hn) (re.length.trans hl) fun y dx h1 h2 h3 => ?_
    by_cases hlen : (gD ds ys).length + 1 = ps.length
    · rw [hh (.ref y) vs zs (rd.length.trans hn) (re.length.trans hl)]
      exact mk_init g (hrel ρ H (.ref y) ds ys vs zs hn hl rd re) h1 h2 h3 hlen q'
    · rw [ar n' (.ref S.length :: gD ds ys) _ (by rw [List.length_cons]; exact hlen)] at q'
      exact False.elim q'
  · exact False.elim h
theorem se_mk (N : Mkn X x C np [] gD m) (hmk : Mks C m mk) (tk : Takes X W) (ha : SA X W (e :: es) da) (hdb : (x == ("__debug__" : Str)) = false := by decide) (he : starEach (e :: es) X.env = (false, eval e X.env) :: starEach es X.env := by rfl) (hpl : (backTo pos (starEach es X.env)).any (·.1) = false := by rfl) :
    SE X W (.Call (.Name x p) (e :: es) [] pos) (dFn mk np gD da) := by
  refine ⟨fun pins s σ H Q I ⟨n, ρ, S, δ, g, en, r⟩ => ?_⟩
  obtain ⟨k, f, fd, ps, M, _⟩ := N.ex
  refine wpAny_Call_Name_kw (ld_glob I N.gl N.mg ?_ hdb)
  refine PySem.W.callWith_K (h₀ := X.base) I.ok.mod.kin M.kp (thn (ha.run pos pins s σ H _ I ⟨n, ρ, S, δ, g, en, Rest.bind (rel' := RpL X.K) en r⟩) fun us s1 ⟨vs, H1, I1, rv, ρ1, S1, d1, g1, e1, r1, f1, q⟩ => ⟨I1.kIn, ?_⟩) he hpl
  exact N.run hmk tk I1 (ws := []) (zs := []) rv .nil g1 r1 (ys := []) rfl rfl q
theorem se_mkK (N : Mkn X x C np ks gD m) (hmk : Mks C m mk) (tk : Takes X W) (ha : SA X W (e :: es) da) (hkw : SK X W kws dk)
    (hall : (backToKw pos (keywordEach kws X.env)).all (·.1.isSome) = true := by rfl) (hks : (backToKw pos (keywordEach kws X.env)).filterMap (·.1) = ks := by rfl)
    (hdb : (x == ("__debug__" : Str)) = false := by decide) (he : starEach (e :: es) X.env = (false, eval e X.env) :: starEach es X.env := by rfl)
    (hpl : ((backTo pos (starEach (e :: es) X.env)).any (·.1) || (backToKw pos (keywordEach kws X.env)).any (·.1.isNone)) = false := by rfl) :
    SE X W (.Call (.Name x p) (e :: es) kws pos) (dFnK mk np ks.length gD da dk) := by
  refine ⟨fun pins s σ H Q I ⟨n, ρ, S, δ, g, en, r⟩ => ?_⟩
  obtain ⟨k, f, fd, ps, M, _⟩ := N.ex
  refine wpAny_Call_Name_kw (ld_glob I N.gl N.mg ?_ hdb)
  refine PySem.W.callWith_KW (h₀ := X.base) I.ok.mod.kin M.kp hall (thn (ha.run pos pins s σ H _ I ⟨n, ρ, S, δ, g, en, Rest.bind (rel' := RpL X.K) en r⟩) fun us s1 ⟨vs, H1, I1, rv, ρ1, S1, d1, g1, e1, r1, f1, q⟩ => ?_) hpl he
  refine thn (hkw.run pos pins s1 σ H1 _ I1 ⟨n, ρ1, S1, δ, g1, e1, Rest.bind (rel' := RpL X.K) e1 q⟩) fun ws s2 ⟨zs, H2, I2, rz, ρ2, S2, d2, g2, e2, r2, f2, q2⟩ => ⟨I2.kIn, ?_⟩
  rw [hks]
  split at q2
  · rename_i hl
    exact N.run hmk tk I2 rv rz g2 (r1.kp f2.kp) r2 hl q2
  · exact False.elim q2
end
end G

/-! sets of texts: what they hold, how long they are, sorted -/
namespace G
open PySem PySem.Spec PyProof.Rows L2
/-- without what came before -/
def firstS (l : List Str) : List Str := l.foldl (fun σ x => if x ∈ σ then σ else σ ++ [x]) []
theorem firstS_snoc (l : List Str) (x : Str) : firstS (l ++ [x]) = if x ∈ firstS l then firstS l else firstS l ++ [x] := by
  unfold firstS
  rw [List.foldl_append]
  rfl
theorem mem_firstS (k : Str) (l : List Str) : k ∈ firstS l ↔ k ∈ l := by
  have h : ∀ (l σ : List Str), k ∈ l.foldl (fun σ x => if x ∈ σ then σ else σ ++ [x]) σ ↔ k ∈ σ ∨ k ∈ l := by
    intro l
    induction l with
    | nil => intro σ; simp
    | cons x l ih =>
      intro σ
      rw [List.foldl_cons, ih]
      by_cases hx : x ∈ σ
      · rw [if_pos hx, List.mem_cons]
        constructor
        · rintro (q | q)
          · exact .inl q
          · exact .inr (.inr q)
        · rintro (q | q | q)
          · exact .inl q
          · exact .inl (q ▸ hx)
          · exact .inr q
      · simp only [if_neg hx, List.mem_append, List.mem_cons, List.not_mem_nil, or_false, or_assoc]
  rw [firstS, h]
  simp
theorem nodup_firstS (l : List Str) : (firstS l).Nodup := by
  have h : ∀ (l σ : List Str), σ.Nodup → (l.foldl (fun σ x => if x ∈ σ then σ else σ ++ [x]) σ).Nodup := by
    intro l
    induction l with
    | nil => intro σ q; exact q
    | cons x l ih =>
      intro σ q
      rw [List.foldl_cons]
      refine ih _ ?_
      by_cases hx : x ∈ σ
      · rw [if_pos hx]; exact q
      · rw [if_neg hx, List.nodup_append]
        refine ⟨q, by simp, fun a ha b hb => ?_⟩
        rw [List.mem_singleton] at hb
        subst hb
        exact fun e => hx (e ▸ ha)
  exact h l [] List.nodup_nil
theorem len_firstS : ∀ l : List Str, (firstS l).length ≤ l.length := by
  have h : ∀ (l σ : List Str), (l.foldl (fun σ x => if x ∈ σ then σ else σ ++ [x]) σ).length ≤ σ.length + l.length := by
    intro l
    induction l with
    | nil => intro σ; simp
    | cons x l ih =>
      intro σ
      rw [List.foldl_cons]
      refine Nat.le_trans (ih _) ?_
      split <;> simp <;> omega
  intro l
  have := h l []
  simpa [firstS] using this
def keyS (e : Int × Value) : Str := match e.2 with | .str k _ => k | _ => Str.empty
def GoodS (w : World) (e : Int × Value) : Prop := ∃ k tk, e.2 = Value.str k tk ∧ e.1 = hashStr w k
/-- the set of texts at a: S its members, n their number -/
def SetS (w : World) (h : Heap) (a : Addr) (S : Str → Bool) (n : Nat) : Prop :=
  ∃ o ents ep t, h.get? a = some o ∧ o.ExactSet ∧ o.data = .set ents ep t ∧ (∀ e ∈ ents.toList, GoodS w e) ∧ (ents.toList.map keyS).Nodup ∧ (∀ k, S k = true ↔ k ∈ ents.toList.map keyS) ∧
    ents.size < scanBound ∧ t.fits ents.size = true ∧ ents.size = n ∧ Ris t.place.toList ∧ (w.params.followText "set-order" = true ∨ t.led = true)
section
variable {P : Program} {w : World} {h h' : Heap} {a : Addr} {S : Str → Bool} {n : Nat}
theorem SetS.at (R : SetS w h a S n) (k : ∀ o, h.get? a = some o → h'.get? a = some o) : SetS w h' a S n := by
  obtain ⟨o, ents, ep, t, ho, r⟩ := R
  exact ⟨o, ents, ep, t, k o ho, r⟩
theorem SetS.congr {S' : Str → Bool} {n' : Nat} (R : SetS w h a S n) (e : ∀ k, S' k = S k) (hn : n' = n) : SetS w h a S' n' := by
  have q : S' = S := funext e
  rw [q, hn]; exact R
theorem good_elemsS {l : List (Int × Value)} (g : ∀ e ∈ l, GoodS w e) : ElemsOf (PySem.strKind P w) l := fun e he => by
  obtain ⟨k, tk, h1, h2⟩ := g e he
  exact ⟨⟨k, by rw [h1]; exact strKind_is P w k tk, h2⟩, by rw [h1] <;> rfl⟩
theorem good_isS {e : Int × Value} (g : GoodS w e) (k : Str) : (PySem.strKind P w).is k e.2 = true ↔ keyS e = k := by
  obtain ⟨k0, tk, h1, _⟩ := g
  unfold keyS
  rw [h1]
  show ((k0 == k) = true) ↔ k0 = k
  exact beq_iff_eq
theorem good_memS {l : List (Int × Value)} (g : ∀ e ∈ l, GoodS w e) (k : Str) : k ∈ l.map keyS ↔ ∃ e ∈ l, (PySem.strKind P w).is k e.2 = true := by
  rw [List.mem_map]
  constructor
  · rintro ⟨e, he, q⟩
    exact ⟨e, he, (good_isS (g e he) k).2 q⟩
  · rintro ⟨e, he, q⟩
    exact ⟨e, he, (good_isS (g e he) k).1 q⟩
theorem setS_fresh {h : Heap} (w : World) : SetS w (h.push { cls := .type "set", dict := none, data := .set #[] 0 (.fresh 0 0 (!w.params.followText "set-order")) }) h.objs.size (fun k => decide (k ∈ firstS [])) 0 :=
  ⟨_, #[], 0, _, Heap.get?_push_size _ rfl, ⟨rfl, rfl, rfl⟩, rfl, (fun e he => by simp at he), (by simp), (fun k => by simp [firstS]), (by decide), (by rfl), rfl, List.Pairwise.nil, by
    show _ ∨ (!w.params.followText "set-order") = true
    cases w.params.followText "set-order" <;> simp⟩
end
section
variable {P : Program} {w : World} {A : Around} {E : Value → Shared → Prop} {s : Shared} {a : Addr} {S : Str → Bool} {n : Nat}
theorem setS_add_tail {gd : Bool → Sem Unit} (hg : ∀ (b : Bool) (s₁ : Shared) (Q' : Unit → Shared → Prop), Q' () s₁ → wpAny (model P w) A (gd b) Q' E s₁)
    {o : Obj} {ents : Array (Int × Value)} {ep : Nat} {t : SetTable} (hob : s.heap.get? a = some o) (hxc : o.ExactSet) (hdt : o.data = .set ents ep t)
    {ent1 : Array (Int × Value)} {tb2 : SetTable} {S' : Str → Bool} (gg1 : ∀ e ∈ ent1.toList, GoodS w e) (ndu1 : (ent1.toList.map keyS).Nodup) (mm1 : ∀ k, S' k = true ↔ k ∈ ent1.toList.map keyS)
    (hbo1 : ent1.size < scanBound) (hfi2 : tb2.fits ent1.size = true) (hri : Ris tb2.place.toList) (hle : w.params.followText "set-order" = true ∨ tb2.led = true) {wasD : Bool} {R : Option Bool → Shared → Prop}
    (hR : ∀ h', Heap.SameBut a s.heap h' → SetS w h' a S' ent1.size → R (some true) { s with heap := h' }) :
    wpAny (model P w) A (do
        storeSet a ent1 tb2
        if (!wasD && tb2.tooFull) = true then do
            gd (relayAll tb2 ent1 (SetTable.grown ent1.size)).2.2
            storeSet a (relayAll tb2 ent1 (SetTable.grown ent1.size)).1 (relayAll tb2 ent1 (SetTable.grown ent1.size)).2.1
            pure (some true)
          else pure (some true)) R E s := by
  refine wpAny_bind (wpAny_storeSet_of hob hdt ?_ (fits_of_scanBound hbo1))
  have hob1 := store_at (es' := ent1) (t' := tb2) hob hdt
  have sbu1 := Heap.SameBut.update s.heap a (Obj.putSet ent1 tb2)
  split
  · have prm := relayAll_perm tb2 ent1 (SetTable.grown ent1.size)
    have hfi3 := relayAll_fits tb2 ent1 (SetTable.grown ent1.size)
    have hri3 := relayAll_ris tb2 ent1 (SetTable.grown ent1.size)
    have hle3 := relayAll_led tb2 ent1 (SetTable.grown ent1.size)
    generalize relayAll tb2 ent1 (SetTable.grown ent1.size) = ZZ at prm hfi3 hri3 hle3 ⊢
    obtain ⟨ent2, tb3, gav⟩ := ZZ
    dsimp only at prm hfi3 hri3 hle3 ⊢
    have hsiz : ent2.size = ent1.size := by rw [← Array.length_toList, prm.length_eq, Array.length_toList]
    have hbo2 : ent2.size < scanBound := by rw [hsiz]; exact hbo1
    refine wpAny_bind (hg _ _ _ ?_)
    refine wpAny_bind (wpAny_storeSet_of hob1 rfl ?_ (fits_of_scanBound hbo2))
    have hob2 := store_at (es' := ent2) (t' := tb3) hob1 rfl
    refine wpAny_pure (hR _ (sbu1.trans (Heap.SameBut.update _ a _)) ?_)
    exact ⟨_, ent2, _, tb3, hob2, hxc, rfl, fun e he => gg1 e (prm.mem_iff.mp he), (prm.map keyS).nodup_iff.mpr ndu1, fun k => (mm1 k).trans (prm.map keyS).mem_iff.symm, hbo2, hfi3, hsiz, hri3,
      hle.imp id fun z => by rw [hle3]; exact z⟩
  · exact wpAny_pure (hR _ sbu1 ⟨_, ent1, _, tb2, hob1, hxc, rfl, gg1, ndu1, mm1, hbo1, hfi2, rfl, hri, hle⟩)

theorem setS_add_hashed {k : Str} {tk : Tok} {Q : Bool → Shared → Prop} (R : SetS w s.heap a S n) (room : n + 1 < scanBound)
    (hQQ : ∀ h', Heap.SameBut a s.heap h' → SetS w h' a (fun j => S j || decide (j = k)) (if S k = true then n else n + 1) → Q (!S k) { s with heap := h' }) :
    wpAny (model P w) A (setAddHashed a (.str k tk) ((PySem.strKind P w).hash k)) Q E s := by
  obtain ⟨o, ents, ep, t, hob, hxc, hdt, gd, ndu, hme, hbo, hfi0, hnn, hri, hle⟩ := R
  have hky : (PySem.strKind P w).is k (.str k tk) = true := strKind_is P w k tk
  have hscn : (Value.str k tk).scannable = true := rfl
  have hels : ElemsOf (PySem.strKind P w) ents.toList := good_elemsS gd
  unfold setAddHashed setAddHashedIn
  refine wpAny_holding (wpAny_bind (wpAny_setState_of hob hdt hfi0 ?_))
  dsimp only
  rw [byScan_of hscn hbo hels]
  simp only [↓reduceIte]
  unfold setAddByScan
  refine wpAny_bind ?_
  refine wpAny_bind (wpAny_rule ?_)
  refine wpAny_bind (wpAny_setScan_of hky hob hdt hfi0 hels ?_)
  cases hfi : List.findIdx? (fun e => (PySem.strKind P w).is k e.2) ents.toList with
  | some j =>
    dsimp only
    obtain ⟨hj, pj, _⟩ := List.findIdx?_eq_some_iff_getElem.mp hfi
    have hsk : S k = true := (hme k).2 ((good_memS (P := P) (w := w) gd k).2 ⟨ents.toList[j], List.getElem_mem hj, pj⟩)
    refine wpAny_pure (wpAny_pure ?_)
    have q := hQQ s.heap (Heap.SameBut.refl a s.heap) ⟨o, ents, ep, t, hob, hxc, hdt, gd, ndu, fun i => by
      rw [Bool.or_eq_true, decide_eq_true_eq, ← hme i]
      exact ⟨fun z => z.elim id (fun e => e ▸ hsk), .inl⟩, hbo, hfi0, by rw [if_pos hsk]; exact hnn, hri, hle⟩
    rw [hsk] at q
    exact q
  | none =>
    dsimp only
    have hnk : k ∉ ents.toList.map keyS := fun z => by
      obtain ⟨e, he, q⟩ := (good_memS (P := P) (w := w) gd k).1 z
      have c := List.findIdx?_eq_none_iff.mp hfi e he
      rw [q] at c
      cases c
    have hsk : S k = false := by
      cases q : S k with
      | false => rfl
      | true => exact absurd ((hme k).1 q) hnk
    have hgv : ∀ (b : Bool) {s₁ : Shared} {Q' : Unit → Shared → Prop}, Q' () s₁ → wpAny (model P w) A (match b with | true => rule "set.scan.the-table-gave-way" | false => pure ()) Q' E s₁ :=
      fun b s₁ Q' q => by cases b <;> first | exact wpAny_pure q | exact wpAny_rule q
    have prm := layNew_perm t ents ((PySem.strKind P w).hash k) (.str k tk)
    have hfi1 := layNew_fits t ents ((PySem.strKind P w).hash k) (.str k tk)
    have hri1 := layNew_ris t ents ((PySem.strKind P w).hash k) (.str k tk) hri
    have hle1 := layNew_led t ents ((PySem.strKind P w).hash k) (.str k tk)
    generalize layNew t ents ((PySem.strKind P w).hash k) (.str k tk) = ZZ at prm hfi1 hri1 hle1 ⊢
    obtain ⟨ent1, tb1, wasD, gav⟩ := ZZ
    dsimp only at prm hfi1 hri1 hle1 ⊢
    rw [Array.toList_push] at prm
    have prc : ent1.toList.Perm (((PySem.strKind P w).hash k, Value.str k tk) :: ents.toList) := prm.trans (List.perm_append_singleton _ _)
    have prk : (ent1.toList.map keyS).Perm (k :: ents.toList.map keyS) := prc.map keyS
    have gg1 : ∀ e ∈ ent1.toList, GoodS w e := fun e he => by
      rcases List.mem_cons.mp (prc.mem_iff.mp he) with z | z
      · rw [z]; exact ⟨k, tk, rfl, rfl⟩
      · exact gd e z
    have ndu1 : (ent1.toList.map keyS).Nodup := prk.nodup_iff.mpr (List.nodup_cons.mpr ⟨hnk, ndu⟩)
    have mm1 : ∀ i, (S i || decide (i = k)) = true ↔ i ∈ ent1.toList.map keyS := fun i => by
      rw [Bool.or_eq_true, decide_eq_true_eq, hme i, prk.mem_iff, List.mem_cons]
      exact Or.comm
    have hsiz : ent1.size = n + 1 := by rw [← Array.length_toList, prc.length_eq, List.length_cons, Array.length_toList, hnn]
    have hbo1 : ent1.size < scanBound := by rw [hsiz]; exact room
    have hledd : w.params.followText "set-order" = true ∨ tb1.led = true := hle.imp id fun z => by rw [hle1]; exact z
    have finish : ∀ h', Heap.SameBut a s.heap h' → SetS w h' a (fun j => S j || decide (j = k)) ent1.size → Q true { s with heap := h' } := fun h' sb r => by
      have q := hQQ h' sb
      rw [hsk] at q
      rw [hsiz] at r
      exact q r
    refine wpAny_bind (hgv _ ?_)
    split
    · refine wpAny_bind ?_
      rw [hashByValue_scannable 8 hscn]
      refine wpAny_pure ?_
      refine setS_add_tail ?_ hob hxc hdt gg1 ndu1 mm1 hbo1 ?_ ?_ ?_ ?_
      · intro b s₁ Q' q; cases b <;> first | exact wpAny_pure q | exact wpAny_rule q
      · first | (split <;> first | exact hfi1 | exact SetTable.fits_plain_off hfi1) | exact hfi1
      · first | (split <;> exact hri1) | exact hri1
      · first | (split <;> exact hledd) | exact hledd
      · intro h' sb r; dsimp only; exact wpAny_pure (finish h' sb r)
    · refine wpAny_bind (wpAny_pure ?_)
      simp only [↓reduceIte]
      refine setS_add_tail ?_ hob hxc hdt gg1 ndu1 mm1 hbo1 hfi1 hri1 hledd ?_
      · intro b s₁ Q' q; cases b <;> first | exact wpAny_pure q | exact wpAny_rule q
      · intro h' sb r; dsimp only; exact wpAny_pure (finish h' sb r)

end
section
variable {prog : Program} {w : World} {A : Around} {R : Result → Shared → Prop} {I : Addr} {fp wr : List Addr} {G0 : Array GenState → Array GenState → Prop} {n : Nat} {P : Nat → Value → Prop} {St : Nat → Shared → Prop}
/-- the members, one after another -/
theorem loopSet (W : WalksS prog w A.in1 I fp wr G0 n P St) (S : Addr) (hSf : S ∉ fp) (xs : List Str) (hsz : xs.length = n) (hn1 : n + 1 < scanBound)
    (hval : ∀ i v, P i v → ∃ t, v = .str (xs.getD i Str.empty) t) :
    ∀ (k i : Nat) (s : Shared), n - i = k → i ≤ n → St i s → SetS w s.heap S (fun k => decide (k ∈ firstS (xs.take i))) (firstS (xs.take i)).length →
      (∀ s', Moved (S :: wr) G0 s s' → SetS w s'.heap S (fun k => decide (k ∈ firstS xs)) (firstS xs).length → R (.ok (.ret .none)) s') →
      codeAny (model prog w) A (.builtin "set.update.loop" ⟨[.ref S, .ref I], []⟩) R s := by
  have hSw : S ∉ wr := fun h => hSf (W.sub _ h)
  have hsub : ∀ b ∈ wr, b ∈ S :: wr := fun b hb => List.mem_cons_of_mem _ hb
  intro k
  induction k with
  | zero =>
    intro i s hk hi hst hset hR
    obtain rfl : i = n := by omega
    refine codeAny_builtin PyProof.Rows.F.entry_set_update_loop ?_
    rw [Around.under_plainId PyProof.Rows.F.plain_set_update_loop _]; show wpAny _ A.in1 (pyNext (.ref I) >>= _) _ _ s
    refine wpAny_bind (W.done s _ _ hst fun s' mv => ?_); show wpAny _ A.in1 (ret Value.none) _ _ s'
    rw [List.take_of_length_le (Nat.le_of_eq hsz)] at hset
    exact wpAny_pure (hR s' (mv.mono hsub) (hset.at fun o e => mv.heap S o hSw e))
  | succ k ih =>
    intro i s hk hi hst hset hR
    have hlt : i < n := by omega
    refine codeAny_builtin PyProof.Rows.F.entry_set_update_loop ?_
    rw [Around.under_plainId PyProof.Rows.F.plain_set_update_loop _]; show wpAny _ A.in1 (pyNext (.ref I) >>= _) _ _ s
    refine wpAny_bind (W.item i s _ _ hlt hst fun v s' hP hst1 mv => ?_)
    obtain ⟨t, rfl⟩ := hval i v hP
    have hs1 := hset.at fun o e => mv.heap S o hSw e
    show wpAny _ A.in1 (holding [Value.str (xs.getD i Str.empty) t] (setAdd S (.str (xs.getD i Str.empty) t)) >>= _) _ _ s'
    refine wpAny_bind (wpAny_holding ?_); unfold setAdd
    refine wpAny_holding (wpAny_bind ((PySem.strKind prog w).pyHash (k := xs.getD i Str.empty) (strKind_is _ _ _ _) ?_))
    have hlen : (firstS (xs.take i)).length ≤ i := Nat.le_trans (len_firstS _) (by rw [List.length_take]; omega)
    have hx : xs.take (i + 1) = xs.take i ++ [xs.getD i Str.empty] := by
      have hi2 : i < xs.length := by omega
      rw [List.take_succ, List.getD_eq_getElem?_getD, List.getElem?_eq_getElem hi2] <;> rfl
    refine setS_add_hashed (P := prog) (s := { s' with toks := s'.toks + 1 }) hs1 (by omega) fun h' hsb hS2 => ?_
    have hS3 : SetS w h' S (fun k => decide (k ∈ firstS (xs.take (i + 1)))) (firstS (xs.take (i + 1))).length := by
      refine hS2.congr (fun k => ?_) ?_
      · rw [hx]
        have e1 := mem_firstS k (xs.take i ++ [xs.getD i Str.empty])
        have e2 := mem_firstS k (xs.take i)
        rw [List.mem_append, List.mem_singleton, ← e2] at e1
        rw [Bool.eq_iff_iff, Bool.or_eq_true, decide_eq_true_eq, decide_eq_true_eq, decide_eq_true_eq]; exact e1
      · rw [hx, firstS_snoc]
        by_cases q : xs.getD i Str.empty ∈ firstS (xs.take i)
        · rw [if_pos q, if_pos (decide_eq_true q)]
        · rw [if_neg q, if_neg (by rw [decide_eq_true_eq]; exact q), List.length_append]
          rfl
    refine wpAny_pure ⟨plainId_quiet PyProof.Rows.F.plain_set_update_loop _, ih (i + 1) _ (by omega) hlt (W.frame _ s' _ _ hst1 (Nat.le_succ _) fun b hb o e => ?_) hS3 fun s2 mv2 hset2 => ?_⟩
    · rw [hsb.2 b (fun h : b = S => hSf (by rw [← h]; exact hb))]; exact e
    · refine hR s2 (Moved.trans W.gtrans ((mv.mono hsub).then_heap (Nat.le_succ _) fun b o hb e => ?_) mv2) hset2
      rw [hsb.2 b (fun h : b = S => hb (by rw [h]; exact List.mem_cons_self))]; exact e
end
section
variable {prog : Program} {w : World} {A : Around} {E : Value → Shared → Prop} {s : Shared}
theorem code_set_led1 (a : Value) {Q₁ : Value → Shared → Prop}
    (h : Q₁ (.ref s.heap.objs.size) { s with heap := s.heap.push { cls := .type "set", dict := none, data := .set #[] 0 (.fresh 0 0 (!w.params.followText "set-order")) } }) :
    codeAny (model prog w) A (.call (.builtin "set.__new__") ⟨[.type "set", a], []⟩) (wants Q₁ E) s := by
  refine codeAny_of_tree (?_ : wpAny _ A.in1 (do checkBuiltinCall "set.__new__" ⟨[.type "set", a], []⟩; again (.builtin "set.__new__" ⟨[.type "set", a], []⟩)) _ _ s)
  refine wpAny_bind (wpAny_of_eq (PySem.F.newCall_set_1 a) (wpAny_pure ⟨plainId_quiet PySem.F.plain_set_new _, codeAny_builtin PySem.F.entry_set_new ?_⟩))
  rw [Around.under_plainId PySem.F.plain_set_new _]; unfold Builtin.«set.__new__» Builtin.Frozenset.newClass
  have hsub := sub_set_self; obtain ⟨hp, g, d, tk, os⟩ := s
  dsimp only; wp_walk
  refine wpAny_askSetting (wpAny_pure ?_); dsimp only
  simp only [newObj]; refine wpAny_bind (wpAny_alloc (wpAny_pure ?_))
  exact wpAny_pure h
set_option maxHeartbeats 6400000 in
theorem call_setL {la : Addr} {itms : Array Value} {xs : List Str} {Q : Value → Shared → Prop}
    (hh : A.handled = none) (hla : s.heap.IsList la itms) (hitm : PyProof.Rows.StrsAre itms.toList xs) (hn1 : xs.length + 1 < scanBound)
    (h : ∀ (h' : Heap) (tk : Nat), SetS w h' s.heap.objs.size (fun k => decide (k ∈ firstS xs)) (firstS xs).length →
      (∀ b o, b < s.heap.objs.size → s.heap.get? b = some o → h'.get? b = some o) → Q (.ref s.heap.objs.size) { s with heap := h', toks := tk }) :
    wpAny (model prog w) A (call (.type "set") [.ref la]) Q E s := by
  obtain ⟨c, tll, hmr⟩ := PySem.F.called_set.mro
  have hmd := PySem.F.called_set.made
  have hsb0 := PySem.F.called_set.sub
  refine wpAny_call (codeAny_of_tree ?_)
  show wpAny _ _ (callAny (.type "set") _) _ _ _
  refine wpAny_pure ⟨Code.quiet_builtin _ (by decide +kernel), codeAny_builtin PySem.F.entry_type_call ?_⟩
  rw [Around.under_plain (weight_type_call_type "set" [.ref la] []) rfl]
  have hx1 := PySem.F.called_set.notType
  have hx2 := PySem.F.called_set.canCreate
  have htc0 := PySem.F.typeCall_set_1 (.ref la)
  repeat (any_goals (first | assumption | wp_step))

  refine codeAny_mono (code_set_led1 (.ref la) (E := E) (Q₁ := fun obj s₁ => ∃ ledd : Bool, ledd = !w.params.followText "set-order" ∧ obj = .ref s.heap.objs.size ∧ s₁ = { s with heap := s.heap.push { cls := .type "set", dict := none, data := .set #[] 0 (.fresh 0 0 ledd) } }) ⟨_, rfl, rfl, rfl⟩) fun r s₁ hr => ?_
  cases r with
  | error e => exact hr
  | ok fl =>
    cases fl with
    | ret obj =>
      obtain ⟨ledd, hledd, rfl, rfl⟩ := hr
      have hst0 : (s.heap.push { cls := .type "set", dict := none, data := .set #[] 0 (.fresh 0 0 ledd) }).get? s.heap.objs.size = some { cls := .type "set", dict := none, data := .set #[] 0 (.fresh 0 0 ledd) } := Heap.get?_push_size _ rfl
      have hty : Shared.TypeIs { s with heap := s.heap.push { cls := .type "set", dict := none, data := .set #[] 0 (.fresh 0 0 ledd) } } (.ref s.heap.objs.size) "set" := ⟨_, hst0, rfl⟩
      have hlk := PySem.F.called_set.init.lookup
      have hbd := PySem.F.called_set.init.bind (.ref s.heap.objs.size)
      repeat (any_goals (first | assumption | wp_step))

      refine codeAny_mono (codeAny_call_builtin (R := wants (fun r ss2 => r = .none ∧ ∃ h' tk, ss2 = { s with heap := h', toks := tk } ∧
          SetS w h' s.heap.objs.size (fun k => decide (k ∈ firstS xs)) (firstS xs).length ∧
          (∀ b o, b < s.heap.objs.size → s.heap.get? b = some o → h'.get? b = some o)) E) PySem.F.called_set.init.plain PySem.F.entry_set_init (check_set_init_1 hty ?_)) fun rr2 ss2 hrr2 => ?_
      · obtain ⟨obl, hobl, hcls, nlen, hdat⟩ := hla
        obtain ⟨occ, odd, odt, osl⟩ := obl
        simp only at hcls hdat
        subst hcls; subst hdat
        have hobm : (s.heap.push { cls := .type "set", dict := none, data := .set #[] 0 (.fresh 0 0 ledd) }).get? la = some { cls := .type "list", dict := odd, data := .seq itms nlen, slots := osl } := Heap.get?_push_of_some _ hobl
        have hsq1 := PySem.F.sub_list_set
        have hsq2 := PySem.F.sub_list_frozenset
        have hneq : (Value.type "list" == Value.type "dict") = false := by decide
        have hlis : (s.heap.push { cls := .type "set", dict := none, data := .set #[] 0 (.fresh 0 0 ledd) }).IsList la itms := ⟨_, hobm, rfl, nlen, rfl⟩
        unfold Builtin.«set.__init__» noKeywords Builtin.Frozenset.updateFrom
        generalize hPIt : pyIter = PIt
        wp_walk
        subst hPIt

        refine wpAny_pyIter_list hlis ?_
        refine wpAny_bind (wpAny_runValue ?_)
        have hltS : la < s.heap.objs.size := Heap.lt_size hobl
        have hnd3 : A.in1.in1.in1.handled = none := by simp [hh]
        have hnei : la ≠ (s.heap.push { cls := .type "set", dict := none, data := .set #[] 0 (.fresh 0 0 ledd) }).objs.size := by
          rw [Heap.size_push]; exact Nat.ne_of_lt (Nat.lt_succ_of_lt hltS)
        have hsfp : s.heap.objs.size ∉ [(s.heap.push { cls := .type "set", dict := none, data := .set #[] 0 (.fresh 0 0 ledd) }).objs.size, la] := by
          rw [Heap.size_push]; simp only [List.mem_cons, List.mem_singleton, List.not_mem_nil, or_false, not_or]
          exact ⟨Nat.ne_of_lt (Nat.lt_succ_self _), Nat.ne_of_gt hltS⟩
        have hsiz : xs.length = itms.size := by rw [← StrsAre.len_eq hitm, Array.length_toList]
        have hvals : ∀ (i : Nat) (v : Value), itms[i]? = some v → ∃ t, v = .str (xs.getD i Str.empty) t := fun i v hv => SS.strs_at hitm i v (by rw [Array.getElem?_toList]; exact hv)
        refine loopSet ((Walks.list hnd3 _ la hnei itms).toS) s.heap.objs.size
          hsfp xs hsiz (by rw [← hsiz]; exact hn1) hvals (itms.size - 0) 0 _ (by omega) (Nat.zero_le _)
          ⟨⟨_, Heap.get?_push_size _ rfl, rfl, rfl⟩, (hlis.push _)⟩ ?hS0 ?hR
        case hS0 =>
          subst hledd; exact (setS_fresh w).at fun o e => Heap.get?_push_of_some _ e
        case hR =>
          intro s' hmv hst1
          obtain ⟨h', g', d', tk', os'⟩ := s'
          have eg0 : g' = s.gens := hmv.gens
          have ed0 : d' = s.drawn := hmv.drawn
          have eo0 : os' = s.os := hmv.os
          subst eg0; subst ed0; subst eo0
          show wpAny _ _ _ _ _ _
          refine wpAny_pure ?_
          show wpAny _ _ (ret Value.none) _ _ _
          refine wpAny_pure ⟨rfl, h', tk', rfl, hst1, fun b o hb e => ?_⟩
          have hbb1 : b ≠ s.heap.objs.size := Nat.ne_of_lt hb
          have hbb2 : b ≠ (s.heap.push { cls := .type "set", dict := none, data := .set #[] 0 (.fresh 0 0 ledd) }).objs.size := by
            rw [Heap.size_push]; exact Nat.ne_of_lt (Nat.lt_succ_of_lt hb)
          exact hmv.heap b o (by simp only [List.mem_cons, List.mem_singleton, List.not_mem_nil, or_false, not_or]; exact ⟨hbb1, hbb2⟩) (Heap.get?_push_of_some _ (Heap.get?_push_of_some _ e))

      · cases rr2 with
        | error e => exact hrr2
        | ok fl₂ =>
          cases fl₂ with
          | ret r =>
            obtain ⟨rfl, h', tk, rfl, hst1, hkp1⟩ := hrr2
            repeat (any_goals (first | assumption | wp_step))
            exact h _ _ hst1 hkp1
          | _ => exact hrr2.elim
    | _ => exact hr.elim

set_option maxHeartbeats 6400000 in
theorem call_setT {la : Addr} {itms : Array Value} {xs : List Str} {Q : Value → Shared → Prop}
    (hh : A.handled = none) (hla : s.heap.IsTuple la itms) (hitm : PyProof.Rows.StrsAre itms.toList xs) (hn1 : xs.length + 1 < scanBound)
    (h : ∀ (h' : Heap) (tk : Nat), SetS w h' s.heap.objs.size (fun k => decide (k ∈ firstS xs)) (firstS xs).length →
      (∀ b o, b < s.heap.objs.size → s.heap.get? b = some o → h'.get? b = some o) → Q (.ref s.heap.objs.size) { s with heap := h', toks := tk }) :
    wpAny (model prog w) A (call (.type "set") [.ref la]) Q E s := by
  obtain ⟨c, tll, hmr⟩ := PySem.F.called_set.mro
  have hmd := PySem.F.called_set.made
  have hsb0 := PySem.F.called_set.sub
  refine wpAny_call (codeAny_of_tree ?_)
  show wpAny _ _ (callAny (.type "set") _) _ _ _
  refine wpAny_pure ⟨Code.quiet_builtin _ (by decide +kernel), codeAny_builtin PySem.F.entry_type_call ?_⟩
  rw [Around.under_plain (weight_type_call_type "set" [.ref la] []) rfl]
  have hx1 := PySem.F.called_set.notType
  have hx2 := PySem.F.called_set.canCreate
  have htc0 := PySem.F.typeCall_set_1 (.ref la)
  repeat (any_goals (first | assumption | wp_step))

  refine codeAny_mono (code_set_led1 (.ref la) (E := E) (Q₁ := fun obj s₁ => ∃ ledd : Bool, ledd = !w.params.followText "set-order" ∧ obj = .ref s.heap.objs.size ∧ s₁ = { s with heap := s.heap.push { cls := .type "set", dict := none, data := .set #[] 0 (.fresh 0 0 ledd) } }) ⟨_, rfl, rfl, rfl⟩) fun r s₁ hr => ?_
  cases r with
  | error e => exact hr
  | ok fl =>
    cases fl with
    | ret obj =>
      obtain ⟨ledd, hledd, rfl, rfl⟩ := hr
      have hst0 : (s.heap.push { cls := .type "set", dict := none, data := .set #[] 0 (.fresh 0 0 ledd) }).get? s.heap.objs.size = some { cls := .type "set", dict := none, data := .set #[] 0 (.fresh 0 0 ledd) } := Heap.get?_push_size _ rfl
      have hty : Shared.TypeIs { s with heap := s.heap.push { cls := .type "set", dict := none, data := .set #[] 0 (.fresh 0 0 ledd) } } (.ref s.heap.objs.size) "set" := ⟨_, hst0, rfl⟩
      have hlk := PySem.F.called_set.init.lookup
      have hbd := PySem.F.called_set.init.bind (.ref s.heap.objs.size)
      repeat (any_goals (first | assumption | wp_step))

      refine codeAny_mono (codeAny_call_builtin (R := wants (fun r ss2 => r = .none ∧ ∃ h' tk, ss2 = { s with heap := h', toks := tk } ∧
          SetS w h' s.heap.objs.size (fun k => decide (k ∈ firstS xs)) (firstS xs).length ∧
          (∀ b o, b < s.heap.objs.size → s.heap.get? b = some o → h'.get? b = some o)) E) PySem.F.called_set.init.plain PySem.F.entry_set_init (check_set_init_1 hty ?_)) fun rr2 ss2 hrr2 => ?_
      · obtain ⟨obl, hobl, hcls, nlen, hdat⟩ := hla
        obtain ⟨occ, odd, odt, osl⟩ := obl
        simp only at hcls hdat
        subst hcls; subst hdat
        have hobm : (s.heap.push { cls := .type "set", dict := none, data := .set #[] 0 (.fresh 0 0 ledd) }).get? la = some { cls := .type "tuple", dict := odd, data := .seq itms nlen, slots := osl } := Heap.get?_push_of_some _ hobl
        have hsq1 := PySem.F.sub_tuple_set
        have hsq2 := PySem.F.sub_tuple_frozenset
        have hneq : (Value.type "tuple" == Value.type "dict") = false := by decide
        have hlis : (s.heap.push { cls := .type "set", dict := none, data := .set #[] 0 (.fresh 0 0 ledd) }).IsTuple la itms := ⟨_, hobm, rfl, nlen, rfl⟩
        unfold Builtin.«set.__init__» noKeywords Builtin.Frozenset.updateFrom
        generalize hPIt : pyIter = PIt
        wp_walk
        subst hPIt

        refine wpAny_pyIter_tuple hlis ?_
        refine wpAny_bind (wpAny_runValue ?_)
        have hltS : la < s.heap.objs.size := Heap.lt_size hobl
        have hnd3 : A.in1.in1.in1.handled = none := by simp [hh]
        have hnei : la ≠ (s.heap.push { cls := .type "set", dict := none, data := .set #[] 0 (.fresh 0 0 ledd) }).objs.size := by
          rw [Heap.size_push]; exact Nat.ne_of_lt (Nat.lt_succ_of_lt hltS)
        have hsfp : s.heap.objs.size ∉ [(s.heap.push { cls := .type "set", dict := none, data := .set #[] 0 (.fresh 0 0 ledd) }).objs.size, la] := by
          rw [Heap.size_push]; simp only [List.mem_cons, List.mem_singleton, List.not_mem_nil, or_false, not_or]
          exact ⟨Nat.ne_of_lt (Nat.lt_succ_self _), Nat.ne_of_gt hltS⟩
        have hsiz : xs.length = itms.size := by rw [← StrsAre.len_eq hitm, Array.length_toList]
        have hvals : ∀ (i : Nat) (v : Value), itms[i]? = some v → ∃ t, v = .str (xs.getD i Str.empty) t := fun i v hv => SS.strs_at hitm i v (by rw [Array.getElem?_toList]; exact hv)
        refine loopSet ((Walks.tuple hnd3 _ la hnei itms).toS) s.heap.objs.size
          hsfp xs hsiz (by rw [← hsiz]; exact hn1) hvals (itms.size - 0) 0 _ (by omega) (Nat.zero_le _)
          ⟨⟨_, Heap.get?_push_size _ rfl, rfl, rfl⟩, (hlis.push _)⟩ ?hS0 ?hR
        case hS0 =>
          subst hledd; exact (setS_fresh w).at fun o e => Heap.get?_push_of_some _ e
        case hR =>
          intro s' hmv hst1
          obtain ⟨h', g', d', tk', os'⟩ := s'
          have eg0 : g' = s.gens := hmv.gens
          have ed0 : d' = s.drawn := hmv.drawn
          have eo0 : os' = s.os := hmv.os
          subst eg0; subst ed0; subst eo0
          show wpAny _ _ _ _ _ _
          refine wpAny_pure ?_
          show wpAny _ _ (ret Value.none) _ _ _
          refine wpAny_pure ⟨rfl, h', tk', rfl, hst1, fun b o hb e => ?_⟩
          have hbb1 : b ≠ s.heap.objs.size := Nat.ne_of_lt hb
          have hbb2 : b ≠ (s.heap.push { cls := .type "set", dict := none, data := .set #[] 0 (.fresh 0 0 ledd) }).objs.size := by
            rw [Heap.size_push]; exact Nat.ne_of_lt (Nat.lt_succ_of_lt hb)
          exact hmv.heap b o (by simp only [List.mem_cons, List.mem_singleton, List.not_mem_nil, or_false, not_or]; exact ⟨hbb1, hbb2⟩) (Heap.get?_push_of_some _ (Heap.get?_push_of_some _ e))

      · cases rr2 with
        | error e => exact hrr2
        | ok fl₂ =>
          cases fl₂ with
          | ret r =>
            obtain ⟨rfl, h', tk, rfl, hst1, hkp1⟩ := hrr2
            repeat (any_goals (first | assumption | wp_step))
            exact h _ _ hst1 hkp1
          | _ => exact hrr2.elim
    | _ => exact hr.elim

end
end G

namespace G
open PySem PySem.Spec PyProof.Rows L2
/-! ### built-in names -/
structure Bln (X : Cx) (x : Str) : Prop where
  gl : Gl X x
  mg : X.mg x = none
abbrev BOp := List D → Store → Res D
def CaG (K : PySem.W.Frag) (W : WX) (r : List V → Hp → VK → Prop) (op : BOp) : Prop := ∀ n ρ S H σ ds vs Q, Good K ρ S H → RpL K ρ H ds vs → Rest (Rp K) K n ρ S H σ Q W (op ds S) → r vs H Q
def dBi (op : BOp) (da : DA) : DE := fun n δ S => (da n δ S).bind fun ds S1 => op ds S1
theorem tE.bi {K : PySem.W.Frag} {W : WX} {r : List V → Hp → VK → Prop} {op : BOp} {da : DA} (ho : CaG K W r op) {σ : L2.St} {H : Hp} {Q : VK} (h : tE K (dBi op da) W σ H Q) : tCB r (tA K da W) σ H Q := by
  obtain ⟨n, ρ, S, δ, g, en, h⟩ := h
  exact ⟨n, ρ, S, δ, g, en, (Rest.bind (rel' := RpL K) en h).mono fun vs H1 ⟨ρ1, S1, d1, g1, e1, r1, f1, h1⟩ => ho n ρ1 S1 H1 σ d1 vs Q g1 r1 h1⟩
section
variable {X : Cx} {W : WX} {e : Expr} {es : List Expr} {da : DA} {r : List V → Hp → VK → Prop} {op : BOp} {x : Str} {p pos : Pos} {id T : String}
theorem se_bi (b : Bln X x) (hc : CallR X (.builtin id) r) (ho : CaG X.K W r op) (ha : SA X W (e :: es) da) (hv : bootBuiltins x = some (.builtin id)) (hn : x ≠ "__name__" := by decide) (hdb : (x == ("__debug__" : Str)) = false := by decide)
    (he : starEach (e :: es) X.env = (false, eval e X.env) :: starEach es X.env := by rfl) (hpl : (backTo pos (starEach es X.env)).any (·.1) = false := by rfl) : SE X W (.Call (.Name x p) (e :: es) [] pos) (dBi op da) :=
  PE.imp (pe_callB hc b.gl b.mg hv ha hn hdb he hpl) fun _ _ _ h => tE.bi ho h
theorem se_ty (b : Bln X x) (hc : CallR X (.type T) r) (ho : CaG X.K W r op) (ha : SA X W (e :: es) da) (hv : bootBuiltins x = some (.type T)) (hn : x ≠ "__name__" := by decide) (hdb : (x == ("__debug__" : Str)) = false := by decide)
    (he : starEach (e :: es) X.env = (false, eval e X.env) :: starEach es X.env := by rfl) (hpl : (backTo pos (starEach es X.env)).any (·.1) = false := by rfl) : SE X W (.Call (.Name x p) (e :: es) [] pos) (dBi op da) :=
  PE.imp (pe_callTy hc b.gl b.mg hv ha hn hdb he hpl) fun _ _ _ h => tE.bi ho h
end
/-! ### what they do -/
def bAbs : BOp := fun ds S => match ds with
  | [.int i] => .ok (.int (if i < 0 then -i else i)) S
  | _ => .bad
def bMax2 : BOp := fun ds S => match ds with
  | [.int i, .int j] => .ok (.int (if j > i then j else i)) S
  | _ => .bad
def bMin2 : BOp := fun ds S => match ds with
  | [.int i, .int j] => .ok (.int (if j < i then j else i)) S
  | _ => .bad
def bInt : BOp := fun ds S => match ds with
  | [.int i] => .ok (.int i) S
  | [.bl k] => .ok (.int (if k then 1 else 0)) S
  | _ => .bad
def bBool : BOp := fun ds S => match ds with
  | [.int i] => .ok (.bl (i != 0)) S
  | [.bl k] => .ok (.bl k) S
  | _ => .bad
def bStr : BOp := fun ds S => match ds with
  | [.int i] => if i.natAbs.log2 < 1920 then .ok (.str (Str.ofString (toString i))) S else .bad
  | [.str a] => .ok (.str a) S
  | _ => .bad
/-- the items of a list, a tuple -/
def itsD (S : Store) : D → Option (List D)
  | .tup ds => some ds
  | d => seqL S d
def bLen : BOp := fun ds S => match ds with
  | [.str a] => if a.length ≤ sizeLine then .ok (.int a.length) S else .bad
  | [d] => match itsD S d with
    | some xs => .ok (.int xs.length) S
    | none => .bad
  | _ => .bad
def bTuple : BOp := fun ds S => match ds with
  | [.tup xs] => .ok (.tup xs) S
  | [d] => match seqL S d with
    | some xs => .ok (.tup xs) S
    | none => .bad
  | _ => .bad
def bList : BOp := fun ds S => match ds with
  | [d] => match itsD S d with
    | some xs => .ok (.lst xs) S
    | none => .bad
  | _ => .bad
def bListR : BOp := fun ds S => match ds with
  | [d] => match itsD S d with
    | some xs => .ok (.ref S.length) (S ++ [.lst xs])
    | none => .bad
  | _ => .bad
/-- truths -/
def blsD : List D → Option (List Bool)
  | [] => some []
  | .bl b :: r => (blsD r).map (b :: ·)
  | _ :: _ => none
def bAll : BOp := fun ds S => match ds with
  | [d] => match seqL S d with
    | some xs => match blsD xs with
      | some bs => .ok (.bl (bs.all id)) S
      | none => .bad
    | none => .bad
  | _ => .bad
def bAny : BOp := fun ds S => match ds with
  | [d] => match seqL S d with
    | some xs => match blsD xs with
      | some bs => .ok (.bl (bs.any id)) S
      | none => .bad
    | none => .bad
  | _ => .bad
def intsD : List D → Option (List Int)
  | [] => some []
  | .int b :: r => (intsD r).map (b :: ·)
  | _ :: _ => none
def strsD : List D → Option (List Str)
  | [] => some []
  | .str b :: r => (strsD r).map (b :: ·)
  | _ :: _ => none
def bSum : BOp := fun ds S => match ds with
  | [d] => match seqL S d with
    | some xs => match intsD xs with
      | some bs => .ok (.int bs.sum) S
      | none => .bad
    | none => .bad
  | _ => .bad
section
variable {K : PySem.W.Frag} {W : WX} {ρ : Ad} {S : Store} {H : Hp} {n : Nat} {σ : L2.St} {Q : VK} {d : D} {v : V} {vs : List V}
theorem RpL.sole (r : RpL K ρ H [d] vs) : ∃ v, vs = [v] ∧ Rp K ρ H d v := by
  obtain ⟨v, ws, e, r1, r2⟩ := r
  cases (show ws = [] from r2)
  exact ⟨v, e, r1⟩
theorem RpL.duo {d' : D} (r : RpL K ρ H [d, d'] vs) : ∃ v v', vs = [v, v'] ∧ Rp K ρ H d v ∧ Rp K ρ H d' v' := by
  obtain ⟨v, ws, e, r1, r2⟩ := r
  obtain ⟨v', e', r3⟩ := r2.sole
  subst e'
  exact ⟨v, v', e, r1, r3⟩
theorem its_rp (g : Good K ρ S H) {xs : List D} (h : Rp K ρ H d v) (e : itsD S d = some xs) : ∃ a ys, v = .ref a ∧ (SqL K H a ys ∨ SqT K H a ys) ∧ RpL K ρ H xs ys := by
  unfold itsD at e
  split at e
  · cases e
    obtain ⟨a, ys, e1, e2, e3⟩ := tup_rp h
    exact ⟨a, ys, e1, .inr e2, e3⟩
  · obtain ⟨a, ys, e1, e2, e3⟩ := seqL_rp g h e
    exact ⟨a, ys, e1, .inl (.inl e2), e3⟩
theorem bls_rp : ∀ {xs : List D} {bs : List Bool} {ys : List V}, RpL K ρ H xs ys → blsD xs = some bs → ys = bs.map V.bl
  | [], _, _, r, e => by cases e; exact r
  | x :: xs, bs, _, ⟨v, ws, e1, r1, r2⟩, e => by
    cases x <;> simp only [blsD, reduceCtorEq] at e
    obtain ⟨b2, h1, h2⟩ := Option.map_eq_some_iff.mp e
    subst h2 e1
    cases r1
    rw [bls_rp r2 h1]
    rfl
theorem ints_rp : ∀ {xs : List D} {bs : List Int} {ys : List V}, RpL K ρ H xs ys → intsD xs = some bs → ys = bs.map V.int
  | [], _, _, r, e => by cases e; exact r
  | x :: xs, bs, _, ⟨v, ws, e1, r1, r2⟩, e => by
    cases x <;> simp only [intsD, reduceCtorEq] at e
    obtain ⟨b2, h1, h2⟩ := Option.map_eq_some_iff.mp e
    subst h2 e1
    cases r1
    rw [ints_rp r2 h1]
    rfl
theorem strs_rp : ∀ {xs : List D} {bs : List Str} {ys : List V}, RpL K ρ H xs ys → strsD xs = some bs → ys = bs.map V.str
  | [], _, _, r, e => by cases e; exact r
  | x :: xs, bs, _, ⟨v, ws, e1, r1, r2⟩, e => by
    cases x <;> simp only [strsD, reduceCtorEq] at e
    obtain ⟨b2, h1, h2⟩ := Option.map_eq_some_iff.mp e
    subst h2 e1
    cases r1
    rw [strs_rp r2 h1]
    rfl
theorem rp_strs : ∀ {bs : List Str}, RpL K ρ H (bs.map D.str) (bs.map V.str)
  | [] => rfl
  | b :: bs => ⟨_, _, rfl, rfl, rp_strs⟩
theorem rp_ints : ∀ {bs : List Int}, RpL K ρ H (bs.map D.int) (bs.map V.int)
  | [] => rfl
  | b :: bs => ⟨_, _, rfl, rfl, rp_ints⟩
theorem ca_abs : CaG K W (fun xs H Q => ∃ i, xs = [.int i] ∧ Q (.int (if i < 0 then -i else i)) H) bAbs := fun n ρ S H σ ds vs Q g r h => by
  unfold bAbs at h
  split at h
  · obtain ⟨v, rfl, r1⟩ := r.sole
    cases r1
    exact ⟨_, rfl, h.val g rfl⟩
  · exact False.elim h
theorem ca_max2 : CaG K W (fun xs H Q => ∃ i j, xs = [.int i, .int j] ∧ Q (.int (if j > i then j else i)) H) bMax2 := fun n ρ S H σ ds vs Q g r h => by
  unfold bMax2 at h
  split at h
  · obtain ⟨v, v', rfl, r1, r2⟩ := r.duo
    cases r1; cases r2
    exact ⟨_, _, rfl, h.val g rfl⟩
  · exact False.elim h
theorem ca_min2 : CaG K W (fun xs H Q => ∃ i j, xs = [.int i, .int j] ∧ Q (.int (if j < i then j else i)) H) bMin2 := fun n ρ S H σ ds vs Q g r h => by
  unfold bMin2 at h
  split at h
  · obtain ⟨v, v', rfl, r1, r2⟩ := r.duo
    cases r1; cases r2
    exact ⟨_, _, rfl, h.val g rfl⟩
  · exact False.elim h
theorem ca_int : CaG K W (fun xs H Q => (∃ i, xs = [.int i] ∧ Q (.int i) H) ∨ ∃ k, xs = [.bl k] ∧ Q (.int (if k then 1 else 0)) H) bInt := fun n ρ S H σ ds vs Q g r h => by
  unfold bInt at h
  split at h
  · obtain ⟨v, rfl, r1⟩ := r.sole
    cases r1
    exact .inl ⟨_, rfl, h.val g rfl⟩
  · obtain ⟨v, rfl, r1⟩ := r.sole
    cases r1
    exact .inr ⟨_, rfl, h.val g rfl⟩
  · exact False.elim h
theorem ca_bool : CaG K W (fun xs H Q => (∃ i, xs = [.int i] ∧ Q (.bl (i != 0)) H) ∨ ∃ k, xs = [.bl k] ∧ Q (.bl k) H) bBool := fun n ρ S H σ ds vs Q g r h => by
  unfold bBool at h
  split at h
  · obtain ⟨v, rfl, r1⟩ := r.sole
    cases r1
    exact .inl ⟨_, rfl, h.val g rfl⟩
  · obtain ⟨v, rfl, r1⟩ := r.sole
    cases r1
    exact .inr ⟨_, rfl, h.val g rfl⟩
  · exact False.elim h
theorem ca_str : CaG K W (fun xs H Q => (∃ i, xs = [.int i] ∧ i.natAbs.log2 < 1920 ∧ Q (.str (toString i)) H) ∨ ∃ a, xs = [.str a] ∧ Q (.str a) H) bStr := fun n ρ S H σ ds vs Q g r h => by
  unfold bStr at h
  split at h
  · obtain ⟨v, rfl, r1⟩ := r.sole
    cases r1
    split at h
    · rename_i hl
      exact .inl ⟨_, rfl, hl, h.val g rfl⟩
    · exact False.elim h
  · obtain ⟨v, rfl, r1⟩ := r.sole
    cases r1
    exact .inr ⟨_, rfl, h.val g rfl⟩
  · exact False.elim h
theorem ca_len : CaG K W (fun xs H Q => ∃ x n, xs = [x] ∧ LenV K x H n ∧ Q (.int n) H) bLen := fun n ρ S H σ ds vs Q g r h => by
  unfold bLen at h
  split at h
  · obtain ⟨v, rfl, r1⟩ := r.sole
    cases r1
    split at h
    · rename_i hl
      exact ⟨_, _, rfl, ⟨hl, rfl⟩, h.val g rfl⟩
    · exact False.elim h
  · obtain ⟨v, rfl, r1⟩ := r.sole
    split at h
    · rename_i xs hx
      obtain ⟨a, ys, rfl, hs, ry⟩ := its_rp g r1 hx
      refine ⟨_, ys.length, rfl, ?_, by rw [ry.length]; exact h.val g rfl⟩
      rcases hs with hs | hs
      · exact .inl ⟨ys, hs, rfl⟩
      · exact .inr ⟨ys, hs, rfl⟩
    · exact False.elim h
  · exact False.elim h
theorem ca_tuple : CaG K W (fun xs H Q => ∃ p ys, xs = [.ref p] ∧ ((SqL K H p ys ∧ ∀ l, H l = none → Q (.ref l) (upd H l (.tup ys))) ∨ (SqT K H p ys ∧ Q (.ref p) H))) bTuple := fun n ρ S H σ ds vs Q g r h => by
  unfold bTuple at h
  split at h
  · obtain ⟨v, rfl, r1⟩ := r.sole
    obtain ⟨a, ys, rfl, hs, ry⟩ := tup_rp r1
    exact ⟨a, ys, rfl, .inr ⟨hs, h.val g r1⟩⟩
  · obtain ⟨v, rfl, r1⟩ := r.sole
    split at h
    · rename_i xs hx
      obtain ⟨a, ys, rfl, hs, ry⟩ := seqL_rp g r1 hx
      exact ⟨a, ys, rfl, .inl ⟨.inl hs, fun l hl => Rest.newT (σ := σ) (W := W) h g ry hl⟩⟩
    · exact False.elim h
  · exact False.elim h
theorem ca_list : CaG K W (fun xs H Q => ∃ p ys, xs = [.ref p] ∧ (SqL K H p ys ∨ SqT K H p ys) ∧ ∀ l, H l = none → Q (.ref l) (upd H l (.lst ys))) bList := fun n ρ S H σ ds vs Q g r h => by
  unfold bList at h
  split at h
  · obtain ⟨v, rfl, r1⟩ := r.sole
    split at h
    · rename_i xs hx
      obtain ⟨a, ys, rfl, hs, ry⟩ := its_rp g r1 hx
      exact ⟨a, ys, rfl, hs, fun l hl => Rest.newL (σ := σ) (W := W) h g ry hl⟩
    · exact False.elim h
  · exact False.elim h
theorem ca_listR : CaG K W (fun xs H Q => ∃ p ys, xs = [.ref p] ∧ (SqL K H p ys ∨ SqT K H p ys) ∧ ∀ l, H l = none → Q (.ref l) (upd H l (.lst ys))) bListR := fun n ρ S H σ ds vs Q g r h => by
  unfold bListR at h
  split at h
  · obtain ⟨v, rfl, r1⟩ := r.sole
    split at h
    · rename_i xs hx
      obtain ⟨a, ys, rfl, hs, ry⟩ := its_rp g r1 hx
      exact ⟨a, ys, rfl, hs, fun l hl => Rest.newR (σ := σ) (W := W) h g hl ⟨ys, upd_same, RpL.kp (Kp.push hl) _ _ ry⟩⟩
    · exact False.elim h
  · exact False.elim h
theorem ca_all : CaG K W (rAll K) bAll := fun n ρ S H σ ds vs Q g r h => by
  unfold bAll at h
  split at h
  · obtain ⟨v, rfl, r1⟩ := r.sole
    split at h
    · rename_i xs hx
      split at h
      · rename_i bs hb
        obtain ⟨a, ys, rfl, hs, ry⟩ := seqL_rp g r1 hx
        have e := bls_rp ry hb
        subst e
        exact ⟨a, bs, rfl, .inl hs, h.val g rfl⟩
      · exact False.elim h
    · exact False.elim h
  · exact False.elim h
theorem ca_any : CaG K W (rAny K) bAny := fun n ρ S H σ ds vs Q g r h => by
  unfold bAny at h
  split at h
  · obtain ⟨v, rfl, r1⟩ := r.sole
    split at h
    · rename_i xs hx
      split at h
      · rename_i bs hb
        obtain ⟨a, ys, rfl, hs, ry⟩ := seqL_rp g r1 hx
        have e := bls_rp ry hb
        subst e
        exact ⟨a, bs, rfl, .inl hs, h.val g rfl⟩
      · exact False.elim h
    · exact False.elim h
  · exact False.elim h
theorem ca_sum : CaG K W (rSum K) bSum := fun n ρ S H σ ds vs Q g r h => by
  unfold bSum at h
  split at h
  · obtain ⟨v, rfl, r1⟩ := r.sole
    split at h
    · rename_i xs hx
      split at h
      · rename_i bs hb
        obtain ⟨a, ys, rfl, hs, ry⟩ := seqL_rp g r1 hx
        have e := ints_rp ry hb
        subst e
        exact ⟨a, bs, rfl, .inl hs, h.val g rfl⟩
      · exact False.elim h
    · exact False.elim h
  · exact False.elim h
end
/-! ### isinstance -/
/-- which class a value is of: an own one (true), a built-in one -/
def tyD (S : Store) : D → Option (Bool × String)
  | .non => some (false, "NoneType")
  | .bl _ => some (false, "bool")
  | .int _ => some (false, "int")
  | .str _ => some (false, "str")
  | .tup _ => some (false, "tuple")
  | .lst _ => some (false, "list")
  | .dct _ => some (false, "dict")
  | .obj C _ => some (true, C)
  | .ref i => match S[i]? with
    | some (.lst _) => some (false, "list")
    | some (.dct _) => some (false, "dict")
    | some (.ins C _) => some (true, C)
    | _ => none
  | _ => none
abbrev TyK := Bool × String
def valK (K : PySem.W.Frag) (k : TyK) : Value := match k with
  | (true, C) => .ref (He.ga K (Str.ofString C))
  | (false, n) => .type n
/-- the class C's instances tell their class -/
structure OwnTy (K : PySem.W.Frag) (C : Addr) : Prop where
  cl : Cls K C
  ha : PySem.W.findIn K (.ref C) "__class__" = some (some (.builtin "object.__class__"))
  hn : PySem.W.specialIn K (.builtin "object.__class__") "__get__" = some (some (.builtin "getset_descriptor.__get__"))
  htk : PySem.W.takesIn K (.builtin "object.__class__") = some true
  hm : PySem.W.mroIn K C (.type "object") = some true
abbrev IsTb := List ((TyK × TyK) × Bool)
structure IsOk1 (K : PySem.W.Frag) (p : (TyK × TyK) × Bool) : Prop where
  kit : PySem.W.kitOne K (valK K p.1.1) (valK K p.1.2) = some p.2
  own : p.1.1.1 = true → OwnTy K (He.ga K (Str.ofString p.1.1.2))
def IsOk (K : PySem.W.Frag) (tb : IsTb) : Prop := ∀ p ∈ tb, IsOk1 K p
def clsD : D → Option TyK
  | .ty n => some (false, n)
  | .glo C => some (true, C)
  | _ => none
def bIsi (tb : IsTb) : BOp := fun ds S => match ds with
  | [x, c] => match tyD S x, clsD c with
    | some t, some k => match tb.lookup (t, k) with
      | some b => .ok (.bl b) S
      | none => .bad
    | _, _ => .bad
  | _ => .bad
section
variable {K : PySem.W.Frag} {W : WX} {ρ : Ad} {S : Store} {H : Hp}
theorem cls_rp {c : D} {v : V} {k : TyK} (h : Rp K ρ H c v) (e : clsD c = some k) : ClsV v (valK K k) := by
  cases c <;> simp only [clsD, reduceCtorEq, Option.some.injEq] at e
  · subst e; cases h; exact .ty _
  · subst e; cases h; exact .own _
theorem ty_rp (g : Good K ρ S H) {d : D} {v : V} {k : TyK} (h : Rp K ρ H d v) (e : tyD S d = some k) (hk : k.1 = true → OwnTy K (He.ga K (Str.ofString k.2))) : TyX K H v (valK K k) := by
  cases d <;> simp only [tyD, reduceCtorEq, Option.some.injEq] at e
  case non => subst e; cases h; exact .base .non
  case bl => subst e; cases h; exact .base (.bl _)
  case int => subst e; cases h; exact .base (.int _)
  case str => subst e; cases h; exact .base (.str _)
  case tup =>
    subst e
    obtain ⟨a, vs, rfl, t, _⟩ := h
    rcases t with ⟨t, _⟩ | ⟨o, its, n, h1, h2, _⟩
    · rcases t with t | ⟨o, t⟩
      · exact .base (.tup t)
      · exact .fTuple t
    · exact .kTuple h1 h2
  case lst =>
    subst e
    obtain ⟨a, vs, rfl, t, _⟩ := h
    rcases t.1 with t | ⟨o, t⟩
    · exact .base (.lst t)
    · exact .base (.frz t)
  case dct =>
    subst e
    obtain ⟨a, vs, rfl, t, _⟩ := h
    rcases t with t | ⟨o, t⟩
    · exact .base (.dK t)
    · exact .fDict t
  case obj =>
    subst e
    obtain ⟨a, dx, gs, rfl, t, _⟩ := h
    have z := hk rfl
    exact .base (.ins t z.cl z.ha z.hn z.htk z.hm)
  case ref i =>
    obtain ⟨a, h1, rfl⟩ := h
    split at e
    · rename_i ds hs
      cases e
      obtain ⟨vs, t, _⟩ := g.at h1 hs
      exact .base (.lst t)
    · rename_i ds hs
      cases e
      obtain ⟨vs, t, _⟩ := g.at h1 hs
      exact .base (.dK t)
    · rename_i C fs hs
      cases e
      obtain ⟨dx, gs, t, _⟩ := g.at h1 hs
      have z := hk rfl
      exact .base (.ins t z.cl z.ha z.hn z.htk z.hm)
    · cases e
theorem look_mem' {α β : Type} [BEq α] [LawfulBEq α] {C : α} {a : β} : ∀ {tb : List (α × β)}, tb.lookup C = some a → (C, a) ∈ tb
  | [], h => by cases h
  | (k, b) :: tb, h => by
    rw [List.lookup_cons] at h
    split at h
    · rename_i q
      cases h
      rw [beq_iff_eq.mp q]
      exact List.mem_cons_self
    · exact List.mem_cons_of_mem _ (look_mem' h)
theorem ca_isi {tb : IsTb} (ht : IsOk K tb) : CaG K W (rIsi K) (bIsi tb) := fun n ρ S H σ ds vs Q g r h => by
  unfold bIsi at h
  split at h
  · obtain ⟨v, v', rfl, r1, r2⟩ := r.duo
    split at h
    · rename_i t k e1 e2
      split at h
      · rename_i b hb
        have z := ht _ (look_mem' hb)
        exact ⟨v, v', _, _, b, rfl, cls_rp r2 e2, ty_rp g r1 e1 z.own, z.kit, h.val g rfl⟩
      · exact False.elim h
    · exact False.elim h
  · exact False.elim h
end
/-! ### classes, defs, built-in types as values -/
section
variable {X : Cx} {W : WX} {x : Str} {pos : Pos}
theorem se_glo {C : String} {x : Str} (hg : Gl X x) (hm : X.mg x = some (.ref (He.ga X.K (Str.ofString C)))) (hd : (x == ("__debug__" : Str)) = false := by decide) : SE X W (.Name x pos) (dC (.glo C)) :=
  PE.imp (pe_glob hg hm (v := .ref (He.ga X.K (Str.ofString C))) rfl hd) fun σ H Q ⟨n, ρ, S, δ, g, _, r⟩ => r.val g rfl
theorem se_tyn {T : String} (b : Bln X x) (hv : bootBuiltins x = some (.type T)) (hn : x ≠ "__name__" := by decide) (hd : (x == ("__debug__" : Str)) = false := by decide) : SE X W (.Name x pos) (dC (.ty T)) :=
  PE.imp (pe_bltn b.gl b.mg hv (v := .ty T) rfl hn hd) fun σ H Q ⟨n, ρ, S, δ, g, _, r⟩ => r.val g rfl
/-- a constant of the module -/
theorem se_gint {i : Int} (hg : Gl X x) (hm : ∃ t, X.mg x = some (.int i t)) (hd : (x == ("__debug__" : Str)) = false := by decide) : SE X W (.Name x pos) (dC (.int i)) := by
  obtain ⟨t, hm⟩ := hm
  exact PE.imp (pe_glob hg hm (v := .int i) ⟨t, rfl⟩ hd) fun σ H Q ⟨n, ρ, S, δ, g, _, r⟩ => r.val g rfl
theorem se_gstr {i : Str} (hg : Gl X x) (hm : ∃ t, X.mg x = some (.str i t)) (hd : (x == ("__debug__" : Str)) = false := by decide) : SE X W (.Name x pos) (dC (.str i)) := by
  obtain ⟨t, hm⟩ := hm
  exact PE.imp (pe_glob hg hm (v := .str i) ⟨t, rfl⟩ hd) fun σ H Q ⟨n, ρ, S, δ, g, _, r⟩ => r.val g rfl
end
end G

namespace G
open PySem PySem.Spec PyProof.Rows L2
/-! ### e[i] -/
def ixD (x y : D) (S : Store) : Res D := match y with
  | .int i => match x with
    | .str z => if z.length ≤ sizeLine then match atI z.cps.toList i with
        | some c => .ok (.str ⟨#[c]⟩) S
        | none => .bad
      else .bad
    | d => match itsD S d with
      | some xs => match atI xs i with
        | some v => .ok v S
        | none => .bad
      | none => .bad
  | _ => .bad
section
variable {K : PySem.W.Frag} {W : WX} {ρ : Ad} {S : Store} {H : Hp}
theorem atI_rp {xs : List D} {ys : List V} {i : Int} {d : D} (r : RpL K ρ H xs ys) (h : atI xs i = some d) : ∃ v, atI ys i = some v ∧ Rp K ρ H d v := by
  unfold atI at h ⊢
  rw [r.length]
  cases e : ixN xs.length i with
  | none => rw [e] at h; cases h
  | some j =>
    rw [e] at h
    exact r.get h
theorem og_ix : OpG K W (rIx K) ixD := fun n ρ S H σ dx dy x y Q g rx ry h => by
  unfold ixD at h
  split at h
  · rename_i i
    cases ry
    split at h
    · rename_i z
      cases rx
      split at h
      · rename_i hz
        split at h
        · rename_i c hc
          exact .inr (.inr ⟨z, i, c, rfl, rfl, hz, hc, h.val g rfl⟩)
        · exact False.elim h
      · exact False.elim h
    · split at h
      · rename_i xs hx
        split at h
        · rename_i d hd
          obtain ⟨a, ys, rfl, hs, ry⟩ := its_rp g rx hx
          obtain ⟨v, hv, rv⟩ := atI_rp ry hd
          rcases hs with hs | hs
          · exact .inl ⟨a, ys, i, v, rfl, rfl, hs, hv, h.val g rv⟩
          · exact .inr (.inl ⟨a, ys, i, v, rfl, rfl, hs, hv, h.val g rv⟩)
        · exact False.elim h
      · exact False.elim h
  · exact False.elim h
end
section
variable {X : Cx} {W : WX} {a b : Expr} {da db : DE} {pos : Pos}
theorem se_ix (ha : SE X W a da) (hb : SE X W b db) (hs : PlainIx b := by intro _ _; rfl) : SE X W (.Subscript a b pos) (dBin ixD da db) := PE.imp (pe_ix ix_seq ha hb hs) fun _ _ _ h => tE.bin og_ix h
end
/-! ### e[i:j] -/
def cutD (xs : List D) (lo hi : Option Int) : List D := (xs.drop (HT.sIx xs.length 0 lo)).take (HT.sIx xs.length xs.length hi - HT.sIx xs.length 0 lo)
def slD (x : D) (lo hi : Option Int) (S : Store) : Res D := match x with
  | .str z => if z.length ≤ sizeLine then .ok (.str (cutS z lo hi)) S else .bad
  | .tup xs => .ok (.tup (cutD xs lo hi)) S
  | d => match seqL S d with
    | some xs => .ok (.lst (cutD xs lo hi)) S
    | none => .bad
/-- a bound: left out, or an int -/
abbrev DO := Nat → Slots → Store → Res (Option Int)
def dNoP : DO := fun _ _ S => .ok none S
def dPart (de : DE) : DO := fun n δ S => (de n δ S).bind fun d S1 => match d with
  | .int i => .ok (some i) S1
  | _ => .bad
def tO (K : PySem.W.Frag) (de : DO) (W : WX) : TO := fun σ H Q => ∃ n ρ S δ, Good K ρ S H ∧ EnvOk K ρ H δ σ ∧ Rest (fun _ _ a b => a = b) K n ρ S H σ Q W (de n δ S)
abbrev SO (X : Cx) (W : WX) (e : Option Expr) (de : DO) : Prop := PO X e (tO X.K de W)
theorem PO.imp {X : Cx} {e : Option Expr} {t t' : TO} (h : PO X e t) (i : ∀ σ H Q, t' σ H Q → t σ H Q) : PO X e t' := ⟨fun pins s σ H Q I q => h.run pins s σ H Q I (i σ H Q q)⟩
def dSl (de : DE) (dl dh : DO) : DE := fun n δ S => (de n δ S).bind fun x S1 => (dl n δ S1).bind fun l S2 => (dh n δ S2).bind fun u S3 => slD x l u S3
def rSlAll (K : PySem.W.Frag) : V → Option Int → Option Int → Hp → VK → Prop := fun x lo hi H Q => rSlL K x lo hi H Q ∨ rSlS x lo hi H Q ∨ rSlA K x lo hi H Q
section
variable {X : Cx} {W : WX} {e : Expr} {de : DE} {lo hi : Option Expr} {dl dh : DO} {pos p2 : Pos}
theorem so_none : SO X W none dNoP := PO.imp po_none fun σ H Q ⟨n, ρ, S, δ, g, en, r⟩ => r none ρ H g rfl Fr.refl
theorem so_some {b : Expr} (h : SE X W b de) : SO X W (some b) (dPart de) := PO.imp (po_some h) fun σ H Q ⟨n, ρ, S, δ, g, en, r⟩ => by
  refine ⟨n, ρ, S, δ, g, en, (Rest.bind (rel' := Rp X.K) en r).mono fun v H1 ⟨ρ1, S1, d1, g1, e1, r1, f1, q⟩ => ?_⟩
  split at q
  · cases r1
    exact ⟨_, rfl, q _ ρ1 H1 g1 rfl Fr.refl⟩
  · exact False.elim q
theorem sl_rp {K : PySem.W.Frag} {n : Nat} {ρ : Ad} {S : Store} {H : Hp} {σ : L2.St} {Q : VK} {d : D} {x : V} {lo hi : Option Int} (g : Good K ρ S H) (r : Rp K ρ H d x) (h : Rest (Rp K) K n ρ S H σ Q W (slD d lo hi S)) : rSlAll K x lo hi H Q := by
  have cut : ∀ {xs : List D} {ys : List V}, RpL K ρ H xs ys → RpL K ρ H (cutD xs lo hi) (cutV ys lo hi) := fun {xs ys} ry => by
    unfold cutD cutV
    rw [ry.length]
    exact (ry.drop _).take _
  unfold slD at h
  split at h
  · rename_i z
    cases r
    split at h
    · rename_i hz
      exact .inr (.inl ⟨z, rfl, hz, h.val g rfl⟩)
    · exact False.elim h
  · rename_i xs
    obtain ⟨a, ys, rfl, hs, ry⟩ := tup_rp r
    refine .inr (.inr ⟨a, ys, rfl, hs, fun hw => h.val g ?_, fun _ p hp => Rest.newT (σ := σ) (W := W) h g (cut ry) hp⟩)
    have e : cutD xs lo hi = xs := by
      have hl := ry.length
      unfold cutD
      rw [hl] at hw
      rw [hw.1, hw.2]
      simp
    rw [e]
    exact r
  · split at h
    · rename_i xs hx
      obtain ⟨a, ys, rfl, hs, ry⟩ := seqL_rp g r hx
      exact .inl ⟨a, ys, rfl, .inl hs, fun p hp => Rest.newL (σ := σ) (W := W) h g (cut ry) hp⟩
    · exact False.elim h
theorem se_sl (he : SE X W e de) (hl : SO X W lo dl) (hh : SO X W hi dh) : SE X W (.Subscript e (.Slice lo hi none p2) pos) (dSl de dl dh) :=
  PE.imp (pe_slice (sl_list.or (sl_str.or sl_tupA)) he hl hh) fun σ H Q ⟨n, ρ, S, δ, g, en, r⟩ => by
  refine ⟨n, ρ, S, δ, g, en, (Rest.bind (rel' := Rp X.K) en r).mono fun v H1 ⟨ρ1, S1, d1, g1, e1, r1, f1, q⟩ => ?_⟩
  refine ⟨n, ρ1, S1, δ, g1, e1, (Rest.bind (rel' := fun _ _ a b => a = b) e1 q).mono fun l H2 ⟨ρ2, S2, l2, g2, e2, r2, f2, q2⟩ => ?_⟩
  refine ⟨n, ρ2, S2, δ, g2, e2, (Rest.bind (rel' := fun _ _ a b => a = b) e2 q2).mono fun u H3 ⟨ρ3, S3, u3, g3, e3, r3, f3, q3⟩ => ?_⟩
  subst r2 r3
  exact sl_rp g3 ((r1.kp f2.kp).kp f3.kp) q3
end
/-! ### lists written -/
/-- the list cell that d names, of this call's own or written by what names no cell -/
def lstAt (n : Nat) (S : Store) (d y : D) : Option (Nat × List D) := match d with
  | .ref i => match S[i]? with
    | some (.lst xs) => if n ≤ i ∨ low 0 y = true then some (i, xs) else none
    | _ => none
  | _ => none
theorem lowL_append {m : Nat} : ∀ {xs ys : List D}, lowL m xs = true → lowL m ys = true → lowL m (xs ++ ys) = true
  | [], _, _, h => h
  | x :: xs, ys, h1, h2 => by
    rw [lowL, Bool.and_eq_true] at h1
    rw [List.cons_append, lowL, Bool.and_eq_true]
    exact ⟨h1.1, lowL_append h1.2 h2⟩
theorem lowL_set {m : Nat} {y : D} (hy : low m y = true) : ∀ {xs : List D} (j : Nat), lowL m xs = true → lowL m (xs.set j y) = true
  | [], _, h => h
  | x :: xs, 0, h => by
    rw [lowL, Bool.and_eq_true] at h
    rw [List.set_cons_zero, lowL, Bool.and_eq_true]
    exact ⟨hy, h.2⟩
  | x :: xs, j + 1, h => by
    rw [lowL, Bool.and_eq_true] at h
    rw [List.set_cons_succ, lowL, Bool.and_eq_true]
    exact ⟨h.1, lowL_set hy j h.2⟩
section
variable {K : PySem.W.Frag} {W : WX} {ρ : Ad} {S : Store} {H : Hp} {n : Nat}
theorem lstAt_ok (g : Good K ρ S H) {d y : D} {v : V} {i : Nat} {xs : List D} (r : Rp K ρ H d v) (h : lstAt n S d y = some (i, xs)) : ∃ a ys, v = .ref a ∧ ρ.r[i]? = some a ∧ S[i]? = some (.lst xs) ∧ H a = some (.lst ys) ∧ RpL K ρ H xs ys ∧ (n ≤ i ∨ low 0 y = true) := by
  unfold lstAt at h
  split at h
  · split at h
    · rename_i es hs
      split at h
      · rename_i hc
        cases h
        obtain ⟨a, ea, ev⟩ := r
        obtain ⟨ys, e1, e2⟩ := g.at ea hs
        exact ⟨a, ys, ev, ea, hs, e1, e2, hc⟩
      · cases h
    · cases h
  · cases h
/-- a list cell written -/
theorem Good.lst {i : Nat} {a : Addr} {xs xs' : List D} {ys' : List V} {y : D} (g : Good K ρ S H) (ea : ρ.r[i]? = some a) (es : S[i]? = some (.lst xs)) (r : RpL K ρ H xs' ys') (hc : n ≤ i ∨ low 0 y = true) (hl : ∀ m, low m y = true → lowL m xs = true → lowL m xs' = true) :
    Good K ρ (S.set i (.lst xs')) (upd H a (.lst ys')) ∧ Fr n ρ S H ρ (S.set i (.lst xs')) (upd H a (.lst ys')) := by
  have hm : a ∈ ρ.r := List.mem_of_getElem? ea
  have kp : Kp ρ H ρ (upd H a (.lst ys')) := Kp.set hm
  refine ⟨g.set ea ⟨ys', upd_same, RpL.kp kp _ _ r⟩, kp, Shr.set es ?_⟩
  rcases hc with hc | hc
  · exact .inl hc
  · exact .inr fun m q => hl m (low_mono (Nat.zero_le m) y hc) q
end
/-- xs.append(e) -/
def dApp (do_ de : DE) : DE := fun n δ S => (do_ n δ S).bind fun x S1 => match seqL S1 x with
  | none => .bad
  | some _ => (de n δ S1).bind fun y S2 => match lstAt n S2 x y with
    | some (i, xs) => if xs.length < sizeLine then .ok .non (S2.set i (.lst (xs ++ [y]))) else .bad
    | none => .bad
section
variable {X : Cx} {W : WX} {o e : Expr} {do_ de : DE} {pos apos cpos : Pos}
theorem se_app (ho : SE X W o do_) (he : SE X W e de) (hbase : attributeBase o "append" X.env (eval o X.env) = eval o X.env := by rfl)
    (hfew : ((backTo cpos (starEach [e] X.env)).all (fun x => !x.1) && (backToKw cpos (keywordEach [] X.env)).all (fun x => x.1.isSome)
      && decide (([e] : List Expr).length + ([] : List Keyword).length + (if ([] : List Keyword).isEmpty then 0 else 1) < 30)) = true := by rfl)
    (hline : (apos.endLine == cpos.line) = true := by rfl) (hs : starEach [e] X.env = (false, eval e X.env) :: starEach [] X.env := by rfl) : SE X W (.Call (.Attribute o "append" apos) [e] [] cpos) (dApp do_ de) := by
  refine PE.imp (pe_bm PySem.F.plainAttrs_list PySem.F.slot_list_append PySem.F.type_list_append mt_append ho (pa_cons he pa_nil hs) hbase hfew hline hs (by rfl)) fun σ H Q ⟨n, ρ, S, δ, g, en, r⟩ => ?_
  refine ⟨n, ρ, S, δ, g, en, (Rest.bind (rel' := Rp X.K) en r).mono fun v H1 ⟨ρ1, S1, d1, g1, e1, r1, f1, q⟩ => ?_⟩
  split at q
  · exact False.elim q
  · rename_i xs0 hx0
    obtain ⟨a0, ys0, rfl, hs0, ry0⟩ := seqL_rp g1 r1 hx0
    refine ⟨.inl ⟨rfl, ys0, .inl hs0⟩, n, ρ1, S1, δ, g1, e1, (Rest.bind (rel' := Rp X.K) e1 q).mono fun y H2 ⟨ρ2, S2, d2, g2, e2, r2, f2, q2⟩ => ?_⟩
    split at q2
    · rename_i i xs hx
      obtain ⟨a, ys, ev, ea, es, eH, ry, hc⟩ := lstAt_ok g2 (r1.kp f2.kp) hx
      split at q2
      · rename_i hl
        have hg := Good.lst (n := n) g2 ea es (ry.append (RpL.one r2)) hc fun m h1 h2 => lowL_append h2 (by simp [lowL, h1])
        exact ⟨a, ys, y, ev, rfl, eH, by rw [ry.length]; exact hl, q2 .non ρ2 _ hg.1 rfl hg.2⟩
      · exact False.elim q2
    · exact False.elim q2
end
/-! ### xs[i] = e, name op= e -/
/-- o[i] = the value at hand -/
def setIx (n : Nat) (x k y : D) (S : Store) : Option Store := match k with
  | .int i => match lstAt n S x y with
    | some (c, xs) => match ixN xs.length i with
      | some j => some (S.set c (.lst (xs.set j y)))
      | none => none
    | none => none
  | _ => none
def dSetIx (do_ di de : DE) : DS := fun n δ S => (de n δ S).to δ fun y S1 => (do_ n δ S1).to δ fun x S2 => (di n δ S2).to δ fun k S3 => match setIx n x k y S3 with
  | some S4 => .nx δ S4
  | none => .bad
theorem setIx_ok {K : PySem.W.Frag} {ρ : Ad} {S S' : Store} {H : Hp} {n : Nat} {x k y : D} {vx vk vy : V} (g : Good K ρ S H) (rx : Rp K ρ H x vx) (rk : Rp K ρ H k vk) (ry : Rp K ρ H y vy) (h : setIx n x k y S = some S') {Q : Hp → Prop}
    (q : ∀ H', Good K ρ S' H' → Fr n ρ S H ρ S' H' → Q H') : rSetL vx vk vy H Q := by
  unfold setIx at h
  split at h
  · rename_i i
    cases rk
    split at h
    · rename_i c xs hx
      split at h
      · rename_i j hj
        cases h
        obtain ⟨a, ys, ev, ea, es, eH, rs, hc⟩ := lstAt_ok g rx hx
        have hg := Good.lst (n := n) g ea es (rs.set j ry) hc fun m h1 h2 => lowL_set h1 j h2
        exact ⟨a, ys, i, j, ev, rfl, eH, by rw [rs.length]; exact hj, q _ hg.1 hg.2⟩
      · cases h
    · cases h
  · cases h
def dAugN (i : Nat) (op : D → D → Store → Res D) (de : DE) : DS := fun n δ S => match δ[i]? with
  | some (some x) => (de n δ S).to δ fun y S1 => (op x y S1).to δ fun z S2 => .nx (δ.set i (some z)) S2
  | _ => .bad
section
variable {X : Cx} {W : WX} {o i e : Expr} {do_ di de : DE} {pos p1 : Pos}
theorem ss_setIx (ho : SE X W o do_) (hi : SE X W i di) (he : SE X W e de) (hs : swapsWithSole [.Subscript o i p1] e pos.line X.env = pure false := by rfl) (hw : swappedStores [.Subscript o i p1] e X.env = pure none := by rfl)
    (ha : ∀ v, assign (.Subscript o i p1) X.env v = (do
      let ov ← holding [v] (eval o X.env)
      let iv ← holding [v, ov] (eval i X.env)
      standAt p1
      holding [v, ov, iv] (setItem ov iv v)
      release [v, ov, iv] []) := by intro _; rfl) : SS X W (.Assign [.Subscript o i p1] e pos) (dSetIx do_ di de) := by
  refine PS.imp (ps_asg he (pg_sub ho hi set_list ha) hs hw) fun E σ H ⟨n, ρ, S, δ, g, en, r⟩ => ?_
  refine ⟨n, ρ, S, δ, g, en, (RestS.ex (rel := Rp X.K) g en r).mono fun y H1 ⟨ρ1, S1, d1, g1, e1, r1, f1, q⟩ => ?_⟩
  refine ⟨n, ρ1, S1, δ, g1, e1, (RestS.ex (rel := Rp X.K) g1 e1 q).mono fun x H2 ⟨ρ2, S2, d2, g2, e2, r2, f2, q2⟩ => ?_⟩
  refine ⟨n, ρ2, S2, δ, g2, e2, (RestS.ex (rel := Rp X.K) g2 e2 q2).mono fun k H3 ⟨ρ3, S3, d3, g3, e3, r3, f3, q3⟩ => ?_⟩
  split at q3
  · rename_i S4 h4
    exact setIx_ok g3 (r2.kp f3.kp) r3 ((r1.kp f2.kp).kp f3.kp) h4 fun H4 g4 f4 => q3 σ ρ3 H4 g4 (e3.kp f4.kp) f4
  · exact False.elim q3
theorem ss_augN {op : Operator} {f : Int → Int → Int} {dop : D → D → Store → Res D} {j : Nat} {x : Str} (hN : X.N.Nodup) (hj : X.N[j]? = some x) (hx : Loc X.env.scope x) (he : SE X W e de) (ho : PIp X op (ipI f)) (hd : ∀ x y S, dop x y S = .bad ∨ ∃ i k, x = .int i ∧ y = .int k ∧ dop x y S = .ok (.int (f i k)) S)
    (hf : X.fn x = true ∨ X.env.scope.names.lookup x = some .local := by first | exact .inl rfl | exact .inr rfl | assumption) : SS X W (.AugAssign (.Name x p1) op e pos) (dAugN j dop de) := by
  refine PS.imp (ps_aug hN hj hx he ho hf) fun E σ H ⟨n, ρ, S, δ, g, en, r⟩ => ?_
  unfold dAugN at r
  split at r
  · rename_i d0 h0
    obtain ⟨v, hv, rv⟩ := en.2 _ _ h0
    refine ⟨v, hv, n, ρ, S, δ, g, en, (RestS.ex (rel := Rp X.K) g en r).mono fun y H1 ⟨ρ1, S1, d1, g1, e1, r1, f1, q⟩ => ?_⟩
    rcases hd d0 d1 S1 with hb | ⟨i, k, hi, hk, ho⟩
    · rw [hb] at q; exact False.elim q
    · rw [ho] at q
      subst hi hk
      cases rv.ns rfl
      cases r1
      exact ⟨i, k, rfl, rfl, q _ ρ1 H1 g1 (e1.set j rfl) Fr.refl⟩
  · exact False.elim r
theorem ad_add (x y : D) (S : Store) : dAddI x y S = .bad ∨ ∃ i k, x = .int i ∧ y = .int k ∧ dAddI x y S = .ok (.int (i + k)) S := by
  cases x <;> first | exact .inl rfl | skip
  cases y <;> first | exact .inl rfl | exact .inr ⟨_, _, rfl, rfl, rfl⟩
theorem ad_sub (x y : D) (S : Store) : dSub x y S = .bad ∨ ∃ i k, x = .int i ∧ y = .int k ∧ dSub x y S = .ok (.int (i - k)) S := by
  cases x <;> first | exact .inl rfl | skip
  cases y <;> first | exact .inl rfl | exact .inr ⟨_, _, rfl, rfl, rfl⟩
end
/-! ### f-strings, join -/
def fmtD (x : D) (S : Store) : Res D := match x with
  | .str y => if y.length ≤ sizeLine then .ok (.str y) S else .bad
  | .int i => if i.natAbs.log2 < 1920 then .ok (.str (Str.ofString (toString i))) S else .bad
  | _ => .bad
def dFmt (de : DE) : DE := fun n δ S => (de n δ S).bind fun d S1 => fmtD d S1
/-- the parts, one behind the other -/
def catD (acc : Str) : List D → Option Str
  | [] => some acc
  | .str y :: r => if (acc ++ y).length ≤ sizeLine then catD (acc ++ y) r else none
  | _ :: _ => none
def jsD : List DE → Str → Nat → Slots → Store → Res D
  | [], acc, _, _, S => .ok (.str acc) S
  | d :: ds, acc, n, δ, S => (d n δ S).bind fun x S1 => match x with
    | .str y => if (acc ++ y).length ≤ sizeLine then jsD ds (acc ++ y) n δ S1 else .bad
    | _ => .bad
def dJoined (ds : List DE) : DE := fun n δ S => jsD ds Str.empty n δ S
inductive SJ (X : Cx) (W : WX) : List Expr → List DE → Prop where
  | nil : SJ X W [] []
  | cons {e : Expr} {t : DE} {es : List Expr} {ts : List DE} (h : SE X W e t) (r : SJ X W es ts) : SJ X W (e :: es) (t :: ts)
def bJoin (x y : D) (S : Store) : Res D := match x with
  | .str a => match itsD S y with
    | some ds => match strsD ds with
      | some ys => if (ys.map (·.length)).sum + ys.length * a.length ≤ 16777216 then .ok (.str (Str.join a ys)) S else .bad
      | none => .bad
    | none => .bad
  | _ => .bad
def dJoin (do_ de : DE) : DE := fun n δ S => (do_ n δ S).bind fun x S1 => match x with
  | .str _ => (de n δ S1).bind fun y S2 => bJoin x y S2
  | _ => .bad
section
variable {X : Cx} {W : WX} {e o : Expr} {de do_ : DE} {pos apos : Pos}
theorem se_fmt (he : SE X W e de) : SE X W (.FormattedValue e (-1) none pos) (dFmt de) := PE.imp (pe_fmt he) fun σ H Q ⟨n, ρ, S, δ, g, en, r⟩ => by
  refine ⟨n, ρ, S, δ, g, en, (Rest.bind (rel' := Rp X.K) en r).mono fun v H1 ⟨ρ1, S1, d1, g1, e1, r1, f1, q⟩ => ?_⟩
  unfold fmtD at q
  split at q
  · cases r1
    split at q
    · rename_i hz
      exact .inl ⟨_, rfl, hz, q.val g1 rfl⟩
    · exact False.elim q
  · cases r1
    split at q
    · rename_i hz
      exact .inr ⟨_, rfl, hz, q.val g1 rfl⟩
    · exact False.elim q
  · exact False.elim q
theorem SJ.pj {es : List Expr} {ds : List DE} (h : SJ X W es ds) : PJ X es (ds.map fun d => tE X.K d W) := by
  induction h with
  | nil => exact .nil
  | cons h r ih => exact .cons h ih
theorem js_ok {K : PySem.W.Frag} {σ : L2.St} {Q : VK} {n : Nat} {δ : Slots} : ∀ (ds : List DE) (acc : Str) (ρ : Ad) (S : Store) (H : Hp), Good K ρ S H → EnvOk K ρ H δ σ → Rest (Rp K) K n ρ S H σ Q W (jsD ds acc n δ S) → tJs (ds.map fun d => tE K d W) acc σ H fun out H1 => Q (.str out) H1
  | [], acc, ρ, S, H, g, en, h => h.val g rfl
  | d :: ds, acc, ρ, S, H, g, en, h => by
    refine ⟨n, ρ, S, δ, g, en, (Rest.bind (rel' := Rp K) en h).mono fun v H1 ⟨ρ1, S1, d1, g1, e1, r1, f1, q⟩ => ?_⟩
    split at q
    · rename_i y
      cases r1
      split at q
      · rename_i hz
        exact ⟨y, rfl, hz, js_ok ds (acc ++ y) ρ1 S1 H1 g1 e1 q⟩
      · exact False.elim q
    · exact False.elim q
theorem se_joined {v1 v2 : Expr} {rest : List Expr} {ds : List DE} (h : SJ X W (v1 :: v2 :: rest) ds) : SE X W (.JoinedStr (v1 :: v2 :: rest) pos) (dJoined ds) := PE.imp (pe_joined h.pj) fun σ H Q ⟨n, ρ, S, δ, g, en, r⟩ => js_ok ds Str.empty ρ S H g en r
theorem se_joined1 (h : SE X W e de) : SE X W (.JoinedStr [e] pos) de := pe_joined1 h
theorem se_join (ho : SE X W o do_) (he : SE X W e de) (hs : starEach [e] X.env = [(false, eval e X.env)] := by rfl) (hbase : attributeBase o "join" X.env (eval o X.env) = eval o X.env := by rfl) (hline : (apos.endLine == pos.line) = true := by rfl) :
    SE X W (.Call (.Attribute o "join" apos) [e] [] pos) (dJoin do_ de) := PE.imp (pe_join ho he hs hbase hline) fun σ H Q ⟨n, ρ, S, δ, g, en, r⟩ => by
  refine ⟨n, ρ, S, δ, g, en, (Rest.bind (rel' := Rp X.K) en r).mono fun v H1 ⟨ρ1, S1, d1, g1, e1, r1, f1, q⟩ => ?_⟩
  split at q
  · rename_i a
    cases r1
    refine ⟨⟨a, rfl⟩, n, ρ1, S1, δ, g1, e1, (Rest.bind (rel' := Rp X.K) e1 q).mono fun y H2 ⟨ρ2, S2, d2, g2, e2, r2, f2, q2⟩ => ?_⟩
    unfold bJoin at q2
    dsimp only at q2
    split at q2
    · rename_i ds hd
      split at q2
      · rename_i ys hy
        split at q2
        · rename_i hz
          obtain ⟨p, vs, rfl, hp, rv⟩ := its_rp g2 r2 hd
          have e := strs_rp rv hy
          subst e
          exact ⟨a, p, ys, rfl, rfl, hp, hz, by rw [TL.join_eq]; exact q2.val g2 rfl⟩
        · exact False.elim q2
      · exact False.elim q2
    · exact False.elim q2
  · exact False.elim q
/-! ### *e in a display, a call -/
def aStar (de : DE) (dr : DA) : DA := fun n δ S => (de n δ S).bind fun d S1 => match itsD S1 d with
  | some xs => (dr n δ S1).bind fun ys S2 => .ok (xs ++ ys) S2
  | none => .bad
theorem sa_star {es : List Expr} {dr : DA} {p : Pos} (he : SE X W e de) (hr : SA X W es dr) (hs : starEach (.Starred e p :: es) X.env = (true, eval e X.env) :: starEach es X.env := by rfl) : SA X W (.Starred e p :: es) (aStar de dr) :=
  PA.imp (StX.pa_star he hr hs) fun σ H Q ⟨n, ρ, S, δ, g, en, r⟩ => by
  refine ⟨n, ρ, S, δ, g, en, (Rest.bind (rel' := Rp X.K) en r).mono fun v H1 ⟨ρ1, S1, d1, g1, e1, r1, f1, q⟩ => ?_⟩
  split at q
  · rename_i xs hx
    obtain ⟨a, ys, rfl, hs, ry⟩ := its_rp g1 r1 hx
    refine ⟨a, ys, rfl, hs.symm, n, ρ1, S1, δ, g1, e1, (Rest.bind (rel' := RpL X.K) e1 q).mono fun zs H2 ⟨ρ2, S2, d2, g2, e2, r2, f2, q2⟩ => ?_⟩
    exact q2.val g2 ((RpL.kp f2.kp _ _ ry).append r2)
  · exact False.elim q
end
end G

namespace G
open PySem PySem.Spec PyProof.Rows L2
/-! ### texts in order -/
def leS (a b : Str) : Bool := decide (a.cps.toList ≤ b.cps.toList)
theorem leS_iff {a b : Str} : leS a b = true ↔ ltCps b.cps.toList a.cps.toList = false := by
  unfold leS
  rw [ltCps_eq, decide_eq_true_eq, decide_eq_false_iff_not]
  exact Iff.rfl
theorem leS_trans (a b c : Str) (h1 : leS a b = true) (h2 : leS b c = true) : leS a c = true := by
  unfold leS at *
  rw [decide_eq_true_eq] at *
  exact List.le_trans h1 h2
theorem leS_total (a b : Str) : (leS a b || leS b a) = true := by
  unfold leS
  rw [Bool.or_eq_true, decide_eq_true_eq, decide_eq_true_eq]
  exact List.le_total _ _
theorem leS_anti {a b : Str} (h1 : leS a b = true) (h2 : leS b a = true) : a = b := by
  unfold leS at *
  rw [decide_eq_true_eq] at *
  have e : a.cps.toList = b.cps.toList := List.le_antisymm h1 h2
  cases a; cases b
  simp only [Str.mk.injEq]
  exact Array.toList_inj.mp e
theorem sortedS_pw : ∀ {l : List Str}, sortedS l = true → l.Pairwise (fun a b => leS a b = true)
  | [], _ => .nil
  | x :: r, h => by
    have go : ∀ (r : List Str) (p : Str), risingS p r = true → (∀ y ∈ r, leS p y = true) ∧ r.Pairwise (fun a b => leS a b = true) := by
      intro r
      induction r with
      | nil => intro p _; exact ⟨(fun y hy => absurd hy (by simp)), List.Pairwise.nil⟩
      | cons y r ih =>
        intro p h
        have h' : (!ltCps y.cps.toList p.cps.toList && risingS y r) = true := h
        rw [Bool.and_eq_true, Bool.not_eq_true'] at h'
        have h1 : leS p y = true := leS_iff.mpr h'.1
        obtain ⟨i1, i2⟩ := ih y h'.2
        refine ⟨fun z hz => ?_, List.pairwise_cons.mpr ⟨i1, i2⟩⟩
        rcases List.mem_cons.mp hz with e | hz
        · rw [e]; exact h1
        · exact leS_trans _ _ _ h1 (i1 z hz)
    obtain ⟨i1, i2⟩ := go r x h
    exact List.pairwise_cons.mpr ⟨i1, i2⟩
/-- two sorted lists of the same items are one -/
theorem sorted_uniq {α : Type} {le : α → α → Bool} (anti : ∀ a b, le a b = true → le b a = true → a = b) : ∀ {l k : List α}, l.Perm k → l.Pairwise (fun a b => le a b = true) → k.Pairwise (fun a b => le a b = true) → l = k
  | [], k, p, _, _ => (List.nil_perm.mp p).symm ▸ rfl
  | x :: l, [], p, _, _ => absurd p.symm (by simp)
  | x :: l, y :: k, p, h1, h2 => by
    rw [List.pairwise_cons] at h1 h2
    have hxy : x = y := by
      have hx : x ∈ y :: k := p.subset List.mem_cons_self
      have hy : y ∈ x :: l := p.symm.subset List.mem_cons_self
      rcases List.mem_cons.mp hx with e | hx
      · exact e
      · rcases List.mem_cons.mp hy with e | hy
        · exact e.symm
        · exact anti _ _ (h1.1 _ hy) (h2.1 _ hx)
    subst hxy
    rw [sorted_uniq anti (List.Perm.cons_inv p) h1.2 h2.2]
def sortS (l : List Str) : List Str := l.mergeSort leS
def sortI (l : List Int) : List Int := l.mergeSort (fun a b => decide (a ≤ b))
theorem sortS_perm (l : List Str) : (sortS l).Perm l := List.mergeSort_perm l leS
theorem sortS_pw (l : List Str) : (sortS l).Pairwise (fun a b => leS a b = true) := List.pairwise_mergeSort leS_trans leS_total l
theorem sortS_eq {l k : List Str} (p : k.Perm l) (h : k.Pairwise (fun a b => leS a b = true)) : k = sortS l := sorted_uniq (fun _ _ => leS_anti) (p.trans (sortS_perm l).symm) h (sortS_pw l)
theorem sortI_eq {l k : List Int} (p : k.Perm l) (h : k.Pairwise (· ≤ ·)) : k = sortI l := by
  refine sorted_uniq (le := fun a b => decide (a ≤ b)) (fun a b h1 h2 => ?_) (p.trans (List.mergeSort_perm l _).symm) (h.imp fun q => decide_eq_true q) (List.pairwise_mergeSort (fun a b c h1 h2 => ?_) (fun a b => ?_) l)
  · rw [decide_eq_true_eq] at h1 h2; omega
  · rw [decide_eq_true_eq] at *; omega
  · rw [Bool.or_eq_true, decide_eq_true_eq, decide_eq_true_eq]; omega
/-! ### sorted(list) -/
def bSorted : BOp := fun ds S => match ds with
  | [d] => match seqL S d with
    | some xs => if xs.length < 64 then match intsD xs with
      | some ns => .ok (.lst ((sortI ns).map .int)) S
      | none => match strsD xs with
        | some ns => .ok (.lst ((sortS ns).map .str)) S
        | none => .bad
      else .bad
    | none => .bad
  | _ => .bad
theorem ca_sorted {K : PySem.W.Frag} {W : WX} : CaG K W (fun xs H Q => rSorted K xs H Q ∨ rSortedS K xs H Q) bSorted := fun n ρ S H σ ds vs Q g r h => by
  unfold bSorted at h
  split at h
  · obtain ⟨v, rfl, r1⟩ := r.sole
    split at h
    · rename_i xs hx
      obtain ⟨a, ys, rfl, hs, ry⟩ := seqL_rp g r1 hx
      split at h
      · rename_i hl
        rw [← ry.length] at hl
        split at h
        · rename_i ns hn
          have e := ints_rp ry hn
          subst e
          refine .inl ⟨a, ns, rfl, .inl hs, by simpa using hl, fun ns' p h1 h2 hp => ?_⟩
          rw [sortI_eq h1 h2]
          exact Rest.newL (σ := σ) (W := W) h g rp_ints hp
        · split at h
          · rename_i ns hn
            have e := strs_rp ry hn
            subst e
            refine .inr ⟨a, ns, rfl, .inl hs, by simpa using hl, fun ns' p h1 h2 hp => ?_⟩
            rw [sortS_eq h1 (sortedS_pw h2)]
            exact Rest.newL (σ := σ) (W := W) h g rp_strs hp
          · exact False.elim h
      · exact False.elim h
    · exact False.elim h
  · exact False.elim h
/-! ### sets of texts, at once measured or sorted -/
section
variable {prog : Program} {w : World} {A : Around} {E : Value → Shared → Prop} {s : Shared} {a : Addr}
theorem strs_of_all : ∀ (l : List Value), (∀ v ∈ l, ∃ k tk, v = Value.str k tk) → StrsAre l (l.map fun v => match v with | .str k _ => k | _ => Str.empty)
  | [], _ => .nil
  | v :: l, h => by
    obtain ⟨k, tk, rfl⟩ := h v List.mem_cons_self
    exact .cons k tk (strs_of_all l fun u hu => h u (List.mem_cons_of_mem _ hu))
theorem sorted_setS {S : Str → Bool} {n : Nat} {Q : Value → Shared → Prop} (R : SetS w s.heap a S n) (hh : A.handled = none) (h64 : n < 64)
    (hQ : ∀ s' p (out : Array Value) (c : Nat) (ys : List Str), (∀ b o, s.heap.get? b = some o → s'.heap.get? b = some o) → s'.gens = s.gens → s'.os = s.os → s.heap.objs.size ≤ p →
      s'.heap.get? p = some (seqObj "list" out c) → StrsAre out.toList ys → sortedS ys = true → ys.Nodup → (∀ k, k ∈ ys ↔ S k = true) → Q (.ref p) s') :
    wpAny (model prog w) A (call (.builtin "sorted") [.ref a]) Q E s := by
  obtain ⟨o, ents, ep, t, ho, hex, hd, gs, nd, hm, hb, hf, hn, hr, hl⟩ := R
  refine Calls.call_function_entry kind_sorted plain_sorted entry_sorted (args_sorted1 _) ?_
  unfold Builtin.«sorted»
  refine wpAny_bind (m := checkCount "sorted" 1 1 _) (wpAny_pure (wpAny_bind (collect_set (A := A.in1) hh ⟨o, ho, hex.1, hd⟩ hf hb hr hl fun s1 vs k1 hz g1 o1 prm => ?_)))
  have hvl : vs.length = n := by rw [prm.length_eq, List.length_map, Array.length_toList]; exact hn
  have hS : StrsAre vs (vs.map fun v => match v with | .str k _ => k | _ => Str.empty) := strs_of_all vs fun v hv => by
    obtain ⟨e, he, q⟩ := List.mem_map.mp (prm.mem_iff.mp hv)
    obtain ⟨k, tk, h1, _⟩ := gs e he
    exact ⟨k, tk, q ▸ h1⟩
  have prk : (vs.map fun v => match v with | .str k _ => k | _ => Str.empty).Perm (ents.toList.map keyS) := by
    have q := prm.map fun v => (match v with | .str k _ => k | _ => Str.empty : Str)
    rw [List.map_map] at q; exact q
  refine wpAny_bind (wpAny_newList ?_ (by rw [hvl, sizeLine_eq]; omega))
  have hoL : (s1.heap.push (seqObj "list" vs.toArray 0)).get? s1.heap.objs.size = some (seqObj "list" vs.toArray 0) := Heap.get?_push_size _ rfl
  refine wpAny_bind (wpAny_holding (wpAny_call_entry slot_list_sort ⟨_, hoL, rfl⟩ entry_list_sort
    (list_sort_treeK strKind_oneLt hoL hS.keysOf (fun v₁ v₂ rest e => keyKind_strs (by rw [← e]; exact hS)) (by rw [hvl]; exact h64) fun st' hp hs => ⟨_, rfl, ?_⟩) (args_list_sort _)))
  obtain ⟨ys, q1, q2, q3⟩ := sorted_out_str hS hp hs
  obtain ⟨c, hc⟩ := sortedHeap_at (vs := vs) (out := (arrOf st').map (·.2)) hoL
  refine wpAny_pure ⟨_, rfl, hQ _ s1.heap.objs.size ((arrOf st').map (·.2)) c ys (fun b u e => ?_) g1 o1 hz hc q1 q3 (((q2.trans prk).nodup_iff).mpr nd) (fun k => by rw [(q2.trans prk).mem_iff, ← hm k])⟩
  have q := k1 b u e
  have hlt := Heap.lt_size q
  show (sortedHeap (s1.heap.push (seqObj "list" vs.toArray 0)) s1.heap.objs.size vs _).get? b = some u
  rw [sortedHeap_old (Nat.ne_of_lt hlt) (by rw [size_push']; exact Nat.lt_succ_of_lt hlt)]; exact Heap.get?_push_of_some _ q
end
def setD (de : DE) (k : List Str → Store → Res D) : DE := fun n δ S => (de n δ S).bind fun d S1 => match itsD S1 d with
  | some xs => match strsD xs with
    | some ys => if ys.length + 1 < scanBound then k (firstS ys) S1 else .bad
    | none => .bad
  | none => .bad
def dLenSet (de : DE) : DE := setD de fun ys S => .ok (.int ys.length) S
def dSortSet (de : DE) : DE := setD de fun ys S => if ys.length < 64 then .ok (.lst ((sortS ys).map .str)) S else .bad
section
variable {X : Cx} {W : WX} {a : Expr} {da : DE} {p p2 q pos : Pos}
/-- set(a) made -/
theorem set_made {pins : List (Addr × Obj)} {σ : L2.St} {H : Hp} {s : Shared} {E : Value → Shared → Prop} {Q : Value → Shared → Prop} {l : Addr} {xs : List Str} (hc : X.calm = true) (I : L2.Inv X pins σ H s) (hq : SqL X.K H l (xs.map V.str) ∨ SqT X.K H l (xs.map V.str)) (hb : xs.length + 1 < scanBound)
    (h : ∀ (S : Addr) (h' : Heap) (tk : Nat), L2.Inv X pins σ H { s with heap := h', toks := tk } → SetS X.w h' S (fun k => decide (k ∈ firstS xs)) (firstS xs).length → Q (.ref S) { s with heap := h', toks := tk }) :
    wpAny (model X.prog X.w) X.A (call (.type "set") [.ref l]) Q E s := by
  rcases hq with hq | hq
  · obtain ⟨its, r, pl, hz⟩ := I.list hq
    exact call_setL (I.ok.hd hc) pl.isList (by simpa using strsAre_of r) hb fun h' tk hS hk => h _ h' tk (I.kept fun b o e => hk b o (Heap.lt_size e) e) hS
  · obtain ⟨its, r, pl, hz⟩ := I.tuple hq
    exact call_setT (I.ok.hd hc) pl (by simpa using strsAre_of r) hb fun h' tk hS hk => h _ h' tk (I.kept fun b o e => hk b o (Heap.lt_size e) e) hS
/-- f(set(a)), f a built-in function -/
theorem se_ofSet {id : String} {f : Str} {k : List Str → Store → Res D} (hc : X.calm = true) (b1 : Bln X f) (hv : bootBuiltins f = some (.builtin id)) (b2 : Bln X "set") (ha : SE X W a da) (hn : f ≠ "__name__") (hdb : (f == ("__debug__" : Str)) = false)
    (hf : ∀ (pins : List (Addr × Obj)) (σ : L2.St) (H : Hp) (s : Shared) (S : Addr) (ys : List Str) (n : Nat) (ρ : Ad) (S0 : Store) (Q : VK), L2.Inv X pins σ H s → SetS X.w s.heap S (fun k => decide (k ∈ ys)) ys.length → ys.Nodup → Good X.K ρ S0 H → Rest (Rp X.K) X.K n ρ S0 H σ Q W (k ys S0) →
      wpAny (model X.prog X.w) X.A (call (.builtin id) [.ref S]) (EP X pins σ Q) X.xe s)
    (hp1 : starEach [.Call (.Name "set" p2) [a] [] q] X.env = (false, eval (.Call (.Name "set" p2) [a] [] q) X.env) :: starEach [] X.env := by rfl) (na : starEach [a] X.env = (false, eval a X.env) :: starEach [] X.env := by rfl) :
    SE X W (.Call (.Name f p) [.Call (.Name "set" p2) [a] [] q] [] pos) (setD da k) := by
  refine ⟨fun pins s σ H Q I ⟨n, ρ, S0, δ, g, en, r⟩ => ?_⟩
  refine Call_ (ld_blt I b1.gl b1.mg hv ?_ hn hdb)
  refine PyProof.Rows.callWith_builtin1 (PyProof.Rows.args_cons ?_ rfl) rfl rfl
  refine Call_ (ld_blt I b2.gl b2.mg (show bootBuiltins "set" = some (.type "set") from by rfl) ?_)
  refine PyProof.Rows.callWith_type1 (PyProof.Rows.args_cons (thn (ha.run pins s σ H _ I ⟨n, ρ, S0, δ, g, en, Rest.bind (rel' := Rp X.K) en r⟩) fun v s1 ⟨x, H1, I1, r1, ρ1, S1, d1, g1, e1, rd, f1, q1⟩ => PyProof.Rows.args_nil ?_) na) na rfl
  split at q1
  · rename_i xs hx
    obtain ⟨l, ys, rfl, hs, ry⟩ := its_rp g1 rd hx
    cases r1
    split at q1
    · rename_i zs hz
      have e := strs_rp ry hz
      subst e
      split at q1
      · rename_i hb
        refine set_made hc I1 hs hb fun S h' tk I2 hS => PyProof.Rows.args_nil ?_
        exact hf pins σ H1 _ S _ n ρ1 S1 Q I2 (hS.congr (fun _ => rfl) rfl) (nodup_firstS zs) g1 q1
      · exact False.elim q1
    · exact False.elim q1
  · exact False.elim q1
theorem se_lenSet (hc : X.calm = true) (b1 : Bln X "len") (b2 : Bln X "set") (ha : SE X W a da) (na : starEach [a] X.env = (false, eval a X.env) :: starEach [] X.env := by rfl) : SE X W (.Call (.Name "len" p) [.Call (.Name "set" p2) [a] [] q] [] pos) (dLenSet da) := by
  refine se_ofSet (id := "len") hc b1 (by rfl) b2 ha (by decide) (by decide) (fun pins σ H s S ys n ρ S0 Q I hS _ g r => ?_) (by rfl) na
  obtain ⟨o, ents, ep, t, ho, hex, hd, _, _, _, hb, hf, hn, _⟩ := hS
  have hsc : scanBound ≤ sizeLine := by decide
  have hsz := sizeLine_eq
  exact call_len_set ho hex hd hf (by omega) ⟨.int ys.length, H, I.tok _, ⟨_, by rw [hn]⟩, r.val g rfl⟩
theorem se_sortSet (hc : X.calm = true) (b1 : Bln X "sorted") (b2 : Bln X "set") (ha : SE X W a da) (na : starEach [a] X.env = (false, eval a X.env) :: starEach [] X.env := by rfl) : SE X W (.Call (.Name "sorted" p) [.Call (.Name "set" p2) [a] [] q] [] pos) (dSortSet da) := by
  refine se_ofSet (id := "sorted") hc b1 (by rfl) b2 ha (by decide) (by decide) (fun pins σ H s S ys n ρ S0 Q I hS nd g r => ?_) (by rfl) na
  split at r
  · rename_i h64
    refine sorted_setS hS (I.ok.hd hc) h64 fun s' p out c zs k g' o' hp hg hi hs hnd hm => ?_
    have hperm : zs.Perm ys := (List.perm_ext_iff_of_nodup hnd nd).mpr fun k => by rw [hm k, decide_eq_true_eq]
    have e : zs = sortS ys := sortS_eq hperm (sortedS_pw hs)
    subst e
    have hlen : ((sortS ys).map V.str).length ≤ sizeLine := by rw [List.length_map, hperm.length_eq, sizeLine_eq]; omega
    have hn : H p = none := I.hok.fresh hp
    have J : L2.Inv X pins σ (upd H p (.lst ((sortS ys).map V.str))) { s with heap := s'.heap, gens := s'.gens, drawn := s'.drawn, toks := s'.toks } :=
      I.call (ch := []) (Un.laid k hp hn) (I.hok.laid k hp ⟨hlen, out.toList, c, vals_of_strs hi, hg⟩) (by rw [g']; exact I.bare) (fun _ z => nomatch z)
    have e2 : s' = { s with heap := s'.heap, gens := s'.gens, drawn := s'.drawn, toks := s'.toks } := by cases s'; cases s; cases o'; rfl
    rw [e2]
    exact ⟨.ref p, _, J, rfl, Rest.newL (σ := σ) (W := W) r g rp_strs hn⟩
  · exact False.elim r
end
end G

namespace G
open PySem PySem.Spec PyProof.Rows L2
abbrev Op2 := D → D → Store → Res D
def orOp (f g : Op2) : Op2 := fun x y S => match f x y S with
  | .bad => g x y S
  | r => r
theorem og_or {K : PySem.W.Frag} {W : WX} {r r' : R2} {f g : Op2} (h : OpG K W r f) (h' : OpG K W r' g) : OpG K W (fun x y H Q => r x y H Q ∨ r' x y H Q) (orOp f g) := fun n ρ S H σ dx dy x y Q gd rx ry q => by
  unfold orOp at q
  split at q
  · exact .inr (h' n ρ S H σ dx dy x y Q gd rx ry q)
  · exact .inl (h n ρ S H σ dx dy x y Q gd rx ry q)
/-! ### is, of truths -/
def dIsB (neg : Bool) : Op2 := fun x y S => match x, y with
  | .bl a, .bl b => .ok (.bl (if neg = true then !decide (a = b) else decide (a = b))) S
  | _, _ => .bad
theorem og_isB {K : PySem.W.Frag} {W : WX} : OpG K W (fun x y H Q => ∃ a b, x = .bl a ∧ y = .bl b ∧ Q (.bl (decide (a = b))) H) (dIsB false) := fun n ρ S H σ dx dy x y Q g rx ry h => by
  unfold dIsB at h
  split at h
  · cases rx; cases ry
    exact ⟨_, _, rfl, rfl, h.val g rfl⟩
  · exact False.elim h
theorem og_isnB {K : PySem.W.Frag} {W : WX} : OpG K W (fun x y H Q => ∃ a b, x = .bl a ∧ y = .bl b ∧ Q (.bl (!decide (a = b))) H) (dIsB true) := fun n ρ S H σ dx dy x y Q g rx ry h => by
  unfold dIsB at h
  split at h
  · cases rx; cases ry
    exact ⟨_, _, rfl, rfl, h.val g rfl⟩
  · exact False.elim h
/-! ### operators, whatever the operands -/
def uAdd : Op2 := orOp dAddI (orOp dAddS (orOp dAddT dAddL))
def uLt : Op2 := orOp (dCmpI fun i j => decide (i < j)) (dCmpS fun i j => decide (i.cps.toList < j.cps.toList))
def uLe : Op2 := orOp (dCmpI fun i j => decide (i ≤ j)) (dCmpS fun i j => !decide (j.cps.toList < i.cps.toList))
def uGt : Op2 := orOp (dCmpI fun i j => decide (j < i)) (dCmpS fun i j => decide (j.cps.toList < i.cps.toList))
def uGe : Op2 := orOp (dCmpI fun i j => decide (j ≤ i)) (dCmpS fun i j => !decide (i.cps.toList < j.cps.toList))
def uIn : Op2 := orOp (dInSign false) (dIn false)
def uNin : Op2 := orOp (dInSign true) (dIn true)
def uIs : Op2 := orOp (dIsN false) (dIsB false)
def uIsn : Op2 := orOp (dIsN true) (dIsB true)
section
variable {X : Cx} {W : WX} {a b : Expr} {da db : DE} {pos : Pos}
/-- a rule and what it does -/
structure Rl (X : Cx) (W : WX) (f : Value → Value → Sem Value) (op : Op2) : Prop where
  ex : ∃ r, OpR X f r ∧ OpG X.K W r op
theorem Rl.or {f : Value → Value → Sem Value} {g h : Op2} (p : Rl X W f g) (q : Rl X W f h) : Rl X W f (orOp g h) := by
  obtain ⟨r, h1, h2⟩ := p.ex
  obtain ⟨r', h3, h4⟩ := q.ex
  exact ⟨_, h1.or h3, og_or h2 h4⟩
theorem rl_add : Rl X W (binaryOp .Add) uAdd := Rl.or ⟨_, op_add, og_add⟩ (Rl.or ⟨_, op_add_str, og_addS⟩ (Rl.or ⟨_, op_catA, og_catT⟩ ⟨_, op_catL, og_catL⟩))
theorem rl_sub : Rl X W (binaryOp .Sub) dSub := ⟨_, op_sub, og_sub⟩
theorem rl_mul : Rl X W (binaryOp .Mult) dMul := ⟨_, op_mulW, og_mul⟩
theorem rl_mod : Rl X W (binaryOp .Mod) dMod := ⟨_, op_mod, og_mod⟩
theorem rl_fdiv : Rl X W (binaryOp .FloorDiv) dFdiv := ⟨_, op_fdivW, og_fdiv⟩
theorem rl_pow : Rl X W (binaryOp .Pow) dPow := ⟨_, op_pow, og_pow⟩
theorem rl_lt : Rl X W (compareOp .Lt) uLt := Rl.or ⟨_, op_lt, og_cmpI⟩ ⟨_, op_lt_str, og_cmpS⟩
theorem rl_le : Rl X W (compareOp .LtE) uLe := Rl.or ⟨_, op_le, og_cmpI⟩ ⟨_, op_le_str, og_cmpS⟩
theorem rl_gt : Rl X W (compareOp .Gt) uGt := Rl.or ⟨_, op_gt, og_cmpI⟩ ⟨_, op_gt_str, og_cmpS⟩
theorem rl_ge : Rl X W (compareOp .GtE) uGe := Rl.or ⟨_, op_ge, og_cmpI⟩ ⟨_, op_ge_str, og_cmpS⟩
theorem rl_eq (hu : X.A.units + 64 < cLine) : Rl X W (compareOp .Eq) (dEq false) := ⟨_, op_eqD hu, og_eqD⟩
theorem rl_ne (hu : X.A.units + 64 < cLine) : Rl X W (compareOp .NotEq) (dEq true) := ⟨_, op_neD hu, og_neD⟩
theorem rl_in (hu : X.A.units + 65 < cLine) : Rl X W (compareOp .In) uIn := Rl.or ⟨_, op_in_sign, og_inSign⟩ ⟨_, op_inA hu, og_in⟩
theorem rl_nin (hu : X.A.units + 65 < cLine) : Rl X W (compareOp .NotIn) uNin := Rl.or ⟨_, op_notIn_sign, og_notInSign⟩ ⟨_, op_notInA hu, og_in⟩
theorem rl_is : Rl X W (compareOp .Is) uIs := Rl.or ⟨_, op_isN, og_isN⟩ ⟨_, op_is_bl, og_isB⟩
theorem rl_isn : Rl X W (compareOp .IsNot) uIsn := Rl.or ⟨_, op_notN, og_notN⟩ ⟨_, op_isnot_bl, og_isnB⟩
theorem su_op {o : Operator} {op : Op2} (h : Rl X W (binaryOp o) op) (ha : SE X W a da) (hb : SE X W b db) : SE X W (.BinOp a o b pos) (dBin op da db) := by
  obtain ⟨r, h1, h2⟩ := h.ex
  exact se_op h1 h2 ha hb
theorem su_cmp {o : CmpOp} {op : Op2} (h : Rl X W (compareOp o) op) (ha : SE X W a da) (hb : SE X W b db) (hm : behindInMarks o b = false := by rfl) : SE X W (.Compare a [o] [b] pos) (dBin op da db) := by
  obtain ⟨r, h1, h2⟩ := h.ex
  exact se_cmp h1 h2 ha hb hm
theorem tu_cmp {o : CmpOp} {op : Op2} (h : Rl X W (compareOp o) op) (ha : SE X W a da) (hb : SE X W b db) (hm : behindInMarks o b = false := by rfl) : ST X W (.Compare a [o] [b] pos) (dTest (dBin op da db)) := by
  obtain ⟨r, h1, h2⟩ := h.ex
  exact st_cmp h1 h2 ha hb hm
end
end G

namespace G
open PySem PySem.Spec PyProof.Rows L2
/-! ### names of attributes -/
theorem map_inj {α β : Type} {f : α → β} (hf : ∀ a b, f a = f b → a = b) : ∀ l k : List α, l.map f = k.map f → l = k
  | [], [], _ => rfl
  | [], _ :: _, h => by simp at h
  | _ :: _, [], h => by simp at h
  | a :: l, b :: k, h => by
    simp only [List.map_cons, List.cons.injEq] at h
    rw [hf a b h.1, map_inj hf l k h.2]
theorem toNat_inj (a b : Char) (h : a.toNat = b.toNat) : a = b := by
  apply Char.ext
  exact UInt32.toNat.inj h
theorem ofStr_inj {a b : String} (h : Str.ofString a = Str.ofString b) : a = b := by
  rw [Str.ofString_eq_toList, Str.ofString_eq_toList] at h
  have h1 := congrArg (fun s : Str => s.cps.toList) h
  exact String.toList_inj.mp (map_inj toNat_inj _ _ (by simpa using h1))
theorem RpF.look {K : PySem.W.Frag} {ρ : Ad} {H : Hp} {f : String} : ∀ {fs : List (String × D)} {gs : List (Str × V)}, RpF K ρ H fs gs → (∀ d, fs.lookup f = some d → ∃ v, gs.lookup (Str.ofString f) = some v ∧ Rp K ρ H d v) ∧ (fs.lookup f = none → gs.lookup (Str.ofString f) = none)
  | [], gs, r => by
    cases (show gs = [] from r)
    exact ⟨fun d h => (by cases h), fun _ => rfl⟩
  | (k, d) :: fs, gs, ⟨v, ws, e, r, rr⟩ => by
    subst e
    have ih := RpF.look (f := f) rr
    by_cases hk : f = k
    · subst hk
      simp only [List.lookup_cons, beq_self_eq_true]
      exact ⟨fun d' h => by cases h; exact ⟨v, rfl, r⟩, fun h => by cases h⟩
    · have h1 : (f == k) = false := beq_eq_false_iff_ne.mpr hk
      have h2 : (Str.ofString f == Str.ofString k) = false := beq_eq_false_iff_ne.mpr fun z => hk (ofStr_inj z)
      simp only [List.lookup_cons, h1, h2]
      exact ih
def putD (f : String) (d : D) : List (String × D) → List (String × D)
  | [] => [(f, d)]
  | (k, x) :: r => if k = f then (k, d) :: r else (k, x) :: putD f d r
theorem RpF.put {K : PySem.W.Frag} {ρ : Ad} {H : Hp} {f : String} {d : D} {v : V} (hv : Rp K ρ H d v) : ∀ {fs : List (String × D)} {gs : List (Str × V)}, RpF K ρ H fs gs → RpF K ρ H (putD f d fs) (putF (Str.ofString f) v gs)
  | [], gs, r => by
    cases (show gs = [] from r)
    exact ⟨v, [], rfl, hv, rfl⟩
  | (k, x) :: fs, gs, ⟨y, ws, e, r, rr⟩ => by
    subst e
    unfold putD
    rw [show putF (Str.ofString f) v ((Str.ofString k, y) :: ws) = (if Str.ofString k = Str.ofString f then (Str.ofString k, v) :: ws else (Str.ofString k, y) :: putF (Str.ofString f) v ws) from rfl]
    by_cases hk : k = f
    · rw [if_pos hk, if_pos (by rw [hk])]
      exact ⟨v, ws, rfl, hv, rr⟩
    · rw [if_neg hk, if_neg fun z => hk (ofStr_inj z)]
      exact ⟨y, _, rfl, r, RpF.put hv rr⟩
theorem RpF.length {K : PySem.W.Frag} {ρ : Ad} {H : Hp} : ∀ {fs : List (String × D)} {gs : List (Str × V)}, RpF K ρ H fs gs → gs.length = fs.length
  | [], gs, r => by cases (show gs = [] from r); rfl
  | (k, x) :: fs, gs, ⟨y, ws, e, r, rr⟩ => by
    subst e
    simp [RpF.length rr]
theorem lowF_put {m : Nat} {f : String} {d : D} (hd : low m d = true) : ∀ {fs : List (String × D)}, lowF m fs = true → lowF m (putD f d fs) = true
  | [], _ => by simp [putD, lowF, hd]
  | (k, x) :: fs, h => by
    simp only [lowF, Bool.and_eq_true] at h
    unfold putD
    split
    · simp only [lowF, Bool.and_eq_true]; exact ⟨hd, h.2⟩
    · simp only [lowF, Bool.and_eq_true]; exact ⟨h.1, lowF_put hd h.2⟩
/-! ### the object behind a value -/
def objAt (S : Store) : D → Option (String × List (String × D))
  | .obj C fs => some (C, fs)
  | .ref i => match S[i]? with
    | some (.ins C fs) => some (C, fs)
    | _ => none
  | _ => none
section
variable {K : PySem.W.Frag} {ρ : Ad} {S : Store} {H : Hp}
theorem obj_rp (g : Good K ρ S H) {d : D} {v : V} {C : String} {fs : List (String × D)} (h : Rp K ρ H d v) (e : objAt S d = some (C, fs)) : ∃ a dx gs, v = .ref a ∧ H a = some (.ins (He.ga K (Str.ofString C)) dx gs) ∧ RpF K ρ H fs gs := by
  cases d <;> simp only [objAt, reduceCtorEq, Option.some.injEq, Prod.mk.injEq] at e
  case obj C' fs' =>
    obtain ⟨rfl, rfl⟩ := e
    obtain ⟨a, dx, gs, e1, e2, _, e4⟩ := h
    exact ⟨a, dx, gs, e1, e2, e4⟩
  case ref i =>
    obtain ⟨a, h1, h2⟩ := h
    split at e
    · rename_i C' fs' hs
      cases e
      obtain ⟨dx, gs, h3, h4⟩ := g.at h1 hs
      exact ⟨a, dx, gs, h2, h3, h4⟩
    · cases e
end
/-! ### properties -/
structure Prp (X : Cx) (g : Addr) (m : Mf) : Prop where
  ex : ∃ k fd ps, FnOk X.prog X.w X.K X.mg X.base (L2.CX X.prog X.w) k g fd ps (spD X.K ps.length m) ∧ Room (k + 1) X.A ∧ Binds X.K fd ps [] ∧ ps.length = 1
theorem passes0 {X : Cx} : Passes (L2.CX X.prog X.w) X.nox (fun _ _ _ => False) := fun _ _ _ _ _ _ _ x => by
  obtain ⟨_, _, _, _, _, _, _, _, _, _, _, _, _, _, z⟩ := x
theorem Rest.nox_of {α β : Type} {rel : Ad → Hp → α → β → Prop} {K : PySem.W.Frag} {n : Nat} {ρ : Ad} {S : Store} {H : Hp} {σ σ' : L2.St} {Q : β → Hp → Prop} {W W' : WX} {r : Res α} (h : Rest rel K n ρ S H σ Q W r.nox) : Rest rel K n ρ S H σ' Q W' r := by
  cases r with
  | ok d S' => exact h
  | exc x S' => exact False.elim h
  | bad => exact False.elim h
/-! ### reading -/
inductive Ak where
  | fld | con (d : D) | prop (m : Mf)
inductive AkOk (X : Cx) (f : String) (C : String) : Ak → Prop where
  | fld (c : Cls X.K (He.ga X.K (Str.ofString C))) (n : NoAttr X.K (He.ga X.K (Str.ofString C)) (Str.ofString f)) : AkOk X f C .fld
  | con {d : D} {v : V} {u : Value} (c : Cls X.K (He.ga X.K (Str.ofString C))) (k : Con X.K (He.ga X.K (Str.ofString C)) (Str.ofString f) v u) (r : ∀ ρ H, Rp X.K ρ H d v) : AkOk X f C (.con d)
  | prop {p g : Addr} {m : Mf} (c : Cls X.K (He.ga X.K (Str.ofString C))) (k : PropOf X.K (He.ga X.K (Str.ofString C)) (Str.ofString f) p g) (r : Prp X g m) : AkOk X f C (.prop m)
/-- every class of the table -/
def AksOk (X : Cx) (f : String) (tb : List (String × Ak)) : Prop := ∀ p ∈ tb, AkOk X f p.1 p.2
theorem aks_nil {X : Cx} {f : String} : AksOk X f [] := fun p h => absurd h (by simp)
theorem aks_cons {X : Cx} {f C : String} {a : Ak} {tb : List (String × Ak)} (h : AkOk X f C a) (r : AksOk X f tb) : AksOk X f ((C, a) :: tb) := fun p hp => by
  rcases List.mem_cons.mp hp with e | e
  · subst e; exact h
  · exact r p e
def attrD (tb : List (String × Ak)) (f : String) (n : Nat) (d : D) (S : Store) : Res D := match objAt S d with
  | some (C, fs) => match tb.lookup C with
    | some .fld => match fs.lookup f with
      | some v => .ok v S
      | none => .bad
    | some (.con v) => match fs.lookup f with
      | none => .ok v S
      | some _ => .bad
    | some (.prop m) => (m n [d] S).nox
    | none => .bad
  | none => .bad
def dAttr (tb : List (String × Ak)) (f : String) (de : DE) : DE := fun n δ S => (de n δ S).bind fun d S1 => attrD tb f n d S1
theorem look_mem {α : Type} {C : String} {a : α} : ∀ {tb : List (String × α)}, tb.lookup C = some a → (C, a) ∈ tb
  | [], h => by cases h
  | (k, b) :: tb, h => by
    rw [List.lookup_cons] at h
    split at h
    · rename_i q
      cases h
      rw [beq_iff_eq.mp q]
      exact List.mem_cons_self
    · exact List.mem_cons_of_mem _ (look_mem h)
section
variable {X : Cx} {W : WX} {e : Expr} {de : DE} {pos : Pos}
theorem se_attr {f : String} {tb : List (String × Ak)} (tk : Takes X W) (he : SE X W e de) (ht : AksOk X f tb) (hb : attributeBase e (Str.ofString f) X.env (eval e X.env) = eval e X.env := by rfl) : SE X W (.Attribute e (Str.ofString f) pos) (dAttr tb f de) := by
  refine ⟨fun pins s σ H Q I ⟨n, ρ, S, δ, g, en, r⟩ => ?_⟩
  refine attr_of hb (thn (he.run pins s σ H _ I ⟨n, ρ, S, δ, g, en, Rest.bind (rel' := Rp X.K) en r⟩) fun u s1 ⟨v, H1, I1, rv, ρ1, S1, d1, g1, e1, r1, f1, q⟩ => ?_)
  unfold attrD at q
  split at q
  · rename_i C fs ho
    obtain ⟨a, dx, gs, ev, ea, rf⟩ := obj_rp g1 r1 ho
    subst ev
    obtain rfl : u = Value.ref a := rv
    split at q
    · rename_i hl
      cases ht _ (look_mem hl) with
      | fld c na =>
        split at q
        · rename_i d' hd
          obtain ⟨v', hv, rv'⟩ := (RpF.look (f := f) rf).1 d' hd
          exact getattr_ok I1 ea c na hv fun u' s2 I2 ru => ⟨v', H1, I2, ru, q.val g1 rv'⟩
        · exact False.elim q
    · rename_i d' hl
      cases ht _ (look_mem hl) with
      | con c k rr =>
        split at q
        · rename_i hd
          exact getcon_ok I1 ea c k ((RpF.look (f := f) rf).2 hd) fun s2 I2 => ⟨_, H1, I2, k.rel, q.val g1 (rr ρ1 H1)⟩
        · exact False.elim q
    · rename_i m hl
      cases ht _ (look_mem hl) with
      | prop c k r =>
        obtain ⟨kk, fd, ps, F, hr, hb', hl1⟩ := r.ex
        have hsp := spD_of (K := X.K) (W := W0) (σ := σ) (Q := Q) g1 (RpL.one r1) hl1.symm (Rest.nox_of (σ' := []) (W' := fun c e _ H' => WE W0 σ c e H') q)
        exact getprop_ok I1 ea c k F hr hb' .nil passes0 hsp
    · exact False.elim q
  · exact False.elim q
/-! ### methods -/
/-- a def, how many values it is given, what it makes of them -/
structure Md where
  np : Nat
  gD : List D → List D → List D
  m : Mf
structure MkOk (X : Cx) (ks : List Str) (m : String) (C : String) (f : Md) : Prop where
  c : Cls X.K (He.ga X.K (Str.ofString C))
  ex : ∃ g, Meth X.K (He.ga X.K (Str.ofString C)) (Str.ofString m) g ∧ Cal X 0 g f.np ks f.gD f.m
abbrev MTb := List (String × Md)
def MksOk (X : Cx) (ks : List Str) (m : String) (tb : MTb) : Prop := ∀ p ∈ tb, MkOk X ks m p.1 p.2
theorem mks_nil {X : Cx} {ks : List Str} {m : String} : MksOk X ks m [] := fun p h => absurd h (by simp)
theorem mks_cons {X : Cx} {ks : List Str} {m C : String} {f : Md} {tb : MTb} (h : MkOk X ks m C f) (r : MksOk X ks m tb) : MksOk X ks m ((C, f) :: tb) := fun p hp => by
  rcases List.mem_cons.mp hp with e | e
  · subst e; exact h
  · exact r p e
/-- which def o.m is -/
def methAt (tb : MTb) (m : String) (S : Store) (d : D) : Option Md := match objAt S d with
  | some (C, fs) => match fs.lookup m with
    | none => tb.lookup C
    | some _ => none
  | none => none
def dMeth (tb : MTb) (m : String) (do_ : DE) (da : DA) : DE := fun n δ S => (do_ n δ S).bind fun d S1 => match methAt tb m S1 d with
  | some f => (da n δ S1).bind fun ds S2 => callD f.m f.np f.gD n (d :: ds) [] S2
  | none => .bad
def dMeth0 (tb : MTb) (m : String) (do_ : DE) : DE := fun n δ S => (do_ n δ S).bind fun d S1 => match methAt tb m S1 d with
  | some f => callD f.m f.np f.gD n [d] [] S1
  | none => .bad
theorem meth_rp {K : PySem.W.Frag} {ρ : Ad} {S : Store} {H : Hp} {tb : MTb} {m : String} {d : D} {v : V} {p : Md} (g : Good K ρ S H) (r : Rp K ρ H d v) (h : methAt tb m S d = some p) :
    ∃ a C dx gs, v = .ref a ∧ H a = some (.ins (He.ga K (Str.ofString C)) dx gs) ∧ gs.lookup (Str.ofString m) = none ∧ tb.lookup C = some p := by
  unfold methAt at h
  split at h
  · rename_i C fs ho
    split at h
    · rename_i hn
      obtain ⟨a, dx, gs, ev, ea, rf⟩ := obj_rp g r ho
      exact ⟨a, C, dx, gs, ev, ea, (RpF.look (f := m) rf).2 hn, h⟩
    · cases h
  · cases h
theorem se_meth {pl : Sem Bool} {o : Expr} {apos : Pos} {es : List Expr} {m : String} {tb : MTb} {do_ : DE} {da : DA} (tk : Takes X W) (ho : SE X W o do_) (ht : MksOk X [] m tb) (ha : SA X W (e :: es) da)
    (hst : starEach (e :: es) X.env = (false, eval e X.env) :: starEach es X.env := by rfl) (hpl : (backTo pos (starEach es X.env)).any (·.1) = false := by rfl)
    (he : eval (.Call (.Attribute o (Str.ofString m) apos) (e :: es) [] pos) X.env = (do
      let ov ← eval o X.env
      standAt apos.atName
      let (f, first) ← holding [ov] (getMethod ov (Str.ofString m) pl)
      callWith pos f first (backTo pos (starEach (e :: es) X.env)) (backToKw pos (keywordEach [] X.env))) := by rfl) :
    SE X W (.Call (.Attribute o (Str.ofString m) apos) (e :: es) [] pos) (dMeth tb m do_ da) := by
  refine ⟨fun pins s σ H Q I ⟨n, ρ, S, δ, g, en, r⟩ => ?_⟩
  refine PySem.W.methodCall_KW (pl := pl) (thn (ho.run pins s σ H _ I ⟨n, ρ, S, δ, g, en, Rest.bind (rel' := Rp X.K) en r⟩) fun u s1 ⟨v, H1, I1, rv, ρ1, S1, d1, g1, e1, r1, f1, q⟩ => ?_) he
  split at q
  · rename_i f hm
    obtain ⟨a, C, dx, gs, ev, ea, hl, hC⟩ := meth_rp g1 r1 hm
    subst ev
    obtain rfl : u = Value.ref a := rv
    have k := ht _ (look_mem hC)
    obtain ⟨fa, km, cal⟩ := k.ex
    refine getmeth_ok I1 ea k.c km hl ?_
    refine PySem.W.callWith_K (first := [.ref a]) (h₀ := X.base) I.ok.mod.kin km.kp (thn (ha.run pos pins s1 σ H1 _ I1 ⟨n, ρ1, S1, δ, g1, e1, Rest.bind (rel' := RpL X.K) e1 q⟩) fun us s2 ⟨vs, H2, I2, rv2, ρ2, S2, d2, g2, e2, r2, f2, q2⟩ => ⟨I2.kIn, ?_⟩) hst hpl
    exact cal.run tk I2 (us := .ref a :: us) (vs := .ref a :: vs) (ws := []) (zs := []) (.cons rfl rv2) .nil g2 (ds := d1 :: d2) (es := []) ⟨_, vs, rfl, r1.kp f2.kp, r2⟩ rfl rfl q2
  · exact False.elim q
theorem se_meth0 {pl : Sem Bool} {o : Expr} {apos : Pos} {m : String} {tb : MTb} {do_ : DE} (tk : Takes X W) (ho : SE X W o do_) (ht : MksOk X [] m tb)
    (he : eval (.Call (.Attribute o (Str.ofString m) apos) [] [] pos) X.env = (do
      let ov ← eval o X.env
      standAt apos.atName
      let (f, first) ← holding [ov] (getMethod ov (Str.ofString m) pl)
      callWith pos f first (backTo pos (starEach [] X.env)) (backToKw pos (keywordEach [] X.env))) := by rfl) :
    SE X W (.Call (.Attribute o (Str.ofString m) apos) [] [] pos) (dMeth0 tb m do_) := by
  refine ⟨fun pins s σ H Q I ⟨n, ρ, S, δ, g, en, r⟩ => ?_⟩
  refine PySem.W.methodCall_KW (pl := pl) (thn (ho.run pins s σ H _ I ⟨n, ρ, S, δ, g, en, Rest.bind (rel' := Rp X.K) en r⟩) fun u s1 ⟨v, H1, I1, rv, ρ1, S1, d1, g1, e1, r1, f1, q⟩ => ?_) he
  split at q
  · rename_i f hm
    obtain ⟨a, C, dx, gs, ev, ea, hl, hC⟩ := meth_rp g1 r1 hm
    subst ev
    obtain rfl : u = Value.ref a := rv
    have k := ht _ (look_mem hC)
    obtain ⟨fa, km, cal⟩ := k.ex
    refine getmeth_ok I1 ea k.c km hl ?_
    exact PySem.W.callWith_K0 (first := [.ref a]) I1.kIn km.kp (cal.run tk I1 (us := [.ref a]) (vs := [.ref a]) (ws := []) (zs := []) (.cons rfl .nil) .nil g1 (ds := [d1]) (es := []) (RpL.one r1) rfl rfl q)
  · exact False.elim q
def dMethK (tb : MTb) (m : String) (nk : Nat) (do_ : DE) (da dk : DA) : DE := fun n δ S => (do_ n δ S).bind fun d S1 => match methAt tb m S1 d with
  | some f => (da n δ S1).bind fun ds S2 => (dk n δ S2).bind fun es S3 => if es.length = nk then callD f.m f.np f.gD n (d :: ds) es S3 else .bad
  | none => .bad
/-! ### writing -/
def setF (cs : List String) (f : String) (n : Nat) (x y : D) (S : Store) : Option Store := match x with
  | .ref i => match S[i]? with
    | some (.ins C fs) => if cs.contains C = true ∧ fs.length < 1000 ∧ (n ≤ i ∨ low 0 y = true) then some (S.set i (.ins C (putD f y fs))) else none
    | _ => none
  | _ => none
def dSetF (cs : List String) (f : String) (do_ de : DE) : DS := fun n δ S => (de n δ S).to δ fun y S1 => (do_ n δ S1).to δ fun x S2 => match setF cs f n x y S2 with
  | some S3 => .nx δ S3
  | none => .bad
structure FldOk (X : Cx) (f : String) (C : String) : Prop where
  c : Cls X.K (He.ga X.K (Str.ofString C))
  n : NoAttr X.K (He.ga X.K (Str.ofString C)) (Str.ofString f)
def FldsOk (X : Cx) (f : String) (cs : List String) : Prop := ∀ C ∈ cs, FldOk X f C
theorem flds_nil {X : Cx} {f : String} : FldsOk X f [] := fun p h => absurd h (by simp)
theorem flds_cons {X : Cx} {f C : String} {cs : List String} (h : FldOk X f C) (r : FldsOk X f cs) : FldsOk X f (C :: cs) := fun p hp => by
  rcases List.mem_cons.mp hp with e | e
  · subst e; exact h
  · exact r p e
theorem setF_ok {K : PySem.W.Frag} {ρ : Ad} {S S' : Store} {H : Hp} {cs : List String} {f : String} {n : Nat} {x y : D} {vx vy : V} (g : Good K ρ S H) (rx : Rp K ρ H x vx) (ry : Rp K ρ H y vy) (h : setF cs f n x y S = some S') :
    ∃ a C dx gs, vx = .ref a ∧ C ∈ cs ∧ H a = some (.ins (He.ga K (Str.ofString C)) dx gs) ∧ gs.length < 1000 ∧
      Good K ρ S' (upd H a (.ins (He.ga K (Str.ofString C)) dx (putF (Str.ofString f) vy gs))) ∧ Fr n ρ S H ρ S' (upd H a (.ins (He.ga K (Str.ofString C)) dx (putF (Str.ofString f) vy gs))) := by
  unfold setF at h
  split at h
  · rename_i i
    split at h
    · rename_i C fs hs
      split at h
      · rename_i hc
        cases h
        obtain ⟨h1, h2, h3⟩ := hc
        obtain ⟨a, ea, ev⟩ := rx
        obtain ⟨dx, gs, e1, e2⟩ := g.at ea hs
        have hm : a ∈ ρ.r := List.mem_of_getElem? ea
        have kp : Kp ρ H ρ (upd H a (.ins (He.ga K (Str.ofString C)) dx (putF (Str.ofString f) vy gs))) := Kp.set hm
        refine ⟨a, C, dx, gs, ev, List.contains_iff_mem.mp h1, e1, by rw [e2.length]; exact h2, g.set ea ⟨dx, _, upd_same, (RpF.put ry e2).kp kp⟩, ⟨kp, Shr.set hs ?_⟩⟩
        rcases h3 with h3 | h3
        · exact .inl h3
        · exact .inr fun m q => lowF_put (low_mono (Nat.zero_le m) y h3) q
      · cases h
    · cases h
  · cases h
theorem ss_fld {o value : Expr} {pos' : Pos} {f : String} {cs : List String} {do_ dv : DE} (ho : SE X W o do_) (hv : SE X W value dv) (hc : FldsOk X f cs)
    (hs : swapsWith value (some (.Attribute o (Str.ofString f) pos')) pos.line X.env = pure false := by rfl) : SS X W (.Assign [.Attribute o (Str.ofString f) pos'] value pos) (dSetF cs f do_ dv) := by
  refine ⟨fun pins s σ H E I ⟨n, ρ, S, δ, g, en, r⟩ => ?_⟩
  refine plainObj_wpAny_Assign_Attribute (thn (hv.run pins s σ H _ I ⟨n, ρ, S, δ, g, en, RestS.ex (rel := Rp X.K) g en r⟩) fun u s1 ⟨y, H1, I1, ry, ρ1, S1, d1, g1, e1, r1, f1, q⟩ => ?_) hs
  refine thn (ho.run pins s1 σ H1 _ I1 ⟨n, ρ1, S1, δ, g1, e1, RestS.ex (rel := Rp X.K) g1 e1 q⟩) fun ov s2 ⟨x, H2, I2, rx, ρ2, S2, d2, g2, e2, r2, f2, q2⟩ => ?_
  split at q2
  · rename_i S3 hS
    obtain ⟨a, C, dx, gs, ev, hC, ea, hl, g3, f3⟩ := setF_ok g2 r2 (r1.kp f2.kp) hS
    subst ev
    obtain rfl : ov = Value.ref a := rx
    exact setattr_ok I2 ea (hc C hC).c (hc C hC).n hl ry fun s3 I3 => ⟨σ, _, I3, q2 σ ρ2 _ g3 (e2.kp f3.kp) f3⟩
  · exact False.elim q2
end
end G

/-! super().m(..), within the frame that says it -/
namespace G
open PySem PySem.Spec PyProof.Rows L2 NdefX ClX
/-- what is said within the running def's own code bd -/
structure PEa (X : Cx) (bd : List Stmt) (e : Expr) (t : TE) : Prop where
  run : ∀ (pins : List (Addr × Obj)) (s : Shared) (σ : L2.St) (H : Hp) (Q : VK), Inv X pins σ H s → t σ H Q → _root_.PySem.wpAt (model X.prog X.w) X.A (.func bd X.env) (eval e X.env) (EP X pins σ Q) X.xe s
structure PSa (X : Cx) (bd : List Stmt) (ss : List Stmt) (t : TS) : Prop where
  run : ∀ (pins : List (Addr × Obj)) (s : Shared) (σ : L2.St) (H : Hp) (E : Ends), Inv X pins σ H s → t E σ H → _root_.PySem.wpAt (model X.prog X.w) X.A (.func bd X.env) (execs ss X.env) (SP X pins E) X.xe s
abbrev SEa (X : Cx) (bd : List Stmt) (W : WX) (e : Expr) (de : DE) : Prop := PEa X bd e (tE X.K de W)
abbrev SBa (X : Cx) (bd : List Stmt) (W : WX) (ss : List Stmt) (ds : DS) : Prop := PSa X bd ss (tS X.K ds W)
/-- what super() asks of the frame: the class cell's class D, the def's first parameter, the file -/
structure SupX (X : Cx) (D : Addr) (me : Str) : Prop where
  gl : Gl X "super"
  mg : X.mg "super" = none
  fr : X.env.scope.names.lookup ("__class__" : Str) = some .free
  cc : ∃ cc o, X.env.cells.lookup ("__class__" : Str) = some cc ∧ X.K.lookup cc = some o ∧ o.data = .cell (some (.ref D))
  dc : ∃ cd, PySem.W.clsIn X.K D = some cd
  fn : ∃ f o fd ar, X.env.func = some f ∧ X.K.lookup f = some o ∧ o.data = .func fd ∧ (fd.params.posonlyargs ++ fd.params.args).head? = some ar ∧ ar.arg = me
  cd : ∃ ca o vs file tf, X.env.code = .ref ca ∧ X.K.lookup ca = some o ∧ o.data = .fields vs ∧ vs[2]? = some (.str file tf) ∧ ((X.prog.main.file : Str) == file) = true
  top : (X.prog.main.scope.names.lookup ("super" : Str)).isSome = false
  s0 : X.N[0]? = some me
  sl : X.env.scope.names.lookup me = some .local
  ls : PySem.W.nsIn X.K PySem.cStatics "thirdparty.any" = some none
structure SupOk (X : Cx) (D : Addr) (m : String) (C : String) (f : Md) : Prop where
  sub : PySem.W.mroIn X.K (He.ga X.K (Str.ofString C)) (.ref D) = some true
  ex : ∃ g, PySem.W.ks_superIn X.K (He.ga X.K (Str.ofString C)) D (Str.ofString m) = some (some (.ref g)) ∧ PySem.W.typeIn X.K (.ref g) = some (.type "function") ∧ PySem.W.fnIn X.K g = true ∧ Cal X 0 g f.np [] f.gD f.m
def SupsOk (X : Cx) (D : Addr) (m : String) (tb : MTb) : Prop := ∀ p ∈ tb, SupOk X D m p.1 p.2
theorem sups_nil {X : Cx} {D : Addr} {m : String} : SupsOk X D m [] := fun p h => absurd h (by simp)
theorem sups_cons {X : Cx} {D : Addr} {m C : String} {f : Md} {tb : MTb} (h : SupOk X D m C f) (r : SupsOk X D m tb) : SupsOk X D m ((C, f) :: tb) := fun p hp => by
  rcases List.mem_cons.mp hp with e | e
  · subst e; exact h
  · exact r p e
def dSup (tb : MTb) (da : DA) : DE := fun n δ S => match δ[0]? with
  | some (some d) => match objAt S d with
    | some (C, _) => match tb.lookup C with
      | some f => (da n δ S).bind fun ds S2 => callD f.m f.np f.gD n (d :: ds) [] S2
      | none => .bad
    | none => .bad
  | _ => .bad
section
variable {X : Cx} {W : WX} {bd : List Stmt} {D : Addr} {self : Str} {pins : List (Addr × Obj)} {σ : L2.St} {H : Hp} {s : Shared}
theorem ld_super {E : Value → Shared → Prop} {Q : Value → Shared → Prop} (I : L2.Inv X pins σ H s) (hg : Gl X "super") (hm : X.mg "super" = none) (h : Q (.type "super") s) : wpAny (model X.prog X.w) X.A (loadName X.env "super") Q E s := by
  obtain ⟨mb, h1, h2⟩ := I.mod.blt
  exact PySem.W.ks_loadName_global I.ok.kind hg (Calls.loadGlobal_builtin (by rw [I.ok.glob]; exact I.mod.glob.keeps I.bk) hm (by rw [I.ok.blt]; exact h1.keeps I.bk) ((h2 _ (by decide)).trans (by rfl)) h)
theorem sup_base {p0 p1 : Pos} {attr : Str} {whole : Sem Value} {a C dx : Addr} {gs : List (Str × V)} {Q : Value → Shared → Prop} (c : SupX X D self) (I : L2.Inv X pins σ H s) (hs : σ[0]? = some (some (.ref a))) (ea : H a = some (.ins C dx gs)) (hsub : PySem.W.mroIn X.K C (.ref D) = some true)
    (hat : (attr == ("__class__" : Str)) = false)
    (h : ∀ h', h'.get? s.heap.objs.size = some (PySem.W.ks_superObj D a C) → (∀ y o, s.heap.get? y = some o → h'.get? y = some o) → Q (.ref s.heap.objs.size) { s with heap := h' }) :
    _root_.PySem.wpAt (model X.prog X.w) X.A (.func bd X.env) (attributeBase (.Call (.Name "super" p0) [] [] p1) attr X.env whole) Q X.xe s := by
  obtain ⟨f, of, fd, ar, ef, kf, df, ha, hself⟩ := c.fn
  obtain ⟨cc, oc, ec, kc, dc⟩ := c.cc
  obtain ⟨ca, oa, vs, file, tf, eca, kca, dca, hv, hfile⟩ := c.cd
  obtain ⟨cdD, hD⟩ := c.dc
  have X0 : X.K.In s.heap := I.kIn
  obtain ⟨oD, hD1, hD2⟩ : ∃ oD, s.heap.get? D = some oD ∧ oD.data = .cls cdD := by
    unfold PySem.W.clsIn at hD
    split at hD
    · rename_i c d cd' sl ho
      cases hD
      exact ⟨_, X0 _ _ ho, rfl⟩
    · cases hD
  refine ks_wpAt_super_base c.gl c.fr hat ef (X0 _ _ kf) df ha eca (X0 _ _ kca) dca hv hfile c.top (ld_super I c.gl c.mg ⟨rfl, ?_⟩)
  refine wpAny_loadName_free I.ok.kind c.fr ec ⟨_, X0 _ _ kc, dc⟩ ?_
  obtain ⟨m, hn, hl⟩ := I.loc
  obtain ⟨u, ru, lu⟩ := hl 0 self _ c.s0 hs (.inl c.sl)
  obtain rfl : u = Value.ref a := ru
  have hm : m self = some (.ref a) := by
    rcases lu with ⟨_, q⟩ | ⟨q, _⟩
    · exact q
    · have z := c.sl
      rcases q with q | q <;> (rw [show X.env.scope.names.lookup self = X.env.kindOf self from rfl, q] at z; cases z)
  rw [hself]
  refine wpAny_loadName_local I.ok.kind c.sl hn hm ?_
  refine ks_wpAny_isType_cls hD1 hD2 ⟨rfl, ?_⟩
  obtain ⟨mA, O, _⟩ := ins_get I.hok ea
  obtain ⟨od, J, _⟩ := O.look
  obtain ⟨hh, g, d, t, os⟩ := s
  refine ks_wpAny_call_super hD1 hD2 J.at_ J.cls (fun c e => ?_) (PySem.W.looks_mroIn X0 hsub) fun h' e k => h h' e k
  have z := J.no
  unfold PySem.W.notCls at z
  rw [e] at z
  exact Bool.noConfusion z
theorem sup_meth {m : Str} {pl : Sem Bool} {so a C dx g : Addr} {gs : List (Str × V)} {E : Value → Shared → Prop} {Q : Value × List Value → Shared → Prop} (c : SupX X D self) (I : L2.Inv X pins σ H s) (hso : s.heap.get? so = some (PySem.W.ks_superObj D a C)) (ea : H a = some (.ins C dx gs))
    (hm : PySem.W.ks_superIn X.K C D m = some (some (.ref g))) (ht : PySem.W.typeIn X.K (.ref g) = some (.type "function")) (hn : (m == ("__class__" : Str)) = false)
    (h : ∀ s', L2.Inv X ((s.heap.objs.size, PySem.W.methodObj (.ref g) (.ref a)) :: pins) σ H s' → Q (.ref s.heap.objs.size, []) s') :
    wpAny (model X.prog X.w) X.A (getMethod (.ref so) m pl) Q E s := by
  have X0 : X.K.In s.heap := I.kIn
  cases hc : PySem.W.clsIn X.K C with
  | none => unfold PySem.W.ks_superIn at hm; rw [hc] at hm; cases hm
  | some cd =>
    unfold PySem.W.ks_superIn at hm
    rw [hc] at hm
    obtain ⟨of, hof, hofc⟩ : ∃ of, s.heap.get? g = some of ∧ of.cls = .type "function" := by
      have ht' : (X.K.lookup g).map (·.cls) = some (.type "function") := ht
      cases z : X.K.lookup g with
      | none => rw [z] at ht'; cases ht'
      | some of => rw [z] at ht'; exact ⟨of, X0 _ _ z, Option.some.inj ht'⟩
    obtain ⟨mA, O, _⟩ := ins_get I.hok ea
    obtain ⟨od, J, _⟩ := O.look
    have hne := PySem.W.ks_ne X0 J hc
    have I2 := pin_new (o := PySem.W.methodObj (.ref g) (.ref a)) (h' := s.heap.push (PySem.W.methodObj (.ref g) (.ref a))) (t' := s.toks + 1) I (fun _ _ z => Heap.get?_push_of_some _ z) (Nat.le_refl _) (Heap.get?_push_size s.heap rfl) (fun v z => nomatch z)
    obtain ⟨hh, gg, d, t, os⟩ := s
    refine ks_wpAny_getMethod_super hso (PySem.W.looks_opaque X0 c.ls) (l₀ := cd.mro) (fun A Q E s k q => wpAny_bind ((PySem.W.looks_clsIn X0 hc) A _ E s k (wpAny_pure q))) rfl X0 hm hof hofc hne hn ?_
    exact h _ I2
theorem se_sup {m : String} {tb : MTb} {da : DA} {p0 p1 apos pos : Pos} {e : Expr} {es : List Expr} {pl : Sem Bool} (tk : Takes X W) (c : SupX X D self) (ht : SupsOk X D m tb) (ha : SA X W (e :: es) da) (hn : (Str.ofString m == ("__class__" : Str)) = false := by decide)
    (hst : starEach (e :: es) X.env = (false, eval e X.env) :: starEach es X.env := by rfl) (hpl : (backTo pos (starEach es X.env)).any (·.1) = false := by rfl)
    (he : eval (.Call (.Attribute (.Call (.Name "super" p0) [] [] p1) (Str.ofString m) apos) (e :: es) [] pos) X.env = (do
      let ov ← attributeBase (.Call (.Name "super" p0) [] [] p1) (Str.ofString m) X.env (eval (.Call (.Name "super" p0) [] [] p1) X.env)
      standAt apos.atName
      let (f, first) ← holding [ov] (getMethod ov (Str.ofString m) pl)
      callWith pos f first (backTo pos (starEach (e :: es) X.env)) []) := by rfl) :
    SEa X bd W (.Call (.Attribute (.Call (.Name "super" p0) [] [] p1) (Str.ofString m) apos) (e :: es) [] pos) (dSup tb da) := by
  refine ⟨fun pins s σ H Q I ⟨n, ρ, S, δ, g, en, r⟩ => ?_⟩
  unfold dSup at r
  split at r
  · rename_i d hd
    obtain ⟨v, hs, rv⟩ := en.2 _ _ hd
    split at r
    · rename_i C fs ho
      have rv := rv.ns (by cases d <;> first | rfl | cases ho)
      obtain ⟨a, dx, gs, ev, ea, rf⟩ := obj_rp g rv ho
      subst ev
      split at r
      · rename_i f hC
        have k := ht _ (look_mem hC)
        obtain ⟨fa, h1, h2, h3, cal⟩ := k.ex
        refine ks_wpAt_MethodCall (sup_base c I hs ea k.sub hn fun h' hso kp => ?_) he
        have I1 := I.kept (t' := s.toks) kp
        refine sup_meth (s := { s with heap := h' }) c I1 hso ea h1 h2 hn fun s2 I2 => ?_
        have hq := pin_at I2
        have hL : h'.objs.size ≠ X.env.locals := (I2.pin _ (List.mem_append_right _ List.mem_cons_self)).2.2.1
        refine PySem.W.callWith_M (K := X.K) (h₀ := X.base) (first := []) I.ok.mod.kin (news_at hL (base_none I1 (Nat.le_refl _)) hq) List.mem_cons_self h3 ?_ hst hpl
        refine thn (ha.run pos _ s2 σ H _ I2 ⟨n, ρ, S, δ, g, en, Rest.bind (rel' := RpL X.K) en r⟩) fun us s3 ⟨vs, H2, I3, rv2, ρ2, S2, d2, g2, e2, r2, f2, q2⟩ => ⟨⟨pin_at I3, I3.kIn⟩, ?_⟩
        have z := cal.runC (Q := Q) tk I3 (us := .ref a :: us) (vs := .ref a :: vs) (ws := []) (zs := []) (.cons rfl rv2) .nil g2 (ds := d :: d2) (es := []) ⟨_, vs, rfl, rv.kp f2.kp, r2⟩ rfl rfl q2
        exact wpAny_call (PySem.W.method_call (pin_at I3) z) |> fun y => thn y fun _ _ y => unpinE y
      · exact False.elim r
    · exact False.elim r
  · exact False.elim r
theorem sea_op {o : Operator} {r : R2} {op : G.D → G.D → Store → Res G.D} {a b : Expr} {da db : DE} {pos : Pos} (hr : OpR X (binaryOp o) r) (ho : OpG X.K W r op) (ha : SEa X bd W a da) (hb : SE X W b db) : SEa X bd W (.BinOp a o b pos) (dBin op da db) := by
  refine ⟨fun pins s σ H Q I ⟨n, ρ, S, δ, g, en, r0⟩ => ?_⟩
  refine ks_wpAt_BinOp (ks_wpAt_mono (ha.run pins s σ H _ I ⟨n, ρ, S, δ, g, en, Rest.bind (rel' := Rp X.K) en r0⟩) (fun u s1 ⟨x, H1, I1, rx, ρ1, S1, d1, g1, e1, r1, f1, q⟩ => ?_) fun _ _ z => z)
  refine thn (hb.run pins s1 σ H1 _ I1 ⟨n, ρ1, S1, δ, g1, e1, Rest.bind (rel' := Rp X.K) e1 q⟩) fun v s2 ⟨y, H2, I2, ry, ρ2, S2, d2, g2, e2, r2, f2, q2⟩ => ?_
  exact hr pins s2 σ H2 x y u v Q I2 rx ry (ho n ρ2 S2 H2 σ d1 d2 x y Q g2 (r1.kp f2.kp) r2 q2)
theorem sba_expr {e : Expr} {de : DE} {rest : List Stmt} {dr : DS} {pos : Pos} (h : SEa X bd W e de) (hr : SB X W rest dr) (hi : interactive X.env = false := by rfl) (hs : swapsWith e none pos.line X.env = pure false := by rfl) : SBa X bd W (.Expr e pos :: rest) (dSeq (dExpr de) dr) := by
  refine ⟨fun pins s σ H E I ⟨n, ρ, S, δ, g, en, r⟩ => ?_⟩
  have r1 := RestS.seq r
  refine ks_wpAt_execs_cons (ks_wpAt_Expr_any (ks_wpAt_mono (h.run pins s σ H _ I ⟨n, ρ, S, δ, g, en, RestS.ex (rel := Rp X.K) g en r1⟩) (fun u s1 ⟨v, H1, I1, rv, ρ1, S1, d1, g1, e1, rd, f1, q⟩ => ?_) fun _ _ z => z) hi hs)
  obtain ⟨ρ2, S2, δ2, g2, e2, f2, q2⟩ := q σ ρ1 H1 g1 e1 Fr.refl
  exact wpAt_of_wpAny (hr.run pins s1 σ H1 E I1 ⟨n, ρ2, S2, δ2, g2, e2, q2⟩)
theorem sba_ret {e : Expr} {de : DE} {pos : Pos} (h : SEa X bd W e de) : SBa X bd W [.Return (some e) pos] (dRet de) := by
  refine ⟨fun pins s σ H E I ⟨n, ρ, S, δ, g, en, r⟩ => ?_⟩
  refine ks_wpAt_execs_cons (ks_wpAt_Return_some (ks_wpAt_mono (h.run pins s σ H _ I ⟨n, ρ, S, δ, g, en, RestS.ex (rel := Rp X.K) g en r⟩) (fun u s1 ⟨v, H1, I1, rv, ρ1, S1, d1, g1, e1, rd, f1, q⟩ => ?_) fun _ _ z => z))
  exact ⟨v, σ, H1, I1, rv, q v ρ1 H1 g1 rd Fr.refl⟩
end
/-! ### defs with a closure -/
/-- what a def that says super() has: its class cell's class D, its code's file -/
structure SupG (K : PySem.W.Frag) (P : Program) (cc : Addr) (D : Addr) (fd : FuncData) : Prop where
  cc : ∃ o, K.lookup cc = some o ∧ o.data = .cell (some (.ref D))
  dc : ∃ cd, PySem.W.clsIn K D = some cd
  cd : ∃ ca o vs file tf, fd.code = .ref ca ∧ K.lookup ca = some o ∧ o.data = .fields vs ∧ vs[2]? = some (.str file tf) ∧ ((P.main.file : Str) == file) = true
  top : (P.main.scope.names.lookup ("super" : Str)).isSome = false
  ls : PySem.W.nsIn K PySem.cStatics "thirdparty.any" = some none
section
variable {P : Program} {w : World} {K : PySem.W.Frag} {mg : Str → Option Value} {base : Heap} {N ps : List Str} {x qual me : Str} {params : Arguments} {body : List Stmt} {scope : Scope} {dfl : List G.D} {kwd : List (Str × G.D)} {f cc D : Addr} {fd : FuncData} {k : Nat} {db : DS}
abbrev supNF (x qual : Str) (params : Arguments) (body : List Stmt) (scope : Scope) (cc ca : Addr) : NF := ⟨x, qual, params, body, scope, [("__class__", cc)], ca⟩
abbrev supCx (P : Program) (w : World) (K : PySem.W.Frag) (mg : Str → Option Value) (base : Heap) (N : List Str) (F : NF) (f : Addr) (A : Around) (outer : List Env) (s : Shared) (H : Hp) (E : XK) : Cx := ncx (L2.CX P w) P w K mg base N F f A outer s H E
theorem envOk_startF {ds : List G.D} {vs : List V} {ρ : Ad} {H : Hp} (hl : ds.length < N.length) (r : RpLS K ρ H ds vs) : EnvOk K ρ H (startD N.length ds) (NdefX.startF N vs [none]) := by
  have e : NdefX.startF N vs [none] = L2.start N vs := by
    unfold NdefX.startF L2.start
    have : N.length - vs.length = (N.length - vs.length - 1) + 1 := by rw [r.length]; omega
    rw [this, List.replicate_succ]
    rfl
  rw [e]
  exact EnvOk.start r
theorem fn_sup (F : FunG K [("__class__", cc)] x qual params body scope dfl kwd f fd) (S : NScope N ps ["__class__"] scope) (G : SupG K P cc D fd) (hgl : scope.names.lookup ("super" : Str) = some .globalImplicit) (hmg : mg "super" = none) (hp : ((params.posonlyargs ++ params.args).head?.map (·.arg)) = some me) (hps : ps[0]? = some me)
    (hb : ∀ (ca : Addr) (A : Around) (outer : List Env) (s : Shared) (H : Hp) (E : XK), Room k (A.deeper (envF (supNF x qual params body scope cc ca) f s.heap.objs.size)) → Takes (supCx P w K mg base N (supNF x qual params body scope cc ca) f A outer s H E) (WE0 E) →
      SupX (supCx P w K mg base N (supNF x qual params body scope cc ca) f A outer s H E) D me →
      SBa (supCx P w K mg base N (supNF x qual params body scope cc ca) f A outer s H E) body (WE0 E) body db) : FnOk P w K mg base (L2.CX P w) (k + 1) f fd ps (spD K ps.length (mKeep ps.length N.length db)) := by
  obtain ⟨oc, od, dV, kV, doc, pm, an, cdv, ct, osl, dvs0, kws0, rfl, lk, hcd, _⟩ := F.ex
  refine ⟨fun vs H Q E h => h.1, fun A outer s H args us vs Q E hr e0 hbd r ⟨hl, n, ρ, S0, ds, g, rd, h⟩ => ?_⟩
  have KX : K.In s.heap := e0.mod.kin.keeps fun b o e => (e0.bs b o e).1
  have lim : s.heap.NoLimit := e0.mod.nolimit.keeps fun b o e => (e0.bs b o e).1
  obtain ⟨ca, oa, vcs, file, tf, eca, kca, dca, hv, hfile⟩ := G.cd
  obtain rfl : cdv = .ref ca := eca
  obtain ⟨oq, kcc, dcc⟩ := G.cc
  refine codeAny_call_function hr.depth (KX _ _ lk) rfl S.co S.gen rfl (PySem.W.codeRec_of KX hcd) (hbd _ _ _ _ ?_)
  refine wpAny_newFunctionEnv S.nocell (fun ⟨n, _⟩ hy => S.par n (List.of_mem_zip hy).1) (fun h₁ hns hsb => ⟨lim.fresh _ hsb, ?_⟩) S.kind
  show codeAny _ _ (.func body (envF (supNF x qual params body scope cc ca) f s.heap.objs.size)) _ _
  have kp : ∀ b o, s.heap.get? b = some o → h₁.get? b = some o := fun b o e => hsb.extBut b o (Nat.ne_of_lt (Heap.lt_size e)) (Heap.get?_push_of_some _ e)
  have hN0 : ps.length + 1 ≤ N.length := by
    have q := congrArg List.length S.pre
    rw [List.length_take, List.length_append] at q
    simp at q
    omega
  have look : ∀ {y : Str} {c : Addr}, ([("__class__", cc)] : List (Str × Addr)).lookup y = some c → y = "__class__" ∧ c = cc := fun {y c} e => by
    rw [List.lookup_cons] at e
    split at e
    · rename_i q
      cases e
      exact ⟨beq_iff_eq.mp q, rfl⟩
    · cases e
  have C : CellsAt (supNF x qual params body scope cc ca).cl ["__class__"] [none] s.heap H := by
    refine ⟨rfl, fun y c e => ?_, fun y z c e1 e2 => ?_, fun i y e => ?_⟩
    · rw [(look e).2]
      exact ⟨(e0.bs cc oq (e0.mod.kin _ _ kcc)).2, _, oq, KX _ _ kcc, dcc⟩
    · rw [(look e1).1, (look e2).1]
    · cases i with
      | zero =>
        cases e
        exact ⟨cc, by rfl, fun v e => by cases e⟩
      | succ i => simp at e
  have I : L2.Inv (supCx P w K mg base N (supNF x qual params body scope cc ca) f A outer s H E) [] (startF N vs [none]) H { s with heap := h₁, toks := s.toks + (ps.zip us).length } := inv_startN S hr.hd e0 hl r C hns kp
  have hN : N[0]? = some me := by
    have q := S.pre
    have h0 : 0 < ps.length := (List.getElem?_eq_some_iff.mp hps).1
    have : (N.take (ps.length + (["__class__"] : List Str).length))[0]? = N[0]? := List.getElem?_take_of_lt (by simp)
    rw [← this, q, List.getElem?_append_left h0, hps]
  have hsup : SupX (supCx P w K mg base N (supNF x qual params body scope cc ca) f A outer s H E) D me := by
    obtain ⟨ar, har, hme⟩ := Option.map_eq_some_iff.mp hp
    exact ⟨hgl, hmg, S.frk _ (by simp), ⟨cc, oq, by rfl, kcc, dcc⟩, G.dc, ⟨f, _, _, ar, rfl, lk, rfl, har, hme⟩, ⟨ca, oa, vcs, file, tf, rfl, kca, dca, hv, hfile⟩, G.top, hN, S.par _ (List.mem_of_getElem? hps), G.ls⟩
  have hbody := hb ca A outer s H E (hr.deeper _) (takes_of rfl rfl rfl rfl) hsup
  refine ks_codeAny_funcAt (ks_wpAt_mono (hbody.run [] _ _ H { nx := fun _ H' => Q .non H', rt := Q } I ⟨n, ρ, S0, _, g, envOk_startF (by rw [← rd.length, hl]; omega) rd, RestS.of_keep h⟩) (fun fl s' hs => ?_) fun e s' hs => hs)
  have fin : ∀ {σ' : L2.St} {H' : Hp} {v : V} {u : Value}, L2.Inv (supCx P w K mg base N (supNF x qual params body scope cc ca) f A outer s H E) [] σ' H' s' → L2.RelV v u → Q v H' → CE outer P w H s Q u s' :=
    fun {σ' H' v u} J rv q => ⟨v, H', J.os, J.bare, J.base, J.hok, rv, q⟩
  cases fl with
  | ret u => obtain ⟨v, σ', H', J, rv, q⟩ := hs; exact fin J rv q
  | next => obtain ⟨σ', H', J, q⟩ := hs; exact fin (v := V.non) (u := Value.none) J rfl q
  | brk => obtain ⟨_, _, _, q⟩ := hs; exact False.elim q
  | cont => obtain ⟨_, _, _, q⟩ := hs; exact False.elim q
end
end G

/-! the head's facts -/
namespace G
open PySem PySem.Spec PyProof.Rows L2 He
/-! ### a constant's value -/
mutual
def dB (K : PySem.W.Frag) : D → Value → Bool
  | .non, u => (match u with | .none => true | _ => false)
  | .bl b, u => (match u with | .bool c => b == c | _ => false)
  | .int i, u => (match u with | .int j _ => decide (i = j) | _ => false)
  | .str x, u => (match u with | .str y _ => decide (x = y) | _ => false)
  | .ty n, u => (match u with | .type m => decide (n = m) | _ => false)
  | .glo x, u => (match u with | .ref a => decide (a = ga K (Str.ofString x)) | _ => false)
  | .tup ds, u => (match u with
    | .ref a => (match K.lookup a with
      | some ⟨.type c, _, .seq its _, _⟩ => decide (c = "tuple") && (decide (its.size ≤ sizeLine) && dBL K ds its.toList)
      | _ => false)
    | _ => false)
  | _, _ => false
def dBL (K : PySem.W.Frag) : List D → List Value → Bool
  | [], us => us.isEmpty
  | d :: ds, us => (match us with
    | u :: us => dB K d u && dBL K ds us
    | [] => false)
end
mutual
theorem dB_ok {K : PySem.W.Frag} : ∀ (d : D) (u : Value), dB K d u = true → ∃ v, L2.RelV v u ∧ ∀ ρ H, Rp K ρ H d v
  | .non, u, h => by
    cases u <;> simp only [dB, Bool.false_eq_true] at h
    exact ⟨.non, rfl, fun _ _ => rfl⟩
  | .bl b, u, h => by
    cases u <;> simp only [dB, Bool.false_eq_true] at h
    exact ⟨.bl b, by rw [eq_of_beq h]; rfl, fun _ _ => rfl⟩
  | .int b, u, h => by
    cases u <;> simp only [dB, Bool.false_eq_true, decide_eq_true_eq] at h
    exact ⟨.int b, ⟨_, by rw [h]⟩, fun _ _ => rfl⟩
  | .str b, u, h => by
    cases u <;> simp only [dB, Bool.false_eq_true, decide_eq_true_eq] at h
    exact ⟨.str b, ⟨_, by rw [h]⟩, fun _ _ => rfl⟩
  | .ty b, u, h => by
    cases u <;> simp only [dB, Bool.false_eq_true, decide_eq_true_eq] at h
    exact ⟨.ty b, by rw [h]; rfl, fun _ _ => rfl⟩
  | .glo b, u, h => by
    cases u <;> simp only [dB, Bool.false_eq_true, decide_eq_true_eq] at h
    exact ⟨.ref (ga K (Str.ofString b)), by rw [h]; rfl, fun _ _ => rfl⟩
  | .tup ds, u, h => by
    cases u <;> simp only [dB, Bool.false_eq_true] at h
    rename_i a
    cases q : K.lookup a with
    | none => rw [q] at h; cases h
    | some o =>
      obtain ⟨oc, od, dt, osl⟩ := o
      rw [q] at h
      cases oc <;> cases dt <;> first | (cases h; done) | skip
      rename_i c its n
      simp only [Bool.and_eq_true, decide_eq_true_eq] at h
      obtain ⟨h1, h2, h3⟩ := h
      obtain ⟨vs, r, rp⟩ := dBL_ok ds _ h3
      exact ⟨.ref a, rfl, fun ρ H => ⟨a, vs, rfl, .inr ⟨_, its, n, q, congrArg Value.type h1, rfl, h2, r⟩, rp ρ H⟩⟩
  | .lst _, u, h => by simp [dB] at h
  | .dct _, u, h => by simp [dB] at h
  | .obj _ _, u, h => by simp [dB] at h
  | .exn _ _, u, h => by simp [dB] at h
  | .ref _, u, h => by simp [dB] at h
theorem dBL_ok {K : PySem.W.Frag} : ∀ (ds : List D) (us : List Value), dBL K ds us = true → ∃ vs, Vals vs us ∧ ∀ ρ H, RpL K ρ H ds vs
  | [], us, h => by
    cases us with
    | nil => exact ⟨[], .nil, fun _ _ => rfl⟩
    | cons a b => cases h
  | d :: ds, us, h => by
    cases us with
    | nil => cases h
    | cons u us =>
      simp only [dBL, Bool.and_eq_true] at h
      obtain ⟨v, r1, p1⟩ := dB_ok d u h.1
      obtain ⟨vs, r2, p2⟩ := dBL_ok ds us h.2
      exact ⟨v :: vs, .cons r1 r2, fun ρ H => ⟨v, vs, rfl, p1 ρ H, p2 ρ H⟩⟩
end
/-! ### defaults -/
def dflC (K : PySem.W.Frag) (dV : Value) (ds : List D) : Bool := match ds with
  | [] => (match dV with | .none => true | _ => false)
  | d :: ds => (match dV with
    | .ref T => (match K.lookup T with
      | some ⟨_, _, .seq its _, _⟩ => dBL K (d :: ds) its.toList
      | _ => false)
    | _ => false)
theorem dflC_ok {K : PySem.W.Frag} {dV : Value} {ds : List D} (h : dflC K dV ds = true) : ∃ dvs, DflV K dV dvs ∧ DfOk K ds dvs := by
  cases ds with
  | nil =>
    cases dV <;> first | (cases h; done) | exact ⟨[], .inl ⟨rfl, rfl⟩, fun _ _ => rfl⟩
  | cons d ds =>
    cases dV <;> first | (cases h; done) | skip
    rename_i T
    cases q : K.lookup T with
    | none => simp only [dflC, q] at h; cases h
    | some o =>
      obtain ⟨oc, od, dt, osl⟩ := o
      simp only [dflC, q] at h
      cases dt <;> first | (cases h; done) | skip
      rename_i its n
      obtain ⟨vs, r, rp⟩ := dBL_ok _ _ h
      refine ⟨vs, .inr ⟨fun e => ?_, T, _, its.toList, n, rfl, q, by simp, r⟩, rp⟩
      have := (rp ⟨[], []⟩ (fun _ => none)).length
      rw [e] at this
      simp at this
def kwdC (K : PySem.W.Frag) (kV : Value) (qs : List (Str × D)) : Bool := match qs with
  | [] => true
  | qs => (match kV with
    | .ref D0 => qs.all fun q => (match PySem.W.nsIn K D0 q.1 with
      | some (some u) => dB K q.2 u
      | _ => false)
    | _ => false)
theorem kwdC_ok {K : PySem.W.Frag} {kV : Value} {qs : List (Str × D)} (h : kwdC K kV qs = true) : ∃ kws : List (Str × V), KwdV K kV kws ∧ kws.map (·.1) = qs.map (·.1) ∧ DfOk K (qs.map (·.2)) (kws.map (·.2)) := by
  cases qs with
  | nil => exact ⟨[], .inl rfl, rfl, fun _ _ => rfl⟩
  | cons q qs =>
    cases kV <;> first | (cases h; done) | skip
    rename_i D0
    have h' := List.all_eq_true.mp (show ((q :: qs).all fun q => (match PySem.W.nsIn K D0 q.1 with
      | some (some u) => dB K q.2 u
      | _ => false)) = true from h)
    have go : ∀ l : List (Str × D), (∀ q ∈ l, (match PySem.W.nsIn K D0 q.1 with
      | some (some u) => dB K q.2 u
      | _ => false) = true) → ∃ kws : List (Str × V), (∀ p ∈ kws, ∃ u, PySem.W.nsIn K D0 p.1 = some (some u) ∧ L2.RelV p.2 u) ∧ kws.map (·.1) = l.map (·.1) ∧ DfOk K (l.map (·.2)) (kws.map (·.2)) := by
      intro l
      induction l with
      | nil => intro _; exact ⟨[], fun p hp => by simp at hp, rfl, fun _ _ => rfl⟩
      | cons p l ih =>
        intro hl
        obtain ⟨kws, k1, k2, k3⟩ := ih fun q hq => hl q (List.mem_cons_of_mem _ hq)
        have hp := hl p List.mem_cons_self
        split at hp
        · rename_i u hu
          obtain ⟨v, r, rp⟩ := dB_ok _ _ hp
          refine ⟨(p.1, v) :: kws, fun z hz => ?_, by simp [k2], fun ρ H => ⟨v, _, rfl, rp ρ H, k3 ρ H⟩⟩
          rcases List.mem_cons.mp hz with e | hz
          · rw [e]; exact ⟨u, hu, r⟩
          · exact k1 z hz
        · cases hp
    obtain ⟨kws, k1, k2, k3⟩ := go _ h'
    exact ⟨kws, .inr ⟨D0, rfl, k1⟩, k2, k3⟩
/-! ### a def -/
abbrev FnG : Type := Option (Str × Str × Arguments × FuncBody × Scope × Addr × List Str × Addr)
def fnG (K : PySem.W.Frag) (a : Addr) : FnG := match K.lookup a with
  | some ⟨_, _, .func fd, _⟩ => some (fd.name, fd.qualname, fd.params, fd.body, fd.scope, fd.globals, fd.closure.map (·.1), fd.builtins)
  | _ => none
structure DefG where
  at_ : PySem.W.Frag → Addr
  name : Str
  qual : Str
  params : Arguments
  body : List Stmt
  scope : Scope
  dfl : List D := []
  kwd : List (Str × D) := []
  sup : Option (Str × Str) := none
def supNames : Option (Str × Str) → List Str
  | none => []
  | some _ => ["__class__"]
def DefG.val (d : DefG) : FnG := some (d.name, d.qual, d.params, .stmts d.body, d.scope, mainGlobals, supNames d.sup, builtinsNs)
/-- super(): the class cell, the code's file -/
def supB (K : PySem.W.Frag) (cl : List (Str × Addr)) (code : Value) (C file : Str) : Bool := (match cl with
  | [(_, cc)] => (match K.lookup cc with
    | some ⟨_, _, .cell (some (.ref a)), _⟩ => decide (a = ga K C)
    | _ => false)
  | _ => false) && ((PySem.W.clsIn K (ga K C)).isSome && ((match code with
  | .ref ca => (match K.lookup ca with
    | some ⟨_, _, .fields vs, _⟩ => (match (vs[2]? : Option Value) with
      | some (Value.str f _) => decide (f = file)
      | _ => false)
    | _ => false)
  | _ => false) && decide (PySem.W.nsIn K PySem.cStatics "thirdparty.any" = some none)))
def DefG.ok (K : PySem.W.Frag) (d : DefG) : Bool := PySem.W.keepIn K (.ref (d.at_ K)) && (match K.lookup (d.at_ K) with
  | some ⟨_, _, .func fd, _⟩ => PySem.W.codeIn K fd.code d.qual && (dflC K fd.defaults d.dfl && (kwdC K fd.kwdefaults d.kwd && (match d.sup with
    | none => true
    | some (C, file) => supB K fd.closure fd.code C file)))
  | _ => false)
/-- as the walk wants it -/
structure SupK (K : PySem.W.Frag) (cc : Addr) (C file : Str) (fd : FuncData) : Prop where
  cc : ∃ o, K.lookup cc = some o ∧ o.data = .cell (some (.ref (ga K C)))
  dc : ∃ cd, PySem.W.clsIn K (ga K C) = some cd
  cd : ∃ ca o vs tf, fd.code = .ref ca ∧ K.lookup ca = some o ∧ o.data = .fields vs ∧ vs[2]? = some (.str file tf)
  ls : PySem.W.nsIn K PySem.cStatics "thirdparty.any" = some none
theorem SupK.g {K : PySem.W.Frag} {P : Program} {cc : Addr} {C file : Str} {fd : FuncData} (s : SupK K cc C file fd) (hf : ((P.main.file : Str) == file) = true) (ht : (P.main.scope.names.lookup ("super" : Str)).isSome = false) : SupG K P cc (ga K C) fd := by
  obtain ⟨ca, o, vs, tf, h1, h2, h3, h4⟩ := s.cd
  exact ⟨s.cc, s.dc, ⟨ca, o, vs, file, tf, h1, h2, h3, h4, hf⟩, ht, s.ls⟩
theorem supB_ok {K : PySem.W.Frag} {cl : List (Str × Addr)} {C file : Str} {fd : FuncData} (hn : cl.map (·.1) = [("__class__" : Str)]) (h : supB K cl fd.code C file = true) : ∃ cc, cl = [(("__class__" : Str), cc)] ∧ SupK K cc C file fd := by
  obtain ⟨h1, h⟩ := ba h
  obtain ⟨h2, h⟩ := ba h
  obtain ⟨h3, h4⟩ := ba h
  cases cl with
  | nil => simp at hn
  | cons p r =>
    obtain ⟨x, cc⟩ := p
    cases r with
    | cons q r => simp at hn
    | nil =>
      simp only [List.map_cons, List.map_nil, List.cons.injEq, and_true] at hn
      subst hn
      refine ⟨cc, rfl, ?_, ?_, ?_, of_decide_eq_true h4⟩
      · cases q : K.lookup cc with
        | none => simp only [q] at h1; cases h1
        | some o =>
          simp only [q] at h1
          obtain ⟨oc, od, dt, osl⟩ := o
          cases dt <;> first | (cases h1; done) | skip
          rename_i ov
          cases ov <;> first | (cases h1; done) | skip
          rename_i v
          cases v <;> first | (cases h1; done) | skip
          rename_i a
          exact ⟨_, rfl, by rw [of_decide_eq_true h1]⟩
      · obtain ⟨cd, hcd⟩ := Option.isSome_iff_exists.mp h2
        exact ⟨cd, hcd⟩
      · cases hc : fd.code <;> simp only [hc] at h3 <;> first | (cases h3; done) | skip
        rename_i ca
        cases q : K.lookup ca with
        | none => simp only [q] at h3; cases h3
        | some o =>
          simp only [q] at h3
          obtain ⟨oc, od, dt, osl⟩ := o
          cases dt <;> first | (cases h3; done) | skip
          rename_i vs
          dsimp only at h3
          cases z : vs[2]? with
          | none => simp only [z] at h3; cases h3
          | some v =>
            simp only [z] at h3
            cases v <;> first | (cases h3; done) | skip
            rename_i f tf
            exact ⟨ca, _, vs, tf, rfl, q, rfl, by rw [z, of_decide_eq_true h3]⟩
theorem DefG.funG {K : PySem.W.Frag} {d : DefG} (e : fnG K (d.at_ K) = d.val) (c : d.ok K = true) : ∃ fd cl, FunG K cl d.name d.qual d.params d.body d.scope d.dfl d.kwd (d.at_ K) fd ∧ (d.sup = none → cl = []) ∧ ∀ C file, d.sup = some (C, file) → ∃ cc, cl = [(("__class__" : Str), cc)] ∧ SupK K cc C file fd := by
  obtain ⟨kp, c2⟩ := ba c
  unfold fnG at e
  cases q : K.lookup (d.at_ K) with
  | none => rw [q] at c2; cases c2
  | some o =>
    obtain ⟨oc, od, dt, osl⟩ := o
    rw [q] at c2 e
    cases dt <;> first | (cases c2; done) | skip
    rename_i fd
    obtain ⟨n1, n2, n3, n4, n5, n6, n7, n8, n9, n10, n11, n12, n13, n14, n15⟩ := fd
    have e2 : (some (n1, n2, n3, n4, n5, n6, n7.map (·.1), n15) : FnG) = some (d.name, d.qual, d.params, .stmts d.body, d.scope, mainGlobals, supNames d.sup, builtinsNs) := e
    simp only [Option.some.injEq, Prod.mk.injEq] at e2
    obtain ⟨h1, h2, h3, h4, h5, h6, h7, h8⟩ := e2
    subst h1 h2 h3 h4 h5 h6 h8
    obtain ⟨k1, k2⟩ := ba c2
    obtain ⟨k3, k4⟩ := ba k2
    obtain ⟨k5, k6⟩ := ba k4
    obtain ⟨dvs, dd1, dd2⟩ := dflC_ok k3
    obtain ⟨kws, kk1, kk2, kk3⟩ := kwdC_ok k5
    refine ⟨_, n7, ⟨⟨oc, od, n8, n9, n10, n11, n12, n13, n14, osl, dvs, kws, rfl, q, k1, dd1, kk1, dd2, kk2, kk3⟩, kp⟩, fun hs => ?_, fun C file hs => ?_⟩
    · rw [hs] at h7
      exact List.map_eq_nil_iff.mp h7
    · rw [hs] at h7 k6
      exact supB_ok h7 k6
/-! ### facts -/
abbrev Fc := PySem.W.Frag → Bool
def noLst (K : PySem.W.Frag) : Bool := K.all fun p => !(p.2.cls == .type "list")
theorem noLst_ok {K : PySem.W.Frag} (h : noLst K = true) {H : Hp} {a : Addr} {xs : List V} (s : SqL K H a xs) : Rd H a (.lst xs) := by
  rcases s with s | ⟨o, its, n, h1, h2, _⟩
  · exact s
  · have z := List.all_eq_true.mp h (a, o) (look_mem' (tb := K) h1)
    dsimp only at z
    rw [h2] at z
    simp at z
/-- a table of code objects -/
def isTab (o : Obj) : Bool := match o.data with
  | .fields _ => o.cls == .none
  | _ => false
/-- the heap's part, without lists and tables -/
def frN (g : Addr → Option Obj) (as : List Addr) : PySem.W.Frag := frG (fun a => (g a).bind fun o => if (o.cls == .type "list" || isTab o) = true then none else some o) as
theorem frN_in {as : List Addr} {h : Heap} : (frN h.get? as).In h := fun a o e => by
  have z := frG_at as e
  obtain ⟨p, h1, h2⟩ := Option.bind_eq_some_iff.mp z
  split at h2
  · cases h2
  · cases h2; exact h1
def asN (g : Addr → Option Obj) : Nat → List Addr
  | 0 => [mainGlobals, PySem.cStatics]
  | n + 1 => growD g (asN g n)
abbrev AlG : Type := Bool × List FnG
def obsK (fa : List Fc) (fn : List DefG) (K : PySem.W.Frag) : AlG := (noLst K && ((fa.all fun f => f K) && fn.all fun d => d.ok K), fn.map fun d => fnG K (d.at_ K))
def valG (fn : List DefG) : AlG := (true, fn.map DefG.val)
def SaysG (fa : List Fc) (fn : List DefG) (K : PySem.W.Frag) : Prop := obsK fa fn K = valG fn
def obsGG (n : Nat) (fa : List Fc) (fn : List DefG) (g : Addr → Option Obj) : AlG := obsK fa fn (frN g (asN g n))
def hookG (n : Nat) (fa : List Fc) (fn : List DefG) : PySem.W.Hook where
  α := AlG
  obs := fun s => obsGG n fa fn s.heap.get?
  val := fun _ => valG fn
  says := fun _ h => ∃ K : PySem.W.Frag, K.In h ∧ SaysG fa fn K
  of := fun _ _ e => ⟨_, frN_in, e⟩
  keeps := fun _ _ _ ⟨K, hK, c⟩ k => ⟨K, PySem.W.Frag.In.keeps hK k, c⟩
theorem obsGG_eq {n : Nat} {fa : List Fc} {fn : List DefG} {g : Addr → Option Obj} {s : Shared} (h : ∀ a, g a = s.heap.get? a) : obsGG n fa fn g = (hookG n fa fn).obs s := by
  have e : g = s.heap.get? := funext h
  rw [e] <;> rfl
section
variable {fa : List Fc} {fn : List DefG} {K : PySem.W.Frag}
theorem SaysG.nol (c : SaysG fa fn K) : noLst K = true := (ba (show (noLst K && ((fa.all fun f => f K) && fn.all fun d => d.ok K)) = true from congrArg (fun z : AlG => z.1) c)).1
theorem SaysG.fact (c : SaysG fa fn K) (i : Nat) {f : Fc} (h : fa[i]? = some f := by rfl) : f K = true := by
  have c1 := (ba (ba (show (noLst K && ((fa.all fun f => f K) && fn.all fun d => d.ok K)) = true from congrArg (fun z : AlG => z.1) c)).2).1
  exact List.all_eq_true.mp c1 f (List.mem_of_getElem? h)
theorem SaysG.def_ (c : SaysG fa fn K) (i : Nat) {d : DefG} (h : fn[i]? = some d := by rfl) : ∃ fd cl, FunG K cl d.name d.qual d.params d.body d.scope d.dfl d.kwd (d.at_ K) fd ∧ (d.sup = none → cl = []) ∧ ∀ C file, d.sup = some (C, file) → ∃ cc, cl = [(("__class__" : Str), cc)] ∧ SupK K cc C file fd := by
  have c2 := (ba (ba (show (noLst K && ((fa.all fun f => f K) && fn.all fun d => d.ok K)) = true from congrArg (fun z : AlG => z.1) c)).2).2
  have e : fn.map (fun d => fnG K (d.at_ K)) = fn.map DefG.val := congrArg (fun z : AlG => z.2) c
  have e2 : (fn.map fun d => fnG K (d.at_ K))[i]? = (fn.map DefG.val)[i]? := by rw [e]
  rw [List.getElem?_map, List.getElem?_map, h] at e2
  exact DefG.funG (Option.some.inj e2) (List.all_eq_true.mp c2 d (List.mem_of_getElem? h))
end
/-- where things stand -/
def atG (x : Str) : PySem.W.Frag → Addr := fun K => ga K x
def atM (C m : Str) : PySem.W.Frag → Addr := fun K => ma K (ga K C) m
def getA (K : PySem.W.Frag) (p : Addr) : Addr := match PySem.W.recIn K p "property" with
  | some (.ref g :: _) => g
  | _ => 0
def atP (C f : Str) : PySem.W.Frag → Addr := fun K => getA K (ma K (ga K C) f)
/-- the superclass's method -/
def supA (K : PySem.W.Frag) (C D m : Str) : Addr := match PySem.W.ks_superIn K (ga K C) (ga K D) m with
  | some (some (.ref g)) => g
  | _ => 0
def fGlo (x : Str) : Fc := fun K => eqO (PySem.W.nsIn K mainGlobals x) (some (some (.ref (ga K x))))
def fFree (x : Str) : Fc := fun K => eqO (PySem.W.nsIn K mainGlobals x) (some none)
def fInt (x : Str) (i : Int) : Fc := fun K => (match PySem.W.nsIn K mainGlobals x with | some (some (.int j _)) => decide (j = i) | _ => false)
def fStr (x z : Str) : Fc := fun K => (match PySem.W.nsIn K mainGlobals x with | some (some (.str j _)) => decide (j = z) | _ => false)
def fFa (f : He.Fa) : Fc := fun K => f.ok K
def fCon (C f : Str) (d : D) : Fc := fun K => (match PySem.W.findIn K (.ref (ga K C)) f with
  | some (some u) => dB K d u && (decide (PySem.W.specialIn K u "__get__" = some none) && decide (PySem.W.copiedNames.contains f = false))
  | _ => false)
def fProp (C f : Str) : Fc := fun K => eqO (PySem.W.findIn K (.ref (ga K C)) f) (some (some (.ref (ma K (ga K C) f)))) && (decide (PySem.W.specialIn K (.ref (ma K (ga K C) f)) "__get__" = some (some (.builtin "property.__get__"))) &&
  (decide (PySem.W.takesIn K (.ref (ma K (ga K C) f)) = some true) && (match PySem.W.recIn K (ma K (ga K C) f) "property" with | some (.ref g :: _) => decide (g = getA K (ma K (ga K C) f)) | _ => false)))
def fSup (C D m : Str) : Fc := fun K => decide (PySem.W.mroIn K (ga K C) (.ref (ga K D)) = some true) && (decide (PySem.W.ks_superIn K (ga K C) (ga K D) m = some (some (.ref (supA K C D m)))) &&
  (decide (PySem.W.typeIn K (.ref (supA K C D m)) = some (.type "function")) && PySem.W.fnIn K (supA K C D m)))
/-- the superclass's method is D2's -/
def fSame (C D m D2 : Str) : Fc := fun K => decide (supA K C D m = ma K (ga K D2) m)
def fSameM (C m D2 : Str) : Fc := fun K => decide (ma K (ga K C) m = ma K (ga K D2) m)
def fIs (p : (TyK × TyK) × Bool) : Fc := fun K => decide (PySem.W.kitOne K (valK K p.1.1) (valK K p.1.2) = some p.2)
def fOwn (C : Str) : Fc := fun K => eqO (PySem.W.findIn K (.ref (ga K C)) "__class__") (some (some (.builtin "object.__class__"))) && (decide (PySem.W.specialIn K (.builtin "object.__class__") "__get__" = some (some (.builtin "getset_descriptor.__get__"))) &&
  (decide (PySem.W.takesIn K (.builtin "object.__class__") = some true) && decide (PySem.W.mroIn K (ga K C) (.type "object") = some true)))
section
variable {K : PySem.W.Frag}
theorem fCon_ok {C f : Str} {d : D} (h : fCon C f d K = true) : ∃ v u, Con K (ga K C) f v u ∧ ∀ ρ H, Rp K ρ H d v := by
  unfold fCon at h
  split at h
  · rename_i u hu
    obtain ⟨h1, h2⟩ := ba h
    obtain ⟨h3, h4⟩ := ba h2
    obtain ⟨v, r, rp⟩ := dB_ok d u h1
    exact ⟨v, u, ⟨hu, r, of_decide_eq_true h3, of_decide_eq_true h4⟩, rp⟩
  · cases h
theorem fProp_ok {C f : Str} (h : fProp C f K = true) : PropOf K (ga K C) f (ma K (ga K C) f) (atP C f K) := by
  obtain ⟨h1, h⟩ := ba h
  obtain ⟨h2, h⟩ := ba h
  obtain ⟨h3, h4⟩ := ba h
  refine ⟨eqO_ok h1, of_decide_eq_true h2, of_decide_eq_true h3, ?_⟩
  split at h4
  · rename_i g rest hr
    exact ⟨rest, by rw [hr, of_decide_eq_true h4]; rfl⟩
  · cases h4
theorem fOwn_ok {C : Str} (h : fOwn C K = true) (c : Cls K (ga K C)) : OwnTy K (ga K C) := by
  obtain ⟨h1, h⟩ := ba h
  obtain ⟨h2, h⟩ := ba h
  obtain ⟨h3, h4⟩ := ba h
  exact ⟨c, eqO_ok h1, of_decide_eq_true h2, of_decide_eq_true h3, of_decide_eq_true h4⟩
theorem isok_nil : IsOk K [] := fun p h => absurd h (by simp)
theorem isok_cons {p : (TyK × TyK) × Bool} {tb : IsTb} (h : fIs p K = true) (ho : p.1.1.1 = true → OwnTy K (ga K (Str.ofString p.1.1.2))) (r : IsOk K tb) : IsOk K (p :: tb) := fun q hq => by
  rcases List.mem_cons.mp hq with e | e
  · subst e; exact ⟨of_decide_eq_true h, ho⟩
  · exact r q e
end
/-! ### the law -/
/-- the law's def answers true at every script -/
def mTrue (m : Mf) (n : Nat) : Prop := ∀ ns : List Int, ns.length ≤ n → ∃ S', m 0 [.lst (ns.map .int)] [] = .ok (.bl true) S'
/-! ### tables -/
def isTabO : Option Obj → Bool
  | some ⟨.none, none, .fields vs, sl⟩ => vs.toList.isEmpty && sl.toList.isEmpty
  | _ => false
theorem isTabO_ok {o : Option Obj} (h : isTabO o = true) : o = some { cls := .none, data := .fields #[] } := by
  unfold isTabO at h
  split at h
  · rename_i vs sl
    simp only [Bool.and_eq_true, List.isEmpty_iff] at h
    obtain ⟨vs⟩ := vs
    obtain ⟨sl⟩ := sl
    obtain ⟨h1, h2⟩ := h
    dsimp only at h1 h2
    subst h1 h2
    rfl
  · cases h
def tabB (g : Addr → Option Obj) (K : PySem.W.Frag) : Bool := match codeK K with
  | some (c, P) => PySem.W.codeHdIn K c P && ((K.lookup P).isNone && isTabO (g P))
  | none => true
/-- the maker's code object, its table, empty as yet -/
def TabAt (K : PySem.W.Frag) (h : Heap) : Prop := ∀ c P, codeK K = some (c, P) → PySem.W.codeHdIn K c P = true ∧ K.lookup P = none ∧ h.get? P = some { cls := .none, data := .fields #[] }
theorem tabB_ok {K : PySem.W.Frag} {h : Heap} (e : tabB h.get? K = true) : TabAt K h := fun c P hc => by
  unfold tabB at e
  rw [hc] at e
  obtain ⟨h1, h2⟩ := ba e
  obtain ⟨h3, h4⟩ := ba h2
  exact ⟨h1, Option.isNone_iff_eq_none.mp h3, isTabO_ok h4⟩
abbrev AlT : Type := Bool × AlG
def obsTT (n : Nat) (fa : List Fc) (fn : List DefG) (g : Addr → Option Obj) : AlT := (tabB g (frN g (asN g n)), obsK fa fn (frN g (asN g n)))
def hookT (n : Nat) (fa : List Fc) (fn : List DefG) : PySem.W.Hook where
  α := AlT
  obs := fun s => obsTT n fa fn s.heap.get?
  val := fun _ => (true, valG fn)
  says := fun _ h => ∃ K : PySem.W.Frag, K.In h ∧ SaysG fa fn K ∧ TabAt K h
  of := fun _ _ e => ⟨_, frN_in, congrArg Prod.snd e, tabB_ok (congrArg Prod.fst e)⟩
  keeps := fun _ _ _ ⟨K, hK, c, t⟩ k => ⟨K, PySem.W.Frag.In.keeps hK k, c, fun a P e => ⟨(t a P e).1, (t a P e).2.1, k _ _ (t a P e).2.2⟩⟩
theorem obsTT_eq {n : Nat} {fa : List Fc} {fn : List DefG} {g : Addr → Option Obj} {s : Shared} (h : ∀ a, g a = s.heap.get? a) : obsTT n fa fn g = (hookT n fa fn).obs s := by
  have e : g = s.heap.get? := funext h
  rw [e] <;> rfl
theorem law_sp {K : PySem.W.Frag} {m : Mf} {n : Nat} (hm : mTrue m n) (hK : noLst K = true) (H : Hp) (a : Addr) (ns : List Int) (hl : ns.length ≤ n) (hT : ∀ c P, codeK K = some (c, P) → H P = some (.tbl #[])) (hs : SqL K H a (ns.map V.int)) : spD K 1 m [.ref a] H (fun v _ => v = .bl true) fun _ _ _ => False := by
  obtain ⟨S', e⟩ := hm ns hl
  refine ⟨rfl, 0, ⟨[], []⟩, [], [.lst (ns.map .int)], ⟨rfl, List.nodup_nil, fun i a c h => by simp at h, fun a h => by simp at h, fun c P hc => ⟨by simp [Ad.av], #[], hT c P hc, True.intro, fun pos cv z => by cases z⟩⟩, ?_, ?_⟩
  · exact RpL.s (ds := [.lst (ns.map .int)]) ⟨_, [], rfl, ⟨a, _, rfl, ⟨noLst_ok hK hs, by simp [Ad.av]⟩, rp_ints⟩, rfl⟩
  · rw [e]
    exact fun v ρ' H' g r f => r
end G

/-! what the printed walks lean on -/
namespace G
open PySem PySem.Spec PyProof.Rows L2
section
variable {X : Cx} {W : WX} {pos p1 p2 : Pos}
theorem va {i : Nat} {x : Str} (hN : X.N[i]? = some x) (hv : Vis X.env.scope x) (hd : (x == ("__debug__" : Str)) = false := by decide) (hcd : (x == ("__classdict__" : Str)) = false := by decide) : SE X W (.Name x pos) (dVar i) := se_var (t := tVar i) (pe_var hN hv hd hcd)
theorem su_chain {a b c : Expr} {da db dc : DE} {o o' : CmpOp} {op op' : Op2} (h : Rl X W (compareOp o) op) (h' : Rl X W (compareOp o') op') (ha : SE X W a da) (hb : SE X W b db) (hc : SE X W c dc)
    (hm : lastMarks [o, o'] [b, c] = false := by with_unfolding_all rfl) : SE X W (.Compare a [o, o'] [b, c] pos) (dChain op op' da db dc) := by
  obtain ⟨r, h1, h2⟩ := h.ex
  obtain ⟨r', h3, h4⟩ := h'.ex
  exact se_chain h1 h2 h3 h4 ha hb hc hm
theorem tu_chain {a b c : Expr} {da db dc : DE} {o o' : CmpOp} {op op' : Op2} (h : Rl X W (compareOp o) op) (h' : Rl X W (compareOp o') op') (ha : SE X W a da) (hb : SE X W b db) (hc : SE X W c dc)
    (hm : lastMarks [o, o'] [b, c] = false := by with_unfolding_all rfl) : ST X W (.Compare a [o, o'] [b, c] pos) (dTest (dChain op op' da db dc)) := by
  obtain ⟨r, h1, h2⟩ := h.ex
  obtain ⟨r', h3, h4⟩ := h'.ex
  exact st_chain h1 h2 h3 h4 ha hb hc hm
/-- C.f, a constant read off its class -/
def dCval (tb : List (String × D)) (de : DE) : DE := fun n δ S => (de n δ S).bind fun d S1 => match d with
  | .glo C => match tb.lookup C with
    | some v => .ok v S1
    | none => .bad
  | _ => .bad
def fCv (C f : Str) (d : D) : Fc := fun K => PySem.W.readsIn K (He.ga K C) (.type "type") && (match PySem.W.findCls K (.ref (He.ga K C)) (.type "type") f with
  | some (.val u) => dB K d u
  | _ => false)
theorem fCv_ok {K : PySem.W.Frag} {C f : Str} {d : D} (h : fCv C f d K = true) : PySem.W.readsIn K (He.ga K C) (.type "type") = true ∧ ∃ v u, ClX.CVal K (He.ga K C) (.type "type") f v u ∧ ∀ ρ H, Rp K ρ H d v := by
  obtain ⟨h1, h2⟩ := He.ba h
  refine ⟨h1, ?_⟩
  split at h2
  · rename_i u hu
    obtain ⟨v, r, rp⟩ := dB_ok d u h2
    exact ⟨v, u, ⟨hu, r⟩, rp⟩
  · cases h2
theorem se_cval {e : Expr} {de : DE} {f : Str} {tb : List (String × D)} (he : SE X W e de) (ht : ∀ p ∈ tb, fCv (Str.ofString p.1) f p.2 X.K = true) (hb : attributeBase e f X.env (eval e X.env) = eval e X.env := by rfl) : SE X W (.Attribute e f pos) (dCval tb de) := by
  refine ⟨fun pins s σ H Q I ⟨n, ρ, S, δ, g, en, r⟩ => ?_⟩
  refine attr_of hb (thn (he.run pins s σ H _ I ⟨n, ρ, S, δ, g, en, Rest.bind (rel' := Rp X.K) en r⟩) fun u s1 ⟨v, H1, I1, rv, ρ1, S1, d1, g1, e1, r1, f1, q⟩ => ?_)
  split at q
  · rename_i C
    cases r1
    obtain rfl : u = Value.ref _ := rv
    split at q
    · rename_i d hd
      obtain ⟨h1, v, w, k, rp⟩ := fCv_ok (ht _ (look_mem hd))
      exact PySem.W.cls_value I1.kIn h1 k.at_ (handed_of k.rel) ⟨v, H1, I1.tok _, k.rel, q.val g1 (rp ρ1 H1)⟩
    · exact False.elim q
  · exact False.elim q
end
/-- all that a walk leans on -/
structure FctOf (fa : List Fc) (fn : List DefG) (file : Str) (P : Program) (K : PySem.W.Frag) (mg : Str → Option Value) : Prop where
  X : ∃ h : Heap, K.In h ∧ h.Ns mainGlobals mg
  c : SaysG fa fn K
  file : ((P.main.file : Str) == file) = true
  top : (P.main.scope.names.lookup ("super" : Str)).isSome = false
section
variable {fa : List Fc} {fn : List DefG} {file : Str} {P : Program} {K : PySem.W.Frag} {mg : Str → Option Value}
theorem FctOf.glo (F : FctOf fa fn file P K mg) (i : Nat) {x : Str} (h : fa[i]? = some (fGlo x) := by rfl) : mg x = some (.ref (He.ga K x)) := by
  obtain ⟨hh, X, N⟩ := F.X
  exact PySem.W.mg_of X N (He.eqO_ok (F.c.fact i h))
theorem FctOf.free (F : FctOf fa fn file P K mg) (i : Nat) {x : Str} (h : fa[i]? = some (fFree x) := by rfl) : mg x = none := by
  obtain ⟨hh, X, N⟩ := F.X
  exact PySem.W.mg_none_of X N (He.eqO_ok (F.c.fact i h))
theorem FctOf.int (F : FctOf fa fn file P K mg) (i : Nat) {x : Str} {z : Int} (h : fa[i]? = some (fInt x z) := by rfl) : ∃ t, mg x = some (.int z t) := by
  obtain ⟨hh, X, N⟩ := F.X
  exact He.int_ok X N (x := x) (i := z) (F.c.fact i h)
theorem FctOf.str (F : FctOf fa fn file P K mg) (i : Nat) {x z : Str} (h : fa[i]? = some (fStr x z) := by rfl) : ∃ t, mg x = some (.str z t) := by
  obtain ⟨hh, X, N⟩ := F.X
  exact He.str_ok X N (x := x) (z := z) (F.c.fact i h)
theorem FctOf.he (F : FctOf fa fn file P K mg) (i : Nat) {f : He.Fa} (h : fa[i]? = some (fFa f) := by rfl) : f.ok K = true := F.c.fact i h
end
def clsBody (s : Stmt) : List Stmt := match s with
  | .ClassDef (body := b) .. => b
  | _ => []
/-- a def's place in a class -/
def clsAt (s : Stmt) (i : Nat) : Stmt := (clsBody s).getD i (.Pass ⟨0, 0, 0, 0⟩)
/-- what is known of a def -/
structure OkD (P : Program) (w : World) (K : PySem.W.Frag) (mg : Str → Option Value) (base : Heap) (k : Nat) (d : DefG) (ps : List Str) (m : Mf) : Prop where
  ex : ∃ fd cl, FunG K cl d.name d.qual d.params d.body d.scope d.dfl d.kwd (d.at_ K) fd ∧ FnOk P w K mg base (L2.CX P w) k (d.at_ K) fd ps (spD K ps.length m) ∧ Arity m ps.length
section
variable {fa : List Fc} {fn : List DefG} {file : Str} {P : Program} {w : World} {K : PySem.W.Frag} {mg : Str → Option Value} {base : Heap} {k : Nat} {d : DefG} {N ps : List Str} {db : DS}
theorem okd_pure (F : FctOf fa fn file P K mg) (i : Nat) (hi : fn[i]? = some d) (hs : d.sup = none) (S : FnScope N ps d.scope)
    (hb : ∀ (cdv : Value) (A : Around) (outer : List Env) (s : Shared) (H : Hp) (E : XK), Room k (A.deeper (envOfC d.qual d.scope s.heap.objs.size (d.at_ K) cdv)) → Takes (bodyX P w K mg base N d.qual d.scope (d.at_ K) cdv A outer s H E) (WE0 E) →
      SB (bodyX P w K mg base N d.qual d.scope (d.at_ K) cdv A outer s H E) (WE0 E) d.body db) : OkD P w K mg base (k + 1) d ps (mPure ps.length N.length db) := by
  obtain ⟨fd, cl, G, h1, _⟩ := F.c.def_ i hi
  obtain rfl := h1 hs
  obtain ⟨dvs, kws, FD⟩ := G.funD
  exact ⟨fd, [], G, fn_pure FD S hb, ar_pure⟩
theorem okd_keep (F : FctOf fa fn file P K mg) (i : Nat) (hi : fn[i]? = some d) (hs : d.sup = none) (S : FnScope N ps d.scope)
    (hb : ∀ (cdv : Value) (A : Around) (outer : List Env) (s : Shared) (H : Hp) (E : XK), Room k (A.deeper (envOfC d.qual d.scope s.heap.objs.size (d.at_ K) cdv)) → Takes (bodyX P w K mg base N d.qual d.scope (d.at_ K) cdv A outer s H E) (WE0 E) →
      SB (bodyX P w K mg base N d.qual d.scope (d.at_ K) cdv A outer s H E) (WE0 E) d.body db) : OkD P w K mg base (k + 1) d ps (mKeep ps.length N.length db) := by
  obtain ⟨fd, cl, G, h1, _⟩ := F.c.def_ i hi
  obtain rfl := h1 hs
  obtain ⟨dvs, kws, FD⟩ := G.funD
  exact ⟨fd, [], G, fn_keep FD S hb, ar_keep⟩
theorem okd_sup {C me : Str} (F : FctOf fa fn file P K mg) (i : Nat) (hi : fn[i]? = some d) (hs : d.sup = some (C, file)) (S : NdefX.NScope N ps ["__class__"] d.scope) (hgl : d.scope.names.lookup ("super" : Str) = some .globalImplicit) (hmg : mg "super" = none) (hp : ((d.params.posonlyargs ++ d.params.args).head?.map (·.arg)) = some me) (hps : ps[0]? = some me)
    (hb : ∀ (cc ca : Addr) (A : Around) (outer : List Env) (s : Shared) (H : Hp) (E : XK), Room k (A.deeper (NdefX.envF (supNF d.name d.qual d.params d.body d.scope cc ca) (d.at_ K) s.heap.objs.size)) → Takes (supCx P w K mg base N (supNF d.name d.qual d.params d.body d.scope cc ca) (d.at_ K) A outer s H E) (WE0 E) →
      SupX (supCx P w K mg base N (supNF d.name d.qual d.params d.body d.scope cc ca) (d.at_ K) A outer s H E) (He.ga K C) me →
      SBa (supCx P w K mg base N (supNF d.name d.qual d.params d.body d.scope cc ca) (d.at_ K) A outer s H E) d.body (WE0 E) d.body db) : OkD P w K mg base (k + 1) d ps (mKeep ps.length N.length db) := by
  obtain ⟨fd, cl, G, _, h1⟩ := F.c.def_ i hi
  obtain ⟨cc, rfl, hk⟩ := h1 C file hs
  exact ⟨fd, _, G, fn_sup G S (hk.g F.file F.top) hgl hmg hp hps (fun ca A outer s H E => hb cc ca A outer s H E), ar_keep⟩
end
section
variable {X : Cx} {k j : Nat} {d : DefG} {ps : List Str} {m : Mf} {np : Nat} {ks : List Str} {gD : List D → List D → List D}
/-- to be called -/
theorem cal_of (O : OkD X.prog X.w X.K X.mg X.base k d ps m) (hr : Room (k + j) X.A) (hk : ∀ fd cl, FunG X.K cl d.name d.qual d.params d.body d.scope d.dfl d.kwd (d.at_ X.K) fd → KwOk X.K fd ps np ks gD) : Cal X j (d.at_ X.K) np ks gD m := by
  obtain ⟨fd, cl, G, O, _⟩ := O.ex
  exact ⟨k, fd, ps, fnAt O, hr, hk fd cl G⟩
theorem prp_of (O : OkD X.prog X.w X.K X.mg X.base k d ps m) (hr : Room (k + 1) X.A) (h0 : d.dfl = []) (hl : ps.length = 1)
    (h : ∀ (cl : List (Str × Addr)) (kV doc pm : Value) (an : Option Addr) (cdv ct : Value) (us : List Value), us.length = ps.length → bindArgs (PySem.W.fnX d.name d.qual d.params d.body d.scope cl .none kV doc pm an cdv ct) ⟨us, []⟩ = pure (ps.zip us)) : Prp X (d.at_ X.K) m := by
  obtain ⟨fd, cl, G, O, _⟩ := O.ex
  rw [h0] at G
  exact ⟨k, fd, ps, O, hr, get_ok G (h cl), hl⟩
theorem mkn_of {x : Str} {C : String} (hg : Gl X x) (hm : X.mg x = some (.ref (He.ga X.K (Str.ofString C)))) (M : Mk X.K (He.ga X.K (Str.ofString C)) (d.at_ X.K)) (O : OkD X.prog X.w X.K X.mg X.base k d ps m) (hr : Room (k + 1) X.A)
    (hk : ∀ fd cl, FunG X.K cl d.name d.qual d.params d.body d.scope d.dfl d.kwd (d.at_ X.K) fd → KwMk X.K fd ps np ks gD) : Mkn X x C np ks gD m := by
  obtain ⟨fd, cl, G, O, ar⟩ := O.ex
  exact ⟨hg, hm, k, _, fd, ps, M, O, hr, hk fd cl G, ar⟩
end
/-! ### small helps -/
section
variable {K : PySem.W.Frag}
theorem tg_name {i : Nat} : TgOk K (gName i) (gN i) [i] := fun ρ H δ δ' σ d v Q en r e q => by cases e; exact q _ (en.set i r) fun vs h => wipe_set vs σ i _ (h i (by simp))
theorem tgs_nil : TgsOk K gNil gsN [] := fun ρ H δ δ' σ ds vs Q en r e q => by
  cases ds <;> cases e
  exact ⟨r, q _ en fun _ _ => rfl⟩
theorem tgs_cons {t : TG} {u : TGs} {g : GT} {gs : GTs} {is js : List Nat} (h1 : TgOk K t g is) (h2 : TgsOk K u gs js) : TgsOk K (gCons t u) (gsC g gs) (is ++ js) := by
  intro ρ H δ δ' σ ds vs Q en r e q
  cases ds with
  | nil => cases e
  | cons d ds =>
    obtain ⟨v, ws, rfl, r1, r2⟩ := r
    obtain ⟨δ1, e1, e2⟩ := Option.bind_eq_some_iff.mp (show (g d δ).bind (gs ds) = some δ' from e)
    exact ⟨v, ws, rfl, h1 ρ H δ δ1 σ d v _ en r1 e1 fun σ1 en1 w1 => h2 ρ H δ1 δ' σ1 ds ws Q en1 r2 e2 fun σ2 en2 w2 => q σ2 en2 fun vs h => (w2 vs fun i hi => h i (by simp [hi])).trans (w1 vs fun i hi => h i (by simp [hi]))⟩
theorem tg_tup {u : TGs} {gs : GTs} {is : List Nat} {n : Nat} (h : TgsOk K u gs is) (hl : ∀ ds δ δ', gs ds δ = some δ' → ds.length = n) : TgOk K (gTup K n u) (gT gs) is := by
  intro ρ H δ δ' σ d v Q en r e q
  cases d with
  | tup ds =>
    obtain ⟨a, vs, rfl, t, r⟩ := tup_rp r
    exact ⟨a, vs, rfl, t, by rw [r.length]; exact hl ds δ δ' e, h ρ H δ δ' σ ds vs Q en r e q⟩
  | _ => cases e
theorem ms_nil {kwd : List (Str × D)} : ∀ q ∈ ([] : List (Str × D)), q ∈ kwd := fun q h => absurd h (by simp)
theorem ms_cons {kwd ms : List (Str × D)} {m : Str × D} (i : Nat) (h : kwd[i]? = some m) (r : ∀ q ∈ ms, q ∈ kwd) : ∀ q ∈ m :: ms, q ∈ kwd := fun q hq => by
  rcases List.mem_cons.mp hq with e | hq
  · subst e; exact List.mem_of_getElem? h
  · exact r q hq
end
section
variable {X : Cx} {W : WX}
theorem mk_m {m C D0 : String} {np : Nat} {gD : List D → List D → List D} {f : Mf} (c : Cls X.K (He.ga X.K (Str.ofString C))) (k : Meth X.K (He.ga X.K (Str.ofString C)) (Str.ofString m) (He.ma X.K (He.ga X.K (Str.ofString C)) (Str.ofString m))) (hs : fSameM (Str.ofString C) (Str.ofString m) (Str.ofString D0) X.K = true)
    (r : Cal X 0 (atM (Str.ofString D0) (Str.ofString m) X.K) np [] gD f) : MkOk X [] m C ⟨np, gD, f⟩ := by
  have e : He.ma X.K (He.ga X.K (Str.ofString C)) (Str.ofString m) = atM (Str.ofString D0) (Str.ofString m) X.K := of_decide_eq_true hs
  exact ⟨c, _, k, by rw [e]; exact r⟩
theorem mkr_same {C D0 : Str} (M : Mk X.K (He.ga X.K C) (He.ma X.K (He.ga X.K C) "__init__")) (hs : fSameM C "__init__" D0 X.K = true) : Mk X.K (He.ga X.K C) (atM D0 "__init__" X.K) := by
  have e : He.ma X.K (He.ga X.K C) "__init__" = atM D0 "__init__" X.K := of_decide_eq_true hs
  rw [← e]; exact M
theorem sup_m {C D1 D0 : Str} {C' m : String} {np : Nat} {gD : List D → List D → List D} {f : Mf} (hC : C = Str.ofString C') (h : fSup C D1 (Str.ofString m) X.K = true) (hs : fSame C D1 (Str.ofString m) D0 X.K = true) (r : Cal X 0 (atM D0 (Str.ofString m) X.K) np [] gD f) : SupOk X (He.ga X.K D1) m C' ⟨np, gD, f⟩ := by
  subst hC
  obtain ⟨h1, h⟩ := He.ba h
  obtain ⟨h2, h⟩ := He.ba h
  obtain ⟨h3, h4⟩ := He.ba h
  have e : supA X.K (Str.ofString C') D1 (Str.ofString m) = atM D0 (Str.ofString m) X.K := of_decide_eq_true hs
  exact ⟨of_decide_eq_true h1, _, of_decide_eq_true h2, of_decide_eq_true h3, h4, by rw [e]; exact r⟩
theorem sua_op {bd : List Stmt} {o : Operator} {op : Op2} {a b : Expr} {da db : DE} {pos : Pos} (h : Rl X W (binaryOp o) op) (ha : SEa X bd W a da) (hb : SE X W b db) : SEa X bd W (.BinOp a o b pos) (dBin op da db) := by
  obtain ⟨r, h1, h2⟩ := h.ex
  exact sea_op h1 h2 ha hb
theorem blk_ok {own : List (Str × Nat)} {N : List Str} {sc scope : Scope} (h : blkC N sc scope own = true) : BlkOk N sc scope own := blkOk_by h
end
theorem units65 {k : Nat} {A : Around} (r : Room k A) : A.units + 65 < cLine := by have := r.un; omega
def lenD : D → Nat
  | .lst ds => ds.length
  | .tup ds => ds.length
  | .str s => s.length
  | .int i => i.natAbs
  | _ => 0
def lenC : Cell → Nat
  | .lst ds => ds.length
  | _ => 0
def fuelL (δ : Slots) (S : Store) : Nat := (δ.map fun o => match o with | some d => lenD d | none => 0).sum + (S.map lenC).sum + 1
/-! ### a, b = x, y and a, b, c = x, y, z with plain names -/
def dPar2 (i j : Nat) (da : DA) : DS := fun n δ S => (da n δ S).to δ fun ds S1 => match ds with
  | [v, w] => .nx ((δ.set i (some v)).set j (some w)) S1
  | _ => .bad
def dPar3 (i j k : Nat) (da : DA) : DS := fun n δ S => (da n δ S).to δ fun ds S1 => match ds with
  | [v, w, z] => .nx (((δ.set i (some v)).set j (some w)).set k (some z)) S1
  | _ => .bad
def tPar3 (i j k : Nat) (ta : TA) : TS := fun D σ H => ta σ H fun vs H1 => ∃ v w z, vs = [v, w, z] ∧ D.nx (((σ.set i (some v)).set j (some w)).set k (some z)) H1
section
variable {X : Cx} {W : WX} {i j l : Nat} {x y z : Str} {a b c : Expr} {ta : TA} {da : DA} {px py pz pt pos : Pos} {kt k2 pt2}
theorem ps_par3 (hc : X.calm = true) (hN : X.N.Nodup) (hi : X.N[i]? = some x) (hj : X.N[j]? = some y) (hl : X.N[l]? = some z) (hij : i ≠ j) (hil : i ≠ l) (hjl : j ≠ l)
    (hx : X.env.scope.names.lookup x = some .local) (hy : X.env.scope.names.lookup y = some .local) (hz : X.env.scope.names.lookup z = some .local) (ha : PA X [a, b, c] ta)
    (hw : swappedStores [.Tuple [.Name x px, .Name y py, .Name z pz] kt pt] (.Tuple [a, b, c] k2 pt2) X.env = pure (some [x, y, z]))
    (hs : swapsWithSole [.Tuple [.Name x px, .Name y py, .Name z pz] kt pt] (.Tuple [a, b, c] k2 pt2) pos.line X.env = pure false := by rfl) :
    PS X (.Assign [.Tuple [.Name x px, .Name y py, .Name z pz] kt pt] (.Tuple [a, b, c] k2 pt2) pos) (tPar3 i j l ta) := by
  refine ⟨fun pins s σ H D I h => ?_⟩
  rw [exec_Assign_arm]; refine wpAny_bind (wpAny_standAt ?_)
  rw [hs]; refine wpAny_bind (wpAny_pure ?_)
  rw [if_neg (by decide)]; refine wpAny_bind (Tuple_ (thn (ha.run _ pins s σ H _ I h) fun us s1 ⟨vs, H1, I1, r1, q1⟩ => ?_))
  obtain ⟨v, w, q, e1, q1⟩ := q1
  subst e1
  obtain ⟨u1, u2, u3, rfl, rv, rw', rq⟩ : ∃ u1 u2 u3, us = [u1, u2, u3] ∧ L2.RelV v u1 ∧ L2.RelV w u2 ∧ L2.RelV q u3 := by
    obtain _ | ⟨p, _ | ⟨p', _ | ⟨p'', _ | _⟩⟩⟩ := r1
    exact ⟨_, _, _, rfl, p, p', p''⟩
  refine wpAny_newObj_type ?_ (by show 3 ≤ sizeLine; decide)
  have I2 : Inv X pins σ H1 { s1 with heap := s1.heap.push { cls := .type "tuple", data := .seq [u1, u2, u3].toArray } } := I1.kept (t' := s1.toks) fun b o e => Heap.get?_push_of_some _ e
  rw [hw]; refine wpAny_bind (wpAny_pure ?_)
  show wpAny (model X.prog X.w) X.A (do rule "assign.swapped-stores"; let items ← unpackItems (.ref s1.heap.objs.size) 3 none; assignInOrder [fun v => bindName X.env z v, fun v => bindName X.env y v, fun v => bindName X.env x v] items.reverse; pure Flow.next) _ _ _
  refine wpAny_bind (wpAny_rule (wpAny_bind (unpackItems_tuple (items := #[u1, u2, u3]) (I.ok.hd hc) (IsTup.new s1.heap _) fun h' hx' => ?_)))
  have I3 := I2.kept (h' := h') (t' := s1.toks) fun b o e => hx' b o (Nat.ne_of_lt (Heap.lt_size e)) e
  show wpAny _ _ (assignInOrder [fun v => bindName X.env z v, fun v => bindName X.env y v, fun v => bindName X.env x v] [u3, u2, u1] >>= fun _ => pure Flow.next) _ _ _
  refine wpAny_bind (assignInOrder_cons (wpAny_bindName (store_ok I3 hN hl (.inl hz) rq (fun s2 I4 => ?_) (.inr hz))))
  refine assignInOrder_cons (wpAny_bindName (store_ok I4 hN hj (.inl hy) rw' (fun s3 I5 => ?_) (.inr hy)))
  refine assignInOrder_cons (wpAny_bindName (store_ok I5 hN hi (.inl hx) rv (fun s4 I6 => assignInOrder_nil (wpAny_pure ?_)) (.inr hx)))
  rw [List.set_comm _ _ hjl.symm, List.set_comm _ _ hil.symm, List.set_comm _ _ hij.symm] at I6
  exact ⟨_, H1, I6, q1⟩
theorem ss_par2 (hc : X.calm = true) (hN : X.N.Nodup) (hi : X.N[i]? = some x) (hj : X.N[j]? = some y) (hij : i ≠ j) (hx : X.env.scope.names.lookup x = some .local) (hy : X.env.scope.names.lookup y = some .local) (ha : SA X W [a, b] da)
    (hw : swappedStores [.Tuple [.Name x px, .Name y py] kt pt] (.Tuple [a, b] k2 pt2) X.env = pure (some [x, y]) := by rfl) (hs : swapsWithSole [.Tuple [.Name x px, .Name y py] kt pt] (.Tuple [a, b] k2 pt2) pos.line X.env = pure false := by rfl) :
    SS X W (.Assign [.Tuple [.Name x px, .Name y py] kt pt] (.Tuple [a, b] k2 pt2) pos) (dPar2 i j da) := PS.imp (ps_par hc hN hi hj hij hx hy ha hw hs) fun E σ H ⟨n, ρ, S, δ, g, en, r⟩ => by
  refine ⟨n, ρ, S, δ, g, en, (RestS.ex (rel := RpL X.K) g en r).mono fun vs H1 ⟨ρ1, S1, ds, g1, e1, r1, f1, q⟩ => ?_⟩
  split at q
  · obtain ⟨v, w, rfl, p1, p2⟩ := r1.duo
    exact ⟨v, w, rfl, q _ ρ1 H1 g1 ((e1.set i p1).set j p2) Fr.refl⟩
  · exact False.elim q
theorem ss_par3 (hc : X.calm = true) (hN : X.N.Nodup) (hi : X.N[i]? = some x) (hj : X.N[j]? = some y) (hl : X.N[l]? = some z) (hij : i ≠ j) (hil : i ≠ l) (hjl : j ≠ l) (hx : X.env.scope.names.lookup x = some .local) (hy : X.env.scope.names.lookup y = some .local) (hz : X.env.scope.names.lookup z = some .local) (ha : SA X W [a, b, c] da)
    (hw : swappedStores [.Tuple [.Name x px, .Name y py, .Name z pz] kt pt] (.Tuple [a, b, c] k2 pt2) X.env = pure (some [x, y, z]) := by rfl) (hs : swapsWithSole [.Tuple [.Name x px, .Name y py, .Name z pz] kt pt] (.Tuple [a, b, c] k2 pt2) pos.line X.env = pure false := by rfl) :
    SS X W (.Assign [.Tuple [.Name x px, .Name y py, .Name z pz] kt pt] (.Tuple [a, b, c] k2 pt2) pos) (dPar3 i j l da) := PS.imp (ps_par3 hc hN hi hj hl hij hil hjl hx hy hz ha hw hs) fun E σ H ⟨n, ρ, S, δ, g, en, r⟩ => by
  refine ⟨n, ρ, S, δ, g, en, (RestS.ex (rel := RpL X.K) g en r).mono fun vs H1 ⟨ρ1, S1, ds, g1, e1, r1, f1, q⟩ => ?_⟩
  split at q
  · obtain ⟨v, ws, rfl, p1, p23⟩ := r1
    obtain ⟨w, z, rfl, p2, p3⟩ := p23.duo
    exact ⟨v, w, z, rfl, q _ ρ1 H1 g1 (((e1.set i p1).set j p2).set l p3) Fr.refl⟩
  · exact False.elim q
end
theorem cv_one {K : PySem.W.Frag} {C : String} {f : Str} {d : D} (h : fCv (Str.ofString C) f d K = true) : ∀ p ∈ [(C, d)], fCv (Str.ofString p.1) f p.2 K = true := fun p hp => by
  rcases List.mem_cons.mp hp with e | e
  · subst e; exact h
  · simp at e
/-- the law's def: nothing is raised -/
theorem fn_law {P : Program} {w : World} {K : PySem.W.Frag} {mg : Str → Option Value} {base : Heap} {k : Nat} {f : Addr} {fd : FuncData} {ps : List Str} {n : Nat} {m : Mf} (F : FnOk P w K mg base (L2.CX P w) k f fd ps (spD K n m)) :
    FnOk P w K mg base L2.CX0 k f fd ps (fun vs H Q _ => spD K n m vs H Q fun _ _ _ => False) :=
  ⟨fun vs H Q E h => F.len vs H Q _ h, fun A outer s H args us vs Q E hr e0 hb r h => codeAny_mono (F.run A outer s H args us vs Q (fun _ _ _ => False) hr e0 hb r h) fun r s' hq => by
    cases r with
    | ok fl => cases fl <;> exact hq
    | error e =>
      obtain ⟨_, _, _, _, _, _, _, _, _, _, _, _, _, _, z⟩ := (show L2.CX P w outer H s (fun _ _ _ => False) e s' from hq)⟩
/-- the law's own binding -/
theorem law_bind {K : PySem.W.Frag} {cl : List (Str × Addr)} {x qual p : Str} {params : Arguments} {body : List Stmt} {scope : Scope} {f : Addr} {fd : FuncData} (G : FunG K cl x qual params body scope [] [] f fd)
    (h : ∀ (kV doc pm : Value) (an : Option Addr) (cdv ct u : Value), bindArgs (PySem.W.fnX x qual params body scope cl .none kV doc pm an cdv ct) ⟨[u], []⟩ = pure [(p, u)]) (s : Shared) (u : Value) : BindsTo s fd ⟨[u], []⟩ [(p, u)] := by
  obtain ⟨oc, od, dV, kV, doc, pm, an, cdv, ct, osl, dvs, kws, rfl, lk, hc, hd, hk, hdd, hkn, hkd⟩ := G.ex
  have hdl : dvs.length = 0 := (hdd ⟨[], []⟩ (fun _ => none)).length
  rcases hd with ⟨_, rfl⟩ | ⟨e, _⟩
  · exact .of_eq (h kV doc pm an cdv ct u)
  · exact absurd (List.length_eq_zero_iff.mp hdl) e
theorem funG_same {K : PySem.W.Frag} {cl cl' : List (Str × Addr)} {x qual : Str} {params : Arguments} {body : List Stmt} {scope : Scope} {dfl : List D} {kwd : List (Str × D)} {f : Addr} {fd fd' : FuncData} (G : FunG K cl x qual params body scope dfl kwd f fd) (G' : FunG K cl' x qual params body scope dfl kwd f fd') : fd = fd' := by
  obtain ⟨oc, od, dV, kV, doc, pm, an, cdv, ct, osl, dvs, kws, e, lk, _⟩ := G.ex
  obtain ⟨oc', od', dV', kV', doc', pm', an', cdv', ct', osl', dvs', kws', e', lk', _⟩ := G'.ex
  rw [lk] at lk'
  simp only [Option.some.injEq, Obj.mk.injEq, Data.func.injEq] at lk'
  exact lk'.2.2.1
end G

/-! exceptions: raised, caught, asked -/
namespace G
open PySem PySem.Spec PyProof.Rows L2
/-! ### a caught exception is tracked -/
section
variable {X : Cx} {pins : List (Addr × Obj)} {σ : L2.St} {H : Hp} {s : Shared} {a : Addr} {oe : Obj} {vs : Array Value}
theorem exv_own {b c : Addr} {o : Obj} : exv b o ≠ .own c := fun z => by
  have z' : HO.ext _ = HO.own c := z
  cases z'
theorem exv_ok {P : Program} {w : World} {h : Heap} (e : h.get? a = some oe) : ObjOk P w H h a (exv a oe) := ⟨e, ⟨oe, e⟩, fun _ _ z k => k _ z⟩
theorem exv_at {P : Program} {w : World} {h : Heap} (hok : HOk P w H h) (e : H a = some (exv a oe)) : h.get? a = some oe := by
  have x : ObjOk P w H h a (.ext fun h => h.get? a = some oe) := hok a _ e
  exact x.1
theorem inv_track (I : L2.Inv X pins σ H s) (ha : s.heap.get? a = some oe) (hd : oe.data = .fields vs) (na : H a = none) (n0 : X.s_0.heap.get? a = none) (nL : a ≠ X.env.locals) (np : ∀ p ∈ X.pn ++ pins, p.1 ≠ a) :
    L2.Inv X pins σ (upd H a (exv a oe)) s := by
  have nt : ∀ {b : Addr} {o : HO}, H b = some o → b ≠ a := fun {b o} q z => by
    rw [z, na] at q; cases q
  refine ⟨I.ok, I.os, I.bare, ⟨I.base.keep, I.base.slot, fun b o e n hx => ?_, I.base.there, fun b xs q => ?_, fun b o u q => ?_, fun b ps q => ?_⟩, I.loc, I.cell, ?_, fun y c e => ?_, fun p hp => ?_, fun b o q => ?_, I.len⟩
  · rw [upd_ne (fun z => by rw [z, n0] at e; cases e)]
    exact I.base.free b o e n hx
  · have h1 := I.base.tups b xs q
    rw [upd_ne (nt h1)]; exact h1
  · have h1 := I.base.frzs b o u q
    rw [upd_ne (nt h1)]; exact h1
  · obtain ⟨more, h1⟩ := I.base.tbls b ps q
    exact ⟨more, by rw [upd_ne (nt h1)]; exact h1⟩
  · rw [upd_ne (Ne.symm nL)]; exact I.free
  · obtain ⟨v, z⟩ := I.cell y c e
    rw [upd_ne (fun q => ?_)]
    · exact I.freeC y c e
    · subst q
      obtain ⟨o, h1, h2⟩ := z
      rw [ha] at h1; cases h1
      rw [hd] at h2; cases h2
  · obtain ⟨h1, h2, h3⟩ := I.pin p hp
    exact ⟨h1, by rw [upd_ne (np p hp)]; exact h2, h3⟩
  · by_cases hb : b = a
    · subst hb
      rw [upd_same] at q; cases q
      exact exv_ok ha
    · rw [upd_ne hb] at q
      exact (I.hok b o q).stay (fun _ _ _ z => z) (fun c hc => by rw [upd_ne (nt hc)]; exact hc) fun c xs hc => by rw [upd_ne (nt hc)]; exact hc
theorem inv_suite (I : L2.Inv X pins σ H s) : L2.Inv (X.suite a (X.pn ++ pins)) [] σ H s :=
  ⟨I.ok.suite _ _, I.os, I.bare, I.base, I.loc, I.cell, I.free, I.freeC, fun p hp => I.pin p (by rw [List.append_nil] at hp; exact hp), I.hok, I.len⟩
theorem inv_unsuite {pn' : List (Addr × Obj)} (I : L2.Inv (X.suite a (X.pn ++ pins)) pn' σ H s) (ok : X.Ok) : L2.Inv X pins σ H s :=
  ⟨ok, I.os, I.bare, I.base, I.loc, I.cell, I.free, I.freeC, fun p hp => I.pin p (List.mem_append_left _ hp), I.hok, I.len⟩
end
/-! ### try with clauses -/
/-- a clause: its class, its name's slot, what its suite does -/
structure Cl where
  c : Value
  i : Option Nat
  ts : TS
def putS (σ : L2.St) (i : Option Nat) (v : Option V) : L2.St := match i with
  | some i => σ.set i v
  | none => σ
def endS (D : Ends) (i : Option Nat) : Ends := { nx := fun σ H => D.nx (putS σ i none) H, rt := D.rt, bk := fun σ H => D.bk (putS σ i none) H, ct := fun σ H => D.ct (putS σ i none) H }
/-- what the clauses wish of an exception -/
def wCls (K : PySem.W.Frag) (Wo : WX) (D : Ends) : List Cl → WX
  | [] => Wo
  | c :: r => fun cls d σ H => ∃ b, PySem.W.exmOne K cls c.c = some b ∧
    (b = true → ∀ a oe vs, H a = none → oe.cls = cls → oe.dict = d → oe.data = .fields vs → c.ts (endS D c.i) (putS σ c.i (some (.ref a))) (upd H a (exv a oe))) ∧ (b = false → wCls K Wo D r cls d σ H)
inductive ClsOk (X : Cx) : List ExceptHandler → List Cl → Prop
  | nil : ClsOk X [] []
  | cons {x : Str} {np pos' : Pos} {c : Cl} {b₀ : Stmt} {suite : List Stmt} {hds : List ExceptHandler} {l : List Cl} (hc : Names X x c.c) (hi : c.i = none)
      (hsu : ∀ a pn, PSs (X.suite a pn) (b₀ :: suite) c.ts) (r : ClsOk X hds l) : ClsOk X (.ExceptHandler (some (.Name x np)) none (b₀ :: suite) pos' :: hds) (c :: l)
  | as {x n : Str} {i : Nat} {np pos' : Pos} {c : Cl} {b₀ : Stmt} {suite : List Stmt} {hds : List ExceptHandler} {l : List Cl} (hc : Names X x c.c) (hi : c.i = some i) (hn : X.N[i]? = some n) (hln : X.env.kindOf n = some .local)
      (hsu : ∀ a pn, PSs (X.suite a pn) (b₀ :: suite) c.ts) (r : ClsOk X hds l) : ClsOk X (.ExceptHandler (some (.Name x np)) (some n) (b₀ :: suite) pos' :: hds) (c :: l)
section
variable {X : Cx} {body : List Stmt} {h₀ : ExceptHandler} {hds : List ExceptHandler} {l : List Cl} {pos : Pos} {tb : WX → TS} {Wo : WX}
theorem ps_try_cls (hs : X.stack = X.env :: X.outer) (hf : X.env.frame = some X.env.locals) (hex : X.ex = []) (hN : X.N.Nodup) (tk : Takes X Wo)
    (hb : ∀ (W : WX) (pn : List (Addr × Obj)) (xe : Value → Shared → Prop), Takes (X.tr pn xe) W → PassesOwn (model X.prog X.w) X.A X.env xe → PSs (X.tr pn xe) body (tb W))
    (hh : ClsOk X (h₀ :: hds) l) : PS X (.Try body (h₀ :: hds) [] [] pos) (fun D σ H => tb (wCls X.K Wo D l) D σ H) := by
  refine ⟨fun pins s σ H D I hyp => ?_⟩
  have ok := I.ok
  have frames : X.A.frames = some (X.env :: X.outer) := by rw [ok.frames, hs]
  refine wpAny_Try_except ?_
  have run := (hb (wCls X.K Wo D l) (X.pn ++ pins) (fun e s1 => wpAny (model X.prog X.w) X.A (noteFrame e X.env) (fun _ s2 => wpAny (model X.prog X.w) X.A (setFlight e none) (fun _ s3 =>
    wpAny (model X.prog X.w) X.A (handleBy e X.env (h₀ :: hds)) (SP X pins D) X.xe s3) X.xe s2) X.xe s1) (fun u s' xx => ?_) PassesOwn.looking).run [] s σ H D (I.toTry _) hyp
  · refine wpAny_mono run (fun f s1 hsp => ?_) fun e s1 he => he
    cases f with
    | next =>
      obtain ⟨σ1, H1, J1, q⟩ := hsp
      exact wpAny_execs_nil ⟨σ1, H1, J1.ofTry ok, q⟩
    | brk =>
      obtain ⟨σ1, H1, J1, q⟩ := hsp
      exact ⟨σ1, H1, J1.ofTry ok, q⟩
    | cont =>
      obtain ⟨σ1, H1, J1, q⟩ := hsp
      exact ⟨σ1, H1, J1.ofTry ok, q⟩
    | ret u =>
      obtain ⟨v, σ1, H1, J1, r, q⟩ := hsp
      exact ⟨v, σ1, H1, J1.ofTry ok, r, q⟩
  · obtain ⟨a, B, sI, pins1, σ1, H1, cls, d, rfl, J0, nb, up, sky, na, os, ag, w⟩ := xx
    have J : L2.Inv X pins σ1 H1 sI := J0.ofTry ok
    have sky1 : Sky B (X.env :: X.outer) a (Zc cls d) X.env.locals s'.heap := by rw [← hs]; exact sky
    show wpAny (model X.prog X.w) X.A (noteFrame (.ref a) X.env) _ _ _
    refine Sky.land Zc.steady frames hf sky1 fun h3 fl3 up3 => ?_
    have J3 : L2.Inv X pins σ1 H1 { s' with heap := h3 } := J.landed nb fl3.1 (up.trans up3) os ag
    obtain ⟨o3, v3, he3, hz3, hd3⟩ := fl3.there
    have apart : a ∉ frs (X.env :: X.outer) := fun hm => by
      obtain ⟨_, o', e', hnf⟩ := fl3.2.2.1.mem hm
      rw [he3] at e'; cases e'
      exact hnf _ hd3
    have nL : a ≠ X.env.locals := fun z => apart (List.mem_filterMap.mpr ⟨X.env, List.mem_cons_self, by rw [hf, z]⟩)
    have nI : sI.heap.get? a = none := by
      cases e : sI.heap.get? a with
      | none => rfl
      | some o =>
        have z := nb a o e (by rw [hs]; exact apart)
        rw [fl3.2.1] at z; cases z
    have n0 : X.s_0.heap.get? a = none := by
      cases e : X.s_0.heap.get? a with
      | none => rfl
      | some o =>
        obtain ⟨o', z⟩ := J.base.there a o e (by rw [hex]; simp)
        rw [nI] at z; cases z
    have npin : ∀ p ∈ X.pn ++ pins, p.1 ≠ a := fun p hp z => by
      have q := (J.pin p hp).1
      rw [z, nI] at q; cases q
    have go : ∀ {hs' : List ExceptHandler} {l' : List Cl}, ClsOk X hs' l' → wCls X.K Wo D l' cls d σ1 H1 → wpAny (model X.prog X.w) X.A (handleBy (.ref a) X.env hs') (SP X pins D) X.xe { s' with heap := h3 } := by
      intro hs' l' hk
      have ask : ∀ {x : Str} {c : Cl} {np' : Pos} {Q E : Value → Shared → Prop}, Names X x c.c → Q c.c { s' with heap := h3 } → wpAny (model X.prog X.w) (X.A.mark (some (.ref a))) (eval (.Name x np') X.env) Q E { s' with heap := h3 } := fun {x c np' Q E} hc q => by
        have S3 : L2.Inv (X.suite a (X.pn ++ pins)) [] σ1 H1 { s' with heap := h3 } := inv_suite J3
        obtain ⟨hg, hdbg, hm | ⟨hm, hv, hnn⟩⟩ := hc
        · exact ld_glob (X := X.suite a (X.pn ++ pins)) S3 hg hm q hdbg
        · exact ld_blt (X := X.suite a (X.pn ++ pins)) S3 hg hm hv q hnn hdbg
      have ofCls : PySem.W.Looks (model X.prog X.w) h3 (typeOf (.ref a)) cls := fun A Q E s1 k q => wpAny_typeOf_ref (k _ _ he3) (by rw [hz3.1]; exact q)
      induction hk with
      | nil =>
        intro w
        refine wpAny_handleBy_nil ?_
        obtain ⟨k1, k2, k3, o5, v5, T, oT, t5, he, hz, hd, h1, hr⟩ := id fl3
        unfold PySem.passOn
        refine wpAny_bind (wpAny_field he hd h1 ?_)
        rw [if_neg (show ¬ ((Value.ref T == Value.none) = true) from by simp)]
        have out : wpAny (model X.prog X.w) X.A (setFlight (.ref a) X.env.frame) (fun _ s4 => wpAny (model X.prog X.w) X.A (throw (.ref a) : Sem Flow) (SP X pins D) X.xe s4) X.xe { s' with heap := h3 } := by
          rw [hf]
          refine HandSPX.setFlight_upZ fl3 fun h4 hh4 up4 => wpAny_throw (tk _ _ ?_)
          exact ⟨a, B, sI, pins, σ1, H1, cls, d, rfl, J, nb, (up.trans up3).trans up4, .inr (.inr (by rw [hs]; exact hh4)), na, os, ag, w⟩
        first
          | exact wpAny_bind (wpAny_pure (wpAny_bind out))
          | exact wpAny_bind out
      | @cons x np pos' c b₀ suite hds2 l2 hc hi hsu r ih =>
        intro w
        obtain ⟨b, hb1, hyes, hno⟩ := w
        refine wpAny_handleBy_cons (codeAny_handlers_test ?_) (by intro q; cases q)
        refine ask hc ((PySem.W.exm_one (M := model X.prog X.w) J3.kIn ofCls hb1).here ?_)
        cases b with
        | true =>
          refine codeAny_handlers_suite ?_
          refine HandSPX.lands_againZ fl3 fun h4 fl4 up4 => ?_
          have J4 : L2.Inv X pins σ1 H1 { s' with heap := h4 } := J.landed nb fl4.1 ((up.trans up3).trans up4) os ag
          obtain ⟨o4, v4, he4, hz4, hd4⟩ := fl4.there
          have S4 := inv_suite (a := a) (inv_track J4 he4 hd4 na n0 nL npin)
          have go4 := hyes rfl a o4 v4 na hz4.1 hz4.2 hd4
          rw [hi] at go4
          refine wpAny_mono ((hsu a (X.pn ++ pins)).run [] _ σ1 _ _ S4 go4) (fun f s6 hsp => ?_) (fun _ _ z => False.elim z)
          cases f with
          | next =>
            obtain ⟨σ6, H6, S6, q6⟩ := hsp
            exact ⟨_, _, inv_unsuite S6 ok, q6⟩
          | brk =>
            obtain ⟨σ6, H6, S6, q6⟩ := hsp
            exact ⟨_, _, inv_unsuite S6 ok, q6⟩
          | cont =>
            obtain ⟨σ6, H6, S6, q6⟩ := hsp
            exact ⟨_, _, inv_unsuite S6 ok, q6⟩
          | ret u =>
            obtain ⟨v6, σ6, H6, S6, r6, q6⟩ := hsp
            exact ⟨_, _, _, inv_unsuite S6 ok, r6, q6⟩
        | false =>
          show wpAny _ X.A (handleBy (.ref a) X.env hds2) _ _ _
          exact ih (hno rfl)
      | @as x n i np pos' c b₀ suite hds2 l2 hc hi hn hln hsu r ih =>
        intro w
        obtain ⟨b, hb1, hyes, hno⟩ := w
        refine wpAny_handleBy_cons (codeAny_handlers_test ?_) (by intro q; cases q)
        refine ask hc ((PySem.W.exm_one (M := model X.prog X.w) J3.kIn ofCls hb1).here ?_)
        cases b with
        | true =>
          refine codeAny_handlers_suite_as ?_
          refine HandSPX.lands_againZ fl3 fun h4 fl4 up4 => ?_
          have J4 : L2.Inv X pins σ1 H1 { s' with heap := h4 } := J.landed nb fl4.1 ((up.trans up3).trans up4) os ag
          obtain ⟨o4, v4, he4, hz4, hd4⟩ := fl4.there
          have S4 := inv_suite (a := a) (inv_track J4 he4 hd4 na n0 nL npin)
          have go4 := hyes rfl a o4 v4 na hz4.1 hz4.2 hd4
          rw [hi] at go4
          refine store_ok (X := X.suite a (X.pn ++ pins)) (v := .ref a) S4 hN hn (.inl hln) rfl (fun s5 S5 => ?_) (.inr hln)
          refine wpAny_mono ((hsu a (X.pn ++ pins)).run [] s5 _ _ _ S5 go4) (fun f s6 hsp => ?_) (fun _ _ z => False.elim z)
          have off : ∀ {σ6 : L2.St} {H6 : Hp} {Q : Shared → Prop}, L2.Inv (X.suite a (X.pn ++ pins)) [] σ6 H6 s6 → (∀ s7, L2.Inv X pins (σ6.set i none) H6 s7 → Q s7) →
              wpAny (model X.prog X.w) X.A (do bindName X.env n .none; unbindBehindTheSuite X.env n pos') (fun _ s7 => Q s7) X.xe s6 := fun {σ6 H6 Q} S6 hq => gone_ok (inv_unsuite S6 ok) hN hn hln hq
          cases f with
          | next =>
            obtain ⟨σ6, H6, S6, q6⟩ := hsp
            exact off S6 fun s7 J7 => ⟨_, _, J7, q6⟩
          | brk =>
            obtain ⟨σ6, H6, S6, q6⟩ := hsp
            exact off S6 fun s7 J7 => ⟨_, _, J7, q6⟩
          | cont =>
            obtain ⟨σ6, H6, S6, q6⟩ := hsp
            exact off S6 fun s7 J7 => ⟨_, _, J7, q6⟩
          | ret u =>
            obtain ⟨v6, σ6, H6, S6, r6, q6⟩ := hsp
            exact off S6 fun s7 J7 => ⟨_, _, _, J7, r6, q6⟩
        | false =>
          show wpAny _ X.A (handleBy (.ref a) X.env hds2) _ _ _
          exact ih (hno rfl)
    exact go hh w
end
/-! ### .. as a denotation -/
abbrev WNo : WX := fun _ _ _ _ => False
structure ClD where
  hit : List (String × Bool)
  i : Option Nat
  ds : DS
def putD? (δ : Slots) (i : Option Nat) (v : Option G.D) : Slots := match i with
  | some i => δ.set i v
  | none => δ
/-- behind a suite -/
def SR.leave (i : Option Nat) : SR → SR
  | .nx δ S => .nx (putD? δ i none) S
  | .rt d S => .rt d S
  | .bk δ S => .bk (putD? δ i none) S
  | .ct δ S => .ct (putD? δ i none) S
  | _ => .bad
def dCatch (C : String) (fs : List (String × G.D)) (n : Nat) (δ : Slots) (S : Store) : List ClD → SR
  | [] => .exc (.obj C fs) δ S
  | c :: r => match c.hit.lookup C with
    | some true => (c.ds n (putD? δ c.i (some (.exn C fs))) S).leave c.i
    | some false => dCatch C fs n δ S r
    | none => .bad
def dTry (db : DS) (cl : List ClD) : DS := fun n δ S => match db n δ S with
  | .exc (.obj C fs) δ' S' => dCatch C fs n δ' S' cl
  | .exc _ _ _ => .bad
  | r => r
inductive CldOk (X : Cx) : List ExceptHandler → List ClD → List Cl → Prop
  | nil : CldOk X [] [] []
  | cons {x : Str} {np pos' : Pos} {v : Value} {hit : List (String × Bool)} {ds : DS} {b₀ : Stmt} {suite : List Stmt} {hds : List ExceptHandler} {cl : List ClD} {l : List Cl} (hc : Names X x v) (ht : ∀ p ∈ hit, PySem.W.exmOne X.K (.ref (He.ga X.K (Str.ofString p.1))) v = some p.2)
      (hsu : ∀ a pn, SB (X.suite a pn) WNo (b₀ :: suite) ds) (r : CldOk X hds cl l) : CldOk X (.ExceptHandler (some (.Name x np)) none (b₀ :: suite) pos' :: hds) (⟨hit, none, ds⟩ :: cl) (⟨v, none, tS X.K ds WNo⟩ :: l)
  | as {x n : Str} {i : Nat} {np pos' : Pos} {v : Value} {hit : List (String × Bool)} {ds : DS} {b₀ : Stmt} {suite : List Stmt} {hds : List ExceptHandler} {cl : List ClD} {l : List Cl} (hc : Names X x v) (ht : ∀ p ∈ hit, PySem.W.exmOne X.K (.ref (He.ga X.K (Str.ofString p.1))) v = some p.2)
      (hn : X.N[i]? = some n) (hln : X.env.kindOf n = some .local) (hsu : ∀ a pn, SB (X.suite a pn) WNo (b₀ :: suite) ds) (r : CldOk X hds cl l) : CldOk X (.ExceptHandler (some (.Name x np)) (some n) (b₀ :: suite) pos' :: hds) (⟨hit, some i, ds⟩ :: cl) (⟨v, some i, tS X.K ds WNo⟩ :: l)
theorem CldOk.cls {X : Cx} {hds : List ExceptHandler} {cl : List ClD} {l : List Cl} (h : CldOk X hds cl l) : ClsOk X hds l := by
  induction h with
  | nil => exact .nil
  | cons hc ht hsu r ih => exact .cons hc rfl hsu ih
  | as hc ht hn hln hsu r ih => exact .as hc rfl hn hln hsu ih
theorem EnvOk.put {K : PySem.W.Frag} {ρ : Ad} {H : Hp} {δ : Slots} {σ : L2.St} {i : Option Nat} {d : G.D} {v : V} (e : EnvOk K ρ H δ σ) (r : Rp K ρ H d v) : EnvOk K ρ H (putD? δ i (some d)) (putS σ i (some v)) := by
  cases i with
  | none => exact e
  | some i => exact e.set i r
theorem clr_env {K : PySem.W.Frag} {ρ : Ad} {H : Hp} {δ : Slots} {σ : L2.St} {i : Option Nat} (e : EnvOk K ρ H δ σ) : EnvOk K ρ H (putD? δ i none) (putS σ i none) := by
  cases i with
  | none => exact e
  | some i => exact EnvOk.none i e
theorem RestS.leave {K : PySem.W.Frag} {n : Nat} {ρ : Ad} {S : Store} {H : Hp} {E : Ends} {W : WX} {i : Option Nat} {r : SR} (h : RestS K n ρ S H E W (r.leave i)) : RestS K n ρ S H (endS E i) WNo r := by
  cases r with
  | nx δ S' => exact fun σ' ρ' H' g en f => h _ ρ' H' g (clr_env en) f
  | rt d S' => exact h
  | bk δ S' => exact fun σ' ρ' H' g en f => h _ ρ' H' g (clr_env en) f
  | ct δ S' => exact fun σ' ρ' H' g en f => h _ ρ' H' g (clr_env en) f
  | exc x δ S' => exact False.elim h
  | bad => exact h
theorem catch_ok {X : Cx} {Wo : WX} {E : Ends} {C : String} {fs : List (String × G.D)} {n : Nat} {ρ : Ad} {S : Store} {H : Hp} {δ : Slots} {σ : L2.St} {cls : Value} {e : Option Addr} (g : Good X.K ρ S H) (en : EnvOk X.K ρ H δ σ) (rx : RX X.K ρ H (.obj C fs) cls e)
    {hds : List ExceptHandler} {cl : List ClD} {l : List Cl} (h : CldOk X hds cl l) (q : RestS X.K n ρ S H E Wo (dCatch C fs n δ S cl)) : wCls X.K Wo E l cls e σ H := by
  have suite : ∀ {i : Option Nat} {ds : DS}, RestS X.K n ρ S H E Wo ((ds n (putD? δ i (some (.exn C fs))) S).leave i) → ∀ a oe vs, H a = none → oe.cls = cls → oe.dict = e → oe.data = .fields vs → tS X.K ds WNo (endS E i) (putS σ i (some (.ref a))) (upd H a (exv a oe)) := by
    intro i ds q a oe vs na h1 h2 h3
    have kp : Kp ρ H ρ (upd H a (exv a oe)) := Kp.fresh na
    rcases rx with ⟨C', fs', e1, e2, rx⟩ | ⟨T, e1, _⟩
    · cases e1
      have hv : Rp X.K ρ (upd H a (exv a oe)) (.exn C fs) (.ref a) := by
        have hx : ExvAt ρ (upd H a (exv a oe)) a (He.ga X.K (Str.ofString C)) e := ⟨⟨oe, vs, upd_same, h1.trans e2, h2, h3⟩, g.notin na⟩
        rcases rx with ⟨rfl, rfl⟩ | ⟨dd, gs, rfl, h4, n4, r4⟩
        · exact ⟨a, none, [], rfl, hx, .inl ⟨rfl, rfl⟩, rfl⟩
        · exact ⟨a, some dd, gs, rfl, hx, .inr ⟨dd, rfl, kp.keep _ _ h4 n4.1 (fun _ z => by cases z), n4⟩, RpF.kp kp fs gs r4⟩
      exact ⟨n, ρ, S, _, g.fresh na, (en.kp kp).put hv, RestS.root ⟨kp, Shr.refl⟩ (RestS.leave q)⟩
    · cases e1
  induction h with
  | nil => exact q σ cls e ρ H g en rx Fr.refl
  | cons hc ht hsu r ih =>
    unfold dCatch at q
    split at q
    · rename_i hh
      refine ⟨true, ?_, (fun _ => suite q), (fun z => by cases z)⟩
      rcases rx with ⟨C', fs', e1, e2, rx⟩ | ⟨T, e1, _⟩
      · cases e1; rw [e2]; exact ht _ (look_mem hh)
      · cases e1
    · rename_i hh
      refine ⟨false, ?_, (fun z => by cases z), fun _ => ih q⟩
      rcases rx with ⟨C', fs', e1, e2, rx⟩ | ⟨T, e1, _⟩
      · cases e1; rw [e2]; exact ht _ (look_mem hh)
      · cases e1
    · exact False.elim q
  | as hc ht hn hln hsu r ih =>
    unfold dCatch at q
    split at q
    · rename_i hh
      refine ⟨true, ?_, (fun _ => suite q), (fun z => by cases z)⟩
      rcases rx with ⟨C', fs', e1, e2, rx⟩ | ⟨T, e1, _⟩
      · cases e1; rw [e2]; exact ht _ (look_mem hh)
      · cases e1
    · rename_i hh
      refine ⟨false, ?_, (fun z => by cases z), fun _ => ih q⟩
      rcases rx with ⟨C', fs', e1, e2, rx⟩ | ⟨T, e1, _⟩
      · cases e1; rw [e2]; exact ht _ (look_mem hh)
      · cases e1
    · exact False.elim q
theorem ss_try {X : Cx} {Wo : WX} {body : List Stmt} {h₀ : ExceptHandler} {hds : List ExceptHandler} {cl : List ClD} {l : List Cl} {db : DS} {pos : Pos} (hs : X.stack = X.env :: X.outer) (hf : X.env.frame = some X.env.locals) (hex : X.ex = []) (hN : X.N.Nodup) (tk : Takes X Wo)
    (hb : ∀ (W : WX) (pn : List (Addr × Obj)) (xe : Value → Shared → Prop), Takes (X.tr pn xe) W → SB (X.tr pn xe) W body db) (hh : CldOk X (h₀ :: hds) cl l) : SS X Wo (.Try body (h₀ :: hds) [] [] pos) (dTry db cl) :=
  PS.imp (ps_try_cls (tb := fun W => tS X.K db W) hs hf hex hN tk (fun W pn xe t _ => hb W pn xe t) hh.cls) fun E σ H ⟨n, ρ, S, δ, g, en, r⟩ => by
    refine ⟨n, ρ, S, δ, g, en, ?_⟩
    unfold dTry at r
    revert r
    cases db n δ S with
    | nx δ' S' => exact fun r => r
    | rt d S' => exact fun r => r
    | bk δ' S' => exact fun r => r
    | ct δ' S' => exact fun r => r
    | bad => exact fun r => r
    | exc x δ' S' =>
      intro r σ' cls e ρ' H' g' en' rx f
      cases x with
      | obj C fs => exact catch_ok g' en' rx hh (RestS.root f r)
      | _ => exact False.elim r
end G

/-! exceptions asked: a field, a class -/
namespace PySem.W
open PySem PySem.Spec PySem.Calls PyProof.Rows
section
variable {prog : Program} {w : World} {A : Around} {E : Value → Shared → Prop} {s : Shared} {K : Frag} {x D : Addr} {ob : Obj} {od : Option Obj}
theorem g_data {name : Str} {a f : Value} (q : (clsIn K D).isSome = true) (q1 : findIn K (.ref D) name = some (some a)) (q2 : specialIn K a "__get__" = some (some f)) (q3 : takesIn K a = some true) : findObj K D od name = some (.bind f a) := by
  obtain ⟨cd, q0⟩ := Option.isSome_iff_exists.mp q
  unfold findObj
  rw [q0, Option.bind_some, q1, Option.bind_some]
  simp [q2, q3]
theorem g_clsOf {Q : Option Value → Shared → Prop} (C : L2.ExcC K D) (X : K.In s.heap) (I : InstAt s.heap x ob D od) (h : Q (some (.ref D)) { s with toks := s.toks + 1 }) : wpAny (model prog w) A (getAttr? (.ref x) "__class__") Q E s := by
  have found : findObj K D od "__class__" = some (.bind (.builtin "getset_descriptor.__get__") (.builtin "object.__class__")) := g_data (by obtain ⟨cd, hc, _⟩ := any_some C.hd; rw [hc]; rfl) C.ha C.hn C.ht
  obtain ⟨hp, g, d, t, os⟩ := s
  have y0 := I.type (M := model prog w)
  have y1 := looks_findIn (M := model prog w) X C.hg
  have y2 := looks_findIn (M := model prog w) X C.hk
  have y3 := looks_find (M := model prog w) X I found
  have isB : Looks (model prog w) hp (isInstance (.ref x) (.type "BaseException")) true := y0.andThen (looks_subIn X C.hs)
  have z0 : (false && onTheHeap (Value.builtin "BaseException.__getattribute__")) = false := rfl
  have z2 : (Value.builtin "BaseException.__getattribute__" == Value.builtin "object.__getattribute__") = false := by decide +kernel
  have z1 : (onTheHeap (Value.ref D) && Value.builtin "BaseException.__getattribute__" == Value.builtin "object.__getattribute__") = false := by rw [z2]; rfl
  unfold getAttr? getAttrBy? getAttrBy
  refine wpAny_bind (wpAny_mkText (wpAny_bind (wpAny_attempt (wpAny_holding (wpAny_bind (y0.at (wpAny_bind (y1.at ?_))))))))
  show wpAny _ _ (if (onTheHeap (Value.ref D) && Value.builtin "BaseException.__getattribute__" == Value.builtin "object.__getattribute__") = true then _ else _) _ _ _
  rw [z1, if_neg Bool.false_ne_true]
  unfold getAttrByItsOwn hookBefore
  refine wpAny_bind ?_
  rw [if_pos (show onTheHeap (Value.ref D) = true from rfl)]
  refine y2.at ?_
  refine wpAny_bind (wpAny_attempt (wpAny_holding ?_))
  unfold callGetattribute
  rw [z0, if_neg Bool.false_ne_true]
  unfold boundAndCalled
  rw [PySem.F.excAttr_ValueError.ga.bind (.ref x)]
  refine wpAny_bind (wpAny_pure ?_)
  show wpAny _ _ (call (.builtin "BaseException.__getattribute__") [.ref x, .str "__class__" t]) _ _ _
  refine wpAny_call (codeAny_call_builtin PySem.F.excAttr_ValueError.ga.plain PySem.F.entry_bexc_ga ?_)
  refine @check_slot (model prog w) _ _ ⟨hp, g, d, t + 1, os⟩ "BaseException.__getattribute__" "BaseException" "__getattribute__" (.ref x) [.str "__class__" t] [] _ (by decide +kernel) (by decide +kernel) isB (PySem.F.args_bexc_ga (.ref x) (.str "__class__" t)) ?_
  unfold Builtin.«object.__getattribute__»
  refine wpAny_bind (wpAny_of_eq (a := ((Value.ref x : Value), [Value.str "__class__" t])) (by first | rfl | (simp only [slotArgs]; rfl)) ?_)
  refine wpAny_bind (wpAny_pure (wpAny_bind (y0.at (wpAny_bind (y3.at ?_)))))
  show wpAny _ _ (holding [Value.builtin "object.__class__"] (call (.builtin "getset_descriptor.__get__") [.builtin "object.__class__", .ref x, .ref D]) >>= ret) _ _ _
  refine wpAny_bind (wpAny_holding (wpAny_call (class_get (s := ⟨hp, g, d, t + 1, os⟩) (ox := ob) (od := od) X I C.hm ?_)))
  refine wpAny_pure ?_
  show wpAny _ _ (handedOut (.ref D)) _ _ _
  rw [handedOut_of (v := .ref D) rfl]
  first
    | exact wpAny_pure (wpAny_pure h)
    | exact wpAny_pure h
    | exact wpAny_pure (wpAny_bind (wpAny_pure (wpAny_pure h)))
theorem g_cls_obj (h : hasDictIn K D = true) : ∃ o cd, K.lookup D = some o ∧ o.data = .cls cd := by
  obtain ⟨cd, hc, _⟩ := any_some h
  unfold clsIn at hc
  split at hc
  · rename_i c' d' cd' sl' ho
    exact ⟨_, _, ho, rfl⟩
  · cases hc
theorem g_kitx (C : L2.ExcC K D) : KitX K (.ref x) (.ref D) (fun h => InstAt h x ob D od) where
  ty := fun _ _ _ I => I.type
  it := fun _ _ X _ => by
    obtain ⟨o, cd, ho, hd⟩ := g_cls_obj C.hd
    obtain ⟨c', d', dt, sl'⟩ := o
    simp only at hd
    subst hd
    intro A' Q' E' s' k q
    unfold isType loadHead
    exact wpAny_bind (wpAny_loadPart (k _ _ (X _ _ ho)) (wpAny_pure q))
  ne := fun h tp dd its n sl X htp => by
    refine Bool.eq_false_iff.mpr fun q => ?_
    have e : D = tp := Value.ref.inj (beq_iff_eq.mp q)
    subst e
    obtain ⟨o, cd, ho, hd⟩ := g_cls_obj C.hd
    have z := (X _ _ ho).symm.trans htp
    cases z
    cases hd
  ca := fun X I k => g_clsOf C X I k
end
end PySem.W
namespace G
open PySem PySem.Spec PyProof.Rows L2
section
variable {X : Cx} {W : WX} {pins : List (Addr × Obj)} {σ : L2.St} {H : Hp} {s : Shared}
theorem exn_inst {ρ : Ad} {a C : Addr} {d : Option Addr} {gs : List (Str × V)} (I : L2.Inv X pins σ H s) (h : ExvAt ρ H a C d) (x : (gs = [] ∧ d = none) ∨ ∃ dd, d = some dd ∧ H dd = some (.xd gs) ∧ ρ.av dd) :
    ∃ ob od, PySem.W.InstAt s.heap a ob C od ∧ ((gs = [] ∧ od = none) ∨ ∃ (o : Obj) (mA : Str → Option Value), od = some o ∧ (∀ n, PySem.W.lookIn n o = some (mA n)) ∧ ∀ n, RelO (gs.lookup n) (mA n)) := by
  obtain ⟨⟨o, vs, h1, h2, h3, h4⟩, _⟩ := h
  have ha := exv_at I.hok h1
  have hnc : PySem.W.notCls o = true := by unfold PySem.W.notCls; rw [h4]
  rcases x with ⟨rfl, rfl⟩ | ⟨dd, rfl, hx, _⟩
  · exact ⟨o, none, ⟨ha, h2, hnc, by rw [h3]; trivial⟩, .inl ⟨rfl, rfl⟩⟩
  · have hx' : ObjOk X.prog X.w H s.heap dd (.xd gs) := I.hok dd _ hx
    obtain ⟨mA, hns, hr⟩ := hx'
    obtain ⟨od, ho, hl⟩ := lookIn_ns hns
    exact ⟨o, some od, ⟨ha, h2, hnc, by rw [h3]; exact ho⟩, .inr ⟨od, mA, rfl, hl, hr⟩⟩
/-! ### e.f -/
def dXf (cs : List String) (f : String) (de : DE) : DE := fun n δ S => (de n δ S).bind fun d S1 => match d with
  | .exn C fs => if cs.contains C = true then match fs.lookup f with
    | some v => .ok v S1
    | none => .bad else .bad
  | _ => .bad
structure XfOk (K : PySem.W.Frag) (f : String) (C : String) : Prop where
  c : XfC K (He.ga K (Str.ofString C))
  n : PySem.W.findIn K (.ref (He.ga K (Str.ofString C))) (Str.ofString f) = some none
theorem se_xf {f : String} {cs : List String} {e : Expr} {de : DE} {pos : Pos} (he : SE X W e de) (ht : ∀ C ∈ cs, XfOk X.K f C) (hb : attributeBase e (Str.ofString f) X.env (eval e X.env) = eval e X.env := by rfl) : SE X W (.Attribute e (Str.ofString f) pos) (dXf cs f de) := by
  refine ⟨fun pins s σ H Q I ⟨n, ρ, S, δ, g, en, r⟩ => ?_⟩
  refine attr_of hb (thn (he.run pins s σ H _ I ⟨n, ρ, S, δ, g, en, Rest.bind (rel' := Rp X.K) en r⟩) fun u s1 ⟨v, H1, I1, rv, ρ1, S1, d1, g1, e1, r1, f1, q⟩ => ?_)
  split at q
  · rename_i C fs
    split at q
    · rename_i hC
      have T := ht C (by simpa using hC)
      obtain ⟨a, d, gs, rfl, hx, hd, rf⟩ := r1
      obtain rfl : u = Value.ref a := rv
      obtain ⟨ob, od, J, hod⟩ := exn_inst I1 hx hd
      split at q
      · rename_i v hv
        obtain ⟨w, hw, rw'⟩ := (RpF.look rf).1 v hv
        rcases hod with ⟨rfl, _⟩ | ⟨o, mA, rfl, hl, hr⟩
        · cases hw
        · obtain ⟨u, hu, ru⟩ := RelO.some_of (v := w) (o := mA (Str.ofString f)) (by rw [← hw]; exact hr _)
          exact HandSPX.exc_get I1.kIn J T.c.ga T.c.gg T.c.exC (PySem.W.findObj_own T.c.hdC T.n rfl (by rw [hl, hu])) (handed_of ru) ⟨w, H1, I1.tok _, ru, q.val g1 rw'⟩
      · exact False.elim q
    · exact False.elim q
  · exact False.elim q
end
/-! ### isinstance(e, C), isinstance(e, (C, D)); e may be an exception -/
def TyG (K : PySem.W.Frag) (H : Hp) (x : V) (t : Value) : Prop := TyX K H x t ∨ ∃ (ρ : Ad) (a C : Addr) (d : Option Addr) (gs : List (Str × V)), x = .ref a ∧ t = .ref C ∧ ExvAt ρ H a C d ∧ ((gs = [] ∧ d = none) ∨ ∃ dd, d = some dd ∧ H dd = some (.xd gs) ∧ ρ.av dd) ∧ ExcC K C
def rIsG (K : PySem.W.Frag) : List V → Hp → VK → Prop := fun xs H Q => ∃ (x c : V) (t : Value) (b : Bool), xs = [x, c] ∧ TyG K H x t ∧
  ((∃ u, ClsV c u ∧ PySem.W.kitOne K t u = some b) ∨ ∃ (tp : Addr) (cs : List V) (us : List Value), c = .ref tp ∧ SqT K H tp cs ∧ Paired ClsV cs us ∧ PySem.W.kitAny K t us = some b) ∧ Q (.bl b) H
section
variable {X : Cx} {pins : List (Addr × Obj)} {σ : L2.St} {H : Hp} {s : Shared}
theorem kit_ofG {x : V} {u t : Value} (I : L2.Inv X pins σ H s) (rx : RelV x u) (ty : TyG X.K H x t) : ∃ P : Heap → Prop, PySem.W.KitX X.K u t P ∧ P s.heap ∧ u ≠ .builtin "__main__.__loader__#opaque" := by
  rcases ty with ty | ⟨ρ, a, C, d, gs, rfl, rfl, hx, hd, k⟩
  · exact kit_of I rx ty
  · obtain rfl : u = Value.ref a := rx
    obtain ⟨ob, od, J, _⟩ := exn_inst I hx hd
    exact ⟨_, PySem.W.g_kitx (ob := ob) (od := od) k, J, fun z => nomatch z⟩
theorem call_isG : CallR X (.builtin "isinstance") (rIsG X.K) := by
  intro pins s σ H xs us Q I r h
  obtain ⟨x, c, t, b, rfl, ty, k, q⟩ := h
  obtain ⟨u1, u2, rfl, r1, r2⟩ := vals2 r
  obtain ⟨P, Z, p, hx⟩ := kit_ofG I r1 ty
  rcases k with ⟨u, k, e⟩ | ⟨tp, cs, ws, rfl, hT, k, e⟩
  · have e2 := k.eq r2
    subst e2
    exact PySem.W.kia_one Z I.kIn p e hx fun tk => ⟨.bl b, H, I.tok tk, rfl, q⟩
  · cases (show u2 = Value.ref tp from r2)
    obtain ⟨its, o, n, rv, h1, h2, h3⟩ := sqT_at I.hok I.kIn hT
    have e3 := ClsV.all k rv
    subst e3
    obtain ⟨oc, od, dt, sl⟩ := o
    simp only at h2 h3
    subst h2 h3
    exact PySem.W.kia_tup Z I.kIn p h1 e hx fun tk => ⟨.bl b, H, I.tok tk, rfl, q⟩
end
def anyG (lk : TyK → Option Bool) : List D → Option Bool
  | [] => none
  | c :: r => match clsD c with
    | some k => match lk k with
      | some true => if r.all (fun d => (clsD d).isSome) = true then some true else none
      | some false => if r.isEmpty = true then some false else anyG lk r
      | none => none
    | none => none
def askG (lk : TyK → Option Bool) (c : D) : Option Bool := match clsD c with
  | some k => lk k
  | none => match c with
    | .tup cs => anyG lk cs
    | _ => none
/-- tb: of values, te: of exceptions -/
def bIsG (tb te : IsTb) : BOp := fun ds S => match ds with
  | [x, c] => match (match x with
      | .exn C _ => askG (fun k => te.lookup ((true, C), k)) c
      | x => match tyD S x with
        | some t => askG (fun k => tb.lookup (t, k)) c
        | none => none) with
    | some b => .ok (.bl b) S
    | none => .bad
  | _ => .bad
structure IsOkE1 (K : PySem.W.Frag) (p : (TyK × TyK) × Bool) : Prop where
  kit : PySem.W.kitOne K (valK K p.1.1) (valK K p.1.2) = some p.2
  exc : ExcC K (He.ga K (Str.ofString p.1.1.2))
def IsOkE (K : PySem.W.Frag) (te : IsTb) : Prop := ∀ p ∈ te, IsOkE1 K p
section
variable {K : PySem.W.Frag} {W : WX} {ρ : Ad} {S : Store} {H : Hp}
theorem cls_all : ∀ (cs : List D) (vs : List V), RpL K ρ H cs vs → cs.all (fun d => (clsD d).isSome) = true → ∃ us, Paired ClsV vs us
  | [], _, h, _ => by obtain rfl : _ = [] := h; exact ⟨[], .nil⟩
  | c :: r, _, ⟨v, ws, e1, h, hr⟩, e => by
    subst e1
    simp only [List.all_cons, Bool.and_eq_true] at e
    obtain ⟨k, hk⟩ := Option.isSome_iff_exists.mp e.1
    obtain ⟨us, hp⟩ := cls_all r ws hr e.2
    exact ⟨_, .cons (cls_rp h hk) hp⟩
theorem any_rp {t : Value} {Z : Prop} {lk : TyK → Option Bool} (hl : ∀ k b, lk k = some b → PySem.W.kitOne K t (valK K k) = some b ∧ Z) : ∀ (cs : List D) (vs : List V) (b : Bool), RpL K ρ H cs vs → anyG lk cs = some b → Z ∧ ∃ us, Paired ClsV vs us ∧ PySem.W.kitAny K t us = some b
  | [], _, _, _, e => by cases e
  | c :: r, vs, b, ⟨v, ws, e1, h, hr⟩, e => by
    subst e1
    unfold anyG at e
    split at e
    · rename_i k hk
      split at e
      · rename_i hb
        split at e
        case isFalse => cases e
        rename_i hall
        cases e
        obtain ⟨q1, z⟩ := hl k true hb
        obtain ⟨us, hp⟩ := cls_all r ws hr hall
        exact ⟨z, valK K k :: us, .cons (cls_rp h hk) hp, by unfold PySem.W.kitAny; rw [q1]⟩
      · rename_i hb
        obtain ⟨q1, z⟩ := hl k false hb
        split at e
        · rename_i hr0
          cases e
          have : r = [] := List.isEmpty_iff.mp hr0
          subst this
          obtain rfl : ws = [] := hr
          exact ⟨z, [valK K k], .cons (cls_rp h hk) .nil, by unfold PySem.W.kitAny; rw [q1]; rfl⟩
        · obtain ⟨_, us, hp, hu⟩ := any_rp hl r ws b hr e
          exact ⟨z, valK K k :: us, .cons (cls_rp h hk) hp, by unfold PySem.W.kitAny; rw [q1]; exact hu⟩
      · cases e
    · cases e
theorem ask_rp {t : Value} {Z : Prop} {lk : TyK → Option Bool} (hl : ∀ k b, lk k = some b → PySem.W.kitOne K t (valK K k) = some b ∧ Z) {c : D} {v : V} {b : Bool} (r : Rp K ρ H c v) (e : askG lk c = some b) :
    Z ∧ ((∃ u, ClsV v u ∧ PySem.W.kitOne K t u = some b) ∨ ∃ (tp : Addr) (cs : List V) (us : List Value), v = .ref tp ∧ SqT K H tp cs ∧ Paired ClsV cs us ∧ PySem.W.kitAny K t us = some b) := by
  unfold askG at e
  split at e
  · rename_i k hk
    obtain ⟨q1, z⟩ := hl k b e
    exact ⟨z, .inl ⟨_, cls_rp r hk, q1⟩⟩
  · split at e
    · rename_i cs
      obtain ⟨a, vs, rfl, tn, rr⟩ := tup_rp r
      obtain ⟨z, us, hp, hu⟩ := any_rp hl _ vs b rr e
      exact ⟨z, .inr ⟨a, vs, us, rfl, tn, hp, hu⟩⟩
    · cases e
theorem ca_isG {tb te : IsTb} (ht : IsOk K tb) (he : IsOkE K te) : CaG K W (rIsG K) (bIsG tb te) := fun n ρ S H σ ds vs Q g r h => by
  unfold bIsG at h
  split at h
  · rename_i x c
    obtain ⟨v, w, rfl, r1, r2⟩ := r.duo
    split at h
    · rename_i b hb
      split at hb
      · rename_i C fs
        obtain ⟨k, z⟩ := ask_rp (t := .ref (He.ga K (Str.ofString C))) (Z := ExcC K (He.ga K (Str.ofString C))) (fun k b e => ⟨(he _ (look_mem' e)).kit, (he _ (look_mem' e)).exc⟩) r2 hb
        obtain ⟨a, d, gs, e1, hx, hd, rf⟩ := r1
        exact ⟨v, w, _, b, rfl, .inr ⟨ρ, a, _, d, gs, e1, rfl, hx, hd, k⟩, z, h.val g rfl⟩
      · split at hb
        · rename_i t e1
          obtain ⟨k, z⟩ := ask_rp (t := valK K t) (Z := t.1 = true → OwnTy K (He.ga K (Str.ofString t.2))) (fun k b e => ⟨(ht _ (look_mem' e)).kit, (ht _ (look_mem' e)).own⟩) r2 hb
          exact ⟨v, w, _, b, rfl, .inl (ty_rp g r1 e1 k), z, h.val g rfl⟩
        · cases hb
    · exact False.elim h
  · exact False.elim h
end
end G

/-! own exception classes over ValueError, LookupError, RuntimeError: made (keywords too), stored to -/
namespace PySem
namespace GX
open PySem.W PySem.Calls PyProof.Rows Builtin Builtin.ObjectAttr
section
variable {M : Model} {A : Around} {E : Value → Shared → Prop} {h : Heap} {g : Array GenState} {d : Drawn} {t : Nat} {os : OsState}
variable {nm q : Str} {C N : Addr} {bs bm bmB : List Value} {hdct : Bool} {sn : List Str} {sub : List Value} {ab : Bool} {col : Option Bool} {dd : Option Addr} {k0 k1 k2 k3 k5 : Option Value} {B newId initId : String}
theorem newCheck (F : ExcBaseFacts B newId initId bmB) (hT : ∀ X : String, bm.contains (.type X) = bmB.contains (.type X)) {vs : List Value} {kw : List (Str × Value)} {Q : Unit → Shared → Prop}
    (hC : h.get? C = some (excClassObj nm q C N bs bm hdct sn sub ab col dd k0 k1 k2 k3 k5 newId)) (z : Q () ⟨h, g, d, t, os⟩) : wpAny M A (checkBuiltinCall newId ⟨.ref C :: vs, kw⟩) Q E ⟨h, g, d, t, os⟩ := by
  have inB : (Value.ref C :: bm).contains (.type B) = true := by rw [List.contains_cons, hT, F.hasB, Bool.or_true]
  have st := F.noStar
  simp only [checkBuiltinCall, F.newKind, F.newSplit, F.newRow]
  repeat (first | refine wpAny_loadPart_at hC ?_ | (refine wpAny_isSubtype_exc hC ?_; rw [inB]) | refine wpAny_staticBase_exc hC ?_ | refine wpAny_madeBy_exc hC ?_ | simp only [bne_self_eq_false, Bool.false_eq_true, if_false] | wp_step)
  exact z
end
section
variable {prog : Program} {w : World} {A : Around} {E : Value → Shared → Prop} {R : Result → Shared → Prop} {h : Heap} {g : Array GenState} {d : Drawn} {t : Nat} {os : OsState}
variable {nm q : Str} {C N : Addr} {bs bm bmB : List Value} {hdct : Bool} {sn : List Str} {sub : List Value} {ab : Bool} {col : Option Bool} {dd : Option Addr} {k0 k1 k2 k3 k5 : Option Value} {B newId initId : String}
abbrev newX (C t : Addr) : Obj := { cls := .ref C, data := .fields #[.ref t, .none, .none, .none, .bool false, .none] }
theorem newRun (F : ExcBaseFacts B newId initId bmB) (hT : ∀ X : String, bm.contains (.type X) = bmB.contains (.type X)) {vs : List Value} {kw : List (Str × Value)} (hC : h.get? C = some (excClassObj nm q C N bs bm hdct sn sub ab col dd k0 k1 k2 k3 k5 newId))
    (z : R (.ok (.ret (.ref (h.objs.size + 1)))) ⟨(h.push (W.kdv_tup vs)).push (newX C h.objs.size), g, d, t, os⟩) (hl : vs.length ≤ sizeLine) : codeAny (model prog w) A (.builtin newId ⟨.ref C :: vs, kw⟩) R ⟨h, g, d, t, os⟩ := by
  have en := F.ends
  have c1 : (Value.ref C :: bm).contains (.type B) = true := by rw [List.contains_cons, hT, F.hasB, Bool.or_true]
  have c2 : (Value.ref C :: bm).contains (.type "AttributeError") = false := by rw [List.contains_cons, hT, F.noAttr]; rfl
  have c3 : (Value.ref C :: bm).contains (.type "NameError") = false := by rw [List.contains_cons, hT, F.noName]; rfl
  refine codeAny_builtinAt F.entry ?_
  unfold Builtin.«BaseException.__new__»
  refine wpAt_bind ?_
  show wpAt _ _ _ (stack >>= _) _ _ _
  refine wpAt_bind (wpAt_stack fun p below => wpAt_of_wpAny ?_)
  wp_walk
  refine wpAt_of_wpAny ?_
  rw [F.owner]
  repeat (first | with_reducible refine wpAny_madeHere_exc F.canon hC ?_ | with_reducible refine wpAny_loadPart_at hC ?_ | (with_reducible refine wpAny_isSubtype_exc hC ?_; first | rw [c1] | rw [c2] | rw [c3]) | wp_step)
  show R _ _
  rw [Heap.size_push]
  exact z
theorem typeRun (F : ExcBaseFacts B newId initId bmB) (hT : ∀ X : String, bm.contains (.type X) = bmB.contains (.type X)) {vs : List Value} {kw : List (Str × Value)} {fI : Addr} {Q : Fin → Shared → Prop}
    (hC : h.get? C = some (excClassObj nm q C N bs bm hdct sn sub ab col dd k0 k1 k2 k3 k5 newId)) (hi : W.Looks (model prog w) h (typeLookup (.ref C) "__init__") (some (.ref fI))) (hb : ∀ self, W.Looks (model prog w) h (bindSpecial (.ref fI) self) (.ref fI, [self])) (hl : vs.length ≤ sizeLine)
    (z : codeAny (model prog w) A (.call (.ref fI) ⟨.ref (h.objs.size + 1) :: vs, kw⟩) (fun r s' => match r with | .ok (.ret v) => v = .none ∧ Q (.done (.ret (.ref (h.objs.size + 1)))) s' | .ok _ => False | .error e => E e s') ⟨(h.push (W.kdv_tup vs)).push (newX C h.objs.size), g, d, t, os⟩) :
    wpAny (model prog w) A (Builtin.«type.__call__» ⟨.ref C :: vs, kw⟩) Q E ⟨h, g, d, t, os⟩ := by
  repeat (first | with_reducible refine wpAny_loadPart_at hC ?_ | with_reducible refine wpAny_madeBy_exc hC ?_ | wp_step)
  refine codeAny_call_builtin_code (Code.quiet_builtin _ F.quiet) (newCheck F hT hC ?_)
  refine newRun F hT hC ?_ hl
  show wpAny _ _ _ _ _ _
  have kp : ∀ b o, h.get? b = some o → ((h.push (W.kdv_tup vs)).push (newX C h.objs.size)).get? b = some o := fun b o e => Heap.get?_push_of_some _ (Heap.get?_push_of_some _ e)
  have hC' := kp _ _ hC
  have at1 : ((h.push (W.kdv_tup vs)).push (newX C h.objs.size)).get? (h.objs.size + 1) = some (newX C h.objs.size) := by heap_get
  have self : (Value.ref C :: bm).contains (.ref C) = true := by simp
  have i1 := hi.keeps kp
  have b1 := (hb (.ref (h.objs.size + 1))).keeps kp
  unfold isInstance
  repeat (first | with_reducible refine wpAny_loadPart_at at1 ?_ | (with_reducible refine wpAny_isSubtype_exc hC' ?_; rw [self]) | wp_step)
  show wpAny _ _ (typeLookup (.ref C) _) _ _ _
  refine i1.at ?_
  refine wpAny_holding (wpAny_bind (b1.at ?_))
  refine wpAny_bind (wpAny_call (codeAny_mono z fun r s' y => ?_))
  rcases r with e | (v | _ | _ | _) <;> first | exact y | exact y.elim | skip
  obtain ⟨rfl, y⟩ := y
  first
    | exact wpAny_pure (wpAny_pure y)
    | (wp_walk; exact y)
theorem callRun (F : ExcBaseFacts B newId initId bmB) (hT : ∀ X : String, bm.contains (.type X) = bmB.contains (.type X)) {vs : List Value} {kw : List (Str × Value)} {fI : Addr}
    (hC : h.get? C = some (excClassObj nm q C N bs bm hdct sn sub ab col dd k0 k1 k2 k3 k5 newId)) (hi : W.Looks (model prog w) h (typeLookup (.ref C) "__init__") (some (.ref fI))) (hb : ∀ self, W.Looks (model prog w) h (bindSpecial (.ref fI) self) (.ref fI, [self])) (hl : vs.length ≤ sizeLine)
    (z : codeAny (model prog w) (A.under (.builtin "type.__call__" ⟨.ref C :: vs, kw⟩)) (.call (.ref fI) ⟨.ref (h.objs.size + 1) :: vs, kw⟩) (W.InitBack (h.objs.size + 1) R) ⟨(h.push (W.kdv_tup vs)).push (newX C h.objs.size), g, d, t, os⟩) :
    codeAny (model prog w) A (.call (.ref C) ⟨vs, kw⟩) R ⟨h, g, d, t, os⟩ := by
  have f1 := tc_lookup
  have f2 := tc_bind (.ref C)
  have hTy : (⟨h, g, d, t, os⟩ : Shared).TypeIs (.ref C) "type" := ⟨_, hC, rfl⟩
  have typ : W.Looks (model prog w) h (isInstance (.ref C) (.type "type")) true := ((W.Looks.ld (part := none) hC).andThen .now).andThen .now
  refine codeAny_of_tree ?_
  show wpAny _ _ (callAny (.ref C) _) _ _ _
  repeat (any_goals (first | assumption | with_reducible refine wpAny_loadPart_at hC ?_ | wp_step))
  refine ⟨rfl, ?_⟩
  refine codeAny_call_builtin_at (Code.quiet_builtin _ (by decide +kernel)) entry_typeCall (W.check_slot tc_kind tc_split typ (tc_args _ _ _) (typeRun F hT hC hi hb hl ?_))
  refine codeAny_mono z fun r s' y => ?_
  rcases r with e | (v | _ | _ | _) <;> exact y
end
end GX
end PySem

namespace PySem
namespace GX
open PySem.W PySem.Calls PyProof.Rows Builtin Builtin.ObjectAttr
/-- a built-in base: how its subclasses are made, how they are stored to -/
structure Base (B newId initId : String) (bmB : List Value) : Prop where
  F : ExcBaseFacts B newId initId bmB
  S : StoreFacts B bmB "object.__setattr__" "object"
theorem base_VE : Base "ValueError" "ValueError.__new__" "ValueError.__init__" [.type "ValueError", .type "Exception", .type "BaseException", .type "object"] := ⟨PySem.F.excBase_ValueError, PySem.F.store_ValueError⟩
theorem base_LE : Base "LookupError" "LookupError.__new__" "LookupError.__init__" [.type "LookupError", .type "Exception", .type "BaseException", .type "object"] := ⟨PySem.F.excBase_LookupError, PySem.F.store_LookupError⟩
theorem base_RE : Base "RuntimeError" "RuntimeError.__new__" "RuntimeError.__init__" [.type "RuntimeError", .type "Exception", .type "BaseException", .type "object"] := ⟨PySem.F.excBase_RuntimeError, PySem.F.store_RuntimeError⟩
section
variable {prog : Program} {w : World} {A : Around} {E : Value → Shared → Prop} {R : Result → Shared → Prop} {hp : Heap} {g : Array GenState} {d : Drawn} {t : Nat} {os : OsState} {B : String} {bmB bm : List Value}
/-- the road of a store to the own dict -/
theorem storeRoad {K : W.Frag} {name : Str} {tk : Tok} {v : Value} {x C : Addr} {ox : Obj} {od : Option Obj} {cd : ClassData} (SF : StoreFacts B bmB "object.__setattr__" "object") (X : K.In hp) (I : W.InstAt hp x ox C od) (hcd : W.clsIn K C = some cd) (hm : cd.mro = .ref C :: bm) (ht : W.excTail bmB bm = true)
    (ha : W.findIn K (.ref C) name = some none)
    (q : wpAny (model prog w) A.in1 (storeInOwnDict (.ref x) (.ref C) (.str name tk) name v false) (fun fin s' => match fin with | .done f => R (.ok f) s' | .again c' => c'.quiet = true ∧ codeAny (model prog w) A c' R s') (fun e s' => R (.error e) s') ⟨hp, g, d, t, os⟩) :
    codeAny (model prog w) A (.call (.builtin "object.__setattr__") ⟨[.ref x, .str name tk, v], []⟩) R ⟨hp, g, d, t, os⟩ := by
  have hob : cd.mro.contains (.type "object") = true := by rw [hm, List.contains_cons, W.excTail_contains "object" _ ht, SF.hasOwner, Bool.or_true]
  have ne : cd.mro.isEmpty = false := by rw [hm]; rfl
  have sub : W.Looks (model prog w) hp (isInstance (.ref x) (.type "object")) true := I.type.andThen (W.looks_mroIn X (by unfold W.mroIn; rw [hcd, Option.bind_some, if_neg (by rw [ne]; decide), hob]))
  refine codeAny_call_builtin SF.slot.plain SF.entry (@W.check_slot (model prog w) _ _ ⟨hp, g, d, t, os⟩ "object.__setattr__" "object" "__setattr__" (.ref x) [.str name tk, v] [] _ SF.kind SF.split sub (SF.args (.ref x) (.str name tk) v) ?_)
  have hmr : W.Looks (model prog w) hp (mroOf (.ref C)) cd.mro := (W.looks_clsIn X hcd).andThen .now
  have L3 : W.Looks (model prog w) hp (storeTaker? none) none := .now
  rw [W.osa_eq, refuse_eq]
  refine wpAny_bind (wpAny_bind (I.type.at (wpAny_bind (hmr.at ?_))))
  rw [hm, refuseLoop_ref, W.excTail_pass _ (SF.passes _) _ ht]
  refine wpAny_pure (wpAny_bind (I.type.at (wpAny_bind ((W.looks_findIn X ha).at (wpAny_bind (L3.at ?_))))))
  exact q
theorem osaFirst {K : W.Frag} {name : Str} {tk : Tok} {v : Value} {x C : Addr} {fv : Array Value} {cd : ClassData} (SF : StoreFacts B bmB "object.__setattr__" "object") (X : K.In hp) (hx : hp.get? x = some { cls := .ref C, data := .fields fv }) (hcd : W.clsIn K C = some cd) (hm : cd.mro = .ref C :: bm) (ht : W.excTail bmB bm = true)
    (hh : cd.hasDict = true) (ha : W.findIn K (.ref C) name = some none)
    (z : ∀ h' tk' dx, (∀ b o, b ≠ x → hp.get? b = some o → h'.get? b = some o) → hp.objs.size ≤ dx → dx ≠ x → h'.get? x = some { cls := .ref C, dict := some dx, data := .fields fv } → h'.Ns1 dx (fun y => if y = name then some v else none) → R (.ok (.ret .none)) ⟨h', g, d, tk', os⟩) :
    codeAny (model prog w) A (.call (.builtin "object.__setattr__") ⟨[.ref x, .str name tk, v], []⟩) R ⟨hp, g, d, t, os⟩ := by
  refine storeRoad SF X (ox := { cls := .ref C, data := .fields fv }) (od := none) ⟨hx, rfl, rfl, trivial⟩ hcd hm ht ha ?_
  have hcls : W.Looks (model prog w) hp (classData C) cd := W.looks_clsIn X hcd
  have ne : x ≠ hp.objs.size := Nat.ne_of_lt (Heap.lt_size hx)
  obtain ⟨nm, bs, mro, ns, qn, hd, sn, sb, ab, col, del⟩ := cd
  dsimp only at hh
  subst hh
  unfold storeInOwnDict ownDictForStores
  repeat (first | with_reducible refine HandSPX.store_in_new ?_ ?_ | with_reducible refine wpAny_loadPart_at hx ?_ | with_reducible refine hcls.at ?_ | wp_step)
  · exact ⟨_, #[], _, (Heap.get?_update_ne _ _ _ _ ne.symm).trans (Heap.get?_push_at rfl rfl), rfl, fun e he => absurd he (by simp), fun _ => rfl⟩
  · intro h' tk' hn' hs
    have hx₁ : (hp.push { cls := .type "dict", data := .dict #[] }).get? x = some { cls := .ref C, data := .fields fv } := Heap.get?_push_of_some _ hx
    refine z h' tk' hp.objs.size (fun b o hb ho => ?_) (Nat.le_refl _) ne.symm ?_ hn'
    · exact (hs.2 b (Nat.ne_of_lt (Heap.lt_size ho))).trans ((Heap.get?_update_ne _ _ _ _ hb).trans (Heap.get?_push_of_some _ ho))
    · exact (hs.2 x ne).trans (Heap.get?_update_self _ hx₁ rfl)
theorem osaMore {K : W.Frag} {name : Str} {tk : Tok} {v : Value} {x C dx : Addr} {fv : Array Value} {cd : ClassData} {m0 : Str → Option Value} {nl : List Str} (SF : StoreFacts B bmB "object.__setattr__" "object") (X : K.In hp) (hx : hp.get? x = some { cls := .ref C, dict := some dx, data := .fields fv }) (hns : hp.Ns1 dx m0)
    (hw : Within m0 nl) (hz : nl.length ≤ 1000) (hcd : W.clsIn K C = some cd) (hm : cd.mro = .ref C :: bm) (ht : W.excTail bmB bm = true) (hh : cd.hasDict = true) (ha : W.findIn K (.ref C) name = some none)
    (z : ∀ h' tk', (∀ b o, b ≠ dx → hp.get? b = some o → h'.get? b = some o) → h'.Ns1 dx (fun y => if y = name then some v else m0 y) → R (.ok (.ret .none)) ⟨h', g, d, tk', os⟩) :
    codeAny (model prog w) A (.call (.builtin "object.__setattr__") ⟨[.ref x, .str name tk, v], []⟩) R ⟨hp, g, d, t, os⟩ := by
  obtain ⟨oD, esD, epD, hoD, hdD, _⟩ := hns.count hw
  refine storeRoad SF X (ox := { cls := .ref C, dict := some dx, data := .fields fv }) (od := some oD) ⟨hx, rfl, rfl, hoD⟩ hcd hm ht ha ?_
  have hcls : W.Looks (model prog w) hp (classData C) cd := W.looks_clsIn X hcd
  obtain ⟨nm, bs, mro, ns, qn, hd, sn, sb, ab, col, del⟩ := cd
  dsimp only at hh
  subst hh
  unfold storeInOwnDict ownDictForStores
  repeat (first | with_reducible refine OEX.store_in_old hns hw hz ?_ | with_reducible refine wpAny_loadPart_at hx ?_ | with_reducible refine hcls.at ?_ | wp_step)
  intro h' tk' hn' hs
  exact z h' tk' (fun b o hb ho => (hs.2 b hb).trans ho) hn'
end
end GX
end PySem
namespace G
open PySem PySem.Spec PyProof.Rows L2
/-- what the written part says of an own exception class -/
structure OexG (K : PySem.W.Frag) (C : Addr) : Prop where
  cls : ∃ B newId initId bmB, GX.Base B newId initId bmB ∧ ∃ nm q N bs bm sn sub ab col dd k0 k1 k2 k3 k5, K.lookup C = some (excClassObj nm q C N bs bm true sn sub ab col dd k0 k1 k2 k3 k5 newId) ∧ PySem.W.excTail bmB bm = true
  sa : PySem.W.findIn K (.ref C) "__setattr__" = some (some (.builtin "object.__setattr__"))
  exC : PySem.W.subIn K (.ref C) (.type "BaseException") = some true
  tyC : PySem.W.typeIn K (.ref C) = some (.type "type")
  kC : PySem.W.keepIn K (.ref C) = true
section
variable {X : Cx} {pins : List (Addr × Obj)} {σ : L2.St} {H : Hp} {s : Shared} {a C dx : Addr} {f : Str} {y : V} {u : Value} {fs : List (Str × V)} {Q : Unit → Shared → Prop} {E : Value → Shared → Prop} {A : Around}
theorem x_first (T : G.OexG X.K C) (I : L2.Inv X pins σ H s) (e : H a = some (exo a C none)) (hno : PySem.W.findIn X.K (.ref C) f = some none) (ry : RelV y u)
    (h : ∀ dx s', H dx = none → dx ≠ a → L2.Inv X pins σ (upd (upd H dx (exd dx [(f, y)])) a (exo a C (some dx))) s' → Q () s') : wpAny (model X.prog X.w) A (setAttr (.ref a) f u) Q E s := by
  obtain ⟨B, nI, iI, bmB, BB, nm, q, N, bs, bm, sn, sub, ab, col, dd, k0, k1, k2, k3, k5, hC, hbm⟩ := T.cls
  have hcl : PySem.W.clsIn X.K C = some { name := nm, bases := bs, mro := .ref C :: bm, ns := N, qualname := q, hasDict := true, slotNames := sn, subclasses := sub, abstract := ab, collection := col, hasDel := false } := by unfold PySem.W.clsIn; rw [hC] <;> rfl
  obtain ⟨t1, ho⟩ := exo_at I.hok e
  obtain ⟨hp, g, d, t, os⟩ := s
  refine PySem.W.set_plain I.kIn (ox := { cls := .ref C, dict := none, data := .fields #[.ref t1, .none, .none, .none, .bool false, .none] }) (od := none) ⟨ho, rfl, rfl, trivial⟩ T.sa ?_
  refine GX.osaFirst BB.S I.kIn ho hcl rfl hbm rfl hno fun h' tk' dx k dn dne hx hn => ?_
  have hnd : H dx = none := I.hok.fresh dn
  have nd : ∀ {b : Addr} {o : Obj}, hp.get? b = some o → b ≠ dx := fun {b o} q => Nat.ne_of_lt (Nat.lt_of_lt_of_le (Heap.lt_size q) dn)
  have na : ∀ {b : Addr}, H b = none → b ≠ a := fun {b} n z => by
    rw [z, e] at n
    cases n
  have Un1 : Un X.fs [] H (upd (upd H dx (exd dx [(f, y)])) a (exo a C (some dx))) hp h' := {
    keep := fun b o q n _ _ => k b o (na n) q
    slot := fun b o q n _ _ => ⟨o.slots, k b o (na n) q⟩
    free := fun b o q n _ => by rw [upd_ne (na n), upd_ne (nd q)]; exact n
    there := fun b o q _ => by
      by_cases hb : b = a
      · exact ⟨_, by rw [hb]; exact hx⟩
      · exact ⟨o, k b o hb q⟩
    tups := fun b xs q => by rw [upd_ne (at_ne e q exo_tup), upd_ne (ne_of_none q hnd)]; exact q
    frzs := fun b o v q => by rw [upd_ne (at_ne e q exo_frz), upd_ne (ne_of_none q hnd)]; exact q
    tbls := fun b ps q => ⟨#[], by rw [upd_ne (at_ne e q exo_tbl), upd_ne (ne_of_none q hnd), q]; simp⟩ }
  refine h dx _ hnd dne (I.un (t' := tk') Un1 fun b o q => ?_)
  by_cases hb : b = a
  · subst hb
    rw [upd_same] at q
    cases q
    exact exo_ok hx
  · rw [upd_ne hb] at q
    by_cases hd : b = dx
    · subst hd
      rw [upd_same] at q
      cases q
      exact exd_ok hn (relO_put (fs := []) ry fun g => True.intro)
    · rw [upd_ne hd] at q
      exact (I.hok b o q).stay (fun c v hc z => k c v (by
          rcases hc with hc | hc
          · rw [hc]
            exact hb
          · exact at_ne e hc exo_own) z)
        (fun c hc => by rw [upd_ne (at_ne e hc exo_own), upd_ne (ne_of_none hc hnd)]; exact hc) (fun c xs hc => by rw [upd_ne (at_ne e hc exo_tup), upd_ne (ne_of_none hc hnd)]; exact hc)
theorem x_more (T : G.OexG X.K C) (I : L2.Inv X pins σ H s) (e : H a = some (exo a C (some dx))) (ed : H dx = some (exd dx fs)) (hl : fs.length ≤ 900) (hno : PySem.W.findIn X.K (.ref C) f = some none) (ry : RelV y u)
    (h : ∀ s', L2.Inv X pins σ (upd H dx (exd dx ((f, y) :: fs))) s' → Q () s') : wpAny (model X.prog X.w) A (setAttr (.ref a) f u) Q E s := by
  obtain ⟨B, nI, iI, bmB, BB, nm, q, N, bs, bm, sn, sub, ab, col, dd, k0, k1, k2, k3, k5, hC, hbm⟩ := T.cls
  have hcl : PySem.W.clsIn X.K C = some { name := nm, bases := bs, mro := .ref C :: bm, ns := N, qualname := q, hasDict := true, slotNames := sn, subclasses := sub, abstract := ab, collection := col, hasDel := false } := by unfold PySem.W.clsIn; rw [hC] <;> rfl
  obtain ⟨t1, ho⟩ := exo_at I.hok e
  obtain ⟨mA, hns, rel⟩ := exd_at I.hok ed
  have hw := within_of rel
  obtain ⟨hp, g, d, t, os⟩ := s
  obtain ⟨oD, _, _, hoD, _, _⟩ := hns.count hw
  refine PySem.W.set_plain I.kIn (ox := { cls := .ref C, dict := some dx, data := .fields #[.ref t1, .none, .none, .none, .bool false, .none] }) (od := some oD) ⟨ho, rfl, rfl, hoD⟩ T.sa ?_
  refine GX.osaMore BB.S I.kIn ho hns hw (by rw [List.length_map]; omega) hcl rfl hbm rfl hno fun h' tk' k hn => ?_
  have hd : ∃ o, h'.get? dx = some o := by
    obtain ⟨o, _, _, e', _⟩ := hn
    exact ⟨o, e'⟩
  exact h _ (I.write (t' := tk') (x := dx) (e := dx) (o := exd dx ((f, y) :: fs)) (by rw [ed]; exact True.intro) (.inl rfl) k hd (exd_ok hn (relO_put ry rel)))
end
/-- self.f = e -/
def tOsg (K : PySem.W.Frag) (f : Str) (to te : TE) : TS := fun D σ H => te σ H fun y H1 => to σ H1 fun x H2 => ∃ a C : Addr, x = .ref a ∧ G.OexG K C ∧ PySem.W.findIn K (.ref C) f = some none ∧
  ((H2 a = some (exo a C none) ∧ ∀ dx, H2 dx = none → dx ≠ a → D.nx σ (upd (upd H2 dx (exd dx [(f, y)])) a (exo a C (some dx)))) ∨
    ∃ (dx : Addr) (fs : List (Str × V)), H2 a = some (exo a C (some dx)) ∧ H2 dx = some (exd dx fs) ∧ fs.length ≤ 900 ∧ D.nx σ (upd H2 dx (exd dx ((f, y) :: fs))))
section
variable {X : Cx} {o e : Expr} {es : List Expr} {to te : TE} {ta : TA} {f : Str} {p p' p1 p2 pos : Pos}
theorem ps_osg (ho : PE X o to) (he : PE X e te) (hs : swapsWith e (some (.Attribute o f p')) pos.line X.env = pure false := by rfl) : PS X (.Assign [.Attribute o f p'] e pos) (G.tOsg X.K f to te) := by
  refine ⟨fun pins s σ H D I h => ?_⟩
  refine plainObj_wpAny_Assign_Attribute (thn (he.run pins s σ H _ I h) fun v s1 ⟨y, H1, I1, r1, q1⟩ => thn (ho.run pins s1 σ H1 _ I1 q1) fun u s2 ⟨x, H2, I2, r2, a, C, ex, T, hno, q⟩ => ?_) hs
  subst ex
  obtain rfl : u = Value.ref a := r2
  rcases q with ⟨ea, q⟩ | ⟨dx, fs, ea, ed, hl, q⟩
  · exact x_first T I2 ea hno r1 fun dx s' n ne J => ⟨σ, _, J, q dx n ne⟩
  · exact x_more T I2 ea ed hl hno r1 fun s' J => ⟨σ, _, J, q⟩
end
end G

/-! raise C(..), C's __init__ storing its parameters -/
namespace G
open PySem PySem.Spec PyProof.Rows L2
/-- self.f = f, for each parameter in turn -/
def tFl (K : PySem.W.Frag) : Nat → List Str → TS
  | _, [] => tNext
  | i, f :: fl => tSeq (tOst K f (tVar 0) (tVar i)) (tFl K (i + 1) fl)
def goV : List Str → List V → List (Str × V) → List (Str × V)
  | f :: fl, v :: vs, acc => goV fl vs ((f, v) :: acc)
  | _, _, acc => acc
def goD : List String → List D → List (String × D) → List (String × D)
  | f :: fl, v :: vs, acc => goD fl vs ((f, v) :: acc)
  | _, _, acc => acc
theorem go_rp {K : PySem.W.Frag} {ρ : Ad} {H : Hp} : ∀ (fl : List String) (ds : List D) (vs : List V) (acc : List (String × D)) (bcc : List (Str × V)), RpL K ρ H ds vs → RpF K ρ H acc bcc → RpF K ρ H (goD fl ds acc) (goV (fl.map Str.ofString) vs bcc)
  | [], _, _, _, _, _, r => r
  | f :: fl, [], vs, acc, bcc, h, r => by obtain rfl : vs = [] := h; exact r
  | f :: fl, d :: ds, _, acc, bcc, ⟨v, ws, e, h, hr⟩, r => by
    subst e
    exact go_rp fl ds ws _ _ hr ⟨v, bcc, rfl, h, r⟩
section
variable {K : PySem.W.Frag} {C a dx : Addr} {H : Hp} {D : Ends} {N : List Str}
theorem start_get {vs : List V} {i : Nat} {v : V} (h : vs[i]? = some v) : (L2.start N vs)[i]? = some (some v) := by
  have hi := (List.getElem?_eq_some_iff.mp h).1
  unfold L2.start
  rw [List.getElem?_append_left (by simpa using hi), List.getElem?_map, h]
  rfl
/-- an exception with its dict -/
abbrev hpX (H : Hp) (a C dx : Addr) (fs : List (Str × V)) : Hp := upd (upd H dx (exd dx fs)) a (exo a C (some dx))
theorem hpX_a {fs : List (Str × V)} : hpX H a C dx fs a = some (exo a C (some dx)) := upd_same
theorem hpX_dx {fs : List (Str × V)} (ne : dx ≠ a) : hpX H a C dx fs dx = some (exd dx fs) := (upd_ne ne).trans upd_same
theorem hpX_ne {fs : List (Str × V)} {b : Addr} (h1 : b ≠ dx) (h2 : b ≠ a) : hpX H a C dx fs b = H b := (upd_ne h2).trans (upd_ne h1)
theorem hpX_upd {fs gs : List (Str × V)} (ne : dx ≠ a) : upd (hpX H a C dx fs) dx (exd dx gs) = hpX H a C dx gs := by
  funext b
  by_cases h1 : b = dx
  · subst h1
    rw [upd_same, hpX_dx ne]
  · rw [upd_ne h1]
    by_cases h2 : b = a
    · subst h2
      rw [hpX_a, hpX_a]
    · rw [hpX_ne h1 h2, hpX_ne h1 h2]
theorem tFl_old (T : OexC K C) (ne : dx ≠ a) {σ : L2.St} (h0 : σ[0]? = some (some (.ref a))) : ∀ (fl : List Str) (i : Nat) (ws : List V) (acc : List (Str × V)), (∀ f ∈ fl, PySem.W.findIn K (.ref C) f = some none) → (∀ j v, ws[j]? = some v → σ[i + j]? = some (some v)) → fl.length = ws.length → acc.length + fl.length ≤ 900 →
    D.nx σ (hpX H a C dx (goV fl ws acc)) → tFl K i fl D σ (hpX H a C dx acc)
  | [], _, ws, acc, _, _, hl, _, q => by
    cases ws with
    | nil => exact q
    | cons _ _ => cases hl
  | f :: fl, i, [], acc, _, _, hl, _, _ => by cases hl
  | f :: fl, i, v :: ws, acc, hn, hw, hl, hz, q => by
    refine ⟨v, hw 0 v rfl, .ref a, h0, a, C, rfl, T, hn f (by simp), .inr ⟨dx, acc, hpX_a, hpX_dx ne, by simp at hz; omega, ?_⟩⟩
    rw [hpX_upd ne]
    refine tFl_old T ne h0 fl (i + 1) ws _ (fun g hg => hn g (by simp [hg])) (fun j u hj => ?_) (by simpa using hl) (by simp at hz ⊢; omega) q
    have := hw (j + 1) u (by simpa using hj)
    rw [← this]; congr 1; omega
/-- what such an __init__ promises -/
def spI (K : PySem.W.Frag) (C : Addr) (fl : List Str) : Sp := fun vs H Q _ => vs.length = fl.length + 1 ∧ OexC K C ∧ (∀ f ∈ fl, PySem.W.findIn K (.ref C) f = some none) ∧ ∃ a ws, vs = .ref a :: ws ∧ H a = some (exo a C none) ∧ ∀ dx, H dx = none → dx ≠ a → Q .non (hpX H a C dx (goV fl ws []))
theorem tFl_new {f : Str} {fl : List Str} {a : Addr} {ws : List V} (T : OexC K C) (hn : ∀ g ∈ f :: fl, PySem.W.findIn K (.ref C) g = some none) (hl : (f :: fl).length = ws.length) (hz : (f :: fl).length ≤ 900) (ha : H a = some (exo a C none))
    (q : ∀ dx, H dx = none → dx ≠ a → D.nx (L2.start N (.ref a :: ws)) (hpX H a C dx (goV (f :: fl) ws []))) : tFl K 1 (f :: fl) D (L2.start N (.ref a :: ws)) H := by
  cases ws with
  | nil => cases hl
  | cons v ws =>
    have h0 : (L2.start N (.ref a :: v :: ws))[0]? = some (some (.ref a)) := start_get rfl
    refine ⟨v, start_get rfl, .ref a, h0, a, C, rfl, T, hn f (by simp), .inl ⟨ha, fun dx h1 h2 => ?_⟩⟩
    refine tFl_old T h2 h0 fl 2 ws _ (fun g hg => hn g (by simp [hg])) (fun j u hj => start_get ?_) (by simpa using hl) (by simp at hz ⊢; omega) (q dx h1 h2)
    rw [Nat.add_comm]; exact hj
end
section
variable {P : Program} {w : World} {K : PySem.W.Frag} {mg : Str → Option Value} {base : Heap} {x qual : Str} {params : Arguments} {body : List Stmt} {scope : Scope} {dvs : List V} {kws : List (Str × V)} {f C : Addr} {fd : FuncData} {N ps : List Str} {k : Nat} {g : Str} {fl : List Str}
theorem fn_exi (F : FunD K x qual params body scope dvs kws f fd) (S : FnScope N ps scope) (hl : ps.length = (g :: fl).length + 1) (hz : (g :: fl).length ≤ 900)
    (hb : ∀ (cdv : Value) (A : Around) (outer : List Env) (s : Shared) (H : Hp) (E : XK), PSs (bodyX P w K mg base N qual scope f cdv A outer s H E) body (tFl K 1 (g :: fl))) : FnOk P w K mg base (L2.CX P w) (k + 1) f fd ps (spI K C (g :: fl)) := by
  refine F.ok S (fun vs H Q E h => h.1.trans hl.symm) fun cdv A outer s H vs Q E hr ⟨h1, T, hn, a, ws, e, ha, q⟩ => ⟨tFl K 1 (g :: fl), hb cdv A outer s H E, ?_⟩
  subst e
  exact tFl_new T hn (by simpa using h1.symm) hz ha q
end
/-- an own exception class that can be raised with so many arguments -/
structure Oex (X : Cx) (x : Str) (C : String) (fl : List String) : Prop where
  gl : Gl X x
  mg : X.mg x = some (.ref (He.ga X.K (Str.ofString C)))
  T : OexC X.K (He.ga X.K (Str.ofString C))
  n : ∀ f ∈ fl.map Str.ofString, PySem.W.findIn X.K (.ref (He.ga X.K (Str.ofString C))) f = some none
  fn : ∃ k fI fd ps, PySem.W.findIn X.K (.ref (He.ga X.K (Str.ofString C))) "__init__" = some (some (.ref fI)) ∧ PySem.W.typeIn X.K (.ref fI) = some (.type "function") ∧
    FnOk X.prog X.w X.K X.mg X.base (L2.CX X.prog X.w) k fI fd ps (spI X.K (He.ga X.K (Str.ofString C)) (fl.map Str.ofString)) ∧ Room (k + 1) X.A ∧ Binds X.K fd ps []
def dRaise (C : String) (fl : List String) (da : DA) : DS := fun n δ S => (da n δ S).to δ fun ds S1 => if ds.length = fl.length ∧ ds.length ≤ 1000 then .exc (.obj C (goD fl ds [])) δ S1 else .bad
theorem del_back {H : Hp} {a C dx : Addr} {fs : List (Str × V)} (na : H a = none) (ne : dx ≠ a) : upd (del (hpX (upd H a (exo a C none)) a C dx fs) a) dx (.xd fs) = upd H dx (.xd fs) := by
  funext b
  by_cases h1 : b = dx
  · subst h1; rw [upd_same, upd_same]
  · rw [upd_ne h1, upd_ne h1]
    by_cases h2 : b = a
    · subst h2; rw [del_same, na]
    · rw [del_ne h2, hpX_ne h1 h2, upd_ne h2]
section
variable {X : Cx} {W : WX} {x : Str} {C : String} {fl : List String} {e : Expr} {es : List Expr} {da : DA} {p pos pos' : Pos}
theorem ss_raise (hc : X.calm = true) (tk : Takes X W) (O : Oex X x C fl) (ha : SA X W (e :: es) da) (hdb : (x == ("__debug__" : Str)) = false := by decide) (he : starEach (e :: es) X.env = (false, eval e X.env) :: starEach es X.env := by rfl)
    (hpl : (backTo pos (starEach es X.env)).any (·.1) = false := by rfl) : SS X W (.Raise (some (.Call (.Name x p) (e :: es) [] pos)) none pos') (dRaise C fl da) := by
  obtain ⟨k, fI, fd, ps, h1, h2, F, hr, hb⟩ := O.fn
  have hx : Passes (L2.CX X.prog X.w) X (fun _ _ _ => False) := passL
  refine PS.imp (ps_raise hc tk (pmk_oex (ds := []) (dvs := []) O.T h1 h2 F hr hb .nil hx O.gl O.mg ha hdb he hpl)) fun E σ H ⟨n, ρ, S, δ, g, en, r⟩ => ?_
  refine ⟨n, ρ, S, δ, g, en, (RestS.ex (rel := RpL X.K) g en r).mono fun vs H1 ⟨ρ1, S1, ds, g1, e1, r1, f1, q⟩ => ?_⟩
  split at q
  · rename_i hl
    refine ⟨by rw [r1.length]; exact hl.2, fun a na => ?_⟩
    rw [List.append_nil]
    refine ⟨by simp [r1.length, hl.1], O.T, O.n, a, vs, rfl, upd_same, fun dx hd ne => ⟨rfl, dx, _, hpX_a, hpX_dx ne, ?_, ?_⟩⟩
    · rw [upd_ne ne] at hd; exact hd
    · rw [upd_ne ne] at hd
      rw [del_back na ne]
      have kp : Kp ρ1 H1 ρ1 (upd H1 dx (.xd (goV (fl.map Str.ofString) vs []))) := Kp.fresh hd
      exact q σ _ _ ρ1 _ (g1.fresh hd) (e1.kp kp) (.inl ⟨C, _, rfl, rfl, .inr ⟨dx, _, rfl, upd_same, g1.notin hd, go_rp fl ds vs [] [] (RpL.kp kp ds vs r1) rfl⟩⟩) ⟨kp, Shr.refl⟩
  · exact False.elim q
end
end G

/-! exceptions made as values -/
namespace G
open PySem PySem.Spec PyProof.Rows L2
/-- self.f = f, for each parameter in turn -/
def tFx (K : PySem.W.Frag) : Nat → List Str → TS
  | _, [] => tNext
  | i, f :: fl => tSeq (G.tOsg K f (tVar 0) (tVar i)) (tFx K (i + 1) fl)
section
variable {K : PySem.W.Frag} {C a dx : Addr} {H : Hp} {D : Ends} {N : List Str}
theorem tFx_old (T : G.OexG K C) (ne : dx ≠ a) {σ : L2.St} (h0 : σ[0]? = some (some (.ref a))) : ∀ (fl : List Str) (i : Nat) (ws : List V) (acc : List (Str × V)), (∀ f ∈ fl, PySem.W.findIn K (.ref C) f = some none) → (∀ j v, ws[j]? = some v → σ[i + j]? = some (some v)) → fl.length = ws.length → acc.length + fl.length ≤ 900 →
    D.nx σ (hpX H a C dx (goV fl ws acc)) → tFx K i fl D σ (hpX H a C dx acc)
  | [], _, ws, acc, _, _, hl, _, q => by
    cases ws with
    | nil => exact q
    | cons _ _ => cases hl
  | f :: fl, i, [], acc, _, _, hl, _, _ => by cases hl
  | f :: fl, i, v :: ws, acc, hn, hw, hl, hz, q => by
    refine ⟨v, hw 0 v rfl, .ref a, h0, a, C, rfl, T, hn f (by simp), .inr ⟨dx, acc, hpX_a, hpX_dx ne, by simp at hz; omega, ?_⟩⟩
    rw [hpX_upd ne]
    refine tFx_old T ne h0 fl (i + 1) ws _ (fun g hg => hn g (by simp [hg])) (fun j u hj => ?_) (by simpa using hl) (by simp at hz ⊢; omega) q
    have := hw (j + 1) u (by simpa using hj)
    rw [← this]; congr 1; omega
/-- what such an __init__ promises -/
def spX (K : PySem.W.Frag) (C : Addr) (fl : List Str) : Sp := fun vs H Q _ => vs.length = fl.length + 1 ∧ G.OexG K C ∧ (∀ f ∈ fl, PySem.W.findIn K (.ref C) f = some none) ∧ ∃ a ws, vs = .ref a :: ws ∧ H a = some (exo a C none) ∧ ∀ dx, H dx = none → dx ≠ a → Q .non (hpX H a C dx (goV fl ws []))
theorem tFx_new {f : Str} {fl : List Str} {a : Addr} {ws : List V} (T : G.OexG K C) (hn : ∀ g ∈ f :: fl, PySem.W.findIn K (.ref C) g = some none) (hl : (f :: fl).length = ws.length) (hz : (f :: fl).length ≤ 900) (ha : H a = some (exo a C none))
    (q : ∀ dx, H dx = none → dx ≠ a → D.nx (L2.start N (.ref a :: ws)) (hpX H a C dx (goV (f :: fl) ws []))) : tFx K 1 (f :: fl) D (L2.start N (.ref a :: ws)) H := by
  cases ws with
  | nil => cases hl
  | cons v ws =>
    have h0 : (L2.start N (.ref a :: v :: ws))[0]? = some (some (.ref a)) := start_get rfl
    refine ⟨v, start_get rfl, .ref a, h0, a, C, rfl, T, hn f (by simp), .inl ⟨ha, fun dx h1 h2 => ?_⟩⟩
    refine tFx_old T h2 h0 fl 2 ws _ (fun g hg => hn g (by simp [hg])) (fun j u hj => start_get ?_) (by simpa using hl) (by simp at hz ⊢; omega) (q dx h1 h2)
    rw [Nat.add_comm]; exact hj
end
section
variable {P : Program} {w : World} {K : PySem.W.Frag} {mg : Str → Option Value} {base : Heap} {x qual : Str} {params : Arguments} {body : List Stmt} {scope : Scope} {dvs : List V} {kws : List (Str × V)} {f C : Addr} {fd : FuncData} {N ps : List Str} {k : Nat} {g : Str} {fl : List Str}
theorem fn_exx (F : FunD K x qual params body scope dvs kws f fd) (S : FnScope N ps scope) (hl : ps.length = (g :: fl).length + 1) (hz : (g :: fl).length ≤ 900)
    (hb : ∀ (cdv : Value) (A : Around) (outer : List Env) (s : Shared) (H : Hp) (E : XK), PSs (bodyX P w K mg base N qual scope f cdv A outer s H E) body (tFx K 1 (g :: fl))) : FnOk P w K mg base (L2.CX P w) (k + 1) f fd ps (spX K C (g :: fl)) := by
  refine F.ok S (fun vs H Q E h => h.1.trans hl.symm) fun cdv A outer s H vs Q E hr ⟨h1, T, hn, a, ws, e, ha, q⟩ => ⟨tFx K 1 (g :: fl), hb cdv A outer s H E, ?_⟩
  subst e
  exact tFx_new T hn (by simpa using h1.symm) hz ha q
end
/-! ### the call -/
section
variable {X : Cx} {pins : List (Addr × Obj)} {σ : L2.St} {H1 : Hp} {C fI : Addr} {k n : Nat} {fd : FuncData} {ps ks : List Str} {sp : Sp} {us ws : List Value} {vs zs : List V} {g : List Value → List Value → List Value} {gV : List V → List V → List V} {QV : VK} {Post : Value → Shared → Prop}
theorem x_run {hp : Heap} {gn : Array GenState} {dr : Drawn} {tk : Nat} {os : OsState} (T : G.OexG X.K C) (iC : PySem.W.findIn X.K (.ref C) "__init__" = some (some (.ref fI))) (tI : PySem.W.typeIn X.K (.ref fI) = some (.type "function"))
    (F1 : FnOk X.prog X.w X.K X.mg X.base (L2.CX X.prog X.w) k fI fd ps sp) (hr : Room (k + 1) X.A) (hb : KBn X.K fd ps (n + 1) ks g gV) (I1 : L2.Inv X pins σ H1 ⟨hp, gn, dr, tk, os⟩) (r1 : Vals vs us) (rz : Vals zs ws) (l1 : vs.length = n) (l2 : zs.length = ks.length) (hus : us.length ≤ sizeLine)
    (hq : sp (gV (.ref (hp.objs.size + 1) :: vs) zs) (upd H1 (hp.objs.size + 1) (exo (hp.objs.size + 1) C none)) QV (fun _ _ _ => False))
    (fin : ∀ v H2 rv s', Un (frs X.stack) [] (upd H1 (hp.objs.size + 1) (exo (hp.objs.size + 1) C none)) H2 ((hp.push (PySem.W.kdv_tup us)).push (GX.newX C hp.objs.size)) s'.heap → HOk X.prog X.w H2 s'.heap → s'.os = os → AllBare s'.gens → RelV v rv → QV v H2 → rv = .none ∧ Post (.ref (hp.objs.size + 1)) s') :
    wpAny (model X.prog X.w) X.A (call (.ref C) us (ks.zip ws)) Post X.xe ⟨hp, gn, dr, tk, os⟩ := by
  obtain ⟨B, nI, iI, bmB, BB, nm, q, N, bs, bm, sn, sub, ab, col, dd, k0, k1, k2, k3, k5, hC, hbm⟩ := T.cls
  have hsz : hp.objs.size ≤ hp.objs.size + 1 := Nat.le_succ _
  have kk : ∀ b o, hp.get? b = some o → ((hp.push (PySem.W.kdv_tup us)).push (GX.newX C hp.objs.size)).get? b = some o := fun b o e => Heap.get?_push_of_some _ (Heap.get?_push_of_some _ e)
  have hget : ((hp.push (PySem.W.kdv_tup us)).push (GX.newX C hp.objs.size)).get? (hp.objs.size + 1) = some (GX.newX C hp.objs.size) := by heap_get
  have I2 : L2.Inv X pins σ (upd H1 (hp.objs.size + 1) (exo (hp.objs.size + 1) C none)) ⟨(hp.push (PySem.W.kdv_tup us)).push (GX.newX C hp.objs.size), gn, dr, tk, os⟩ :=
    I1.laid (t' := tk) (a := hp.objs.size + 1) (o := exo (hp.objs.size + 1) C none) (h' := (hp.push (PySem.W.kdv_tup us)).push (GX.newX C hp.objs.size)) kk hsz (exo_ok hget)
  have r2 := hb.rel (show Vals (V.ref (hp.objs.size + 1) :: vs) (Value.ref (hp.objs.size + 1) :: us) from .cons rfl r1) rz
  have n1 : (Value.ref (hp.objs.size + 1) :: us).length = n + 1 := by rw [List.length_cons, ← r1.length, l1]
  refine wpAny_call (GX.callRun BB.F (fun Y => PySem.W.excTail_contains Y bm hbm) (I1.kIn _ _ hC) (PySem.W.looks_findIn I1.kIn iC) (fun self => PySem.W.bind_fn I1.kIn self tI) hus
    (codeAny_mono (F1.run _ X.stack _ _ ⟨Value.ref (hp.objs.size + 1) :: us, ks.zip ws⟩ (g (Value.ref (hp.objs.size + 1) :: us) ws) _ _ (fun _ _ _ => False) (hr.make C us (ks.zip ws)) (I2.env0.make C us (ks.zip ws)) (hb.to _ (Value.ref (hp.objs.size + 1) :: us) ws I2.kIn n1 (rz.length.symm.trans l2)) r2 hq) fun r s' hq' => ?_))
  cases r with
  | error er => exact (passL (X := X) pins σ _ _ er s' I2 hq' : X.xe er s')
  | ok fl =>
    cases fl with
    | ret u =>
      obtain ⟨v, H2, os2, bare2, un2, hok2, rv, q2⟩ := hq'
      exact fin v H2 u s' un2 hok2 os2 bare2 rv q2
    | next => exact False.elim hq'
    | brk => exact False.elim hq'
    | cont => exact False.elim hq'
end
section
variable {X : Cx} {pins : List (Addr × Obj)} {σ : L2.St} {H1 H2 : Hp} {hp hp2 h2 : Heap} {g1 g2 : Array GenState} {d1 d2 : Drawn} {t1 t2 : Nat} {os1 os2 : OsState} {a C d : Addr} {fs : List (Str × V)}
/-- behind __init__: the exception stays tracked -/
theorem x_end (I1 : L2.Inv X pins σ H1 ⟨hp, g1, d1, t1, os1⟩) (ha : hp.objs.size ≤ a) (k : ∀ b o, hp.get? b = some o → hp2.get? b = some o) (un : Un (frs X.stack) [] (upd H1 a (exo a C none)) H2 hp2 h2) (hok : HOk X.prog X.w H2 h2) (ho : os2 = os1) (hb : AllBare g2)
    (ea : H2 a = some (exo a C (some d))) (ed : H2 d = some (exd d fs)) (hd1 : H1 d = none) :
    ∃ (oe : Obj) (vs : Array Value), oe.cls = .ref C ∧ oe.dict = some d ∧ oe.data = .fields vs ∧ L2.Inv X pins σ (upd (upd H2 d (.xd fs)) a (exv a oe)) ⟨h2, g2, d2, t2, os2⟩ := by
  obtain ⟨t0, hoe⟩ := exo_at hok ea
  obtain ⟨mA, hns, rel⟩ := exd_at hok ed
  have hn : H1 a = none := I1.hok.fresh ha
  have hda : d ≠ a := fun z => by
    obtain ⟨o, es, ep, e1, e2, _⟩ := hns
    rw [z, hoe] at e1
    have z2 := Option.some.inj e1
    subst z2
    cases e2
  have nha : ∀ {b : Addr} {o : Obj}, hp.get? b = some o → b ≠ a := fun {b o} z => Nat.ne_of_lt (Nat.lt_of_lt_of_le (Heap.lt_size z) ha)
  have up : ∀ {b : Addr}, b ≠ a → H1 b = none → upd H1 a (exo a C none) b = none := fun {b} hb n => by rw [upd_ne hb]; exact n
  have nd : ∀ {b : Addr} {o : Obj}, hp.get? b = some o → H1 b = none → b ≠ d := fun {b o} z n e => by
    have y := un.free b o (k b o z) (up (nha z) n) (by simp)
    rw [e, ed] at y
    cases y
  have U : Un (frs X.stack) [] H1 (upd (upd H2 d (.xd fs)) a (exv a { cls := .ref C, dict := some d, data := .fields #[.ref t0, .none, .none, .none, .bool false, .none] })) hp h2 := {
    keep := fun b o z n hf hx => un.keep b o (k b o z) (up (nha z) n) hf hx
    slot := fun b o z n hf hx => un.slot b o (k b o z) (up (nha z) n) hf hx
    free := fun b o z n hx => by
      rw [upd_ne (nha z), upd_ne (nd z n)]
      exact un.free b o (k b o z) (up (nha z) n) hx
    there := fun b o z hx => un.there b o (k b o z) hx
    tups := fun b xs z => by
      rw [upd_ne (ne_of_none z hn), upd_ne (ne_of_none z hd1)]
      exact un.tups b xs (by rw [upd_ne (ne_of_none z hn)]; exact z)
    frzs := fun b o v z => by
      rw [upd_ne (ne_of_none z hn), upd_ne (ne_of_none z hd1)]
      exact un.frzs b o v (by rw [upd_ne (ne_of_none z hn)]; exact z)
    tbls := fun b ps z => by
      rw [upd_ne (ne_of_none z hn), upd_ne (ne_of_none z hd1)]
      exact un.tbls b ps (by rw [upd_ne (ne_of_none z hn)]; exact z) }
  refine ⟨_, _, rfl, rfl, rfl, I1.call' (ch := []) ho U (fun b o z => ?_) hb (fun b z => absurd z (by simp))⟩
  by_cases hba : b = a
  · subst hba
    rw [upd_same] at z
    cases z
    exact exv_ok hoe
  · rw [upd_ne hba] at z
    by_cases hbd : b = d
    · subst hbd
      rw [upd_same] at z
      cases z
      exact ⟨mA, hns.at fun o y => y, rel⟩
    · rw [upd_ne hbd] at z
      exact (hok b o z).stay (fun c v hc y => y) (fun c hc => by rw [upd_ne (at_ne ea hc exo_own), upd_ne (at_ne ed hc exd_own)]; exact hc) (fun c xs hc => by rw [upd_ne (at_ne ea hc exo_tup), upd_ne (at_ne ed hc exd_tup)]; exact hc)
end
end G

/-! the facts of exception classes, as they are printed -/
namespace G
open PySem PySem.Spec PyProof.Rows L2 He
def oexB (K : PySem.W.Frag) (C : Addr) : Bool := match K.lookup C with
  | some ⟨.type "type", _, .cls cd, sl⟩ => (match cd.mro, sl.toList with
    | .ref C' :: bm, [_, _, _, _, some (.builtin n), _] => C' == C && (n == "ValueError.__new__" && (!cd.hasDel && (cd.hasDict && HandSPX.refsVE bm)))
    | _, _ => false)
  | _ => false
def fExn (x : Str) : Fc := fun K => oexB K (ga K x) && (eqO (PySem.W.findIn K (.ref (ga K x)) "__setattr__") (some (some (.builtin "object.__setattr__"))) && (decide (PySem.W.typeIn K (.ref (ga K x)) = some (.type "type")) && (PySem.W.keepIn K (.ref (ga K x)) &&
  (xfB K (ga K x) && fOwn x K))))
theorem oexB_ok {K : PySem.W.Frag} {C : Addr} (h : oexB K C = true) : ∃ nm q N bs bm sn sub ab col dd k0 k1 k2 k3 k5, K.lookup C = some (excClassObj nm q C N bs bm true sn sub ab col dd k0 k1 k2 k3 k5 "ValueError.__new__") ∧ PySem.HandSPX.refsVE bm = true := by
  unfold oexB at h
  split at h
  · rename_i dd cd sl ho
    split at h
    · rename_i C' bm k0 k1 k2 k3 n k5 hm hs
      simp only [Bool.and_eq_true, beq_iff_eq, Bool.not_eq_true'] at h
      obtain ⟨rfl, rfl, hdel, hdct, hr⟩ := h
      obtain ⟨nm, bs, mro, ns, qn, hd, sn, sub, ab, col, del⟩ := cd
      dsimp only at hm hdel hdct
      subst hm hdel hdct
      have hsl : sl = #[k0, k1, k2, k3, some (.builtin "ValueError.__new__"), k5] := by
        obtain ⟨l⟩ := sl
        simp only at hs
        rw [hs]
      subst hsl
      exact ⟨nm, qn, ns, bs, bm, sn, sub, ab, col, dd, k0, k1, k2, k3, k5, ho, hr⟩
    · cases h
  · cases h
structure ExnOk (K : PySem.W.Frag) (C : Addr) : Prop where
  o : OexC K C
  x : XfC K C
  c : ExcC K C
theorem fExn_ok {K : PySem.W.Frag} {x : Str} (h : fExn x K = true) : ExnOk K (ga K x) := by
  obtain ⟨h1, h⟩ := ba h
  obtain ⟨h2, h⟩ := ba h
  obtain ⟨h3, h⟩ := ba h
  obtain ⟨h4, h⟩ := ba h
  obtain ⟨h5, h6⟩ := ba h
  obtain ⟨h7, h⟩ := ba h6
  obtain ⟨h8, h⟩ := ba h
  obtain ⟨h9, h10⟩ := ba h
  have X := xfB_ok h5
  exact ⟨⟨oexB_ok h1, eqO_ok h2, X.exC, of_decide_eq_true h3, h4⟩, X, ⟨X.ga, X.gg, X.exC, X.hdC, eqO_ok h7, of_decide_eq_true h8, of_decide_eq_true h9, of_decide_eq_true h10⟩⟩
/-- its __init__ -/
def fEin (x : Str) : Fc := fun K => eqO (PySem.W.findIn K (.ref (ga K x)) "__init__") (some (some (.ref (atM x "__init__" K)))) && decide (PySem.W.typeIn K (.ref (atM x "__init__" K)) = some (.type "function"))
structure OkE (P : Program) (w : World) (K : PySem.W.Frag) (mg : Str → Option Value) (base : Heap) (k : Nat) (d : DefG) (ps : List Str) (C : String) (fl : List String) : Prop where
  ex : ∃ fd, FunG K [] d.name d.qual d.params d.body d.scope d.dfl d.kwd (d.at_ K) fd ∧ FnOk P w K mg base (L2.CX P w) k (d.at_ K) fd ps (spI K (ga K (Str.ofString C)) (fl.map Str.ofString))
section
variable {fa : List Fc} {fn : List DefG} {file : Str} {P : Program} {w : World} {K : PySem.W.Frag} {mg : Str → Option Value} {base : Heap} {k : Nat} {d : DefG} {N ps : List Str} {C : String} {g : String} {fl : List String}
theorem oke_of (F : FctOf fa fn file P K mg) (i : Nat) (hi : fn[i]? = some d) (hs : d.sup = none) (S : FnScope N ps d.scope) (hl : ps.length = (g :: fl).length + 1) (hz : (g :: fl).length ≤ 900)
    (hb : ∀ (cdv : Value) (A : Around) (outer : List Env) (s : Shared) (H : Hp) (E : XK), PSs (bodyX P w K mg base N d.qual d.scope (d.at_ K) cdv A outer s H E) d.body (tFl K 1 ((g :: fl).map Str.ofString))) : OkE P w K mg base (k + 1) d ps C (g :: fl) := by
  obtain ⟨fd, cl, G, h1, _⟩ := F.c.def_ i hi
  obtain rfl := h1 hs
  obtain ⟨dvs, kws, FD⟩ := G.funD
  exact ⟨fd, G, fn_exi FD S (by simpa using hl) (by simpa using hz) hb⟩
end
theorem nos_nil {K : PySem.W.Frag} {x : Str} : ∀ f ∈ ([] : List String).map Str.ofString, PySem.W.findIn K (.ref (ga K x)) f = some none := fun f h => absurd h (by simp)
theorem nos_cons {K : PySem.W.Frag} {x : Str} {g : String} {fl : List String} (h : (Fa.noat x (Str.ofString g)).ok K = true) (r : ∀ f ∈ fl.map Str.ofString, PySem.W.findIn K (.ref (ga K x)) f = some none) : ∀ f ∈ (g :: fl).map Str.ofString, PySem.W.findIn K (.ref (ga K x)) f = some none := fun f hf => by
  rcases List.mem_cons.mp (show f ∈ Str.ofString g :: fl.map Str.ofString from hf) with e | hf
  · subst e; exact eqO_ok h
  · exact r f hf
theorem oex_of {X : Cx} {k : Nat} {d : DefG} {ps : List Str} {C : String} {fl : List String} (O : OkE X.prog X.w X.K X.mg X.base k d ps C fl) (hr : Room (k + 1) X.A) (hg : Gl X (Str.ofString C)) (hm : X.mg (Str.ofString C) = some (.ref (ga X.K (Str.ofString C)))) (E : ExnOk X.K (ga X.K (Str.ofString C)))
    (hn : ∀ f ∈ fl.map Str.ofString, PySem.W.findIn X.K (.ref (ga X.K (Str.ofString C))) f = some none) (hi : fEin (Str.ofString C) X.K = true) (hd : d.at_ = atM (Str.ofString C) "__init__") (h0 : d.dfl = [])
    (h : ∀ (kV doc pm : Value) (an : Option Addr) (cdv ct : Value) (us : List Value), us.length = ps.length → bindArgs (PySem.W.fnX d.name d.qual d.params d.body d.scope [] .none kV doc pm an cdv ct) ⟨us, []⟩ = pure (ps.zip us)) : Oex X (Str.ofString C) C fl := by
  obtain ⟨fd, G, F⟩ := O.ex
  obtain ⟨h1, h2⟩ := ba hi
  rw [h0] at G
  rw [hd] at F
  exact ⟨hg, hm, E.o, hn, k, _, fd, ps, eqO_ok h1, of_decide_eq_true h2, F, hr, get_ok G h⟩
/-! ### clauses, tables -/
theorem hit_nil {K : PySem.W.Frag} {v : Value} : ∀ p ∈ ([] : List (String × Bool)), PySem.W.exmOne K (.ref (ga K (Str.ofString p.1))) v = some p.2 := fun p h => absurd h (by simp)
theorem hit_cons {K : PySem.W.Frag} {y : Str} {C : String} {b : Bool} {l : List (String × Bool)} (h : (Fa.exm (Str.ofString C) y b).ok K = true) (r : ∀ p ∈ l, PySem.W.exmOne K (.ref (ga K (Str.ofString p.1))) (.ref (ga K y)) = some p.2) :
    ∀ p ∈ (C, b) :: l, PySem.W.exmOne K (.ref (ga K (Str.ofString p.1))) (.ref (ga K y)) = some p.2 := fun p hp => by
  rcases List.mem_cons.mp hp with e | hp
  · subst e; exact of_decide_eq_true h
  · exact r p hp
theorem nm_own {X : Cx} {x : Str} {v : Value} (hg : Gl X x) (hm : X.mg x = some v) (hd : (x == ("__debug__" : Str)) = false := by decide) : Names X x v := ⟨hg, hd, .inl hm⟩
theorem xfs_nil {K : PySem.W.Frag} {f : String} : ∀ C ∈ ([] : List String), XfOk K f C := fun p h => absurd h (by simp)
theorem xfs_cons {K : PySem.W.Frag} {f C : String} {l : List String} (h : fExn (Str.ofString C) K = true) (hn : (Fa.noat (Str.ofString C) (Str.ofString f)).ok K = true) (r : ∀ C ∈ l, XfOk K f C) : ∀ C' ∈ C :: l, XfOk K f C' := fun p hp => by
  rcases List.mem_cons.mp hp with e | hp
  · subst e; exact ⟨(fExn_ok h).x, eqO_ok hn⟩
  · exact r p hp
theorem isE_nil {K : PySem.W.Frag} : IsOkE K [] := fun p h => absurd h (by simp)
theorem isE_cons {K : PySem.W.Frag} {C : String} {t : TyK} {b : Bool} {te : IsTb} (h : fIs (((true, C), t), b) K = true) (hx : fExn (Str.ofString C) K = true) (r : IsOkE K te) : IsOkE K ((((true, C), t), b) :: te) := fun q hq => by
  rcases List.mem_cons.mp hq with e | e
  · subst e; exact ⟨of_decide_eq_true h, (fExn_ok hx).c⟩
  · exact r q e
/-- a clause's try, in a def's body -/
theorem takesN {X : Cx} : Takes X WNo := L2.takes_none5
end G

/-! C(e, .., k = v, ..), an exception made as a value -/
namespace G
open PySem PySem.Spec PyProof.Rows L2 He
structure Oxk (X : Cx) (x : Str) (C : String) (fl : List String) (np : Nat) (ks : List Str) (gD : List D → List D → List D) : Prop where
  gl : Gl X x
  mg : X.mg x = some (.ref (He.ga X.K (Str.ofString C)))
  T : G.OexG X.K (He.ga X.K (Str.ofString C))
  n : ∀ f ∈ fl.map Str.ofString, PySem.W.findIn X.K (.ref (He.ga X.K (Str.ofString C))) f = some none
  fn : ∃ k fI fd ps, PySem.W.findIn X.K (.ref (He.ga X.K (Str.ofString C))) "__init__" = some (some (.ref fI)) ∧ PySem.W.typeIn X.K (.ref fI) = some (.type "function") ∧
    FnOk X.prog X.w X.K X.mg X.base (L2.CX X.prog X.w) k fI fd ps (spX X.K (He.ga X.K (Str.ofString C)) (fl.map Str.ofString)) ∧ Room (k + 1) X.A ∧ KwMk X.K fd ps np ks gD
def dMkX (C : String) (fl : List String) (np nk : Nat) (gD : List D → List D → List D) (da dk : DA) : DE := fun n δ S => (da n δ S).bind fun ds S1 => (dk n δ S1).bind fun es S2 => if (ds.length = np ∧ es.length = nk) ∧ (gD ds es).length = fl.length ∧ np ≤ 1000 then .ok (.exn C (goD fl (gD ds es) [])) S2 else .bad
theorem hpX_val {H : Hp} {a C dx : Addr} {fs : List (Str × V)} {o : HO} (ne : dx ≠ a) : upd (upd (hpX (upd H a (exo a C none)) a C dx fs) dx (.xd fs)) a o = upd (upd H dx (.xd fs)) a o := by
  funext b
  by_cases h2 : b = a
  · subst h2; rw [upd_same, upd_same]
  · rw [upd_ne h2, upd_ne h2]
    by_cases h1 : b = dx
    · subst h1; rw [upd_same, upd_same]
    · rw [upd_ne h1, upd_ne h1, hpX_ne h1 h2, upd_ne h2]
section
variable {X : Cx} {W : WX} {x : Str} {C : String} {fl : List String} {np : Nat} {ks : List Str} {gD : List D → List D → List D} {e : Expr} {es : List Expr} {kws : List Keyword} {da dk : DA} {p pos pos' : Pos}
theorem Oxk.run (O : Oxk X x C fl np ks gD) {pins : List (Addr × Obj)} {σ : L2.St} {H : Hp} {s : Shared} {Q : VK} (I : L2.Inv X pins σ H s) {vs zs : List V} {us ws : List Value} (rv : Vals vs us) (rz : Vals zs ws) {n : Nat} {ρ : Ad} {S : Store} {ds ys : List D} (g : Good X.K ρ S H) (rd : RpL X.K ρ H ds vs) (re : RpL X.K ρ H ys zs)
    (hl : ds.length = np ∧ ys.length = ks.length) (hf : (gD ds ys).length = fl.length ∧ np ≤ 1000) (h : Rest (Rp X.K) X.K n ρ S H σ Q W (.ok (.exn C (goD fl (gD ds ys) [])) S)) : wpAny (model X.prog X.w) X.A (call (.ref (He.ga X.K (Str.ofString C))) us (ks.zip ws)) (EP X pins σ Q) X.xe s := by
  obtain ⟨k, fI, fd, ps, h1, h2, F, hr, hb⟩ := O.fn
  obtain ⟨gv, gV, hb, hh, hrel⟩ := hb.ex
  have n1 : vs.length = np := rd.length.trans hl.1
  have n2 : zs.length = ks.length := re.length.trans hl.2
  have hus : us.length ≤ sizeLine := by
    rw [← Paired.length rv, sizeLine_eq]
    omega
  obtain ⟨hp, gn, dr, tk, os⟩ := s
  have na : H (hp.objs.size + 1) = none := I.hok.fresh (Nat.le_succ _)
  have rr := hrel ρ H (.ref (hp.objs.size + 1)) ds ys vs zs hl.1 hl.2 rd re
  refine x_run (QV := fun v H3 => v = .non ∧ ∃ d fs, H3 (hp.objs.size + 1) = some (exo (hp.objs.size + 1) (He.ga X.K (Str.ofString C)) (some d)) ∧ H3 d = some (exd d fs) ∧ H d = none ∧
    ∀ (oe : Obj) (as : Array Value), oe.cls = .ref (He.ga X.K (Str.ofString C)) → oe.dict = some d → oe.data = .fields as → Q (.ref (hp.objs.size + 1)) (upd (upd H3 d (.xd fs)) (hp.objs.size + 1) (exv (hp.objs.size + 1) oe))) O.T h1 h2 F hr hb I rv rz n1 n2 hus ?_ ?_
  · rw [hh _ vs zs n1 n2]
    refine ⟨by rw [List.length_cons, rr.length, hf.1, List.length_map], O.T, O.n, _, _, rfl, upd_same, fun dx hd ne => ⟨rfl, dx, _, hpX_a, hpX_dx ne, ?_, fun oe as q1 q2 q3 => ?_⟩⟩
    · rw [upd_ne ne] at hd; exact hd
    · rw [upd_ne ne] at hd
      rw [hpX_val ne]
      have hd' : upd H dx (.xd (goV (fl.map Str.ofString) (gV (.ref (hp.objs.size + 1) :: vs) zs).tail [])) (hp.objs.size + 1) = none := by rw [upd_ne (Ne.symm ne)]; exact na
      have k1 : Kp ρ H ρ (upd H dx (.xd (goV (fl.map Str.ofString) (gV (.ref (hp.objs.size + 1) :: vs) zs).tail []))) := Kp.fresh hd
      have k2 := Kp.fresh (ρ := ρ) (o := exv (hp.objs.size + 1) oe) hd'
      have g2 := (g.fresh (o := .xd (goV (fl.map Str.ofString) (gV (.ref (hp.objs.size + 1) :: vs) zs).tail [])) hd).fresh (o := exv (hp.objs.size + 1) oe) hd'
      refine h _ ρ _ g2 ⟨_, some dx, _, rfl, ⟨⟨oe, as, upd_same, q1, q2, q3⟩, g.notin na⟩, .inr ⟨dx, rfl, by rw [upd_ne ne]; exact upd_same, g.notin hd⟩, go_rp fl (gD ds ys) _ [] [] (RpL.kp (k1.trans k2) _ _ rr) rfl⟩ ⟨k1.trans k2, Shr.refl⟩
  · intro v H3 rv' s' un hok ho hbare r' ⟨ev, d, fs, ea, ed, hd1, q⟩
    subst ev
    obtain ⟨h2', g2', d2', t2', os2'⟩ := s'
    have kk : ∀ b o, hp.get? b = some o → ((hp.push (PySem.W.kdv_tup us)).push (GX.newX (He.ga X.K (Str.ofString C)) hp.objs.size)).get? b = some o := fun b o e => Heap.get?_push_of_some _ (Heap.get?_push_of_some _ e)
    obtain ⟨oe, as, q1, q2, q3, J⟩ := x_end (d2 := d2') (t2 := t2') I (Nat.le_succ _) kk un hok ho hbare ea ed hd1
    exact ⟨r', .ref (hp.objs.size + 1), _, J, rfl, q oe as q1 q2 q3⟩
theorem se_mkx (O : Oxk X x C fl np ks gD) (ha : SA X W (e :: es) da) (hkw : SK X W kws dk)
    (hall : (backToKw pos (keywordEach kws X.env)).all (·.1.isSome) = true := by rfl) (hks : (backToKw pos (keywordEach kws X.env)).filterMap (·.1) = ks := by rfl)
    (hdb : (x == ("__debug__" : Str)) = false := by decide) (he : starEach (e :: es) X.env = (false, eval e X.env) :: starEach es X.env := by rfl)
    (hpl : ((backTo pos (starEach (e :: es) X.env)).any (·.1) || (backToKw pos (keywordEach kws X.env)).any (·.1.isNone)) = false := by rfl) :
    SE X W (.Call (.Name x p) (e :: es) kws pos) (dMkX C fl np ks.length gD da dk) := by
  refine ⟨fun pins s σ H Q I ⟨n, ρ, S, δ, g, en, r⟩ => ?_⟩
  refine wpAny_Call_Name_kw (ld_glob I O.gl O.mg ?_ hdb)
  refine PySem.W.callWith_KW (h₀ := X.base) I.ok.mod.kin O.T.kC hall (thn (ha.run pos pins s σ H _ I ⟨n, ρ, S, δ, g, en, Rest.bind (rel' := RpL X.K) en r⟩) fun us s1 ⟨vs, H1, I1, rv, ρ1, S1, d1, g1, e1, r1, f1, q⟩ => ?_) hpl he
  refine thn (hkw.run pos pins s1 σ H1 _ I1 ⟨n, ρ1, S1, δ, g1, e1, Rest.bind (rel' := RpL X.K) e1 q⟩) fun ws s2 ⟨zs, H2, I2, rz, ρ2, S2, d2, g2, e2, r2, f2, q2⟩ => ⟨I2.kIn, ?_⟩
  rw [hks]
  split at q2
  · rename_i hl
    exact O.run I2 rv rz g2 (r1.kp f2.kp) r2 hl.1 hl.2 q2
  · exact False.elim q2
theorem se_mkx0 (O : Oxk X x C fl np ks gD) (hkw : SK X W kws dk)
    (hall : (backToKw pos (keywordEach kws X.env)).all (·.1.isSome) = true := by rfl) (hks : (backToKw pos (keywordEach kws X.env)).filterMap (·.1) = ks := by rfl)
    (hdb : (x == ("__debug__" : Str)) = false := by decide)
    (hpl : ((backTo pos (starEach [] X.env)).any (·.1) || (backToKw pos (keywordEach kws X.env)).any (·.1.isNone)) = false := by rfl) :
    SE X W (.Call (.Name x p) [] kws pos) (dMkX C fl np ks.length gD aNil dk) := by
  refine ⟨fun pins s σ H Q I ⟨n, ρ, S, δ, g, en, r⟩ => ?_⟩
  refine wpAny_Call_Name_kw (ld_glob I O.gl O.mg ?_ hdb)
  refine PySem.W.callWith_KW0 (h₀ := X.base) I.ok.mod.kin O.T.kC hall ?_ hpl
  refine thn (hkw.run pos pins s σ H _ I ⟨n, ρ, S, δ, g, en, Rest.bind (rel' := RpL X.K) en r⟩) fun ws s2 ⟨zs, H2, I2, rz, ρ2, S2, d2, g2, e2, r2, f2, q2⟩ => ⟨I2.kIn, ?_⟩
  rw [hks]
  split at q2
  · rename_i hl
    exact O.run (ds := []) (vs := []) (us := []) I2 .nil rz g2 rfl r2 hl.1 hl.2 q2
  · exact False.elim q2
end
end G

/-! the facts of exception classes of any base; C() without an __init__ -/
namespace G
open PySem PySem.Spec PyProof.Rows L2 He
abbrev bmV : List Value := [.type "ValueError", .type "Exception", .type "BaseException", .type "object"]
abbrev bmL : List Value := [.type "LookupError", .type "Exception", .type "BaseException", .type "object"]
abbrev bmR : List Value := [.type "RuntimeError", .type "Exception", .type "BaseException", .type "object"]
def oexB2 (K : PySem.W.Frag) (C : Addr) : Bool := match K.lookup C with
  | some ⟨.type "type", _, .cls cd, sl⟩ => (match cd.mro, sl.toList with
    | .ref C' :: bm, [_, _, _, _, some (.builtin n), _] => C' == C && (!cd.hasDel && (cd.hasDict && ((n == "ValueError.__new__" && PySem.W.excTail bmV bm) || ((n == "LookupError.__new__" && PySem.W.excTail bmL bm) || (n == "RuntimeError.__new__" && PySem.W.excTail bmR bm)))))
    | _, _ => false)
  | _ => false
theorem oexB2_ok {K : PySem.W.Frag} {C : Addr} (h : oexB2 K C = true) : ∃ B newId initId bmB, GX.Base B newId initId bmB ∧ ∃ nm q N bs bm sn sub ab col dd k0 k1 k2 k3 k5, K.lookup C = some (excClassObj nm q C N bs bm true sn sub ab col dd k0 k1 k2 k3 k5 newId) ∧ PySem.W.excTail bmB bm = true := by
  unfold oexB2 at h
  split at h
  · rename_i dd cd sl ho
    split at h
    · rename_i C' bm k0 k1 k2 k3 n k5 hm hs
      simp only [Bool.and_eq_true, Bool.or_eq_true, beq_iff_eq, Bool.not_eq_true'] at h
      obtain ⟨rfl, hdel, hdct, hr⟩ := h
      obtain ⟨nm, bs, mro, ns, qn, hd, sn, sub, ab, col, del⟩ := cd
      dsimp only at hm hdel hdct
      subst hm hdel hdct
      have hsl : sl = #[k0, k1, k2, k3, some (.builtin n), k5] := by
        obtain ⟨l⟩ := sl
        simp only at hs
        rw [hs]
      subst hsl
      rcases hr with ⟨rfl, hr⟩ | ⟨rfl, hr⟩ | ⟨rfl, hr⟩
      · exact ⟨_, _, _, _, GX.base_VE, nm, qn, ns, bs, bm, sn, sub, ab, col, dd, k0, k1, k2, k3, k5, ho, hr⟩
      · exact ⟨_, _, _, _, GX.base_LE, nm, qn, ns, bs, bm, sn, sub, ab, col, dd, k0, k1, k2, k3, k5, ho, hr⟩
      · exact ⟨_, _, _, _, GX.base_RE, nm, qn, ns, bs, bm, sn, sub, ab, col, dd, k0, k1, k2, k3, k5, ho, hr⟩
    · cases h
  · cases h
def fExnX (x : Str) : Fc := fun K => oexB2 K (ga K x) && (eqO (PySem.W.findIn K (.ref (ga K x)) "__setattr__") (some (some (.builtin "object.__setattr__"))) && (decide (PySem.W.typeIn K (.ref (ga K x)) = some (.type "type")) && (PySem.W.keepIn K (.ref (ga K x)) &&
  (xfB K (ga K x) && fOwn x K))))
structure ExnX (K : PySem.W.Frag) (C : Addr) : Prop where
  o : G.OexG K C
  x : XfC K C
  c : ExcC K C
theorem fExnX_ok {K : PySem.W.Frag} {x : Str} (h : fExnX x K = true) : ExnX K (ga K x) := by
  obtain ⟨h1, h⟩ := ba h
  obtain ⟨h2, h⟩ := ba h
  obtain ⟨h3, h⟩ := ba h
  obtain ⟨h4, h⟩ := ba h
  obtain ⟨h5, h6⟩ := ba h
  obtain ⟨h7, h⟩ := ba h6
  obtain ⟨h8, h⟩ := ba h
  obtain ⟨h9, h10⟩ := ba h
  have X := xfB_ok h5
  exact ⟨⟨oexB2_ok h1, eqO_ok h2, X.exC, of_decide_eq_true h3, h4⟩, X, ⟨X.ga, X.gg, X.exC, X.hdC, eqO_ok h7, of_decide_eq_true h8, of_decide_eq_true h9, of_decide_eq_true h10⟩⟩
structure OkX (P : Program) (w : World) (K : PySem.W.Frag) (mg : Str → Option Value) (base : Heap) (k : Nat) (d : DefG) (ps : List Str) (C : String) (fl : List String) : Prop where
  ex : ∃ fd, FunG K [] d.name d.qual d.params d.body d.scope d.dfl d.kwd (d.at_ K) fd ∧ FnOk P w K mg base (L2.CX P w) k (d.at_ K) fd ps (spX K (ga K (Str.ofString C)) (fl.map Str.ofString))
section
variable {fa : List Fc} {fn : List DefG} {file : Str} {P : Program} {w : World} {K : PySem.W.Frag} {mg : Str → Option Value} {base : Heap} {k : Nat} {d : DefG} {N ps : List Str} {C : String} {g : String} {fl : List String}
theorem okx_of (F : FctOf fa fn file P K mg) (i : Nat) (hi : fn[i]? = some d) (hs : d.sup = none) (S : FnScope N ps d.scope) (hl : ps.length = (g :: fl).length + 1) (hz : (g :: fl).length ≤ 900)
    (hb : ∀ (cdv : Value) (A : Around) (outer : List Env) (s : Shared) (H : Hp) (E : XK), PSs (bodyX P w K mg base N d.qual d.scope (d.at_ K) cdv A outer s H E) d.body (tFx K 1 ((g :: fl).map Str.ofString))) : OkX P w K mg base (k + 1) d ps C (g :: fl) := by
  obtain ⟨fd, cl, G, h1, _⟩ := F.c.def_ i hi
  obtain rfl := h1 hs
  obtain ⟨dvs, kws, FD⟩ := G.funD
  exact ⟨fd, G, fn_exx FD S (by simpa using hl) (by simpa using hz) hb⟩
end
/-- C's __init__ is D's -/
def fEinX (x y : Str) : Fc := fun K => eqO (PySem.W.findIn K (.ref (ga K x)) "__init__") (some (some (.ref (atM y "__init__" K)))) && decide (PySem.W.typeIn K (.ref (atM y "__init__" K)) = some (.type "function"))
theorem oxk_of {X : Cx} {k : Nat} {d : DefG} {ps : List Str} {C : String} {fl : List String} {y : Str} {np : Nat} {ks : List Str} {gD : List D → List D → List D} (O : OkX X.prog X.w X.K X.mg X.base k d ps C fl) (hr : Room (k + 1) X.A) (hg : Gl X (Str.ofString C)) (hm : X.mg (Str.ofString C) = some (.ref (ga X.K (Str.ofString C)))) (E : ExnX X.K (ga X.K (Str.ofString C)))
    (hn : ∀ f ∈ fl.map Str.ofString, PySem.W.findIn X.K (.ref (ga X.K (Str.ofString C))) f = some none) (hi : fEinX (Str.ofString C) y X.K = true) (hd : d.at_ = atM y "__init__")
    (h : ∀ fd, FunG X.K [] d.name d.qual d.params d.body d.scope d.dfl d.kwd (d.at_ X.K) fd → KwMk X.K fd ps np ks gD) : Oxk X (Str.ofString C) C fl np ks gD := by
  obtain ⟨fd, G, F⟩ := O.ex
  obtain ⟨h1, h2⟩ := ba hi
  have hk := h fd G
  rw [hd] at F
  exact ⟨hg, hm, E.o, hn, k, _, fd, ps, eqO_ok h1, of_decide_eq_true h2, F, hr, hk⟩
theorem xfx_nil {K : PySem.W.Frag} {f : String} : ∀ C ∈ ([] : List String), XfOk K f C := fun p h => absurd h (by simp)
theorem xfx_cons {K : PySem.W.Frag} {f C : String} {l : List String} (h : fExnX (Str.ofString C) K = true) (hn : (Fa.noat (Str.ofString C) (Str.ofString f)).ok K = true) (r : ∀ C ∈ l, XfOk K f C) : ∀ C' ∈ C :: l, XfOk K f C' := fun p hp => by
  rcases List.mem_cons.mp hp with e | hp
  · subst e; exact ⟨(fExnX_ok h).x, eqO_ok hn⟩
  · exact r p hp
theorem isX_nil {K : PySem.W.Frag} : IsOkE K [] := fun p h => absurd h (by simp)
theorem isX_cons {K : PySem.W.Frag} {p : (TyK × TyK) × Bool} {l : IsTb} (h : fIs p K = true) (he : fExnX (Str.ofString p.1.1.2) K = true) (r : IsOkE K l) : IsOkE K (p :: l) := fun q hq => by
  rcases List.mem_cons.mp hq with e | hq
  · subst e; exact ⟨of_decide_eq_true h, (fExnX_ok he).c⟩
  · exact r q hq
/-! ### C(), no __init__ -/
def fMk0 (x : Str) : Fc := fun K => PySem.W.keepIn K (.ref (ga K x)) && (PySem.W.excIn K (ga K x) bmV "ValueError.__new__" || (PySem.W.excIn K (ga K x) bmL "LookupError.__new__" || PySem.W.excIn K (ga K x) bmR "RuntimeError.__new__"))
def dMk0 (C : String) : DE := fun _ _ S => .ok (.exn C []) S
section
variable {X : Cx} {W : WX} {C : String} {p pos : Pos}
theorem mk0_base {K : PySem.W.Frag} {x : Str} (h : fMk0 x K = true) : PySem.W.keepIn K (.ref (ga K x)) = true ∧ ∃ B newId initId bmB, ExcBaseFacts B newId initId bmB ∧ PySem.W.excIn K (ga K x) bmB newId = true := by
  obtain ⟨h1, h⟩ := ba h
  refine ⟨h1, ?_⟩
  rcases (Bool.or_eq_true _ _).mp h with h | h
  · exact ⟨_, _, _, _, GX.base_VE.F, h⟩
  · rcases (Bool.or_eq_true _ _).mp h with h | h
    · exact ⟨_, _, _, _, GX.base_LE.F, h⟩
    · exact ⟨_, _, _, _, GX.base_RE.F, h⟩
theorem se_mk0 (hg : Gl X (Str.ofString C)) (hm : X.mg (Str.ofString C) = some (.ref (ga X.K (Str.ofString C)))) (h : fMk0 (Str.ofString C) X.K = true) (hdb : (Str.ofString C == ("__debug__" : Str)) = false := by decide) : SE X W (.Call (.Name (Str.ofString C) p) [] [] pos) (dMk0 C) := by
  refine ⟨fun pins s σ H Q I ⟨n, ρ, S, δ, g, en, r⟩ => ?_⟩
  obtain ⟨hk, B, nI, iI, bmB, F, q⟩ := mk0_base h
  refine wpAny_Call_Name_kw (ld_glob I hg hm ?_ hdb)
  refine PySem.W.callWith_K0 I.kIn hk ?_
  obtain ⟨bm, N, nm, qn, bs, hdct, sn, sub, ab, col, dd, k0, k1, k2, k3, k5, mN, hC, hN, hni, T⟩ := exc_obj I.kIn q
  obtain ⟨hp, gn, dr, tk, os⟩ := s
  refine wpAny_call_exc_subT F T hC hN hni (fun h' e hx => ?_) (by show 0 ≤ sizeLine; exact Nat.zero_le _)
  obtain ⟨t, he, _, _⟩ := hx.there
  have na : H e = none := I.hok.gone hx.new
  have ne : ∀ {b : Addr} {o : Obj}, hp.get? b = some o → b ≠ e := fun {b o} z y => by
    have w := hx.new
    rw [← y] at w
    exact nomatch z.symm.trans w
  have Un1 : Un X.fs [] H (upd H e (exv e { cls := .ref (ga X.K (Str.ofString C)), data := .fields #[.ref t, .none, .none, .none, .bool false, .none] })) hp h' := {
    keep := fun b o q _ _ _ => hx.keeps b o q
    slot := fun b o q _ _ _ => ⟨o.slots, hx.keeps b o q⟩
    free := fun b o q z _ => by rw [upd_ne (ne q)]; exact z
    there := fun b o q _ => ⟨o, hx.keeps b o q⟩
    tups := fun b xs z => by rw [upd_ne (ne_of_none z na)]; exact z
    frzs := fun b o v z => by rw [upd_ne (ne_of_none z na)]; exact z
    tbls := fun b ps z => ⟨#[], by rw [upd_ne (ne_of_none z na), z]; simp⟩ }
  have J := I.un (t' := tk) Un1 fun b o z => by
    by_cases hb : b = e
    · subst hb
      rw [upd_same] at z
      cases z
      exact exv_ok he
    · rw [upd_ne hb] at z
      exact (I.hok b o z).stay (fun c v hc y => hx.keeps c v y) (fun c hc => by rw [upd_ne (ne_of_none hc na)]; exact hc) (fun c xs hc => by rw [upd_ne (ne_of_none hc na)]; exact hc)
  refine ⟨.ref e, _, J, rfl, ?_⟩
  refine r (.ref e) ρ _ (g.fresh na) ⟨e, none, [], rfl, ⟨⟨_, _, upd_same, rfl, rfl, rfl⟩, g.notin na⟩, .inl ⟨rfl, rfl⟩, rfl⟩ ⟨Kp.fresh na, Shr.refl⟩
end
/-- no code object is told of -/
def fNoTab : Fc := fun K => (codeK K).isNone
theorem noTab {K : PySem.W.Frag} {H : Hp} (h : fNoTab K = true) : ∀ c P, codeK K = some (c, P) → H P = some (.tbl #[]) := fun c P e => by
  rw [Option.isNone_iff_eq_none.mp (show (codeK K).isNone = true from h)] at e
  cases e
end G

/-! defs whose callers run no repr (they may ask for one): the promise holds where guards are none; the law's own def is one of these -/
namespace G
open PySem PySem.Spec PyProof.Rows L2 He
structure FnCl (P : Program) (w : World) (K : PySem.W.Frag) (mg : Str → Option Value) (base : Heap) (CX : CXT) (k : Nat) (f : Addr) (fd : FuncData) (ps : List Str) (sp : Sp) : Prop where
  ln : ∀ vs H Q E, sp vs H Q E → vs.length = ps.length
  go : ∀ (A : Around) (outer : List Env) (s : Shared) (H : Hp) (args : Args) (us : List Value) (vs : List V) (Q : VK) (E : XK), A.guards = some [] → Room k A → Env0 P w K mg base A outer s H → BindsTo s fd args (ps.zip us) → Vals vs us → sp vs H Q E →
    codeAny (model P w) A (.call (.ref f) args) (CR CX outer P w H s Q E) s
section
variable {P : Program} {w : World} {K : PySem.W.Frag} {mg : Str → Option Value} {base : Heap} {x qual : Str} {params : Arguments} {body : List Stmt} {scope : Scope} {dvs : List V} {kws : List (Str × V)} {f : Addr} {fd : FuncData} {N ps : List Str} {k : Nat} {db : DS}
theorem fn_cl {CX : CXT} {sp : Sp} (F : FunD K x qual params body scope dvs kws f fd) (S : FnScope N ps scope) (ln : ∀ vs H Q E, sp vs H Q E → vs.length = ps.length)
    (hb : ∀ (cdv : Value) (A : Around) (outer : List Env) (s : Shared) (H : Hp) (vs : List V) (Q : VK) (E : XK), A.guards = some [] → Room k (A.deeper (envOfC qual scope s.heap.objs.size f cdv)) → sp vs H Q E →
      ∃ t, PSs (cxOf CX P w K mg base N qual scope f cdv A outer s H E) body t ∧ t { nx := fun _ H' => Q .non H', rt := Q } (start N vs) H) : FnCl P w K mg base CX (k + 1) f fd ps sp := by
  obtain ⟨_, _, _, _, _, _, _, cdv, _, _, rfl, lk, cd, _, _⟩ := F.ex
  refine ⟨ln, fun A outer s H args us vs Q E gd hr e0 bt rv q => ?_⟩
  have kin : K.In s.heap := e0.mod.kin.keeps fun b o z => (e0.bs b o z).1
  have cel : ∀ {n : Str}, scope.names.lookup n = some .cell → ((cellsFrom (s.heap.objs.size + 1) scope.names []).lookup n).isSome = true := fun c => PySem.W.cellsFrom_some _ _ _ (.inl c)
  refine codeAny_call_function hr.depth (kin _ _ lk) rfl S.co S.gen rfl (PySem.W.codeRec_of kin cd) (bt _ _ _ _ ?_)
  refine wpAny_newFunctionEnv_cells S.kind (fun y hy => (S.par y.1 (List.of_mem_zip hy).1).imp id fun c => ⟨c, cel c⟩) fun env he s1 ic => ?_
  subst he
  obtain ⟨t, ht, tq⟩ := hb cdv A outer s H vs Q E gd (hr.deeper _) q
  refine ⟨(e0.mod.nolimit.keeps fun b o z => (e0.bs b o z).1).keeps ic.toInCall.keep, codeAny_func (wpAny_mono (ht.run [] s1 (start N vs) H _ (inv_start S hr.hd e0 (ln _ _ _ _ q) rv ic) tq) (fun fl s' z => ?_) fun _ _ z => z)⟩
  cases fl with
  | ret u =>
    obtain ⟨v, σ', H', J, ru, z⟩ := z
    exact ⟨v, H', J.os, J.bare, J.base, J.hok, ru, z⟩
  | next =>
    obtain ⟨σ', H', J, z⟩ := z
    exact ⟨.non, H', J.os, J.bare, J.base, J.hok, (rfl : RelV .non .none), z⟩
  | brk => obtain ⟨_, _, _, z⟩ := z; exact z.elim
  | cont => obtain ⟨_, _, _, z⟩ := z; exact z.elim
theorem fn_pureG (F : FunD K x qual params body scope dvs kws f fd) (S : FnScope N ps scope)
    (hb : ∀ (cdv : Value) (A : Around) (outer : List Env) (s : Shared) (H : Hp) (E : XK), A.guards = some [] → Room k (A.deeper (envOfC qual scope s.heap.objs.size f cdv)) → Takes (bodyX P w K mg base N qual scope f cdv A outer s H E) (WE0 E) →
      SB (bodyX P w K mg base N qual scope f cdv A outer s H E) (WE0 E) body db) : FnCl P w K mg base (L2.CX P w) (k + 1) f fd ps (spD K ps.length (mPure ps.length N.length db)) := by
  refine fn_cl F S (fun vs H Q E h => h.1) fun cdv A outer s H vs Q E gd hr ⟨hl, n, ρ, S0, ds, g, r, h⟩ => ⟨tS K db (WE0 E), hb cdv A outer s H E gd hr (takes_of rfl rfl rfl rfl), ?_⟩
  exact ⟨S0.length, ρ, S0, _, g, EnvOk.start r, RestS.of_keep (Rest.cutR g h)⟩
end
structure OkG (P : Program) (w : World) (K : PySem.W.Frag) (mg : Str → Option Value) (base : Heap) (k : Nat) (d : DefG) (ps : List Str) (m : Mf) : Prop where
  ex : ∃ fd cl, FunG K cl d.name d.qual d.params d.body d.scope d.dfl d.kwd (d.at_ K) fd ∧ FnCl P w K mg base (L2.CX P w) k (d.at_ K) fd ps (spD K ps.length m)
section
variable {fa : List Fc} {fn : List DefG} {file : Str} {P : Program} {w : World} {K : PySem.W.Frag} {mg : Str → Option Value} {base : Heap} {k : Nat} {d : DefG} {N ps : List Str} {db : DS}
theorem okg_pure (F : FctOf fa fn file P K mg) (i : Nat) (hi : fn[i]? = some d) (hs : d.sup = none) (S : FnScope N ps d.scope)
    (hb : ∀ (cdv : Value) (A : Around) (outer : List Env) (s : Shared) (H : Hp) (E : XK), A.guards = some [] → Room k (A.deeper (envOfC d.qual d.scope s.heap.objs.size (d.at_ K) cdv)) → Takes (bodyX P w K mg base N d.qual d.scope (d.at_ K) cdv A outer s H E) (WE0 E) →
      SB (bodyX P w K mg base N d.qual d.scope (d.at_ K) cdv A outer s H E) (WE0 E) d.body db) : OkG P w K mg base (k + 1) d ps (mPure ps.length N.length db) := by
  obtain ⟨fd, cl, G, h1, _⟩ := F.c.def_ i hi
  obtain rfl := h1 hs
  obtain ⟨dvs, kws, FD⟩ := G.funD
  exact ⟨fd, [], G, fn_pureG FD S hb⟩
end
theorem calG_of {X : Cx} {k j : Nat} {d : DefG} {ps : List Str} {m : Mf} {np : Nat} {ks : List Str} {gD : List D → List D → List D} (gd : X.A.guards = some []) (O : OkG X.prog X.w X.K X.mg X.base k d ps m) (hr : Room (k + j) X.A) (hk : ∀ fd cl, FunG X.K cl d.name d.qual d.params d.body d.scope d.dfl d.kwd (d.at_ X.K) fd → KwOk X.K fd ps np ks gD) : Cal X j (d.at_ X.K) np ks gD m := by
  obtain ⟨fd, cl, G, O⟩ := O.ex
  exact ⟨k, fd, ps, ⟨fun s H args us vs Q E => O.go X.A X.stack s H args us vs Q E gd⟩, hr, hk fd cl G⟩
/-! ### the head -/
theorem law_in {P : Program} {w : World} {K : PySem.W.Frag} {mg mb : Str → Option Value} {k : Nat} {fa a : Addr} {fd : FuncData} {x : Str} {md : Mf} {s₁ : Shared} {vs : List Value} {ns : List Int}
    (kin : K.In s₁.heap) (hns : s₁.heap.Ns mainGlobals mg) (hb : s₁.heap.Ns builtinsNs mb) (hbb : ∀ x : Str, x ≠ "__name__" → mb x = bootBuiltins x) (hlim : s₁.heap.NoLimit) (hg : s₁.gens = #[])
    (ha : s₁.heap.get? a = some { cls := .type "list", data := .seq vs.toArray }) (hi : IntsAre vs ns) (hl : ns.length ≤ sizeLine) (hr : Room k callerA)
    (F : ∀ base : Heap, K.In base → base.Ns mainGlobals mg → FnCl P w K mg base (L2.CX P w) k fa fd [x] (spD K 1 md)) (hbind : ∀ (s : Shared) (u : Value), BindsTo s fd ⟨[u], []⟩ [(x, u)])
    (hsp : ∀ H : Hp, Only H → SqL K H a (ns.map V.int) → spD K 1 md [.ref a] H (fun v _ => v = .bl true) fun _ _ _ => False) :
    codeAny (model P w) callerA (.call (.ref fa) ⟨[.ref a], []⟩) (fun r s' => r = .ok (.ret (.bool true)) ∧ OldK s₁.heap s'.heap ∧ s'.os = s₁.os ∧ AllBare s'.gens) s₁ := by
  have rv := vals_ints hi
  have hl' : vs.length ≤ sizeLine := by rw [hi.length]; exact hl
  -- H tracks the script at most, as it stands
  suffices hH : ∃ H : Hp, (∀ b u, H b = some u → b = a ∧ K.lookup a = none ∧ u = .frz { cls := .type "list", data := .seq vs.toArray } (.lst (ns.map V.int))) ∧ SqL K H a (ns.map V.int) by
    obtain ⟨H, tr, sq⟩ := hH
    have only : Only H := fun b => by
      cases q : H b with
      | none => exact .inl rfl
      | some u => exact .inr ⟨_, _, congrArg some (tr b u q).2.2⟩
    have un : ∀ {b : Addr} {o : Obj}, s₁.heap.get? b = some o → (∀ xs n, o.data ≠ .seq xs n) → H b = none := fun {b o} e d => by
      cases q : H b with
      | none => rfl
      | some u =>
        rw [(tr b u q).1, ha] at e
        cases e
        exact absurd rfl (d _ _)
    have nsH : ∀ {b : Addr} {m : Str → Option Value}, s₁.heap.Ns b m → (hidT s₁.heap H).Ns b m := fun {b m} ⟨o, es, ep, e, d, r⟩ => ⟨o, es, ep, hidT_get e (un e fun xs n z => by rw [d] at z; cases z), d, r⟩
    have kinH : K.In (hidT s₁.heap H) := fun b o e => hidT_get (kin b o e) (by
      cases q : H b with
      | none => rfl
      | some u =>
        obtain ⟨z, l, _⟩ := tr b u q
        rw [z, l] at e
        cases e)
    have hok : HOk P w H s₁.heap := fun b u q => by
      obtain ⟨rfl, _, rfl⟩ := tr b u q
      exact ⟨ha, by rw [List.length_map]; exact hl, vs, _, rv, ha⟩
    have lim : (hidT s₁.heap H).NoLimit := by
      obtain ⟨mc, h1, h2⟩ := hlim
      exact ⟨mc, nsH h1, h2⟩
    have e0 : Env0 P w K mg (hidT s₁.heap H) callerA [] s₁ H := ⟨rfl, ⟨kinH, nsH hns, ⟨mb, nsH hb, hbb⟩, lim⟩, fun b o e => of_hidT e, Nat.le_of_eq (hidT_size _ _), trivial, fun b z => absurd (show b ∈ ([] : List Addr) from z) (by simp), hok, .of_eq hg⟩
    refine codeAny_mono ((F _ kinH (nsH hns)).go callerA [] s₁ H ⟨[.ref a], []⟩ [.ref a] [.ref a] _ _ rfl hr e0 (hbind s₁ (.ref a)) (.cons rfl .nil) (hsp H only sq)) fun r s' h => ?_
    cases r with
    | error e => obtain ⟨_, _, _, _, _, _, _, _, _, _, _, _, _, _, z⟩ := (show L2.CX P w [] H s₁ (fun _ _ _ => False) e s' from h)
    | ok fl =>
      cases fl with
      | ret u =>
        obtain ⟨v, H', os, bare, un', hok', ru, q⟩ := h
        obtain rfl : v = .bl true := q
        obtain rfl : u = Value.bool true := ru
        refine ⟨rfl, OldK.of_keep fun b o e => ?_, os, bare⟩
        cases q : H b with
        | none => exact un'.keep b o e q (fun z => absurd (show b ∈ ([] : List Addr) from z) (by simp)) (by simp)
        | some u =>
          obtain ⟨rfl, _, rfl⟩ := tr b u q
          obtain ⟨e2, _⟩ := hok' _ _ (un'.frzs _ _ _ q)
          rw [ha] at e
          cases e
          exact e2
      | next => exact h.elim
      | brk => exact h.elim
      | cont => exact h.elim
  cases hk : K.lookup a with
  | some o =>
    have e := kin a o hk
    rw [ha] at e
    cases e
    exact ⟨fun _ => none, fun b u z => by simp at z, .inr ⟨_, vs.toArray, _, hk, rfl, rfl, rfl, by simpa using hl', by simpa using rv⟩⟩
  | none =>
    refine ⟨fun b => if b = a then some (.frz { cls := .type "list", data := .seq vs.toArray } (.lst (ns.map V.int))) else none, fun b u z => ?_, .inl (.inr ⟨_, if_pos rfl⟩)⟩
    by_cases e : b = a
    · exact ⟨e, rfl, (Option.some.inj ((if_pos e).symm.trans z)).symm⟩
    · cases (if_neg e).symm.trans z
theorem walk_g {l : PySem.W.OpenLaw} {n k : Nat} {q : Program} {loose : List Str} {XP : (Str → Option Value) → Heap → Prop} {YP : World → Heap → Prop} {d : DefRec} {x : Str}
    (hn : l.most = some n) (hn2 : n ≤ sizeLine) (hdf : d.params.defaults = []) (hr : Room k callerA)
    (F : ∀ (w : World) (mg : Str → Option Value) (fa : Addr) (h : Heap), YP w h → h.Ns mainGlobals mg → mg d.name = some (.ref fa) →
      ∃ (K : PySem.W.Frag) (fd : FuncData) (md : Mf), K.In h ∧ (∀ (s : Shared) (u : Value), BindsTo s fd ⟨[u], []⟩ [(x, u)]) ∧
        (∀ (H : Hp) (a : Addr) (ns : List Int), ns.length ≤ n → Only H → SqL K H a (ns.map V.int) → spD K 1 md [.ref a] H (fun v _ => v = .bl true) fun _ _ _ => False) ∧
        ∀ base : Heap, K.In base → base.Ns mainGlobals mg → FnCl l.prog w K mg base (L2.CX l.prog w) k fa fd [x] (spD K 1 md)) :
    PySem.W.WalkO q loose XP YP l.row.toRowW d [] (fun f vs => PySem.call f vs) := by
  refine Att.attach_call hn hdf fun w s₀ s₁ mg mb fa o pm cd doc a vs ns G Y ho hd hcd hmg hobj hints hlen hg => ?_
  obtain ⟨K, fd, md, kin, bd, sp, FO⟩ := F w mg fa _ Y G.T.g hmg
  exact law_in kin G.T.g G.T.b G.T.builtins G.T.nolimit hg hobj hints (Nat.le_trans hlen hn2) hr FO bd fun H hO hS => sp H a ns hlen hO hS
end G

/-! dicts as values: displays, ==; repr of data -/
namespace G
open PySem PySem.Spec PyProof.Rows L2
/-! ### displays -/
def dPrs : List (DE × DE) → Nat → Slots → Store → Res (List (D × D))
  | [], _, _, S => .ok [] S
  | (k, v) :: r, n, δ, S => (k n δ S).bind fun a S1 => (v n δ S1).bind fun b S2 => (dPrs r n δ S2).bind fun ps S3 => .ok ((a, b) :: ps) S3
def keysD (ps : List (D × D)) : Option (List Key) := ps.mapM fun p => keyD p.1
def keysOk (ps : List (D × D)) : Bool := match keysD ps with
  | some ks => decide ks.Nodup && decide (ps.length ≤ 15)
  | none => false
def dDct (l : List (DE × DE)) : DE := fun n δ S => ((dPrs l n δ S).nox).bind fun ps S1 => if keysOk ps = true then .ok (.dct ps) S1 else .bad
def RpVV (K : PySem.W.Frag) (ρ : Ad) (H : Hp) : List (D × D) → List (V × V) → Prop
  | [], vs => vs = []
  | (k, d) :: ds, vs => ∃ a b ws, vs = (a, b) :: ws ∧ Rp K ρ H k a ∧ Rp K ρ H d b ∧ RpVV K ρ H ds ws
theorem key_v {K : PySem.W.Frag} {ρ : Ad} {H : Hp} {d : D} {v : V} {q : Key} (h : Rp K ρ H d v) (e : keyD d = some q) : v = kV q := by
  cases d <;> cases e <;> exact h
theorem vv_keys {K : PySem.W.Frag} {ρ : Ad} {H : Hp} : ∀ (ds : List (D × D)) (ps : List (V × V)) (ks : List Key), RpVV K ρ H ds ps → keysD ds = some ks → ∃ kvs : List (Key × V), ps = kvs.map (fun kv => (kV kv.1, kv.2)) ∧ RpP K ρ H ds kvs ∧ kvs.map (·.1) = ks
  | [], ps, ks, h, e => by cases e; exact ⟨[], h, rfl, rfl⟩
  | (k, d) :: ds, ps, ks, ⟨a, b, ws, e1, r1, r2, r3⟩, e => by
    unfold keysD at e
    rw [List.mapM_cons] at e
    cases h1 : keyD k with
    | none => rw [h1] at e; cases e
    | some q =>
      cases h2 : List.mapM (fun p : D × D => keyD p.1) ds with
      | none => rw [h1, h2] at e; cases e
      | some qs =>
        rw [h1, h2] at e
        cases e
        obtain ⟨kvs, h3, h4, h5⟩ := vv_keys ds ws qs r3 h2
        exact ⟨(q, b) :: kvs, by rw [e1, h3, key_v r1 h1]; rfl, ⟨q, b, kvs, rfl, h1, r2, h4⟩, by rw [List.map_cons, h5]⟩
theorem mergeK_new : ∀ (l kvs : List (Key × V)), ((kvs ++ l).map (·.1)).Nodup → mergeK kvs l = kvs ++ l
  | [], kvs, _ => (List.append_nil _).symm
  | p :: l, kvs, h => by
    have e : putK kvs p.1 p.2 = kvs ++ [p] := by
      unfold putK
      rw [if_neg ?_]
      intro z
      obtain ⟨q, hq, hz⟩ := List.any_eq_true.mp z
      rw [List.map_append, List.map_cons] at h
      have := (List.nodup_append.mp h).2.2 q.1 (List.mem_map.mpr ⟨q, hq, rfl⟩) p.1 List.mem_cons_self
      exact this (of_decide_eq_true hz)
    show mergeK (putK kvs p.1 p.2) l = _
    rw [e, mergeK_new l (kvs ++ [p]) (by simpa using h), List.append_assoc]
    rfl
section
variable {X : Cx} {W : WX} {pos : Pos}
theorem prs_run : ∀ (l : List (DE × DE)) (n : Nat) (ρ : Ad) (S : Store) (H : Hp) (δ : Slots) (σ : L2.St) (Q : List (V × V) → Hp → Prop), Good X.K ρ S H → EnvOk X.K ρ H δ σ → Rest (RpVV X.K) X.K n ρ S H σ Q W (dPrs l n δ S) →
    tPairs (l.map fun p => (tE X.K p.1 W, tE X.K p.2 W)) σ H Q
  | [], n, ρ, S, H, δ, σ, Q, g, en, r => (r.val g rfl : Q [] H)
  | (k, v) :: l, n, ρ, S, H, δ, σ, Q, g, en, r => by
    refine ⟨n, ρ, S, δ, g, en, (Rest.bind (rel' := Rp X.K) en r).mono fun a H1 ⟨ρ1, S1, d1, g1, e1, r1, f1, q1⟩ => ?_⟩
    refine ⟨n, ρ1, S1, δ, g1, e1, (Rest.bind (rel' := Rp X.K) e1 q1).mono fun b H2 ⟨ρ2, S2, d2, g2, e2, r2, f2, q2⟩ => ?_⟩
    refine prs_run l n ρ2 S2 H2 δ σ _ g2 e2 ((Rest.bind (rel' := RpVV X.K) e2 q2).mono fun ws H3 ⟨ρ3, S3, d3, g3, e3, r3, f3, q3⟩ => ?_)
    exact q3.val g3 ⟨a, b, ws, rfl, (r1.kp f2.kp).kp f3.kp, r2.kp f3.kp, r3⟩
theorem Rest.noxw {α β α' β' : Type} {rel : Ad → Hp → α → β → Prop} {rel' : Ad → Hp → α' → β' → Prop} {K : PySem.W.Frag} {n : Nat} {ρ ρ1 : Ad} {S S1 : Store} {H H1 : Hp} {σ σ2 : L2.St} {r : Res α'} {f : α' → Store → Res α} {Q : β → Hp → Prop} {W W' : WX} (h : Rest rel K n ρ1 S1 H1 σ Q W (r.nox.bind f)) :
    Rest rel' K n ρ S H σ2 (fun v H' => ∃ ρ' S' d, Good K ρ' S' H' ∧ rel' ρ' H' d v ∧ Fr n ρ S H ρ' S' H' ∧ Rest rel K n ρ1 S1 H1 σ Q W (f d S')) W' r := by
  cases r with
  | ok d S' => exact fun v ρ' H' g a fr => ⟨ρ', S', d, g, a, fr, h⟩
  | exc x S' => exact False.elim h
  | bad => exact h
theorem se_dct {keys : List (Option Expr)} {values : List Expr} {l : List (DE × DE)} (h : PPs X pos keys values (l.map fun p => (tE X.K p.1 W, tE X.K p.2 W))) (hall : keys.all (·.isSome) = true := by rfl) (hl : keys.length = values.length := by rfl) (h0 : keys ≠ [] := by nofun)
    (h15 : keys.length ≤ 15 := by decide) : SE X W (.Dict keys values pos) (dDct l) := PE.imp (pe_disp h hall hl h0 h15) fun σ H Q ⟨n, ρ, S, δ, g, en, r⟩ => fun p hp => by
  have k0 : Kp ρ H (ρ.hide p) (upd H p (.dK [])) := Kp.hide hp
  have gh : Good X.K (ρ.hide p) S (upd H p (.dK [])) := g.hide hp
  refine prs_run l n (ρ.hide p) S _ δ σ _ gh (en.kp k0) ((Rest.noxw r).mono fun ps H2 ⟨ρ2, S2, ds, g2, rr, f2, q⟩ => ?_)
  have px0 : p ∈ (ρ.hide p).x := List.mem_cons_self
  have px : p ∈ ρ2.x := f2.kp.sub p px0
  have hH2 : H2 p = some (.dK []) := f2.kp.keep p _ upd_same (gh.hid p px0).1 (fun _ z => by cases z)
  refine ⟨hH2, ?_⟩
  unfold keysOk at q
  cases e : keysD ds with
  | none => rw [e] at q; exact False.elim q
  | some ks =>
    rw [e] at q
    dsimp only at q
    split at q
    · rename_i hz
      simp only [Bool.and_eq_true, decide_eq_true_eq] at hz
      obtain ⟨kvs, h1, h2, h3⟩ := vv_keys ds ps ks rr e
      have hl : kvs.length = ds.length := by
        have := congrArg List.length h1
        have h4 : ∀ (ds : List (D × D)) (vs : List (V × V)), RpVV X.K ρ2 H2 ds vs → vs.length = ds.length := by
          intro ds
          induction ds with
          | nil => intro vs z; cases z; rfl
          | cons a ds ih =>
            obtain ⟨k, d⟩ := a
            intro vs ⟨a, b, ws, z, _, _, z2⟩
            rw [z, List.length_cons, List.length_cons, ih ws z2]
        rw [h4 ds ps rr] at this
        simpa using this.symm
      refine ⟨kvs, h1, by omega, ?_⟩
      rw [mergeK_new kvs [] (by simpa [h3] using hz.1), List.nil_append]
      have gs : Good X.K ρ2 S2 (upd H2 p (.dK kvs)) := g2.hset px
      have c : Cut ⟨ρ2.r, ρ.x⟩ ρ2 := ⟨List.prefix_refl _, fun a m => f2.kp.sub a (List.mem_cons_of_mem _ m)⟩
      have rp := RpP.hset (o := .dK kvs) px ds kvs h2
      refine q (.ref p) ⟨ρ2.r, ρ.x⟩ _ (gs.unhide _ fun a m => f2.kp.sub a (List.mem_cons_of_mem _ m)) ⟨p, kvs, rfl, .inl upd_same, ⟨(g2.hid p px).1, fun m => ?_⟩, RpP.cut c ds kvs (RpP.low (ρ := ρ2) ds kvs rp) rp⟩ ⟨((k0.trans f2.kp).hset hp).unhide, f2.shr⟩
      obtain ⟨_, u, z⟩ := g.hid p m
      rw [hp] at z
      cases z
    · exact False.elim q
end
/-! ### == -/
/-- a dict of flat values -/
def flatKv : List (D × D) → Option (List (Key × V))
  | [] => some []
  | (k, d) :: r => match keyD k, flatD d, flatKv r with
    | some q, some v, some l => if flatB v = true then some ((q, v) :: l) else none
    | _, _, _ => none
theorem flatD_v {K : PySem.W.Frag} {ρ : Ad} {H : Hp} {d : D} {v u : V} (h : flatD d = some v) (r : Rp K ρ H d u) : u = v := by
  cases d <;> first | (cases h; exact r) | cases h
theorem flatKv_rp {K : PySem.W.Frag} {ρ : Ad} {H : Hp} : ∀ (ds : List (D × D)) (l vs : List (Key × V)), flatKv ds = some l → RpP K ρ H ds vs → vs = l ∧ ∀ p ∈ l, flatB p.2 = true
  | [], l, vs, e, h => by cases e; exact ⟨h, fun p hp => absurd hp (by simp)⟩
  | (k, d) :: ds, l, vs, e, ⟨q, v, ws, e1, e2, r1, r2⟩ => by
    unfold flatKv at e
    split at e
    · rename_i q' v' l' h1 h2 h3
      split at e
      · rename_i hf
        cases e
        obtain ⟨h4, h5⟩ := flatKv_rp ds l' ws h3 r2
        rw [h1] at e2
        cases e2
        rw [e1, flatD_v h2 r1, h4]
        refine ⟨rfl, fun p hp => ?_⟩
        rcases List.mem_cons.mp hp with z | z
        · rw [z]; exact hf
        · exact h5 p z
      · cases e
    · cases e
def dEqK : Op2 := fun x y S => match x, y with
  | .dct ks, .dct ls => match flatKv ks, flatKv ls with
    | some l, some l' => if l = l' ∧ (l.map (·.1)).Nodup then .ok (.bl true) S else .bad
    | _, _ => .bad
  | _, _ => .bad
def rEqK : R2 := fun x y H Q => ∃ a b l, x = .ref a ∧ y = .ref b ∧ Rd H a (.dK l) ∧ Rd H b (.dK l) ∧ (∀ p ∈ l, flatB p.2 = true) ∧ (l.map (·.1)).Nodup ∧ Q (.bl true) H
theorem valV_mem : ∀ (l : List (Key × V)), (l.map (·.1)).Nodup → ∀ p ∈ l, valV l p.1 = some p.2
  | [], _, p, hp => absurd hp (by simp)
  | q :: l, nd, p, hp => by
    rw [List.map_cons, List.nodup_cons] at nd
    rcases List.mem_cons.mp hp with e | e
    · subst e; exact valV_pos rfl
    · rw [valV_neg fun z => nd.1 (by rw [z]; exact List.mem_map.mpr ⟨p, e, rfl⟩)]
      exact valV_mem l nd.2 p e
theorem op_eqK {X : Cx} (hu : X.A.units + 64 < cLine) : OpR X (compareOp .Eq) rEqK := by
  intro pins s σ H x y v u Q I rx ry ⟨a, b, l, e1, e2, h1, h2, hf, nd, q⟩
  subst e1; subst e2
  cases (show v = Value.ref a from rx)
  cases (show u = Value.ref b from ry)
  obtain ⟨_, ya, va, ra, da⟩ := dk_rd I.hok h1
  obtain ⟨_, yb, vb, rb, db⟩ := dk_rd I.hok h2
  refine PySem.W.rcP_dicts (knd := mixKind X.prog X.w) (r := true) ya yb da db (by omega) (fun _ => hits_run (F := fun x y => x = y ∧ flatB x = true) (fun x y v u ⟨e, f⟩ r1 r2 => (eqAt_same r1 (by rw [e]; exact r2) f).eqP) rb ra fun p hp => ⟨p.2, valV_mem l nd p hp, rfl, hf p hp⟩) _ _ ?_
  have e : va.length = vb.length := by rw [← ra.length, ← rb.length]
  rw [show (va.length == vb.length && true) = true from by rw [e]; simp]
  exact ⟨.bl true, H, I, rfl, q⟩
theorem og_eqK {K : PySem.W.Frag} {W : WX} : OpG K W rEqK dEqK := fun n ρ S H σ dx dy x y Q g rx ry h => by
  unfold dEqK at h
  split at h
  · rename_i ks ls
    split at h
    · rename_i l l' h1 h2
      split at h
      · rename_i hz
        obtain ⟨e, nd⟩ := hz
        subst e
        obtain ⟨a, va, ea, da, _, ra⟩ := rx
        obtain ⟨b, vb, eb, db, _, rb⟩ := ry
        obtain ⟨z1, hf⟩ := flatKv_rp ks l va h1 ra
        obtain ⟨z2, _⟩ := flatKv_rp ls l vb h2 rb
        subst z1
        subst z2
        exact ⟨a, b, _, ea, eb, da, db, hf, nd, h.val g rfl⟩
      · exact False.elim h
    · exact False.elim h
  · exact False.elim h
/-- texts of any signs -/
def dEqS : Op2 := fun x y S => match x, y with
  | .str a, .str b => .ok (.bl (a == b)) S
  | _, _ => .bad
theorem op_eqS {X : Cx} : OpR X (compareOp .Eq) (fun x y H Q => ∃ a b, x = .str a ∧ y = .str b ∧ Q (.bl (a == b)) H) := by
  intro pins s σ H x y v u Q I rx ry ⟨a, b, e1, e2, q⟩
  subst e1; subst e2
  obtain ⟨t, rfl⟩ := rx
  obtain ⟨t', rfl⟩ := ry
  exact PyProof.Rows.eq_str ⟨.bl (a == b), H, I, rfl, q⟩
theorem og_eqS {K : PySem.W.Frag} {W : WX} : OpG K W (fun x y H Q => ∃ a b, x = .str a ∧ y = .str b ∧ Q (.bl (a == b)) H) dEqS := fun n ρ S H σ dx dy x y Q g rx ry h => by
  unfold dEqS at h
  split at h
  · cases rx; cases ry
    exact ⟨_, _, rfl, rfl, h.val g rfl⟩
  · exact False.elim h
def uEqX : Op2 := orOp (dEq false) (orOp dEqK dEqS)
theorem rl_eqX {X : Cx} {W : WX} (hu : X.A.units + 64 < cLine) : Rl X W (compareOp .Eq) uEqX := Rl.or ⟨_, op_eqD hu, og_eqD⟩ (Rl.or ⟨_, op_eqK hu, og_eqK⟩ ⟨_, op_eqS, og_eqS⟩)
end G

/-! repr of data -/
namespace G
open PySem PySem.Spec PyProof.Rows L2
def scPy : D → Option PyData
  | .non => some .none
  | .bl b => some (.bool b)
  | .int i => some (.int i)
  | .str s => some (.str s)
  | _ => none
def kvPy : List (D × D) → Option (List (PyData × PyData))
  | [] => some []
  | (k, d) :: r => match keyD k, scPy k, scPy d, kvPy r with
    | some _, some a, some b, some l => some ((a, b) :: l)
    | _, _, _, _ => none
def rpD (S : Store) (d : D) : Option PyData := match toPy S d with
  | some p => if p.hasDict = true then none else some p
  | none => match d with
    | .dct ks => (kvPy ks).map .dict
    | _ => none
def bRepr : BOp := fun ds S => match ds with
  | [d] => match rpD S d with
    | some p => if p.showable = true ∧ p.shown.length ≤ sizeLine ∧ p.depth ≤ 60 then .ok (.str p.shown) S else .bad
    | none => .bad
  | _ => .bad
theorem sc_reads {K : PySem.W.Frag} {ρ : Ad} {H : Hp} {h : Heap} {d : D} {p : PyData} {v : V} {u : Value} (e : scPy d = some p) (r : Rp K ρ H d v) (ru : RelV v u) : Reads h u p [] := by
  cases d <;> cases e
  · cases (show v = _ from r); cases (show u = _ from ru); exact .none
  · cases (show v = _ from r); cases (show u = _ from ru); exact .bool _
  · cases (show v = _ from r); obtain ⟨t, rfl⟩ := ru; exact .int _ _
  · cases (show v = _ from r); obtain ⟨t, rfl⟩ := ru; exact .str _ _
theorem kv_reads {P : Program} {w : World} {K : PySem.W.Frag} {ρ : Ad} {H : Hp} {h : Heap} : ∀ (ds : List (D × D)) (l : List (PyData × PyData)) (ks : List (Key × V)) (vs : List (Key × Value)) (es : List DictEntry), kvPy ds = some l → RpP K ρ H ds ks → KV ks vs → Pairs (mixKind P w) es vs →
    ReadsAll h (es.map (·.key)) (l.map (·.1)) [] ∧ ReadsAll h (es.map (·.val)) (l.map (·.2)) []
  | [], l, ks, vs, es, e, h, r, p => by
    cases e
    cases (show ks = [] from h)
    unfold KV at r
    cases r
    cases p
    exact ⟨.nil, .nil⟩
  | (k, d) :: ds, l, ks, vs, es, e, ⟨q, v, ws, e1, e2, r1, r2⟩, r, p => by
    unfold kvPy at e
    split at e
    · rename_i q' a b l' h1 h2 h3 h4
      cases e
      subst e1
      unfold KV at r
      cases r with
      | @cons _ b' _ bs hx ht =>
        obtain ⟨x1, x2⟩ := hx
        cases p with
        | @cons en _ es' _ y1 y2 y3 =>
          obtain ⟨z1, z2⟩ := kv_reads ds l' ws bs es' h4 r2 ht y3
          have rv : Reads h en.val b [] := by
            rw [y2]; exact sc_reads h3 r1 x2
          have rk : Reads h en.key a [] := by
            have y1 : keyIs b'.1 en.key = true := y1
            rw [← (show q = b'.1 from x1)] at y1
            rcases keyIs_shape y1 with ⟨i, t, ei, ev⟩ | ⟨i, t, ei, ev⟩
            · rw [ev]
              cases k <;> cases e2 <;> cases ei
              cases h2
              exact .int _ _
            · rw [ev]
              cases k <;> cases e2 <;> cases ei
              cases h2
              exact .str _ _
          exact ⟨.cons rk z1, .cons rv z2⟩
    · cases e
def TellV (K : PySem.W.Frag) (x : V) (H : Hp) (p : PyData) : Prop := (Dp K H x p ∧ p.hasDict = false) ∨ ∃ ρ a ds ks l, x = .ref a ∧ Rd H a (.dK ks) ∧ kvPy ds = some l ∧ RpP K ρ H ds ks ∧ p = .dict l
def rRepr (K : PySem.W.Frag) : List V → Hp → VK → Prop := fun xs H Q => ∃ x p, xs = [x] ∧ TellV K x H p ∧ p.showable = true ∧ p.shown.length ≤ sizeLine ∧ p.depth ≤ 60 ∧ Q (.str p.shown) H
theorem call_repr {X : Cx} (gd : X.A.guards = some []) (hu : X.A.units + 64 < cLine) : CallR X (.builtin "repr") (rRepr X.K) := by
  intro pins s σ H xs us Q I r ⟨x, p, e, tv, hs, hz, hd, q⟩
  subst e
  obtain ⟨u, rfl, ru⟩ := vals1 r
  have rd : ∃ as, Reads s.heap u p as ∧ (p.hasDict = true → sysModules ∉ as) := by
    rcases tv with ⟨h1, h2⟩ | ⟨ρ, a, ds, ks, l, e1, h1, h2, h3, e2⟩
    · obtain ⟨as, z⟩ := Dp.reads I p x u h1 ru
      exact ⟨as, z, fun y => by rw [h2] at y; cases y⟩
    · subst e1
      cases (show u = Value.ref a from ru)
      obtain ⟨_, hsys, vs, r0, o, es, ep, ho, hx, ho2, _, hp, _⟩ := dk_rd I.hok h1
      obtain ⟨z1, z2⟩ := kv_reads (h := s.heap) ds l ks vs es.toList h2 h3 r0 hp
      subst e2
      refine ⟨_, .dict ho hx.1 ho2 z1 z2, fun _ m => ?_⟩
      simp only [List.append_nil, List.mem_singleton] at m
      rw [← m] at hsys
      simp at hsys
  obtain ⟨as, rd, hsm⟩ := rd
  have fin : ∀ (h' : Heap) (t : Tok) (tk : Nat), (∀ b o, s.heap.get? b = some o → h'.get? b = some o) → EP X pins σ Q (.str p.shown t) { s with heap := h', toks := tk } := fun h' t tk hk =>
    ⟨.str p.shown, H, I.un (Un.kept hk) (I.hok.kept hk), ⟨t, rfl⟩, q⟩
  cases rd with
  | none => exact PySem.P.repr_of_none (fin s.heap _ _ fun _ _ z => z)
  | bool b => exact PySem.P.repr_of_bool (by simpa only [PyData.shown] using fin s.heap _ _ fun _ _ z => z)
  | int i t => exact PySem.P.repr_of_int (by simpa [PyData.showable] using hs) (by simpa only [PyData.shown] using fin s.heap _ _ fun _ _ z => z)
  | str x t => exact PySem.P.repr_of_str (by simpa only [PyData.shown] using fin s.heap _ _ fun _ _ z => z) (by simpa only [PyData.shown] using hz)
  | list h1 h2 h3 h4 => exact repr_of_reads' (.list h1 h2 h3 h4) hs hsm gd (by omega) (fun _ _ z => z) fin hz
  | tuple h1 h2 h3 h4 => exact repr_of_reads' (.tuple h1 h2 h3 h4) hs hsm gd (by omega) (fun _ _ z => z) fin hz
  | dict h1 h2 h3 h4 h5 => exact repr_of_reads' (.dict h1 h2 h3 h4 h5) hs hsm gd (by omega) (fun _ _ z => z) fin hz
theorem ca_repr {K : PySem.W.Frag} {W : WX} : CaG K W (rRepr K) bRepr := fun n ρ S H σ ds vs Q g r h => by
  unfold bRepr at h
  split at h
  · rename_i d
    obtain ⟨v, rfl, r1⟩ := r.sole
    split at h
    · rename_i p hp
      split at h
      · rename_i hz
        refine ⟨v, p, rfl, ?_, hz.1, hz.2.1, hz.2.2, h.val g rfl⟩
        unfold rpD at hp
        split at hp
        · rename_i p' h1
          split at hp
          · cases hp
          · rename_i hd
            cases hp
            exact .inl ⟨toPy_dp g d _ v h1 r1, by simpa using hd⟩
        · split at hp
          · rename_i ks _
            obtain ⟨l, h1, h2⟩ := Option.map_eq_some_iff.mp hp
            obtain ⟨a, va, ea, da, _, ra⟩ := r1
            exact .inr ⟨ρ, a, ks, va, l, ea, da, h1, ra, h2.symm⟩
          · cases hp
      · exact False.elim h
    · exact False.elim h
  · exact False.elim h
end G

/-! repr of lists and tuples that hold dicts -/
namespace G
open PySem PySem.Spec PyProof.Rows L2
mutual
def tellD (S : Store) : D → Option PyData
  | .lst ds => (tellL S ds).map .list
  | .tup ds => (tellL S ds).map .tuple
  | .dct ks => (tellP S ks).map .dict
  | d => match toPy S d with
    | some p => if p.hasDict = true then none else some p
    | none => none
def tellL (S : Store) : List D → Option (List PyData)
  | [] => some []
  | d :: ds => match tellD S d, tellL S ds with
    | some p, some ps => some (p :: ps)
    | _, _ => none
def tellP (S : Store) : List (D × D) → Option (List (PyData × PyData))
  | [] => some []
  | (k, d) :: r => match keyD k, scPy k, tellD S d, tellP S r with
    | some _, some a, some b, some l => some ((a, b) :: l)
    | _, _, _, _ => none
end
def bReprN : BOp := fun ds S => match ds with
  | [d] => match tellD S d with
    | some p => if p.showable = true ∧ p.shown.length ≤ sizeLine ∧ p.depth ≤ 60 then .ok (.str p.shown) S else .bad
    | none => .bad
  | _ => .bad
/-- told: read at a heap, its text by its kind's own rule -/
structure Tl (P : Program) (w : World) (h : Heap) (u : Value) (p : PyData) : Prop where
  rd : ∃ as bs, Reads h u p as ∧ ReadAtMost h p.depth bs ∧ ReprK P w bs h p.depth u p.shown
  sh : ∀ a, u = .ref a → ∃ T idr, ShowsBy P w h a p T idr
structure TlA (P : Program) (w : World) (h : Heap) (us : List Value) (ps : List PyData) : Prop where
  rd : ∃ as bs, ReadsAll h us ps as ∧ ReadAtMost h (PyData.depthAll ps) bs ∧ ReprAllK P w bs h (PyData.depthAll ps) us (PyData.shownAll ps)
section
variable {P : Program} {w : World} {h : Heap} {u : Value} {p : PyData} {us : List Value} {ps : List PyData}
theorem tl_base {as : List Addr} (r : Reads h u p as) (hs : p.showable = true) (hd : p.hasDict = false) (hz : p.shown.length ≤ sizeLine) : Tl P w h u p := by
  have hsm : p.hasDict = true → sysModules ∉ as := fun x => by rw [hd] at x; cases x
  obtain ⟨bs, b1, b2⟩ := ReprK.of_reads (prog := P) (w := w) r hs hsm hz
  exact ⟨⟨as, bs, r, b1, b2⟩, fun a e => by subst e; exact showsBy_of_reads r hs hsm hz⟩
theorem tlA_nil : TlA P w h [] [] := ⟨[], [], .nil, (fun _ m => nomatch m), by simp only [PyData.shownAll]; exact .nil⟩
theorem tlA_cons (x : Tl P w h u p) (y : TlA P w h us ps) : TlA P w h (u :: us) (p :: ps) := by
  obtain ⟨⟨as, b1, r, hb1, k1⟩, _⟩ := x
  obtain ⟨as2, b2, rs, hb2, k2⟩ := y.rd
  refine ⟨as ++ as2, b1 ++ b2, .cons r rs, fun b m => ?_, ?_⟩
  · simp only [PyData.depthAll]
    rcases List.mem_append.mp m with m | m
    · obtain ⟨d', as', r', hd'⟩ := hb1 b m
      exact ⟨d', as', r', by omega⟩
    · obtain ⟨d', as', r', hd'⟩ := hb2 b m
      exact ⟨d', as', r', by omega⟩
  · simp only [PyData.depthAll, PyData.shownAll]
    exact .cons ((k1.more fun b m => List.mem_append_left _ m).level_le (Nat.le_max_left _ _)) (k2.more_le (fun b m => List.mem_append_right _ m) (Nat.le_max_right _ _))
theorem tl_list {a : Addr} {o : Obj} {n : Nat} (h1 : h.get? a = some o) (h2 : o.cls = .type "list") (h3 : o.data = .seq us.toArray n) (x : TlA P w h us ps) (hz : (listText (PyData.shownAll ps)).length ≤ sizeLine) : Tl P w h (.ref a) (.list ps) := by
  obtain ⟨as, bs, rs, hb, hk⟩ := x.rd
  have r : Reads h (.ref a) (.list ps) (a :: as) := .list h1 h2 h3 rs
  have hna : a ∉ bs := not_mem_of_deeper r (by simp only [PyData.depth]; omega) hb
  refine ⟨⟨a :: as, a :: bs, r, ReadAtMost.cons r (by simp only [PyData.depth]; omega) hb, ?_⟩, fun a' e => ?_⟩
  · simp only [PyData.depth, PyData.shown]
    cases us with
    | nil =>
      have e : ps = [] := by cases rs; rfl
      subst e
      simp only [PyData.shownAll, listText_nil]
      exact ReprK.listEmpty h1 h2 h3
    | cons x l => exact ReprK.list h1 h2 h3 hna (by simpa using hk.length_eq) (fun i y e => hk.item i y (by simpa using e))
  · cases e
    refine ⟨"list", "list.__repr__", F.slot_list_repr.toG, F.slot_list_str, F.slot_list_format, fun s hk0 => ⟨o, hk0 _ _ h1, h2⟩, fun A E s Q hg hu hk0 hQ => ?_⟩
    simp only [PyData.depth] at hu
    simp only [PyData.shown] at hQ
    cases us with
    | nil =>
      have e : ps = [] := by cases rs; rfl
      subst e
      simp only [PyData.shownAll, listText_nil] at hQ
      exact call_list_repr_empty ⟨o, hk0 _ _ h1, h2⟩ (hk0 _ _ h1) h3 (hQ s.heap _ _ fun _ _ e => e)
    | cons x l => exact call_list_reprK h1 h2 h3 hna (by simpa using hk.length_eq) (fun i y e => hk.item i y (by simpa using e)) hg (fun b _ => Clear.nil b) hu hk0 hQ hz
theorem tl_tup {a : Addr} {o : Obj} {n : Nat} (h1 : h.get? a = some o) (h2 : o.cls = .type "tuple") (h3 : o.data = .seq us.toArray n) (x : TlA P w h us ps) (hz : (tupleText (PyData.shownAll ps)).length ≤ sizeLine) : Tl P w h (.ref a) (.tuple ps) := by
  obtain ⟨as, bs, rs, hb, hk⟩ := x.rd
  have r : Reads h (.ref a) (.tuple ps) as := .tuple h1 h2 h3 rs
  have hna : a ∉ bs := not_mem_of_deeper r (by simp only [PyData.depth]; omega) hb
  refine ⟨⟨as, a :: bs, r, ReadAtMost.cons r (by simp only [PyData.depth]; omega) hb, ?_⟩, fun a' e => ?_⟩
  · simp only [PyData.depth, PyData.shown]
    exact ReprK.tuple h1 h2 h3 hna hk
  · cases e
    refine ⟨"tuple", "tuple.__repr__", F.slot_tuple_repr, F.slot_tuple_str, F.slot_tuple_format, fun s hk0 => ⟨o, hk0 _ _ h1, h2⟩, fun A E s Q hg hu hk0 hQ => ?_⟩
    simp only [PyData.depth] at hu
    simp only [PyData.shown] at hQ
    exact call_tuple_reprK h1 h2 h3 hna hk hg (fun b _ => Clear.nil b) hu hk0 hQ hz
theorem tl_dict {a : Addr} {o : Obj} {n : Nat} {es : Array DictEntry} {l : List (PyData × PyData)} (h1 : h.get? a = some o) (h2 : o.cls = .type "dict") (h3 : o.data = .dict es n) (hsys : (a == sysModules) = false) (x : TlA P w h (es.toList.map (·.key)) (l.map (·.1))) (y : TlA P w h (es.toList.map (·.val)) (l.map (·.2)))
    (hz : (dictText (PyData.shownKv l)).length ≤ sizeLine) : Tl P w h (.ref a) (.dict l) := by
  obtain ⟨as, b1, ra, hb1, k1⟩ := x.rd
  obtain ⟨as2, b2, rb, hb2, k2⟩ := y.rd
  have r : Reads h (.ref a) (.dict l) (a :: as ++ as2) := .dict h1 h2 h3 ra rb
  have hb : ReadAtMost h (PyData.depthKv l) (b1 ++ b2) := (hb1.mono (PyData.depthAll_keys_le l)).append (hb2.mono (PyData.depthAll_vals_le l))
  have hna : a ∉ b1 ++ b2 := not_mem_of_deeper r (by simp only [PyData.depth]; omega) hb
  have hE := ReprEntriesK.of_two es.toList _ _ (k1.more_le (fun b m => List.mem_append_left b2 m) (PyData.depthAll_keys_le l)) (k2.more_le (fun b m => List.mem_append_right b1 m) (PyData.depthAll_vals_le l))
  refine ⟨⟨_, a :: (b1 ++ b2), r, ReadAtMost.cons r (by simp only [PyData.depth]; omega) hb, ?_⟩, fun a' e => ?_⟩
  · simp only [PyData.depth, PyData.shown, PyData.shownKv_eq]
    exact ReprK.dict h1 h2 h3 hsys hna hE
  · cases e
    refine ⟨"dict", "dict.__repr__", F.slot_dict_repr, F.slot_dict_str, F.slot_dict_format, fun s hk0 => ⟨o, hk0 _ _ h1, h2⟩, fun A E s Q hg hu hk0 hQ => ?_⟩
    simp only [PyData.depth] at hu
    simp only [PyData.shown, PyData.shownKv_eq] at hQ
    exact call_dict_reprK h1 h2 h3 hsys hna hE hg (fun b _ => Clear.nil b) hu hk0 hQ (by rw [← PyData.shownKv_eq]; exact hz)
end
section
variable {X : Cx} {pins : List (Addr × Obj)} {σ : L2.St} {H : Hp} {s : Shared} {ρ : Ad} {S : Store}
theorem tell_base (I : L2.Inv X pins σ H s) (g : Good X.K ρ S H) {d : D} {p : PyData} {v : V} {u : Value} (e : (match toPy S d with | some p => if p.hasDict = true then none else some p | none => none) = some p) (r : Rp X.K ρ H d v) (ru : RelV v u) (hs : p.showable = true) (hz : p.shown.length ≤ sizeLine) : Tl X.prog X.w s.heap u p := by
  split at e
  · rename_i p' h1
    split at e
    · cases e
    · rename_i hd
      cases e
      obtain ⟨as, rr⟩ := Dp.reads I _ v u (toPy_dp g d _ v h1 r) ru
      exact tl_base rr hs (by simpa using hd) hz
  · cases e
mutual
theorem tell_tl (I : L2.Inv X pins σ H s) (g : Good X.K ρ S H) : ∀ (d : D) (p : PyData) (v : V) (u : Value), tellD S d = some p → Rp X.K ρ H d v → RelV v u → p.showable = true → p.shown.length ≤ sizeLine → Tl X.prog X.w s.heap u p
  | .lst ds, p, v, u, e, ⟨a, vs, e1, t, r⟩, ru, hs, hz => by
    obtain ⟨ps, h1, rfl⟩ := Option.map_eq_some_iff.mp (show (tellL S ds).map .list = some p from e)
    subst e1
    cases (show u = Value.ref a from ru)
    obtain ⟨us, rv, pl, _⟩ := I.list t.sq
    obtain ⟨o, n, k1, k2, _, k3⟩ := pl
    have hz' : (listText (PyData.shownAll ps)).length ≤ sizeLine := by simpa only [PyData.shown] using hz
    exact tl_list k1 k2 k3 (tell_tlL I g ds ps vs us h1 r rv (by simpa [PyData.showable] using hs) fun t ht => Nat.le_trans (listText_mem_le ht) hz') hz'
  | .tup ds, p, v, u, e, h, ru, hs, hz => by
    obtain ⟨a, vs, e1, t, r⟩ := tup_rp h
    obtain ⟨ps, h1, rfl⟩ := Option.map_eq_some_iff.mp (show (tellL S ds).map .tuple = some p from e)
    subst e1
    cases (show u = Value.ref a from ru)
    obtain ⟨us, o, n, rv, k1, k2, k3⟩ := sqT_at I.hok I.kIn t
    have hz' : (tupleText (PyData.shownAll ps)).length ≤ sizeLine := by simpa only [PyData.shown] using hz
    exact tl_tup k1 k2 k3 (tell_tlL I g ds ps vs us h1 r rv (by simpa [PyData.showable] using hs) fun t ht => Nat.le_trans (tupleText_mem_le ht) hz') hz'
  | .dct ks, p, v, u, e, ⟨a, kvs, e1, t, _, r⟩, ru, hs, hz => by
    obtain ⟨l, h1, rfl⟩ := Option.map_eq_some_iff.mp (show (tellP S ks).map .dict = some p from e)
    subst e1
    cases (show u = Value.ref a from ru)
    obtain ⟨_, hsys, vs, rv, o, es, ep, ho, hx, hd, _, hp, _⟩ := dk_rd I.hok t
    have hz' : (dictText (PyData.shownKv l)).length ≤ sizeLine := by simpa only [PyData.shown] using hz
    obtain ⟨z1, z2⟩ := tell_tlP I g ks l kvs vs es.toList h1 r rv hp (by simpa [PyData.showable] using hs) fun t ht => Nat.le_trans (dictText_mem_le ht) hz'
    exact tl_dict ho hx.1 hd hsys z1 z2 hz'
  | .non, p, v, u, e, r, ru, hs, hz => tell_base I g (by unfold tellD at e; exact e) r ru hs hz
  | .bl _, p, v, u, e, r, ru, hs, hz => tell_base I g (by unfold tellD at e; exact e) r ru hs hz
  | .int _, p, v, u, e, r, ru, hs, hz => tell_base I g (by unfold tellD at e; exact e) r ru hs hz
  | .str _, p, v, u, e, r, ru, hs, hz => tell_base I g (by unfold tellD at e; exact e) r ru hs hz
  | .ty _, p, v, u, e, r, ru, hs, hz => tell_base I g (by unfold tellD at e; exact e) r ru hs hz
  | .glo _, p, v, u, e, r, ru, hs, hz => tell_base I g (by unfold tellD at e; exact e) r ru hs hz
  | .obj _ _, p, v, u, e, r, ru, hs, hz => tell_base I g (by unfold tellD at e; exact e) r ru hs hz
  | .exn _ _, p, v, u, e, r, ru, hs, hz => tell_base I g (by unfold tellD at e; exact e) r ru hs hz
  | .ref _, p, v, u, e, r, ru, hs, hz => tell_base I g (by unfold tellD at e; exact e) r ru hs hz
  | .clo _ _, p, v, u, e, r, ru, hs, hz => r.elim
theorem tell_tlL (I : L2.Inv X pins σ H s) (g : Good X.K ρ S H) : ∀ (ds : List D) (ps : List PyData) (vs : List V) (us : List Value), tellL S ds = some ps → RpL X.K ρ H ds vs → Vals vs us → PyData.showableAll ps = true → (∀ t ∈ PyData.shownAll ps, t.length ≤ sizeLine) → TlA X.prog X.w s.heap us ps
  | [], ps, vs, us, e, r, rv, _, _ => by
    cases e
    cases (show vs = [] from r)
    cases rv
    exact tlA_nil
  | d :: ds, ps, _, us, e, ⟨v, ws, e1, r, rr⟩, rv, hs, hz => by
    subst e1
    unfold tellL at e
    split at e
    · rename_i p qs h1 h2
      cases e
      cases rv with
      | cons ru rv =>
        have hs' : p.showable = true ∧ PyData.showableAll qs = true := by simpa [PyData.showableAll] using hs
        exact tlA_cons (tell_tl I g d p v _ h1 r ru hs'.1 (hz _ (by simp only [PyData.shownAll]; exact List.mem_cons_self ..))) (tell_tlL I g ds qs ws _ h2 rr rv hs'.2 fun t ht => hz t (by simp only [PyData.shownAll]; exact List.mem_cons_of_mem _ ht))
    · cases e
theorem tell_tlP (I : L2.Inv X pins σ H s) (g : Good X.K ρ S H) : ∀ (ks : List (D × D)) (l : List (PyData × PyData)) (kvs : List (Key × V)) (vs : List (Key × Value)) (es : List DictEntry), tellP S ks = some l → RpP X.K ρ H ks kvs → KV kvs vs → Pairs (mixKind X.prog X.w) es vs → PyData.showableKv l = true →
    (∀ t ∈ PyData.shownKv l, t.length ≤ sizeLine) → TlA X.prog X.w s.heap (es.map (·.key)) (l.map (·.1)) ∧ TlA X.prog X.w s.heap (es.map (·.val)) (l.map (·.2))
  | [], l, kvs, vs, es, e, r, rv, hp, _, _ => by
    cases e
    cases (show kvs = [] from r)
    unfold KV at rv
    cases rv
    cases hp
    exact ⟨tlA_nil, tlA_nil⟩
  | (k, d) :: ks, l, _, vs, es, e, ⟨q, v, ws, e1, e2, r1, r2⟩, rv, hp, hs, hz => by
    subst e1
    unfold tellP at e
    split at e
    · rename_i q' a b l' h1 h2 h3 h4
      cases e
      unfold KV at rv
      cases rv with
      | @cons _ b' _ bs hx ht =>
        obtain ⟨x1, x2⟩ := hx
        cases hp with
        | @cons en _ es' _ y1 y2 y3 =>
          have hs' : (a.showable = true ∧ b.showable = true) ∧ PyData.showableKv l' = true := by simpa [PyData.showableKv] using hs
          have hab : (PyData.shown a ++ ": " ++ PyData.shown b).length ≤ sizeLine := hz _ (by simp only [PyData.shownKv]; exact List.mem_cons_self ..)
          rw [strLen_append, strLen_append] at hab
          obtain ⟨z1, z2⟩ := tell_tlP I g ks l' ws bs es' h4 r2 ht y3 hs'.2 fun t m => hz t (by simp only [PyData.shownKv]; exact List.mem_cons_of_mem _ m)
          have y1 : keyIs b'.1 en.key = true := y1
          rw [← (show q = b'.1 from x1)] at y1
          have rk : Reads s.heap en.key a [] := by
            rcases keyIs_shape y1 with ⟨i, t, ei, ev⟩ | ⟨i, t, ei, ev⟩
            · rw [ev]
              cases k <;> cases e2 <;> cases ei
              cases h2
              exact .int _ _
            · rw [ev]
              cases k <;> cases e2 <;> cases ei
              cases h2
              exact .str _ _
          have nd : a.hasDict = false := by
            cases k <;> cases h2 <;> simp only [PyData.hasDict]
          have l1 : (PyData.shown a).length ≤ sizeLine := by omega
          have l2 : (PyData.shown b).length ≤ sizeLine := by omega
          refine ⟨tlA_cons (tl_base rk hs'.1.1 nd l1) z1, tlA_cons ?_ z2⟩
          show Tl X.prog X.w s.heap en.val b
          rw [y2]
          exact tell_tl I g d b v _ h3 r1 x2 hs'.1.2 l2
    · cases e
end
def rReprN (K : PySem.W.Frag) : List V → Hp → VK → Prop := fun xs H Q => ∃ x p ρ S d, xs = [x] ∧ Good K ρ S H ∧ Rp K ρ H d x ∧ tellD S d = some p ∧ p.showable = true ∧ p.shown.length ≤ sizeLine ∧ p.depth ≤ 60 ∧ Q (.str p.shown) H
theorem call_reprN {X : Cx} (gd : X.A.guards = some []) (hu : X.A.units + 64 < cLine) : CallR X (.builtin "repr") (rReprN X.K) := by
  intro pins s σ H xs us Q I r ⟨x, p, ρ, S, d, e, g, rp, tv, hs, hz, hd, q⟩
  subst e
  obtain ⟨u, rfl, ru⟩ := vals1 r
  have T := tell_tl I g d p x u tv rp ru hs hz
  obtain ⟨as, bs, rd, _, _⟩ := T.rd
  have fin : ∀ (h' : Heap) (t : Tok) (tk : Nat), (∀ b o, s.heap.get? b = some o → h'.get? b = some o) → EP X pins σ Q (.str p.shown t) { s with heap := h', toks := tk } := fun h' t tk hk =>
    ⟨.str p.shown, H, I.un (Un.kept hk) (I.hok.kept hk), ⟨t, rfl⟩, q⟩
  have ofRef : ∀ a, u = .ref a → wpAny (model X.prog X.w) X.A (call (.builtin "repr") [u]) (EP X pins σ Q) X.xe s := fun a e => by
    obtain ⟨T', idr, Sh⟩ := T.sh a e
    subst e
    exact call_repr_slot (by omega) (Sh.typeIs s fun _ _ z => z) Sh.slotRepr (Sh.call X.A.in1 X.xe s _ gd (by show X.A.units + 1 + p.depth < cLine; omega) (fun _ _ z => z) fun h' t tk hk => ⟨_, _, rfl, fin h' t tk hk⟩)
  cases rd with
  | none => exact PySem.P.repr_of_none (by simpa only [PyData.shown] using fin s.heap _ _ fun _ _ z => z)
  | bool b => exact PySem.P.repr_of_bool (by simpa only [PyData.shown] using fin s.heap _ _ fun _ _ z => z)
  | int i t => exact PySem.P.repr_of_int (by simpa [PyData.showable] using hs) (by simpa only [PyData.shown] using fin s.heap _ _ fun _ _ z => z)
  | str x t => exact PySem.P.repr_of_str (by simpa only [PyData.shown] using fin s.heap _ _ fun _ _ z => z) (by simpa only [PyData.shown] using hz)
  | list h1 h2 h3 h4 => exact ofRef _ rfl
  | tuple h1 h2 h3 h4 => exact ofRef _ rfl
  | dict h1 h2 h3 h4 h5 => exact ofRef _ rfl
theorem ca_reprN {K : PySem.W.Frag} {W : WX} : CaG K W (rReprN K) bReprN := fun n ρ S H σ ds vs Q g r h => by
  unfold bReprN at h
  split at h
  · rename_i d
    obtain ⟨v, rfl, r1⟩ := r.sole
    split at h
    · rename_i p hp
      split at h
      · rename_i hz
        exact ⟨v, p, ρ, S, d, rfl, g, r1, hp, hz.1, hz.2.1, hz.2.2, h.val g rfl⟩
      · exact False.elim h
    · exact False.elim h
  · exact False.elim h
end
end G

/-! a != b, lists of equal data, dicts among them -/
namespace PySem.SeqAt
open AutoSeq1 (wpAny_loadPart')
open MeetsSeq MeetsSeq2 MeetsSeq3 SeqRoads2
section
variable {P : Program} {w : World}
theorem g_neLoop (x y : Addr) (us vs : Array Value) (nu nv : Nat) (du dv : Option Addr) (su sv : Array (Option Value)) (hz : us.size = vs.size) : ∀ (k i : Nat), us.size - i = k → MeetsIn P w (Builtin.«list.__eq__.loop» ⟨[.ref x, .ref y, rawInt i, rawInt 3], []⟩)
    (fun A R s => (s.heap.get? x = some { cls := .type "list", dict := du, data := .seq us nu, slots := su } ∧ s.heap.get? y = some { cls := .type "list", dict := dv, data := .seq vs nv, slots := sv }) ∧
      (∀ j (q1 : j < us.size) (q2 : j < vs.size), EqP P w A.in1 s us[j] vs[j] true) ∧ R (.ok (.ret (.bool false))) s) := by
  intro k
  induction k with
  | zero =>
    intro i hk A R s ⟨⟨hx, hy⟩, _, hR⟩
    obtain ⟨hp, g, d, tk, os⟩ := s
    wp_walk using wpAny_loadPart' hx, wpAny_loadPart' hy
    have z1 : us[((i : Nat) : Int).toNat]? = none := by simp; omega
    have z2 : vs[((i : Nat) : Int).toNat]? = none := by simp; omega
    rw [z1, z2]
    wp_walk using wpAny_loadPart' hx, wpAny_loadPart' hy
    show R (.ok (.ret (.bool (us.size != vs.size)))) _
    rw [hz]
    simpa using hR
  | succ k ih =>
    intro i hk A R s ⟨⟨hx, hy⟩, he, hR⟩
    obtain ⟨hp, g, d, tk, os⟩ := s
    wp_walk using wpAny_loadPart' hx, wpAny_loadPart' hy
    have l1 : i < us.size := by omega
    have l2 : i < vs.size := by omega
    have z1 : us[((i : Nat) : Int).toNat]? = some us[i] := by simp [l1]
    have z2 : vs[((i : Nat) : Int).toNat]? = some vs[i] := by simp [l2]
    have hc : ((i : Int) + 1) = ((i + 1 : Nat) : Int) := by push_cast; rfl
    rw [z1, z2]
    refine wpAny_bind (he i l1 l2 _ _ ?_)
    wp_walk
    rw [hc]
    exact ⟨plainId_quiet plain_eq_loop _, codeAny_builtin entry_eq_loop (by
      rw [Around.under_plainId plain_eq_loop _]
      exact ih (i + 1) (by omega) A R _ ⟨⟨hx, hy⟩, he, hR⟩)⟩
theorem g_ne (x y : Addr) (us vs : Array Value) (nu nv : Nat) (du dv : Option Addr) (su sv : Array (Option Value)) (hz : us.size = vs.size) : MeetsIn P w (Builtin.«list.__ne__» ⟨[.ref x, .ref y], []⟩)
    (fun A R s => (s.heap.get? x = some { cls := .type "list", dict := du, data := .seq us nu, slots := su } ∧ s.heap.get? y = some { cls := .type "list", dict := dv, data := .seq vs nv, slots := sv }) ∧
      (∀ j (q1 : j < us.size) (q2 : j < vs.size), EqP P w A.in1 s us[j] vs[j] true) ∧ R (.ok (.ret (.bool false))) s) := by
  intro A R s ⟨⟨hx, hy⟩, he, hR⟩
  obtain ⟨hp, g, d, tk, os⟩ := s
  have f3 := AutoSeq1.sub_list_list
  have nz : ¬ (us.size != vs.size) = true := by simp [hz]
  wp_walk using wpAny_loadPart' hx, wpAny_loadPart' hy
  exact ⟨plainId_quiet plain_eq_loop _, codeAny_builtin entry_eq_loop (by
    rw [Around.under_plainId plain_eq_loop _]
    exact g_neLoop x y us vs nu nv du dv su sv hz _ 0 rfl A R _ ⟨⟨hx, hy⟩, he, hR⟩)⟩
theorem g_neLists {A : Around} {s : Shared} {x y : Addr} {us vs : Array Value} (hx : s.heap.IsList x us) (hy : s.heap.IsList y vs) (hz : us.size = vs.size) (hu : A.units < cLine) (he : ∀ j (q1 : j < us.size) (q2 : j < vs.size), EqP P w A.in1 s us[j] vs[j] true)
    (E Q : Value → Shared → Prop) (q : Q (.bool false) s) : wpAny (model P w) A (richCompare .NotEq (.ref x) (.ref y)) Q E s := by
  obtain ⟨⟨cu, du, dau, su⟩, hx, e1, nu, e2⟩ := hx
  obtain ⟨⟨cv, dv, dav, sv⟩, hy, e3, nv, e4⟩ := hy
  simp only at e1 e2 e3 e4
  subst e1 e2 e3 e4
  have tx : s.TypeIs (.ref x) "list" := ⟨_, hx, rfl⟩
  have ty : s.TypeIs (.ref y) "list" := ⟨_, hy, rfl⟩
  exact wpAny_richCompare_same_room (op := .NotEq) tx ty F.slot_list_ne (call_meetsIn F.slot_list_ne tx F.entry_list_ne (F.args_list_ne_2 _ _) (g_ne x y us vs nu nv du dv su sv hz)
    ⟨⟨hx, hy⟩, he, show Value.bool false ≠ Value.notImplemented ∧ Q (.bool false) s from ⟨(fun z => nomatch z), q⟩⟩) hu
end
end PySem.SeqAt
namespace G
open PySem PySem.Spec PyProof.Rows L2
/-- equal, of nesting below n: flat, plain data, lists, dicts -/
def EqRW (K : PySem.W.Frag) (H : Hp) (E : V → V → Prop) (x y : V) : Prop :=
  (∃ a b xs ys, x = .ref a ∧ y = .ref b ∧ SqL K H a xs ∧ SqL K H b ys ∧ Paired E xs ys) ∨
    ∃ a b ks ls, x = .ref a ∧ y = .ref b ∧ Rd H a (.dK ks) ∧ Rd H b (.dK ls) ∧ ks.length = ls.length ∧ ∀ p ∈ ks, ∃ u, valV ls p.1 = some u ∧ E p.2 u
def EqW (K : PySem.W.Frag) (H : Hp) : Nat → V → V → Prop
  | 0 => fun _ _ => False
  | n + 1 => fun x y => (∃ p q, Dp K H x p ∧ Dp K H y q ∧ p.canLay0 = true ∧ q.canLay0 = true ∧ p.depth ≤ 40 ∧ PyData.eqv p q = true) ∨ EqRW K H (EqW K H n) x y
section
variable {X : Cx} {pins : List (Addr × Obj)} {σ : L2.St} {H : Hp} {s : Shared}
theorem eqRW_run (I : L2.Inv X pins σ H s) {A : Around} {F : V → V → Prop} (hu : A.units < cLine) (ih : ∀ x y v u, F x y → RelV x v → RelV y u → SeqAt.EqP X.prog X.w A.in1 s v u true) {x y : V} {v u : Value} (h : EqRW X.K H F x y) (rx : RelV x v) (ry : RelV y u)
    (E Q : Value → Shared → Prop) (q : Q (.bool true) s) : wpAny (model X.prog X.w) A (richCompare .Eq v u) Q E s := by
  rcases h with ⟨a, b, xs, ys, rfl, rfl, ha, hb, hp⟩ | ⟨a, b, ks, ls, rfl, rfl, ha, hb, hl, hp⟩
  · cases (show v = Value.ref a from rx)
    cases (show u = Value.ref b from ry)
    obtain ⟨us, r1, p1, _⟩ := I.list ha
    obtain ⟨ws, r2, p2, _⟩ := I.list hb
    have hz : us.toArray.size = ws.toArray.size := by
      rw [List.size_toArray, List.size_toArray, ← r1.length, ← r2.length]
      exact Paired.length hp
    refine SeqAt.rcP_lists (e := fun _ => true) p1.isList p2.isList hz hu (fun j q1 q2 => by simpa using items_run ih hp r1 r2 j (by simpa using q1) (by simpa using q2)) E Q ?_
    rw [show ((List.range us.toArray.size).all fun _ => true) = true from List.all_eq_true.mpr fun _ _ => rfl]
    exact q
  · cases (show v = Value.ref a from rx)
    cases (show u = Value.ref b from ry)
    obtain ⟨_, ya, va, ra, da⟩ := dk_rd I.hok ha
    obtain ⟨_, yb, vb, rb, db⟩ := dk_rd I.hok hb
    refine PySem.W.rcP_dicts (knd := mixKind X.prog X.w) (r := true) ya yb da db hu (fun _ => hits_run ih rb ra hp) E Q ?_
    have e : va.length = vb.length := by rw [← ra.length, ← rb.length]; exact hl
    rw [show (va.length == vb.length && true) = true from by rw [e]; simp]
    exact q
theorem eqW_run (I : L2.Inv X pins σ H s) : ∀ (n : Nat) (A : Around), A.units + n + 40 < cLine → ∀ (x y : V) (v u : Value), EqW X.K H n x y → RelV x v → RelV y u → SeqAt.EqP X.prog X.w A s v u true
  | 0, _, _, _, _, _, _, h, _, _ => (show False from h).elim
  | n + 1, A, hu, x, y, v, u, h, rx, ry => by
    rcases h with ⟨p, q, h1, h2, c1, c2, hd, he⟩ | h
    · obtain ⟨as, r1⟩ := Dp.reads I p x v h1 rx
      obtain ⟨bs, r2⟩ := Dp.reads I q y u h2 ry
      rw [← he]
      exact (SeqAt.eqAt_reads p q A s v u as bs r1 r2 c1 c2 (by have := Nat.min_le_left p.depth q.depth; omega)).eqP
    · have step := eqRW_run I (A := A) (by omega) (eqW_run I n A.in1 (by show A.units + 1 + n + 40 < cLine; omega)) h rx ry
      obtain ⟨a, b, rfl, rfl⟩ : ∃ a b, x = .ref a ∧ y = .ref b := by
        rcases h with ⟨a, b, _, _, e1, e2, _⟩ | ⟨a, b, _, _, e1, e2, _⟩ <;> exact ⟨a, b, e1, e2⟩
      cases (show v = Value.ref a from rx)
      cases (show u = Value.ref b from ry)
      by_cases e : a = b
      · subst e
        exact (SeqAt.EqAt.same _).eqP
      · exact SeqAt.eqP_refs e step
end
def rNeW (K : PySem.W.Frag) : R2 := fun x y H Q => ∃ a b xs ys n, x = .ref a ∧ y = .ref b ∧ SqL K H a xs ∧ SqL K H b ys ∧ n ≤ 20 ∧ Paired (EqW K H n) xs ys ∧ Q (.bl false) H
theorem op_neW {X : Cx} (hu : X.A.units + 64 < cLine) : OpR X (compareOp .NotEq) (rNeW X.K) := by
  intro pins s σ H x y v u Q I rx ry ⟨a, b, xs, ys, n, e1, e2, h1, h2, hn, hp, q⟩
  subst e1; subst e2
  cases (show v = Value.ref a from rx)
  cases (show u = Value.ref b from ry)
  obtain ⟨us, r1, p1, _⟩ := I.list h1
  obtain ⟨ws, r2, p2, _⟩ := I.list h2
  have hz : us.toArray.size = ws.toArray.size := by
    rw [List.size_toArray, List.size_toArray, ← r1.length, ← r2.length]
    exact Paired.length hp
  exact SeqAt.g_neLists p1.isList p2.isList hz (by omega) (fun j q1 q2 => by simpa using items_run (eqW_run I n X.A.in1 (by show X.A.units + 1 + n + 40 < cLine; omega)) hp r1 r2 j (by simpa using q1) (by simpa using q2)) _ _ ⟨.bl false, H, I, rfl, q⟩
def allB (f : D → D → Bool) : List D → List D → Bool
  | [], [] => true
  | a :: as, b :: bs => f a b && allB f as bs
  | _, _ => false
def allK (f : D → D → Bool) : List (D × D) → List (D × D) → Bool
  | [], [] => true
  | (k, a) :: as, (l, b) :: bs => decide (keyD k = keyD l) && ((keyD k).isSome && (f a b && allK f as bs))
  | _, _ => false
def sameD (S : Store) : Nat → D → D → Bool
  | 0, _, _ => false
  | n + 1, x, y => (match toPy S x, toPy S y with
    | some p, some q => p.canLay0 && (q.canLay0 && (decide (p.depth ≤ 40) && PyData.eqv p q))
    | _, _ => false) || match x, y with
    | .lst as, .lst bs => allB (sameD S n) as bs
    | .dct as, .dct bs => allK (sameD S n) as bs && keysOk as
    | _, _ => false
section
variable {K : PySem.W.Frag} {ρ : Ad} {S : Store} {H : Hp} {W : WX}
theorem allB_rp {f : D → D → Bool} {F : V → V → Prop} (hf : ∀ x y v u, f x y = true → Rp K ρ H x v → Rp K ρ H y u → F v u) : ∀ (as bs : List D) (vs us : List V), allB f as bs = true → RpL K ρ H as vs → RpL K ρ H bs us → Paired F vs us
  | [], [], vs, us, _, r1, r2 => by
    cases (show vs = [] from r1)
    cases (show us = [] from r2)
    exact .nil
  | a :: as, b :: bs, _, _, e, ⟨v, vs, e1, h1, r1⟩, ⟨u, us, e2, h2, r2⟩ => by
    subst e1; subst e2
    simp only [allB, Bool.and_eq_true] at e
    exact .cons (hf a b v u e.1 h1 h2) (allB_rp hf as bs vs us e.2 r1 r2)
theorem allK_rp {f : D → D → Bool} {F : V → V → Prop} (hf : ∀ x y v u, f x y = true → Rp K ρ H x v → Rp K ρ H y u → F v u) : ∀ (as bs : List (D × D)) (vs us : List (Key × V)), allK f as bs = true → RpP K ρ H as vs → RpP K ρ H bs us → Paired (fun p q => p.1 = q.1 ∧ F p.2 q.2) vs us
  | [], [], vs, us, _, r1, r2 => by
    cases (show vs = [] from r1)
    cases (show us = [] from r2)
    exact .nil
  | (k, a) :: as, (l, b) :: bs, _, _, e, ⟨q, v, vs, e1, y1, h1, r1⟩, ⟨q', u, us, e2, y2, h2, r2⟩ => by
    subst e1; subst e2
    simp only [allK, Bool.and_eq_true, decide_eq_true_eq] at e
    refine .cons ⟨?_, hf a b v u e.2.2.1 h1 h2⟩ (allK_rp hf as bs vs us e.2.2.2 r1 r2)
    have := e.1
    rw [y1, y2] at this
    exact Option.some.inj this
theorem valV_paired {F : V → V → Prop} : ∀ (vs us : List (Key × V)), Paired (fun p q => p.1 = q.1 ∧ F p.2 q.2) vs us → (vs.map (·.1)).Nodup → ∀ p ∈ vs, ∃ u, valV us p.1 = some u ∧ F p.2 u
  | _, _, .nil, _, p, hp => absurd hp (by simp)
  | p0 :: vs, q0 :: us, .cons h t, nd, p, hp => by
    rw [List.map_cons, List.nodup_cons] at nd
    rcases List.mem_cons.mp hp with e | e
    · subst e
      exact ⟨q0.2, valV_pos h.1.symm, h.2⟩
    · obtain ⟨u, h1, h2⟩ := valV_paired vs us t nd.2 p e
      refine ⟨u, ?_, h2⟩
      rw [valV_neg fun z => nd.1 (by rw [h.1, z]; exact List.mem_map.mpr ⟨p, e, rfl⟩)]
      exact h1
theorem keys_rp : ∀ (ds : List (D × D)) (vs : List (Key × V)) (ks : List Key), RpP K ρ H ds vs → keysD ds = some ks → vs.map (·.1) = ks
  | [], vs, ks, r, e => by
    cases e
    cases (show vs = [] from r)
    rfl
  | (k, d) :: ds, _, ks, ⟨q, v, ws, e1, y, _, r⟩, e => by
    subst e1
    unfold keysD at e
    rw [List.mapM_cons] at e
    dsimp only at e
    rw [y] at e
    cases h2 : List.mapM (fun p : D × D => keyD p.1) ds with
    | none => rw [h2] at e; cases e
    | some qs =>
      rw [h2] at e
      cases e
      rw [List.map_cons, keys_rp ds ws qs r h2]
theorem same_rp (g : Good K ρ S H) : ∀ (n : Nat) (x y : D) (v u : V), sameD S n x y = true → Rp K ρ H x v → Rp K ρ H y u → EqW K H n v u
  | 0, _, _, _, _, e, _, _ => by cases e
  | n + 1, x, y, v, u, e, rx, ry => by
    unfold sameD at e
    rcases Bool.or_eq_true _ _ ▸ e with e | e
    · split at e
      · rename_i p q h1 h2
        simp only [Bool.and_eq_true, decide_eq_true_eq] at e
        exact .inl ⟨p, q, toPy_dp g x p v h1 rx, toPy_dp g y q u h2 ry, e.1, e.2.1, e.2.2.1, e.2.2.2⟩
      · cases e
    · split at e
      · obtain ⟨a, vs, rfl, ta, ra⟩ := rx
        obtain ⟨b, us, rfl, tb, rb⟩ := ry
        exact .inr (.inl ⟨a, b, vs, us, rfl, rfl, ta.sq, tb.sq, allB_rp (same_rp g n) _ _ vs us e ra rb⟩)
      · rename_i as bs
        obtain ⟨a, vs, rfl, ta, _, ra⟩ := rx
        obtain ⟨b, us, rfl, tb, _, rb⟩ := ry
        simp only [Bool.and_eq_true] at e
        have pr := allK_rp (same_rp g n) _ _ vs us e.1 ra rb
        have nd : (vs.map (·.1)).Nodup := by
          have e2 := e.2
          unfold keysOk at e2
          split at e2
          · rename_i ks hk
            simp only [Bool.and_eq_true, decide_eq_true_eq] at e2
            rw [keys_rp _ vs ks ra hk]
            exact e2.1
          · cases e2
        exact .inr (.inr ⟨a, b, vs, us, rfl, rfl, ta, tb, Paired.length pr, valV_paired vs us pr nd⟩)
      · cases e
def dNeF : Op2 := fun x y S => match x, y with
  | .lst as, .lst bs => if allB (sameD S 6) as bs = true then .ok (.bl false) S else .bad
  | _, _ => .bad
theorem og_neW : OpG K W (rNeW K) dNeF := fun n ρ S H σ dx dy x y Q g rx ry h => by
  unfold dNeF at h
  split at h
  · rename_i as bs
    split at h
    · rename_i e
      obtain ⟨a, vs, rfl, ta, ra⟩ := rx
      obtain ⟨b, us, rfl, tb, rb⟩ := ry
      exact ⟨a, b, vs, us, 6, rfl, rfl, ta.sq, tb.sq, by omega, allB_rp (same_rp g 6) _ _ vs us e ra rb, h.val g rfl⟩
    · exact False.elim h
  · exact False.elim h
/-- texts of any signs -/
def dNeS : Op2 := fun x y S => match x, y with
  | .str a, .str b => .ok (.bl (a != b)) S
  | _, _ => .bad
theorem op_neS {X : Cx} : OpR X (compareOp .NotEq) (fun x y H Q => ∃ a b, x = .str a ∧ y = .str b ∧ Q (.bl (a != b)) H) := by
  intro pins s σ H x y v u Q I rx ry ⟨a, b, e1, e2, q⟩
  subst e1; subst e2
  obtain ⟨t, rfl⟩ := rx
  obtain ⟨t', rfl⟩ := ry
  exact PyProof.Rows.ne_str ⟨.bl (a != b), H, I, rfl, q⟩
theorem og_neS : OpG K W (fun x y H Q => ∃ a b, x = .str a ∧ y = .str b ∧ Q (.bl (a != b)) H) dNeS := fun n ρ S H σ dx dy x y Q g rx ry h => by
  unfold dNeS at h
  split at h
  · cases rx; cases ry
    exact ⟨_, _, rfl, rfl, h.val g rfl⟩
  · exact False.elim h
def uNeX : Op2 := orOp dNeF (orOp (dEq true) dNeS)
theorem rl_neX {X : Cx} (hu : X.A.units + 64 < cLine) : Rl X W (compareOp .NotEq) uNeX := Rl.or ⟨_, op_neW hu, og_neW⟩ (Rl.or ⟨_, op_neD hu, og_neD⟩ ⟨_, op_neS, og_neS⟩)
end
end G

namespace Lk07
open PySem PySem.Spec PyProof.Rows L2 G
/-! ### the text -/
def top (i : Nat) : Stmt := PySem.Challenge.pw_asbefore_k07_errors_made.main.body.getD i (.Pass ⟨0, 0, 0, 0⟩)
/-! ### what it does -/
def isT : IsTb := []
def isE : IsTb := [(((true, "BadPopulation"), (true, "BadName")), false), (((true, "BadPopulation"), (true, "BadCost")), false), (((true, "BadPopulation"), (true, "BadStep")), false), (((true, "BadPopulation"), (true, "BadBoard")), false), (((true, "BadPopulation"), (true, "BadLine")), false), (((true, "BadPopulation"), (true, "BadGuard")), false), (((true, "BadPopulation"), (true, "Nested")), false), (((true, "BadPopulation"), (true, "TooMany")), false), (((true, "BadPopulation"), (true, "OtherBoard")), false), (((true, "BadPopulation"), (true, "OpenFlow")), false), (((true, "BadPopulation"), (true, "BadPopulation")), true), (((true, "BadPopulation"), (true, "BadOrder")), false), (((true, "BadPopulation"), (true, "BadSubject")), false), (((true, "BadPopulation"), (true, "BadSizes")), false), (((true, "BadPopulation"), (true, "BadLast")), false), (((true, "BadPopulation"), (true, "NoOrder")), false), (((true, "BadPopulation"), (true, "Unknown")), false), (((true, "BadPopulation"), (true, "NoCell")), false), (((true, "BadPopulation"), (true, "Running")), false), (((true, "BadPopulation"), (true, "Refusal")), false), (((true, "BadPopulation"), (true, "Refused")), false), (((true, "BadPopulation"), (true, "Stuck")), false), (((true, "BadPopulation"), (true, "AsBeforeError")), true), (((true, "BadPopulation"), (false, "ValueError")), true), (((true, "BadPopulation"), (false, "LookupError")), false), (((true, "BadPopulation"), (false, "RuntimeError")), false), (((true, "BadPopulation"), (false, "KeyError")), false), (((true, "BadPopulation"), (false, "IndexError")), false), (((true, "Stuck"), (true, "BadName")), false), (((true, "Stuck"), (true, "BadCost")), false), (((true, "Stuck"), (true, "BadStep")), false), (((true, "Stuck"), (true, "BadBoard")), false), (((true, "Stuck"), (true, "BadLine")), false), (((true, "Stuck"), (true, "BadGuard")), false), (((true, "Stuck"), (true, "Nested")), false), (((true, "Stuck"), (true, "TooMany")), false), (((true, "Stuck"), (true, "OtherBoard")), false), (((true, "Stuck"), (true, "OpenFlow")), false), (((true, "Stuck"), (true, "BadPopulation")), false), (((true, "Stuck"), (true, "BadOrder")), false), (((true, "Stuck"), (true, "BadSubject")), false), (((true, "Stuck"), (true, "BadSizes")), false), (((true, "Stuck"), (true, "BadLast")), false), (((true, "Stuck"), (true, "NoOrder")), false), (((true, "Stuck"), (true, "Unknown")), false), (((true, "Stuck"), (true, "NoCell")), false), (((true, "Stuck"), (true, "Running")), false), (((true, "Stuck"), (true, "Refusal")), false), (((true, "Stuck"), (true, "Refused")), false), (((true, "Stuck"), (true, "Stuck")), true), (((true, "Stuck"), (true, "AsBeforeError")), false), (((true, "Stuck"), (false, "ValueError")), false), (((true, "Stuck"), (false, "LookupError")), false), (((true, "Stuck"), (false, "RuntimeError")), true), (((true, "Stuck"), (false, "KeyError")), false), (((true, "Stuck"), (false, "IndexError")), false), (((true, "BadName"), (true, "BadName")), true), (((true, "BadName"), (true, "BadCost")), false), (((true, "BadName"), (true, "BadStep")), false), (((true, "BadName"), (true, "BadBoard")), false), (((true, "BadName"), (true, "BadLine")), false), (((true, "BadName"), (true, "BadGuard")), false), (((true, "BadName"), (true, "Nested")), false), (((true, "BadName"), (true, "TooMany")), false), (((true, "BadName"), (true, "OtherBoard")), false), (((true, "BadName"), (true, "OpenFlow")), false), (((true, "BadName"), (true, "BadPopulation")), false), (((true, "BadName"), (true, "BadOrder")), false), (((true, "BadName"), (true, "BadSubject")), false), (((true, "BadName"), (true, "BadSizes")), false), (((true, "BadName"), (true, "BadLast")), false), (((true, "BadName"), (true, "NoOrder")), false), (((true, "BadName"), (true, "Unknown")), false), (((true, "BadName"), (true, "NoCell")), false), (((true, "BadName"), (true, "Running")), false), (((true, "BadName"), (true, "Refusal")), false), (((true, "BadName"), (true, "Refused")), false), (((true, "BadName"), (true, "Stuck")), false), (((true, "BadName"), (true, "AsBeforeError")), true), (((true, "BadName"), (false, "ValueError")), true), (((true, "BadName"), (false, "LookupError")), false), (((true, "BadName"), (false, "RuntimeError")), false), (((true, "BadName"), (false, "KeyError")), false), (((true, "BadName"), (false, "IndexError")), false), (((true, "BadCost"), (true, "BadName")), false), (((true, "BadCost"), (true, "BadCost")), true), (((true, "BadCost"), (true, "BadStep")), false), (((true, "BadCost"), (true, "BadBoard")), false), (((true, "BadCost"), (true, "BadLine")), false), (((true, "BadCost"), (true, "BadGuard")), false), (((true, "BadCost"), (true, "Nested")), false), (((true, "BadCost"), (true, "TooMany")), false), (((true, "BadCost"), (true, "OtherBoard")), false), (((true, "BadCost"), (true, "OpenFlow")), false), (((true, "BadCost"), (true, "BadPopulation")), false), (((true, "BadCost"), (true, "BadOrder")), false), (((true, "BadCost"), (true, "BadSubject")), false), (((true, "BadCost"), (true, "BadSizes")), false), (((true, "BadCost"), (true, "BadLast")), false), (((true, "BadCost"), (true, "NoOrder")), false), (((true, "BadCost"), (true, "Unknown")), false), (((true, "BadCost"), (true, "NoCell")), false), (((true, "BadCost"), (true, "Running")), false), (((true, "BadCost"), (true, "Refusal")), false), (((true, "BadCost"), (true, "Refused")), false), (((true, "BadCost"), (true, "Stuck")), false), (((true, "BadCost"), (true, "AsBeforeError")), true), (((true, "BadCost"), (false, "ValueError")), true), (((true, "BadCost"), (false, "LookupError")), false), (((true, "BadCost"), (false, "RuntimeError")), false), (((true, "BadCost"), (false, "KeyError")), false), (((true, "BadCost"), (false, "IndexError")), false), (((true, "BadStep"), (true, "BadName")), false), (((true, "BadStep"), (true, "BadCost")), false), (((true, "BadStep"), (true, "BadStep")), true), (((true, "BadStep"), (true, "BadBoard")), false), (((true, "BadStep"), (true, "BadLine")), false), (((true, "BadStep"), (true, "BadGuard")), false), (((true, "BadStep"), (true, "Nested")), false), (((true, "BadStep"), (true, "TooMany")), false), (((true, "BadStep"), (true, "OtherBoard")), false), (((true, "BadStep"), (true, "OpenFlow")), false), (((true, "BadStep"), (true, "BadPopulation")), false), (((true, "BadStep"), (true, "BadOrder")), false), (((true, "BadStep"), (true, "BadSubject")), false), (((true, "BadStep"), (true, "BadSizes")), false), (((true, "BadStep"), (true, "BadLast")), false), (((true, "BadStep"), (true, "NoOrder")), false), (((true, "BadStep"), (true, "Unknown")), false), (((true, "BadStep"), (true, "NoCell")), false), (((true, "BadStep"), (true, "Running")), false), (((true, "BadStep"), (true, "Refusal")), false), (((true, "BadStep"), (true, "Refused")), false), (((true, "BadStep"), (true, "Stuck")), false), (((true, "BadStep"), (true, "AsBeforeError")), true), (((true, "BadStep"), (false, "ValueError")), true), (((true, "BadStep"), (false, "LookupError")), false), (((true, "BadStep"), (false, "RuntimeError")), false), (((true, "BadStep"), (false, "KeyError")), false), (((true, "BadStep"), (false, "IndexError")), false), (((true, "BadBoard"), (true, "BadName")), false), (((true, "BadBoard"), (true, "BadCost")), false), (((true, "BadBoard"), (true, "BadStep")), false), (((true, "BadBoard"), (true, "BadBoard")), true), (((true, "BadBoard"), (true, "BadLine")), false), (((true, "BadBoard"), (true, "BadGuard")), false), (((true, "BadBoard"), (true, "Nested")), false), (((true, "BadBoard"), (true, "TooMany")), false), (((true, "BadBoard"), (true, "OtherBoard")), false), (((true, "BadBoard"), (true, "OpenFlow")), false), (((true, "BadBoard"), (true, "BadPopulation")), false), (((true, "BadBoard"), (true, "BadOrder")), false), (((true, "BadBoard"), (true, "BadSubject")), false), (((true, "BadBoard"), (true, "BadSizes")), false), (((true, "BadBoard"), (true, "BadLast")), false), (((true, "BadBoard"), (true, "NoOrder")), false), (((true, "BadBoard"), (true, "Unknown")), false), (((true, "BadBoard"), (true, "NoCell")), false), (((true, "BadBoard"), (true, "Running")), false), (((true, "BadBoard"), (true, "Refusal")), false), (((true, "BadBoard"), (true, "Refused")), false), (((true, "BadBoard"), (true, "Stuck")), false), (((true, "BadBoard"), (true, "AsBeforeError")), true), (((true, "BadBoard"), (false, "ValueError")), true), (((true, "BadBoard"), (false, "LookupError")), false), (((true, "BadBoard"), (false, "RuntimeError")), false), (((true, "BadBoard"), (false, "KeyError")), false), (((true, "BadBoard"), (false, "IndexError")), false), (((true, "BadLine"), (true, "BadName")), false), (((true, "BadLine"), (true, "BadCost")), false), (((true, "BadLine"), (true, "BadStep")), false), (((true, "BadLine"), (true, "BadBoard")), false), (((true, "BadLine"), (true, "BadLine")), true), (((true, "BadLine"), (true, "BadGuard")), false), (((true, "BadLine"), (true, "Nested")), false), (((true, "BadLine"), (true, "TooMany")), false), (((true, "BadLine"), (true, "OtherBoard")), false), (((true, "BadLine"), (true, "OpenFlow")), false), (((true, "BadLine"), (true, "BadPopulation")), false), (((true, "BadLine"), (true, "BadOrder")), false), (((true, "BadLine"), (true, "BadSubject")), false), (((true, "BadLine"), (true, "BadSizes")), false), (((true, "BadLine"), (true, "BadLast")), false), (((true, "BadLine"), (true, "NoOrder")), false), (((true, "BadLine"), (true, "Unknown")), false), (((true, "BadLine"), (true, "NoCell")), false), (((true, "BadLine"), (true, "Running")), false), (((true, "BadLine"), (true, "Refusal")), false), (((true, "BadLine"), (true, "Refused")), false), (((true, "BadLine"), (true, "Stuck")), false), (((true, "BadLine"), (true, "AsBeforeError")), true), (((true, "BadLine"), (false, "ValueError")), true), (((true, "BadLine"), (false, "LookupError")), false), (((true, "BadLine"), (false, "RuntimeError")), false), (((true, "BadLine"), (false, "KeyError")), false), (((true, "BadLine"), (false, "IndexError")), false), (((true, "BadGuard"), (true, "BadName")), false), (((true, "BadGuard"), (true, "BadCost")), false), (((true, "BadGuard"), (true, "BadStep")), false), (((true, "BadGuard"), (true, "BadBoard")), false), (((true, "BadGuard"), (true, "BadLine")), false), (((true, "BadGuard"), (true, "BadGuard")), true), (((true, "BadGuard"), (true, "Nested")), false), (((true, "BadGuard"), (true, "TooMany")), false), (((true, "BadGuard"), (true, "OtherBoard")), false), (((true, "BadGuard"), (true, "OpenFlow")), false), (((true, "BadGuard"), (true, "BadPopulation")), false), (((true, "BadGuard"), (true, "BadOrder")), false), (((true, "BadGuard"), (true, "BadSubject")), false), (((true, "BadGuard"), (true, "BadSizes")), false), (((true, "BadGuard"), (true, "BadLast")), false), (((true, "BadGuard"), (true, "NoOrder")), false), (((true, "BadGuard"), (true, "Unknown")), false), (((true, "BadGuard"), (true, "NoCell")), false), (((true, "BadGuard"), (true, "Running")), false), (((true, "BadGuard"), (true, "Refusal")), false), (((true, "BadGuard"), (true, "Refused")), false), (((true, "BadGuard"), (true, "Stuck")), false), (((true, "BadGuard"), (true, "AsBeforeError")), true), (((true, "BadGuard"), (false, "ValueError")), true), (((true, "BadGuard"), (false, "LookupError")), false), (((true, "BadGuard"), (false, "RuntimeError")), false), (((true, "BadGuard"), (false, "KeyError")), false), (((true, "BadGuard"), (false, "IndexError")), false), (((true, "Nested"), (true, "BadName")), false), (((true, "Nested"), (true, "BadCost")), false), (((true, "Nested"), (true, "BadStep")), false), (((true, "Nested"), (true, "BadBoard")), false), (((true, "Nested"), (true, "BadLine")), false), (((true, "Nested"), (true, "BadGuard")), false), (((true, "Nested"), (true, "Nested")), true), (((true, "Nested"), (true, "TooMany")), false), (((true, "Nested"), (true, "OtherBoard")), false), (((true, "Nested"), (true, "OpenFlow")), false), (((true, "Nested"), (true, "BadPopulation")), false), (((true, "Nested"), (true, "BadOrder")), false), (((true, "Nested"), (true, "BadSubject")), false), (((true, "Nested"), (true, "BadSizes")), false), (((true, "Nested"), (true, "BadLast")), false), (((true, "Nested"), (true, "NoOrder")), false), (((true, "Nested"), (true, "Unknown")), false), (((true, "Nested"), (true, "NoCell")), false), (((true, "Nested"), (true, "Running")), false), (((true, "Nested"), (true, "Refusal")), false), (((true, "Nested"), (true, "Refused")), false), (((true, "Nested"), (true, "Stuck")), false), (((true, "Nested"), (true, "AsBeforeError")), true), (((true, "Nested"), (false, "ValueError")), true), (((true, "Nested"), (false, "LookupError")), false), (((true, "Nested"), (false, "RuntimeError")), false), (((true, "Nested"), (false, "KeyError")), false), (((true, "Nested"), (false, "IndexError")), false), (((true, "TooMany"), (true, "BadName")), false), (((true, "TooMany"), (true, "BadCost")), false), (((true, "TooMany"), (true, "BadStep")), false), (((true, "TooMany"), (true, "BadBoard")), false), (((true, "TooMany"), (true, "BadLine")), false), (((true, "TooMany"), (true, "BadGuard")), false), (((true, "TooMany"), (true, "Nested")), false), (((true, "TooMany"), (true, "TooMany")), true), (((true, "TooMany"), (true, "OtherBoard")), false), (((true, "TooMany"), (true, "OpenFlow")), false), (((true, "TooMany"), (true, "BadPopulation")), false), (((true, "TooMany"), (true, "BadOrder")), false), (((true, "TooMany"), (true, "BadSubject")), false), (((true, "TooMany"), (true, "BadSizes")), false), (((true, "TooMany"), (true, "BadLast")), false), (((true, "TooMany"), (true, "NoOrder")), false), (((true, "TooMany"), (true, "Unknown")), false), (((true, "TooMany"), (true, "NoCell")), false), (((true, "TooMany"), (true, "Running")), false), (((true, "TooMany"), (true, "Refusal")), false), (((true, "TooMany"), (true, "Refused")), false), (((true, "TooMany"), (true, "Stuck")), false), (((true, "TooMany"), (true, "AsBeforeError")), true), (((true, "TooMany"), (false, "ValueError")), true), (((true, "TooMany"), (false, "LookupError")), false), (((true, "TooMany"), (false, "RuntimeError")), false), (((true, "TooMany"), (false, "KeyError")), false), (((true, "TooMany"), (false, "IndexError")), false), (((true, "OtherBoard"), (true, "BadName")), false), (((true, "OtherBoard"), (true, "BadCost")), false), (((true, "OtherBoard"), (true, "BadStep")), false), (((true, "OtherBoard"), (true, "BadBoard")), false), (((true, "OtherBoard"), (true, "BadLine")), false), (((true, "OtherBoard"), (true, "BadGuard")), false), (((true, "OtherBoard"), (true, "Nested")), false), (((true, "OtherBoard"), (true, "TooMany")), false), (((true, "OtherBoard"), (true, "OtherBoard")), true), (((true, "OtherBoard"), (true, "OpenFlow")), false), (((true, "OtherBoard"), (true, "BadPopulation")), false), (((true, "OtherBoard"), (true, "BadOrder")), false), (((true, "OtherBoard"), (true, "BadSubject")), false), (((true, "OtherBoard"), (true, "BadSizes")), false), (((true, "OtherBoard"), (true, "BadLast")), false), (((true, "OtherBoard"), (true, "NoOrder")), false), (((true, "OtherBoard"), (true, "Unknown")), false), (((true, "OtherBoard"), (true, "NoCell")), false), (((true, "OtherBoard"), (true, "Running")), false), (((true, "OtherBoard"), (true, "Refusal")), false), (((true, "OtherBoard"), (true, "Refused")), false), (((true, "OtherBoard"), (true, "Stuck")), false), (((true, "OtherBoard"), (true, "AsBeforeError")), true), (((true, "OtherBoard"), (false, "ValueError")), true), (((true, "OtherBoard"), (false, "LookupError")), false), (((true, "OtherBoard"), (false, "RuntimeError")), false), (((true, "OtherBoard"), (false, "KeyError")), false), (((true, "OtherBoard"), (false, "IndexError")), false), (((true, "OpenFlow"), (true, "BadName")), false), (((true, "OpenFlow"), (true, "BadCost")), false), (((true, "OpenFlow"), (true, "BadStep")), false), (((true, "OpenFlow"), (true, "BadBoard")), false), (((true, "OpenFlow"), (true, "BadLine")), false), (((true, "OpenFlow"), (true, "BadGuard")), false), (((true, "OpenFlow"), (true, "Nested")), false), (((true, "OpenFlow"), (true, "TooMany")), false), (((true, "OpenFlow"), (true, "OtherBoard")), false), (((true, "OpenFlow"), (true, "OpenFlow")), true), (((true, "OpenFlow"), (true, "BadPopulation")), false), (((true, "OpenFlow"), (true, "BadOrder")), false), (((true, "OpenFlow"), (true, "BadSubject")), false), (((true, "OpenFlow"), (true, "BadSizes")), false), (((true, "OpenFlow"), (true, "BadLast")), false), (((true, "OpenFlow"), (true, "NoOrder")), false), (((true, "OpenFlow"), (true, "Unknown")), false), (((true, "OpenFlow"), (true, "NoCell")), false), (((true, "OpenFlow"), (true, "Running")), false), (((true, "OpenFlow"), (true, "Refusal")), false), (((true, "OpenFlow"), (true, "Refused")), false), (((true, "OpenFlow"), (true, "Stuck")), false), (((true, "OpenFlow"), (true, "AsBeforeError")), true), (((true, "OpenFlow"), (false, "ValueError")), true), (((true, "OpenFlow"), (false, "LookupError")), false), (((true, "OpenFlow"), (false, "RuntimeError")), false), (((true, "OpenFlow"), (false, "KeyError")), false), (((true, "OpenFlow"), (false, "IndexError")), false), (((true, "BadOrder"), (true, "BadName")), false), (((true, "BadOrder"), (true, "BadCost")), false), (((true, "BadOrder"), (true, "BadStep")), false), (((true, "BadOrder"), (true, "BadBoard")), false), (((true, "BadOrder"), (true, "BadLine")), false), (((true, "BadOrder"), (true, "BadGuard")), false), (((true, "BadOrder"), (true, "Nested")), false), (((true, "BadOrder"), (true, "TooMany")), false), (((true, "BadOrder"), (true, "OtherBoard")), false), (((true, "BadOrder"), (true, "OpenFlow")), false), (((true, "BadOrder"), (true, "BadPopulation")), false), (((true, "BadOrder"), (true, "BadOrder")), true), (((true, "BadOrder"), (true, "BadSubject")), false), (((true, "BadOrder"), (true, "BadSizes")), false), (((true, "BadOrder"), (true, "BadLast")), false), (((true, "BadOrder"), (true, "NoOrder")), false), (((true, "BadOrder"), (true, "Unknown")), false), (((true, "BadOrder"), (true, "NoCell")), false), (((true, "BadOrder"), (true, "Running")), false), (((true, "BadOrder"), (true, "Refusal")), false), (((true, "BadOrder"), (true, "Refused")), false), (((true, "BadOrder"), (true, "Stuck")), false), (((true, "BadOrder"), (true, "AsBeforeError")), true), (((true, "BadOrder"), (false, "ValueError")), true), (((true, "BadOrder"), (false, "LookupError")), false), (((true, "BadOrder"), (false, "RuntimeError")), false), (((true, "BadOrder"), (false, "KeyError")), false), (((true, "BadOrder"), (false, "IndexError")), false), (((true, "BadSubject"), (true, "BadName")), false), (((true, "BadSubject"), (true, "BadCost")), false), (((true, "BadSubject"), (true, "BadStep")), false), (((true, "BadSubject"), (true, "BadBoard")), false), (((true, "BadSubject"), (true, "BadLine")), false), (((true, "BadSubject"), (true, "BadGuard")), false), (((true, "BadSubject"), (true, "Nested")), false), (((true, "BadSubject"), (true, "TooMany")), false), (((true, "BadSubject"), (true, "OtherBoard")), false), (((true, "BadSubject"), (true, "OpenFlow")), false), (((true, "BadSubject"), (true, "BadPopulation")), false), (((true, "BadSubject"), (true, "BadOrder")), false), (((true, "BadSubject"), (true, "BadSubject")), true), (((true, "BadSubject"), (true, "BadSizes")), false), (((true, "BadSubject"), (true, "BadLast")), false), (((true, "BadSubject"), (true, "NoOrder")), false), (((true, "BadSubject"), (true, "Unknown")), false), (((true, "BadSubject"), (true, "NoCell")), false), (((true, "BadSubject"), (true, "Running")), false), (((true, "BadSubject"), (true, "Refusal")), false), (((true, "BadSubject"), (true, "Refused")), false), (((true, "BadSubject"), (true, "Stuck")), false), (((true, "BadSubject"), (true, "AsBeforeError")), true), (((true, "BadSubject"), (false, "ValueError")), true), (((true, "BadSubject"), (false, "LookupError")), false), (((true, "BadSubject"), (false, "RuntimeError")), false), (((true, "BadSubject"), (false, "KeyError")), false), (((true, "BadSubject"), (false, "IndexError")), false), (((true, "BadSizes"), (true, "BadName")), false), (((true, "BadSizes"), (true, "BadCost")), false), (((true, "BadSizes"), (true, "BadStep")), false), (((true, "BadSizes"), (true, "BadBoard")), false), (((true, "BadSizes"), (true, "BadLine")), false), (((true, "BadSizes"), (true, "BadGuard")), false), (((true, "BadSizes"), (true, "Nested")), false), (((true, "BadSizes"), (true, "TooMany")), false), (((true, "BadSizes"), (true, "OtherBoard")), false), (((true, "BadSizes"), (true, "OpenFlow")), false), (((true, "BadSizes"), (true, "BadPopulation")), false), (((true, "BadSizes"), (true, "BadOrder")), false), (((true, "BadSizes"), (true, "BadSubject")), false), (((true, "BadSizes"), (true, "BadSizes")), true), (((true, "BadSizes"), (true, "BadLast")), false), (((true, "BadSizes"), (true, "NoOrder")), false), (((true, "BadSizes"), (true, "Unknown")), false), (((true, "BadSizes"), (true, "NoCell")), false), (((true, "BadSizes"), (true, "Running")), false), (((true, "BadSizes"), (true, "Refusal")), false), (((true, "BadSizes"), (true, "Refused")), false), (((true, "BadSizes"), (true, "Stuck")), false), (((true, "BadSizes"), (true, "AsBeforeError")), true), (((true, "BadSizes"), (false, "ValueError")), true), (((true, "BadSizes"), (false, "LookupError")), false), (((true, "BadSizes"), (false, "RuntimeError")), false), (((true, "BadSizes"), (false, "KeyError")), false), (((true, "BadSizes"), (false, "IndexError")), false), (((true, "BadLast"), (true, "BadName")), false), (((true, "BadLast"), (true, "BadCost")), false), (((true, "BadLast"), (true, "BadStep")), false), (((true, "BadLast"), (true, "BadBoard")), false), (((true, "BadLast"), (true, "BadLine")), false), (((true, "BadLast"), (true, "BadGuard")), false), (((true, "BadLast"), (true, "Nested")), false), (((true, "BadLast"), (true, "TooMany")), false), (((true, "BadLast"), (true, "OtherBoard")), false), (((true, "BadLast"), (true, "OpenFlow")), false), (((true, "BadLast"), (true, "BadPopulation")), false), (((true, "BadLast"), (true, "BadOrder")), false), (((true, "BadLast"), (true, "BadSubject")), false), (((true, "BadLast"), (true, "BadSizes")), false), (((true, "BadLast"), (true, "BadLast")), true), (((true, "BadLast"), (true, "NoOrder")), false), (((true, "BadLast"), (true, "Unknown")), false), (((true, "BadLast"), (true, "NoCell")), false), (((true, "BadLast"), (true, "Running")), false), (((true, "BadLast"), (true, "Refusal")), false), (((true, "BadLast"), (true, "Refused")), false), (((true, "BadLast"), (true, "Stuck")), false), (((true, "BadLast"), (true, "AsBeforeError")), true), (((true, "BadLast"), (false, "ValueError")), true), (((true, "BadLast"), (false, "LookupError")), false), (((true, "BadLast"), (false, "RuntimeError")), false), (((true, "BadLast"), (false, "KeyError")), false), (((true, "BadLast"), (false, "IndexError")), false), (((true, "NoOrder"), (true, "BadName")), false), (((true, "NoOrder"), (true, "BadCost")), false), (((true, "NoOrder"), (true, "BadStep")), false), (((true, "NoOrder"), (true, "BadBoard")), false), (((true, "NoOrder"), (true, "BadLine")), false), (((true, "NoOrder"), (true, "BadGuard")), false), (((true, "NoOrder"), (true, "Nested")), false), (((true, "NoOrder"), (true, "TooMany")), false), (((true, "NoOrder"), (true, "OtherBoard")), false), (((true, "NoOrder"), (true, "OpenFlow")), false), (((true, "NoOrder"), (true, "BadPopulation")), false), (((true, "NoOrder"), (true, "BadOrder")), false), (((true, "NoOrder"), (true, "BadSubject")), false), (((true, "NoOrder"), (true, "BadSizes")), false), (((true, "NoOrder"), (true, "BadLast")), false), (((true, "NoOrder"), (true, "NoOrder")), true), (((true, "NoOrder"), (true, "Unknown")), false), (((true, "NoOrder"), (true, "NoCell")), false), (((true, "NoOrder"), (true, "Running")), false), (((true, "NoOrder"), (true, "Refusal")), false), (((true, "NoOrder"), (true, "Refused")), false), (((true, "NoOrder"), (true, "Stuck")), false), (((true, "NoOrder"), (true, "AsBeforeError")), true), (((true, "NoOrder"), (false, "ValueError")), true), (((true, "NoOrder"), (false, "LookupError")), false), (((true, "NoOrder"), (false, "RuntimeError")), false), (((true, "NoOrder"), (false, "KeyError")), false), (((true, "NoOrder"), (false, "IndexError")), false), (((true, "Unknown"), (true, "BadName")), false), (((true, "Unknown"), (true, "BadCost")), false), (((true, "Unknown"), (true, "BadStep")), false), (((true, "Unknown"), (true, "BadBoard")), false), (((true, "Unknown"), (true, "BadLine")), false), (((true, "Unknown"), (true, "BadGuard")), false), (((true, "Unknown"), (true, "Nested")), false), (((true, "Unknown"), (true, "TooMany")), false), (((true, "Unknown"), (true, "OtherBoard")), false), (((true, "Unknown"), (true, "OpenFlow")), false), (((true, "Unknown"), (true, "BadPopulation")), false), (((true, "Unknown"), (true, "BadOrder")), false), (((true, "Unknown"), (true, "BadSubject")), false), (((true, "Unknown"), (true, "BadSizes")), false), (((true, "Unknown"), (true, "BadLast")), false), (((true, "Unknown"), (true, "NoOrder")), false), (((true, "Unknown"), (true, "Unknown")), true), (((true, "Unknown"), (true, "NoCell")), false), (((true, "Unknown"), (true, "Running")), false), (((true, "Unknown"), (true, "Refusal")), false), (((true, "Unknown"), (true, "Refused")), false), (((true, "Unknown"), (true, "Stuck")), false), (((true, "Unknown"), (true, "AsBeforeError")), false), (((true, "Unknown"), (false, "ValueError")), false), (((true, "Unknown"), (false, "LookupError")), true), (((true, "Unknown"), (false, "RuntimeError")), false), (((true, "Unknown"), (false, "KeyError")), false), (((true, "Unknown"), (false, "IndexError")), false), (((true, "NoCell"), (true, "BadName")), false), (((true, "NoCell"), (true, "BadCost")), false), (((true, "NoCell"), (true, "BadStep")), false), (((true, "NoCell"), (true, "BadBoard")), false), (((true, "NoCell"), (true, "BadLine")), false), (((true, "NoCell"), (true, "BadGuard")), false), (((true, "NoCell"), (true, "Nested")), false), (((true, "NoCell"), (true, "TooMany")), false), (((true, "NoCell"), (true, "OtherBoard")), false), (((true, "NoCell"), (true, "OpenFlow")), false), (((true, "NoCell"), (true, "BadPopulation")), false), (((true, "NoCell"), (true, "BadOrder")), false), (((true, "NoCell"), (true, "BadSubject")), false), (((true, "NoCell"), (true, "BadSizes")), false), (((true, "NoCell"), (true, "BadLast")), false), (((true, "NoCell"), (true, "NoOrder")), false), (((true, "NoCell"), (true, "Unknown")), false), (((true, "NoCell"), (true, "NoCell")), true), (((true, "NoCell"), (true, "Running")), false), (((true, "NoCell"), (true, "Refusal")), false), (((true, "NoCell"), (true, "Refused")), false), (((true, "NoCell"), (true, "Stuck")), false), (((true, "NoCell"), (true, "AsBeforeError")), false), (((true, "NoCell"), (false, "ValueError")), false), (((true, "NoCell"), (false, "LookupError")), true), (((true, "NoCell"), (false, "RuntimeError")), false), (((true, "NoCell"), (false, "KeyError")), false), (((true, "NoCell"), (false, "IndexError")), false), (((true, "Running"), (true, "BadName")), false), (((true, "Running"), (true, "BadCost")), false), (((true, "Running"), (true, "BadStep")), false), (((true, "Running"), (true, "BadBoard")), false), (((true, "Running"), (true, "BadLine")), false), (((true, "Running"), (true, "BadGuard")), false), (((true, "Running"), (true, "Nested")), false), (((true, "Running"), (true, "TooMany")), false), (((true, "Running"), (true, "OtherBoard")), false), (((true, "Running"), (true, "OpenFlow")), false), (((true, "Running"), (true, "BadPopulation")), false), (((true, "Running"), (true, "BadOrder")), false), (((true, "Running"), (true, "BadSubject")), false), (((true, "Running"), (true, "BadSizes")), false), (((true, "Running"), (true, "BadLast")), false), (((true, "Running"), (true, "NoOrder")), false), (((true, "Running"), (true, "Unknown")), false), (((true, "Running"), (true, "NoCell")), false), (((true, "Running"), (true, "Running")), true), (((true, "Running"), (true, "Refusal")), false), (((true, "Running"), (true, "Refused")), false), (((true, "Running"), (true, "Stuck")), false), (((true, "Running"), (true, "AsBeforeError")), false), (((true, "Running"), (false, "ValueError")), false), (((true, "Running"), (false, "LookupError")), false), (((true, "Running"), (false, "RuntimeError")), true), (((true, "Running"), (false, "KeyError")), false), (((true, "Running"), (false, "IndexError")), false), (((true, "Refusal"), (true, "BadName")), false), (((true, "Refusal"), (true, "BadCost")), false), (((true, "Refusal"), (true, "BadStep")), false), (((true, "Refusal"), (true, "BadBoard")), false), (((true, "Refusal"), (true, "BadLine")), false), (((true, "Refusal"), (true, "BadGuard")), false), (((true, "Refusal"), (true, "Nested")), false), (((true, "Refusal"), (true, "TooMany")), false), (((true, "Refusal"), (true, "OtherBoard")), false), (((true, "Refusal"), (true, "OpenFlow")), false), (((true, "Refusal"), (true, "BadPopulation")), false), (((true, "Refusal"), (true, "BadOrder")), false), (((true, "Refusal"), (true, "BadSubject")), false), (((true, "Refusal"), (true, "BadSizes")), false), (((true, "Refusal"), (true, "BadLast")), false), (((true, "Refusal"), (true, "NoOrder")), false), (((true, "Refusal"), (true, "Unknown")), false), (((true, "Refusal"), (true, "NoCell")), false), (((true, "Refusal"), (true, "Running")), false), (((true, "Refusal"), (true, "Refusal")), true), (((true, "Refusal"), (true, "Refused")), false), (((true, "Refusal"), (true, "Stuck")), false), (((true, "Refusal"), (true, "AsBeforeError")), false), (((true, "Refusal"), (false, "ValueError")), false), (((true, "Refusal"), (false, "LookupError")), false), (((true, "Refusal"), (false, "RuntimeError")), true), (((true, "Refusal"), (false, "KeyError")), false), (((true, "Refusal"), (false, "IndexError")), false), (((true, "Refused"), (true, "BadName")), false), (((true, "Refused"), (true, "BadCost")), false), (((true, "Refused"), (true, "BadStep")), false), (((true, "Refused"), (true, "BadBoard")), false), (((true, "Refused"), (true, "BadLine")), false), (((true, "Refused"), (true, "BadGuard")), false), (((true, "Refused"), (true, "Nested")), false), (((true, "Refused"), (true, "TooMany")), false), (((true, "Refused"), (true, "OtherBoard")), false), (((true, "Refused"), (true, "OpenFlow")), false), (((true, "Refused"), (true, "BadPopulation")), false), (((true, "Refused"), (true, "BadOrder")), false), (((true, "Refused"), (true, "BadSubject")), false), (((true, "Refused"), (true, "BadSizes")), false), (((true, "Refused"), (true, "BadLast")), false), (((true, "Refused"), (true, "NoOrder")), false), (((true, "Refused"), (true, "Unknown")), false), (((true, "Refused"), (true, "NoCell")), false), (((true, "Refused"), (true, "Running")), false), (((true, "Refused"), (true, "Refusal")), false), (((true, "Refused"), (true, "Refused")), true), (((true, "Refused"), (true, "Stuck")), false), (((true, "Refused"), (true, "AsBeforeError")), false), (((true, "Refused"), (false, "ValueError")), false), (((true, "Refused"), (false, "LookupError")), false), (((true, "Refused"), (false, "RuntimeError")), true), (((true, "Refused"), (false, "KeyError")), false), (((true, "Refused"), (false, "IndexError")), false)]
def gkw_law_bag_2 (ds es : List D) : List D := pick [.pos 0, .pos 1] ds [] [] es
def gkm_BadName_init_1 (ds es : List D) : List D := pick [.pos 0] ds [] [] es
def gkm_BadCost_init_0_cost (ds es : List D) : List D := pick [.kw 0] ds [] [] es
def gkm_BadStep_init_1 (ds es : List D) : List D := pick [.pos 0] ds [] [] es
def gkm_BadBoard_init_2 (ds es : List D) : List D := pick [.pos 0, .pos 1] ds [] [] es
def gkm_BadLine_init_1 (ds es : List D) : List D := pick [.pos 0] ds [] [] es
def gkm_BadGuard_init_0_name (ds es : List D) : List D := pick [.kw 0] ds [] [] es
def gkm_Nested_init_1 (ds es : List D) : List D := pick [.pos 0] ds [] [] es
def gkm_TooMany_init_0_what (ds es : List D) : List D := pick [.kw 0] ds [] [] es
def gkm_OpenFlow_init_0_place (ds es : List D) : List D := pick [.kw 0] ds [] [] es
def gkm_BadPopulation_init_1 (ds es : List D) : List D := pick [.pos 0] ds [] [] es
def gkw_law_first_4 (ds es : List D) : List D := pick [.pos 0, .pos 1, .pos 2, .pos 3] ds [] [] es
def gkm_BadOrder_init_0_order (ds es : List D) : List D := pick [.kw 0] ds [] [] es
def gkm_BadSubject_init_1 (ds es : List D) : List D := pick [.pos 0] ds [] [] es
def gkm_BadSizes_init_1 (ds es : List D) : List D := pick [.pos 0] ds [] [] es
def gkm_BadLast_init_0_last (ds es : List D) : List D := pick [.kw 0] ds [] [] es
def gkm_NoOrder_init_0_population_events (ds es : List D) : List D := pick [.kw 0, .kw 1] ds [] [] es
def gkm_Unknown_init_1 (ds es : List D) : List D := pick [.pos 0] ds [] [] es
def gkm_NoCell_init_1 (ds es : List D) : List D := pick [.pos 0] ds [] [] es
def gkm_Refusal_init_0_why (ds es : List D) : List D := pick [.kw 0] ds [] [] es
def gkm_Refused_init_1_why_changed (ds es : List D) : List D := pick [.pos 0, .kw 0, .kw 1] ds [] [] es
def gkm_Stuck_init_1_why_stuck_changed (ds es : List D) : List D := pick [.pos 0, .kw 0, .kw 1, .kw 2] ds [] [] es
def gkw_law_second_4 (ds es : List D) : List D := pick [.pos 0, .pos 1, .pos 2, .pos 3] ds [] [] es
def gkw_law_first_told_2 (ds es : List D) : List D := pick [.pos 0, .pos 1] ds [] [] es
def gkw_law_second_told_2 (ds es : List D) : List D := pick [.pos 0, .pos 1] ds [] [] es
def gkw_law_under_1 (ds es : List D) : List D := pick [.pos 0] ds [] [] es
def gkw_law_right_4 (ds es : List D) : List D := pick [.pos 0, .pos 1, .pos 2, .pos 3] ds [] [] es
def gkw_law_take_2 (ds es : List D) : List D := pick [.pos 0, .pos 1] ds [] [] es
def gkw_law_of_2 (ds es : List D) : List D := pick [.pos 0, .pos 1] ds [] [] es
def gkw_law_value_1 (ds es : List D) : List D := pick [.pos 0] ds [] [] es
theorem c_gkw_law_bag_2 {m : Mf} {n : Nat} {S : Store} {a0 a1 : D} : callD m 2 gkw_law_bag_2 n [a0, a1] [] S = m n [a0, a1] S := Eq.trans rfl rfl
theorem c_gkm_BadName_init_1 {m : Mf} {n : Nat} {S : Store} {a0 : D} : callD m 1 gkm_BadName_init_1 n [a0] [] S = m n [a0] S := Eq.trans rfl rfl
theorem c_gkm_BadCost_init_0_cost {m : Mf} {n : Nat} {S : Store} {k0 : D} : callD m 0 gkm_BadCost_init_0_cost n [] [k0] S = m n [k0] S := Eq.trans rfl rfl
theorem c_gkm_BadStep_init_1 {m : Mf} {n : Nat} {S : Store} {a0 : D} : callD m 1 gkm_BadStep_init_1 n [a0] [] S = m n [a0] S := Eq.trans rfl rfl
theorem c_gkm_BadBoard_init_2 {m : Mf} {n : Nat} {S : Store} {a0 a1 : D} : callD m 2 gkm_BadBoard_init_2 n [a0, a1] [] S = m n [a0, a1] S := Eq.trans rfl rfl
theorem c_gkm_BadLine_init_1 {m : Mf} {n : Nat} {S : Store} {a0 : D} : callD m 1 gkm_BadLine_init_1 n [a0] [] S = m n [a0] S := Eq.trans rfl rfl
theorem c_gkm_BadGuard_init_0_name {m : Mf} {n : Nat} {S : Store} {k0 : D} : callD m 0 gkm_BadGuard_init_0_name n [] [k0] S = m n [k0] S := Eq.trans rfl rfl
theorem c_gkm_Nested_init_1 {m : Mf} {n : Nat} {S : Store} {a0 : D} : callD m 1 gkm_Nested_init_1 n [a0] [] S = m n [a0] S := Eq.trans rfl rfl
theorem c_gkm_TooMany_init_0_what {m : Mf} {n : Nat} {S : Store} {k0 : D} : callD m 0 gkm_TooMany_init_0_what n [] [k0] S = m n [k0] S := Eq.trans rfl rfl
theorem c_gkm_OpenFlow_init_0_place {m : Mf} {n : Nat} {S : Store} {k0 : D} : callD m 0 gkm_OpenFlow_init_0_place n [] [k0] S = m n [k0] S := Eq.trans rfl rfl
theorem c_gkm_BadPopulation_init_1 {m : Mf} {n : Nat} {S : Store} {a0 : D} : callD m 1 gkm_BadPopulation_init_1 n [a0] [] S = m n [a0] S := Eq.trans rfl rfl
theorem c_gkw_law_first_4 {m : Mf} {n : Nat} {S : Store} {a0 a1 a2 a3 : D} : callD m 4 gkw_law_first_4 n [a0, a1, a2, a3] [] S = m n [a0, a1, a2, a3] S := Eq.trans rfl rfl
theorem c_gkm_BadOrder_init_0_order {m : Mf} {n : Nat} {S : Store} {k0 : D} : callD m 0 gkm_BadOrder_init_0_order n [] [k0] S = m n [k0] S := Eq.trans rfl rfl
theorem c_gkm_BadSubject_init_1 {m : Mf} {n : Nat} {S : Store} {a0 : D} : callD m 1 gkm_BadSubject_init_1 n [a0] [] S = m n [a0] S := Eq.trans rfl rfl
theorem c_gkm_BadSizes_init_1 {m : Mf} {n : Nat} {S : Store} {a0 : D} : callD m 1 gkm_BadSizes_init_1 n [a0] [] S = m n [a0] S := Eq.trans rfl rfl
theorem c_gkm_BadLast_init_0_last {m : Mf} {n : Nat} {S : Store} {k0 : D} : callD m 0 gkm_BadLast_init_0_last n [] [k0] S = m n [k0] S := Eq.trans rfl rfl
theorem c_gkm_NoOrder_init_0_population_events {m : Mf} {n : Nat} {S : Store} {k0 k1 : D} : callD m 0 gkm_NoOrder_init_0_population_events n [] [k0, k1] S = m n [k0, k1] S := Eq.trans rfl rfl
theorem c_gkm_Unknown_init_1 {m : Mf} {n : Nat} {S : Store} {a0 : D} : callD m 1 gkm_Unknown_init_1 n [a0] [] S = m n [a0] S := Eq.trans rfl rfl
theorem c_gkm_NoCell_init_1 {m : Mf} {n : Nat} {S : Store} {a0 : D} : callD m 1 gkm_NoCell_init_1 n [a0] [] S = m n [a0] S := Eq.trans rfl rfl
theorem c_gkm_Refusal_init_0_why {m : Mf} {n : Nat} {S : Store} {k0 : D} : callD m 0 gkm_Refusal_init_0_why n [] [k0] S = m n [k0] S := Eq.trans rfl rfl
theorem c_gkm_Refused_init_1_why_changed {m : Mf} {n : Nat} {S : Store} {a0 k0 k1 : D} : callD m 1 gkm_Refused_init_1_why_changed n [a0] [k0, k1] S = m n [a0, k0, k1] S := Eq.trans rfl rfl
theorem c_gkm_Stuck_init_1_why_stuck_changed {m : Mf} {n : Nat} {S : Store} {a0 k0 k1 k2 : D} : callD m 1 gkm_Stuck_init_1_why_stuck_changed n [a0] [k0, k1, k2] S = m n [a0, k0, k1, k2] S := Eq.trans rfl rfl
theorem c_gkw_law_second_4 {m : Mf} {n : Nat} {S : Store} {a0 a1 a2 a3 : D} : callD m 4 gkw_law_second_4 n [a0, a1, a2, a3] [] S = m n [a0, a1, a2, a3] S := Eq.trans rfl rfl
theorem c_gkw_law_first_told_2 {m : Mf} {n : Nat} {S : Store} {a0 a1 : D} : callD m 2 gkw_law_first_told_2 n [a0, a1] [] S = m n [a0, a1] S := Eq.trans rfl rfl
theorem c_gkw_law_second_told_2 {m : Mf} {n : Nat} {S : Store} {a0 a1 : D} : callD m 2 gkw_law_second_told_2 n [a0, a1] [] S = m n [a0, a1] S := Eq.trans rfl rfl
theorem c_gkw_law_under_1 {m : Mf} {n : Nat} {S : Store} {a0 : D} : callD m 1 gkw_law_under_1 n [a0] [] S = m n [a0] S := Eq.trans rfl rfl
theorem c_gkw_law_right_4 {m : Mf} {n : Nat} {S : Store} {a0 a1 a2 a3 : D} : callD m 4 gkw_law_right_4 n [a0, a1, a2, a3] [] S = m n [a0, a1, a2, a3] S := Eq.trans rfl rfl
theorem c_gkw_law_take_2 {m : Mf} {n : Nat} {S : Store} {a0 a1 : D} : callD m 2 gkw_law_take_2 n [a0, a1] [] S = m n [a0, a1] S := Eq.trans rfl rfl
theorem c_gkw_law_of_2 {m : Mf} {n : Nat} {S : Store} {a0 a1 : D} : callD m 2 gkw_law_of_2 n [a0, a1] [] S = m n [a0, a1] S := Eq.trans rfl rfl
theorem c_gkw_law_value_1 {m : Mf} {n : Nat} {S : Store} {a0 : D} : callD m 1 gkw_law_value_1 n [a0] [] S = m n [a0] S := Eq.trans rfl rfl
def d_law_bag : DS := (dSeq (dSet 2 (dIfE (dTest (dBin uLt (dVar 1) (dBi bLen (aCons (dVar 0) aNil)))) (dBi bInt (aCons (dBin ixD (dVar 0) (dVar 1)) aNil)) (dC (.int 0))))
    (dSeq (dSet 3 (dIfE (dTest (dBin uGe (dBi bAbs (aCons (dVar 2) aNil)) (dBin dPow (dC (.int 10)) (dC (.int 18))))) (dBi bAbs (aCons (dVar 2) aNil)) (dC (.int 0))))
    (dRet (dLstR (aCons (dVar 3) (aCons (dBin uAdd (dBin uAdd (dBin dMul (dBin dMod (dBi bInt (aCons (dVar 2) aNil)) (dC (.int 2305843009213693951))) (dC (.int 5))) (dBin dMul (dC (.int 104729)) (dVar 1))) (dC (.int 7001))) (aCons (dC (.int 0)) aNil)))))))
def m_law_bag : Mf := mKeep 2 4 d_law_bag
def d_law_first : DS := (dSeq (dIf (dTest (dBin uEqX (dVar 0) (dC (.int 0))))
    (dRet (dTup (aCons (dMkX "BadName" ["name"] 1 0 gkm_BadName_init_1 (aCons (dVar 1) aNil) aNil) (aCons (dLst (aCons (dVar 1) aNil)) aNil))))
    dPass)
    (dSeq (dIf (dTest (dBin uEqX (dVar 0) (dC (.int 1))))
    (dRet (dTup (aCons (dMkX "BadCost" ["cost"] 0 1 gkm_BadCost_init_0_cost aNil (aCons (dVar 1) aNil)) (aCons (dLst (aCons (dVar 1) aNil)) aNil))))
    dPass)
    (dSeq (dIf (dTest (dBin uEqX (dVar 0) (dC (.int 2))))
    (dRet (dTup (aCons (dMkX "BadStep" ["name"] 1 0 gkm_BadStep_init_1 (aCons (dVar 1) aNil) aNil) (aCons (dLst (aCons (dVar 1) aNil)) aNil))))
    dPass)
    (dSeq (dIf (dTest (dBin uEqX (dVar 0) (dC (.int 3))))
    (dRet (dTup (aCons (dMkX "BadBoard" ["part", "at"] 2 0 gkm_BadBoard_init_2 (aCons (dVar 1) (aCons (dVar 2) aNil)) aNil) (aCons (dLst (aCons (dVar 1) (aCons (dVar 2) aNil))) aNil))))
    dPass)
    (dSeq (dIf (dTest (dBin uEqX (dVar 0) (dC (.int 4))))
    (dRet (dTup (aCons (dMkX "BadLine" ["at"] 1 0 gkm_BadLine_init_1 (aCons (dVar 1) aNil) aNil) (aCons (dLst (aCons (dVar 1) aNil)) aNil))))
    dPass)
    (dSeq (dIf (dTest (dBin uEqX (dVar 0) (dC (.int 5))))
    (dRet (dTup (aCons (dMkX "BadGuard" ["name"] 0 1 gkm_BadGuard_init_0_name aNil (aCons (dVar 1) aNil)) (aCons (dLst (aCons (dVar 1) aNil)) aNil))))
    dPass)
    (dSeq (dIf (dTest (dBin uEqX (dVar 0) (dC (.int 6))))
    (dRet (dTup (aCons (dMkX "Nested" ["name"] 1 0 gkm_Nested_init_1 (aCons (dVar 1) aNil) aNil) (aCons (dLst (aCons (dVar 1) aNil)) aNil))))
    dPass)
    (dSeq (dIf (dTest (dBin uEqX (dVar 0) (dC (.int 7))))
    (dRet (dTup (aCons (dMkX "TooMany" ["what"] 0 1 gkm_TooMany_init_0_what aNil (aCons (dVar 1) aNil)) (aCons (dLst (aCons (dVar 1) aNil)) aNil))))
    dPass)
    (dSeq (dIf (dTest (dBin uEqX (dVar 0) (dC (.int 8))))
    (dRet (dTup (aCons (dMk0 "OtherBoard") (aCons (dLst aNil) aNil))))
    dPass)
    (dSeq (dIf (dTest (dBin uEqX (dVar 0) (dC (.int 9))))
    (dRet (dTup (aCons (dMkX "OpenFlow" ["place"] 0 1 gkm_OpenFlow_init_0_place aNil (aCons (dVar 1) aNil)) (aCons (dLst (aCons (dVar 1) aNil)) aNil))))
    dPass)
    (dRet (dTup (aCons (dMkX "BadPopulation" ["name"] 1 0 gkm_BadPopulation_init_1 (aCons (dVar 1) aNil) aNil) (aCons (dLst (aCons (dVar 1) aNil)) aNil))))))))))))))
def m_law_first : Mf := mPure 4 4 d_law_first
def d_law_second : DS := (dSeq (dIf (dTest (dBin uEqX (dVar 0) (dC (.int 11))))
    (dRet (dTup (aCons (dMkX "BadOrder" ["order"] 0 1 gkm_BadOrder_init_0_order aNil (aCons (dVar 1) aNil)) (aCons (dLst (aCons (dVar 1) aNil)) aNil))))
    dPass)
    (dSeq (dIf (dTest (dBin uEqX (dVar 0) (dC (.int 12))))
    (dRet (dTup (aCons (dMkX "BadSubject" ["subject"] 1 0 gkm_BadSubject_init_1 (aCons (dVar 1) aNil) aNil) (aCons (dLst (aCons (dVar 1) aNil)) aNil))))
    dPass)
    (dSeq (dIf (dTest (dBin uEqX (dVar 0) (dC (.int 13))))
    (dRet (dTup (aCons (dMkX "BadSizes" ["name"] 1 0 gkm_BadSizes_init_1 (aCons (dVar 1) aNil) aNil) (aCons (dLst (aCons (dVar 1) aNil)) aNil))))
    dPass)
    (dSeq (dIf (dTest (dBin uEqX (dVar 0) (dC (.int 14))))
    (dRet (dTup (aCons (dMkX "BadLast" ["last"] 0 1 gkm_BadLast_init_0_last aNil (aCons (dVar 1) aNil)) (aCons (dLst (aCons (dVar 1) aNil)) aNil))))
    dPass)
    (dSeq (dIf (dTest (dBin uEqX (dVar 0) (dC (.int 15))))
    (dRet (dTup (aCons (dMkX "NoOrder" ["population", "events"] 0 2 gkm_NoOrder_init_0_population_events aNil (aCons (dVar 1) (aCons (dVar 2) aNil))) (aCons (dLst (aCons (dVar 1) (aCons (dVar 2) aNil))) aNil))))
    dPass)
    (dSeq (dIf (dTest (dBin uEqX (dVar 0) (dC (.int 16))))
    (dRet (dTup (aCons (dMkX "Unknown" ["name"] 1 0 gkm_Unknown_init_1 (aCons (dVar 1) aNil) aNil) (aCons (dLst (aCons (dVar 1) aNil)) aNil))))
    dPass)
    (dSeq (dIf (dTest (dBin uEqX (dVar 0) (dC (.int 17))))
    (dRet (dTup (aCons (dMkX "NoCell" ["at"] 1 0 gkm_NoCell_init_1 (aCons (dVar 1) aNil) aNil) (aCons (dLst (aCons (dVar 1) aNil)) aNil))))
    dPass)
    (dSeq (dIf (dTest (dBin uEqX (dVar 0) (dC (.int 18))))
    (dRet (dTup (aCons (dMk0 "Running") (aCons (dLst aNil) aNil))))
    dPass)
    (dSeq (dIf (dTest (dBin uEqX (dVar 0) (dC (.int 19))))
    (dRet (dTup (aCons (dMkX "Refusal" ["why"] 0 1 gkm_Refusal_init_0_why aNil (aCons (dVar 1) aNil)) (aCons (dLst (aCons (dVar 1) aNil)) aNil))))
    dPass)
    (dSeq (dIf (dTest (dBin uEqX (dVar 0) (dC (.int 20))))
    (dRet (dTup (aCons (dMkX "Refused" ["event", "why", "changed"] 1 2 gkm_Refused_init_1_why_changed (aCons (dVar 1) aNil) (aCons (dVar 2) (aCons (dVar 3) aNil))) (aCons (dLst (aCons (dVar 1) (aCons (dVar 2) (aCons (dVar 3) aNil)))) aNil))))
    dPass)
    (dRet (dTup (aCons (dMkX "Stuck" ["event", "why", "stuck", "changed"] 1 3 gkm_Stuck_init_1_why_stuck_changed (aCons (dVar 1) aNil) (aCons (dVar 1) (aCons (dVar 2) (aCons (dVar 3) aNil)))) (aCons (dLst (aCons (dVar 1) (aCons (dVar 1) (aCons (dVar 2) (aCons (dVar 3) aNil))))) aNil))))))))))))))
def m_law_second : Mf := mPure 4 4 d_law_second
def d_law_first_told : DS := (dSeq (dIf (dTest (dBin uIn (dVar 0) (dLst (aCons (dC (.int 0)) (aCons (dC (.int 2)) (aCons (dC (.int 5)) (aCons (dC (.int 6)) (aCons (dC (.int 10)) aNil))))))))
    (dRet (dLst (aCons (dXf ["BadPopulation", "BadName", "BadStep", "BadGuard", "Nested", "BadSizes", "Unknown"] "name" (dVar 1)) aNil)))
    dPass)
    (dSeq (dIf (dTest (dBin uEqX (dVar 0) (dC (.int 1))))
    (dRet (dLst (aCons (dXf ["BadCost"] "cost" (dVar 1)) aNil)))
    dPass)
    (dSeq (dIf (dTest (dBin uEqX (dVar 0) (dC (.int 3))))
    (dRet (dLst (aCons (dXf ["BadBoard"] "part" (dVar 1)) (aCons (dXf ["BadBoard", "BadLine", "NoCell"] "at" (dVar 1)) aNil))))
    dPass)
    (dSeq (dIf (dTest (dBin uEqX (dVar 0) (dC (.int 4))))
    (dRet (dLst (aCons (dXf ["BadBoard", "BadLine", "NoCell"] "at" (dVar 1)) aNil)))
    dPass)
    (dSeq (dIf (dTest (dBin uEqX (dVar 0) (dC (.int 7))))
    (dRet (dLst (aCons (dXf ["TooMany"] "what" (dVar 1)) aNil)))
    dPass)
    (dRet (dIfE (dTest (dBin uEqX (dVar 0) (dC (.int 8)))) (dLst aNil) (dLst (aCons (dXf ["OpenFlow"] "place" (dVar 1)) aNil)))))))))
def m_law_first_told : Mf := mPure 2 2 d_law_first_told
def d_law_second_told : DS := (dSeq (dIf (dTest (dBin uEqX (dVar 0) (dC (.int 11))))
    (dRet (dLst (aCons (dXf ["BadOrder"] "order" (dVar 1)) aNil)))
    dPass)
    (dSeq (dIf (dTest (dBin uEqX (dVar 0) (dC (.int 12))))
    (dRet (dLst (aCons (dXf ["BadSubject"] "subject" (dVar 1)) aNil)))
    dPass)
    (dSeq (dIf (dTest (dBin uIn (dVar 0) (dLst (aCons (dC (.int 13)) (aCons (dC (.int 16)) aNil)))))
    (dRet (dLst (aCons (dXf ["BadPopulation", "BadName", "BadStep", "BadGuard", "Nested", "BadSizes", "Unknown"] "name" (dVar 1)) aNil)))
    dPass)
    (dSeq (dIf (dTest (dBin uEqX (dVar 0) (dC (.int 14))))
    (dRet (dLst (aCons (dXf ["BadLast"] "last" (dVar 1)) aNil)))
    dPass)
    (dSeq (dIf (dTest (dBin uEqX (dVar 0) (dC (.int 15))))
    (dRet (dLst (aCons (dXf ["NoOrder"] "population" (dVar 1)) (aCons (dXf ["NoOrder"] "events" (dVar 1)) aNil))))
    dPass)
    (dSeq (dIf (dTest (dBin uEqX (dVar 0) (dC (.int 17))))
    (dRet (dLst (aCons (dXf ["BadBoard", "BadLine", "NoCell"] "at" (dVar 1)) aNil)))
    dPass)
    (dSeq (dIf (dTest (dBin uEqX (dVar 0) (dC (.int 18))))
    (dRet (dLst aNil))
    dPass)
    (dSeq (dIf (dTest (dBin uEqX (dVar 0) (dC (.int 19))))
    (dRet (dLst (aCons (dXf ["Stuck", "Refusal", "Refused"] "why" (dVar 1)) aNil)))
    dPass)
    (dRet (dIfE (dTest (dBin uEqX (dVar 0) (dC (.int 20)))) (dLst (aCons (dXf ["Stuck", "Refused"] "event" (dVar 1)) (aCons (dXf ["Stuck", "Refusal", "Refused"] "why" (dVar 1)) (aCons (dXf ["Stuck", "Refused"] "changed" (dVar 1)) aNil)))) (dLst (aCons (dXf ["Stuck", "Refused"] "event" (dVar 1)) (aCons (dXf ["Stuck", "Refusal", "Refused"] "why" (dVar 1)) (aCons (dXf ["Stuck"] "stuck" (dVar 1)) (aCons (dXf ["Stuck", "Refused"] "changed" (dVar 1)) aNil)))))))))))))))
def m_law_second_told : Mf := mPure 2 2 d_law_second_told
def d_law_under : DS := (dSeq (dSet 1 (dLst (aCons (dBi (bIsG isT isE) (aCons (dVar 0) (aCons (dC (.glo "BadName")) aNil))) (aCons (dBi (bIsG isT isE) (aCons (dVar 0) (aCons (dC (.glo "BadCost")) aNil))) (aCons (dBi (bIsG isT isE) (aCons (dVar 0) (aCons (dC (.glo "BadStep")) aNil))) (aCons (dBi (bIsG isT isE) (aCons (dVar 0) (aCons (dC (.glo "BadBoard")) aNil))) aNil))))))
    (dSeq (dSet 1 (dBin uAdd (dVar 1) (dLst (aCons (dBi (bIsG isT isE) (aCons (dVar 0) (aCons (dC (.glo "BadLine")) aNil))) (aCons (dBi (bIsG isT isE) (aCons (dVar 0) (aCons (dC (.glo "BadGuard")) aNil))) (aCons (dBi (bIsG isT isE) (aCons (dVar 0) (aCons (dC (.glo "Nested")) aNil))) (aCons (dBi (bIsG isT isE) (aCons (dVar 0) (aCons (dC (.glo "TooMany")) aNil))) aNil)))))))
    (dSeq (dSet 1 (dBin uAdd (dVar 1) (dLst (aCons (dBi (bIsG isT isE) (aCons (dVar 0) (aCons (dC (.glo "OtherBoard")) aNil))) (aCons (dBi (bIsG isT isE) (aCons (dVar 0) (aCons (dC (.glo "OpenFlow")) aNil))) (aCons (dBi (bIsG isT isE) (aCons (dVar 0) (aCons (dC (.glo "BadPopulation")) aNil))) aNil))))))
    (dSeq (dSet 1 (dBin uAdd (dVar 1) (dLst (aCons (dBi (bIsG isT isE) (aCons (dVar 0) (aCons (dC (.glo "BadOrder")) aNil))) (aCons (dBi (bIsG isT isE) (aCons (dVar 0) (aCons (dC (.glo "BadSubject")) aNil))) (aCons (dBi (bIsG isT isE) (aCons (dVar 0) (aCons (dC (.glo "BadSizes")) aNil))) (aCons (dBi (bIsG isT isE) (aCons (dVar 0) (aCons (dC (.glo "BadLast")) aNil))) aNil)))))))
    (dSeq (dSet 1 (dBin uAdd (dVar 1) (dLst (aCons (dBi (bIsG isT isE) (aCons (dVar 0) (aCons (dC (.glo "NoOrder")) aNil))) (aCons (dBi (bIsG isT isE) (aCons (dVar 0) (aCons (dC (.glo "Unknown")) aNil))) (aCons (dBi (bIsG isT isE) (aCons (dVar 0) (aCons (dC (.glo "NoCell")) aNil))) (aCons (dBi (bIsG isT isE) (aCons (dVar 0) (aCons (dC (.glo "Running")) aNil))) aNil)))))))
    (dRet (dBin uAdd (dVar 1) (dLst (aCons (dBi (bIsG isT isE) (aCons (dVar 0) (aCons (dC (.glo "Refusal")) aNil))) (aCons (dBi (bIsG isT isE) (aCons (dVar 0) (aCons (dC (.glo "Refused")) aNil))) (aCons (dBi (bIsG isT isE) (aCons (dVar 0) (aCons (dC (.glo "Stuck")) aNil))) aNil)))))))))))
def m_law_under : Mf := mPure 1 2 d_law_under
def e_law_right_1 : DE := (dBin uEqX (dVar 7) (dVar 0))
def d_law_right : DS := (dSeq (dAsg (gT (gsC (gN 4) (gsC (gN 5) gsN))) (dIfE (dTest (dBin uLt (dVar 0) (dC (.int 11)))) (dFn m_law_first 4 gkw_law_first_4 (aCons (dVar 0) (aCons (dVar 1) (aCons (dVar 2) (aCons (dVar 3) aNil))))) (dFn m_law_second 4 gkw_law_second_4 (aCons (dVar 0) (aCons (dVar 1) (aCons (dVar 2) (aCons (dVar 3) aNil)))))))
    (dSeq (dSet 6 (dIfE (dTest (dBin uLt (dVar 0) (dC (.int 11)))) (dFn m_law_first_told 2 gkw_law_first_told_2 (aCons (dVar 0) (aCons (dVar 4) aNil))) (dFn m_law_second_told 2 gkw_law_second_told_2 (aCons (dVar 0) (aCons (dVar 4) aNil)))))
    (dSeq (dIf (tOrD (dTest (dBin uNeX (dVar 6) (dVar 5))) (dTest (dBin uNeX (dBi bReprN (aCons (dVar 6) aNil)) (dBi bReprN (aCons (dVar 5) aNil)))))
    (dRet (dC (.bl false)))
    dPass)
    (dSeq (dIf (tOrD (dTest (dBin uNeX (dFn m_law_under 1 gkw_law_under_1 (aCons (dVar 4) aNil)) (dLc [7] (gN 7) (iR1 (aCons (dC (.int 22)) aNil)) tYesD e_law_right_1))) (dTest (dBin uNeX (dBi (bIsG isT isE) (aCons (dVar 4) (aCons (dC (.glo "AsBeforeError")) aNil))) (dBin uLt (dVar 0) (dC (.int 16))))))
    (dRet (dC (.bl false)))
    dPass)
    (dSeq (dIf (tOrD (dTest (dBin uNeX (dBi (bIsG isT isE) (aCons (dVar 4) (aCons (dC (.ty "ValueError")) aNil))) (dBin uLt (dVar 0) (dC (.int 16))))) (dTest (dBin uNeX (dBi (bIsG isT isE) (aCons (dVar 4) (aCons (dC (.ty "LookupError")) aNil))) (dBin uIn (dVar 0) (dLst (aCons (dC (.int 16)) (aCons (dC (.int 17)) aNil)))))))
    (dRet (dC (.bl false)))
    dPass)
    (dRet (dAnd (dBin uEqX (dBi (bIsG isT isE) (aCons (dVar 4) (aCons (dC (.ty "RuntimeError")) aNil))) (dBin uGt (dVar 0) (dC (.int 17)))) (dNot (dBi (bIsG isT isE) (aCons (dVar 4) (aCons (dTup (aCons (dC (.ty "KeyError")) (aCons (dC (.ty "IndexError")) aNil))) aNil)))))))))))
def m_law_right : Mf := mPure 4 8 d_law_right
def d_law_take : DS := (dSeq (dIf (dTest (dBin uGt (dBin ixD (dVar 0) (dC (.int 0))) (dC (.int 0))))
    (dSeq (dSet 2 (dBin dMod (dBi bInt (aCons (dBin ixD (dVar 0) (dC (.int 0))) aNil)) (dVar 1)))
    (dSeq (dSetIx (dVar 0) (dC (.int 0)) (dBin dFdiv (dBin ixD (dVar 0) (dC (.int 0))) (dVar 1)))
    (dRet (dVar 2))))
    dPass)
    (dSeq (dSetIx (dVar 0) (dC (.int 2)) (dBin uAdd (dBin ixD (dVar 0) (dC (.int 2))) (dC (.int 1))))
    (dSeq (dSet 3 (dBin dMod (dBi bInt (aCons (dBin dPow (dBin uAdd (dBin ixD (dVar 0) (dC (.int 1))) (dBin dMul (dC (.int 1299709)) (dBin ixD (dVar 0) (dC (.int 2))))) (dC (.int 3))) aNil)) (dC (.int 2305843009213693951))))
    (dSeq (dSet 3 (dBin dMod (dBi bInt (aCons (dBin dPow (dBin uAdd (dVar 3) (dBin dMul (dC (.int 15485863)) (dBin ixD (dVar 0) (dC (.int 2))))) (dC (.int 2))) aNil)) (dC (.int 1000000000000000003))))
    (dRet (dBin dMod (dBi bInt (aCons (dBin dFdiv (dVar 3) (dC (.int 4096))) aNil)) (dVar 1)))))))
def m_law_take : Mf := mPure 2 4 d_law_take
def d_law_of : DS := (dRet (dBin ixD (dVar 1) (dFn m_law_take 2 gkw_law_take_2 (aCons (dVar 0) (aCons (dBi bLen (aCons (dVar 1) aNil)) aNil)))))
def m_law_of : Mf := mPure 2 2 d_law_of
def d_law_value : DS := (dRet (dFn m_law_of 2 gkw_law_of_2 (aCons (dVar 0) (aCons (dLst (aCons (dC .non) (aCons (dC (.bl true)) (aCons (dC (.int 0)) (aCons (dNeg (dC (.int 1))) (aCons (dFn m_law_take 2 gkw_law_take_2 (aCons (dVar 0) (aCons (dBin dPow (dC (.int 10)) (dC (.int 30))) aNil))) (aCons (dC (.str (Str.ofString ""))) (aCons (dC (.str (Str.ofString "a"))) (aCons (dLst (aCons (dC (.int 1)) aNil)) (aCons (dTup aNil) (aCons (dTup (aCons (dC (.str (Str.ofString "a"))) (aCons (dTup (aCons (dC (.int 0)) aNil)) aNil))) (aCons (dDct [((dC (.str (Str.ofString "l"))), (dLst (aCons (dC (.int 0)) aNil)))]) aNil)))))))))))) aNil))))
def m_law_value : Mf := mPure 1 1 d_law_value
def b_law_1 : DS := (dIf (tNotD (dTru (dFn m_law_right 4 gkw_law_right_4 (aCons (dVar 3) (aCons (dFn m_law_value 1 gkw_law_value_1 (aCons (dVar 2) aNil)) (aCons (dFn m_law_value 1 gkw_law_value_1 (aCons (dVar 2) aNil)) (aCons (dFn m_law_value 1 gkw_law_value_1 (aCons (dVar 2) aNil)) aNil)))))))
    (dRet (dC (.bl false)))
    dPass)
def b_law_2 : DS := (dSeq (dSet 2 (dFn m_law_bag 2 gkw_law_bag_2 (aCons (dVar 0) (aCons (dVar 1) aNil))))
    (dFor (gN 3) (iR1 (aCons (dC (.int 22)) aNil))
    b_law_1))
def d_law : DS := (dSeq (dFor (gN 1) (iR1 (aCons (dBi bMax2 (aCons (dC (.int 1)) (aCons (dBi bMin2 (aCons (dC (.int 2)) (aCons (dBi bLen (aCons (dVar 0) aNil)) aNil))) aNil))) aNil))
    b_law_2)
    (dRet (dC (.bl true))))
def m_law : Mf := mPure 1 4 d_law
/-! ### the defs and facts -/
end Lk07

namespace Lk07
open PySem PySem.Spec PyProof.Rows L2 G
abbrev s_law_bag : Stmt := (top 25)
def D_law_bag : DefG := ⟨atG (Str.ofString "_law_bag"), (Str.ofString "_law_bag"), (Str.ofString "_law_bag"), defArgs s_law_bag, defBody s_law_bag, defScope s_law_bag, [], [], none⟩
abbrev s_BadName_init : Stmt := (clsAt (top 2) 0)
def D_BadName_init : DefG := ⟨atM (Str.ofString "BadName") (Str.ofString "__init__"), (Str.ofString "__init__"), (Str.ofString "BadName.__init__"), defArgs s_BadName_init, defBody s_BadName_init, defScope s_BadName_init, [], [], none⟩
abbrev s_BadCost_init : Stmt := (clsAt (top 3) 0)
def D_BadCost_init : DefG := ⟨atM (Str.ofString "BadCost") (Str.ofString "__init__"), (Str.ofString "__init__"), (Str.ofString "BadCost.__init__"), defArgs s_BadCost_init, defBody s_BadCost_init, defScope s_BadCost_init, [], [], none⟩
abbrev s_BadStep_init : Stmt := (clsAt (top 4) 0)
def D_BadStep_init : DefG := ⟨atM (Str.ofString "BadStep") (Str.ofString "__init__"), (Str.ofString "__init__"), (Str.ofString "BadStep.__init__"), defArgs s_BadStep_init, defBody s_BadStep_init, defScope s_BadStep_init, [], [], none⟩
abbrev s_BadBoard_init : Stmt := (clsAt (top 5) 0)
def D_BadBoard_init : DefG := ⟨atM (Str.ofString "BadBoard") (Str.ofString "__init__"), (Str.ofString "__init__"), (Str.ofString "BadBoard.__init__"), defArgs s_BadBoard_init, defBody s_BadBoard_init, defScope s_BadBoard_init, [], [], none⟩
abbrev s_BadLine_init : Stmt := (clsAt (top 6) 0)
def D_BadLine_init : DefG := ⟨atM (Str.ofString "BadLine") (Str.ofString "__init__"), (Str.ofString "__init__"), (Str.ofString "BadLine.__init__"), defArgs s_BadLine_init, defBody s_BadLine_init, defScope s_BadLine_init, [], [], none⟩
abbrev s_BadGuard_init : Stmt := (clsAt (top 7) 0)
def D_BadGuard_init : DefG := ⟨atM (Str.ofString "BadGuard") (Str.ofString "__init__"), (Str.ofString "__init__"), (Str.ofString "BadGuard.__init__"), defArgs s_BadGuard_init, defBody s_BadGuard_init, defScope s_BadGuard_init, [], [], none⟩
abbrev s_Nested_init : Stmt := (clsAt (top 8) 0)
def D_Nested_init : DefG := ⟨atM (Str.ofString "Nested") (Str.ofString "__init__"), (Str.ofString "__init__"), (Str.ofString "Nested.__init__"), defArgs s_Nested_init, defBody s_Nested_init, defScope s_Nested_init, [], [], none⟩
abbrev s_TooMany_init : Stmt := (clsAt (top 9) 0)
def D_TooMany_init : DefG := ⟨atM (Str.ofString "TooMany") (Str.ofString "__init__"), (Str.ofString "__init__"), (Str.ofString "TooMany.__init__"), defArgs s_TooMany_init, defBody s_TooMany_init, defScope s_TooMany_init, [], [], none⟩
abbrev s_OpenFlow_init : Stmt := (clsAt (top 11) 0)
def D_OpenFlow_init : DefG := ⟨atM (Str.ofString "OpenFlow") (Str.ofString "__init__"), (Str.ofString "__init__"), (Str.ofString "OpenFlow.__init__"), defArgs s_OpenFlow_init, defBody s_OpenFlow_init, defScope s_OpenFlow_init, [], [], none⟩
abbrev s_BadPopulation_init : Stmt := (clsAt (top 12) 0)
def D_BadPopulation_init : DefG := ⟨atM (Str.ofString "BadPopulation") (Str.ofString "__init__"), (Str.ofString "__init__"), (Str.ofString "BadPopulation.__init__"), defArgs s_BadPopulation_init, defBody s_BadPopulation_init, defScope s_BadPopulation_init, [], [], none⟩
abbrev s_law_first : Stmt := (top 29)
def D_law_first : DefG := ⟨atG (Str.ofString "_law_first"), (Str.ofString "_law_first"), (Str.ofString "_law_first"), defArgs s_law_first, defBody s_law_first, defScope s_law_first, [], [], none⟩
abbrev s_BadOrder_init : Stmt := (clsAt (top 13) 0)
def D_BadOrder_init : DefG := ⟨atM (Str.ofString "BadOrder") (Str.ofString "__init__"), (Str.ofString "__init__"), (Str.ofString "BadOrder.__init__"), defArgs s_BadOrder_init, defBody s_BadOrder_init, defScope s_BadOrder_init, [], [], none⟩
abbrev s_BadSubject_init : Stmt := (clsAt (top 14) 0)
def D_BadSubject_init : DefG := ⟨atM (Str.ofString "BadSubject") (Str.ofString "__init__"), (Str.ofString "__init__"), (Str.ofString "BadSubject.__init__"), defArgs s_BadSubject_init, defBody s_BadSubject_init, defScope s_BadSubject_init, [], [], none⟩
abbrev s_BadSizes_init : Stmt := (clsAt (top 15) 0)
def D_BadSizes_init : DefG := ⟨atM (Str.ofString "BadSizes") (Str.ofString "__init__"), (Str.ofString "__init__"), (Str.ofString "BadSizes.__init__"), defArgs s_BadSizes_init, defBody s_BadSizes_init, defScope s_BadSizes_init, [], [], none⟩
abbrev s_BadLast_init : Stmt := (clsAt (top 16) 0)
def D_BadLast_init : DefG := ⟨atM (Str.ofString "BadLast") (Str.ofString "__init__"), (Str.ofString "__init__"), (Str.ofString "BadLast.__init__"), defArgs s_BadLast_init, defBody s_BadLast_init, defScope s_BadLast_init, [], [], none⟩
abbrev s_NoOrder_init : Stmt := (clsAt (top 17) 0)
def D_NoOrder_init : DefG := ⟨atM (Str.ofString "NoOrder") (Str.ofString "__init__"), (Str.ofString "__init__"), (Str.ofString "NoOrder.__init__"), defArgs s_NoOrder_init, defBody s_NoOrder_init, defScope s_NoOrder_init, [], [], none⟩
abbrev s_Unknown_init : Stmt := (clsAt (top 18) 0)
def D_Unknown_init : DefG := ⟨atM (Str.ofString "Unknown") (Str.ofString "__init__"), (Str.ofString "__init__"), (Str.ofString "Unknown.__init__"), defArgs s_Unknown_init, defBody s_Unknown_init, defScope s_Unknown_init, [], [], none⟩
abbrev s_NoCell_init : Stmt := (clsAt (top 19) 0)
def D_NoCell_init : DefG := ⟨atM (Str.ofString "NoCell") (Str.ofString "__init__"), (Str.ofString "__init__"), (Str.ofString "NoCell.__init__"), defArgs s_NoCell_init, defBody s_NoCell_init, defScope s_NoCell_init, [], [], none⟩
abbrev s_Refusal_init : Stmt := (clsAt (top 21) 0)
def D_Refusal_init : DefG := ⟨atM (Str.ofString "Refusal") (Str.ofString "__init__"), (Str.ofString "__init__"), (Str.ofString "Refusal.__init__"), defArgs s_Refusal_init, defBody s_Refusal_init, defScope s_Refusal_init, [], [], none⟩
abbrev s_Refused_init : Stmt := (clsAt (top 22) 0)
def D_Refused_init : DefG := ⟨atM (Str.ofString "Refused") (Str.ofString "__init__"), (Str.ofString "__init__"), (Str.ofString "Refused.__init__"), defArgs s_Refused_init, defBody s_Refused_init, defScope s_Refused_init, [], [], none⟩
abbrev s_Stuck_init : Stmt := (clsAt (top 23) 0)
def D_Stuck_init : DefG := ⟨atM (Str.ofString "Stuck") (Str.ofString "__init__"), (Str.ofString "__init__"), (Str.ofString "Stuck.__init__"), defArgs s_Stuck_init, defBody s_Stuck_init, defScope s_Stuck_init, [], [], none⟩
abbrev s_law_second : Stmt := (top 30)
def D_law_second : DefG := ⟨atG (Str.ofString "_law_second"), (Str.ofString "_law_second"), (Str.ofString "_law_second"), defArgs s_law_second, defBody s_law_second, defScope s_law_second, [], [], none⟩
abbrev s_law_first_told : Stmt := (top 31)
def D_law_first_told : DefG := ⟨atG (Str.ofString "_law_first_told"), (Str.ofString "_law_first_told"), (Str.ofString "_law_first_told"), defArgs s_law_first_told, defBody s_law_first_told, defScope s_law_first_told, [], [], none⟩
abbrev s_law_second_told : Stmt := (top 32)
def D_law_second_told : DefG := ⟨atG (Str.ofString "_law_second_told"), (Str.ofString "_law_second_told"), (Str.ofString "_law_second_told"), defArgs s_law_second_told, defBody s_law_second_told, defScope s_law_second_told, [], [], none⟩
abbrev s_law_under : Stmt := (top 33)
def D_law_under : DefG := ⟨atG (Str.ofString "_law_under"), (Str.ofString "_law_under"), (Str.ofString "_law_under"), defArgs s_law_under, defBody s_law_under, defScope s_law_under, [], [], none⟩
abbrev s_law_right : Stmt := (top 34)
def D_law_right : DefG := ⟨atG (Str.ofString "_law_right"), (Str.ofString "_law_right"), (Str.ofString "_law_right"), defArgs s_law_right, defBody s_law_right, defScope s_law_right, [], [], none⟩
abbrev s_law_take : Stmt := (top 26)
def D_law_take : DefG := ⟨atG (Str.ofString "_law_take"), (Str.ofString "_law_take"), (Str.ofString "_law_take"), defArgs s_law_take, defBody s_law_take, defScope s_law_take, [], [], none⟩
abbrev s_law_of : Stmt := (top 27)
def D_law_of : DefG := ⟨atG (Str.ofString "_law_of"), (Str.ofString "_law_of"), (Str.ofString "_law_of"), defArgs s_law_of, defBody s_law_of, defScope s_law_of, [], [], none⟩
abbrev s_law_value : Stmt := (top 28)
def D_law_value : DefG := ⟨atG (Str.ofString "_law_value"), (Str.ofString "_law_value"), (Str.ofString "_law_value"), defArgs s_law_value, defBody s_law_value, defScope s_law_value, [], [], none⟩
abbrev s_law : Stmt := (top 35)
def D_law : DefG := ⟨atG (Str.ofString "law"), (Str.ofString "law"), (Str.ofString "law"), defArgs s_law, defBody s_law, defScope s_law, [], [], none⟩
def fn : List DefG := [D_law_bag, D_BadName_init, D_BadCost_init, D_BadStep_init, D_BadBoard_init, D_BadLine_init, D_BadGuard_init, D_Nested_init, D_TooMany_init, D_OpenFlow_init, D_BadPopulation_init, D_law_first, D_BadOrder_init, D_BadSubject_init, D_BadSizes_init, D_BadLast_init, D_NoOrder_init, D_Unknown_init, D_NoCell_init, D_Refusal_init, D_Refused_init, D_Stuck_init, D_law_second, D_law_first_told, D_law_second_told, D_law_under, D_law_right, D_law_take, D_law_of, D_law_value, D_law]
def fa : List Fc := [fGlo (Str.ofString "law"),
  fNoTab,
  fFree (Str.ofString "len"),
  fFree (Str.ofString "min"),
  fFree (Str.ofString "max"),
  fFree (Str.ofString "range"),
  fGlo (Str.ofString "_law_bag"),
  fGlo (Str.ofString "_law_value"),
  fGlo (Str.ofString "_law_right"),
  fFree (Str.ofString "int"),
  fFree (Str.ofString "abs"),
  fGlo (Str.ofString "_law_first"),
  fGlo (Str.ofString "_law_second"),
  fGlo (Str.ofString "_law_first_told"),
  fGlo (Str.ofString "_law_second_told"),
  fFree (Str.ofString "repr"),
  fGlo (Str.ofString "_law_under"),
  fGlo (Str.ofString "AsBeforeError"),
  fFree (Str.ofString "isinstance"),
  fFree (Str.ofString "ValueError"),
  fFree (Str.ofString "LookupError"),
  fFree (Str.ofString "RuntimeError"),
  fFree (Str.ofString "IndexError"),
  fFree (Str.ofString "KeyError"),
  fGlo (Str.ofString "OtherBoard"),
  fMk0 (Str.ofString "OtherBoard"),
  fGlo (Str.ofString "Running"),
  fMk0 (Str.ofString "Running"),
  fExnX (Str.ofString "Unknown"),
  fFa (.noat (Str.ofString "Unknown") (Str.ofString "name")),
  fExnX (Str.ofString "BadSizes"),
  fFa (.noat (Str.ofString "BadSizes") (Str.ofString "name")),
  fExnX (Str.ofString "Nested"),
  fFa (.noat (Str.ofString "Nested") (Str.ofString "name")),
  fExnX (Str.ofString "BadGuard"),
  fFa (.noat (Str.ofString "BadGuard") (Str.ofString "name")),
  fExnX (Str.ofString "BadStep"),
  fFa (.noat (Str.ofString "BadStep") (Str.ofString "name")),
  fExnX (Str.ofString "BadName"),
  fFa (.noat (Str.ofString "BadName") (Str.ofString "name")),
  fExnX (Str.ofString "BadPopulation"),
  fFa (.noat (Str.ofString "BadPopulation") (Str.ofString "name")),
  fExnX (Str.ofString "BadCost"),
  fFa (.noat (Str.ofString "BadCost") (Str.ofString "cost")),
  fExnX (Str.ofString "NoCell"),
  fFa (.noat (Str.ofString "NoCell") (Str.ofString "at")),
  fExnX (Str.ofString "BadLine"),
  fFa (.noat (Str.ofString "BadLine") (Str.ofString "at")),
  fExnX (Str.ofString "BadBoard"),
  fFa (.noat (Str.ofString "BadBoard") (Str.ofString "at")),
  fFa (.noat (Str.ofString "BadBoard") (Str.ofString "part")),
  fExnX (Str.ofString "TooMany"),
  fFa (.noat (Str.ofString "TooMany") (Str.ofString "what")),
  fExnX (Str.ofString "OpenFlow"),
  fFa (.noat (Str.ofString "OpenFlow") (Str.ofString "place")),
  fExnX (Str.ofString "BadOrder"),
  fFa (.noat (Str.ofString "BadOrder") (Str.ofString "order")),
  fExnX (Str.ofString "BadSubject"),
  fFa (.noat (Str.ofString "BadSubject") (Str.ofString "subject")),
  fExnX (Str.ofString "BadLast"),
  fFa (.noat (Str.ofString "BadLast") (Str.ofString "last")),
  fExnX (Str.ofString "NoOrder"),
  fFa (.noat (Str.ofString "NoOrder") (Str.ofString "events")),
  fFa (.noat (Str.ofString "NoOrder") (Str.ofString "population")),
  fExnX (Str.ofString "Refused"),
  fFa (.noat (Str.ofString "Refused") (Str.ofString "why")),
  fExnX (Str.ofString "Refusal"),
  fFa (.noat (Str.ofString "Refusal") (Str.ofString "why")),
  fExnX (Str.ofString "Stuck"),
  fFa (.noat (Str.ofString "Stuck") (Str.ofString "why")),
  fFa (.noat (Str.ofString "Refused") (Str.ofString "changed")),
  fFa (.noat (Str.ofString "Stuck") (Str.ofString "changed")),
  fFa (.noat (Str.ofString "Refused") (Str.ofString "event")),
  fFa (.noat (Str.ofString "Stuck") (Str.ofString "event")),
  fFa (.noat (Str.ofString "Stuck") (Str.ofString "stuck")),
  fGlo (Str.ofString "BadBoard"),
  fGlo (Str.ofString "BadStep"),
  fGlo (Str.ofString "BadCost"),
  fGlo (Str.ofString "BadName"),
  fGlo (Str.ofString "TooMany"),
  fGlo (Str.ofString "Nested"),
  fGlo (Str.ofString "BadGuard"),
  fGlo (Str.ofString "BadLine"),
  fGlo (Str.ofString "BadPopulation"),
  fGlo (Str.ofString "OpenFlow"),
  fGlo (Str.ofString "BadLast"),
  fGlo (Str.ofString "BadSizes"),
  fGlo (Str.ofString "BadSubject"),
  fGlo (Str.ofString "BadOrder"),
  fGlo (Str.ofString "NoCell"),
  fGlo (Str.ofString "Unknown"),
  fGlo (Str.ofString "NoOrder"),
  fGlo (Str.ofString "Stuck"),
  fGlo (Str.ofString "Refused"),
  fGlo (Str.ofString "Refusal"),
  fGlo (Str.ofString "_law_take"),
  fGlo (Str.ofString "_law_of"),
  fIs (((true, "BadPopulation"), (true, "BadName")), false),
  fIs (((true, "BadPopulation"), (true, "BadCost")), false),
  fIs (((true, "BadPopulation"), (true, "BadStep")), false),
  fIs (((true, "BadPopulation"), (true, "BadBoard")), false),
  fIs (((true, "BadPopulation"), (true, "BadLine")), false),
  fIs (((true, "BadPopulation"), (true, "BadGuard")), false),
  fIs (((true, "BadPopulation"), (true, "Nested")), false),
  fIs (((true, "BadPopulation"), (true, "TooMany")), false),
  fIs (((true, "BadPopulation"), (true, "OtherBoard")), false),
  fIs (((true, "BadPopulation"), (true, "OpenFlow")), false),
  fIs (((true, "BadPopulation"), (true, "BadPopulation")), true),
  fIs (((true, "BadPopulation"), (true, "BadOrder")), false),
  fIs (((true, "BadPopulation"), (true, "BadSubject")), false),
  fIs (((true, "BadPopulation"), (true, "BadSizes")), false),
  fIs (((true, "BadPopulation"), (true, "BadLast")), false),
  fIs (((true, "BadPopulation"), (true, "NoOrder")), false),
  fIs (((true, "BadPopulation"), (true, "Unknown")), false),
  fIs (((true, "BadPopulation"), (true, "NoCell")), false),
  fIs (((true, "BadPopulation"), (true, "Running")), false),
  fIs (((true, "BadPopulation"), (true, "Refusal")), false),
  fIs (((true, "BadPopulation"), (true, "Refused")), false),
  fIs (((true, "BadPopulation"), (true, "Stuck")), false),
  fIs (((true, "BadPopulation"), (true, "AsBeforeError")), true),
  fIs (((true, "BadPopulation"), (false, "ValueError")), true),
  fIs (((true, "BadPopulation"), (false, "LookupError")), false),
  fIs (((true, "BadPopulation"), (false, "RuntimeError")), false),
  fIs (((true, "BadPopulation"), (false, "KeyError")), false),
  fIs (((true, "BadPopulation"), (false, "IndexError")), false),
  fIs (((true, "Stuck"), (true, "BadName")), false),
  fIs (((true, "Stuck"), (true, "BadCost")), false),
  fIs (((true, "Stuck"), (true, "BadStep")), false),
  fIs (((true, "Stuck"), (true, "BadBoard")), false),
  fIs (((true, "Stuck"), (true, "BadLine")), false),
  fIs (((true, "Stuck"), (true, "BadGuard")), false),
  fIs (((true, "Stuck"), (true, "Nested")), false),
  fIs (((true, "Stuck"), (true, "TooMany")), false),
  fIs (((true, "Stuck"), (true, "OtherBoard")), false),
  fIs (((true, "Stuck"), (true, "OpenFlow")), false),
  fIs (((true, "Stuck"), (true, "BadPopulation")), false),
  fIs (((true, "Stuck"), (true, "BadOrder")), false),
  fIs (((true, "Stuck"), (true, "BadSubject")), false),
  fIs (((true, "Stuck"), (true, "BadSizes")), false),
  fIs (((true, "Stuck"), (true, "BadLast")), false),
  fIs (((true, "Stuck"), (true, "NoOrder")), false),
  fIs (((true, "Stuck"), (true, "Unknown")), false),
  fIs (((true, "Stuck"), (true, "NoCell")), false),
  fIs (((true, "Stuck"), (true, "Running")), false),
  fIs (((true, "Stuck"), (true, "Refusal")), false),
  fIs (((true, "Stuck"), (true, "Refused")), false),
  fIs (((true, "Stuck"), (true, "Stuck")), true),
  fIs (((true, "Stuck"), (true, "AsBeforeError")), false),
  fIs (((true, "Stuck"), (false, "ValueError")), false),
  fIs (((true, "Stuck"), (false, "LookupError")), false),
  fIs (((true, "Stuck"), (false, "RuntimeError")), true),
  fIs (((true, "Stuck"), (false, "KeyError")), false),
  fIs (((true, "Stuck"), (false, "IndexError")), false),
  fIs (((true, "BadName"), (true, "BadName")), true),
  fIs (((true, "BadName"), (true, "BadCost")), false),
  fIs (((true, "BadName"), (true, "BadStep")), false),
  fIs (((true, "BadName"), (true, "BadBoard")), false),
  fIs (((true, "BadName"), (true, "BadLine")), false),
  fIs (((true, "BadName"), (true, "BadGuard")), false),
  fIs (((true, "BadName"), (true, "Nested")), false),
  fIs (((true, "BadName"), (true, "TooMany")), false),
  fIs (((true, "BadName"), (true, "OtherBoard")), false),
  fIs (((true, "BadName"), (true, "OpenFlow")), false),
  fIs (((true, "BadName"), (true, "BadPopulation")), false),
  fIs (((true, "BadName"), (true, "BadOrder")), false),
  fIs (((true, "BadName"), (true, "BadSubject")), false),
  fIs (((true, "BadName"), (true, "BadSizes")), false),
  fIs (((true, "BadName"), (true, "BadLast")), false),
  fIs (((true, "BadName"), (true, "NoOrder")), false),
  fIs (((true, "BadName"), (true, "Unknown")), false),
  fIs (((true, "BadName"), (true, "NoCell")), false),
  fIs (((true, "BadName"), (true, "Running")), false),
  fIs (((true, "BadName"), (true, "Refusal")), false),
  fIs (((true, "BadName"), (true, "Refused")), false),
  fIs (((true, "BadName"), (true, "Stuck")), false),
  fIs (((true, "BadName"), (true, "AsBeforeError")), true),
  fIs (((true, "BadName"), (false, "ValueError")), true),
  fIs (((true, "BadName"), (false, "LookupError")), false),
  fIs (((true, "BadName"), (false, "RuntimeError")), false),
  fIs (((true, "BadName"), (false, "KeyError")), false),
  fIs (((true, "BadName"), (false, "IndexError")), false),
  fIs (((true, "BadCost"), (true, "BadName")), false),
  fIs (((true, "BadCost"), (true, "BadCost")), true),
  fIs (((true, "BadCost"), (true, "BadStep")), false),
  fIs (((true, "BadCost"), (true, "BadBoard")), false),
  fIs (((true, "BadCost"), (true, "BadLine")), false),
  fIs (((true, "BadCost"), (true, "BadGuard")), false),
  fIs (((true, "BadCost"), (true, "Nested")), false),
  fIs (((true, "BadCost"), (true, "TooMany")), false),
  fIs (((true, "BadCost"), (true, "OtherBoard")), false),
  fIs (((true, "BadCost"), (true, "OpenFlow")), false),
  fIs (((true, "BadCost"), (true, "BadPopulation")), false),
  fIs (((true, "BadCost"), (true, "BadOrder")), false),
  fIs (((true, "BadCost"), (true, "BadSubject")), false),
  fIs (((true, "BadCost"), (true, "BadSizes")), false),
  fIs (((true, "BadCost"), (true, "BadLast")), false),
  fIs (((true, "BadCost"), (true, "NoOrder")), false),
  fIs (((true, "BadCost"), (true, "Unknown")), false),
  fIs (((true, "BadCost"), (true, "NoCell")), false),
  fIs (((true, "BadCost"), (true, "Running")), false),
  fIs (((true, "BadCost"), (true, "Refusal")), false),
  fIs (((true, "BadCost"), (true, "Refused")), false),
  fIs (((true, "BadCost"), (true, "Stuck")), false),
  fIs (((true, "BadCost"), (true, "AsBeforeError")), true),
  fIs (((true, "BadCost"), (false, "ValueError")), true),
  fIs (((true, "BadCost"), (false, "LookupError")), false),
  fIs (((true, "BadCost"), (false, "RuntimeError")), false),
  fIs (((true, "BadCost"), (false, "KeyError")), false),
  fIs (((true, "BadCost"), (false, "IndexError")), false),
  fIs (((true, "BadStep"), (true, "BadName")), false),
  fIs (((true, "BadStep"), (true, "BadCost")), false),
  fIs (((true, "BadStep"), (true, "BadStep")), true),
  fIs (((true, "BadStep"), (true, "BadBoard")), false),
  fIs (((true, "BadStep"), (true, "BadLine")), false),
  fIs (((true, "BadStep"), (true, "BadGuard")), false),
  fIs (((true, "BadStep"), (true, "Nested")), false),
  fIs (((true, "BadStep"), (true, "TooMany")), false),
  fIs (((true, "BadStep"), (true, "OtherBoard")), false),
  fIs (((true, "BadStep"), (true, "OpenFlow")), false),
  fIs (((true, "BadStep"), (true, "BadPopulation")), false),
  fIs (((true, "BadStep"), (true, "BadOrder")), false),
  fIs (((true, "BadStep"), (true, "BadSubject")), false),
  fIs (((true, "BadStep"), (true, "BadSizes")), false),
  fIs (((true, "BadStep"), (true, "BadLast")), false),
  fIs (((true, "BadStep"), (true, "NoOrder")), false),
  fIs (((true, "BadStep"), (true, "Unknown")), false),
  fIs (((true, "BadStep"), (true, "NoCell")), false),
  fIs (((true, "BadStep"), (true, "Running")), false),
  fIs (((true, "BadStep"), (true, "Refusal")), false),
  fIs (((true, "BadStep"), (true, "Refused")), false),
  fIs (((true, "BadStep"), (true, "Stuck")), false),
  fIs (((true, "BadStep"), (true, "AsBeforeError")), true),
  fIs (((true, "BadStep"), (false, "ValueError")), true),
  fIs (((true, "BadStep"), (false, "LookupError")), false),
  fIs (((true, "BadStep"), (false, "RuntimeError")), false),
  fIs (((true, "BadStep"), (false, "KeyError")), false),
  fIs (((true, "BadStep"), (false, "IndexError")), false),
  fIs (((true, "BadBoard"), (true, "BadName")), false),
  fIs (((true, "BadBoard"), (true, "BadCost")), false),
  fIs (((true, "BadBoard"), (true, "BadStep")), false),
  fIs (((true, "BadBoard"), (true, "BadBoard")), true),
  fIs (((true, "BadBoard"), (true, "BadLine")), false),
  fIs (((true, "BadBoard"), (true, "BadGuard")), false),
  fIs (((true, "BadBoard"), (true, "Nested")), false),
  fIs (((true, "BadBoard"), (true, "TooMany")), false),
  fIs (((true, "BadBoard"), (true, "OtherBoard")), false),
  fIs (((true, "BadBoard"), (true, "OpenFlow")), false),
  fIs (((true, "BadBoard"), (true, "BadPopulation")), false),
  fIs (((true, "BadBoard"), (true, "BadOrder")), false),
  fIs (((true, "BadBoard"), (true, "BadSubject")), false),
  fIs (((true, "BadBoard"), (true, "BadSizes")), false),
  fIs (((true, "BadBoard"), (true, "BadLast")), false),
  fIs (((true, "BadBoard"), (true, "NoOrder")), false),
  fIs (((true, "BadBoard"), (true, "Unknown")), false),
  fIs (((true, "BadBoard"), (true, "NoCell")), false),
  fIs (((true, "BadBoard"), (true, "Running")), false),
  fIs (((true, "BadBoard"), (true, "Refusal")), false),
  fIs (((true, "BadBoard"), (true, "Refused")), false),
  fIs (((true, "BadBoard"), (true, "Stuck")), false),
  fIs (((true, "BadBoard"), (true, "AsBeforeError")), true),
  fIs (((true, "BadBoard"), (false, "ValueError")), true),
  fIs (((true, "BadBoard"), (false, "LookupError")), false),
  fIs (((true, "BadBoard"), (false, "RuntimeError")), false),
  fIs (((true, "BadBoard"), (false, "KeyError")), false),
  fIs (((true, "BadBoard"), (false, "IndexError")), false),
  fIs (((true, "BadLine"), (true, "BadName")), false),
  fIs (((true, "BadLine"), (true, "BadCost")), false),
  fIs (((true, "BadLine"), (true, "BadStep")), false),
  fIs (((true, "BadLine"), (true, "BadBoard")), false),
  fIs (((true, "BadLine"), (true, "BadLine")), true),
  fIs (((true, "BadLine"), (true, "BadGuard")), false),
  fIs (((true, "BadLine"), (true, "Nested")), false),
  fIs (((true, "BadLine"), (true, "TooMany")), false),
  fIs (((true, "BadLine"), (true, "OtherBoard")), false),
  fIs (((true, "BadLine"), (true, "OpenFlow")), false),
  fIs (((true, "BadLine"), (true, "BadPopulation")), false),
  fIs (((true, "BadLine"), (true, "BadOrder")), false),
  fIs (((true, "BadLine"), (true, "BadSubject")), false),
  fIs (((true, "BadLine"), (true, "BadSizes")), false),
  fIs (((true, "BadLine"), (true, "BadLast")), false),
  fIs (((true, "BadLine"), (true, "NoOrder")), false),
  fIs (((true, "BadLine"), (true, "Unknown")), false),
  fIs (((true, "BadLine"), (true, "NoCell")), false),
  fIs (((true, "BadLine"), (true, "Running")), false),
  fIs (((true, "BadLine"), (true, "Refusal")), false),
  fIs (((true, "BadLine"), (true, "Refused")), false),
  fIs (((true, "BadLine"), (true, "Stuck")), false),
  fIs (((true, "BadLine"), (true, "AsBeforeError")), true),
  fIs (((true, "BadLine"), (false, "ValueError")), true),
  fIs (((true, "BadLine"), (false, "LookupError")), false),
  fIs (((true, "BadLine"), (false, "RuntimeError")), false),
  fIs (((true, "BadLine"), (false, "KeyError")), false),
  fIs (((true, "BadLine"), (false, "IndexError")), false),
  fIs (((true, "BadGuard"), (true, "BadName")), false),
  fIs (((true, "BadGuard"), (true, "BadCost")), false),
  fIs (((true, "BadGuard"), (true, "BadStep")), false),
  fIs (((true, "BadGuard"), (true, "BadBoard")), false),
  fIs (((true, "BadGuard"), (true, "BadLine")), false),
  fIs (((true, "BadGuard"), (true, "BadGuard")), true),
  fIs (((true, "BadGuard"), (true, "Nested")), false),
  fIs (((true, "BadGuard"), (true, "TooMany")), false),
  fIs (((true, "BadGuard"), (true, "OtherBoard")), false),
  fIs (((true, "BadGuard"), (true, "OpenFlow")), false),
  fIs (((true, "BadGuard"), (true, "BadPopulation")), false),
  fIs (((true, "BadGuard"), (true, "BadOrder")), false),
  fIs (((true, "BadGuard"), (true, "BadSubject")), false),
  fIs (((true, "BadGuard"), (true, "BadSizes")), false),
  fIs (((true, "BadGuard"), (true, "BadLast")), false),
  fIs (((true, "BadGuard"), (true, "NoOrder")), false),
  fIs (((true, "BadGuard"), (true, "Unknown")), false),
  fIs (((true, "BadGuard"), (true, "NoCell")), false),
  fIs (((true, "BadGuard"), (true, "Running")), false),
  fIs (((true, "BadGuard"), (true, "Refusal")), false),
  fIs (((true, "BadGuard"), (true, "Refused")), false),
  fIs (((true, "BadGuard"), (true, "Stuck")), false),
  fIs (((true, "BadGuard"), (true, "AsBeforeError")), true),
  fIs (((true, "BadGuard"), (false, "ValueError")), true),
  fIs (((true, "BadGuard"), (false, "LookupError")), false),
  fIs (((true, "BadGuard"), (false, "RuntimeError")), false),
  fIs (((true, "BadGuard"), (false, "KeyError")), false),
  fIs (((true, "BadGuard"), (false, "IndexError")), false),
  fIs (((true, "Nested"), (true, "BadName")), false),
  fIs (((true, "Nested"), (true, "BadCost")), false),
  fIs (((true, "Nested"), (true, "BadStep")), false),
  fIs (((true, "Nested"), (true, "BadBoard")), false),
  fIs (((true, "Nested"), (true, "BadLine")), false),
  fIs (((true, "Nested"), (true, "BadGuard")), false),
  fIs (((true, "Nested"), (true, "Nested")), true),
  fIs (((true, "Nested"), (true, "TooMany")), false),
  fIs (((true, "Nested"), (true, "OtherBoard")), false),
  fIs (((true, "Nested"), (true, "OpenFlow")), false),
  fIs (((true, "Nested"), (true, "BadPopulation")), false),
  fIs (((true, "Nested"), (true, "BadOrder")), false),
  fIs (((true, "Nested"), (true, "BadSubject")), false),
  fIs (((true, "Nested"), (true, "BadSizes")), false),
  fIs (((true, "Nested"), (true, "BadLast")), false),
  fIs (((true, "Nested"), (true, "NoOrder")), false),
  fIs (((true, "Nested"), (true, "Unknown")), false),
  fIs (((true, "Nested"), (true, "NoCell")), false),
  fIs (((true, "Nested"), (true, "Running")), false),
  fIs (((true, "Nested"), (true, "Refusal")), false),
  fIs (((true, "Nested"), (true, "Refused")), false),
  fIs (((true, "Nested"), (true, "Stuck")), false),
  fIs (((true, "Nested"), (true, "AsBeforeError")), true),
  fIs (((true, "Nested"), (false, "ValueError")), true),
  fIs (((true, "Nested"), (false, "LookupError")), false),
  fIs (((true, "Nested"), (false, "RuntimeError")), false),
  fIs (((true, "Nested"), (false, "KeyError")), false),
  fIs (((true, "Nested"), (false, "IndexError")), false),
  fIs (((true, "TooMany"), (true, "BadName")), false),
  fIs (((true, "TooMany"), (true, "BadCost")), false),
  fIs (((true, "TooMany"), (true, "BadStep")), false),
  fIs (((true, "TooMany"), (true, "BadBoard")), false),
  fIs (((true, "TooMany"), (true, "BadLine")), false),
  fIs (((true, "TooMany"), (true, "BadGuard")), false),
  fIs (((true, "TooMany"), (true, "Nested")), false),
  fIs (((true, "TooMany"), (true, "TooMany")), true),
  fIs (((true, "TooMany"), (true, "OtherBoard")), false),
  fIs (((true, "TooMany"), (true, "OpenFlow")), false),
  fIs (((true, "TooMany"), (true, "BadPopulation")), false),
  fIs (((true, "TooMany"), (true, "BadOrder")), false),
  fIs (((true, "TooMany"), (true, "BadSubject")), false),
  fIs (((true, "TooMany"), (true, "BadSizes")), false),
  fIs (((true, "TooMany"), (true, "BadLast")), false),
  fIs (((true, "TooMany"), (true, "NoOrder")), false),
  fIs (((true, "TooMany"), (true, "Unknown")), false),
  fIs (((true, "TooMany"), (true, "NoCell")), false),
  fIs (((true, "TooMany"), (true, "Running")), false),
  fIs (((true, "TooMany"), (true, "Refusal")), false),
  fIs (((true, "TooMany"), (true, "Refused")), false),
  fIs (((true, "TooMany"), (true, "Stuck")), false),
  fIs (((true, "TooMany"), (true, "AsBeforeError")), true),
  fIs (((true, "TooMany"), (false, "ValueError")), true),
  fIs (((true, "TooMany"), (false, "LookupError")), false),
  fIs (((true, "TooMany"), (false, "RuntimeError")), false),
  fIs (((true, "TooMany"), (false, "KeyError")), false),
  fIs (((true, "TooMany"), (false, "IndexError")), false),
  fIs (((true, "OtherBoard"), (true, "BadName")), false),
  fExnX (Str.ofString "OtherBoard"),
  fIs (((true, "OtherBoard"), (true, "BadCost")), false),
  fIs (((true, "OtherBoard"), (true, "BadStep")), false),
  fIs (((true, "OtherBoard"), (true, "BadBoard")), false),
  fIs (((true, "OtherBoard"), (true, "BadLine")), false),
  fIs (((true, "OtherBoard"), (true, "BadGuard")), false),
  fIs (((true, "OtherBoard"), (true, "Nested")), false),
  fIs (((true, "OtherBoard"), (true, "TooMany")), false),
  fIs (((true, "OtherBoard"), (true, "OtherBoard")), true),
  fIs (((true, "OtherBoard"), (true, "OpenFlow")), false),
  fIs (((true, "OtherBoard"), (true, "BadPopulation")), false),
  fIs (((true, "OtherBoard"), (true, "BadOrder")), false),
  fIs (((true, "OtherBoard"), (true, "BadSubject")), false),
  fIs (((true, "OtherBoard"), (true, "BadSizes")), false),
  fIs (((true, "OtherBoard"), (true, "BadLast")), false),
  fIs (((true, "OtherBoard"), (true, "NoOrder")), false),
  fIs (((true, "OtherBoard"), (true, "Unknown")), false),
  fIs (((true, "OtherBoard"), (true, "NoCell")), false),
  fIs (((true, "OtherBoard"), (true, "Running")), false),
  fIs (((true, "OtherBoard"), (true, "Refusal")), false),
  fIs (((true, "OtherBoard"), (true, "Refused")), false),
  fIs (((true, "OtherBoard"), (true, "Stuck")), false),
  fIs (((true, "OtherBoard"), (true, "AsBeforeError")), true),
  fIs (((true, "OtherBoard"), (false, "ValueError")), true),
  fIs (((true, "OtherBoard"), (false, "LookupError")), false),
  fIs (((true, "OtherBoard"), (false, "RuntimeError")), false),
  fIs (((true, "OtherBoard"), (false, "KeyError")), false),
  fIs (((true, "OtherBoard"), (false, "IndexError")), false),
  fIs (((true, "OpenFlow"), (true, "BadName")), false),
  fIs (((true, "OpenFlow"), (true, "BadCost")), false),
  fIs (((true, "OpenFlow"), (true, "BadStep")), false),
  fIs (((true, "OpenFlow"), (true, "BadBoard")), false),
  fIs (((true, "OpenFlow"), (true, "BadLine")), false),
  fIs (((true, "OpenFlow"), (true, "BadGuard")), false),
  fIs (((true, "OpenFlow"), (true, "Nested")), false),
  fIs (((true, "OpenFlow"), (true, "TooMany")), false),
  fIs (((true, "OpenFlow"), (true, "OtherBoard")), false),
  fIs (((true, "OpenFlow"), (true, "OpenFlow")), true),
  fIs (((true, "OpenFlow"), (true, "BadPopulation")), false),
  fIs (((true, "OpenFlow"), (true, "BadOrder")), false),
  fIs (((true, "OpenFlow"), (true, "BadSubject")), false),
  fIs (((true, "OpenFlow"), (true, "BadSizes")), false),
  fIs (((true, "OpenFlow"), (true, "BadLast")), false),
  fIs (((true, "OpenFlow"), (true, "NoOrder")), false),
  fIs (((true, "OpenFlow"), (true, "Unknown")), false),
  fIs (((true, "OpenFlow"), (true, "NoCell")), false),
  fIs (((true, "OpenFlow"), (true, "Running")), false),
  fIs (((true, "OpenFlow"), (true, "Refusal")), false),
  fIs (((true, "OpenFlow"), (true, "Refused")), false),
  fIs (((true, "OpenFlow"), (true, "Stuck")), false),
  fIs (((true, "OpenFlow"), (true, "AsBeforeError")), true),
  fIs (((true, "OpenFlow"), (false, "ValueError")), true),
  fIs (((true, "OpenFlow"), (false, "LookupError")), false),
  fIs (((true, "OpenFlow"), (false, "RuntimeError")), false),
  fIs (((true, "OpenFlow"), (false, "KeyError")), false),
  fIs (((true, "OpenFlow"), (false, "IndexError")), false),
  fIs (((true, "BadOrder"), (true, "BadName")), false),
  fIs (((true, "BadOrder"), (true, "BadCost")), false),
  fIs (((true, "BadOrder"), (true, "BadStep")), false),
  fIs (((true, "BadOrder"), (true, "BadBoard")), false),
  fIs (((true, "BadOrder"), (true, "BadLine")), false),
  fIs (((true, "BadOrder"), (true, "BadGuard")), false),
  fIs (((true, "BadOrder"), (true, "Nested")), false),
  fIs (((true, "BadOrder"), (true, "TooMany")), false),
  fIs (((true, "BadOrder"), (true, "OtherBoard")), false),
  fIs (((true, "BadOrder"), (true, "OpenFlow")), false),
  fIs (((true, "BadOrder"), (true, "BadPopulation")), false),
  fIs (((true, "BadOrder"), (true, "BadOrder")), true),
  fIs (((true, "BadOrder"), (true, "BadSubject")), false),
  fIs (((true, "BadOrder"), (true, "BadSizes")), false),
  fIs (((true, "BadOrder"), (true, "BadLast")), false),
  fIs (((true, "BadOrder"), (true, "NoOrder")), false),
  fIs (((true, "BadOrder"), (true, "Unknown")), false),
  fIs (((true, "BadOrder"), (true, "NoCell")), false),
  fIs (((true, "BadOrder"), (true, "Running")), false),
  fIs (((true, "BadOrder"), (true, "Refusal")), false),
  fIs (((true, "BadOrder"), (true, "Refused")), false),
  fIs (((true, "BadOrder"), (true, "Stuck")), false),
  fIs (((true, "BadOrder"), (true, "AsBeforeError")), true),
  fIs (((true, "BadOrder"), (false, "ValueError")), true),
  fIs (((true, "BadOrder"), (false, "LookupError")), false),
  fIs (((true, "BadOrder"), (false, "RuntimeError")), false),
  fIs (((true, "BadOrder"), (false, "KeyError")), false),
  fIs (((true, "BadOrder"), (false, "IndexError")), false),
  fIs (((true, "BadSubject"), (true, "BadName")), false),
  fIs (((true, "BadSubject"), (true, "BadCost")), false),
  fIs (((true, "BadSubject"), (true, "BadStep")), false),
  fIs (((true, "BadSubject"), (true, "BadBoard")), false),
  fIs (((true, "BadSubject"), (true, "BadLine")), false),
  fIs (((true, "BadSubject"), (true, "BadGuard")), false),
  fIs (((true, "BadSubject"), (true, "Nested")), false),
  fIs (((true, "BadSubject"), (true, "TooMany")), false),
  fIs (((true, "BadSubject"), (true, "OtherBoard")), false),
  fIs (((true, "BadSubject"), (true, "OpenFlow")), false),
  fIs (((true, "BadSubject"), (true, "BadPopulation")), false),
  fIs (((true, "BadSubject"), (true, "BadOrder")), false),
  fIs (((true, "BadSubject"), (true, "BadSubject")), true),
  fIs (((true, "BadSubject"), (true, "BadSizes")), false),
  fIs (((true, "BadSubject"), (true, "BadLast")), false),
  fIs (((true, "BadSubject"), (true, "NoOrder")), false),
  fIs (((true, "BadSubject"), (true, "Unknown")), false),
  fIs (((true, "BadSubject"), (true, "NoCell")), false),
  fIs (((true, "BadSubject"), (true, "Running")), false),
  fIs (((true, "BadSubject"), (true, "Refusal")), false),
  fIs (((true, "BadSubject"), (true, "Refused")), false),
  fIs (((true, "BadSubject"), (true, "Stuck")), false),
  fIs (((true, "BadSubject"), (true, "AsBeforeError")), true),
  fIs (((true, "BadSubject"), (false, "ValueError")), true),
  fIs (((true, "BadSubject"), (false, "LookupError")), false),
  fIs (((true, "BadSubject"), (false, "RuntimeError")), false),
  fIs (((true, "BadSubject"), (false, "KeyError")), false),
  fIs (((true, "BadSubject"), (false, "IndexError")), false),
  fIs (((true, "BadSizes"), (true, "BadName")), false),
  fIs (((true, "BadSizes"), (true, "BadCost")), false),
  fIs (((true, "BadSizes"), (true, "BadStep")), false),
  fIs (((true, "BadSizes"), (true, "BadBoard")), false),
  fIs (((true, "BadSizes"), (true, "BadLine")), false),
  fIs (((true, "BadSizes"), (true, "BadGuard")), false),
  fIs (((true, "BadSizes"), (true, "Nested")), false),
  fIs (((true, "BadSizes"), (true, "TooMany")), false),
  fIs (((true, "BadSizes"), (true, "OtherBoard")), false),
  fIs (((true, "BadSizes"), (true, "OpenFlow")), false),
  fIs (((true, "BadSizes"), (true, "BadPopulation")), false),
  fIs (((true, "BadSizes"), (true, "BadOrder")), false),
  fIs (((true, "BadSizes"), (true, "BadSubject")), false),
  fIs (((true, "BadSizes"), (true, "BadSizes")), true),
  fIs (((true, "BadSizes"), (true, "BadLast")), false),
  fIs (((true, "BadSizes"), (true, "NoOrder")), false),
  fIs (((true, "BadSizes"), (true, "Unknown")), false),
  fIs (((true, "BadSizes"), (true, "NoCell")), false),
  fIs (((true, "BadSizes"), (true, "Running")), false),
  fIs (((true, "BadSizes"), (true, "Refusal")), false),
  fIs (((true, "BadSizes"), (true, "Refused")), false),
  fIs (((true, "BadSizes"), (true, "Stuck")), false),
  fIs (((true, "BadSizes"), (true, "AsBeforeError")), true),
  fIs (((true, "BadSizes"), (false, "ValueError")), true),
  fIs (((true, "BadSizes"), (false, "LookupError")), false),
  fIs (((true, "BadSizes"), (false, "RuntimeError")), false),
  fIs (((true, "BadSizes"), (false, "KeyError")), false),
  fIs (((true, "BadSizes"), (false, "IndexError")), false),
  fIs (((true, "BadLast"), (true, "BadName")), false),
  fIs (((true, "BadLast"), (true, "BadCost")), false),
  fIs (((true, "BadLast"), (true, "BadStep")), false),
  fIs (((true, "BadLast"), (true, "BadBoard")), false),
  fIs (((true, "BadLast"), (true, "BadLine")), false),
  fIs (((true, "BadLast"), (true, "BadGuard")), false),
  fIs (((true, "BadLast"), (true, "Nested")), false),
  fIs (((true, "BadLast"), (true, "TooMany")), false),
  fIs (((true, "BadLast"), (true, "OtherBoard")), false),
  fIs (((true, "BadLast"), (true, "OpenFlow")), false),
  fIs (((true, "BadLast"), (true, "BadPopulation")), false),
  fIs (((true, "BadLast"), (true, "BadOrder")), false),
  fIs (((true, "BadLast"), (true, "BadSubject")), false),
  fIs (((true, "BadLast"), (true, "BadSizes")), false),
  fIs (((true, "BadLast"), (true, "BadLast")), true),
  fIs (((true, "BadLast"), (true, "NoOrder")), false),
  fIs (((true, "BadLast"), (true, "Unknown")), false),
  fIs (((true, "BadLast"), (true, "NoCell")), false),
  fIs (((true, "BadLast"), (true, "Running")), false),
  fIs (((true, "BadLast"), (true, "Refusal")), false),
  fIs (((true, "BadLast"), (true, "Refused")), false),
  fIs (((true, "BadLast"), (true, "Stuck")), false),
  fIs (((true, "BadLast"), (true, "AsBeforeError")), true),
  fIs (((true, "BadLast"), (false, "ValueError")), true),
  fIs (((true, "BadLast"), (false, "LookupError")), false),
  fIs (((true, "BadLast"), (false, "RuntimeError")), false),
  fIs (((true, "BadLast"), (false, "KeyError")), false),
  fIs (((true, "BadLast"), (false, "IndexError")), false),
  fIs (((true, "NoOrder"), (true, "BadName")), false),
  fIs (((true, "NoOrder"), (true, "BadCost")), false),
  fIs (((true, "NoOrder"), (true, "BadStep")), false),
  fIs (((true, "NoOrder"), (true, "BadBoard")), false),
  fIs (((true, "NoOrder"), (true, "BadLine")), false),
  fIs (((true, "NoOrder"), (true, "BadGuard")), false),
  fIs (((true, "NoOrder"), (true, "Nested")), false),
  fIs (((true, "NoOrder"), (true, "TooMany")), false),
  fIs (((true, "NoOrder"), (true, "OtherBoard")), false),
  fIs (((true, "NoOrder"), (true, "OpenFlow")), false),
  fIs (((true, "NoOrder"), (true, "BadPopulation")), false),
  fIs (((true, "NoOrder"), (true, "BadOrder")), false),
  fIs (((true, "NoOrder"), (true, "BadSubject")), false),
  fIs (((true, "NoOrder"), (true, "BadSizes")), false),
  fIs (((true, "NoOrder"), (true, "BadLast")), false),
  fIs (((true, "NoOrder"), (true, "NoOrder")), true),
  fIs (((true, "NoOrder"), (true, "Unknown")), false),
  fIs (((true, "NoOrder"), (true, "NoCell")), false),
  fIs (((true, "NoOrder"), (true, "Running")), false),
  fIs (((true, "NoOrder"), (true, "Refusal")), false),
  fIs (((true, "NoOrder"), (true, "Refused")), false),
  fIs (((true, "NoOrder"), (true, "Stuck")), false),
  fIs (((true, "NoOrder"), (true, "AsBeforeError")), true),
  fIs (((true, "NoOrder"), (false, "ValueError")), true),
  fIs (((true, "NoOrder"), (false, "LookupError")), false),
  fIs (((true, "NoOrder"), (false, "RuntimeError")), false),
  fIs (((true, "NoOrder"), (false, "KeyError")), false),
  fIs (((true, "NoOrder"), (false, "IndexError")), false),
  fIs (((true, "Unknown"), (true, "BadName")), false),
  fIs (((true, "Unknown"), (true, "BadCost")), false),
  fIs (((true, "Unknown"), (true, "BadStep")), false),
  fIs (((true, "Unknown"), (true, "BadBoard")), false),
  fIs (((true, "Unknown"), (true, "BadLine")), false),
  fIs (((true, "Unknown"), (true, "BadGuard")), false),
  fIs (((true, "Unknown"), (true, "Nested")), false),
  fIs (((true, "Unknown"), (true, "TooMany")), false),
  fIs (((true, "Unknown"), (true, "OtherBoard")), false),
  fIs (((true, "Unknown"), (true, "OpenFlow")), false),
  fIs (((true, "Unknown"), (true, "BadPopulation")), false),
  fIs (((true, "Unknown"), (true, "BadOrder")), false),
  fIs (((true, "Unknown"), (true, "BadSubject")), false),
  fIs (((true, "Unknown"), (true, "BadSizes")), false),
  fIs (((true, "Unknown"), (true, "BadLast")), false),
  fIs (((true, "Unknown"), (true, "NoOrder")), false),
  fIs (((true, "Unknown"), (true, "Unknown")), true),
  fIs (((true, "Unknown"), (true, "NoCell")), false),
  fIs (((true, "Unknown"), (true, "Running")), false),
  fIs (((true, "Unknown"), (true, "Refusal")), false),
  fIs (((true, "Unknown"), (true, "Refused")), false),
  fIs (((true, "Unknown"), (true, "Stuck")), false),
  fIs (((true, "Unknown"), (true, "AsBeforeError")), false),
  fIs (((true, "Unknown"), (false, "ValueError")), false),
  fIs (((true, "Unknown"), (false, "LookupError")), true),
  fIs (((true, "Unknown"), (false, "RuntimeError")), false),
  fIs (((true, "Unknown"), (false, "KeyError")), false),
  fIs (((true, "Unknown"), (false, "IndexError")), false),
  fIs (((true, "NoCell"), (true, "BadName")), false),
  fIs (((true, "NoCell"), (true, "BadCost")), false),
  fIs (((true, "NoCell"), (true, "BadStep")), false),
  fIs (((true, "NoCell"), (true, "BadBoard")), false),
  fIs (((true, "NoCell"), (true, "BadLine")), false),
  fIs (((true, "NoCell"), (true, "BadGuard")), false),
  fIs (((true, "NoCell"), (true, "Nested")), false),
  fIs (((true, "NoCell"), (true, "TooMany")), false),
  fIs (((true, "NoCell"), (true, "OtherBoard")), false),
  fIs (((true, "NoCell"), (true, "OpenFlow")), false),
  fIs (((true, "NoCell"), (true, "BadPopulation")), false),
  fIs (((true, "NoCell"), (true, "BadOrder")), false),
  fIs (((true, "NoCell"), (true, "BadSubject")), false),
  fIs (((true, "NoCell"), (true, "BadSizes")), false),
  fIs (((true, "NoCell"), (true, "BadLast")), false),
  fIs (((true, "NoCell"), (true, "NoOrder")), false),
  fIs (((true, "NoCell"), (true, "Unknown")), false),
  fIs (((true, "NoCell"), (true, "NoCell")), true),
  fIs (((true, "NoCell"), (true, "Running")), false),
  fIs (((true, "NoCell"), (true, "Refusal")), false),
  fIs (((true, "NoCell"), (true, "Refused")), false),
  fIs (((true, "NoCell"), (true, "Stuck")), false),
  fIs (((true, "NoCell"), (true, "AsBeforeError")), false),
  fIs (((true, "NoCell"), (false, "ValueError")), false),
  fIs (((true, "NoCell"), (false, "LookupError")), true),
  fIs (((true, "NoCell"), (false, "RuntimeError")), false),
  fIs (((true, "NoCell"), (false, "KeyError")), false),
  fIs (((true, "NoCell"), (false, "IndexError")), false),
  fIs (((true, "Running"), (true, "BadName")), false),
  fExnX (Str.ofString "Running"),
  fIs (((true, "Running"), (true, "BadCost")), false),
  fIs (((true, "Running"), (true, "BadStep")), false),
  fIs (((true, "Running"), (true, "BadBoard")), false),
  fIs (((true, "Running"), (true, "BadLine")), false),
  fIs (((true, "Running"), (true, "BadGuard")), false),
  fIs (((true, "Running"), (true, "Nested")), false),
  fIs (((true, "Running"), (true, "TooMany")), false),
  fIs (((true, "Running"), (true, "OtherBoard")), false),
  fIs (((true, "Running"), (true, "OpenFlow")), false),
  fIs (((true, "Running"), (true, "BadPopulation")), false),
  fIs (((true, "Running"), (true, "BadOrder")), false),
  fIs (((true, "Running"), (true, "BadSubject")), false),
  fIs (((true, "Running"), (true, "BadSizes")), false),
  fIs (((true, "Running"), (true, "BadLast")), false),
  fIs (((true, "Running"), (true, "NoOrder")), false),
  fIs (((true, "Running"), (true, "Unknown")), false),
  fIs (((true, "Running"), (true, "NoCell")), false),
  fIs (((true, "Running"), (true, "Running")), true),
  fIs (((true, "Running"), (true, "Refusal")), false),
  fIs (((true, "Running"), (true, "Refused")), false),
  fIs (((true, "Running"), (true, "Stuck")), false),
  fIs (((true, "Running"), (true, "AsBeforeError")), false),
  fIs (((true, "Running"), (false, "ValueError")), false),
  fIs (((true, "Running"), (false, "LookupError")), false),
  fIs (((true, "Running"), (false, "RuntimeError")), true),
  fIs (((true, "Running"), (false, "KeyError")), false),
  fIs (((true, "Running"), (false, "IndexError")), false),
  fIs (((true, "Refusal"), (true, "BadName")), false),
  fIs (((true, "Refusal"), (true, "BadCost")), false),
  fIs (((true, "Refusal"), (true, "BadStep")), false),
  fIs (((true, "Refusal"), (true, "BadBoard")), false),
  fIs (((true, "Refusal"), (true, "BadLine")), false),
  fIs (((true, "Refusal"), (true, "BadGuard")), false),
  fIs (((true, "Refusal"), (true, "Nested")), false),
  fIs (((true, "Refusal"), (true, "TooMany")), false),
  fIs (((true, "Refusal"), (true, "OtherBoard")), false),
  fIs (((true, "Refusal"), (true, "OpenFlow")), false),
  fIs (((true, "Refusal"), (true, "BadPopulation")), false),
  fIs (((true, "Refusal"), (true, "BadOrder")), false),
  fIs (((true, "Refusal"), (true, "BadSubject")), false),
  fIs (((true, "Refusal"), (true, "BadSizes")), false),
  fIs (((true, "Refusal"), (true, "BadLast")), false),
  fIs (((true, "Refusal"), (true, "NoOrder")), false),
  fIs (((true, "Refusal"), (true, "Unknown")), false),
  fIs (((true, "Refusal"), (true, "NoCell")), false),
  fIs (((true, "Refusal"), (true, "Running")), false),
  fIs (((true, "Refusal"), (true, "Refusal")), true),
  fIs (((true, "Refusal"), (true, "Refused")), false),
  fIs (((true, "Refusal"), (true, "Stuck")), false),
  fIs (((true, "Refusal"), (true, "AsBeforeError")), false),
  fIs (((true, "Refusal"), (false, "ValueError")), false),
  fIs (((true, "Refusal"), (false, "LookupError")), false),
  fIs (((true, "Refusal"), (false, "RuntimeError")), true),
  fIs (((true, "Refusal"), (false, "KeyError")), false),
  fIs (((true, "Refusal"), (false, "IndexError")), false),
  fIs (((true, "Refused"), (true, "BadName")), false),
  fIs (((true, "Refused"), (true, "BadCost")), false),
  fIs (((true, "Refused"), (true, "BadStep")), false),
  fIs (((true, "Refused"), (true, "BadBoard")), false),
  fIs (((true, "Refused"), (true, "BadLine")), false),
  fIs (((true, "Refused"), (true, "BadGuard")), false),
  fIs (((true, "Refused"), (true, "Nested")), false),
  fIs (((true, "Refused"), (true, "TooMany")), false),
  fIs (((true, "Refused"), (true, "OtherBoard")), false),
  fIs (((true, "Refused"), (true, "OpenFlow")), false),
  fIs (((true, "Refused"), (true, "BadPopulation")), false),
  fIs (((true, "Refused"), (true, "BadOrder")), false),
  fIs (((true, "Refused"), (true, "BadSubject")), false),
  fIs (((true, "Refused"), (true, "BadSizes")), false),
  fIs (((true, "Refused"), (true, "BadLast")), false),
  fIs (((true, "Refused"), (true, "NoOrder")), false),
  fIs (((true, "Refused"), (true, "Unknown")), false),
  fIs (((true, "Refused"), (true, "NoCell")), false),
  fIs (((true, "Refused"), (true, "Running")), false),
  fIs (((true, "Refused"), (true, "Refusal")), false),
  fIs (((true, "Refused"), (true, "Refused")), true),
  fIs (((true, "Refused"), (true, "Stuck")), false),
  fIs (((true, "Refused"), (true, "AsBeforeError")), false),
  fIs (((true, "Refused"), (false, "ValueError")), false),
  fIs (((true, "Refused"), (false, "LookupError")), false),
  fIs (((true, "Refused"), (false, "RuntimeError")), true),
  fIs (((true, "Refused"), (false, "KeyError")), false),
  fIs (((true, "Refused"), (false, "IndexError")), false),
  fEinX (Str.ofString "BadName") (Str.ofString "BadName"),
  fEinX (Str.ofString "BadCost") (Str.ofString "BadCost"),
  fEinX (Str.ofString "BadStep") (Str.ofString "BadStep"),
  fEinX (Str.ofString "BadBoard") (Str.ofString "BadBoard"),
  fEinX (Str.ofString "BadLine") (Str.ofString "BadLine"),
  fEinX (Str.ofString "BadGuard") (Str.ofString "BadGuard"),
  fEinX (Str.ofString "Nested") (Str.ofString "Nested"),
  fEinX (Str.ofString "TooMany") (Str.ofString "TooMany"),
  fEinX (Str.ofString "OpenFlow") (Str.ofString "OpenFlow"),
  fEinX (Str.ofString "BadPopulation") (Str.ofString "BadPopulation"),
  fEinX (Str.ofString "BadOrder") (Str.ofString "BadOrder"),
  fEinX (Str.ofString "BadSubject") (Str.ofString "BadSubject"),
  fEinX (Str.ofString "BadSizes") (Str.ofString "BadSizes"),
  fEinX (Str.ofString "BadLast") (Str.ofString "BadLast"),
  fEinX (Str.ofString "NoOrder") (Str.ofString "NoOrder"),
  fEinX (Str.ofString "Unknown") (Str.ofString "Unknown"),
  fEinX (Str.ofString "NoCell") (Str.ofString "NoCell"),
  fEinX (Str.ofString "Refusal") (Str.ofString "Refusal"),
  fEinX (Str.ofString "Refused") (Str.ofString "Refused"),
  fEinX (Str.ofString "Stuck") (Str.ofString "Stuck")]
abbrev Fct (P : Program) (K : PySem.W.Frag) (mg : Str → Option Value) : Prop := FctOf fa fn (Str.ofString "/claim/cut.py") P K mg
section
variable {P : Program} {w : World} {K : PySem.W.Frag} {mg : Str → Option Value} {base : Heap}
theorem isT_ok (F : Fct P K mg) : IsOk K isT :=  isok_nil
theorem isE_ok (F : Fct P K mg) : IsOkE K isE := (isX_cons (F.c.fact 97) (F.c.fact 40) (isX_cons (F.c.fact 98) (F.c.fact 40) (isX_cons (F.c.fact 99) (F.c.fact 40) (isX_cons (F.c.fact 100) (F.c.fact 40) (isX_cons (F.c.fact 101) (F.c.fact 40) (isX_cons (F.c.fact 102) (F.c.fact 40) (isX_cons (F.c.fact 103) (F.c.fact 40) (isX_cons (F.c.fact 104) (F.c.fact 40) (isX_cons (F.c.fact 105) (F.c.fact 40) (isX_cons (F.c.fact 106) (F.c.fact 40) (isX_cons (F.c.fact 107) (F.c.fact 40) (isX_cons (F.c.fact 108) (F.c.fact 40) (isX_cons (F.c.fact 109) (F.c.fact 40) (isX_cons (F.c.fact 110) (F.c.fact 40) (isX_cons (F.c.fact 111) (F.c.fact 40) (isX_cons (F.c.fact 112) (F.c.fact 40) (isX_cons (F.c.fact 113) (F.c.fact 40) (isX_cons (F.c.fact 114) (F.c.fact 40) (isX_cons (F.c.fact 115) (F.c.fact 40) (isX_cons (F.c.fact 116) (F.c.fact 40) (isX_cons (F.c.fact 117) (F.c.fact 40) (isX_cons (F.c.fact 118) (F.c.fact 40) (isX_cons (F.c.fact 119) (F.c.fact 40) (isX_cons (F.c.fact 120) (F.c.fact 40) (isX_cons (F.c.fact 121) (F.c.fact 40) (isX_cons (F.c.fact 122) (F.c.fact 40) (isX_cons (F.c.fact 123) (F.c.fact 40) (isX_cons (F.c.fact 124) (F.c.fact 40) (isX_cons (F.c.fact 125) (F.c.fact 68) (isX_cons (F.c.fact 126) (F.c.fact 68) (isX_cons (F.c.fact 127) (F.c.fact 68) (isX_cons (F.c.fact 128) (F.c.fact 68) (isX_cons (F.c.fact 129) (F.c.fact 68) (isX_cons (F.c.fact 130) (F.c.fact 68) (isX_cons (F.c.fact 131) (F.c.fact 68) (isX_cons (F.c.fact 132) (F.c.fact 68) (isX_cons (F.c.fact 133) (F.c.fact 68) (isX_cons (F.c.fact 134) (F.c.fact 68) (isX_cons (F.c.fact 135) (F.c.fact 68) (isX_cons (F.c.fact 136) (F.c.fact 68) (isX_cons (F.c.fact 137) (F.c.fact 68) (isX_cons (F.c.fact 138) (F.c.fact 68) (isX_cons (F.c.fact 139) (F.c.fact 68) (isX_cons (F.c.fact 140) (F.c.fact 68) (isX_cons (F.c.fact 141) (F.c.fact 68) (isX_cons (F.c.fact 142) (F.c.fact 68) (isX_cons (F.c.fact 143) (F.c.fact 68) (isX_cons (F.c.fact 144) (F.c.fact 68) (isX_cons (F.c.fact 145) (F.c.fact 68) (isX_cons (F.c.fact 146) (F.c.fact 68) (isX_cons (F.c.fact 147) (F.c.fact 68) (isX_cons (F.c.fact 148) (F.c.fact 68) (isX_cons (F.c.fact 149) (F.c.fact 68) (isX_cons (F.c.fact 150) (F.c.fact 68) (isX_cons (F.c.fact 151) (F.c.fact 68) (isX_cons (F.c.fact 152) (F.c.fact 68) (isX_cons (F.c.fact 153) (F.c.fact 38) (isX_cons (F.c.fact 154) (F.c.fact 38) (isX_cons (F.c.fact 155) (F.c.fact 38) (isX_cons (F.c.fact 156) (F.c.fact 38) (isX_cons (F.c.fact 157) (F.c.fact 38) (isX_cons (F.c.fact 158) (F.c.fact 38) (isX_cons (F.c.fact 159) (F.c.fact 38) (isX_cons (F.c.fact 160) (F.c.fact 38) (isX_cons (F.c.fact 161) (F.c.fact 38) (isX_cons (F.c.fact 162) (F.c.fact 38) (isX_cons (F.c.fact 163) (F.c.fact 38) (isX_cons (F.c.fact 164) (F.c.fact 38) (isX_cons (F.c.fact 165) (F.c.fact 38) (isX_cons (F.c.fact 166) (F.c.fact 38) (isX_cons (F.c.fact 167) (F.c.fact 38) (isX_cons (F.c.fact 168) (F.c.fact 38) (isX_cons (F.c.fact 169) (F.c.fact 38) (isX_cons (F.c.fact 170) (F.c.fact 38) (isX_cons (F.c.fact 171) (F.c.fact 38) (isX_cons (F.c.fact 172) (F.c.fact 38) (isX_cons (F.c.fact 173) (F.c.fact 38) (isX_cons (F.c.fact 174) (F.c.fact 38) (isX_cons (F.c.fact 175) (F.c.fact 38) (isX_cons (F.c.fact 176) (F.c.fact 38) (isX_cons (F.c.fact 177) (F.c.fact 38) (isX_cons (F.c.fact 178) (F.c.fact 38) (isX_cons (F.c.fact 179) (F.c.fact 38) (isX_cons (F.c.fact 180) (F.c.fact 38) (isX_cons (F.c.fact 181) (F.c.fact 42) (isX_cons (F.c.fact 182) (F.c.fact 42) (isX_cons (F.c.fact 183) (F.c.fact 42) (isX_cons (F.c.fact 184) (F.c.fact 42) (isX_cons (F.c.fact 185) (F.c.fact 42) (isX_cons (F.c.fact 186) (F.c.fact 42) (isX_cons (F.c.fact 187) (F.c.fact 42) (isX_cons (F.c.fact 188) (F.c.fact 42) (isX_cons (F.c.fact 189) (F.c.fact 42) (isX_cons (F.c.fact 190) (F.c.fact 42) (isX_cons (F.c.fact 191) (F.c.fact 42) (isX_cons (F.c.fact 192) (F.c.fact 42) (isX_cons (F.c.fact 193) (F.c.fact 42) (isX_cons (F.c.fact 194) (F.c.fact 42) (isX_cons (F.c.fact 195) (F.c.fact 42) (isX_cons (F.c.fact 196) (F.c.fact 42) (isX_cons (F.c.fact 197) (F.c.fact 42) (isX_cons (F.c.fact 198) (F.c.fact 42) (isX_cons (F.c.fact 199) (F.c.fact 42) (isX_cons (F.c.fact 200) (F.c.fact 42) (isX_cons (F.c.fact 201) (F.c.fact 42) (isX_cons (F.c.fact 202) (F.c.fact 42) (isX_cons (F.c.fact 203) (F.c.fact 42) (isX_cons (F.c.fact 204) (F.c.fact 42) (isX_cons (F.c.fact 205) (F.c.fact 42) (isX_cons (F.c.fact 206) (F.c.fact 42) (isX_cons (F.c.fact 207) (F.c.fact 42) (isX_cons (F.c.fact 208) (F.c.fact 42) (isX_cons (F.c.fact 209) (F.c.fact 36) (isX_cons (F.c.fact 210) (F.c.fact 36) (isX_cons (F.c.fact 211) (F.c.fact 36) (isX_cons (F.c.fact 212) (F.c.fact 36) (isX_cons (F.c.fact 213) (F.c.fact 36) (isX_cons (F.c.fact 214) (F.c.fact 36) (isX_cons (F.c.fact 215) (F.c.fact 36) (isX_cons (F.c.fact 216) (F.c.fact 36) (isX_cons (F.c.fact 217) (F.c.fact 36) (isX_cons (F.c.fact 218) (F.c.fact 36) (isX_cons (F.c.fact 219) (F.c.fact 36) (isX_cons (F.c.fact 220) (F.c.fact 36) (isX_cons (F.c.fact 221) (F.c.fact 36) (isX_cons (F.c.fact 222) (F.c.fact 36) (isX_cons (F.c.fact 223) (F.c.fact 36) (isX_cons (F.c.fact 224) (F.c.fact 36) (isX_cons (F.c.fact 225) (F.c.fact 36) (isX_cons (F.c.fact 226) (F.c.fact 36) (isX_cons (F.c.fact 227) (F.c.fact 36) (isX_cons (F.c.fact 228) (F.c.fact 36) (isX_cons (F.c.fact 229) (F.c.fact 36) (isX_cons (F.c.fact 230) (F.c.fact 36) (isX_cons (F.c.fact 231) (F.c.fact 36) (isX_cons (F.c.fact 232) (F.c.fact 36) (isX_cons (F.c.fact 233) (F.c.fact 36) (isX_cons (F.c.fact 234) (F.c.fact 36) (isX_cons (F.c.fact 235) (F.c.fact 36) (isX_cons (F.c.fact 236) (F.c.fact 36) (isX_cons (F.c.fact 237) (F.c.fact 48) (isX_cons (F.c.fact 238) (F.c.fact 48) (isX_cons (F.c.fact 239) (F.c.fact 48) (isX_cons (F.c.fact 240) (F.c.fact 48) (isX_cons (F.c.fact 241) (F.c.fact 48) (isX_cons (F.c.fact 242) (F.c.fact 48) (isX_cons (F.c.fact 243) (F.c.fact 48) (isX_cons (F.c.fact 244) (F.c.fact 48) (isX_cons (F.c.fact 245) (F.c.fact 48) (isX_cons (F.c.fact 246) (F.c.fact 48) (isX_cons (F.c.fact 247) (F.c.fact 48) (isX_cons (F.c.fact 248) (F.c.fact 48) (isX_cons (F.c.fact 249) (F.c.fact 48) (isX_cons (F.c.fact 250) (F.c.fact 48) (isX_cons (F.c.fact 251) (F.c.fact 48) (isX_cons (F.c.fact 252) (F.c.fact 48) (isX_cons (F.c.fact 253) (F.c.fact 48) (isX_cons (F.c.fact 254) (F.c.fact 48) (isX_cons (F.c.fact 255) (F.c.fact 48) (isX_cons (F.c.fact 256) (F.c.fact 48) (isX_cons (F.c.fact 257) (F.c.fact 48) (isX_cons (F.c.fact 258) (F.c.fact 48) (isX_cons (F.c.fact 259) (F.c.fact 48) (isX_cons (F.c.fact 260) (F.c.fact 48) (isX_cons (F.c.fact 261) (F.c.fact 48) (isX_cons (F.c.fact 262) (F.c.fact 48) (isX_cons (F.c.fact 263) (F.c.fact 48) (isX_cons (F.c.fact 264) (F.c.fact 48) (isX_cons (F.c.fact 265) (F.c.fact 46) (isX_cons (F.c.fact 266) (F.c.fact 46) (isX_cons (F.c.fact 267) (F.c.fact 46) (isX_cons (F.c.fact 268) (F.c.fact 46) (isX_cons (F.c.fact 269) (F.c.fact 46) (isX_cons (F.c.fact 270) (F.c.fact 46) (isX_cons (F.c.fact 271) (F.c.fact 46) (isX_cons (F.c.fact 272) (F.c.fact 46) (isX_cons (F.c.fact 273) (F.c.fact 46) (isX_cons (F.c.fact 274) (F.c.fact 46) (isX_cons (F.c.fact 275) (F.c.fact 46) (isX_cons (F.c.fact 276) (F.c.fact 46) (isX_cons (F.c.fact 277) (F.c.fact 46) (isX_cons (F.c.fact 278) (F.c.fact 46) (isX_cons (F.c.fact 279) (F.c.fact 46) (isX_cons (F.c.fact 280) (F.c.fact 46) (isX_cons (F.c.fact 281) (F.c.fact 46) (isX_cons (F.c.fact 282) (F.c.fact 46) (isX_cons (F.c.fact 283) (F.c.fact 46) (isX_cons (F.c.fact 284) (F.c.fact 46) (isX_cons (F.c.fact 285) (F.c.fact 46) (isX_cons (F.c.fact 286) (F.c.fact 46) (isX_cons (F.c.fact 287) (F.c.fact 46) (isX_cons (F.c.fact 288) (F.c.fact 46) (isX_cons (F.c.fact 289) (F.c.fact 46) (isX_cons (F.c.fact 290) (F.c.fact 46) (isX_cons (F.c.fact 291) (F.c.fact 46) (isX_cons (F.c.fact 292) (F.c.fact 46) (isX_cons (F.c.fact 293) (F.c.fact 34) (isX_cons (F.c.fact 294) (F.c.fact 34) (isX_cons (F.c.fact 295) (F.c.fact 34) (isX_cons (F.c.fact 296) (F.c.fact 34) (isX_cons (F.c.fact 297) (F.c.fact 34) (isX_cons (F.c.fact 298) (F.c.fact 34) (isX_cons (F.c.fact 299) (F.c.fact 34) (isX_cons (F.c.fact 300) (F.c.fact 34) (isX_cons (F.c.fact 301) (F.c.fact 34) (isX_cons (F.c.fact 302) (F.c.fact 34) (isX_cons (F.c.fact 303) (F.c.fact 34) (isX_cons (F.c.fact 304) (F.c.fact 34) (isX_cons (F.c.fact 305) (F.c.fact 34) (isX_cons (F.c.fact 306) (F.c.fact 34) (isX_cons (F.c.fact 307) (F.c.fact 34) (isX_cons (F.c.fact 308) (F.c.fact 34) (isX_cons (F.c.fact 309) (F.c.fact 34) (isX_cons (F.c.fact 310) (F.c.fact 34) (isX_cons (F.c.fact 311) (F.c.fact 34) (isX_cons (F.c.fact 312) (F.c.fact 34) (isX_cons (F.c.fact 313) (F.c.fact 34) (isX_cons (F.c.fact 314) (F.c.fact 34) (isX_cons (F.c.fact 315) (F.c.fact 34) (isX_cons (F.c.fact 316) (F.c.fact 34) (isX_cons (F.c.fact 317) (F.c.fact 34) (isX_cons (F.c.fact 318) (F.c.fact 34) (isX_cons (F.c.fact 319) (F.c.fact 34) (isX_cons (F.c.fact 320) (F.c.fact 34) (isX_cons (F.c.fact 321) (F.c.fact 32) (isX_cons (F.c.fact 322) (F.c.fact 32) (isX_cons (F.c.fact 323) (F.c.fact 32) (isX_cons (F.c.fact 324) (F.c.fact 32) (isX_cons (F.c.fact 325) (F.c.fact 32) (isX_cons (F.c.fact 326) (F.c.fact 32) (isX_cons (F.c.fact 327) (F.c.fact 32) (isX_cons (F.c.fact 328) (F.c.fact 32) (isX_cons (F.c.fact 329) (F.c.fact 32) (isX_cons (F.c.fact 330) (F.c.fact 32) (isX_cons (F.c.fact 331) (F.c.fact 32) (isX_cons (F.c.fact 332) (F.c.fact 32) (isX_cons (F.c.fact 333) (F.c.fact 32) (isX_cons (F.c.fact 334) (F.c.fact 32) (isX_cons (F.c.fact 335) (F.c.fact 32) (isX_cons (F.c.fact 336) (F.c.fact 32) (isX_cons (F.c.fact 337) (F.c.fact 32) (isX_cons (F.c.fact 338) (F.c.fact 32) (isX_cons (F.c.fact 339) (F.c.fact 32) (isX_cons (F.c.fact 340) (F.c.fact 32) (isX_cons (F.c.fact 341) (F.c.fact 32) (isX_cons (F.c.fact 342) (F.c.fact 32) (isX_cons (F.c.fact 343) (F.c.fact 32) (isX_cons (F.c.fact 344) (F.c.fact 32) (isX_cons (F.c.fact 345) (F.c.fact 32) (isX_cons (F.c.fact 346) (F.c.fact 32) (isX_cons (F.c.fact 347) (F.c.fact 32) (isX_cons (F.c.fact 348) (F.c.fact 32) (isX_cons (F.c.fact 349) (F.c.fact 51) (isX_cons (F.c.fact 350) (F.c.fact 51) (isX_cons (F.c.fact 351) (F.c.fact 51) (isX_cons (F.c.fact 352) (F.c.fact 51) (isX_cons (F.c.fact 353) (F.c.fact 51) (isX_cons (F.c.fact 354) (F.c.fact 51) (isX_cons (F.c.fact 355) (F.c.fact 51) (isX_cons (F.c.fact 356) (F.c.fact 51) (isX_cons (F.c.fact 357) (F.c.fact 51) (isX_cons (F.c.fact 358) (F.c.fact 51) (isX_cons (F.c.fact 359) (F.c.fact 51) (isX_cons (F.c.fact 360) (F.c.fact 51) (isX_cons (F.c.fact 361) (F.c.fact 51) (isX_cons (F.c.fact 362) (F.c.fact 51) (isX_cons (F.c.fact 363) (F.c.fact 51) (isX_cons (F.c.fact 364) (F.c.fact 51) (isX_cons (F.c.fact 365) (F.c.fact 51) (isX_cons (F.c.fact 366) (F.c.fact 51) (isX_cons (F.c.fact 367) (F.c.fact 51) (isX_cons (F.c.fact 368) (F.c.fact 51) (isX_cons (F.c.fact 369) (F.c.fact 51) (isX_cons (F.c.fact 370) (F.c.fact 51) (isX_cons (F.c.fact 371) (F.c.fact 51) (isX_cons (F.c.fact 372) (F.c.fact 51) (isX_cons (F.c.fact 373) (F.c.fact 51) (isX_cons (F.c.fact 374) (F.c.fact 51) (isX_cons (F.c.fact 375) (F.c.fact 51) (isX_cons (F.c.fact 376) (F.c.fact 51) (isX_cons (F.c.fact 377) (F.c.fact 378) (isX_cons (F.c.fact 379) (F.c.fact 378) (isX_cons (F.c.fact 380) (F.c.fact 378) (isX_cons (F.c.fact 381) (F.c.fact 378) (isX_cons (F.c.fact 382) (F.c.fact 378) (isX_cons (F.c.fact 383) (F.c.fact 378) (isX_cons (F.c.fact 384) (F.c.fact 378) (isX_cons (F.c.fact 385) (F.c.fact 378) (isX_cons (F.c.fact 386) (F.c.fact 378) (isX_cons (F.c.fact 387) (F.c.fact 378) (isX_cons (F.c.fact 388) (F.c.fact 378) (isX_cons (F.c.fact 389) (F.c.fact 378) (isX_cons (F.c.fact 390) (F.c.fact 378) (isX_cons (F.c.fact 391) (F.c.fact 378) (isX_cons (F.c.fact 392) (F.c.fact 378) (isX_cons (F.c.fact 393) (F.c.fact 378) (isX_cons (F.c.fact 394) (F.c.fact 378) (isX_cons (F.c.fact 395) (F.c.fact 378) (isX_cons (F.c.fact 396) (F.c.fact 378) (isX_cons (F.c.fact 397) (F.c.fact 378) (isX_cons (F.c.fact 398) (F.c.fact 378) (isX_cons (F.c.fact 399) (F.c.fact 378) (isX_cons (F.c.fact 400) (F.c.fact 378) (isX_cons (F.c.fact 401) (F.c.fact 378) (isX_cons (F.c.fact 402) (F.c.fact 378) (isX_cons (F.c.fact 403) (F.c.fact 378) (isX_cons (F.c.fact 404) (F.c.fact 378) (isX_cons (F.c.fact 405) (F.c.fact 378) (isX_cons (F.c.fact 406) (F.c.fact 53) (isX_cons (F.c.fact 407) (F.c.fact 53) (isX_cons (F.c.fact 408) (F.c.fact 53) (isX_cons (F.c.fact 409) (F.c.fact 53) (isX_cons (F.c.fact 410) (F.c.fact 53) (isX_cons (F.c.fact 411) (F.c.fact 53) (isX_cons (F.c.fact 412) (F.c.fact 53) (isX_cons (F.c.fact 413) (F.c.fact 53) (isX_cons (F.c.fact 414) (F.c.fact 53) (isX_cons (F.c.fact 415) (F.c.fact 53) (isX_cons (F.c.fact 416) (F.c.fact 53) (isX_cons (F.c.fact 417) (F.c.fact 53) (isX_cons (F.c.fact 418) (F.c.fact 53) (isX_cons (F.c.fact 419) (F.c.fact 53) (isX_cons (F.c.fact 420) (F.c.fact 53) (isX_cons (F.c.fact 421) (F.c.fact 53) (isX_cons (F.c.fact 422) (F.c.fact 53) (isX_cons (F.c.fact 423) (F.c.fact 53) (isX_cons (F.c.fact 424) (F.c.fact 53) (isX_cons (F.c.fact 425) (F.c.fact 53) (isX_cons (F.c.fact 426) (F.c.fact 53) (isX_cons (F.c.fact 427) (F.c.fact 53) (isX_cons (F.c.fact 428) (F.c.fact 53) (isX_cons (F.c.fact 429) (F.c.fact 53) (isX_cons (F.c.fact 430) (F.c.fact 53) (isX_cons (F.c.fact 431) (F.c.fact 53) (isX_cons (F.c.fact 432) (F.c.fact 53) (isX_cons (F.c.fact 433) (F.c.fact 53) (isX_cons (F.c.fact 434) (F.c.fact 55) (isX_cons (F.c.fact 435) (F.c.fact 55) (isX_cons (F.c.fact 436) (F.c.fact 55) (isX_cons (F.c.fact 437) (F.c.fact 55) (isX_cons (F.c.fact 438) (F.c.fact 55) (isX_cons (F.c.fact 439) (F.c.fact 55) (isX_cons (F.c.fact 440) (F.c.fact 55) (isX_cons (F.c.fact 441) (F.c.fact 55) (isX_cons (F.c.fact 442) (F.c.fact 55) (isX_cons (F.c.fact 443) (F.c.fact 55) (isX_cons (F.c.fact 444) (F.c.fact 55) (isX_cons (F.c.fact 445) (F.c.fact 55) (isX_cons (F.c.fact 446) (F.c.fact 55) (isX_cons (F.c.fact 447) (F.c.fact 55) (isX_cons (F.c.fact 448) (F.c.fact 55) (isX_cons (F.c.fact 449) (F.c.fact 55) (isX_cons (F.c.fact 450) (F.c.fact 55) (isX_cons (F.c.fact 451) (F.c.fact 55) (isX_cons (F.c.fact 452) (F.c.fact 55) (isX_cons (F.c.fact 453) (F.c.fact 55) (isX_cons (F.c.fact 454) (F.c.fact 55) (isX_cons (F.c.fact 455) (F.c.fact 55) (isX_cons (F.c.fact 456) (F.c.fact 55) (isX_cons (F.c.fact 457) (F.c.fact 55) (isX_cons (F.c.fact 458) (F.c.fact 55) (isX_cons (F.c.fact 459) (F.c.fact 55) (isX_cons (F.c.fact 460) (F.c.fact 55) (isX_cons (F.c.fact 461) (F.c.fact 55) (isX_cons (F.c.fact 462) (F.c.fact 57) (isX_cons (F.c.fact 463) (F.c.fact 57) (isX_cons (F.c.fact 464) (F.c.fact 57) (isX_cons (F.c.fact 465) (F.c.fact 57) (isX_cons (F.c.fact 466) (F.c.fact 57) (isX_cons (F.c.fact 467) (F.c.fact 57) (isX_cons (F.c.fact 468) (F.c.fact 57) (isX_cons (F.c.fact 469) (F.c.fact 57) (isX_cons (F.c.fact 470) (F.c.fact 57) (isX_cons (F.c.fact 471) (F.c.fact 57) (isX_cons (F.c.fact 472) (F.c.fact 57) (isX_cons (F.c.fact 473) (F.c.fact 57) (isX_cons (F.c.fact 474) (F.c.fact 57) (isX_cons (F.c.fact 475) (F.c.fact 57) (isX_cons (F.c.fact 476) (F.c.fact 57) (isX_cons (F.c.fact 477) (F.c.fact 57) (isX_cons (F.c.fact 478) (F.c.fact 57) (isX_cons (F.c.fact 479) (F.c.fact 57) (isX_cons (F.c.fact 480) (F.c.fact 57) (isX_cons (F.c.fact 481) (F.c.fact 57) (isX_cons (F.c.fact 482) (F.c.fact 57) (isX_cons (F.c.fact 483) (F.c.fact 57) (isX_cons (F.c.fact 484) (F.c.fact 57) (isX_cons (F.c.fact 485) (F.c.fact 57) (isX_cons (F.c.fact 486) (F.c.fact 57) (isX_cons (F.c.fact 487) (F.c.fact 57) (isX_cons (F.c.fact 488) (F.c.fact 57) (isX_cons (F.c.fact 489) (F.c.fact 57) (isX_cons (F.c.fact 490) (F.c.fact 30) (isX_cons (F.c.fact 491) (F.c.fact 30) (isX_cons (F.c.fact 492) (F.c.fact 30) (isX_cons (F.c.fact 493) (F.c.fact 30) (isX_cons (F.c.fact 494) (F.c.fact 30) (isX_cons (F.c.fact 495) (F.c.fact 30) (isX_cons (F.c.fact 496) (F.c.fact 30) (isX_cons (F.c.fact 497) (F.c.fact 30) (isX_cons (F.c.fact 498) (F.c.fact 30) (isX_cons (F.c.fact 499) (F.c.fact 30) (isX_cons (F.c.fact 500) (F.c.fact 30) (isX_cons (F.c.fact 501) (F.c.fact 30) (isX_cons (F.c.fact 502) (F.c.fact 30) (isX_cons (F.c.fact 503) (F.c.fact 30) (isX_cons (F.c.fact 504) (F.c.fact 30) (isX_cons (F.c.fact 505) (F.c.fact 30) (isX_cons (F.c.fact 506) (F.c.fact 30) (isX_cons (F.c.fact 507) (F.c.fact 30) (isX_cons (F.c.fact 508) (F.c.fact 30) (isX_cons (F.c.fact 509) (F.c.fact 30) (isX_cons (F.c.fact 510) (F.c.fact 30) (isX_cons (F.c.fact 511) (F.c.fact 30) (isX_cons (F.c.fact 512) (F.c.fact 30) (isX_cons (F.c.fact 513) (F.c.fact 30) (isX_cons (F.c.fact 514) (F.c.fact 30) (isX_cons (F.c.fact 515) (F.c.fact 30) (isX_cons (F.c.fact 516) (F.c.fact 30) (isX_cons (F.c.fact 517) (F.c.fact 30) (isX_cons (F.c.fact 518) (F.c.fact 59) (isX_cons (F.c.fact 519) (F.c.fact 59) (isX_cons (F.c.fact 520) (F.c.fact 59) (isX_cons (F.c.fact 521) (F.c.fact 59) (isX_cons (F.c.fact 522) (F.c.fact 59) (isX_cons (F.c.fact 523) (F.c.fact 59) (isX_cons (F.c.fact 524) (F.c.fact 59) (isX_cons (F.c.fact 525) (F.c.fact 59) (isX_cons (F.c.fact 526) (F.c.fact 59) (isX_cons (F.c.fact 527) (F.c.fact 59) (isX_cons (F.c.fact 528) (F.c.fact 59) (isX_cons (F.c.fact 529) (F.c.fact 59) (isX_cons (F.c.fact 530) (F.c.fact 59) (isX_cons (F.c.fact 531) (F.c.fact 59) (isX_cons (F.c.fact 532) (F.c.fact 59) (isX_cons (F.c.fact 533) (F.c.fact 59) (isX_cons (F.c.fact 534) (F.c.fact 59) (isX_cons (F.c.fact 535) (F.c.fact 59) (isX_cons (F.c.fact 536) (F.c.fact 59) (isX_cons (F.c.fact 537) (F.c.fact 59) (isX_cons (F.c.fact 538) (F.c.fact 59) (isX_cons (F.c.fact 539) (F.c.fact 59) (isX_cons (F.c.fact 540) (F.c.fact 59) (isX_cons (F.c.fact 541) (F.c.fact 59) (isX_cons (F.c.fact 542) (F.c.fact 59) (isX_cons (F.c.fact 543) (F.c.fact 59) (isX_cons (F.c.fact 544) (F.c.fact 59) (isX_cons (F.c.fact 545) (F.c.fact 59) (isX_cons (F.c.fact 546) (F.c.fact 61) (isX_cons (F.c.fact 547) (F.c.fact 61) (isX_cons (F.c.fact 548) (F.c.fact 61) (isX_cons (F.c.fact 549) (F.c.fact 61) (isX_cons (F.c.fact 550) (F.c.fact 61) (isX_cons (F.c.fact 551) (F.c.fact 61) (isX_cons (F.c.fact 552) (F.c.fact 61) (isX_cons (F.c.fact 553) (F.c.fact 61) (isX_cons (F.c.fact 554) (F.c.fact 61) (isX_cons (F.c.fact 555) (F.c.fact 61) (isX_cons (F.c.fact 556) (F.c.fact 61) (isX_cons (F.c.fact 557) (F.c.fact 61) (isX_cons (F.c.fact 558) (F.c.fact 61) (isX_cons (F.c.fact 559) (F.c.fact 61) (isX_cons (F.c.fact 560) (F.c.fact 61) (isX_cons (F.c.fact 561) (F.c.fact 61) (isX_cons (F.c.fact 562) (F.c.fact 61) (isX_cons (F.c.fact 563) (F.c.fact 61) (isX_cons (F.c.fact 564) (F.c.fact 61) (isX_cons (F.c.fact 565) (F.c.fact 61) (isX_cons (F.c.fact 566) (F.c.fact 61) (isX_cons (F.c.fact 567) (F.c.fact 61) (isX_cons (F.c.fact 568) (F.c.fact 61) (isX_cons (F.c.fact 569) (F.c.fact 61) (isX_cons (F.c.fact 570) (F.c.fact 61) (isX_cons (F.c.fact 571) (F.c.fact 61) (isX_cons (F.c.fact 572) (F.c.fact 61) (isX_cons (F.c.fact 573) (F.c.fact 61) (isX_cons (F.c.fact 574) (F.c.fact 28) (isX_cons (F.c.fact 575) (F.c.fact 28) (isX_cons (F.c.fact 576) (F.c.fact 28) (isX_cons (F.c.fact 577) (F.c.fact 28) (isX_cons (F.c.fact 578) (F.c.fact 28) (isX_cons (F.c.fact 579) (F.c.fact 28) (isX_cons (F.c.fact 580) (F.c.fact 28) (isX_cons (F.c.fact 581) (F.c.fact 28) (isX_cons (F.c.fact 582) (F.c.fact 28) (isX_cons (F.c.fact 583) (F.c.fact 28) (isX_cons (F.c.fact 584) (F.c.fact 28) (isX_cons (F.c.fact 585) (F.c.fact 28) (isX_cons (F.c.fact 586) (F.c.fact 28) (isX_cons (F.c.fact 587) (F.c.fact 28) (isX_cons (F.c.fact 588) (F.c.fact 28) (isX_cons (F.c.fact 589) (F.c.fact 28) (isX_cons (F.c.fact 590) (F.c.fact 28) (isX_cons (F.c.fact 591) (F.c.fact 28) (isX_cons (F.c.fact 592) (F.c.fact 28) (isX_cons (F.c.fact 593) (F.c.fact 28) (isX_cons (F.c.fact 594) (F.c.fact 28) (isX_cons (F.c.fact 595) (F.c.fact 28) (isX_cons (F.c.fact 596) (F.c.fact 28) (isX_cons (F.c.fact 597) (F.c.fact 28) (isX_cons (F.c.fact 598) (F.c.fact 28) (isX_cons (F.c.fact 599) (F.c.fact 28) (isX_cons (F.c.fact 600) (F.c.fact 28) (isX_cons (F.c.fact 601) (F.c.fact 28) (isX_cons (F.c.fact 602) (F.c.fact 44) (isX_cons (F.c.fact 603) (F.c.fact 44) (isX_cons (F.c.fact 604) (F.c.fact 44) (isX_cons (F.c.fact 605) (F.c.fact 44) (isX_cons (F.c.fact 606) (F.c.fact 44) (isX_cons (F.c.fact 607) (F.c.fact 44) (isX_cons (F.c.fact 608) (F.c.fact 44) (isX_cons (F.c.fact 609) (F.c.fact 44) (isX_cons (F.c.fact 610) (F.c.fact 44) (isX_cons (F.c.fact 611) (F.c.fact 44) (isX_cons (F.c.fact 612) (F.c.fact 44) (isX_cons (F.c.fact 613) (F.c.fact 44) (isX_cons (F.c.fact 614) (F.c.fact 44) (isX_cons (F.c.fact 615) (F.c.fact 44) (isX_cons (F.c.fact 616) (F.c.fact 44) (isX_cons (F.c.fact 617) (F.c.fact 44) (isX_cons (F.c.fact 618) (F.c.fact 44) (isX_cons (F.c.fact 619) (F.c.fact 44) (isX_cons (F.c.fact 620) (F.c.fact 44) (isX_cons (F.c.fact 621) (F.c.fact 44) (isX_cons (F.c.fact 622) (F.c.fact 44) (isX_cons (F.c.fact 623) (F.c.fact 44) (isX_cons (F.c.fact 624) (F.c.fact 44) (isX_cons (F.c.fact 625) (F.c.fact 44) (isX_cons (F.c.fact 626) (F.c.fact 44) (isX_cons (F.c.fact 627) (F.c.fact 44) (isX_cons (F.c.fact 628) (F.c.fact 44) (isX_cons (F.c.fact 629) (F.c.fact 44) (isX_cons (F.c.fact 630) (F.c.fact 631) (isX_cons (F.c.fact 632) (F.c.fact 631) (isX_cons (F.c.fact 633) (F.c.fact 631) (isX_cons (F.c.fact 634) (F.c.fact 631) (isX_cons (F.c.fact 635) (F.c.fact 631) (isX_cons (F.c.fact 636) (F.c.fact 631) (isX_cons (F.c.fact 637) (F.c.fact 631) (isX_cons (F.c.fact 638) (F.c.fact 631) (isX_cons (F.c.fact 639) (F.c.fact 631) (isX_cons (F.c.fact 640) (F.c.fact 631) (isX_cons (F.c.fact 641) (F.c.fact 631) (isX_cons (F.c.fact 642) (F.c.fact 631) (isX_cons (F.c.fact 643) (F.c.fact 631) (isX_cons (F.c.fact 644) (F.c.fact 631) (isX_cons (F.c.fact 645) (F.c.fact 631) (isX_cons (F.c.fact 646) (F.c.fact 631) (isX_cons (F.c.fact 647) (F.c.fact 631) (isX_cons (F.c.fact 648) (F.c.fact 631) (isX_cons (F.c.fact 649) (F.c.fact 631) (isX_cons (F.c.fact 650) (F.c.fact 631) (isX_cons (F.c.fact 651) (F.c.fact 631) (isX_cons (F.c.fact 652) (F.c.fact 631) (isX_cons (F.c.fact 653) (F.c.fact 631) (isX_cons (F.c.fact 654) (F.c.fact 631) (isX_cons (F.c.fact 655) (F.c.fact 631) (isX_cons (F.c.fact 656) (F.c.fact 631) (isX_cons (F.c.fact 657) (F.c.fact 631) (isX_cons (F.c.fact 658) (F.c.fact 631) (isX_cons (F.c.fact 659) (F.c.fact 66) (isX_cons (F.c.fact 660) (F.c.fact 66) (isX_cons (F.c.fact 661) (F.c.fact 66) (isX_cons (F.c.fact 662) (F.c.fact 66) (isX_cons (F.c.fact 663) (F.c.fact 66) (isX_cons (F.c.fact 664) (F.c.fact 66) (isX_cons (F.c.fact 665) (F.c.fact 66) (isX_cons (F.c.fact 666) (F.c.fact 66) (isX_cons (F.c.fact 667) (F.c.fact 66) (isX_cons (F.c.fact 668) (F.c.fact 66) (isX_cons (F.c.fact 669) (F.c.fact 66) (isX_cons (F.c.fact 670) (F.c.fact 66) (isX_cons (F.c.fact 671) (F.c.fact 66) (isX_cons (F.c.fact 672) (F.c.fact 66) (isX_cons (F.c.fact 673) (F.c.fact 66) (isX_cons (F.c.fact 674) (F.c.fact 66) (isX_cons (F.c.fact 675) (F.c.fact 66) (isX_cons (F.c.fact 676) (F.c.fact 66) (isX_cons (F.c.fact 677) (F.c.fact 66) (isX_cons (F.c.fact 678) (F.c.fact 66) (isX_cons (F.c.fact 679) (F.c.fact 66) (isX_cons (F.c.fact 680) (F.c.fact 66) (isX_cons (F.c.fact 681) (F.c.fact 66) (isX_cons (F.c.fact 682) (F.c.fact 66) (isX_cons (F.c.fact 683) (F.c.fact 66) (isX_cons (F.c.fact 684) (F.c.fact 66) (isX_cons (F.c.fact 685) (F.c.fact 66) (isX_cons (F.c.fact 686) (F.c.fact 66) (isX_cons (F.c.fact 687) (F.c.fact 64) (isX_cons (F.c.fact 688) (F.c.fact 64) (isX_cons (F.c.fact 689) (F.c.fact 64) (isX_cons (F.c.fact 690) (F.c.fact 64) (isX_cons (F.c.fact 691) (F.c.fact 64) (isX_cons (F.c.fact 692) (F.c.fact 64) (isX_cons (F.c.fact 693) (F.c.fact 64) (isX_cons (F.c.fact 694) (F.c.fact 64) (isX_cons (F.c.fact 695) (F.c.fact 64) (isX_cons (F.c.fact 696) (F.c.fact 64) (isX_cons (F.c.fact 697) (F.c.fact 64) (isX_cons (F.c.fact 698) (F.c.fact 64) (isX_cons (F.c.fact 699) (F.c.fact 64) (isX_cons (F.c.fact 700) (F.c.fact 64) (isX_cons (F.c.fact 701) (F.c.fact 64) (isX_cons (F.c.fact 702) (F.c.fact 64) (isX_cons (F.c.fact 703) (F.c.fact 64) (isX_cons (F.c.fact 704) (F.c.fact 64) (isX_cons (F.c.fact 705) (F.c.fact 64) (isX_cons (F.c.fact 706) (F.c.fact 64) (isX_cons (F.c.fact 707) (F.c.fact 64) (isX_cons (F.c.fact 708) (F.c.fact 64) (isX_cons (F.c.fact 709) (F.c.fact 64) (isX_cons (F.c.fact 710) (F.c.fact 64) (isX_cons (F.c.fact 711) (F.c.fact 64) (isX_cons (F.c.fact 712) (F.c.fact 64) (isX_cons (F.c.fact 713) (F.c.fact 64) (isX_cons (F.c.fact 714) (F.c.fact 64) isX_nil))))))))))))))))))))))))))))))))))))))))))))))))))))))))))))))))))))))))))))))))))))))))))))))))))))))))))))))))))))))))))))))))))))))))))))))))))))))))))))))))))))))))))))))))))))))))))))))))))))))))))))))))))))))))))))))))))))))))))))))))))))))))))))))))))))))))))))))))))))))))))))))))))))))))))))))))))))))))))))))))))))))))))))))))))))))))))))))))))))))))))))))))))))))))))))))))))))))))))))))))))))))))))))))))))))))))))))))))))))))))))))))))))))))))))))))))))))))))))))))))))))))))))))))))))))))))))))))))))))))))))))))))))))))))))))))))))))))))))))))))))))))))))))))))))))))))))))))))))))))))))))))))))))))))
def N_law_bag : List Str := [(Str.ofString "_law_script"), (Str.ofString "_law_at"), (Str.ofString "_law_cell"), (Str.ofString "_law_great")]
theorem nd_law_bag : N_law_bag.Nodup := by decide +kernel
theorem sc_law_bag : FnScope N_law_bag [(Str.ofString "_law_script"), (Str.ofString "_law_at")] D_law_bag.scope := ⟨rfl, rfl, rfl, nd_law_bag, rfl, by decide +kernel, by decide +kernel⟩
theorem kw_law_bag_2 {cl : List (Str × Addr)} {fd : FuncData} (G : FunG K cl D_law_bag.name D_law_bag.qual D_law_bag.params D_law_bag.body D_law_bag.scope D_law_bag.dfl D_law_bag.kwd (D_law_bag.at_ K) fd) : KwOk K fd [(Str.ofString "_law_script"), (Str.ofString "_law_at")] 2 [] gkw_law_bag_2 := kw_ok G 2 [] [] [.pos 0, .pos 1] ms_nil ⟨by decide, rfl⟩ fun T D0 kV doc pm an cdv ct us its mv ws h0 h1 h2 h3 h4 => match us, its, mv, ws, h1, h2, h3, h4 with
  | [u0, u1], [], [], [], _, _, _, _ => rfl
theorem ok_law_bag (F : Fct P K mg) : OkD P w K mg base 1 D_law_bag [(Str.ofString "_law_script"), (Str.ofString "_law_at")] m_law_bag := okd_keep F 0 rfl rfl sc_law_bag fun cdv A outer s H E hr tk => by
  have nd := nd_law_bag
  have hu := units65 hr
  exact (sb_cons (ss_set (i := 2) nd rfl (.inl rfl) (se_ife (tu_cmp rl_lt (va (i := 1) rfl (.inl rfl)) (se_bi ⟨by rfl, (F.free 2)⟩ call_len ca_len (sa_cons (va (i := 0) rfl (.inl rfl)) sa_nil) (by rfl))) (se_ty ⟨by rfl, (F.free 9)⟩ call_int1 ca_int (sa_cons (se_ix (va (i := 0) rfl (.inl rfl)) (va (i := 1) rfl (.inl rfl))) sa_nil) (by rfl)) se_int))
    (sb_cons (ss_set (i := 3) nd rfl (.inl rfl) (se_ife (tu_cmp rl_ge (se_bi ⟨by rfl, (F.free 10)⟩ call_abs ca_abs (sa_cons (va (i := 2) rfl (.inl rfl)) sa_nil) (by rfl)) (su_op rl_pow se_int se_int)) (se_bi ⟨by rfl, (F.free 10)⟩ call_abs ca_abs (sa_cons (va (i := 2) rfl (.inl rfl)) sa_nil) (by rfl)) se_int))
    (sb_one (ss_ret (se_lstR (sa_cons (va (i := 3) rfl (.inl rfl)) (sa_cons (su_op rl_add (su_op rl_add (su_op rl_mul (su_op rl_mod (se_ty ⟨by rfl, (F.free 9)⟩ call_int1 ca_int (sa_cons (va (i := 2) rfl (.inl rfl)) sa_nil) (by rfl)) se_int) se_int) (su_op rl_mul se_int (va (i := 1) rfl (.inl rfl)))) se_int) (sa_cons se_int sa_nil))))))))
theorem law_bag_kp (F : Fct P K mg) : PySem.W.keepIn K (.ref (He.ga K (Str.ofString "_law_bag"))) = true := by
  obtain ⟨fd, cl, G, _⟩ := F.c.def_ 0 (d := D_law_bag) rfl
  exact G.kp
def N_BadName_init : List Str := [(Str.ofString "self"), (Str.ofString "name")]
theorem nd_BadName_init : N_BadName_init.Nodup := by decide +kernel
theorem sc_BadName_init : FnScope N_BadName_init [(Str.ofString "self"), (Str.ofString "name")] D_BadName_init.scope := ⟨rfl, rfl, rfl, nd_BadName_init, rfl, by decide +kernel, by decide +kernel⟩
theorem km_BadName_init_1 {cl : List (Str × Addr)} {fd : FuncData} (G : FunG K cl D_BadName_init.name D_BadName_init.qual D_BadName_init.params D_BadName_init.body D_BadName_init.scope D_BadName_init.dfl D_BadName_init.kwd (D_BadName_init.at_ K) fd) : KwMk K fd [(Str.ofString "self"), (Str.ofString "name")] 1 [] gkm_BadName_init_1 := kw_mk G 1 [] [] [.pos 0] ms_nil fun T D0 kV doc pm an cdv ct u us its mv ws h0 h1 h2 h3 h4 => match us, its, mv, ws, h1, h2, h3, h4 with
  | [u0], [], [], [], _, _, _, _ => rfl
theorem okx_BadName_init (F : Fct P K mg) : OkX P w K mg base 1 D_BadName_init [(Str.ofString "self"), (Str.ofString "name")] "BadName" ["name"] := okx_of F 1 rfl rfl sc_BadName_init rfl (by decide) fun cdv A outer s H E => (pss_cons (G.ps_osg (pe_var (i := 0) rfl (.inl rfl)) (pe_var (i := 1) rfl (.inl rfl))) pss_nil)
theorem oxk_BadName_1 {X : Cx} (F : Fct X.prog X.K X.mg) (hr : Room (1 + 1) X.A) (hg : Gl X (Str.ofString "BadName")) : Oxk X (Str.ofString "BadName") "BadName" ["name"] 1 [] gkm_BadName_init_1 := oxk_of (okx_BadName_init F) hr hg (F.glo 78) (fExnX_ok (F.c.fact 38)) (nos_cons (F.he 39) nos_nil) (F.c.fact 715) rfl fun fd G => km_BadName_init_1 G
def N_BadCost_init : List Str := [(Str.ofString "self"), (Str.ofString "cost")]
theorem nd_BadCost_init : N_BadCost_init.Nodup := by decide +kernel
theorem sc_BadCost_init : FnScope N_BadCost_init [(Str.ofString "self"), (Str.ofString "cost")] D_BadCost_init.scope := ⟨rfl, rfl, rfl, nd_BadCost_init, rfl, by decide +kernel, by decide +kernel⟩
theorem km_BadCost_init_0_cost {cl : List (Str × Addr)} {fd : FuncData} (G : FunG K cl D_BadCost_init.name D_BadCost_init.qual D_BadCost_init.params D_BadCost_init.body D_BadCost_init.scope D_BadCost_init.dfl D_BadCost_init.kwd (D_BadCost_init.at_ K) fd) : KwMk K fd [(Str.ofString "self"), (Str.ofString "cost")] 0 [(Str.ofString "cost")] gkm_BadCost_init_0_cost := kw_mk G 0 [(Str.ofString "cost")] [] [.kw 0] ms_nil fun T D0 kV doc pm an cdv ct u us its mv ws h0 h1 h2 h3 h4 => match us, its, mv, ws, h1, h2, h3, h4 with
  | [], [], [], [w0], _, _, _, _ => rfl
theorem okx_BadCost_init (F : Fct P K mg) : OkX P w K mg base 1 D_BadCost_init [(Str.ofString "self"), (Str.ofString "cost")] "BadCost" ["cost"] := okx_of F 2 rfl rfl sc_BadCost_init rfl (by decide) fun cdv A outer s H E => (pss_cons (G.ps_osg (pe_var (i := 0) rfl (.inl rfl)) (pe_var (i := 1) rfl (.inl rfl))) pss_nil)
theorem oxk_BadCost_0_cost {X : Cx} (F : Fct X.prog X.K X.mg) (hr : Room (1 + 1) X.A) (hg : Gl X (Str.ofString "BadCost")) : Oxk X (Str.ofString "BadCost") "BadCost" ["cost"] 0 [(Str.ofString "cost")] gkm_BadCost_init_0_cost := oxk_of (okx_BadCost_init F) hr hg (F.glo 77) (fExnX_ok (F.c.fact 42)) (nos_cons (F.he 43) nos_nil) (F.c.fact 716) rfl fun fd G => km_BadCost_init_0_cost G
def N_BadStep_init : List Str := [(Str.ofString "self"), (Str.ofString "name")]
theorem nd_BadStep_init : N_BadStep_init.Nodup := by decide +kernel
theorem sc_BadStep_init : FnScope N_BadStep_init [(Str.ofString "self"), (Str.ofString "name")] D_BadStep_init.scope := ⟨rfl, rfl, rfl, nd_BadStep_init, rfl, by decide +kernel, by decide +kernel⟩
theorem km_BadStep_init_1 {cl : List (Str × Addr)} {fd : FuncData} (G : FunG K cl D_BadStep_init.name D_BadStep_init.qual D_BadStep_init.params D_BadStep_init.body D_BadStep_init.scope D_BadStep_init.dfl D_BadStep_init.kwd (D_BadStep_init.at_ K) fd) : KwMk K fd [(Str.ofString "self"), (Str.ofString "name")] 1 [] gkm_BadStep_init_1 := kw_mk G 1 [] [] [.pos 0] ms_nil fun T D0 kV doc pm an cdv ct u us its mv ws h0 h1 h2 h3 h4 => match us, its, mv, ws, h1, h2, h3, h4 with
  | [u0], [], [], [], _, _, _, _ => rfl
theorem okx_BadStep_init (F : Fct P K mg) : OkX P w K mg base 1 D_BadStep_init [(Str.ofString "self"), (Str.ofString "name")] "BadStep" ["name"] := okx_of F 3 rfl rfl sc_BadStep_init rfl (by decide) fun cdv A outer s H E => (pss_cons (G.ps_osg (pe_var (i := 0) rfl (.inl rfl)) (pe_var (i := 1) rfl (.inl rfl))) pss_nil)
theorem oxk_BadStep_1 {X : Cx} (F : Fct X.prog X.K X.mg) (hr : Room (1 + 1) X.A) (hg : Gl X (Str.ofString "BadStep")) : Oxk X (Str.ofString "BadStep") "BadStep" ["name"] 1 [] gkm_BadStep_init_1 := oxk_of (okx_BadStep_init F) hr hg (F.glo 76) (fExnX_ok (F.c.fact 36)) (nos_cons (F.he 37) nos_nil) (F.c.fact 717) rfl fun fd G => km_BadStep_init_1 G
def N_BadBoard_init : List Str := [(Str.ofString "self"), (Str.ofString "part"), (Str.ofString "at")]
theorem nd_BadBoard_init : N_BadBoard_init.Nodup := by decide +kernel
theorem sc_BadBoard_init : FnScope N_BadBoard_init [(Str.ofString "self"), (Str.ofString "part"), (Str.ofString "at")] D_BadBoard_init.scope := ⟨rfl, rfl, rfl, nd_BadBoard_init, rfl, by decide +kernel, by decide +kernel⟩
theorem km_BadBoard_init_2 {cl : List (Str × Addr)} {fd : FuncData} (G : FunG K cl D_BadBoard_init.name D_BadBoard_init.qual D_BadBoard_init.params D_BadBoard_init.body D_BadBoard_init.scope D_BadBoard_init.dfl D_BadBoard_init.kwd (D_BadBoard_init.at_ K) fd) : KwMk K fd [(Str.ofString "self"), (Str.ofString "part"), (Str.ofString "at")] 2 [] gkm_BadBoard_init_2 := kw_mk G 2 [] [] [.pos 0, .pos 1] ms_nil fun T D0 kV doc pm an cdv ct u us its mv ws h0 h1 h2 h3 h4 => match us, its, mv, ws, h1, h2, h3, h4 with
  | [u0, u1], [], [], [], _, _, _, _ => rfl
theorem okx_BadBoard_init (F : Fct P K mg) : OkX P w K mg base 1 D_BadBoard_init [(Str.ofString "self"), (Str.ofString "part"), (Str.ofString "at")] "BadBoard" ["part", "at"] := okx_of F 4 rfl rfl sc_BadBoard_init rfl (by decide) fun cdv A outer s H E => (pss_cons (G.ps_osg (pe_var (i := 0) rfl (.inl rfl)) (pe_var (i := 1) rfl (.inl rfl))) (pss_cons (G.ps_osg (pe_var (i := 0) rfl (.inl rfl)) (pe_var (i := 2) rfl (.inl rfl))) pss_nil))
theorem oxk_BadBoard_2 {X : Cx} (F : Fct X.prog X.K X.mg) (hr : Room (1 + 1) X.A) (hg : Gl X (Str.ofString "BadBoard")) : Oxk X (Str.ofString "BadBoard") "BadBoard" ["part", "at"] 2 [] gkm_BadBoard_init_2 := oxk_of (okx_BadBoard_init F) hr hg (F.glo 75) (fExnX_ok (F.c.fact 48)) (nos_cons (F.he 50) (nos_cons (F.he 49) nos_nil)) (F.c.fact 718) rfl fun fd G => km_BadBoard_init_2 G
def N_BadLine_init : List Str := [(Str.ofString "self"), (Str.ofString "at")]
theorem nd_BadLine_init : N_BadLine_init.Nodup := by decide +kernel
theorem sc_BadLine_init : FnScope N_BadLine_init [(Str.ofString "self"), (Str.ofString "at")] D_BadLine_init.scope := ⟨rfl, rfl, rfl, nd_BadLine_init, rfl, by decide +kernel, by decide +kernel⟩
theorem km_BadLine_init_1 {cl : List (Str × Addr)} {fd : FuncData} (G : FunG K cl D_BadLine_init.name D_BadLine_init.qual D_BadLine_init.params D_BadLine_init.body D_BadLine_init.scope D_BadLine_init.dfl D_BadLine_init.kwd (D_BadLine_init.at_ K) fd) : KwMk K fd [(Str.ofString "self"), (Str.ofString "at")] 1 [] gkm_BadLine_init_1 := kw_mk G 1 [] [] [.pos 0] ms_nil fun T D0 kV doc pm an cdv ct u us its mv ws h0 h1 h2 h3 h4 => match us, its, mv, ws, h1, h2, h3, h4 with
  | [u0], [], [], [], _, _, _, _ => rfl
theorem okx_BadLine_init (F : Fct P K mg) : OkX P w K mg base 1 D_BadLine_init [(Str.ofString "self"), (Str.ofString "at")] "BadLine" ["at"] := okx_of F 5 rfl rfl sc_BadLine_init rfl (by decide) fun cdv A outer s H E => (pss_cons (G.ps_osg (pe_var (i := 0) rfl (.inl rfl)) (pe_var (i := 1) rfl (.inl rfl))) pss_nil)
theorem oxk_BadLine_1 {X : Cx} (F : Fct X.prog X.K X.mg) (hr : Room (1 + 1) X.A) (hg : Gl X (Str.ofString "BadLine")) : Oxk X (Str.ofString "BadLine") "BadLine" ["at"] 1 [] gkm_BadLine_init_1 := oxk_of (okx_BadLine_init F) hr hg (F.glo 82) (fExnX_ok (F.c.fact 46)) (nos_cons (F.he 47) nos_nil) (F.c.fact 719) rfl fun fd G => km_BadLine_init_1 G
def N_BadGuard_init : List Str := [(Str.ofString "self"), (Str.ofString "name")]
theorem nd_BadGuard_init : N_BadGuard_init.Nodup := by decide +kernel
theorem sc_BadGuard_init : FnScope N_BadGuard_init [(Str.ofString "self"), (Str.ofString "name")] D_BadGuard_init.scope := ⟨rfl, rfl, rfl, nd_BadGuard_init, rfl, by decide +kernel, by decide +kernel⟩
theorem km_BadGuard_init_0_name {cl : List (Str × Addr)} {fd : FuncData} (G : FunG K cl D_BadGuard_init.name D_BadGuard_init.qual D_BadGuard_init.params D_BadGuard_init.body D_BadGuard_init.scope D_BadGuard_init.dfl D_BadGuard_init.kwd (D_BadGuard_init.at_ K) fd) : KwMk K fd [(Str.ofString "self"), (Str.ofString "name")] 0 [(Str.ofString "name")] gkm_BadGuard_init_0_name := kw_mk G 0 [(Str.ofString "name")] [] [.kw 0] ms_nil fun T D0 kV doc pm an cdv ct u us its mv ws h0 h1 h2 h3 h4 => match us, its, mv, ws, h1, h2, h3, h4 with
  | [], [], [], [w0], _, _, _, _ => rfl
theorem okx_BadGuard_init (F : Fct P K mg) : OkX P w K mg base 1 D_BadGuard_init [(Str.ofString "self"), (Str.ofString "name")] "BadGuard" ["name"] := okx_of F 6 rfl rfl sc_BadGuard_init rfl (by decide) fun cdv A outer s H E => (pss_cons (G.ps_osg (pe_var (i := 0) rfl (.inl rfl)) (pe_var (i := 1) rfl (.inl rfl))) pss_nil)
theorem oxk_BadGuard_0_name {X : Cx} (F : Fct X.prog X.K X.mg) (hr : Room (1 + 1) X.A) (hg : Gl X (Str.ofString "BadGuard")) : Oxk X (Str.ofString "BadGuard") "BadGuard" ["name"] 0 [(Str.ofString "name")] gkm_BadGuard_init_0_name := oxk_of (okx_BadGuard_init F) hr hg (F.glo 81) (fExnX_ok (F.c.fact 34)) (nos_cons (F.he 35) nos_nil) (F.c.fact 720) rfl fun fd G => km_BadGuard_init_0_name G
def N_Nested_init : List Str := [(Str.ofString "self"), (Str.ofString "name")]
theorem nd_Nested_init : N_Nested_init.Nodup := by decide +kernel
theorem sc_Nested_init : FnScope N_Nested_init [(Str.ofString "self"), (Str.ofString "name")] D_Nested_init.scope := ⟨rfl, rfl, rfl, nd_Nested_init, rfl, by decide +kernel, by decide +kernel⟩
theorem km_Nested_init_1 {cl : List (Str × Addr)} {fd : FuncData} (G : FunG K cl D_Nested_init.name D_Nested_init.qual D_Nested_init.params D_Nested_init.body D_Nested_init.scope D_Nested_init.dfl D_Nested_init.kwd (D_Nested_init.at_ K) fd) : KwMk K fd [(Str.ofString "self"), (Str.ofString "name")] 1 [] gkm_Nested_init_1 := kw_mk G 1 [] [] [.pos 0] ms_nil fun T D0 kV doc pm an cdv ct u us its mv ws h0 h1 h2 h3 h4 => match us, its, mv, ws, h1, h2, h3, h4 with
  | [u0], [], [], [], _, _, _, _ => rfl
theorem okx_Nested_init (F : Fct P K mg) : OkX P w K mg base 1 D_Nested_init [(Str.ofString "self"), (Str.ofString "name")] "Nested" ["name"] := okx_of F 7 rfl rfl sc_Nested_init rfl (by decide) fun cdv A outer s H E => (pss_cons (G.ps_osg (pe_var (i := 0) rfl (.inl rfl)) (pe_var (i := 1) rfl (.inl rfl))) pss_nil)
theorem oxk_Nested_1 {X : Cx} (F : Fct X.prog X.K X.mg) (hr : Room (1 + 1) X.A) (hg : Gl X (Str.ofString "Nested")) : Oxk X (Str.ofString "Nested") "Nested" ["name"] 1 [] gkm_Nested_init_1 := oxk_of (okx_Nested_init F) hr hg (F.glo 80) (fExnX_ok (F.c.fact 32)) (nos_cons (F.he 33) nos_nil) (F.c.fact 721) rfl fun fd G => km_Nested_init_1 G
def N_TooMany_init : List Str := [(Str.ofString "self"), (Str.ofString "what")]
theorem nd_TooMany_init : N_TooMany_init.Nodup := by decide +kernel
theorem sc_TooMany_init : FnScope N_TooMany_init [(Str.ofString "self"), (Str.ofString "what")] D_TooMany_init.scope := ⟨rfl, rfl, rfl, nd_TooMany_init, rfl, by decide +kernel, by decide +kernel⟩
theorem km_TooMany_init_0_what {cl : List (Str × Addr)} {fd : FuncData} (G : FunG K cl D_TooMany_init.name D_TooMany_init.qual D_TooMany_init.params D_TooMany_init.body D_TooMany_init.scope D_TooMany_init.dfl D_TooMany_init.kwd (D_TooMany_init.at_ K) fd) : KwMk K fd [(Str.ofString "self"), (Str.ofString "what")] 0 [(Str.ofString "what")] gkm_TooMany_init_0_what := kw_mk G 0 [(Str.ofString "what")] [] [.kw 0] ms_nil fun T D0 kV doc pm an cdv ct u us its mv ws h0 h1 h2 h3 h4 => match us, its, mv, ws, h1, h2, h3, h4 with
  | [], [], [], [w0], _, _, _, _ => rfl
theorem okx_TooMany_init (F : Fct P K mg) : OkX P w K mg base 1 D_TooMany_init [(Str.ofString "self"), (Str.ofString "what")] "TooMany" ["what"] := okx_of F 8 rfl rfl sc_TooMany_init rfl (by decide) fun cdv A outer s H E => (pss_cons (G.ps_osg (pe_var (i := 0) rfl (.inl rfl)) (pe_var (i := 1) rfl (.inl rfl))) pss_nil)
theorem oxk_TooMany_0_what {X : Cx} (F : Fct X.prog X.K X.mg) (hr : Room (1 + 1) X.A) (hg : Gl X (Str.ofString "TooMany")) : Oxk X (Str.ofString "TooMany") "TooMany" ["what"] 0 [(Str.ofString "what")] gkm_TooMany_init_0_what := oxk_of (okx_TooMany_init F) hr hg (F.glo 79) (fExnX_ok (F.c.fact 51)) (nos_cons (F.he 52) nos_nil) (F.c.fact 722) rfl fun fd G => km_TooMany_init_0_what G
def N_OpenFlow_init : List Str := [(Str.ofString "self"), (Str.ofString "place")]
theorem nd_OpenFlow_init : N_OpenFlow_init.Nodup := by decide +kernel
theorem sc_OpenFlow_init : FnScope N_OpenFlow_init [(Str.ofString "self"), (Str.ofString "place")] D_OpenFlow_init.scope := ⟨rfl, rfl, rfl, nd_OpenFlow_init, rfl, by decide +kernel, by decide +kernel⟩
theorem km_OpenFlow_init_0_place {cl : List (Str × Addr)} {fd : FuncData} (G : FunG K cl D_OpenFlow_init.name D_OpenFlow_init.qual D_OpenFlow_init.params D_OpenFlow_init.body D_OpenFlow_init.scope D_OpenFlow_init.dfl D_OpenFlow_init.kwd (D_OpenFlow_init.at_ K) fd) : KwMk K fd [(Str.ofString "self"), (Str.ofString "place")] 0 [(Str.ofString "place")] gkm_OpenFlow_init_0_place := kw_mk G 0 [(Str.ofString "place")] [] [.kw 0] ms_nil fun T D0 kV doc pm an cdv ct u us its mv ws h0 h1 h2 h3 h4 => match us, its, mv, ws, h1, h2, h3, h4 with
  | [], [], [], [w0], _, _, _, _ => rfl
theorem okx_OpenFlow_init (F : Fct P K mg) : OkX P w K mg base 1 D_OpenFlow_init [(Str.ofString "self"), (Str.ofString "place")] "OpenFlow" ["place"] := okx_of F 9 rfl rfl sc_OpenFlow_init rfl (by decide) fun cdv A outer s H E => (pss_cons (G.ps_osg (pe_var (i := 0) rfl (.inl rfl)) (pe_var (i := 1) rfl (.inl rfl))) pss_nil)
theorem oxk_OpenFlow_0_place {X : Cx} (F : Fct X.prog X.K X.mg) (hr : Room (1 + 1) X.A) (hg : Gl X (Str.ofString "OpenFlow")) : Oxk X (Str.ofString "OpenFlow") "OpenFlow" ["place"] 0 [(Str.ofString "place")] gkm_OpenFlow_init_0_place := oxk_of (okx_OpenFlow_init F) hr hg (F.glo 84) (fExnX_ok (F.c.fact 53)) (nos_cons (F.he 54) nos_nil) (F.c.fact 723) rfl fun fd G => km_OpenFlow_init_0_place G
def N_BadPopulation_init : List Str := [(Str.ofString "self"), (Str.ofString "name")]
theorem nd_BadPopulation_init : N_BadPopulation_init.Nodup := by decide +kernel
theorem sc_BadPopulation_init : FnScope N_BadPopulation_init [(Str.ofString "self"), (Str.ofString "name")] D_BadPopulation_init.scope := ⟨rfl, rfl, rfl, nd_BadPopulation_init, rfl, by decide +kernel, by decide +kernel⟩
theorem km_BadPopulation_init_1 {cl : List (Str × Addr)} {fd : FuncData} (G : FunG K cl D_BadPopulation_init.name D_BadPopulation_init.qual D_BadPopulation_init.params D_BadPopulation_init.body D_BadPopulation_init.scope D_BadPopulation_init.dfl D_BadPopulation_init.kwd (D_BadPopulation_init.at_ K) fd) : KwMk K fd [(Str.ofString "self"), (Str.ofString "name")] 1 [] gkm_BadPopulation_init_1 := kw_mk G 1 [] [] [.pos 0] ms_nil fun T D0 kV doc pm an cdv ct u us its mv ws h0 h1 h2 h3 h4 => match us, its, mv, ws, h1, h2, h3, h4 with
  | [u0], [], [], [], _, _, _, _ => rfl
theorem okx_BadPopulation_init (F : Fct P K mg) : OkX P w K mg base 1 D_BadPopulation_init [(Str.ofString "self"), (Str.ofString "name")] "BadPopulation" ["name"] := okx_of F 10 rfl rfl sc_BadPopulation_init rfl (by decide) fun cdv A outer s H E => (pss_cons (G.ps_osg (pe_var (i := 0) rfl (.inl rfl)) (pe_var (i := 1) rfl (.inl rfl))) pss_nil)
theorem oxk_BadPopulation_1 {X : Cx} (F : Fct X.prog X.K X.mg) (hr : Room (1 + 1) X.A) (hg : Gl X (Str.ofString "BadPopulation")) : Oxk X (Str.ofString "BadPopulation") "BadPopulation" ["name"] 1 [] gkm_BadPopulation_init_1 := oxk_of (okx_BadPopulation_init F) hr hg (F.glo 83) (fExnX_ok (F.c.fact 40)) (nos_cons (F.he 41) nos_nil) (F.c.fact 724) rfl fun fd G => km_BadPopulation_init_1 G
def N_law_first : List Str := [(Str.ofString "_law_k"), (Str.ofString "_law_one"), (Str.ofString "_law_two"), (Str.ofString "_law_three")]
theorem nd_law_first : N_law_first.Nodup := by decide +kernel
theorem sc_law_first : FnScope N_law_first [(Str.ofString "_law_k"), (Str.ofString "_law_one"), (Str.ofString "_law_two"), (Str.ofString "_law_three")] D_law_first.scope := ⟨rfl, rfl, rfl, nd_law_first, rfl, by decide +kernel, by decide +kernel⟩
theorem kw_law_first_4 {cl : List (Str × Addr)} {fd : FuncData} (G : FunG K cl D_law_first.name D_law_first.qual D_law_first.params D_law_first.body D_law_first.scope D_law_first.dfl D_law_first.kwd (D_law_first.at_ K) fd) : KwOk K fd [(Str.ofString "_law_k"), (Str.ofString "_law_one"), (Str.ofString "_law_two"), (Str.ofString "_law_three")] 4 [] gkw_law_first_4 := kw_ok G 4 [] [] [.pos 0, .pos 1, .pos 2, .pos 3] ms_nil ⟨by decide, rfl⟩ fun T D0 kV doc pm an cdv ct us its mv ws h0 h1 h2 h3 h4 => match us, its, mv, ws, h1, h2, h3, h4 with
  | [u0, u1, u2, u3], [], [], [], _, _, _, _ => rfl
theorem ok_law_first (F : Fct P K mg) : OkD P w K mg base 3 D_law_first [(Str.ofString "_law_k"), (Str.ofString "_law_one"), (Str.ofString "_law_two"), (Str.ofString "_law_three")] m_law_first := okd_pure F 11 rfl rfl sc_law_first fun cdv A outer s H E hr tk => by
  have nd := nd_law_first
  have hu := units65 hr
  exact (sb_cons (ss_if (tu_cmp (rl_eqX hr.units) (va (i := 0) rfl (.inl rfl)) se_int)
    (sb_one (ss_ret (se_tup (sa_cons (se_mkx (oxk_BadName_1 F (hr.mono (by decide)) (by rfl)) (sa_cons (va (i := 1) rfl (.inl rfl)) sa_nil) sk_nil) (sa_cons (se_lst (sa_cons (va (i := 1) rfl (.inl rfl)) sa_nil)) sa_nil)))))
    sb_nil)
    (sb_cons (ss_if (tu_cmp (rl_eqX hr.units) (va (i := 0) rfl (.inl rfl)) se_int)
    (sb_one (ss_ret (se_tup (sa_cons (se_mkx0 (oxk_BadCost_0_cost F (hr.mono (by decide)) (by rfl)) (sk_cons (va (i := 1) rfl (.inl rfl)) sk_nil)) (sa_cons (se_lst (sa_cons (va (i := 1) rfl (.inl rfl)) sa_nil)) sa_nil)))))
    sb_nil)
    (sb_cons (ss_if (tu_cmp (rl_eqX hr.units) (va (i := 0) rfl (.inl rfl)) se_int)
    (sb_one (ss_ret (se_tup (sa_cons (se_mkx (oxk_BadStep_1 F (hr.mono (by decide)) (by rfl)) (sa_cons (va (i := 1) rfl (.inl rfl)) sa_nil) sk_nil) (sa_cons (se_lst (sa_cons (va (i := 1) rfl (.inl rfl)) sa_nil)) sa_nil)))))
    sb_nil)
    (sb_cons (ss_if (tu_cmp (rl_eqX hr.units) (va (i := 0) rfl (.inl rfl)) se_int)
    (sb_one (ss_ret (se_tup (sa_cons (se_mkx (oxk_BadBoard_2 F (hr.mono (by decide)) (by rfl)) (sa_cons (va (i := 1) rfl (.inl rfl)) (sa_cons (va (i := 2) rfl (.inl rfl)) sa_nil)) sk_nil) (sa_cons (se_lst (sa_cons (va (i := 1) rfl (.inl rfl)) (sa_cons (va (i := 2) rfl (.inl rfl)) sa_nil))) sa_nil)))))
    sb_nil)
    (sb_cons (ss_if (tu_cmp (rl_eqX hr.units) (va (i := 0) rfl (.inl rfl)) se_int)
    (sb_one (ss_ret (se_tup (sa_cons (se_mkx (oxk_BadLine_1 F (hr.mono (by decide)) (by rfl)) (sa_cons (va (i := 1) rfl (.inl rfl)) sa_nil) sk_nil) (sa_cons (se_lst (sa_cons (va (i := 1) rfl (.inl rfl)) sa_nil)) sa_nil)))))
    sb_nil)
    (sb_cons (ss_if (tu_cmp (rl_eqX hr.units) (va (i := 0) rfl (.inl rfl)) se_int)
    (sb_one (ss_ret (se_tup (sa_cons (se_mkx0 (oxk_BadGuard_0_name F (hr.mono (by decide)) (by rfl)) (sk_cons (va (i := 1) rfl (.inl rfl)) sk_nil)) (sa_cons (se_lst (sa_cons (va (i := 1) rfl (.inl rfl)) sa_nil)) sa_nil)))))
    sb_nil)
    (sb_cons (ss_if (tu_cmp (rl_eqX hr.units) (va (i := 0) rfl (.inl rfl)) se_int)
    (sb_one (ss_ret (se_tup (sa_cons (se_mkx (oxk_Nested_1 F (hr.mono (by decide)) (by rfl)) (sa_cons (va (i := 1) rfl (.inl rfl)) sa_nil) sk_nil) (sa_cons (se_lst (sa_cons (va (i := 1) rfl (.inl rfl)) sa_nil)) sa_nil)))))
    sb_nil)
    (sb_cons (ss_if (tu_cmp (rl_eqX hr.units) (va (i := 0) rfl (.inl rfl)) se_int)
    (sb_one (ss_ret (se_tup (sa_cons (se_mkx0 (oxk_TooMany_0_what F (hr.mono (by decide)) (by rfl)) (sk_cons (va (i := 1) rfl (.inl rfl)) sk_nil)) (sa_cons (se_lst (sa_cons (va (i := 1) rfl (.inl rfl)) sa_nil)) sa_nil)))))
    sb_nil)
    (sb_cons (ss_if (tu_cmp (rl_eqX hr.units) (va (i := 0) rfl (.inl rfl)) se_int)
    (sb_one (ss_ret (se_tup (sa_cons (se_mk0 (C := "OtherBoard") (by rfl) (F.glo 24) (F.c.fact 25)) (sa_cons (se_lst sa_nil) sa_nil)))))
    sb_nil)
    (sb_cons (ss_if (tu_cmp (rl_eqX hr.units) (va (i := 0) rfl (.inl rfl)) se_int)
    (sb_one (ss_ret (se_tup (sa_cons (se_mkx0 (oxk_OpenFlow_0_place F (hr.mono (by decide)) (by rfl)) (sk_cons (va (i := 1) rfl (.inl rfl)) sk_nil)) (sa_cons (se_lst (sa_cons (va (i := 1) rfl (.inl rfl)) sa_nil)) sa_nil)))))
    sb_nil)
    (sb_one (ss_ret (se_tup (sa_cons (se_mkx (oxk_BadPopulation_1 F (hr.mono (by decide)) (by rfl)) (sa_cons (va (i := 1) rfl (.inl rfl)) sa_nil) sk_nil) (sa_cons (se_lst (sa_cons (va (i := 1) rfl (.inl rfl)) sa_nil)) sa_nil)))))))))))))))
theorem law_first_kp (F : Fct P K mg) : PySem.W.keepIn K (.ref (He.ga K (Str.ofString "_law_first"))) = true := by
  obtain ⟨fd, cl, G, _⟩ := F.c.def_ 11 (d := D_law_first) rfl
  exact G.kp
def N_BadOrder_init : List Str := [(Str.ofString "self"), (Str.ofString "order")]
theorem nd_BadOrder_init : N_BadOrder_init.Nodup := by decide +kernel
theorem sc_BadOrder_init : FnScope N_BadOrder_init [(Str.ofString "self"), (Str.ofString "order")] D_BadOrder_init.scope := ⟨rfl, rfl, rfl, nd_BadOrder_init, rfl, by decide +kernel, by decide +kernel⟩
theorem km_BadOrder_init_0_order {cl : List (Str × Addr)} {fd : FuncData} (G : FunG K cl D_BadOrder_init.name D_BadOrder_init.qual D_BadOrder_init.params D_BadOrder_init.body D_BadOrder_init.scope D_BadOrder_init.dfl D_BadOrder_init.kwd (D_BadOrder_init.at_ K) fd) : KwMk K fd [(Str.ofString "self"), (Str.ofString "order")] 0 [(Str.ofString "order")] gkm_BadOrder_init_0_order := kw_mk G 0 [(Str.ofString "order")] [] [.kw 0] ms_nil fun T D0 kV doc pm an cdv ct u us its mv ws h0 h1 h2 h3 h4 => match us, its, mv, ws, h1, h2, h3, h4 with
  | [], [], [], [w0], _, _, _, _ => rfl
theorem okx_BadOrder_init (F : Fct P K mg) : OkX P w K mg base 1 D_BadOrder_init [(Str.ofString "self"), (Str.ofString "order")] "BadOrder" ["order"] := okx_of F 12 rfl rfl sc_BadOrder_init rfl (by decide) fun cdv A outer s H E => (pss_cons (G.ps_osg (pe_var (i := 0) rfl (.inl rfl)) (pe_var (i := 1) rfl (.inl rfl))) pss_nil)
theorem oxk_BadOrder_0_order {X : Cx} (F : Fct X.prog X.K X.mg) (hr : Room (1 + 1) X.A) (hg : Gl X (Str.ofString "BadOrder")) : Oxk X (Str.ofString "BadOrder") "BadOrder" ["order"] 0 [(Str.ofString "order")] gkm_BadOrder_init_0_order := oxk_of (okx_BadOrder_init F) hr hg (F.glo 88) (fExnX_ok (F.c.fact 55)) (nos_cons (F.he 56) nos_nil) (F.c.fact 725) rfl fun fd G => km_BadOrder_init_0_order G
def N_BadSubject_init : List Str := [(Str.ofString "self"), (Str.ofString "subject")]
theorem nd_BadSubject_init : N_BadSubject_init.Nodup := by decide +kernel
theorem sc_BadSubject_init : FnScope N_BadSubject_init [(Str.ofString "self"), (Str.ofString "subject")] D_BadSubject_init.scope := ⟨rfl, rfl, rfl, nd_BadSubject_init, rfl, by decide +kernel, by decide +kernel⟩
theorem km_BadSubject_init_1 {cl : List (Str × Addr)} {fd : FuncData} (G : FunG K cl D_BadSubject_init.name D_BadSubject_init.qual D_BadSubject_init.params D_BadSubject_init.body D_BadSubject_init.scope D_BadSubject_init.dfl D_BadSubject_init.kwd (D_BadSubject_init.at_ K) fd) : KwMk K fd [(Str.ofString "self"), (Str.ofString "subject")] 1 [] gkm_BadSubject_init_1 := kw_mk G 1 [] [] [.pos 0] ms_nil fun T D0 kV doc pm an cdv ct u us its mv ws h0 h1 h2 h3 h4 => match us, its, mv, ws, h1, h2, h3, h4 with
  | [u0], [], [], [], _, _, _, _ => rfl
theorem okx_BadSubject_init (F : Fct P K mg) : OkX P w K mg base 1 D_BadSubject_init [(Str.ofString "self"), (Str.ofString "subject")] "BadSubject" ["subject"] := okx_of F 13 rfl rfl sc_BadSubject_init rfl (by decide) fun cdv A outer s H E => (pss_cons (G.ps_osg (pe_var (i := 0) rfl (.inl rfl)) (pe_var (i := 1) rfl (.inl rfl))) pss_nil)
theorem oxk_BadSubject_1 {X : Cx} (F : Fct X.prog X.K X.mg) (hr : Room (1 + 1) X.A) (hg : Gl X (Str.ofString "BadSubject")) : Oxk X (Str.ofString "BadSubject") "BadSubject" ["subject"] 1 [] gkm_BadSubject_init_1 := oxk_of (okx_BadSubject_init F) hr hg (F.glo 87) (fExnX_ok (F.c.fact 57)) (nos_cons (F.he 58) nos_nil) (F.c.fact 726) rfl fun fd G => km_BadSubject_init_1 G
def N_BadSizes_init : List Str := [(Str.ofString "self"), (Str.ofString "name")]
theorem nd_BadSizes_init : N_BadSizes_init.Nodup := by decide +kernel
theorem sc_BadSizes_init : FnScope N_BadSizes_init [(Str.ofString "self"), (Str.ofString "name")] D_BadSizes_init.scope := ⟨rfl, rfl, rfl, nd_BadSizes_init, rfl, by decide +kernel, by decide +kernel⟩
theorem km_BadSizes_init_1 {cl : List (Str × Addr)} {fd : FuncData} (G : FunG K cl D_BadSizes_init.name D_BadSizes_init.qual D_BadSizes_init.params D_BadSizes_init.body D_BadSizes_init.scope D_BadSizes_init.dfl D_BadSizes_init.kwd (D_BadSizes_init.at_ K) fd) : KwMk K fd [(Str.ofString "self"), (Str.ofString "name")] 1 [] gkm_BadSizes_init_1 := kw_mk G 1 [] [] [.pos 0] ms_nil fun T D0 kV doc pm an cdv ct u us its mv ws h0 h1 h2 h3 h4 => match us, its, mv, ws, h1, h2, h3, h4 with
  | [u0], [], [], [], _, _, _, _ => rfl
theorem okx_BadSizes_init (F : Fct P K mg) : OkX P w K mg base 1 D_BadSizes_init [(Str.ofString "self"), (Str.ofString "name")] "BadSizes" ["name"] := okx_of F 14 rfl rfl sc_BadSizes_init rfl (by decide) fun cdv A outer s H E => (pss_cons (G.ps_osg (pe_var (i := 0) rfl (.inl rfl)) (pe_var (i := 1) rfl (.inl rfl))) pss_nil)
theorem oxk_BadSizes_1 {X : Cx} (F : Fct X.prog X.K X.mg) (hr : Room (1 + 1) X.A) (hg : Gl X (Str.ofString "BadSizes")) : Oxk X (Str.ofString "BadSizes") "BadSizes" ["name"] 1 [] gkm_BadSizes_init_1 := oxk_of (okx_BadSizes_init F) hr hg (F.glo 86) (fExnX_ok (F.c.fact 30)) (nos_cons (F.he 31) nos_nil) (F.c.fact 727) rfl fun fd G => km_BadSizes_init_1 G
def N_BadLast_init : List Str := [(Str.ofString "self"), (Str.ofString "last")]
theorem nd_BadLast_init : N_BadLast_init.Nodup := by decide +kernel
theorem sc_BadLast_init : FnScope N_BadLast_init [(Str.ofString "self"), (Str.ofString "last")] D_BadLast_init.scope := ⟨rfl, rfl, rfl, nd_BadLast_init, rfl, by decide +kernel, by decide +kernel⟩
theorem km_BadLast_init_0_last {cl : List (Str × Addr)} {fd : FuncData} (G : FunG K cl D_BadLast_init.name D_BadLast_init.qual D_BadLast_init.params D_BadLast_init.body D_BadLast_init.scope D_BadLast_init.dfl D_BadLast_init.kwd (D_BadLast_init.at_ K) fd) : KwMk K fd [(Str.ofString "self"), (Str.ofString "last")] 0 [(Str.ofString "last")] gkm_BadLast_init_0_last := kw_mk G 0 [(Str.ofString "last")] [] [.kw 0] ms_nil fun T D0 kV doc pm an cdv ct u us its mv ws h0 h1 h2 h3 h4 => match us, its, mv, ws, h1, h2, h3, h4 with
  | [], [], [], [w0], _, _, _, _ => rfl
theorem okx_BadLast_init (F : Fct P K mg) : OkX P w K mg base 1 D_BadLast_init [(Str.ofString "self"), (Str.ofString "last")] "BadLast" ["last"] := okx_of F 15 rfl rfl sc_BadLast_init rfl (by decide) fun cdv A outer s H E => (pss_cons (G.ps_osg (pe_var (i := 0) rfl (.inl rfl)) (pe_var (i := 1) rfl (.inl rfl))) pss_nil)
theorem oxk_BadLast_0_last {X : Cx} (F : Fct X.prog X.K X.mg) (hr : Room (1 + 1) X.A) (hg : Gl X (Str.ofString "BadLast")) : Oxk X (Str.ofString "BadLast") "BadLast" ["last"] 0 [(Str.ofString "last")] gkm_BadLast_init_0_last := oxk_of (okx_BadLast_init F) hr hg (F.glo 85) (fExnX_ok (F.c.fact 59)) (nos_cons (F.he 60) nos_nil) (F.c.fact 728) rfl fun fd G => km_BadLast_init_0_last G
def N_NoOrder_init : List Str := [(Str.ofString "self"), (Str.ofString "population"), (Str.ofString "events")]
theorem nd_NoOrder_init : N_NoOrder_init.Nodup := by decide +kernel
theorem sc_NoOrder_init : FnScope N_NoOrder_init [(Str.ofString "self"), (Str.ofString "population"), (Str.ofString "events")] D_NoOrder_init.scope := ⟨rfl, rfl, rfl, nd_NoOrder_init, rfl, by decide +kernel, by decide +kernel⟩
theorem km_NoOrder_init_0_population_events {cl : List (Str × Addr)} {fd : FuncData} (G : FunG K cl D_NoOrder_init.name D_NoOrder_init.qual D_NoOrder_init.params D_NoOrder_init.body D_NoOrder_init.scope D_NoOrder_init.dfl D_NoOrder_init.kwd (D_NoOrder_init.at_ K) fd) : KwMk K fd [(Str.ofString "self"), (Str.ofString "population"), (Str.ofString "events")] 0 [(Str.ofString "population"), (Str.ofString "events")] gkm_NoOrder_init_0_population_events := kw_mk G 0 [(Str.ofString "population"), (Str.ofString "events")] [] [.kw 0, .kw 1] ms_nil fun T D0 kV doc pm an cdv ct u us its mv ws h0 h1 h2 h3 h4 => match us, its, mv, ws, h1, h2, h3, h4 with
  | [], [], [], [w0, w1], _, _, _, _ => rfl
theorem okx_NoOrder_init (F : Fct P K mg) : OkX P w K mg base 1 D_NoOrder_init [(Str.ofString "self"), (Str.ofString "population"), (Str.ofString "events")] "NoOrder" ["population", "events"] := okx_of F 16 rfl rfl sc_NoOrder_init rfl (by decide) fun cdv A outer s H E => (pss_cons (G.ps_osg (pe_var (i := 0) rfl (.inl rfl)) (pe_var (i := 1) rfl (.inl rfl))) (pss_cons (G.ps_osg (pe_var (i := 0) rfl (.inl rfl)) (pe_var (i := 2) rfl (.inl rfl))) pss_nil))
theorem oxk_NoOrder_0_population_events {X : Cx} (F : Fct X.prog X.K X.mg) (hr : Room (1 + 1) X.A) (hg : Gl X (Str.ofString "NoOrder")) : Oxk X (Str.ofString "NoOrder") "NoOrder" ["population", "events"] 0 [(Str.ofString "population"), (Str.ofString "events")] gkm_NoOrder_init_0_population_events := oxk_of (okx_NoOrder_init F) hr hg (F.glo 91) (fExnX_ok (F.c.fact 61)) (nos_cons (F.he 63) (nos_cons (F.he 62) nos_nil)) (F.c.fact 729) rfl fun fd G => km_NoOrder_init_0_population_events G
def N_Unknown_init : List Str := [(Str.ofString "self"), (Str.ofString "name")]
theorem nd_Unknown_init : N_Unknown_init.Nodup := by decide +kernel
theorem sc_Unknown_init : FnScope N_Unknown_init [(Str.ofString "self"), (Str.ofString "name")] D_Unknown_init.scope := ⟨rfl, rfl, rfl, nd_Unknown_init, rfl, by decide +kernel, by decide +kernel⟩
theorem km_Unknown_init_1 {cl : List (Str × Addr)} {fd : FuncData} (G : FunG K cl D_Unknown_init.name D_Unknown_init.qual D_Unknown_init.params D_Unknown_init.body D_Unknown_init.scope D_Unknown_init.dfl D_Unknown_init.kwd (D_Unknown_init.at_ K) fd) : KwMk K fd [(Str.ofString "self"), (Str.ofString "name")] 1 [] gkm_Unknown_init_1 := kw_mk G 1 [] [] [.pos 0] ms_nil fun T D0 kV doc pm an cdv ct u us its mv ws h0 h1 h2 h3 h4 => match us, its, mv, ws, h1, h2, h3, h4 with
  | [u0], [], [], [], _, _, _, _ => rfl
theorem okx_Unknown_init (F : Fct P K mg) : OkX P w K mg base 1 D_Unknown_init [(Str.ofString "self"), (Str.ofString "name")] "Unknown" ["name"] := okx_of F 17 rfl rfl sc_Unknown_init rfl (by decide) fun cdv A outer s H E => (pss_cons (G.ps_osg (pe_var (i := 0) rfl (.inl rfl)) (pe_var (i := 1) rfl (.inl rfl))) pss_nil)
theorem oxk_Unknown_1 {X : Cx} (F : Fct X.prog X.K X.mg) (hr : Room (1 + 1) X.A) (hg : Gl X (Str.ofString "Unknown")) : Oxk X (Str.ofString "Unknown") "Unknown" ["name"] 1 [] gkm_Unknown_init_1 := oxk_of (okx_Unknown_init F) hr hg (F.glo 90) (fExnX_ok (F.c.fact 28)) (nos_cons (F.he 29) nos_nil) (F.c.fact 730) rfl fun fd G => km_Unknown_init_1 G
def N_NoCell_init : List Str := [(Str.ofString "self"), (Str.ofString "at")]
theorem nd_NoCell_init : N_NoCell_init.Nodup := by decide +kernel
theorem sc_NoCell_init : FnScope N_NoCell_init [(Str.ofString "self"), (Str.ofString "at")] D_NoCell_init.scope := ⟨rfl, rfl, rfl, nd_NoCell_init, rfl, by decide +kernel, by decide +kernel⟩
theorem km_NoCell_init_1 {cl : List (Str × Addr)} {fd : FuncData} (G : FunG K cl D_NoCell_init.name D_NoCell_init.qual D_NoCell_init.params D_NoCell_init.body D_NoCell_init.scope D_NoCell_init.dfl D_NoCell_init.kwd (D_NoCell_init.at_ K) fd) : KwMk K fd [(Str.ofString "self"), (Str.ofString "at")] 1 [] gkm_NoCell_init_1 := kw_mk G 1 [] [] [.pos 0] ms_nil fun T D0 kV doc pm an cdv ct u us its mv ws h0 h1 h2 h3 h4 => match us, its, mv, ws, h1, h2, h3, h4 with
  | [u0], [], [], [], _, _, _, _ => rfl
theorem okx_NoCell_init (F : Fct P K mg) : OkX P w K mg base 1 D_NoCell_init [(Str.ofString "self"), (Str.ofString "at")] "NoCell" ["at"] := okx_of F 18 rfl rfl sc_NoCell_init rfl (by decide) fun cdv A outer s H E => (pss_cons (G.ps_osg (pe_var (i := 0) rfl (.inl rfl)) (pe_var (i := 1) rfl (.inl rfl))) pss_nil)
theorem oxk_NoCell_1 {X : Cx} (F : Fct X.prog X.K X.mg) (hr : Room (1 + 1) X.A) (hg : Gl X (Str.ofString "NoCell")) : Oxk X (Str.ofString "NoCell") "NoCell" ["at"] 1 [] gkm_NoCell_init_1 := oxk_of (okx_NoCell_init F) hr hg (F.glo 89) (fExnX_ok (F.c.fact 44)) (nos_cons (F.he 45) nos_nil) (F.c.fact 731) rfl fun fd G => km_NoCell_init_1 G
def N_Refusal_init : List Str := [(Str.ofString "self"), (Str.ofString "why")]
theorem nd_Refusal_init : N_Refusal_init.Nodup := by decide +kernel
theorem sc_Refusal_init : FnScope N_Refusal_init [(Str.ofString "self"), (Str.ofString "why")] D_Refusal_init.scope := ⟨rfl, rfl, rfl, nd_Refusal_init, rfl, by decide +kernel, by decide +kernel⟩
theorem km_Refusal_init_0_why {cl : List (Str × Addr)} {fd : FuncData} (G : FunG K cl D_Refusal_init.name D_Refusal_init.qual D_Refusal_init.params D_Refusal_init.body D_Refusal_init.scope D_Refusal_init.dfl D_Refusal_init.kwd (D_Refusal_init.at_ K) fd) : KwMk K fd [(Str.ofString "self"), (Str.ofString "why")] 0 [(Str.ofString "why")] gkm_Refusal_init_0_why := kw_mk G 0 [(Str.ofString "why")] [] [.kw 0] ms_nil fun T D0 kV doc pm an cdv ct u us its mv ws h0 h1 h2 h3 h4 => match us, its, mv, ws, h1, h2, h3, h4 with
  | [], [], [], [w0], _, _, _, _ => rfl
theorem okx_Refusal_init (F : Fct P K mg) : OkX P w K mg base 1 D_Refusal_init [(Str.ofString "self"), (Str.ofString "why")] "Refusal" ["why"] := okx_of F 19 rfl rfl sc_Refusal_init rfl (by decide) fun cdv A outer s H E => (pss_cons (G.ps_osg (pe_var (i := 0) rfl (.inl rfl)) (pe_var (i := 1) rfl (.inl rfl))) pss_nil)
theorem oxk_Refusal_0_why {X : Cx} (F : Fct X.prog X.K X.mg) (hr : Room (1 + 1) X.A) (hg : Gl X (Str.ofString "Refusal")) : Oxk X (Str.ofString "Refusal") "Refusal" ["why"] 0 [(Str.ofString "why")] gkm_Refusal_init_0_why := oxk_of (okx_Refusal_init F) hr hg (F.glo 94) (fExnX_ok (F.c.fact 66)) (nos_cons (F.he 67) nos_nil) (F.c.fact 732) rfl fun fd G => km_Refusal_init_0_why G
def N_Refused_init : List Str := [(Str.ofString "self"), (Str.ofString "event"), (Str.ofString "why"), (Str.ofString "changed")]
theorem nd_Refused_init : N_Refused_init.Nodup := by decide +kernel
theorem sc_Refused_init : FnScope N_Refused_init [(Str.ofString "self"), (Str.ofString "event"), (Str.ofString "why"), (Str.ofString "changed")] D_Refused_init.scope := ⟨rfl, rfl, rfl, nd_Refused_init, rfl, by decide +kernel, by decide +kernel⟩
theorem km_Refused_init_1_why_changed {cl : List (Str × Addr)} {fd : FuncData} (G : FunG K cl D_Refused_init.name D_Refused_init.qual D_Refused_init.params D_Refused_init.body D_Refused_init.scope D_Refused_init.dfl D_Refused_init.kwd (D_Refused_init.at_ K) fd) : KwMk K fd [(Str.ofString "self"), (Str.ofString "event"), (Str.ofString "why"), (Str.ofString "changed")] 1 [(Str.ofString "why"), (Str.ofString "changed")] gkm_Refused_init_1_why_changed := kw_mk G 1 [(Str.ofString "why"), (Str.ofString "changed")] [] [.pos 0, .kw 0, .kw 1] ms_nil fun T D0 kV doc pm an cdv ct u us its mv ws h0 h1 h2 h3 h4 => match us, its, mv, ws, h1, h2, h3, h4 with
  | [u0], [], [], [w0, w1], _, _, _, _ => rfl
theorem okx_Refused_init (F : Fct P K mg) : OkX P w K mg base 1 D_Refused_init [(Str.ofString "self"), (Str.ofString "event"), (Str.ofString "why"), (Str.ofString "changed")] "Refused" ["event", "why", "changed"] := okx_of F 20 rfl rfl sc_Refused_init rfl (by decide) fun cdv A outer s H E => (pss_cons (G.ps_osg (pe_var (i := 0) rfl (.inl rfl)) (pe_var (i := 1) rfl (.inl rfl))) (pss_cons (G.ps_osg (pe_var (i := 0) rfl (.inl rfl)) (pe_var (i := 2) rfl (.inl rfl))) (pss_cons (G.ps_osg (pe_var (i := 0) rfl (.inl rfl)) (pe_var (i := 3) rfl (.inl rfl))) pss_nil)))
theorem oxk_Refused_1_why_changed {X : Cx} (F : Fct X.prog X.K X.mg) (hr : Room (1 + 1) X.A) (hg : Gl X (Str.ofString "Refused")) : Oxk X (Str.ofString "Refused") "Refused" ["event", "why", "changed"] 1 [(Str.ofString "why"), (Str.ofString "changed")] gkm_Refused_init_1_why_changed := oxk_of (okx_Refused_init F) hr hg (F.glo 93) (fExnX_ok (F.c.fact 64)) (nos_cons (F.he 72) (nos_cons (F.he 65) (nos_cons (F.he 70) nos_nil))) (F.c.fact 733) rfl fun fd G => km_Refused_init_1_why_changed G
def N_Stuck_init : List Str := [(Str.ofString "self"), (Str.ofString "event"), (Str.ofString "why"), (Str.ofString "stuck"), (Str.ofString "changed")]
theorem nd_Stuck_init : N_Stuck_init.Nodup := by decide +kernel
theorem sc_Stuck_init : FnScope N_Stuck_init [(Str.ofString "self"), (Str.ofString "event"), (Str.ofString "why"), (Str.ofString "stuck"), (Str.ofString "changed")] D_Stuck_init.scope := ⟨rfl, rfl, rfl, nd_Stuck_init, rfl, by decide +kernel, by decide +kernel⟩
theorem km_Stuck_init_1_why_stuck_changed {cl : List (Str × Addr)} {fd : FuncData} (G : FunG K cl D_Stuck_init.name D_Stuck_init.qual D_Stuck_init.params D_Stuck_init.body D_Stuck_init.scope D_Stuck_init.dfl D_Stuck_init.kwd (D_Stuck_init.at_ K) fd) : KwMk K fd [(Str.ofString "self"), (Str.ofString "event"), (Str.ofString "why"), (Str.ofString "stuck"), (Str.ofString "changed")] 1 [(Str.ofString "why"), (Str.ofString "stuck"), (Str.ofString "changed")] gkm_Stuck_init_1_why_stuck_changed := kw_mk G 1 [(Str.ofString "why"), (Str.ofString "stuck"), (Str.ofString "changed")] [] [.pos 0, .kw 0, .kw 1, .kw 2] ms_nil fun T D0 kV doc pm an cdv ct u us its mv ws h0 h1 h2 h3 h4 => match us, its, mv, ws, h1, h2, h3, h4 with
  | [u0], [], [], [w0, w1, w2], _, _, _, _ => rfl
theorem okx_Stuck_init (F : Fct P K mg) : OkX P w K mg base 1 D_Stuck_init [(Str.ofString "self"), (Str.ofString "event"), (Str.ofString "why"), (Str.ofString "stuck"), (Str.ofString "changed")] "Stuck" ["event", "why", "stuck", "changed"] := okx_of F 21 rfl rfl sc_Stuck_init rfl (by decide) fun cdv A outer s H E => (pss_cons (G.ps_osg (pe_var (i := 0) rfl (.inl rfl)) (pe_var (i := 1) rfl (.inl rfl))) (pss_cons (G.ps_osg (pe_var (i := 0) rfl (.inl rfl)) (pe_var (i := 2) rfl (.inl rfl))) (pss_cons (G.ps_osg (pe_var (i := 0) rfl (.inl rfl)) (pe_var (i := 3) rfl (.inl rfl))) (pss_cons (G.ps_osg (pe_var (i := 0) rfl (.inl rfl)) (pe_var (i := 4) rfl (.inl rfl))) pss_nil))))
theorem oxk_Stuck_1_why_stuck_changed {X : Cx} (F : Fct X.prog X.K X.mg) (hr : Room (1 + 1) X.A) (hg : Gl X (Str.ofString "Stuck")) : Oxk X (Str.ofString "Stuck") "Stuck" ["event", "why", "stuck", "changed"] 1 [(Str.ofString "why"), (Str.ofString "stuck"), (Str.ofString "changed")] gkm_Stuck_init_1_why_stuck_changed := oxk_of (okx_Stuck_init F) hr hg (F.glo 92) (fExnX_ok (F.c.fact 68)) (nos_cons (F.he 73) (nos_cons (F.he 69) (nos_cons (F.he 74) (nos_cons (F.he 71) nos_nil)))) (F.c.fact 734) rfl fun fd G => km_Stuck_init_1_why_stuck_changed G
def N_law_second : List Str := [(Str.ofString "_law_k"), (Str.ofString "_law_one"), (Str.ofString "_law_two"), (Str.ofString "_law_three")]
theorem nd_law_second : N_law_second.Nodup := by decide +kernel
theorem sc_law_second : FnScope N_law_second [(Str.ofString "_law_k"), (Str.ofString "_law_one"), (Str.ofString "_law_two"), (Str.ofString "_law_three")] D_law_second.scope := ⟨rfl, rfl, rfl, nd_law_second, rfl, by decide +kernel, by decide +kernel⟩
theorem kw_law_second_4 {cl : List (Str × Addr)} {fd : FuncData} (G : FunG K cl D_law_second.name D_law_second.qual D_law_second.params D_law_second.body D_law_second.scope D_law_second.dfl D_law_second.kwd (D_law_second.at_ K) fd) : KwOk K fd [(Str.ofString "_law_k"), (Str.ofString "_law_one"), (Str.ofString "_law_two"), (Str.ofString "_law_three")] 4 [] gkw_law_second_4 := kw_ok G 4 [] [] [.pos 0, .pos 1, .pos 2, .pos 3] ms_nil ⟨by decide, rfl⟩ fun T D0 kV doc pm an cdv ct us its mv ws h0 h1 h2 h3 h4 => match us, its, mv, ws, h1, h2, h3, h4 with
  | [u0, u1, u2, u3], [], [], [], _, _, _, _ => rfl
theorem ok_law_second (F : Fct P K mg) : OkD P w K mg base 3 D_law_second [(Str.ofString "_law_k"), (Str.ofString "_law_one"), (Str.ofString "_law_two"), (Str.ofString "_law_three")] m_law_second := okd_pure F 22 rfl rfl sc_law_second fun cdv A outer s H E hr tk => by
  have nd := nd_law_second
  have hu := units65 hr
  exact (sb_cons (ss_if (tu_cmp (rl_eqX hr.units) (va (i := 0) rfl (.inl rfl)) se_int)
    (sb_one (ss_ret (se_tup (sa_cons (se_mkx0 (oxk_BadOrder_0_order F (hr.mono (by decide)) (by rfl)) (sk_cons (va (i := 1) rfl (.inl rfl)) sk_nil)) (sa_cons (se_lst (sa_cons (va (i := 1) rfl (.inl rfl)) sa_nil)) sa_nil)))))
    sb_nil)
    (sb_cons (ss_if (tu_cmp (rl_eqX hr.units) (va (i := 0) rfl (.inl rfl)) se_int)
    (sb_one (ss_ret (se_tup (sa_cons (se_mkx (oxk_BadSubject_1 F (hr.mono (by decide)) (by rfl)) (sa_cons (va (i := 1) rfl (.inl rfl)) sa_nil) sk_nil) (sa_cons (se_lst (sa_cons (va (i := 1) rfl (.inl rfl)) sa_nil)) sa_nil)))))
    sb_nil)
    (sb_cons (ss_if (tu_cmp (rl_eqX hr.units) (va (i := 0) rfl (.inl rfl)) se_int)
    (sb_one (ss_ret (se_tup (sa_cons (se_mkx (oxk_BadSizes_1 F (hr.mono (by decide)) (by rfl)) (sa_cons (va (i := 1) rfl (.inl rfl)) sa_nil) sk_nil) (sa_cons (se_lst (sa_cons (va (i := 1) rfl (.inl rfl)) sa_nil)) sa_nil)))))
    sb_nil)
    (sb_cons (ss_if (tu_cmp (rl_eqX hr.units) (va (i := 0) rfl (.inl rfl)) se_int)
    (sb_one (ss_ret (se_tup (sa_cons (se_mkx0 (oxk_BadLast_0_last F (hr.mono (by decide)) (by rfl)) (sk_cons (va (i := 1) rfl (.inl rfl)) sk_nil)) (sa_cons (se_lst (sa_cons (va (i := 1) rfl (.inl rfl)) sa_nil)) sa_nil)))))
    sb_nil)
    (sb_cons (ss_if (tu_cmp (rl_eqX hr.units) (va (i := 0) rfl (.inl rfl)) se_int)
    (sb_one (ss_ret (se_tup (sa_cons (se_mkx0 (oxk_NoOrder_0_population_events F (hr.mono (by decide)) (by rfl)) (sk_cons (va (i := 1) rfl (.inl rfl)) (sk_cons (va (i := 2) rfl (.inl rfl)) sk_nil))) (sa_cons (se_lst (sa_cons (va (i := 1) rfl (.inl rfl)) (sa_cons (va (i := 2) rfl (.inl rfl)) sa_nil))) sa_nil)))))
    sb_nil)
    (sb_cons (ss_if (tu_cmp (rl_eqX hr.units) (va (i := 0) rfl (.inl rfl)) se_int)
    (sb_one (ss_ret (se_tup (sa_cons (se_mkx (oxk_Unknown_1 F (hr.mono (by decide)) (by rfl)) (sa_cons (va (i := 1) rfl (.inl rfl)) sa_nil) sk_nil) (sa_cons (se_lst (sa_cons (va (i := 1) rfl (.inl rfl)) sa_nil)) sa_nil)))))
    sb_nil)
    (sb_cons (ss_if (tu_cmp (rl_eqX hr.units) (va (i := 0) rfl (.inl rfl)) se_int)
    (sb_one (ss_ret (se_tup (sa_cons (se_mkx (oxk_NoCell_1 F (hr.mono (by decide)) (by rfl)) (sa_cons (va (i := 1) rfl (.inl rfl)) sa_nil) sk_nil) (sa_cons (se_lst (sa_cons (va (i := 1) rfl (.inl rfl)) sa_nil)) sa_nil)))))
    sb_nil)
    (sb_cons (ss_if (tu_cmp (rl_eqX hr.units) (va (i := 0) rfl (.inl rfl)) se_int)
    (sb_one (ss_ret (se_tup (sa_cons (se_mk0 (C := "Running") (by rfl) (F.glo 26) (F.c.fact 27)) (sa_cons (se_lst sa_nil) sa_nil)))))
    sb_nil)
    (sb_cons (ss_if (tu_cmp (rl_eqX hr.units) (va (i := 0) rfl (.inl rfl)) se_int)
    (sb_one (ss_ret (se_tup (sa_cons (se_mkx0 (oxk_Refusal_0_why F (hr.mono (by decide)) (by rfl)) (sk_cons (va (i := 1) rfl (.inl rfl)) sk_nil)) (sa_cons (se_lst (sa_cons (va (i := 1) rfl (.inl rfl)) sa_nil)) sa_nil)))))
    sb_nil)
    (sb_cons (ss_if (tu_cmp (rl_eqX hr.units) (va (i := 0) rfl (.inl rfl)) se_int)
    (sb_one (ss_ret (se_tup (sa_cons (se_mkx (oxk_Refused_1_why_changed F (hr.mono (by decide)) (by rfl)) (sa_cons (va (i := 1) rfl (.inl rfl)) sa_nil) (sk_cons (va (i := 2) rfl (.inl rfl)) (sk_cons (va (i := 3) rfl (.inl rfl)) sk_nil))) (sa_cons (se_lst (sa_cons (va (i := 1) rfl (.inl rfl)) (sa_cons (va (i := 2) rfl (.inl rfl)) (sa_cons (va (i := 3) rfl (.inl rfl)) sa_nil)))) sa_nil)))))
    sb_nil)
    (sb_one (ss_ret (se_tup (sa_cons (se_mkx (oxk_Stuck_1_why_stuck_changed F (hr.mono (by decide)) (by rfl)) (sa_cons (va (i := 1) rfl (.inl rfl)) sa_nil) (sk_cons (va (i := 1) rfl (.inl rfl)) (sk_cons (va (i := 2) rfl (.inl rfl)) (sk_cons (va (i := 3) rfl (.inl rfl)) sk_nil)))) (sa_cons (se_lst (sa_cons (va (i := 1) rfl (.inl rfl)) (sa_cons (va (i := 1) rfl (.inl rfl)) (sa_cons (va (i := 2) rfl (.inl rfl)) (sa_cons (va (i := 3) rfl (.inl rfl)) sa_nil))))) sa_nil)))))))))))))))
theorem law_second_kp (F : Fct P K mg) : PySem.W.keepIn K (.ref (He.ga K (Str.ofString "_law_second"))) = true := by
  obtain ⟨fd, cl, G, _⟩ := F.c.def_ 22 (d := D_law_second) rfl
  exact G.kp
def N_law_first_told : List Str := [(Str.ofString "_law_k"), (Str.ofString "_law_e")]
theorem nd_law_first_told : N_law_first_told.Nodup := by decide +kernel
theorem sc_law_first_told : FnScope N_law_first_told [(Str.ofString "_law_k"), (Str.ofString "_law_e")] D_law_first_told.scope := ⟨rfl, rfl, rfl, nd_law_first_told, rfl, by decide +kernel, by decide +kernel⟩
theorem kw_law_first_told_2 {cl : List (Str × Addr)} {fd : FuncData} (G : FunG K cl D_law_first_told.name D_law_first_told.qual D_law_first_told.params D_law_first_told.body D_law_first_told.scope D_law_first_told.dfl D_law_first_told.kwd (D_law_first_told.at_ K) fd) : KwOk K fd [(Str.ofString "_law_k"), (Str.ofString "_law_e")] 2 [] gkw_law_first_told_2 := kw_ok G 2 [] [] [.pos 0, .pos 1] ms_nil ⟨by decide, rfl⟩ fun T D0 kV doc pm an cdv ct us its mv ws h0 h1 h2 h3 h4 => match us, its, mv, ws, h1, h2, h3, h4 with
  | [u0, u1], [], [], [], _, _, _, _ => rfl
theorem ok_law_first_told (F : Fct P K mg) : OkD P w K mg base 1 D_law_first_told [(Str.ofString "_law_k"), (Str.ofString "_law_e")] m_law_first_told := okd_pure F 23 rfl rfl sc_law_first_told fun cdv A outer s H E hr tk => by
  have nd := nd_law_first_told
  have hu := units65 hr
  exact (sb_cons (ss_if (tu_cmp (rl_in hu) (va (i := 0) rfl (.inl rfl)) (se_lst (sa_cons se_int (sa_cons se_int (sa_cons se_int (sa_cons se_int (sa_cons se_int sa_nil)))))))
    (sb_one (ss_ret (se_lst (sa_cons (se_xf (f := "name") (va (i := 1) rfl (.inl rfl)) (xfx_cons (F.c.fact 40) (F.he 41) (xfx_cons (F.c.fact 38) (F.he 39) (xfx_cons (F.c.fact 36) (F.he 37) (xfx_cons (F.c.fact 34) (F.he 35) (xfx_cons (F.c.fact 32) (F.he 33) (xfx_cons (F.c.fact 30) (F.he 31) (xfx_cons (F.c.fact 28) (F.he 29) xfx_nil)))))))) sa_nil))))
    sb_nil)
    (sb_cons (ss_if (tu_cmp (rl_eqX hr.units) (va (i := 0) rfl (.inl rfl)) se_int)
    (sb_one (ss_ret (se_lst (sa_cons (se_xf (f := "cost") (va (i := 1) rfl (.inl rfl)) (xfx_cons (F.c.fact 42) (F.he 43) xfx_nil)) sa_nil))))
    sb_nil)
    (sb_cons (ss_if (tu_cmp (rl_eqX hr.units) (va (i := 0) rfl (.inl rfl)) se_int)
    (sb_one (ss_ret (se_lst (sa_cons (se_xf (f := "part") (va (i := 1) rfl (.inl rfl)) (xfx_cons (F.c.fact 48) (F.he 50) xfx_nil)) (sa_cons (se_xf (f := "at") (va (i := 1) rfl (.inl rfl)) (xfx_cons (F.c.fact 48) (F.he 49) (xfx_cons (F.c.fact 46) (F.he 47) (xfx_cons (F.c.fact 44) (F.he 45) xfx_nil)))) sa_nil)))))
    sb_nil)
    (sb_cons (ss_if (tu_cmp (rl_eqX hr.units) (va (i := 0) rfl (.inl rfl)) se_int)
    (sb_one (ss_ret (se_lst (sa_cons (se_xf (f := "at") (va (i := 1) rfl (.inl rfl)) (xfx_cons (F.c.fact 48) (F.he 49) (xfx_cons (F.c.fact 46) (F.he 47) (xfx_cons (F.c.fact 44) (F.he 45) xfx_nil)))) sa_nil))))
    sb_nil)
    (sb_cons (ss_if (tu_cmp (rl_eqX hr.units) (va (i := 0) rfl (.inl rfl)) se_int)
    (sb_one (ss_ret (se_lst (sa_cons (se_xf (f := "what") (va (i := 1) rfl (.inl rfl)) (xfx_cons (F.c.fact 51) (F.he 52) xfx_nil)) sa_nil))))
    sb_nil)
    (sb_one (ss_ret (se_ife (tu_cmp (rl_eqX hr.units) (va (i := 0) rfl (.inl rfl)) se_int) (se_lst sa_nil) (se_lst (sa_cons (se_xf (f := "place") (va (i := 1) rfl (.inl rfl)) (xfx_cons (F.c.fact 53) (F.he 54) xfx_nil)) sa_nil))))))))))
theorem law_first_told_kp (F : Fct P K mg) : PySem.W.keepIn K (.ref (He.ga K (Str.ofString "_law_first_told"))) = true := by
  obtain ⟨fd, cl, G, _⟩ := F.c.def_ 23 (d := D_law_first_told) rfl
  exact G.kp
def N_law_second_told : List Str := [(Str.ofString "_law_k"), (Str.ofString "_law_e")]
theorem nd_law_second_told : N_law_second_told.Nodup := by decide +kernel
theorem sc_law_second_told : FnScope N_law_second_told [(Str.ofString "_law_k"), (Str.ofString "_law_e")] D_law_second_told.scope := ⟨rfl, rfl, rfl, nd_law_second_told, rfl, by decide +kernel, by decide +kernel⟩
theorem kw_law_second_told_2 {cl : List (Str × Addr)} {fd : FuncData} (G : FunG K cl D_law_second_told.name D_law_second_told.qual D_law_second_told.params D_law_second_told.body D_law_second_told.scope D_law_second_told.dfl D_law_second_told.kwd (D_law_second_told.at_ K) fd) : KwOk K fd [(Str.ofString "_law_k"), (Str.ofString "_law_e")] 2 [] gkw_law_second_told_2 := kw_ok G 2 [] [] [.pos 0, .pos 1] ms_nil ⟨by decide, rfl⟩ fun T D0 kV doc pm an cdv ct us its mv ws h0 h1 h2 h3 h4 => match us, its, mv, ws, h1, h2, h3, h4 with
  | [u0, u1], [], [], [], _, _, _, _ => rfl
theorem ok_law_second_told (F : Fct P K mg) : OkD P w K mg base 1 D_law_second_told [(Str.ofString "_law_k"), (Str.ofString "_law_e")] m_law_second_told := okd_pure F 24 rfl rfl sc_law_second_told fun cdv A outer s H E hr tk => by
  have nd := nd_law_second_told
  have hu := units65 hr
  exact (sb_cons (ss_if (tu_cmp (rl_eqX hr.units) (va (i := 0) rfl (.inl rfl)) se_int)
    (sb_one (ss_ret (se_lst (sa_cons (se_xf (f := "order") (va (i := 1) rfl (.inl rfl)) (xfx_cons (F.c.fact 55) (F.he 56) xfx_nil)) sa_nil))))
    sb_nil)
    (sb_cons (ss_if (tu_cmp (rl_eqX hr.units) (va (i := 0) rfl (.inl rfl)) se_int)
    (sb_one (ss_ret (se_lst (sa_cons (se_xf (f := "subject") (va (i := 1) rfl (.inl rfl)) (xfx_cons (F.c.fact 57) (F.he 58) xfx_nil)) sa_nil))))
    sb_nil)
    (sb_cons (ss_if (tu_cmp (rl_in hu) (va (i := 0) rfl (.inl rfl)) (se_lst (sa_cons se_int (sa_cons se_int sa_nil))))
    (sb_one (ss_ret (se_lst (sa_cons (se_xf (f := "name") (va (i := 1) rfl (.inl rfl)) (xfx_cons (F.c.fact 40) (F.he 41) (xfx_cons (F.c.fact 38) (F.he 39) (xfx_cons (F.c.fact 36) (F.he 37) (xfx_cons (F.c.fact 34) (F.he 35) (xfx_cons (F.c.fact 32) (F.he 33) (xfx_cons (F.c.fact 30) (F.he 31) (xfx_cons (F.c.fact 28) (F.he 29) xfx_nil)))))))) sa_nil))))
    sb_nil)
    (sb_cons (ss_if (tu_cmp (rl_eqX hr.units) (va (i := 0) rfl (.inl rfl)) se_int)
    (sb_one (ss_ret (se_lst (sa_cons (se_xf (f := "last") (va (i := 1) rfl (.inl rfl)) (xfx_cons (F.c.fact 59) (F.he 60) xfx_nil)) sa_nil))))
    sb_nil)
    (sb_cons (ss_if (tu_cmp (rl_eqX hr.units) (va (i := 0) rfl (.inl rfl)) se_int)
    (sb_one (ss_ret (se_lst (sa_cons (se_xf (f := "population") (va (i := 1) rfl (.inl rfl)) (xfx_cons (F.c.fact 61) (F.he 63) xfx_nil)) (sa_cons (se_xf (f := "events") (va (i := 1) rfl (.inl rfl)) (xfx_cons (F.c.fact 61) (F.he 62) xfx_nil)) sa_nil)))))
    sb_nil)
    (sb_cons (ss_if (tu_cmp (rl_eqX hr.units) (va (i := 0) rfl (.inl rfl)) se_int)
    (sb_one (ss_ret (se_lst (sa_cons (se_xf (f := "at") (va (i := 1) rfl (.inl rfl)) (xfx_cons (F.c.fact 48) (F.he 49) (xfx_cons (F.c.fact 46) (F.he 47) (xfx_cons (F.c.fact 44) (F.he 45) xfx_nil)))) sa_nil))))
    sb_nil)
    (sb_cons (ss_if (tu_cmp (rl_eqX hr.units) (va (i := 0) rfl (.inl rfl)) se_int)
    (sb_one (ss_ret (se_lst sa_nil)))
    sb_nil)
    (sb_cons (ss_if (tu_cmp (rl_eqX hr.units) (va (i := 0) rfl (.inl rfl)) se_int)
    (sb_one (ss_ret (se_lst (sa_cons (se_xf (f := "why") (va (i := 1) rfl (.inl rfl)) (xfx_cons (F.c.fact 68) (F.he 69) (xfx_cons (F.c.fact 66) (F.he 67) (xfx_cons (F.c.fact 64) (F.he 65) xfx_nil)))) sa_nil))))
    sb_nil)
    (sb_one (ss_ret (se_ife (tu_cmp (rl_eqX hr.units) (va (i := 0) rfl (.inl rfl)) se_int) (se_lst (sa_cons (se_xf (f := "event") (va (i := 1) rfl (.inl rfl)) (xfx_cons (F.c.fact 68) (F.he 73) (xfx_cons (F.c.fact 64) (F.he 72) xfx_nil))) (sa_cons (se_xf (f := "why") (va (i := 1) rfl (.inl rfl)) (xfx_cons (F.c.fact 68) (F.he 69) (xfx_cons (F.c.fact 66) (F.he 67) (xfx_cons (F.c.fact 64) (F.he 65) xfx_nil)))) (sa_cons (se_xf (f := "changed") (va (i := 1) rfl (.inl rfl)) (xfx_cons (F.c.fact 68) (F.he 71) (xfx_cons (F.c.fact 64) (F.he 70) xfx_nil))) sa_nil)))) (se_lst (sa_cons (se_xf (f := "event") (va (i := 1) rfl (.inl rfl)) (xfx_cons (F.c.fact 68) (F.he 73) (xfx_cons (F.c.fact 64) (F.he 72) xfx_nil))) (sa_cons (se_xf (f := "why") (va (i := 1) rfl (.inl rfl)) (xfx_cons (F.c.fact 68) (F.he 69) (xfx_cons (F.c.fact 66) (F.he 67) (xfx_cons (F.c.fact 64) (F.he 65) xfx_nil)))) (sa_cons (se_xf (f := "stuck") (va (i := 1) rfl (.inl rfl)) (xfx_cons (F.c.fact 68) (F.he 74) xfx_nil)) (sa_cons (se_xf (f := "changed") (va (i := 1) rfl (.inl rfl)) (xfx_cons (F.c.fact 68) (F.he 71) (xfx_cons (F.c.fact 64) (F.he 70) xfx_nil))) sa_nil))))))))))))))))
theorem law_second_told_kp (F : Fct P K mg) : PySem.W.keepIn K (.ref (He.ga K (Str.ofString "_law_second_told"))) = true := by
  obtain ⟨fd, cl, G, _⟩ := F.c.def_ 24 (d := D_law_second_told) rfl
  exact G.kp
def N_law_under : List Str := [(Str.ofString "_law_e"), (Str.ofString "_law_row")]
theorem nd_law_under : N_law_under.Nodup := by decide +kernel
theorem sc_law_under : FnScope N_law_under [(Str.ofString "_law_e")] D_law_under.scope := ⟨rfl, rfl, rfl, nd_law_under, rfl, by decide +kernel, by decide +kernel⟩
theorem kw_law_under_1 {cl : List (Str × Addr)} {fd : FuncData} (G : FunG K cl D_law_under.name D_law_under.qual D_law_under.params D_law_under.body D_law_under.scope D_law_under.dfl D_law_under.kwd (D_law_under.at_ K) fd) : KwOk K fd [(Str.ofString "_law_e")] 1 [] gkw_law_under_1 := kw_ok G 1 [] [] [.pos 0] ms_nil ⟨by decide, rfl⟩ fun T D0 kV doc pm an cdv ct us its mv ws h0 h1 h2 h3 h4 => match us, its, mv, ws, h1, h2, h3, h4 with
  | [u0], [], [], [], _, _, _, _ => rfl
theorem ok_law_under (F : Fct P K mg) : OkD P w K mg base 1 D_law_under [(Str.ofString "_law_e")] m_law_under := okd_pure F 25 rfl rfl sc_law_under fun cdv A outer s H E hr tk => by
  have nd := nd_law_under
  have hu := units65 hr
  exact (sb_cons (ss_set (i := 1) nd rfl (.inl rfl) (se_lst (sa_cons (se_bi ⟨by rfl, (F.free 18)⟩ call_isG (ca_isG (isT_ok F) (isE_ok F)) (sa_cons (va (i := 0) rfl (.inl rfl)) (sa_cons (se_glo (C := "BadName") (by rfl) (F.glo 78)) sa_nil)) (by rfl)) (sa_cons (se_bi ⟨by rfl, (F.free 18)⟩ call_isG (ca_isG (isT_ok F) (isE_ok F)) (sa_cons (va (i := 0) rfl (.inl rfl)) (sa_cons (se_glo (C := "BadCost") (by rfl) (F.glo 77)) sa_nil)) (by rfl)) (sa_cons (se_bi ⟨by rfl, (F.free 18)⟩ call_isG (ca_isG (isT_ok F) (isE_ok F)) (sa_cons (va (i := 0) rfl (.inl rfl)) (sa_cons (se_glo (C := "BadStep") (by rfl) (F.glo 76)) sa_nil)) (by rfl)) (sa_cons (se_bi ⟨by rfl, (F.free 18)⟩ call_isG (ca_isG (isT_ok F) (isE_ok F)) (sa_cons (va (i := 0) rfl (.inl rfl)) (sa_cons (se_glo (C := "BadBoard") (by rfl) (F.glo 75)) sa_nil)) (by rfl)) sa_nil))))))
    (sb_cons (ss_set (i := 1) nd rfl (.inl rfl) (su_op rl_add (va (i := 1) rfl (.inl rfl)) (se_lst (sa_cons (se_bi ⟨by rfl, (F.free 18)⟩ call_isG (ca_isG (isT_ok F) (isE_ok F)) (sa_cons (va (i := 0) rfl (.inl rfl)) (sa_cons (se_glo (C := "BadLine") (by rfl) (F.glo 82)) sa_nil)) (by rfl)) (sa_cons (se_bi ⟨by rfl, (F.free 18)⟩ call_isG (ca_isG (isT_ok F) (isE_ok F)) (sa_cons (va (i := 0) rfl (.inl rfl)) (sa_cons (se_glo (C := "BadGuard") (by rfl) (F.glo 81)) sa_nil)) (by rfl)) (sa_cons (se_bi ⟨by rfl, (F.free 18)⟩ call_isG (ca_isG (isT_ok F) (isE_ok F)) (sa_cons (va (i := 0) rfl (.inl rfl)) (sa_cons (se_glo (C := "Nested") (by rfl) (F.glo 80)) sa_nil)) (by rfl)) (sa_cons (se_bi ⟨by rfl, (F.free 18)⟩ call_isG (ca_isG (isT_ok F) (isE_ok F)) (sa_cons (va (i := 0) rfl (.inl rfl)) (sa_cons (se_glo (C := "TooMany") (by rfl) (F.glo 79)) sa_nil)) (by rfl)) sa_nil)))))))
    (sb_cons (ss_set (i := 1) nd rfl (.inl rfl) (su_op rl_add (va (i := 1) rfl (.inl rfl)) (se_lst (sa_cons (se_bi ⟨by rfl, (F.free 18)⟩ call_isG (ca_isG (isT_ok F) (isE_ok F)) (sa_cons (va (i := 0) rfl (.inl rfl)) (sa_cons (se_glo (C := "OtherBoard") (by rfl) (F.glo 24)) sa_nil)) (by rfl)) (sa_cons (se_bi ⟨by rfl, (F.free 18)⟩ call_isG (ca_isG (isT_ok F) (isE_ok F)) (sa_cons (va (i := 0) rfl (.inl rfl)) (sa_cons (se_glo (C := "OpenFlow") (by rfl) (F.glo 84)) sa_nil)) (by rfl)) (sa_cons (se_bi ⟨by rfl, (F.free 18)⟩ call_isG (ca_isG (isT_ok F) (isE_ok F)) (sa_cons (va (i := 0) rfl (.inl rfl)) (sa_cons (se_glo (C := "BadPopulation") (by rfl) (F.glo 83)) sa_nil)) (by rfl)) sa_nil))))))
    (sb_cons (ss_set (i := 1) nd rfl (.inl rfl) (su_op rl_add (va (i := 1) rfl (.inl rfl)) (se_lst (sa_cons (se_bi ⟨by rfl, (F.free 18)⟩ call_isG (ca_isG (isT_ok F) (isE_ok F)) (sa_cons (va (i := 0) rfl (.inl rfl)) (sa_cons (se_glo (C := "BadOrder") (by rfl) (F.glo 88)) sa_nil)) (by rfl)) (sa_cons (se_bi ⟨by rfl, (F.free 18)⟩ call_isG (ca_isG (isT_ok F) (isE_ok F)) (sa_cons (va (i := 0) rfl (.inl rfl)) (sa_cons (se_glo (C := "BadSubject") (by rfl) (F.glo 87)) sa_nil)) (by rfl)) (sa_cons (se_bi ⟨by rfl, (F.free 18)⟩ call_isG (ca_isG (isT_ok F) (isE_ok F)) (sa_cons (va (i := 0) rfl (.inl rfl)) (sa_cons (se_glo (C := "BadSizes") (by rfl) (F.glo 86)) sa_nil)) (by rfl)) (sa_cons (se_bi ⟨by rfl, (F.free 18)⟩ call_isG (ca_isG (isT_ok F) (isE_ok F)) (sa_cons (va (i := 0) rfl (.inl rfl)) (sa_cons (se_glo (C := "BadLast") (by rfl) (F.glo 85)) sa_nil)) (by rfl)) sa_nil)))))))
    (sb_cons (ss_set (i := 1) nd rfl (.inl rfl) (su_op rl_add (va (i := 1) rfl (.inl rfl)) (se_lst (sa_cons (se_bi ⟨by rfl, (F.free 18)⟩ call_isG (ca_isG (isT_ok F) (isE_ok F)) (sa_cons (va (i := 0) rfl (.inl rfl)) (sa_cons (se_glo (C := "NoOrder") (by rfl) (F.glo 91)) sa_nil)) (by rfl)) (sa_cons (se_bi ⟨by rfl, (F.free 18)⟩ call_isG (ca_isG (isT_ok F) (isE_ok F)) (sa_cons (va (i := 0) rfl (.inl rfl)) (sa_cons (se_glo (C := "Unknown") (by rfl) (F.glo 90)) sa_nil)) (by rfl)) (sa_cons (se_bi ⟨by rfl, (F.free 18)⟩ call_isG (ca_isG (isT_ok F) (isE_ok F)) (sa_cons (va (i := 0) rfl (.inl rfl)) (sa_cons (se_glo (C := "NoCell") (by rfl) (F.glo 89)) sa_nil)) (by rfl)) (sa_cons (se_bi ⟨by rfl, (F.free 18)⟩ call_isG (ca_isG (isT_ok F) (isE_ok F)) (sa_cons (va (i := 0) rfl (.inl rfl)) (sa_cons (se_glo (C := "Running") (by rfl) (F.glo 26)) sa_nil)) (by rfl)) sa_nil)))))))
    (sb_one (ss_ret (su_op rl_add (va (i := 1) rfl (.inl rfl)) (se_lst (sa_cons (se_bi ⟨by rfl, (F.free 18)⟩ call_isG (ca_isG (isT_ok F) (isE_ok F)) (sa_cons (va (i := 0) rfl (.inl rfl)) (sa_cons (se_glo (C := "Refusal") (by rfl) (F.glo 94)) sa_nil)) (by rfl)) (sa_cons (se_bi ⟨by rfl, (F.free 18)⟩ call_isG (ca_isG (isT_ok F) (isE_ok F)) (sa_cons (va (i := 0) rfl (.inl rfl)) (sa_cons (se_glo (C := "Refused") (by rfl) (F.glo 93)) sa_nil)) (by rfl)) (sa_cons (se_bi ⟨by rfl, (F.free 18)⟩ call_isG (ca_isG (isT_ok F) (isE_ok F)) (sa_cons (va (i := 0) rfl (.inl rfl)) (sa_cons (se_glo (C := "Stuck") (by rfl) (F.glo 92)) sa_nil)) (by rfl)) sa_nil))))))))))))
theorem law_under_kp (F : Fct P K mg) : PySem.W.keepIn K (.ref (He.ga K (Str.ofString "_law_under"))) = true := by
  obtain ⟨fd, cl, G, _⟩ := F.c.def_ 25 (d := D_law_under) rfl
  exact G.kp
def N_law_right : List Str := [(Str.ofString "_law_k"), (Str.ofString "_law_one"), (Str.ofString "_law_two"), (Str.ofString "_law_three"), (Str.ofString "_law_made"), (Str.ofString "_law_due"), (Str.ofString "_law_found_out"), (Str.ofString "_law_n")]
theorem nd_law_right : N_law_right.Nodup := by decide +kernel
theorem sc_law_right : FnScope N_law_right [(Str.ofString "_law_k"), (Str.ofString "_law_one"), (Str.ofString "_law_two"), (Str.ofString "_law_three")] D_law_right.scope := ⟨rfl, rfl, rfl, nd_law_right, rfl, by decide +kernel, by decide +kernel⟩
theorem kw_law_right_4 {cl : List (Str × Addr)} {fd : FuncData} (G : FunG K cl D_law_right.name D_law_right.qual D_law_right.params D_law_right.body D_law_right.scope D_law_right.dfl D_law_right.kwd (D_law_right.at_ K) fd) : KwOk K fd [(Str.ofString "_law_k"), (Str.ofString "_law_one"), (Str.ofString "_law_two"), (Str.ofString "_law_three")] 4 [] gkw_law_right_4 := kw_ok G 4 [] [] [.pos 0, .pos 1, .pos 2, .pos 3] ms_nil ⟨by decide, rfl⟩ fun T D0 kV doc pm an cdv ct us its mv ws h0 h1 h2 h3 h4 => match us, its, mv, ws, h1, h2, h3, h4 with
  | [u0, u1, u2, u3], [], [], [], _, _, _, _ => rfl
theorem ok_law_right (F : Fct P K mg) : OkG P w K mg base 4 D_law_right [(Str.ofString "_law_k"), (Str.ofString "_law_one"), (Str.ofString "_law_two"), (Str.ofString "_law_three")] m_law_right := okg_pure F 26 rfl rfl sc_law_right fun cdv A outer s H E gd hr tk => by
  have nd := nd_law_right
  have hu := units65 hr
  exact (sb_cons (ss_asg (se_ife (tu_cmp rl_lt (va (i := 0) rfl (.inr (.inl rfl))) se_int) (se_fn ⟨by rfl, (F.glo 11), (law_first_kp F)⟩ (cal_of (ok_law_first F) (hr.mono (by decide)) fun _ _ G => kw_law_first_4 G) tk (sa_cons (va (i := 0) rfl (.inr (.inl rfl))) (sa_cons (va (i := 1) rfl (.inl rfl)) (sa_cons (va (i := 2) rfl (.inl rfl)) (sa_cons (va (i := 3) rfl (.inl rfl)) sa_nil))))) (se_fn ⟨by rfl, (F.glo 12), (law_second_kp F)⟩ (cal_of (ok_law_second F) (hr.mono (by decide)) fun _ _ G => kw_law_second_4 G) tk (sa_cons (va (i := 0) rfl (.inr (.inl rfl))) (sa_cons (va (i := 1) rfl (.inl rfl)) (sa_cons (va (i := 2) rfl (.inl rfl)) (sa_cons (va (i := 3) rfl (.inl rfl)) sa_nil)))))) (sg_tup rfl (sgs_cons (sg_name (i := 4) nd rfl (.inl rfl)) (sgs_cons (sg_name (i := 5) nd rfl (.inl rfl)) sgs_nil)) (gsC_len (gsC_len gsN_len _) _)))
    (sb_cons (ss_set (i := 6) nd rfl (.inl rfl) (se_ife (tu_cmp rl_lt (va (i := 0) rfl (.inr (.inl rfl))) se_int) (se_fn ⟨by rfl, (F.glo 13), (law_first_told_kp F)⟩ (cal_of (ok_law_first_told F) (hr.mono (by decide)) fun _ _ G => kw_law_first_told_2 G) tk (sa_cons (va (i := 0) rfl (.inr (.inl rfl))) (sa_cons (va (i := 4) rfl (.inl rfl)) sa_nil))) (se_fn ⟨by rfl, (F.glo 14), (law_second_told_kp F)⟩ (cal_of (ok_law_second_told F) (hr.mono (by decide)) fun _ _ G => kw_law_second_told_2 G) tk (sa_cons (va (i := 0) rfl (.inr (.inl rfl))) (sa_cons (va (i := 4) rfl (.inl rfl)) sa_nil)))))
    (sb_cons (ss_if (st_w (sw_or (tu_cmp (rl_neX hr.units) (va (i := 6) rfl (.inl rfl)) (va (i := 5) rfl (.inl rfl))) (sw_or1 (tu_cmp (rl_neX hr.units) (se_bi ⟨by rfl, (F.free 15)⟩ (call_reprN gd hr.units) ca_reprN (sa_cons (va (i := 6) rfl (.inl rfl)) sa_nil) (by rfl)) (se_bi ⟨by rfl, (F.free 15)⟩ (call_reprN gd hr.units) ca_reprN (sa_cons (va (i := 5) rfl (.inl rfl)) sa_nil) (by rfl))))))
    (sb_one (ss_ret se_bl))
    sb_nil)
    (sb_cons (ss_if (st_w (sw_or (tu_cmp (rl_neX hr.units) (se_fn ⟨by rfl, (F.glo 16), (law_under_kp F)⟩ (cal_of (ok_law_under F) (hr.mono (by decide)) fun _ _ G => kw_law_under_1 G) tk (sa_cons (va (i := 4) rfl (.inl rfl)) sa_nil)) (se_lc rfl nd (si_range1 (by rfl) (F.free 5) (sa_cons se_int sa_nil)) (blk_ok (own := [((Str.ofString "_law_n"), 7)]) (by kernel_rfl)) (tg_name (i := 7)) (fun _ _ _ _ _ => ((sg_name (i := 7) nd rfl (.inl rfl))).pg) (fun _ _ _ _ _ => spt_nil) (fun _ _ _ _ _ => (su_cmp (rl_eqX hr.units) (va (i := 7) (by rfl) (by exact .inl (by kernel_rfl))) (va (i := 0) (by rfl) (by exact .inr (.inl (by kernel_rfl)))))))) (sw_or1 (tu_cmp (rl_neX hr.units) (se_bi ⟨by rfl, (F.free 18)⟩ call_isG (ca_isG (isT_ok F) (isE_ok F)) (sa_cons (va (i := 4) rfl (.inl rfl)) (sa_cons (se_glo (C := "AsBeforeError") (by rfl) (F.glo 17)) sa_nil)) (by rfl)) (su_cmp rl_lt (va (i := 0) rfl (.inr (.inl rfl))) se_int)))))
    (sb_one (ss_ret se_bl))
    sb_nil)
    (sb_cons (ss_if (st_w (sw_or (tu_cmp (rl_neX hr.units) (se_bi ⟨by rfl, (F.free 18)⟩ call_isG (ca_isG (isT_ok F) (isE_ok F)) (sa_cons (va (i := 4) rfl (.inl rfl)) (sa_cons (se_tyn (T := "ValueError") ⟨by rfl, (F.free 19)⟩ (by rfl)) sa_nil)) (by rfl)) (su_cmp rl_lt (va (i := 0) rfl (.inr (.inl rfl))) se_int)) (sw_or1 (tu_cmp (rl_neX hr.units) (se_bi ⟨by rfl, (F.free 18)⟩ call_isG (ca_isG (isT_ok F) (isE_ok F)) (sa_cons (va (i := 4) rfl (.inl rfl)) (sa_cons (se_tyn (T := "LookupError") ⟨by rfl, (F.free 20)⟩ (by rfl)) sa_nil)) (by rfl)) (su_cmp (rl_in hu) (va (i := 0) rfl (.inr (.inl rfl))) (se_lst (sa_cons se_int (sa_cons se_int sa_nil))))))))
    (sb_one (ss_ret se_bl))
    sb_nil)
    (sb_one (ss_ret (se_and (su_cmp (rl_eqX hr.units) (se_bi ⟨by rfl, (F.free 18)⟩ call_isG (ca_isG (isT_ok F) (isE_ok F)) (sa_cons (va (i := 4) rfl (.inl rfl)) (sa_cons (se_tyn (T := "RuntimeError") ⟨by rfl, (F.free 21)⟩ (by rfl)) sa_nil)) (by rfl)) (su_cmp rl_gt (va (i := 0) rfl (.inr (.inl rfl))) se_int)) (se_one (se_not (se_bi ⟨by rfl, (F.free 18)⟩ call_isG (ca_isG (isT_ok F) (isE_ok F)) (sa_cons (va (i := 4) rfl (.inl rfl)) (sa_cons (se_tup (sa_cons (se_tyn (T := "KeyError") ⟨by rfl, (F.free 23)⟩ (by rfl)) (sa_cons (se_tyn (T := "IndexError") ⟨by rfl, (F.free 22)⟩ (by rfl)) sa_nil))) sa_nil)) (by rfl))))))))))))
theorem law_right_kp (F : Fct P K mg) : PySem.W.keepIn K (.ref (He.ga K (Str.ofString "_law_right"))) = true := by
  obtain ⟨fd, cl, G, _⟩ := F.c.def_ 26 (d := D_law_right) rfl
  exact G.kp
def N_law_take : List Str := [(Str.ofString "_law_bag_here"), (Str.ofString "_law_count"), (Str.ofString "_law_digit"), (Str.ofString "_law_mixed")]
theorem nd_law_take : N_law_take.Nodup := by decide +kernel
theorem sc_law_take : FnScope N_law_take [(Str.ofString "_law_bag_here"), (Str.ofString "_law_count")] D_law_take.scope := ⟨rfl, rfl, rfl, nd_law_take, rfl, by decide +kernel, by decide +kernel⟩
theorem kw_law_take_2 {cl : List (Str × Addr)} {fd : FuncData} (G : FunG K cl D_law_take.name D_law_take.qual D_law_take.params D_law_take.body D_law_take.scope D_law_take.dfl D_law_take.kwd (D_law_take.at_ K) fd) : KwOk K fd [(Str.ofString "_law_bag_here"), (Str.ofString "_law_count")] 2 [] gkw_law_take_2 := kw_ok G 2 [] [] [.pos 0, .pos 1] ms_nil ⟨by decide, rfl⟩ fun T D0 kV doc pm an cdv ct us its mv ws h0 h1 h2 h3 h4 => match us, its, mv, ws, h1, h2, h3, h4 with
  | [u0, u1], [], [], [], _, _, _, _ => rfl
theorem ok_law_take (F : Fct P K mg) : OkD P w K mg base 1 D_law_take [(Str.ofString "_law_bag_here"), (Str.ofString "_law_count")] m_law_take := okd_pure F 27 rfl rfl sc_law_take fun cdv A outer s H E hr tk => by
  have nd := nd_law_take
  have hu := units65 hr
  exact (sb_cons (ss_if (tu_cmp rl_gt (se_ix (va (i := 0) rfl (.inl rfl)) se_int) se_int)
    (sb_cons (ss_set (i := 2) nd rfl (.inl rfl) (su_op rl_mod (se_ty ⟨by rfl, (F.free 9)⟩ call_int1 ca_int (sa_cons (se_ix (va (i := 0) rfl (.inl rfl)) se_int) sa_nil) (by rfl)) (va (i := 1) rfl (.inl rfl))))
    (sb_cons (ss_setIx (va (i := 0) rfl (.inl rfl)) se_int (su_op rl_fdiv (se_ix (va (i := 0) rfl (.inl rfl)) se_int) (va (i := 1) rfl (.inl rfl))))
    (sb_one (ss_ret (va (i := 2) rfl (.inl rfl))))))
    sb_nil)
    (sb_cons (ss_setIx (va (i := 0) rfl (.inl rfl)) se_int (su_op rl_add (se_ix (va (i := 0) rfl (.inl rfl)) se_int) se_int))
    (sb_cons (ss_set (i := 3) nd rfl (.inl rfl) (su_op rl_mod (se_ty ⟨by rfl, (F.free 9)⟩ call_int1 ca_int (sa_cons (su_op rl_pow (su_op rl_add (se_ix (va (i := 0) rfl (.inl rfl)) se_int) (su_op rl_mul se_int (se_ix (va (i := 0) rfl (.inl rfl)) se_int))) se_int) sa_nil) (by rfl)) se_int))
    (sb_cons (ss_set (i := 3) nd rfl (.inl rfl) (su_op rl_mod (se_ty ⟨by rfl, (F.free 9)⟩ call_int1 ca_int (sa_cons (su_op rl_pow (su_op rl_add (va (i := 3) rfl (.inl rfl)) (su_op rl_mul se_int (se_ix (va (i := 0) rfl (.inl rfl)) se_int))) se_int) sa_nil) (by rfl)) se_int))
    (sb_one (ss_ret (su_op rl_mod (se_ty ⟨by rfl, (F.free 9)⟩ call_int1 ca_int (sa_cons (su_op rl_fdiv (va (i := 3) rfl (.inl rfl)) se_int) sa_nil) (by rfl)) (va (i := 1) rfl (.inl rfl)))))))))
theorem law_take_kp (F : Fct P K mg) : PySem.W.keepIn K (.ref (He.ga K (Str.ofString "_law_take"))) = true := by
  obtain ⟨fd, cl, G, _⟩ := F.c.def_ 27 (d := D_law_take) rfl
  exact G.kp
def N_law_of : List Str := [(Str.ofString "_law_bag_here"), (Str.ofString "_law_some")]
theorem nd_law_of : N_law_of.Nodup := by decide +kernel
theorem sc_law_of : FnScope N_law_of [(Str.ofString "_law_bag_here"), (Str.ofString "_law_some")] D_law_of.scope := ⟨rfl, rfl, rfl, nd_law_of, rfl, by decide +kernel, by decide +kernel⟩
theorem kw_law_of_2 {cl : List (Str × Addr)} {fd : FuncData} (G : FunG K cl D_law_of.name D_law_of.qual D_law_of.params D_law_of.body D_law_of.scope D_law_of.dfl D_law_of.kwd (D_law_of.at_ K) fd) : KwOk K fd [(Str.ofString "_law_bag_here"), (Str.ofString "_law_some")] 2 [] gkw_law_of_2 := kw_ok G 2 [] [] [.pos 0, .pos 1] ms_nil ⟨by decide, rfl⟩ fun T D0 kV doc pm an cdv ct us its mv ws h0 h1 h2 h3 h4 => match us, its, mv, ws, h1, h2, h3, h4 with
  | [u0, u1], [], [], [], _, _, _, _ => rfl
theorem ok_law_of (F : Fct P K mg) : OkD P w K mg base 2 D_law_of [(Str.ofString "_law_bag_here"), (Str.ofString "_law_some")] m_law_of := okd_pure F 28 rfl rfl sc_law_of fun cdv A outer s H E hr tk => by
  have nd := nd_law_of
  have hu := units65 hr
  exact (sb_one (ss_ret (se_ix (va (i := 1) rfl (.inl rfl)) (se_fn ⟨by rfl, (F.glo 95), (law_take_kp F)⟩ (cal_of (ok_law_take F) (hr.mono (by decide)) fun _ _ G => kw_law_take_2 G) tk (sa_cons (va (i := 0) rfl (.inl rfl)) (sa_cons (se_bi ⟨by rfl, (F.free 2)⟩ call_len ca_len (sa_cons (va (i := 1) rfl (.inl rfl)) sa_nil) (by rfl)) sa_nil))))))
theorem law_of_kp (F : Fct P K mg) : PySem.W.keepIn K (.ref (He.ga K (Str.ofString "_law_of"))) = true := by
  obtain ⟨fd, cl, G, _⟩ := F.c.def_ 28 (d := D_law_of) rfl
  exact G.kp
def N_law_value : List Str := [(Str.ofString "_law_bag_here")]
theorem nd_law_value : N_law_value.Nodup := by decide +kernel
theorem sc_law_value : FnScope N_law_value [(Str.ofString "_law_bag_here")] D_law_value.scope := ⟨rfl, rfl, rfl, nd_law_value, rfl, by decide +kernel, by decide +kernel⟩
theorem kw_law_value_1 {cl : List (Str × Addr)} {fd : FuncData} (G : FunG K cl D_law_value.name D_law_value.qual D_law_value.params D_law_value.body D_law_value.scope D_law_value.dfl D_law_value.kwd (D_law_value.at_ K) fd) : KwOk K fd [(Str.ofString "_law_bag_here")] 1 [] gkw_law_value_1 := kw_ok G 1 [] [] [.pos 0] ms_nil ⟨by decide, rfl⟩ fun T D0 kV doc pm an cdv ct us its mv ws h0 h1 h2 h3 h4 => match us, its, mv, ws, h1, h2, h3, h4 with
  | [u0], [], [], [], _, _, _, _ => rfl
theorem ok_law_value (F : Fct P K mg) : OkD P w K mg base 3 D_law_value [(Str.ofString "_law_bag_here")] m_law_value := okd_pure F 29 rfl rfl sc_law_value fun cdv A outer s H E hr tk => by
  have nd := nd_law_value
  have hu := units65 hr
  exact (sb_one (ss_ret (se_fn ⟨by rfl, (F.glo 96), (law_of_kp F)⟩ (cal_of (ok_law_of F) (hr.mono (by decide)) fun _ _ G => kw_law_of_2 G) tk (sa_cons (va (i := 0) rfl (.inl rfl)) (sa_cons (se_lst (sa_cons se_non (sa_cons se_bl (sa_cons se_int (sa_cons (se_neg se_int) (sa_cons (se_fn ⟨by rfl, (F.glo 95), (law_take_kp F)⟩ (cal_of (ok_law_take F) (hr.mono (by decide)) fun _ _ G => kw_law_take_2 G) tk (sa_cons (va (i := 0) rfl (.inl rfl)) (sa_cons (su_op rl_pow se_int se_int) sa_nil))) (sa_cons se_str (sa_cons se_str (sa_cons (se_lst (sa_cons se_int sa_nil)) (sa_cons (se_tup sa_nil) (sa_cons (se_tup (sa_cons se_str (sa_cons (se_tup (sa_cons se_int sa_nil)) sa_nil))) (sa_cons (se_dct (l := [((dC (.str (Str.ofString "l"))), (dLst (aCons (dC (.int 0)) aNil)))]) (pps_cons se_str (se_lst (sa_cons se_int sa_nil)) pps_nil)) sa_nil)))))))))))) sa_nil)))))
theorem law_value_kp (F : Fct P K mg) : PySem.W.keepIn K (.ref (He.ga K (Str.ofString "_law_value"))) = true := by
  obtain ⟨fd, cl, G, _⟩ := F.c.def_ 29 (d := D_law_value) rfl
  exact G.kp
def N_law : List Str := [(Str.ofString "_law_script"), (Str.ofString "_law_at"), (Str.ofString "_law_bag_here"), (Str.ofString "_law_k")]
theorem nd_law : N_law.Nodup := by decide +kernel
theorem sc_law : FnScope N_law [(Str.ofString "_law_script")] D_law.scope := ⟨rfl, rfl, rfl, nd_law, rfl, by decide +kernel, by decide +kernel⟩
theorem ok_law (F : Fct P K mg) : OkG P w K mg base 5 D_law [(Str.ofString "_law_script")] m_law := okg_pure F 30 rfl rfl sc_law fun cdv A outer s H E gd hr tk => by
  have nd := nd_law
  have hu := units65 hr
  exact (sb_cons (ss_for (passes_of rfl) rfl (sg_name (i := 1) nd rfl (.inl rfl)) (si_range1 (by rfl) (F.free 5) (sa_cons (se_bi ⟨by rfl, (F.free 4)⟩ (call_max2 rfl) ca_max2 (sa_cons se_int (sa_cons (se_bi ⟨by rfl, (F.free 3)⟩ (call_min2 rfl) ca_min2 (sa_cons se_int (sa_cons (se_bi ⟨by rfl, (F.free 2)⟩ call_len ca_len (sa_cons (va (i := 0) rfl (.inl rfl)) sa_nil) (by rfl)) sa_nil)) (by rfl)) sa_nil)) (by rfl)) sa_nil))
    (sb_cons (ss_set (i := 2) nd rfl (.inl rfl) (se_fn ⟨by rfl, (F.glo 6), (law_bag_kp F)⟩ (cal_of (ok_law_bag F) (hr.mono (by decide)) fun _ _ G => kw_law_bag_2 G) tk (sa_cons (va (i := 0) rfl (.inl rfl)) (sa_cons (va (i := 1) rfl (.inl rfl)) sa_nil))))
    (sb_one (ss_for (passes_of rfl) rfl (sg_name (i := 3) nd rfl (.inl rfl)) (si_range1 (by rfl) (F.free 5) (sa_cons se_int sa_nil))
    (sb_one (ss_if (st_not (st_tru (se_fn ⟨by rfl, (F.glo 8), (law_right_kp F)⟩ (calG_of gd (ok_law_right F) (hr.mono (by decide)) fun _ _ G => kw_law_right_4 G) tk (sa_cons (va (i := 3) rfl (.inl rfl)) (sa_cons (se_fn ⟨by rfl, (F.glo 7), (law_value_kp F)⟩ (cal_of (ok_law_value F) (hr.mono (by decide)) fun _ _ G => kw_law_value_1 G) tk (sa_cons (va (i := 2) rfl (.inl rfl)) sa_nil)) (sa_cons (se_fn ⟨by rfl, (F.glo 7), (law_value_kp F)⟩ (cal_of (ok_law_value F) (hr.mono (by decide)) fun _ _ G => kw_law_value_1 G) tk (sa_cons (va (i := 2) rfl (.inl rfl)) sa_nil)) (sa_cons (se_fn ⟨by rfl, (F.glo 7), (law_value_kp F)⟩ (cal_of (ok_law_value F) (hr.mono (by decide)) fun _ _ G => kw_law_value_1 G) tk (sa_cons (va (i := 2) rfl (.inl rfl)) sa_nil)) sa_nil)))))))
    (sb_one (ss_ret se_bl))
    sb_nil))))))
    (sb_one (ss_ret se_bl)))
theorem law_kp (F : Fct P K mg) : PySem.W.keepIn K (.ref (He.ga K (Str.ofString "law"))) = true := by
  obtain ⟨fd, cl, G, _⟩ := F.c.def_ 30 (d := D_law) rfl
  exact G.kp
end
end Lk07

namespace Lk07
open PySem PySem.Spec PyProof.Rows L2 G
abbrev R : PySem.W.OpenRow := PySem.W.OpenLaw.row PySem.Challenge.rw_asbefore_k07_errors_made
abbrev hk : PySem.W.Hook := hookG 5 fa fn
def ob (s : PySem.W.SharedT) : AlG := obsGG 5 fa fn (HandSHeadRun.getT s)
theorem ob_eq (s : PySem.W.SharedT) : ob s = hk.obs s.abs := obsGG_eq (HandSHeadRun.getT_eq s)
def names : List PySem.Str := (["AsBeforeError", "BadName", "BadCost", "BadStep", "BadBoard", "BadLine", "BadGuard", "Nested", "TooMany", "OtherBoard", "OpenFlow", "BadPopulation", "BadOrder", "BadSubject", "BadSizes", "BadLast", "NoOrder", "Unknown", "NoCell", "Running", "Refusal", "Refused", "Stuck", "_law_bag", "_law_take", "_law_of", "_law_value", "_law_first", "_law_second", "_law_first_told"] : List PySem.Str) ++ (["_law_second_told", "_law_under", "_law_right"] : List PySem.Str)
theorem run (w : World) : HandSHeadRun.RunEq R (PySem.W.view R.prog [35]) hk ob 15000 names w := by
  intro os
  kernel_rfl
end Lk07

section
open PySem PySem.W PySem.Calls PyProof.Rows
theorem law_of (hm : G.mTrue Lk07.m_law 63) : PySem.Challenge.rw_asbefore_k07_errors_made.Holds := by
  w_on; o_law
  refine HandSHeadRun.head_any (r := OpenLaw.row PySem.Challenge.rw_asbefore_k07_errors_made) (q := view (OpenLaw.row PySem.Challenge.rw_asbefore_k07_errors_made).prog [35]) (H := Lk07.hk) (ob := Lk07.ob) (M := 15000) (loose := Lk07.names) (d := HandSHeadRun.topDef (OpenLaw.row PySem.Challenge.rw_asbefore_k07_errors_made).prog 35) (kwd := []) Lk07.ob_eq
    (by kernel_rfl) (fun s => by kernel_rfl) Lk07.run (by kernel_rfl) (by kernel_rfl) (by kernel_rfl) (by rfl) (by first | assumption | decide +kernel) (by decide +kernel) ⟨rfl, rfl, rfl, rfl, rfl, by decide +kernel⟩ ?hw ?hc
  case hw => w_witness2
  case hc =>
    refine G.walk_g (l := PySem.Challenge.rw_asbefore_k07_errors_made) (n := 63) (k := 5) (x := (Str.ofString "_law_script")) rfl (by decide) (by kernel_rfl) ⟨rfl, by decide, by decide⟩ ?F
    intro w mg fa h Y hns hmg0
    obtain ⟨K, KX, c⟩ := Y
    have hn : (HandSHeadRun.topDef (OpenLaw.row PySem.Challenge.rw_asbefore_k07_errors_made).prog 35).name = ("law" : PySem.Str) := by kernel_rfl
    rw [hn] at hmg0
    have F : Lk07.Fct (PySem.Challenge.rw_asbefore_k07_errors_made).prog K mg := ⟨⟨h, KX, hns⟩, c, by kernel_rfl, by kernel_rfl⟩
    have e := hmg0.symm.trans (F.glo 0)
    obtain rfl : fa = He.ga K "law" := by cases e; rfl
    obtain ⟨fd, cl, FG, h1, _⟩ := c.def_ 30 (d := Lk07.D_law) rfl
    have hO : ∀ base : Heap, K.In base → base.Ns mainGlobals mg → G.OkG (PySem.Challenge.rw_asbefore_k07_errors_made).prog w K mg base 5 Lk07.D_law [(Str.ofString "_law_script")] Lk07.m_law := fun base kb gb => Lk07.ok_law F
    refine ⟨K, fd, Lk07.m_law, KX, G.law_bind FG fun _ _ _ _ _ _ _ => rfl, fun H a ns hl _ hS => G.law_sp hm c.nol H a ns hl (G.noTab (c.fact 1)) hS, fun base kb gb => ?_⟩
    obtain ⟨fd', cl', FG', FO⟩ := (hO base kb gb).ex
    obtain rfl : fd = fd' := G.funG_same FG FG'
    exact FO


end
/-! weakest preconditions of denotations -/
namespace G
open PySem PySem.Spec PyProof.Rows L2
def wpR {α : Type} (r : Res α) (P : α → Store → Prop) : Prop := match r with
  | .ok a S => P a S
  | _ => False
/-- how a block may end -/
structure Po where
  nx : Slots → Store → Prop
  rt : D → Store → Prop := fun _ _ => False
  bk : Slots → Store → Prop := fun _ _ => False
  ct : Slots → Store → Prop := fun _ _ => False
def wpS (r : SR) (P : Po) : Prop := match r with
  | .nx δ S => P.nx δ S
  | .rt d S => P.rt d S
  | .bk δ S => P.bk δ S
  | .ct δ S => P.ct δ S
  | _ => False
section
variable {α β : Type} {r : Res α} {P Q : α → Store → Prop}
theorem wpR.mono (h : wpR r P) (q : ∀ a S, P a S → Q a S) : wpR r Q := by
  cases r <;> first | exact q _ _ h | exact h
theorem wpR_ok {a : α} {S : Store} : wpR (.ok a S) P ↔ P a S := Iff.rfl
theorem wpR_bind {f : α → Store → Res β} {P : β → Store → Prop} : wpR (r.bind f) P ↔ wpR r fun a S => wpR (f a S) P := by
  cases r <;> exact Iff.rfl
theorem wpR_nox : wpR r.nox P ↔ wpR r P := by cases r <;> exact Iff.rfl
theorem wpR_ex (h : wpR r P) : ∃ a S, r = .ok a S ∧ P a S := by
  cases r with
  | ok a S => exact ⟨a, S, rfl, h⟩
  | exc x S => exact False.elim h
  | bad => exact False.elim h
theorem wpR_eq {a : α} {S : Store} (h : r = .ok a S) (p : P a S) : wpR r P := by rw [h]; exact p
variable {δ : Slots} {S : Store} {E E' : Po} {s : SR}
theorem wpS.mono (h : wpS s E) (h1 : ∀ δ S, E.nx δ S → E'.nx δ S) (h2 : ∀ d S, E.rt d S → E'.rt d S) (h3 : ∀ δ S, E.bk δ S → E'.bk δ S) (h4 : ∀ δ S, E.ct δ S → E'.ct δ S) : wpS s E' := by
  cases s with
  | nx a b => exact h1 _ _ h
  | rt a b => exact h2 _ _ h
  | bk a b => exact h3 _ _ h
  | ct a b => exact h4 _ _ h
  | exc a b c => exact h
  | bad => exact h
theorem wpS_nx : wpS (.nx δ S) E ↔ E.nx δ S := Iff.rfl
theorem wpS_rt {d : D} : wpS (.rt d S) E ↔ E.rt d S := Iff.rfl
theorem wpS_bk : wpS (.bk δ S) E ↔ E.bk δ S := Iff.rfl
theorem wpS_ct : wpS (.ct δ S) E ↔ E.ct δ S := Iff.rfl
theorem wpS_then {f : Slots → Store → SR} : wpS (s.andThen f) E ↔ wpS s { E with nx := fun δ S => wpS (f δ S) E } := by
  cases s <;> exact Iff.rfl
theorem wpS_to {f : α → Store → SR} : wpS (r.to δ f) E ↔ wpR r fun a S => wpS (f a S) E := by
  cases r <;> exact Iff.rfl
theorem wpR_fin {P : D → Store → Prop} : wpR s.fin P ↔ wpS s { nx := fun _ S => P .non S, rt := P } := by
  cases s <;> exact Iff.rfl
end
/-! ### the parts -/
section
variable {n : Nat} {δ : Slots} {S : Store} {E : Po} {da db dc : DE} {aa ab : DA} {dt du : DT} {ds dr : DS} {P : D → Store → Prop} {PL : List D → Store → Prop} {PB : Bool → Store → Prop}
theorem w_seq : wpS (dSeq ds dr n δ S) E ↔ wpS (ds n δ S) { E with nx := fun δ S => wpS (dr n δ S) E } := wpS_then
theorem w_set {i : Nat} : wpS (dSet i da n δ S) E ↔ wpR (da n δ S) fun d S => E.nx (δ.set i (some d)) S := wpS_to
theorem w_ret : wpS (dRet da n δ S) E ↔ wpR (da n δ S) E.rt := wpS_to
theorem w_expr : wpS (dExpr da n δ S) E ↔ wpR (da n δ S) fun _ S => E.nx δ S := wpS_to
theorem w_pass : wpS (dPass n δ S) E ↔ E.nx δ S := Iff.rfl
theorem w_if : wpS (dIf dt ds dr n δ S) E ↔ wpR (dt n δ S) fun b S => if b = true then wpS (ds n δ S) E else wpS (dr n δ S) E := by
  unfold dIf
  rw [wpS_to]
  constructor <;> exact fun h => h.mono fun b S q => by cases b <;> exact q
theorem w_bin {op : Op2} : wpR (dBin op da db n δ S) P ↔ wpR (da n δ S) fun x S => wpR (db n δ S) fun y S => wpR (op x y S) P := by
  unfold dBin
  rw [wpR_bind]
  constructor <;> exact fun h => h.mono fun b S q => by first | exact wpR_bind.mp q | exact wpR_bind.mpr q
theorem w_c {d : D} : wpR (dC d n δ S) P ↔ P d S := Iff.rfl
theorem w_var {i : Nat} {d : D} (h : δ[i]? = some (some d)) (hc : isClo d = false) : wpR (dVar i n δ S) P ↔ P d S := by
  unfold dVar
  rw [h]
  dsimp only
  rw [hc]
  exact Iff.rfl
theorem ic_non  : isClo (.non) = false := Eq.trans rfl rfl
theorem ic_bl {b : Bool} : isClo (.bl b) = false := Eq.trans rfl rfl
theorem ic_int {i : Int} : isClo (.int i) = false := Eq.trans rfl rfl
theorem ic_str {s : Str} : isClo (.str s) = false := Eq.trans rfl rfl
theorem ic_ty {n : String} : isClo (.ty n) = false := Eq.trans rfl rfl
theorem ic_glo {x : String} : isClo (.glo x) = false := Eq.trans rfl rfl
theorem ic_tup {ds : List D} : isClo (.tup ds) = false := Eq.trans rfl rfl
theorem ic_lst {ds : List D} : isClo (.lst ds) = false := Eq.trans rfl rfl
theorem ic_dct {kvs : List (D × D)} : isClo (.dct kvs) = false := Eq.trans rfl rfl
theorem ic_obj {C : String} {fs : List (String × D)} : isClo (.obj C fs) = false := Eq.trans rfl rfl
theorem ic_exn {C : String} {fs : List (String × D)} : isClo (.exn C fs) = false := Eq.trans rfl rfl
theorem ic_ref {i : Nat} : isClo (.ref i) = false := Eq.trans rfl rfl
theorem w_nil : wpR (aNil n δ S) PL ↔ PL [] S := Iff.rfl
theorem w_cons : wpR (aCons da ab n δ S) PL ↔ wpR (da n δ S) fun d S => wpR (ab n δ S) fun ds S => PL (d :: ds) S := by
  unfold aCons
  rw [wpR_bind]
  constructor <;> exact fun h => h.mono fun b S q => by first | exact wpR_bind.mp q | exact wpR_bind.mpr q
theorem w_bi {op : BOp} : wpR (dBi op aa n δ S) P ↔ wpR (aa n δ S) fun ds S => wpR (op ds S) P := wpR_bind
theorem w_fn {m : Mf} {np : Nat} {gD : List D → List D → List D} : wpR (dFn m np gD aa n δ S) P ↔ wpR (aa n δ S) fun ds S => wpR (callD m np gD n ds [] S) P := wpR_bind
theorem w_fnK {m : Mf} {np nk : Nat} {gD : List D → List D → List D} : wpR (dFnK m np nk gD aa ab n δ S) P ↔ wpR (aa n δ S) fun ds S => wpR (ab n δ S) fun es S => wpR (if es.length = nk then callD m np gD n ds es S else .bad) P := by
  unfold dFnK
  rw [wpR_bind]
  constructor <;> exact fun h => h.mono fun b S q => by first | exact wpR_bind.mp q | exact wpR_bind.mpr q
/-- a pure def -/
theorem w_pure {ar N : Nat} {ds : List D} {db : DS} (hl : ds.length = ar) (h : wpS (db S.length (startD N ds) S) { nx := fun _ S' => P .non (S'.take S.length), rt := fun d S' => ∃ d', fzD S.length S' fzFuel d = some d' ∧ P d' (S'.take S.length) }) : wpR (mPure ar N db n ds S) P := by
  unfold mPure mKeep
  rw [if_pos hl]
  cases e : db S.length (startD N ds) S with
  | nx δ' S' => rw [e] at h; exact h
  | rt d S' =>
    rw [e] at h
    obtain ⟨d', e1, e2⟩ := h
    show wpR (cutR S (.ok d S')) P
    unfold cutR
    dsimp only
    rw [e1]
    exact e2
  | bk a b => rw [e] at h; exact False.elim h
  | ct a b => rw [e] at h; exact False.elim h
  | exc a b c => rw [e] at h; exact False.elim h
  | bad => rw [e] at h; exact False.elim h
theorem w_keep {ar N : Nat} {ds : List D} {db : DS} (hl : ds.length = ar) (h : wpS (db n (startD N ds) S) { nx := fun _ S' => P .non S', rt := P }) : wpR (mKeep ar N db n ds S) P := by
  unfold mKeep
  rw [if_pos hl, wpR_fin]
  exact h
/-- for: an invariant of what is left -/
theorem w_forL {step : D → Slots → Store → SR} (I : List D → Slots → Store → Prop) (hs : ∀ d ds δ S, I (d :: ds) δ S → wpS (step d δ S) { E with nx := I ds, bk := E.nx, ct := I ds }) (he : ∀ δ S, I [] δ S → E.nx δ S) : ∀ (ds : List D) (δ : Slots) (S : Store), I ds δ S → wpS (forL step ds δ S) E
  | [], δ, S, h => he δ S h
  | d :: ds, δ, S, h => by
    have q := hs d ds δ S h
    unfold forL
    cases e : step d δ S with
    | nx a b => rw [e] at q; exact w_forL I hs he ds a b q
    | ct a b => rw [e] at q; exact w_forL I hs he ds a b q
    | bk a b => rw [e] at q; exact q
    | rt a b => rw [e] at q; exact q
    | exc a b c => rw [e] at q; exact q
    | bad => rw [e] at q; exact q
theorem w_for {g : GT} {di : DI} {I : List D → Slots → Store → Prop} (h : wpR (di n δ S) fun ds S => I ds δ S) (hs : ∀ d ds δ S, I (d :: ds) δ S → wpS (forStep g dr n d δ S) { E with nx := I ds, bk := E.nx, ct := I ds }) (he : ∀ δ S, I [] δ S → E.nx δ S) : wpS (dFor g di dr n δ S) E := by
  unfold dFor
  rw [wpS_to]
  exact h.mono fun ds S q => w_forL I hs he ds δ S q
end
/-! ### equality, membership -/
mutual
theorem eqv_refl : ∀ p : PyData, PyData.canLay0 p = true → PyData.eqv p p = true
  | .none, _ => rfl
  | .bool b, _ => by simp [PyData.eqv]
  | .int i, _ => by simp [PyData.eqv]
  | .str s, _ => by simp [PyData.eqv]
  | .list xs, h => by
    simp only [PyData.eqv]
    exact eqvAll_refl xs (by simpa [PyData.canLay0] using h)
  | .tuple xs, h => by
    simp only [PyData.eqv]
    exact eqvAll_refl xs (by simpa [PyData.canLay0] using h)
  | .dict _, h => by simp [PyData.canLay0] at h
theorem eqvAll_refl : ∀ ps : List PyData, PyData.canLayAll0 ps = true → PyData.eqvAll ps ps = true
  | [], _ => rfl
  | p :: ps, h => by
    simp only [PyData.canLayAll0, Bool.and_eq_true] at h
    simp only [PyData.eqvAll, Bool.and_eq_true]
    exact ⟨eqv_refl p h.1, eqvAll_refl ps h.2⟩
end
/-- equal data -/
theorem dEq_same {neg : Bool} {x y : D} {S : Store} {p : PyData} (h1 : toPy S x = some p) (h2 : toPy S y = some p) (hp : SeqAt.shaped p = true) : dEq neg x y S = .ok (.bl (!neg)) S := by
  simp only [dEq, h1, h2, hp, Bool.and_self, if_true, eqv_refl p (SeqAt.canLay_of_shaped hp)]
  cases neg <;> rfl
theorem dEq_val {neg : Bool} {x y : D} {S : Store} {p q : PyData} {b : Bool} (h1 : toPy S x = some p) (h2 : toPy S y = some q) (hp : SeqAt.shaped p = true) (hq : SeqAt.shaped q = true) (hb : PyData.eqv p q = b) : dEq neg x y S = .ok (.bl (if neg = true then !b else b)) S := by
  simp only [dEq, h1, h2, hp, hq, Bool.and_self, if_true, hb]
theorem shaped_str {a : Str} (h : PyData.strOk a = true) : SeqAt.shaped (.str a) = true := by simp [SeqAt.shaped, PyData.canLay0, PyData.depth, h]
theorem dEq_str {neg : Bool} {a b : Str} {S : Store} (ha : PyData.strOk a = true) (hb : PyData.strOk b = true) : dEq neg (.str a) (.str b) S = .ok (.bl (if neg = true then !(a == b) else a == b)) S :=
  dEq_val rfl rfl (shaped_str ha) (shaped_str hb) (by simp [PyData.eqv])
theorem toPyL_strs {S : Store} : ∀ bs : List Str, toPyL S (bs.map D.str) = some (bs.map PyData.str)
  | [] => rfl
  | b :: bs => by simp [toPyL, toPy, toPyL_strs bs]
theorem flatPy_strs : ∀ bs : List Str, flatPy (bs.map D.str) = some (bs.map PyData.str)
  | [] => rfl
  | b :: bs => by simp [flatPy, valPy, flatPy_strs bs]
theorem canLay_strs : ∀ {bs : List Str}, (∀ b ∈ bs, PyData.strOk b = true) → PyData.canLayAll0 (bs.map PyData.str) = true
  | [], _ => rfl
  | b :: bs, h => by
    simp only [List.map_cons, PyData.canLayAll0, PyData.canLay0, Bool.and_eq_true]
    exact ⟨h b (by simp), canLay_strs fun x hx => h x (by simp [hx])⟩
theorem depth_strs : ∀ bs : List Str, PyData.depthAll (bs.map PyData.str) = 0
  | [] => rfl
  | b :: bs => by simp [PyData.depthAll, PyData.depth, depth_strs bs]
theorem any_strs (a : Str) : ∀ bs : List Str, ((bs.map PyData.str).any fun z => PyData.eqv z (.str a)) = decide (a ∈ bs)
  | [] => rfl
  | b :: bs => by
    rw [List.map_cons, List.any_cons, any_strs a bs]
    simp only [PyData.eqv, List.mem_cons]
    by_cases h : b = a
    · subst h; simp
    · have : ¬ a = b := fun e => h e.symm
      simp [h, this]
theorem dIn_strs {neg : Bool} {a : Str} {y : D} {bs : List Str} {S : Store} (hy : toPy S y = some (.list (bs.map .str)) ∨ toPy S y = some (.tuple (bs.map .str))) (ha : PyData.strOk a = true) (hb : ∀ b ∈ bs, PyData.strOk b = true) : dIn neg (.str a) y S = .ok (.bl (if neg = true then !decide (a ∈ bs) else decide (a ∈ bs))) S := by
  have hx : toPy S (.str a) = some (.str a) := rfl
  rcases hy with hy | hy <;> simp only [dIn, hx, hy, shaped_str ha, canLay_strs hb, Bool.and_self, if_true, any_strs]
theorem toPy_tup {S : Store} {bs : List Str} : toPy S (.tup (bs.map .str)) = some (.tuple (bs.map .str)) := by simp [toPy, toPyL_strs]
theorem toPy_lst {S : Store} {bs : List Str} : toPy S (.lst (bs.map .str)) = some (.list (bs.map .str)) := by simp [toPy, toPyL_strs]
theorem toPy_ref {S : Store} {bs : List Str} {i : Nat} (h : S[i]? = some (.lst (bs.map .str))) : toPy S (.ref i) = some (.list (bs.map .str)) := by simp [toPy, h, flatPy_strs]
theorem shaped_tup {bs : List Str} (hb : ∀ b ∈ bs, PyData.strOk b = true) : SeqAt.shaped (.tuple (bs.map .str)) = true := by simp [SeqAt.shaped, PyData.canLay0, PyData.depth, canLay_strs hb, depth_strs]
theorem shaped_lst {bs : List Str} (hb : ∀ b ∈ bs, PyData.strOk b = true) : SeqAt.shaped (.list (bs.map .str)) = true := by simp [SeqAt.shaped, PyData.canLay0, PyData.depth, canLay_strs hb, depth_strs]
/-- in a tuple, a list of texts -/
theorem uIn_tup {a : Str} {bs : List Str} {S : Store} (ha : PyData.strOk a = true) (hb : ∀ b ∈ bs, PyData.strOk b = true) : uIn (.str a) (.tup (bs.map .str)) S = .ok (.bl (decide (a ∈ bs))) S := by
  simp only [uIn, orOp, dInSign, dIn_strs (.inr toPy_tup) ha hb, Bool.false_eq_true, if_false]
theorem uNin_tup {a : Str} {bs : List Str} {S : Store} (ha : PyData.strOk a = true) (hb : ∀ b ∈ bs, PyData.strOk b = true) : uNin (.str a) (.tup (bs.map .str)) S = .ok (.bl (!decide (a ∈ bs))) S := by
  simp only [uNin, orOp, dInSign, dIn_strs (.inr toPy_tup) ha hb, if_true]
theorem uIn_lst {a : Str} {bs : List Str} {S : Store} (ha : PyData.strOk a = true) (hb : ∀ b ∈ bs, PyData.strOk b = true) : uIn (.str a) (.lst (bs.map .str)) S = .ok (.bl (decide (a ∈ bs))) S := by
  simp only [uIn, orOp, dInSign, dIn_strs (.inl toPy_lst) ha hb, Bool.false_eq_true, if_false]
theorem uNin_ref {a : Str} {bs : List Str} {S : Store} {i : Nat} (h : S[i]? = some (.lst (bs.map .str))) (ha : PyData.strOk a = true) (hb : ∀ b ∈ bs, PyData.strOk b = true) : uNin (.str a) (.ref i) S = .ok (.bl (!decide (a ∈ bs))) S := by
  simp only [uNin, orOp, dInSign, dIn_strs (.inl (toPy_ref h)) ha hb, if_true]
theorem lowL_strs {m : Nat} : ∀ bs : List Str, lowL m (bs.map D.str) = true
  | [] => rfl
  | b :: bs => by simp [lowL, low, lowL_strs bs]
theorem low_strs {m : Nat} (bs : List Str) : low m (.tup (bs.map D.str)) = true := by simp [low, lowL_strs]
section
variable {n : Nat} {δ : Slots} {S : Store} {E : Po} {da db dc : DE} {dt du : DT} {P : D → Store → Prop} {PB : Bool → Store → Prop}
theorem w_test {P : Bool → Store → Prop} : wpR (dTest da n δ S) P ↔ wpR (da n δ S) fun d S => ∃ b, d = .bl b ∧ P b S := by
  unfold dTest
  rw [wpR_bind]
  constructor <;> refine fun h => h.mono fun d S q => ?_
  · cases d <;> first | exact ⟨_, rfl, q⟩ | exact False.elim q
  · obtain ⟨b, rfl, q⟩ := q
    exact q
theorem w_tru {P : Bool → Store → Prop} : wpR (dTru da n δ S) P ↔ wpR (da n δ S) fun d S => ∃ b, truD S d = some b ∧ P b S := by
  unfold dTru
  rw [wpR_bind]
  constructor <;> refine fun h => h.mono fun d S q => ?_
  · split at q
    · rename_i b hb; exact ⟨b, hb, q⟩
    · exact False.elim q
  · obtain ⟨b, e, q⟩ := q
    rw [e]
    exact q
theorem w_ifE : wpR (dIfE dt da db n δ S) P ↔ wpR (dt n δ S) fun b S => if b = true then wpR (da n δ S) P else wpR (db n δ S) P := by
  unfold dIfE
  rw [wpR_bind]
  constructor <;> exact fun h => h.mono fun b S q => by cases b <;> exact q
theorem w_tand : wpR (tAndD dt du n δ S) PB ↔ wpR (dt n δ S) fun b S => if b = true then wpR (du n δ S) PB else PB false S := by
  unfold tAndD
  rw [wpR_bind]
  constructor <;> exact fun h => h.mono fun b S q => by cases b <;> exact q
theorem w_tor : wpR (tOrD dt du n δ S) PB ↔ wpR (dt n δ S) fun b S => if b = true then PB true S else wpR (du n δ S) PB := by
  unfold tOrD
  rw [wpR_bind]
  constructor <;> exact fun h => h.mono fun b S q => by cases b <;> exact q
theorem w_tnot : wpR (tNotD dt n δ S) PB ↔ wpR (dt n δ S) fun b S => PB (!b) S := by
  unfold tNotD
  rw [wpR_bind]
  constructor <;> exact fun h => h.mono fun b S q => q
end
theorem uAdd_tup {xs ys : List D} {S : Store} (h : xs.length + ys.length ≤ sizeLine) : uAdd (.tup xs) (.tup ys) S = .ok (.tup (xs ++ ys)) S := by
  have e : dAddT (.tup xs) (.tup ys) S = .ok (.tup (xs ++ ys)) S := by
    unfold dAddT
    simp [h]
  simp only [uAdd, orOp, dAddI, dAddS, e]
/-! ### comprehensions that change nothing -/
theorem lcL_pure {g : GT} {dt : DT} {de : DE} {n : Nat} {δ : Slots} {S : Store} {f : D → Bool} {h : D → D} : ∀ ds : List D, (∀ d ∈ ds, ∃ δ2, g d δ = some δ2 ∧ dt n δ2 S = .ok (f d) S ∧ (f d = true → de n δ2 S = .ok (h d) S)) → lcL g dt de n δ ds S = .ok ((ds.filter f).map h) S
  | [], _ => rfl
  | d :: ds, hd => by
    obtain ⟨δ2, e1, e2, e3⟩ := hd d (by simp)
    have ih := lcL_pure (f := f) (h := h) ds fun x hx => hd x (by simp [hx])
    simp only [lcL, e1, e2, Res.nox_ok, Res.bind_ok]
    by_cases hf : f d = true
    · simp only [hf, if_true, e3 hf, Res.nox_ok, Res.bind_ok, ih]
      rw [List.filter_cons_of_pos hf]
      rfl
    · rw [if_neg hf, ih, List.filter_cons_of_neg hf]
/-- a comprehension that may change the store, by an invariant: what is made, what is left -/
theorem lcL_inv {g : GT} {dt : DT} {de : DE} {n : Nat} {δ : Slots} (I : List D → List D → Store → Prop) {P : List D → Store → Prop}
    (hs : ∀ ys d ds S, I ys (d :: ds) S → ∃ δ2, g d δ = some δ2 ∧ wpR (dt n δ2 S) fun b S1 => if b = true then wpR (de n δ2 S1) fun y S2 => I (ys ++ [y]) ds S2 else I ys ds S1) (he : ∀ ys S, I ys [] S → P ys S) :
    ∀ (ds ys : List D) (S : Store), I ys ds S → wpR (lcL g dt de n δ ds S) fun zs S' => P (ys ++ zs) S'
  | [], ys, S, h => by
    show P (ys ++ []) S
    rw [List.append_nil]
    exact he ys S h
  | d :: ds, ys, S, h => by
    obtain ⟨δ2, e1, e2⟩ := hs ys d ds S h
    simp only [lcL, e1, wpR_bind, wpR_nox]
    refine e2.mono fun b S1 q => ?_
    cases b with
    | true =>
      simp only [if_true, wpR_bind, wpR_nox] at q ⊢
      refine q.mono fun y S2 q2 => (lcL_inv I hs he ds (ys ++ [y]) S2 q2).mono fun zs S3 q3 => ?_
      show P (ys ++ y :: zs) S3
      simpa using q3
    | false =>
      simp only [Bool.false_eq_true, if_false] at q ⊢
      exact lcL_inv I hs he ds ys S1 q
theorem w_lc {own : List Nat} {g : GT} {di : DI} {dt : DT} {de : DE} {n : Nat} {δ : Slots} {S : Store} {P : D → Store → Prop} (h : wpR (di n δ S) fun ds S1 => ds.length < sizeLine ∧ wpR (lcL g dt de n (wipeD δ own) ds S1) fun ys S2 => P (.lst ys) S2) : wpR (dLc own g di dt de n δ S) P := by
  unfold dLc
  rw [wpR_bind]
  refine h.mono fun ds S1 q => ?_
  rw [if_pos q.1, wpR_bind]
  exact q.2
/-- the same store but for some cells -/
def Chg (is : List Nat) (S S' : Store) : Prop := S'.length = S.length ∧ ∀ i, i ∉ is → S'[i]? = S[i]?
theorem Chg.refl {is : List Nat} {S : Store} : Chg is S S := ⟨rfl, fun _ _ => rfl⟩
theorem Chg.trans {is : List Nat} {S S1 S2 : Store} (a : Chg is S S1) (b : Chg is S1 S2) : Chg is S S2 := ⟨b.1.trans a.1, fun i h => (b.2 i h).trans (a.2 i h)⟩
theorem Chg.mono {is js : List Nat} {S S' : Store} (a : Chg is S S') (h : ∀ i ∈ is, i ∈ js) : Chg js S S' := ⟨a.1, fun i hi => a.2 i fun z => hi (h i z)⟩
theorem Chg.set {i : Nat} {is : List Nat} {S : Store} {x : Cell} (h : i ∈ is) : Chg is S (S.set i x) := ⟨by simp, fun j hj => by rw [List.getElem?_set_ne (fun e => hj (by rw [← e]; exact h))]⟩
end G

/-! more of weakest preconditions; evaluation -/
namespace G
open PySem PySem.Spec PyProof.Rows L2
/-- not by sight: simp then keeps its steps apart -/
theorem nr {α : Sort _} {a b : α} (h : a = b) : a = b := h
theorem sz_le {n : Nat} (h : n ≤ 2000) : (n ≤ sizeLine) = True := eq_true (Nat.le_trans h (by decide))
theorem sz_lt {n : Nat} (h : n ≤ 1999) : (n < sizeLine) = True := eq_true (Nat.lt_of_le_of_lt h (by decide))
/-! what a value must be -/
def blP (d : D) (Q : Bool → Prop) : Prop := match d with
  | .bl b => Q b
  | _ => False
def strP (d : D) (Q : Str → Prop) : Prop := match d with
  | .str b => Q b
  | _ => False
def intP (d : D) (Q : Int → Prop) : Prop := match d with
  | .int b => Q b
  | _ => False
def optP {α : Type} (d : Option α) (Q : α → Prop) : Prop := match d with
  | some b => Q b
  | none => False
def l1P (d : List D) (Q : D → Prop) : Prop := match d with
  | [a] => Q a
  | _ => False
def l2P (d : List D) (Q : D → D → Prop) : Prop := match d with
  | [a, b] => Q a b
  | _ => False
def l3P (d : List D) (Q : D → D → D → Prop) : Prop := match d with
  | [a, b, c] => Q a b c
  | _ => False
theorem blP_bl {b : Bool} {Q : Bool → Prop} : blP (.bl b) Q = Q b := nr rfl
theorem strP_str {b : Str} {Q : Str → Prop} : strP (.str b) Q = Q b := nr rfl
theorem intP_int {b : Int} {Q : Int → Prop} : intP (.int b) Q = Q b := nr rfl
theorem optP_some {α : Type} {b : α} {Q : α → Prop} : optP (some b) Q = Q b := nr rfl
theorem l1P_eq {a : D} {Q : D → Prop} : l1P [a] Q = Q a := nr rfl
theorem l2P_eq {a b : D} {Q : D → D → Prop} : l2P [a, b] Q = Q a b := nr rfl
theorem l3P_eq {a b c : D} {Q : D → D → D → Prop} : l3P [a, b, c] Q = Q a b c := nr rfl
theorem blP_ex {d : D} {Q : Bool → Prop} : blP d Q ↔ ∃ b, d = .bl b ∧ Q b := by
  cases d <;> first | exact ⟨fun h => ⟨_, rfl, h⟩, fun ⟨_, e, h⟩ => by cases e; exact h⟩ | exact ⟨fun h => h.elim, fun ⟨_, e, _⟩ => by cases e⟩
theorem strP_ex {d : D} {Q : Str → Prop} : strP d Q ↔ ∃ b, d = .str b ∧ Q b := by
  cases d <;> first | exact ⟨fun h => ⟨_, rfl, h⟩, fun ⟨_, e, h⟩ => by cases e; exact h⟩ | exact ⟨fun h => h.elim, fun ⟨_, e, _⟩ => by cases e⟩
theorem intP_ex {d : D} {Q : Int → Prop} : intP d Q ↔ ∃ b, d = .int b ∧ Q b := by
  cases d <;> first | exact ⟨fun h => ⟨_, rfl, h⟩, fun ⟨_, e, h⟩ => by cases e; exact h⟩ | exact ⟨fun h => h.elim, fun ⟨_, e, _⟩ => by cases e⟩
theorem optP_ex {α : Type} {d : Option α} {Q : α → Prop} : optP d Q ↔ ∃ b, d = some b ∧ Q b := by
  cases d
  · exact ⟨fun h => h.elim, fun ⟨_, e, _⟩ => by cases e⟩
  · exact ⟨fun h => ⟨_, rfl, h⟩, fun ⟨_, e, h⟩ => by cases e; exact h⟩
theorem l1P_ex {d : List D} {Q : D → Prop} : l1P d Q ↔ ∃ a, d = [a] ∧ Q a := by
  match d with
  | [a] => exact ⟨fun h => ⟨_, rfl, h⟩, fun ⟨_, e, h⟩ => by cases e; exact h⟩
  | [] => exact ⟨fun h => h.elim, fun ⟨_, e, _⟩ => by cases e⟩
  | _ :: _ :: _ => exact ⟨fun h => h.elim, fun ⟨_, e, _⟩ => by cases e⟩
theorem l2P_ex {d : List D} {Q : D → D → Prop} : l2P d Q ↔ ∃ a b, d = [a, b] ∧ Q a b := by
  match d with
  | [a, b] => exact ⟨fun h => ⟨_, _, rfl, h⟩, fun ⟨_, _, e, h⟩ => by cases e; exact h⟩
  | [] => exact ⟨fun h => h.elim, fun ⟨_, _, e, _⟩ => by cases e⟩
  | [_] => exact ⟨fun h => h.elim, fun ⟨_, _, e, _⟩ => by cases e⟩
  | _ :: _ :: _ :: _ => exact ⟨fun h => h.elim, fun ⟨_, _, e, _⟩ => by cases e⟩
theorem l3P_ex {d : List D} {Q : D → D → D → Prop} : l3P d Q ↔ ∃ a b c, d = [a, b, c] ∧ Q a b c := by
  match d with
  | [a, b, c] => exact ⟨fun h => ⟨_, _, _, rfl, h⟩, fun ⟨_, _, _, e, h⟩ => by cases e; exact h⟩
  | [] => exact ⟨fun h => h.elim, fun ⟨_, _, _, e, _⟩ => by cases e⟩
  | [_] => exact ⟨fun h => h.elim, fun ⟨_, _, _, e, _⟩ => by cases e⟩
  | [_, _] => exact ⟨fun h => h.elim, fun ⟨_, _, _, e, _⟩ => by cases e⟩
  | _ :: _ :: _ :: _ :: _ => exact ⟨fun h => h.elim, fun ⟨_, _, _, e, _⟩ => by cases e⟩
/-- a bound that range takes -/
def RgOk (j : Int) : Prop := -(2 ^ 62) ≤ j ∧ j < 2 ^ 62
theorem range_ok {j : Int} (h0 : 0 ≤ j) (h1 : j < 1000000000000) : RgOk j := by
  unfold RgOk
  rw [show (2 : Int) ^ 62 = 4611686018427387904 from by decide +kernel]
  exact ⟨by omega, by omega⟩
section
variable {α β : Type} {n : Nat} {δ : Slots} {S : Store} {E : Po} {da db dc : DE} {aa ab : DA} {dt du : DT} {P : D → Store → Prop} {PL : List D → Store → Prop} {PB : Bool → Store → Prop}
theorem w_lst : wpR (dLst aa n δ S) P ↔ wpR (aa n δ S) fun ds S => ds.length ≤ sizeLine ∧ P (.lst ds) S := by
  unfold dLst
  rw [wpR_bind]
  constructor <;> refine fun h => h.mono fun b S q => ?_
  · split at q
    · exact ⟨by assumption, q⟩
    · exact q.elim
  · rw [if_pos q.1]; exact q.2
theorem w_tup : wpR (dTup aa n δ S) P ↔ wpR (aa n δ S) fun ds S => ds.length ≤ sizeLine ∧ P (.tup ds) S := by
  unfold dTup
  rw [wpR_bind]
  constructor <;> refine fun h => h.mono fun b S q => ?_
  · split at q
    · exact ⟨by assumption, q⟩
    · exact q.elim
  · rw [if_pos q.1]; exact q.2
theorem w_lstR : wpR (dLstR aa n δ S) P ↔ wpR (aa n δ S) fun ds S => ds.length ≤ sizeLine ∧ P (.ref S.length) (S ++ [.lst ds]) := by
  unfold dLstR
  rw [wpR_bind]
  constructor <;> refine fun h => h.mono fun b S q => ?_
  · split at q
    · exact ⟨by assumption, q⟩
    · exact q.elim
  · rw [if_pos q.1]; exact q.2
theorem w_dnot : wpR (dNot da n δ S) P ↔ wpR (da n δ S) fun d S => ∃ b, d = .bl b ∧ P (.bl (!b)) S := by
  unfold dNot
  rw [wpR_bind]
  constructor <;> refine fun h => h.mono fun d S q => ?_
  · cases d <;> first | exact ⟨_, rfl, q⟩ | exact False.elim q
  · obtain ⟨b, rfl, q⟩ := q; exact q
theorem w_dand : wpR (dAnd da db n δ S) P ↔ wpR (da n δ S) fun d S => ∃ b, d = .bl b ∧ if b = true then wpR (db n δ S) P else P (.bl false) S := by
  unfold dAnd
  rw [wpR_bind]
  constructor <;> refine fun h => h.mono fun d S q => ?_
  · cases d <;> first | (rename_i b; cases b <;> exact ⟨_, rfl, q⟩) | exact False.elim q
  · obtain ⟨b, rfl, q⟩ := q; cases b <;> exact q
theorem w_dor : wpR (dOr da db n δ S) P ↔ wpR (da n δ S) fun d S => ∃ b, d = .bl b ∧ if b = true then P (.bl true) S else wpR (db n δ S) P := by
  unfold dOr
  rw [wpR_bind]
  constructor <;> refine fun h => h.mono fun d S q => ?_
  · cases d <;> first | (rename_i b; cases b <;> exact ⟨_, rfl, q⟩) | exact False.elim q
  · obtain ⟨b, rfl, q⟩ := q; cases b <;> exact q
theorem w_par2 {i j : Nat} : wpS (dPar2 i j aa n δ S) E ↔ wpR (aa n δ S) fun ds S => ∃ v w, ds = [v, w] ∧ E.nx ((δ.set i (some v)).set j (some w)) S := by
  unfold dPar2
  rw [wpS_to]
  constructor <;> refine fun h => h.mono fun ds S q => ?_
  · split at q
    · exact ⟨_, _, rfl, q⟩
    · exact False.elim q
  · obtain ⟨v, w, rfl, q⟩ := q; exact q
theorem w_par3 {i j k : Nat} : wpS (dPar3 i j k aa n δ S) E ↔ wpR (aa n δ S) fun ds S => ∃ v w z, ds = [v, w, z] ∧ E.nx (((δ.set i (some v)).set j (some w)).set k (some z)) S := by
  unfold dPar3
  rw [wpS_to]
  constructor <;> refine fun h => h.mono fun ds S q => ?_
  · split at q
    · exact ⟨_, _, _, rfl, q⟩
    · exact False.elim q
  · obtain ⟨v, w, z, rfl, q⟩ := q; exact q
theorem ex2 {α β : Type} {a : α} {b : β} {P : α → β → Prop} {C : α → β → List D} {l : List D} (h : P a b) (e : l = C a b) : ∃ x y, l = C x y ∧ P x y := ⟨a, b, e, h⟩
theorem list2_inj {a b v w : D} : ([a, b] = [v, w]) = (a = v ∧ b = w) := by simp
theorem list3_inj {a b c v w z : D} : ([a, b, c] = [v, w, z]) = (a = v ∧ b = w ∧ c = z) := by simp
theorem w_asg {g : GT} : wpS (dAsg g da n δ S) E ↔ wpR (da n δ S) fun d S => ∃ δ2, g d δ = some δ2 ∧ E.nx δ2 S := by
  unfold dAsg
  rw [wpS_to]
  constructor <;> refine fun h => h.mono fun d S q => ?_
  · split at q
    · rename_i δ2 e; exact ⟨δ2, e, q⟩
    · exact False.elim q
  · obtain ⟨δ2, e, q⟩ := q; rw [e]; exact q
theorem w_chain {op op' : D → D → Store → Res D} : wpR (dChain op op' da db dc n δ S) P ↔ wpR (da n δ S) fun x S => wpR (db n δ S) fun y S => wpR (op x y S) fun z S => ∃ b, z = .bl b ∧ if b = true then wpR (dc n δ S) fun w S => wpR (op' y w S) P else P (.bl false) S := by
  unfold dChain
  rw [wpR_bind]
  constructor <;> refine fun h => h.mono fun x S h => ?_
  · rw [wpR_bind] at h
    refine h.mono fun y S h => ?_
    rw [wpR_bind] at h
    refine h.mono fun z S h => ?_
    cases z <;> first | exact False.elim h | skip
    rename_i b
    cases b
    · exact ⟨_, rfl, h⟩
    · exact ⟨_, rfl, wpR_bind.mp h⟩
  · rw [wpR_bind]
    refine h.mono fun y S h => ?_
    rw [wpR_bind]
    refine h.mono fun z S h => ?_
    obtain ⟨b, rfl, q⟩ := h
    cases b
    · exact q
    · exact wpR_bind.mpr q
theorem w_app {S0 : Store} {P : D → Store → Prop} : wpR (dApp da db n δ S0) P ↔ wpR (da n δ S0) fun x S => (seqL S x).isSome = true ∧ wpR (db n δ S) fun y S => ∃ i xs, lstAt n S x y = some (i, xs) ∧ xs.length < sizeLine ∧ P .non (S.set i (.lst (xs ++ [y]))) := by
  unfold dApp
  rw [wpR_bind]
  constructor <;> refine fun h => h.mono fun x S h => ?_
  · split at h
    · exact False.elim h
    · rename_i q
      refine ⟨by rw [q]; rfl, ?_⟩
      rw [wpR_bind] at h
      refine h.mono fun y S h => ?_
      split at h
      · rename_i i xs e
        split at h
        · exact ⟨i, xs, e, by assumption, h⟩
        · exact False.elim h
      · exact False.elim h
  · obtain ⟨h1, h⟩ := h
    split
    · rename_i q; rw [q] at h1; cases h1
    · rw [wpR_bind]
      refine h.mono fun y S h => ?_
      obtain ⟨i, xs, e, hl, q⟩ := h
      rw [e]
      simp only [hl, if_true]
      exact q
theorem w_setIx {S0 : Store} {di : DE} {E : Po} : wpS (dSetIx da di db n δ S0) E ↔ wpR (db n δ S0) fun y S => wpR (da n δ S) fun x S => wpR (di n δ S) fun k S => ∃ S4, setIx n x k y S = some S4 ∧ E.nx δ S4 := by
  unfold dSetIx
  rw [wpS_to]
  constructor <;> refine fun h => h.mono fun y S h => ?_
  · rw [wpS_to] at h
    refine h.mono fun x S h => ?_
    rw [wpS_to] at h
    refine h.mono fun k S h => ?_
    split at h
    · exact ⟨_, by assumption, h⟩
    · exact False.elim h
  · rw [wpS_to]
    refine h.mono fun x S h => ?_
    rw [wpS_to]
    refine h.mono fun k S h => ?_
    obtain ⟨S4, e, q⟩ := h
    rw [e]
    exact q
theorem w_aug {i : Nat} {op : D → D → Store → Res D} {d : D} (h : δ[i]? = some (some d)) : wpS (dAugN i op da n δ S) E ↔ wpR (da n δ S) fun y S => wpR (op d y S) fun z S => E.nx (δ.set i (some z)) S := by
  unfold dAugN
  rw [h]
  show wpS (Res.to _ _ _) _ ↔ _
  rw [wpS_to]
  constructor <;> refine fun h => h.mono fun y S h => ?_
  · exact wpS_to.mp h
  · exact wpS_to.mpr h
theorem w_sl {lo hi : DO} : wpR (dSl da lo hi n δ S) P ↔ wpR (da n δ S) fun x S => wpR (lo n δ S) fun l S => wpR (hi n δ S) fun u S => wpR (slD x l u S) P := by
  unfold dSl
  rw [wpR_bind]
  constructor <;> refine fun h => h.mono fun x S h => ?_
  · rw [wpR_bind] at h
    exact h.mono fun l S h => wpR_bind.mp h
  · rw [wpR_bind]
    exact h.mono fun l S h => wpR_bind.mpr h
theorem w_part {P : Option Int → Store → Prop} : wpR (dPart da n δ S) P ↔ wpR (da n δ S) fun d S => ∃ i, d = .int i ∧ P (some i) S := by
  unfold dPart
  rw [wpR_bind]
  constructor <;> refine fun h => h.mono fun d S h => ?_
  · cases d <;> first | exact ⟨_, rfl, h⟩ | exact False.elim h
  · obtain ⟨i, rfl, q⟩ := h; exact q
theorem w_nop {P : Option Int → Store → Prop} : wpR (dNoP n δ S) P ↔ P none S := Iff.rfl
theorem w_joinS {a : Str} : wpR (dJoin (dC (.str a)) da n δ S) P ↔ wpR (da n δ S) fun y S => wpR (bJoin (.str a) y S) P := by
  unfold dJoin
  rw [wpR_bind, w_c]
  exact wpR_bind
theorem w_attr {tb : List (String × Ak)} {f : String} : wpR (dAttr tb f da n δ S) P ↔ wpR (da n δ S) fun d S => wpR (attrD tb f n d S) P := wpR_bind
theorem w_star : wpR (aStar da ab n δ S) PL ↔ wpR (da n δ S) fun d S => ∃ xs, itsD S d = some xs ∧ wpR (ab n δ S) fun ds S => PL (xs ++ ds) S := by
  unfold aStar
  rw [wpR_bind]
  constructor <;> refine fun h => h.mono fun d S h => ?_
  · split at h
    · rename_i xs e
      exact ⟨xs, e, wpR_bind.mp h⟩
    · exact False.elim h
  · obtain ⟨xs, e, q⟩ := h
    rw [e]
    exact wpR_bind.mpr q
theorem w_iD {P : List D → Store → Prop} : wpR (iD da n δ S) P ↔ wpR (da n δ S) fun d S => ∃ ds, itemsD d = some ds ∧ P ds S := by
  unfold iD
  rw [wpR_bind]
  constructor <;> refine fun h => h.mono fun d S h => ?_
  · split at h
    · exact ⟨_, by assumption, h⟩
    · exact False.elim h
  · obtain ⟨ds, e, q⟩ := h
    rw [e]; exact q
theorem w_iDv {i : Nat} {d : D} {ds : List D} {P : List D → Store → Prop} (h : δ[i]? = some (some d)) (h1 : itemsD d = some ds) : wpR (iD (dVar i) n δ S) P ↔ P ds S := by
  have hc : isClo d = false := by cases d <;> first | rfl | cases h1
  unfold iD dVar
  rw [h]
  dsimp only
  rw [hc]
  show wpR (match itemsD d with | some ds => Res.ok ds S | none => .bad) P ↔ _
  rw [h1]
  exact Iff.rfl
theorem w_iR1 {P : List D → Store → Prop} : wpR (iR1 aa n δ S) P ↔ wpR (aa n δ S) fun ds S => ∃ j, ds = [.int j] ∧ RgOk j ∧ P (rangeD 0 1 j.toNat) S := by
  unfold iR1
  rw [wpR_bind]
  constructor <;> refine fun h => h.mono fun ds S h => ?_
  · split at h
    · split at h
      · exact ⟨_, rfl, by assumption, h⟩
      · exact False.elim h
    · exact False.elim h
  · obtain ⟨j, rfl, h1, q⟩ := h
    dsimp only
    unfold RgOk at h1
    rw [if_pos h1]; exact q
end
section
variable {n : Nat} {δ : Slots} {S : Store} {E : Po} {da db : DE}
theorem w_setF {cs : List String} {f : String} : wpS (dSetF cs f da db n δ S) E ↔ wpR (db n δ S) fun y S => wpR (da n δ S) fun x S => ∃ S3, setF cs f n x y S = some S3 ∧ E.nx δ S3 := by
  unfold dSetF
  rw [wpS_to]
  constructor <;> refine fun h => h.mono fun y S h => ?_
  · rw [wpS_to] at h
    refine h.mono fun x S h => ?_
    split at h
    · exact ⟨_, by assumption, h⟩
    · exact False.elim h
  · rw [wpS_to]
    refine h.mono fun x S h => ?_
    obtain ⟨S4, e, q⟩ := h
    rw [e]
    exact q
theorem w_js0 {acc : Str} {P : D → Store → Prop} : wpR (jsD [] acc n δ S) P ↔ P (.str acc) S := Iff.rfl
theorem w_js {acc : Str} {ds : List DE} {P : D → Store → Prop} : wpR (jsD (da :: ds) acc n δ S) P ↔ wpR (da n δ S) fun x S => ∃ y, x = .str y ∧ (acc ++ y).length ≤ sizeLine ∧ wpR (jsD ds (acc ++ y) n δ S) P := by
  rw [jsD, wpR_bind]
  constructor <;> refine fun h => h.mono fun x S h => ?_
  · cases x <;> first | exact False.elim h | skip
    dsimp only at h
    split at h
    · exact ⟨_, rfl, by assumption, h⟩
    · exact False.elim h
  · obtain ⟨y, rfl, h1, q⟩ := h
    dsimp only
    rw [if_pos h1]; exact q
theorem w_joined {ds : List DE} {P : D → Store → Prop} : wpR (dJoined ds n δ S) P ↔ wpR (jsD ds Str.empty n δ S) P := Iff.rfl
theorem w_fmt {P : D → Store → Prop} : wpR (dFmt da n δ S) P ↔ wpR (da n δ S) fun d S => wpR (fmtD d S) P := wpR_bind
end
/-! ### the last cell of a store -/
theorem get_last {S : Store} {c : Cell} : (S ++ [c])[S.length]? = some c := by simp
theorem set_last {S : Store} {c d : Cell} : (S ++ [c]).set S.length d = S ++ [d] := by simp
theorem get_old {S : Store} {c x : Cell} {i : Nat} (h : S[i]? = some x) : (S ++ [c])[i]? = some x := by
  rw [List.getElem?_append_left (List.getElem?_eq_some_iff.mp h).1]; exact h
/-- a new instance frozen -/
theorem cut_obj {S : Store} {C : String} {fs : List (String × D)} (h : lowF 0 fs = true) : cutR S (.ok (.ref S.length) (S ++ [.ins C fs])) = .ok (.obj C fs) S := by
  have hn : low S.length (.ref S.length) = false := by simp [low]
  have hm : ∀ (fs : List (String × D)), lowF 0 fs = true → mapO (fun q : String × D => (fzD S.length (S ++ [.ins C fs]) 11 q.2).map fun d => (q.1, d)) fs = some fs ∧ ∀ gs, mapO (fun q : String × D => (fzD S.length (S ++ [.ins C gs]) 11 q.2).map fun d => (q.1, d)) fs = some fs := by
    intro fs
    induction fs with
    | nil => exact fun _ => ⟨rfl, fun _ => rfl⟩
    | cons p fs ih =>
      intro h
      simp only [lowF, Bool.and_eq_true] at h
      have h1 : ∀ T, fzD S.length T 11 p.2 = some p.2 := fun T => by
        unfold fzD
        rw [if_pos (low_mono (Nat.zero_le _) p.2 h.1)]
      have h2 := (ih h.2).2
      have key : ∀ gs, mapO (fun q : String × D => (fzD S.length (S ++ [.ins C gs]) 11 q.2).map fun d => (q.1, d)) (p :: fs) = some (p :: fs) := fun gs => by
        simp only [mapO, h1, h2 gs, Option.map_some]
      exact ⟨key _, key⟩
  unfold cutR
  dsimp only
  unfold fzFuel fzD
  simp only [hn, Bool.false_eq_true, if_false, get_last, (hm fs h).1, Option.map_some]
  rw [List.take_left']
  rfl
theorem stl_append (a b : Str) : (a ++ b).cps.toList = a.cps.toList ++ b.cps.toList := by
  show (a.cps ++ b.cps).toList = _
  simp
theorem s_len (a : Str) : a.length = a.cps.toList.length := by simp [Str.length]
theorem sl_append (a b : Str) : (a ++ b).length = a.length + b.length := by
  rw [s_len, stl_append, List.length_append, ← s_len, ← s_len]
theorem s_ext {a b : Str} (h : a.cps.toList = b.cps.toList) : a = b := by
  cases a; cases b
  congr 1
  exact Array.toList_inj.mp h
theorem s_assoc (a b c : Str) : a ++ b ++ c = a ++ (b ++ c) := s_ext (by simp only [stl_append, List.append_assoc])
theorem s_empty_app (a : Str) : Str.empty ++ a = a := s_ext (by rw [stl_append]; rfl)
theorem s_app_empty (a : Str) : a ++ Str.empty = a := s_ext (by rw [stl_append]; exact List.append_nil _)
theorem len_emp : Str.empty.length = 0 := rfl
theorem s_empty_of : Str.ofString "" = Str.empty := by decide +kernel
theorem fmt_str {a : Str} {S : Store} (h : a.length ≤ 2000) : fmtD (.str a) S = .ok (.str a) S := by
  simp only [fmtD, sz_le h, if_true]
theorem addS {a b : Str} {S : Store} (h : a.length + b.length ≤ 2000) : uAdd (.str a) (.str b) S = .ok (.str (a ++ b)) S := by
  simp only [uAdd, orOp, dAddI, dAddS, sz_le h, if_true]
theorem w_addS {a b : Str} {S : Store} {P : D → Store → Prop} : wpR (uAdd (.str a) (.str b) S) P ↔ a.length + b.length ≤ sizeLine ∧ P (.str (a ++ b)) S := by
  simp only [uAdd, orOp, dAddI, dAddS]
  by_cases h : a.length + b.length ≤ sizeLine
  · simp only [h, if_true, true_and]; exact Iff.rfl
  · simp only [h, if_false, false_and]; exact Iff.rfl
theorem w_fmtS {a : Str} {S : Store} {P : D → Store → Prop} : wpR (fmtD (.str a) S) P ↔ a.length ≤ sizeLine ∧ P (.str a) S := by
  simp only [fmtD]
  by_cases h : a.length ≤ sizeLine
  · simp only [h, if_true, true_and]; exact Iff.rfl
  · simp only [h, if_false, false_and]; exact Iff.rfl
theorem w_fmtI {i : Int} {S : Store} {P : D → Store → Prop} : wpR (fmtD (.int i) S) P ↔ i.natAbs.log2 < 1920 ∧ P (.str (Str.ofString (toString i))) S := by
  simp only [fmtD]
  by_cases h : i.natAbs.log2 < 1920
  · simp only [h, if_true, true_and]; exact Iff.rfl
  · simp only [h, if_false, false_and]; exact Iff.rfl
theorem w_bStrI {i : Int} {S : Store} {P : D → Store → Prop} : wpR (bStr [.int i] S) P ↔ i.natAbs.log2 < 1920 ∧ P (.str (Str.ofString (toString i))) S := by
  simp only [bStr]
  by_cases h : i.natAbs.log2 < 1920
  · simp only [h, if_true, true_and]; exact Iff.rfl
  · simp only [h, if_false, false_and]; exact Iff.rfl
theorem attr_fld {tb : List (String × Ak)} {f : String} {n : Nat} {C : String} {fs : List (String × D)} {v : D} {S : Store} (h1 : tb.lookup C = some .fld) (h2 : fs.lookup f = some v) : attrD tb f n (.obj C fs) S = .ok v S := by simp only [attrD, objAt, h1, h2]
theorem attr_con {tb : List (String × Ak)} {f : String} {n : Nat} {C : String} {fs : List (String × D)} {v : D} {S : Store} (h1 : tb.lookup C = some (.con v)) (h2 : fs.lookup f = none) : attrD tb f n (.obj C fs) S = .ok v S := by simp only [attrD, objAt, h1, h2]
theorem attr_prop {tb : List (String × Ak)} {f : String} {n : Nat} {C : String} {fs : List (String × D)} {m : Mf} {v : D} {S : Store} (h1 : tb.lookup C = some (.prop m)) (h2 : m n [.obj C fs] S = .ok v S) : attrD tb f n (.obj C fs) S = .ok v S := by simp only [attrD, objAt, h1, h2, Res.nox_ok]
theorem w_meth0 {tb : MTb} {m C : String} {de : DE} {n : Nat} {δ : Slots} {S S1 : Store} {P : D → Store → Prop} {fs : List (String × D)} {f : Md} (h0 : de n δ S = .ok (.obj C fs) S1) (h1 : fs.lookup m = none) (h2 : tb.lookup C = some f) : wpR (dMeth0 tb m de n δ S) P ↔ wpR (callD f.m f.np f.gD n [.obj C fs] [] S1) P := by
  unfold dMeth0
  simp only [h0, Res.bind_ok, methAt, objAt, h1, h2]
theorem log_small {c : Int} (h0 : 0 ≤ c) (h : c < 18446744073709551616) : c.natAbs.log2 < 1920 := by
  by_cases hz : c.natAbs = 0
  · rw [hz]; decide
  · exact Nat.lt_of_lt_of_le ((Nat.log2_lt hz).mpr (show c.natAbs < 2 ^ 64 by omega)) (by decide)
theorem int_len {c : Int} (h0 : 0 ≤ c) (h1 : c ≤ 1000000000) : (Str.ofString (toString c)).length ≤ 10 := by
  obtain ⟨k, rfl⟩ : ∃ k : Nat, c = k := ⟨c.toNat, by omega⟩
  have e : (Str.ofString (toString (k : Int))).length = k.repr.length := by
    rw [show toString (k : Int) = k.repr from rfl]
    simp [Str.ofString_eq_toList, Str.length, Nat.repr_eq_ofList_toDigits]
  rw [e]
  exact (Nat.length_repr_le_iff (by decide)).mpr (by omega)
theorem sepL_len (a : List Nat) : ∀ l : List (List Nat), (TL.joinL a l).length ≤ (l.map List.length).sum + l.length * a.length
  | [] => by simp [TL.joinL]
  | [p] => by simp [TL.joinL]
  | p :: q :: r => by
    have ih := sepL_len a (q :: r)
    simp only [TL.joinL, List.length_append, List.map_cons, List.sum_cons, List.length_cons] at ih ⊢
    have : (r.length + 1 + 1) * a.length = (r.length + 1) * a.length + a.length := by rw [Nat.succ_mul]
    omega
theorem join_len {a : Str} {ps : List Str} {k : Nat} (h : ∀ p ∈ ps, p.length ≤ k) : (Str.join a ps).length ≤ ps.length * (k + a.length) := by
  rw [s_len, show (Str.join a ps).cps.toList = _ from TL.tl_join a ps]
  refine Nat.le_trans (sepL_len _ _) ?_
  have h1 : ∀ ps : List Str, (∀ p ∈ ps, p.length ≤ k) → ((ps.map TL.tl).map List.length).sum ≤ ps.length * k := by
    intro ps
    induction ps with
    | nil => intro _; simp
    | cons p ps ih =>
      intro h
      have := ih fun q hq => h q (by simp [hq])
      have h2 := h p (by simp)
      rw [s_len] at h2
      have h3 : (TL.tl p).length ≤ k := h2
      simp only [List.map_cons, List.sum_cons, List.length_cons, Nat.succ_mul] at this ⊢
      omega
  have := h1 ps h
  rw [List.length_map, show (TL.tl a).length = a.length from (s_len a).symm, Nat.mul_add]
  omega
theorem strsD_map : ∀ cs : List Str, strsD (cs.map D.str) = some cs
  | [] => rfl
  | c :: cs => by simp [strsD, strsD_map cs]
theorem sum_lens {k : Nat} : ∀ {ps : List Str}, (∀ p ∈ ps, p.length ≤ k) → (ps.map (·.length)).sum ≤ ps.length * k
  | [], _ => by simp
  | p :: ps, h => by
    have := sum_lens (k := k) (ps := ps) fun q hq => h q (by simp [hq])
    have h2 := h p (by simp)
    simp only [List.map_cons, List.sum_cons, List.length_cons, Nat.succ_mul]
    omega
theorem join_eq {a : Str} {y : D} {ps : List Str} {S : Store} {k : Nat} (hy : itsD S y = some (ps.map .str)) (h : ∀ p ∈ ps, p.length ≤ k) (hz : ps.length * (k + a.length) ≤ 16777216) : bJoin (.str a) y S = .ok (.str (Str.join a ps)) S := by
  have := sum_lens h
  have hc : (ps.map (·.length)).sum + ps.length * a.length ≤ 16777216 := by
    rw [Nat.mul_add] at hz
    omega
  simp only [bJoin, hy, strsD_map, hc, if_true]
theorem isi_ok {tb : IsTb} {S : Store} {x c : D} {t k : TyK} {b : Bool} (h1 : tyD S x = some t) (h2 : clsD c = some k) (h3 : tb.lookup (t, k) = some b) : bIsi tb [x, c] S = .ok (.bl b) S := by
  simp only [bIsi, h1, h2, h3]
theorem setF_last {cs : List String} {f C : String} {n : Nat} {y : D} {S : Store} {fs : List (String × D)} (h1 : cs.contains C = true) (h2 : fs.length < 1000) (h3 : n ≤ S.length) : setF cs f n (.ref S.length) y (S ++ [.ins C fs]) = some (S ++ [.ins C (putD f y fs)]) := by
  simp only [setF, get_last]
  rw [if_pos ⟨h1, h2, .inl h3⟩, set_last]
theorem mkV_eq {C : String} {m : Mf} {n : Nat} {ds : List D} {S : Store} {fs : List (String × D)} (h : wpR (m S.length (.ref S.length :: ds) (S ++ [.ins C []])) fun d S' => d = .non ∧ S' = S ++ [.ins C fs]) (hl : lowF 0 fs = true) : mkV C m n ds S = .ok (.obj C fs) S := by
  obtain ⟨d, S', e, rfl, rfl⟩ := wpR_ex h
  unfold mkV
  rw [e]
  exact cut_obj hl
theorem w_eq {α : Type} {r : Res α} {a : α} {S : Store} {P : α → Store → Prop} (h : r = .ok a S) : wpR r P ↔ P a S := by rw [h]; exact Iff.rfl
theorem uLe_int {i j : Int} {S : Store} : uLe (.int i) (.int j) S = .ok (.bl (decide (i ≤ j))) S := nr rfl
theorem uLt_int {i j : Int} {S : Store} : uLt (.int i) (.int j) S = .ok (.bl (decide (i < j))) S := nr rfl
theorem uGe_int {i j : Int} {S : Store} : uGe (.int i) (.int j) S = .ok (.bl (decide (j ≤ i))) S := nr rfl
theorem uGt_int {i j : Int} {S : Store} : uGt (.int i) (.int j) S = .ok (.bl (decide (j < i))) S := nr rfl
theorem uAdd_int {i j : Int} {S : Store} : uAdd (.int i) (.int j) S = .ok (.int (i + j)) S := nr rfl
theorem uIs_non {S : Store} : uIs .non .non S = .ok (.bl true) S := nr rfl
theorem uIs_int {S : Store} {i : Int} : uIs (.int i) .non S = .ok (.bl false) S := nr rfl
theorem uIsn_non {S : Store} : uIsn .non .non S = .ok (.bl false) S := nr rfl
theorem uIsn_int {S : Store} {i : Int} : uIsn (.int i) .non S = .ok (.bl true) S := nr rfl
/-! ### equality of plain values -/
theorem shaped_int {i : Int} : SeqAt.shaped (.int i) = true := by simp [SeqAt.shaped, PyData.canLay0, PyData.depth]
theorem shaped_bl {i : Bool} : SeqAt.shaped (.bool i) = true := by simp [SeqAt.shaped, PyData.canLay0, PyData.depth]
theorem shaped_non : SeqAt.shaped .none = true := by simp [SeqAt.shaped, PyData.canLay0, PyData.depth]
theorem dEq_int {neg : Bool} {a b : Int} {S : Store} : dEq neg (.int a) (.int b) S = .ok (.bl (if neg = true then !(a == b) else a == b)) S := dEq_val rfl rfl shaped_int shaped_int (by simp [PyData.eqv])
theorem dEq_bl {neg : Bool} {a b : Bool} {S : Store} : dEq neg (.bl a) (.bl b) S = .ok (.bl (if neg = true then !(a == b) else a == b)) S := dEq_val rfl rfl shaped_bl shaped_bl (by simp [PyData.eqv])
theorem dEq_non {neg : Bool} {S : Store} : dEq neg .non .non S = .ok (.bl (!neg)) S := by
  rw [dEq_val (b := true) rfl rfl shaped_non shaped_non (by simp [PyData.eqv])]; cases neg <;> rfl
theorem strOk_abc {a : Str} (h : ∀ c ∈ a.cps.toList, c < 55296) : PyData.strOk a = true := by
  unfold PyData.strOk
  rw [Array.all_eq_true]
  intro i hi
  have := h a.cps[i] (by simp)
  simp only [decide_eq_true_eq]
  omega
/-! ### a def by an equation -/
theorem pure_ret {ar N n : Nat} {db : DS} {ds : List D} {S : Store} {d : D} (hl : ds.length = ar) (h : db S.length (startD N ds) S = .rt d S) (hlow : low 0 d = true) : mPure ar N db n ds S = .ok d S := by
  unfold mPure mKeep
  rw [if_pos hl, h]
  show cutR S (.ok d S) = _
  unfold cutR
  dsimp only
  unfold fzFuel fzD
  rw [if_pos (low_mono (Nat.zero_le _) d hlow)]
  dsimp only
  rw [List.take_length]
/-- a def that answers what its wp says, and changes nothing -/
theorem wp_eq {n : Nat} {ds : List D} {S : Store} {m : Mf} {d : D} (h : wpR (m n ds S) fun r S' => r = d ∧ S' = S) : m n ds S = .ok d S := by
  obtain ⟨a, S', e, rfl, rfl⟩ := wpR_ex h
  exact e
theorem res_eq {α : Type} {r : Res α} {a : α} {S : Store} (h : wpR r fun b S' => b = a ∧ S' = S) : r = .ok a S := by
  obtain ⟨b, S', e, rfl, rfl⟩ := wpR_ex h
  exact e
theorem low_fz {n : Nat} {S : Store} {d : D} (h : low 0 d = true) : fzD n S fzFuel d = some d := by
  unfold fzFuel fzD
  rw [if_pos (low_mono (Nat.zero_le _) d h)]
theorem w_pure0 {ar N n : Nat} {ds : List D} {db : DS} {S : Store} {d : D} (hl : ds.length = ar) (h : wpS (db S.length (startD N ds) S) { nx := fun _ S' => False, rt := fun d' S' => d' = d ∧ S' = S }) (hlow : low 0 d = true) : mPure ar N db n ds S = .ok d S := by
  refine wp_eq (m := mPure ar N db) (w_pure hl (h.mono (fun _ _ z => z.elim) (fun d' S' q => ?_) (fun _ _ z => z) fun _ _ z => z))
  obtain ⟨rfl, rfl⟩ := q
  exact ⟨_, low_fz hlow, rfl, by rw [List.take_length]⟩
/-! ### the rules, with what a value must be -/
section
variable {α β : Type} {n : Nat} {δ : Slots} {S : Store} {E : Po} {da db dc : DE} {aa ab : DA} {dt du : DT} {P : D → Store → Prop} {PL : List D → Store → Prop} {PB : Bool → Store → Prop}
theorem v_test : wpR (dTest da n δ S) PB ↔ wpR (da n δ S) fun d S => blP d fun b => PB b S := by simp only [blP_ex]; exact w_test
theorem v_tru : wpR (dTru da n δ S) PB ↔ wpR (da n δ S) fun d S => optP (truD S d) fun b => PB b S := by simp only [optP_ex]; exact w_tru
theorem v_dnot : wpR (dNot da n δ S) P ↔ wpR (da n δ S) fun d S => blP d fun b => P (.bl (!b)) S := by simp only [blP_ex]; exact w_dnot
theorem v_dand : wpR (dAnd da db n δ S) P ↔ wpR (da n δ S) fun d S => blP d fun b => if b = true then wpR (db n δ S) P else P (.bl false) S := by simp only [blP_ex]; exact w_dand
theorem v_dor : wpR (dOr da db n δ S) P ↔ wpR (da n δ S) fun d S => blP d fun b => if b = true then P (.bl true) S else wpR (db n δ S) P := by simp only [blP_ex]; exact w_dor
theorem v_chain {op op' : D → D → Store → Res D} : wpR (dChain op op' da db dc n δ S) P ↔ wpR (da n δ S) fun x S => wpR (db n δ S) fun y S => wpR (op x y S) fun z S => blP z fun b => if b = true then wpR (dc n δ S) fun w S => wpR (op' y w S) P else P (.bl false) S := by simp only [blP_ex]; exact w_chain
theorem v_par2 {i j : Nat} : wpS (dPar2 i j aa n δ S) E ↔ wpR (aa n δ S) fun ds S => l2P ds fun v w => E.nx ((δ.set i (some v)).set j (some w)) S := by simp only [l2P_ex]; exact w_par2
theorem v_par3 {i j k : Nat} : wpS (dPar3 i j k aa n δ S) E ↔ wpR (aa n δ S) fun ds S => l3P ds fun v w z => E.nx (((δ.set i (some v)).set j (some w)).set k (some z)) S := by simp only [l3P_ex]; exact w_par3
theorem v_asg {g : GT} : wpS (dAsg g da n δ S) E ↔ wpR (da n δ S) fun d S => optP (g d δ) fun δ2 => E.nx δ2 S := by simp only [optP_ex]; exact w_asg
theorem v_setIx {S0 : Store} {di : DE} {E : Po} : wpS (dSetIx da di db n δ S0) E ↔ wpR (db n δ S0) fun y S => wpR (da n δ S) fun x S => wpR (di n δ S) fun k S => optP (setIx n x k y S) fun S4 => E.nx δ S4 := by simp only [optP_ex]; exact w_setIx
theorem v_part {P : Option Int → Store → Prop} : wpR (dPart da n δ S) P ↔ wpR (da n δ S) fun d S => intP d fun i => P (some i) S := by simp only [intP_ex]; exact w_part
theorem v_star : wpR (aStar da ab n δ S) PL ↔ wpR (da n δ S) fun d S => optP (itsD S d) fun xs => wpR (ab n δ S) fun ds S => PL (xs ++ ds) S := by simp only [optP_ex]; exact w_star
theorem v_iD {P : List D → Store → Prop} : wpR (iD da n δ S) P ↔ wpR (da n δ S) fun d S => optP (itemsD d) fun ds => P ds S := by simp only [optP_ex]; exact w_iD
theorem v_iR1 {P : List D → Store → Prop} : wpR (iR1 aa n δ S) P ↔ wpR (aa n δ S) fun ds S => l1P ds fun d => intP d fun j => RgOk j ∧ P (rangeD 0 1 j.toNat) S := by
  rw [w_iR1]
  constructor <;> refine fun h => h.mono fun ds S q => ?_
  · obtain ⟨j, rfl, q⟩ := q; exact q
  · rw [l1P_ex] at q
    obtain ⟨a, rfl, q⟩ := q
    rw [intP_ex] at q
    obtain ⟨j, rfl, q⟩ := q
    exact ⟨j, rfl, q⟩
theorem v_setF {cs : List String} {f : String} : wpS (dSetF cs f da db n δ S) E ↔ wpR (db n δ S) fun y S => wpR (da n δ S) fun x S => optP (setF cs f n x y S) fun S3 => E.nx δ S3 := by simp only [optP_ex]; exact w_setF
theorem v_js {acc : Str} {ds : List DE} {P : D → Store → Prop} : wpR (jsD (da :: ds) acc n δ S) P ↔ wpR (da n δ S) fun x S => strP x fun y => (acc ++ y).length ≤ sizeLine ∧ wpR (jsD ds (acc ++ y) n δ S) P := by simp only [strP_ex]; exact w_js
theorem v_app {S0 : Store} {P : D → Store → Prop} : wpR (dApp da db n δ S0) P ↔ wpR (da n δ S0) fun x S => (seqL S x).isSome = true ∧ wpR (db n δ S) fun y S => optP (lstAt n S x y) fun q => q.2.length < sizeLine ∧ P .non (S.set q.1 (.lst (q.2 ++ [y]))) := by
  rw [w_app]
  constructor <;> refine fun h => h.mono fun x S q => ⟨q.1, q.2.mono fun y S q => ?_⟩
  · obtain ⟨i, xs, e, q⟩ := q
    rw [e]; exact q
  · rw [optP_ex] at q
    obtain ⟨⟨i, xs⟩, e, q⟩ := q
    exact ⟨i, xs, e, q⟩
end
theorem setF_self {cs : List String} {f C : String} {y : D} {S : Store} {fs : List (String × D)} (h1 : cs.contains C = true) (h2 : fs.length < 1000) : setF cs f S.length (.ref S.length) y (S ++ [.ins C fs]) = some (S ++ [.ins C (putD f y fs)]) := setF_last h1 h2 (Nat.le_refl _)
section
variable {n : Nat} {δ : Slots} {S : Store} {E : Po} {ds : DS} {di : DI} {g : GT} {step : D → Slots → Store → SR}
theorem w_forL0 : wpS (forL step [] δ S) E ↔ E.nx δ S := Iff.rfl
theorem w_forL1 {d : D} {xs : List D} : wpS (forL step (d :: xs) δ S) E ↔ wpS (step d δ S) { E with nx := fun δ S => wpS (forL step xs δ S) E, bk := E.nx, ct := fun δ S => wpS (forL step xs δ S) E } := by
  rw [forL]
  cases step d δ S <;> exact Iff.rfl
theorem w_dFor : wpS (dFor g di ds n δ S) E ↔ wpR (di n δ S) fun xs S => wpS (forL (forStep g ds n) xs δ S) E := wpS_to
theorem w_whileL {test : DT} {body : DS} {E : Po} (I : Nat → Slots → Store → Prop) (hs : ∀ k δ S, I k δ S → wpR (test n δ S) fun b S => if b = true then wpS (body n δ S) { E with nx := fun δ S => ∃ k', k' < k ∧ I k' δ S, bk := E.nx, ct := fun δ S => ∃ k', k' < k ∧ I k' δ S } else E.nx δ S) : ∀ (f k : Nat) (δ : Slots) (S : Store), k < f → I k δ S → wpS (whileL test body n f δ S) E
  | 0, k, _, _, h, _ => absurd h (by omega)
  | f + 1, k, δ, S, h, hi => by
    rw [whileL, wpS_to]
    refine (hs k δ S hi).mono fun b S1 q => ?_
    cases b with
    | false => exact q
    | true =>
      simp only [if_true] at q ⊢
      cases e : body n δ S1 with
      | nx a b => rw [e] at q; obtain ⟨k', h1, h2⟩ := q; exact w_whileL I hs f k' a b (by omega) h2
      | ct a b => rw [e] at q; obtain ⟨k', h1, h2⟩ := q; exact w_whileL I hs f k' a b (by omega) h2
      | bk a b => rw [e] at q; exact q
      | rt a b => rw [e] at q; exact q
      | exc a b c => rw [e] at q; exact q
      | bad => rw [e] at q; exact q
theorem w_while {fuel : Slots → Store → Nat} {test : DT} {body : DS} (I : Nat → Slots → Store → Prop) (k : Nat) (h : I k δ S) (hf : k < fuel δ S) (hs : ∀ k δ S, I k δ S → wpR (test n δ S) fun b S => if b = true then wpS (body n δ S) { E with nx := fun δ S => ∃ k', k' < k ∧ I k' δ S, bk := E.nx, ct := fun δ S => ∃ k', k' < k ∧ I k' δ S } else E.nx δ S) : wpS (dWhile fuel test body n δ S) E :=
  w_whileL I hs _ k δ S hf h
end
theorem dEq_refl {neg : Bool} {x : D} {S : Store} {p : PyData} (h : toPy S x = some p) (hs : SeqAt.shaped p = true) : dEq neg x x S = .ok (.bl (!neg)) S := dEq_same h h hs
theorem refl_str {neg : Bool} {a : Str} {S : Store} (h : PyData.strOk a = true) : dEq neg (.str a) (.str a) S = .ok (.bl (!neg)) S := dEq_refl rfl (shaped_str h)
theorem refl_tup {neg : Bool} {bs : List Str} {S : Store} (h : ∀ b ∈ bs, PyData.strOk b = true) : dEq neg (.tup (bs.map .str)) (.tup (bs.map .str)) S = .ok (.bl (!neg)) S := dEq_refl toPy_tup (shaped_tup h)
theorem refl_lst {neg : Bool} {bs : List Str} {S : Store} (h : ∀ b ∈ bs, PyData.strOk b = true) : dEq neg (.lst (bs.map .str)) (.lst (bs.map .str)) S = .ok (.bl (!neg)) S := dEq_refl toPy_lst (shaped_lst h)
theorem refl_int {neg : Bool} {a : Int} {S : Store} : dEq neg (.int a) (.int a) S = .ok (.bl (!neg)) S := dEq_refl rfl shaped_int
theorem refl_bl {neg : Bool} {a : Bool} {S : Store} : dEq neg (.bl a) (.bl a) S = .ok (.bl (!neg)) S := dEq_refl rfl shaped_bl
theorem dEq_lit {a b : Str} {r : Bool} {S : Store} (ha : PyData.strOk a = true) (hb : PyData.strOk b = true) (h : (a == b) = r) : dEq false (.str a) (.str b) S = .ok (.bl r) S := by
  rw [dEq_str ha hb, h]
  rfl
theorem ne_tup {bs : List Str} {S : Store} (h : ∀ b ∈ bs, PyData.strOk b = true) : dEq true (.tup (bs.map .str)) (.tup []) S = .ok (.bl (!bs.isEmpty)) S := by
  refine dEq_val (b := bs.isEmpty) toPy_tup rfl (shaped_tup h) (by rfl) ?_
  cases bs <;> simp [PyData.eqv, PyData.eqvAll]
/-! ### low signs -/
def Lo (a : Str) : Prop := ∀ c ∈ a.cps.toList, c < 55296
theorem Lo.ok {a : Str} (h : Lo a) : PyData.strOk a = true := strOk_abc h
theorem Lo.add {a b : Str} (h : Lo a) (k : Lo b) : Lo (a ++ b) := fun c hc => by
  rw [stl_append] at hc
  rcases List.mem_append.mp hc with hc | hc
  · exact h c hc
  · exact k c hc
theorem Lo.emp : Lo Str.empty := fun c hc => absurd hc (by simp [Str.empty])
theorem lo_lit {a : Str} (h : (a.cps.toList.all fun c => decide (c < 55296)) = true) : Lo a := fun c hc => by
  have := List.all_eq_true.mp h c hc
  exact of_decide_eq_true this
theorem mem_joinL {c : Nat} {a : List Nat} : ∀ {l : List (List Nat)}, c ∈ TL.joinL a l → c ∈ a ∨ ∃ p ∈ l, c ∈ p
  | [], h => absurd h (by simp [TL.joinL])
  | [p], h => .inr ⟨p, by simp, h⟩
  | p :: q :: r, h => by
    simp only [TL.joinL, List.mem_append] at h
    rcases h with h | h | h
    · exact .inr ⟨p, by simp, h⟩
    · exact .inl h
    · rcases mem_joinL (l := q :: r) h with h | ⟨x, hx, h⟩
      · exact .inl h
      · exact .inr ⟨x, by simp only [List.mem_cons] at hx ⊢; exact .inr hx, h⟩
theorem Lo.join {a : Str} {ps : List Str} (h : Lo a) (k : ∀ p ∈ ps, Lo p) : Lo (Str.join a ps) := fun c hc => by
  have e : (Str.join a ps).cps.toList = _ := TL.tl_join a ps
  rw [e] at hc
  rcases mem_joinL hc with hc | ⟨p, hp, hc⟩
  · exact h c hc
  · obtain ⟨q, hq, rfl⟩ := List.mem_map.mp hp
    exact k q hq c hc
theorem lo_int {c : Int} (h0 : 0 ≤ c) : Lo (Str.ofString (toString c)) := by
  obtain ⟨k, rfl⟩ : ∃ k : Nat, c = k := ⟨c.toNat, by omega⟩
  intro x hx
  rw [show toString (k : Int) = k.repr from rfl, Str.ofString_eq_toList] at hx
  simp only [List.mem_map, Nat.toList_repr] at hx
  obtain ⟨ch, h1, rfl⟩ := hx
  have := Nat.isDigit_of_mem_toDigits (by decide) (by decide) h1
  simp only [Char.isDigit, Bool.and_eq_true, decide_eq_true_eq] at this
  have h2 := this.2
  have : ch.toNat ≤ 57 := by
    have := UInt32.le_iff_toNat_le.mp h2
    simpa using this
  omega
/-! ### lists cut, the last cell -/
theorem cutD_drop {xs : List D} {i : Nat} (h : i ≤ xs.length) : cutD xs (some (i : Int)) none = xs.drop i := by
  unfold cutD
  rw [HT.sIx_nat, HT.sIx_none, Nat.min_eq_left h]
  exact List.take_of_length_le (by rw [List.length_drop]; exact Nat.le_refl _)
theorem cutD_take {xs : List D} {i : Nat} (h : i ≤ xs.length) : cutD xs none (some (i : Int)) = xs.take i := by
  unfold cutD
  rw [HT.sIx_nat, HT.sIx_none, Nat.min_eq_left h, List.drop_zero, Nat.sub_zero]
theorem cutD_mid {xs : List D} {i j : Nat} (h : i ≤ j) (h2 : j ≤ xs.length) : cutD xs (some (i : Int)) (some (j : Int)) = (xs.drop i).take (j - i) := by
  unfold cutD
  simp only [HT.sIx_nat]
  rw [Nat.min_eq_left h2, Nat.min_eq_left (show i ≤ xs.length by omega)]
theorem lstAt_last {S : Store} {xs : List D} {y : D} {n : Nat} (h : n ≤ S.length) : lstAt n (S ++ [.lst xs]) (.ref S.length) y = some (S.length, xs) := by
  simp only [lstAt, get_last, h, true_or, if_true]
theorem seqL_last {S : Store} {xs : List D} : seqL (S ++ [.lst xs]) (.ref S.length) = some xs := by
  simp only [seqL, get_last]
theorem atI_nat {xs : List D} {i : Nat} (h : i < xs.length) : atI xs (i : Int) = some xs[i] := by
  unfold atI ixN
  rw [if_pos (by omega), if_pos (by omega)]
  simp [h]
theorem ix_nat {d : D} {xs : List D} {i : Nat} {S : Store} (hs : ∀ z, d ≠ .str z) (hd : itsD S d = some xs) (h : i < xs.length) : ixD d (.int (i : Int)) S = .ok xs[i] S := by
  have e := atI_nat h
  cases d <;> first | exact absurd rfl (hs _) | (simp only [ixD, hd, e])
theorem len_its {d : D} {xs : List D} {S : Store} (hs : ∀ z, d ≠ .str z) (hd : itsD S d = some xs) : bLen [d] S = .ok (.int xs.length) S := by
  cases d <;> first | exact absurd rfl (hs _) | (simp only [bLen, hd])
theorem its_lst {xs : List D} {S : Store} : itsD S (.lst xs) = some xs := nr rfl
theorem its_tup {xs : List D} {S : Store} : itsD S (.tup xs) = some xs := nr rfl
theorem its_ref {xs : List D} {S : Store} {i : Nat} (h : S[i]? = some (.lst xs)) : itsD S (.ref i) = some xs := by simp only [itsD, seqL, h]
theorem slD_lst {xs : List D} {lo hi : Option Int} {S : Store} : slD (.lst xs) lo hi S = .ok (.lst (cutD xs lo hi)) S := nr rfl
theorem slD_tup {xs : List D} {lo hi : Option Int} {S : Store} : slD (.tup xs) lo hi S = .ok (.tup (cutD xs lo hi)) S := nr rfl
theorem lowL_mem {m : Nat} : ∀ {xs : List D}, (∀ x ∈ xs, low m x = true) → lowL m xs = true
  | [], _ => rfl
  | x :: xs, h => by
    rw [lowL, Bool.and_eq_true]
    exact ⟨h x (by simp), lowL_mem fun y hy => h y (by simp [hy])⟩
theorem its_len {d : D} {xs : List D} {S : Store} (h : itsD S d = some xs) : ∀ z, d ≠ .str z := fun z e => by
  subst e
  simp [itsD, seqL] at h
theorem its_push {d : D} {xs : List D} {S T : Store} (h : itsD S d = some xs) : itsD (S ++ T) d = some xs := by
  cases d <;> simp only [itsD, seqL] at h ⊢ <;> first | exact h | skip
  rename_i i
  cases e : S[i]? with
  | none => rw [e] at h; simp at h
  | some c =>
    rw [List.getElem?_append_left (List.getElem?_eq_some_iff.mp e).1]
    exact h
theorem tru_its {d : D} {xs : List D} {S : Store} (h : itsD S d = some xs) : truD S d = some (!xs.isEmpty) := by
  cases d <;> simp only [itsD, seqL, Option.some.injEq, reduceCtorEq] at h <;> first | (subst h; rfl) | skip
  rename_i i
  simp only [truD]
  split at h
  · rename_i ds e; cases h; rw [e]
  · cases h
theorem v_iR3 {aa : DA} {n : Nat} {δ : Slots} {S : Store} {P : List D → Store → Prop} : wpR (iR3 aa n δ S) P ↔ wpR (aa n δ S) fun ds S => l3P ds fun a b c => intP a fun i => intP b fun j => intP c fun c => (c ≠ 0 ∧ c.natAbs < 1073741824 ∧ Builtin.Range.small i j c = true ∧ 0 ≤ Builtin.Range.rangeSize i j c) ∧ P (rangeD i c (Builtin.Range.rangeSize i j c).toNat) S := by
  unfold iR3
  rw [wpR_bind]
  constructor <;> refine fun h => h.mono fun ds S h => ?_
  · split at h
    · split at h
      · exact ⟨by assumption, h⟩
      · exact False.elim h
    · exact False.elim h
  · rw [l3P_ex] at h
    obtain ⟨a, b, c, rfl, h⟩ := h
    rw [intP_ex] at h
    obtain ⟨i, rfl, h⟩ := h
    rw [intP_ex] at h
    obtain ⟨j, rfl, h⟩ := h
    rw [intP_ex] at h
    obtain ⟨k, rfl, h1, h2⟩ := h
    dsimp only
    rw [if_pos h1]
    exact h2
theorem sizes_two {k : Nat} : (Builtin.Range.rangeSize 0 (k : Int) 2).toNat = (k + 1) / 2 ∧ 0 ≤ Builtin.Range.rangeSize 0 (k : Int) 2 := by
  unfold Builtin.Range.rangeSize
  rw [if_pos (by decide)]
  split <;> omega
theorem mem_len_flatten {α : Type} {r : List α} : ∀ {rs : List (List α)}, r ∈ rs → r.length ≤ rs.flatten.length
  | [], h => absurd h (by simp)
  | a :: rs, h => by
    rw [List.flatten_cons, List.length_append]
    rcases List.mem_cons.mp h with rfl | h
    · omega
    · have := mem_len_flatten h; omega
theorem fits {x : Int} (h0 : 0 ≤ x) (h1 : x < 1000000000000) : Builtin.Range.rangeFitsLong x = true := by
  unfold Builtin.Range.rangeFitsLong
  simp only [Bool.and_eq_true, decide_eq_true_eq]
  constructor <;> omega
theorem small_two {k : Nat} (h : k < 1000000) : Builtin.Range.small 0 (k : Int) 2 = true := by
  have hs : 0 ≤ Builtin.Range.rangeSize 0 (k : Int) 2 ∧ Builtin.Range.rangeSize 0 (k : Int) 2 < 1000000000000 := by
    unfold Builtin.Range.rangeSize
    rw [if_pos (by decide)]
    split <;> omega
  unfold Builtin.Range.small
  rw [fits (x := 0) (by decide) (by decide), fits (x := (k : Int)) (by omega) (by omega), fits (x := 2) (by decide) (by decide), fits hs.1 hs.2, if_pos (by decide), fits (x := (k : Int) + (2 - 1)) (by omega) (by omega)]
  simp
theorem v_neg {da : DE} {n : Nat} {δ : Slots} {S : Store} {P : D → Store → Prop} : wpR (dNeg da n δ S) P ↔ wpR (da n δ S) fun d S => intP d fun i => P (.int (-i)) S := by
  unfold dNeg
  rw [wpR_bind]
  constructor <;> refine fun h => h.mono fun d S h => ?_
  · cases d <;> first | exact h | exact False.elim h
  · rw [intP_ex] at h
    obtain ⟨i, rfl, h⟩ := h
    exact h
theorem lstAt_low {S : Store} {xs : List D} {y : D} {n : Nat} (h : low 0 y = true) : lstAt n (S ++ [.lst xs]) (.ref S.length) y = some (S.length, xs) := by
  simp only [lstAt, get_last, h, or_true, if_true]
theorem atI_neg1 {α : Type} {xs : List α} {a : α} : atI (xs ++ [a]) (-1) = some a := by
  unfold atI ixN
  rw [if_neg (by decide)]
  have e : (-1 + ((xs.length : Int) + 1)).toNat = xs.length := by omega
  simp only [List.length_append, List.length_cons, List.length_nil, Nat.zero_add, Int.natCast_add, Int.cast_ofNat_Int]
  rw [if_pos (by omega), e]
  simp
theorem v_sortSet {da : DE} {n : Nat} {δ : Slots} {S : Store} {P : D → Store → Prop} : wpR (dSortSet da n δ S) P ↔ wpR (da n δ S) fun d S => optP (itsD S d) fun xs => optP (strsD xs) fun ys => ys.length + 1 < scanBound ∧ (firstS ys).length < 64 ∧ P (.lst ((sortS (firstS ys)).map .str)) S := by
  unfold dSortSet setD
  rw [wpR_bind]
  constructor <;> refine fun h => h.mono fun d S h => ?_
  · split at h
    · rename_i xs e
      rw [e, optP_some]
      split at h
      · rename_i ys e2
        rw [e2, optP_some]
        split at h
        · dsimp only at h
          split at h
          · exact ⟨by assumption, by assumption, h⟩
          · exact False.elim h
        · exact False.elim h
      · exact False.elim h
    · exact False.elim h
  · rw [optP_ex] at h
    obtain ⟨xs, e, h⟩ := h
    rw [optP_ex] at h
    obtain ⟨ys, e2, h1, h2, h3⟩ := h
    simp only [e, e2, h1, h2, if_true]
    exact h3
theorem v_lenSet {da : DE} {n : Nat} {δ : Slots} {S : Store} {P : D → Store → Prop} : wpR (dLenSet da n δ S) P ↔ wpR (da n δ S) fun d S => optP (itsD S d) fun xs => optP (strsD xs) fun ys => ys.length + 1 < scanBound ∧ P (.int (firstS ys).length) S := by
  unfold dLenSet setD
  rw [wpR_bind]
  constructor <;> refine fun h => h.mono fun d S h => ?_
  · split at h
    · rename_i xs e
      rw [e, optP_some]
      split at h
      · rename_i ys e2
        rw [e2, optP_some]
        split at h
        · exact ⟨by assumption, h⟩
        · exact False.elim h
      · exact False.elim h
    · exact False.elim h
  · rw [optP_ex] at h
    obtain ⟨xs, e, h⟩ := h
    rw [optP_ex] at h
    obtain ⟨ys, e2, h1, h3⟩ := h
    simp only [e, e2, h1, if_true]
    exact h3
theorem uAdd_lst {xs ys : List D} {S : Store} (h : xs.length + ys.length ≤ sizeLine) : uAdd (.lst xs) (.lst ys) S = .ok (.lst (xs ++ ys)) S := by
  have e : dAddL (.lst xs) (.lst ys) S = .ok (.lst (xs ++ ys)) S := by
    unfold dAddL
    simp [seqL, h]
  simp only [uAdd, orOp, dAddI, dAddS, dAddT, e]
end G

namespace Lk07
open PySem PySem.Spec PyProof.Rows L2 G
/-- the bag of a script's cell -/
def Bag (S : Store) (b T : Nat) : Prop := ∃ g s t : Int, S[b]? = some (.lst [.int g, .int s, .int t]) ∧ 0 ≤ s ∧ s ≤ 12000000000000000000 ∧ 0 ≤ t ∧ t ≤ T
theorem ix_ref {S : Store} {b : Nat} {xs : List D} {i : Int} {v : D} {P : D → Store → Prop} (h : S[b]? = some (.lst xs)) (hv : atI xs i = some v) (p : P v S) : wpR (ixD (.ref b) (.int i) S) P := by
  simp only [ixD, itsD, seqL, h, hv]
  exact p
theorem take_ok {n b T : Nat} {c : Int} {S : Store} (h : Bag S b T) (hT : T < 1000000000000) (hc : 0 < c) (hcl : c.natAbs.log2 < 9000) : wpR (m_law_take n [.ref b, .int c] S) fun d S' => ∃ r x, d = .int r ∧ 0 ≤ r ∧ r < c ∧ S' = S.set b x ∧ Bag S' b (T + 1) := by
  obtain ⟨g, s, t, hb, hs0, hs1, ht0, ht1⟩ := h
  refine w_pure rfl ?_
  show wpS (d_law_take S.length [some (.ref b), some (.int c), none, none] S) _
  have hbl : b < S.length := (List.getElem?_eq_some_iff.mp hb).1
  have at0 : ∀ x y z : D, atI [x, y, z] 0 = some x := fun _ _ _ => rfl
  have at1 : ∀ x y z : D, atI [x, y, z] 1 = some y := fun _ _ _ => rfl
  have at2 : ∀ x y z : D, atI [x, y, z] 2 = some z := fun _ _ _ => rfl
  have ix0 : ∀ x y z : D, ixN [x, y, z].length 0 = some 0 := fun _ _ _ => rfl
  have ix2 : ∀ x y z : D, ixN [x, y, z].length 2 = some 2 := fun _ _ _ => rfl
  by_cases hg : 0 < g
  · simp only [d_law_take, dSeq, dIf, dTest, dBin, dC, dVar, ic_non, ic_bl, ic_int, ic_str, ic_ty, ic_glo, ic_tup, ic_lst, ic_dct, ic_obj, ic_exn, ic_ref, Bool.false_eq_true, if_false, dSet, dSetIx, dRet, dBi, aCons, aNil, List.getElem?_cons_zero, List.getElem?_cons_succ, List.set_cons_zero, List.set_cons_succ, Res.bind_ok, Res.to_ok, SR.then_nx, SR.then_rt,
      ixD, itsD, seqL, hb, at0, uGt, orOp, dCmpI, hg, decide_true, decide_false, bInt, dMod, dFdiv, dI2, hc, setIx, lstAt, hcl, Bool.and_self, if_true, low, or_true, ix0]
    refine ⟨.int (g % c), by simp [fzD, fzFuel, low], g % c, _, rfl, Int.emod_nonneg _ (by omega), Int.emod_lt_of_pos _ hc, by rw [List.take_of_length_le (by simp)], ?_⟩
    refine ⟨g / c, s, t, ?_, hs0, hs1, ht0, by omega⟩
    rw [List.take_of_length_le (by simp), List.getElem?_set_self hbl]
    try rfl
  · have p1 : (s + 1299709 * (t + 1)).natAbs < 2 ^ 64 := by omega
    have p2 : ((t + 1).natAbs.log2) < 999000 := Nat.lt_of_lt_of_le (Nat.log2_lt (by omega) |>.mpr (show (t + 1).natAbs < 2 ^ 64 by omega)) (by decide)
    have l1 : (Int.natAbs 1299709).log2 = 20 := by decide
    have l2 : (Int.natAbs 15485863).log2 = 23 := by decide
    have q1 : decide ((Int.natAbs 1299709).log2 + (t + 1).natAbs.log2 < 1000000) = true := decide_eq_true (by rw [l1]; omega)
    have q2 : decide ((s + 1299709 * (t + 1)).natAbs < 2 ^ 64) = true := decide_eq_true p1
    have q3 : decide ((Int.natAbs 15485863).log2 + (t + 1).natAbs.log2 < 1000000) = true := decide_eq_true (by rw [l2]; omega)
    have q4 : ∀ z : Int, decide ((z % 2305843009213693951 + 15485863 * (t + 1)).natAbs < 2 ^ 64) = true := fun z => decide_eq_true (by have := Int.emod_nonneg z (show (2305843009213693951 : Int) ≠ 0 by decide); have := Int.emod_lt_of_pos z (show (0 : Int) < 2305843009213693951 by decide); omega)
    have c1 : decide ((0 : Int) ≤ 3) = true := by decide
    have c2 : decide ((3 : Int) ≤ 1000000) = true := by decide
    have c3 : decide ((0 : Int) < 2305843009213693951) = true := by decide
    have c4 : decide ((0 : Int) ≤ 2) = true := by decide
    have c5 : decide ((2 : Int) ≤ 1000000) = true := by decide
    have c6 : decide ((0 : Int) < 1000000000000000003) = true := by decide
    have c7 : decide ((0 : Int) < 4096) = true := by decide
    have c8 : decide ((Int.natAbs 4096).log2 < 9000) = true := by decide
    have hc' : decide (0 < c) = true := decide_eq_true hc
    simp only [d_law_take, dSeq, dIf, dTest, dBin, dC, dVar, ic_non, ic_bl, ic_int, ic_str, ic_ty, ic_glo, ic_tup, ic_lst, ic_dct, ic_obj, ic_exn, ic_ref, Bool.false_eq_true, if_false, dSet, dSetIx, dRet, dBi, aCons, aNil, List.getElem?_cons_zero, List.getElem?_cons_succ, List.set_cons_zero, List.set_cons_succ, Res.bind_ok, Res.to_ok, SR.then_nx, SR.then_rt,
      ixD, itsD, seqL, hb, at0, at1, at2, ix2, uGt, uAdd, orOp, dCmpI, dAddI, hg, decide_true, decide_false, bInt, dMod, dFdiv, dMul, dPow, dI2, hc', setIx, lstAt, Bool.and_self, if_true, low, or_true, dPass, List.getElem?_set_self hbl, Bool.false_eq_true, if_false, q1, q2, q3, q4, c1, c2, c3, c4, c5, c6, c7, c8]
    refine ⟨_, rfl, _, _, rfl, Int.emod_nonneg _ (by omega), Int.emod_lt_of_pos _ hc, by rw [List.take_of_length_le (by simp)], ?_⟩
    refine ⟨g, s, t + 1, ?_, hs0, hs1, by omega, by omega⟩
    rw [List.take_of_length_le (by simp), List.getElem?_set_self hbl]
theorem get_set {S : Store} {b i : Nat} {x c : Cell} (h : S[i]? = some c) (hne : i ≠ b) : (S.set b x)[i]? = some c := by rw [List.getElem?_set_ne (fun e => hne e.symm)]; exact h
theorem small_log {c : Int} (h0 : 0 ≤ c) (h : c < 18446744073709551616) : c.natAbs.log2 < 9000 := by
  by_cases hz : c.natAbs = 0
  · rw [hz]; decide
  · exact Nat.lt_of_lt_of_le ((Nat.log2_lt hz).mpr (show c.natAbs < 2 ^ 64 by omega)) (by decide)
theorem take_ok' {n b T : Nat} {c : Int} {S : Store} {P : D → Store → Prop} (h : Bag S b T) (hT : T < 1000000000000) (hc : 0 < c) (hc2 : c < 18446744073709551616) (p : ∀ r x, 0 ≤ r → r < c → Bag (S.set b x) b (T + 1) → P (.int r) (S.set b x)) : wpR (callD m_law_take 2 gkw_law_take_2 n [.ref b, .int c] [] S) P := by
  refine (take_ok (n := n) h hT hc (small_log (by omega) hc2)).mono fun d S' ⟨r, x, e1, h1, h2, e2, h3⟩ => ?_
  subst e1 e2
  exact p r x h1 h2 h3
theorem atI_some {α : Type} {xs : List α} {i : Int} (h0 : 0 ≤ i) (h1 : i < xs.length) : ∃ d ∈ xs, atI xs i = some d := by
  have hn : i.toNat < xs.length := by omega
  refine ⟨xs[i.toNat], List.getElem_mem hn, ?_⟩
  unfold atI ixN
  rw [if_pos h0, if_pos h1]
  simp [hn]
/-- one of the items -/
theorem of_ok {n b T : Nat} {d : D} {xs : List D} {S : Store} (h : Bag S b T) (hT : T < 1000000000000) (hne : xs ≠ []) (hz : xs.length < 1000000) (hlow : ∀ x ∈ xs, low 0 x = true) (hd : ∀ c, itsD (S.set b c) d = some xs) (hd0 : itsD S d = some xs) (hs : ∀ z, d ≠ .str z) : wpR (m_law_of n [.ref b, d] S) fun r S' => ∃ x, r ∈ xs ∧ S' = S.set b x ∧ Bag S' b (T + 1) := by
  refine w_pure rfl ?_
  show wpS (d_law_of S.length [some (.ref b), some d] S) _
  have hcl : isClo d = false := by cases d <;> first | rfl | cases hd0
  have hl : bLen [d] S = .ok (.int xs.length) S := by
    cases d <;> first | exact absurd rfl (hs _) | (simp only [bLen, hd0])
  simp only [d_law_of, w_ret, w_bin, w_fn, w_cons, w_nil, w_bi, hcl, dVar, ic_non, ic_bl, ic_int, ic_str, ic_ty, ic_glo, ic_tup, ic_lst, ic_dct, ic_obj, ic_exn, ic_ref, Bool.false_eq_true, if_false, List.getElem?_cons_zero, List.getElem?_cons_succ, wpR_ok, hl]
  have hlen : 0 < xs.length := List.length_pos_iff.mpr hne
  refine take_ok' h hT (by omega) (by omega) fun r x h1 h2 hb => ?_
  obtain ⟨v, hv, ha⟩ := atI_some h1 h2
  have e : ixD d (.int r) (S.set b x) = .ok v (S.set b x) := by
    cases d <;> first | exact absurd rfl (hs _) | (simp only [ixD, hd, ha])
  rw [e]
  refine ⟨v, ?_, x, hv, by rw [List.take_of_length_le (by simp)], by rw [List.take_of_length_le (by simp)]; exact hb⟩
  unfold fzFuel fzD
  rw [if_pos (low_mono (Nat.zero_le _) v (hlow v hv))]
theorem eqx_of {x y : D} {S : Store} {b : Bool} (h : dEq false x y S = .ok (.bl b) S) : uEqX x y S = .ok (.bl b) S := by
  unfold uEqX orOp
  rw [h]
theorem log_le {x k : Int} (h0 : 0 ≤ x) (h1 : x < 18446744073709551616) : x.natAbs.log2 < 64 := by
  by_cases hz : x.natAbs = 0
  · rw [hz]; decide
  · exact (Nat.log2_lt hz).mpr (show x.natAbs < 2 ^ 64 by omega)
theorem dMul_ok {x y : Int} {S : Store} (h0 : 0 ≤ x) (h1 : x < 18446744073709551616) (h2 : 0 ≤ y) (h3 : y < 18446744073709551616) : dMul (.int x) (.int y) S = .ok (.int (x * y)) S := by
  have a := log_le (k := 0) h0 h1
  have b := log_le (k := 0) h2 h3
  simp only [dMul, dI2]
  rw [if_pos (by rw [decide_eq_true_eq]; omega)]
theorem dMod_ok {x y : Int} {S : Store} (h : 0 < y) : dMod (.int x) (.int y) S = .ok (.int (x % y)) S := by
  simp only [dMod, dI2]
  rw [if_pos (decide_eq_true h)]
theorem bInt_int {i : Int} {S : Store} : bInt [.int i] S = .ok (.int i) S := nr rfl
theorem bAbs_int {i : Int} {S : Store} : bAbs [.int i] S = .ok (.int (if i < 0 then -i else i)) S := nr rfl
theorem pow18 {S : Store} : dPow (.int 10) (.int 18) S = .ok (.int 1000000000000000000) S := by
  simp only [dPow, dI2]
  rw [if_pos (by decide)]
  rfl
theorem bag_ok {n at_ : Nat} {ns : List Int} {S : Store} (ha : at_ ≤ 10) (hl : ns.length ≤ 100) : wpR (m_law_bag n [.lst (ns.map .int), .int at_] S) fun r S' => r = .ref S.length ∧ Bag S' S.length 0 ∧ ∃ c, S' = S ++ [c] := by
  refine w_keep rfl ?_
  simp only [startD, List.map_cons, List.map_nil, List.length_cons, List.length_nil, Nat.zero_add, Nat.reduceAdd, Nat.reduceSub, List.replicate_zero, List.replicate_succ, List.append_nil, List.cons_append, List.nil_append]
  have hlen : ∀ S, bLen [.lst (ns.map .int)] S = .ok (.int ns.length) S := fun S => by
    rw [len_its (fun z => by simp) its_lst, List.length_map]
  have fin : ∀ (c g : Int) (P : D → Store → Prop), (∀ s : Int, 0 ≤ s → s ≤ 12000000000000000000 → P (.ref S.length) (S ++ [.lst [.int g, .int s, .int 0]])) →
      wpR (dLstR (aCons (dVar 3) (aCons (dBin uAdd (dBin uAdd (dBin dMul (dBin dMod (dBi bInt (aCons (dVar 2) aNil)) (dC (.int 2305843009213693951))) (dC (.int 5))) (dBin dMul (dC (.int 104729)) (dVar 1))) (dC (.int 7001))) (aCons (dC (.int 0)) aNil))) n [some (.lst (ns.map .int)), some (.int at_), some (.int c), some (.int g)] S) P := by
    intro c g P p
    have h0 := Int.emod_nonneg c (show (2305843009213693951 : Int) ≠ 0 by decide)
    have h1 := Int.emod_lt_of_pos c (show (0 : Int) < 2305843009213693951 by decide)
    simp only [w_seq, w_set, w_ret, w_expr, w_pass, w_if, w_bin, w_c, w_nil, w_cons, w_bi, w_fn, w_fnK, v_test, v_tru, w_ifE, w_tand, w_tor, w_tnot, w_lst, w_tup, w_lstR, v_sortSet, v_lenSet, v_neg, v_dnot, v_dand, v_dor, v_chain, w_attr, v_star, w_sl, v_part, w_nop, v_asg, v_par2, v_par3, w_joinS, uLe_int, uLt_int, uGe_int, uGt_int, uAdd_int, uIs_non, uIs_int, uIsn_non, uIsn_int, its_lst, its_tup, slD_lst, slD_tup, w_addS, w_fmtS, w_fmtI, w_bStrI, v_iD, v_iR1, v_setF, w_js0, v_js, w_joined, w_fmt, v_app, v_setIx, dVar, ic_non, ic_bl, ic_int, ic_str, ic_ty, ic_glo, ic_tup, ic_lst, ic_dct, ic_obj, ic_exn, ic_ref, List.getElem?_cons_zero, List.getElem?_cons_succ, List.set_cons_zero, List.set_cons_succ, wpR_ok, wpS_nx, wpS_rt, blP_bl, strP_str, intP_int, optP_some, l1P_eq, l2P_eq, l3P_eq, Option.bind_some, if_true, if_false, Bool.false_eq_true, sz_le, sz_lt, List.length_cons, List.length_nil, Nat.zero_add, Nat.reduceAdd, Nat.reduceLeDiff, gT, gsC, gN, gsN, forStep, decide_true, decide_false, Bool.not_true, Bool.not_false, and_true, true_and, truD, bInt_int, dMod_ok (show (0 : Int) < 2305843009213693951 by decide), dMul_ok h0 (show c % 2305843009213693951 < 18446744073709551616 by omega) (show (0 : Int) ≤ 5 by decide) (by omega), dMul_ok (x := 104729) (y := at_) (by decide) (by omega) (by omega) (by omega)]
    exact p _ (by omega) (by omega)
  have fin2 : ∀ (c : Int), wpS (dSeq (dSet 3 (dIfE (dTest (dBin uGe (dBi bAbs (aCons (dVar 2) aNil)) (dBin dPow (dC (.int 10)) (dC (.int 18))))) (dBi bAbs (aCons (dVar 2) aNil)) (dC (.int 0))))
    (dRet (dLstR (aCons (dVar 3) (aCons (dBin uAdd (dBin uAdd (dBin dMul (dBin dMod (dBi bInt (aCons (dVar 2) aNil)) (dC (.int 2305843009213693951))) (dC (.int 5))) (dBin dMul (dC (.int 104729)) (dVar 1))) (dC (.int 7001))) (aCons (dC (.int 0)) aNil)))))  n [some (.lst (ns.map .int)), some (.int at_), some (.int c), none] S) { nx := fun _ S' => D.non = .ref S.length ∧ Bag S' S.length 0 ∧ ∃ c, S' = S ++ [c], rt := fun r S' => r = .ref S.length ∧ Bag S' S.length 0 ∧ ∃ c, S' = S ++ [c] } := by
    intro c
    have rest : ∀ g : Int, wpR (dLstR (aCons (dVar 3) (aCons (dBin uAdd (dBin uAdd (dBin dMul (dBin dMod (dBi bInt (aCons (dVar 2) aNil)) (dC (.int 2305843009213693951))) (dC (.int 5))) (dBin dMul (dC (.int 104729)) (dVar 1))) (dC (.int 7001))) (aCons (dC (.int 0)) aNil))) n [some (.lst (ns.map .int)), some (.int at_), some (.int c), some (.int g)] S) fun r S' => r = .ref S.length ∧ Bag S' S.length 0 ∧ ∃ c, S' = S ++ [c] := fun g => fin c g _ fun s h0 h1 => ⟨rfl, ⟨g, s, 0, get_last, h0, h1, by decide, by decide⟩, _, rfl⟩
    rw [w_seq, w_set, w_ifE]
    simp only [v_test, w_bin, w_bi, w_cons, w_nil, w_c, dVar, ic_non, ic_bl, ic_int, ic_str, ic_ty, ic_glo, ic_tup, ic_lst, ic_dct, ic_obj, ic_exn, ic_ref, Bool.false_eq_true, if_false, List.getElem?_cons_zero, List.getElem?_cons_succ, wpR_ok, bAbs_int, pow18, uGe_int, blP_bl, List.set_cons_succ, List.set_cons_zero]
    repeat' split
    all_goals first | exact rest _ | (rw [w_ret]; exact rest _)
  unfold d_law_bag
  rw [w_seq, w_set, w_ifE]
  simp only [v_test, w_bin, w_bi, w_cons, w_nil, w_c, dVar, ic_non, ic_bl, ic_int, ic_str, ic_ty, ic_glo, ic_tup, ic_lst, ic_dct, ic_obj, ic_exn, ic_ref, Bool.false_eq_true, if_false, List.getElem?_cons_zero, List.getElem?_cons_succ, wpR_ok, hlen, uLt_int, blP_bl, List.set_cons_succ, List.set_cons_zero]
  split
  · rename_i hlt
    rw [decide_eq_true_eq] at hlt
    have hlt' : at_ < ns.length := by omega
    rw [ix_nat (fun z => by simp) its_lst (by simpa using hlt'), List.getElem_map]
    simp only [wpR_ok, bInt_int]
    exact fin2 _
  · exact fin2 _
theorem bag_take {S' : Store} {b T k : Nat} (h : Bag S' b T) (hb : b < k) : Bag (S'.take k) b T := by
  obtain ⟨g, s, t, h1, h2⟩ := h
  exact ⟨g, s, t, by rw [List.getElem?_take_of_lt hb]; exact h1, h2⟩
theorem bag_lt {S : Store} {b T : Nat} (h : Bag S b T) : b < S.length := by
  obtain ⟨g, s, t, h1, _⟩ := h
  exact (List.getElem?_eq_some_iff.mp h1).1
theorem p30 : ∀ S, dPow (.int 10) (.int 30) S = .ok (.int 1000000000000000000000000000000) S := fun S => by
  simp only [dPow, dI2]
  rw [if_pos (by decide)]
  rfl
theorem eqx_int {a b : Int} {S : Store} : uEqX (.int a) (.int b) S = .ok (.bl (a == b)) S := eqx_of dEq_int
theorem szl : sizeLine = 16777216 := by rw [sizeLine_eq]
end Lk07

namespace Lk07
open PySem PySem.Spec PyProof.Rows L2 G
/-! ### evaluating, step by step -/
section
variable {n i : Nat} {δ δ2 : Slots} {S : Store} {a x y z x1 : D} {xs ds es : List D} {d1 da db de : DE} {dl dk dr : DA} {dt du : DT} {s1 s2 : DS} {r : SR} {b : Bool}
theorem mkx_eq {C : String} {fl : List String} {np nk : Nat} {gD : List D → List D → List D} (h1 : dl n δ S = .ok ds S) (h2 : dk n δ S = .ok es S) (h : (ds.length = np ∧ es.length = nk) ∧ (gD ds es).length = fl.length ∧ np ≤ 1000) : dMkX C fl np nk gD dl dk n δ S = .ok (.exn C (goD fl (gD ds es) [])) S := by
  unfold dMkX
  rw [h1]
  show (dk n δ S).bind _ = _
  rw [h2]
  show (if _ then _ else _) = _
  rw [if_pos h]
theorem va (h : δ[i]? = some (some a)) (hc : isClo a = false) : dVar i n δ S = .ok a S := by
  unfold dVar
  rw [h]
  show (if isClo a = true then _ else _) = _
  rw [hc]
  rfl
theorem nilE : aNil n δ S = .ok [] S := rfl
theorem a1 (h1 : d1 n δ S = .ok x1 S) : aCons d1 aNil n δ S = .ok [x1] S := by
  unfold aCons
  rw [h1]
  rfl
theorem aS (h1 : d1 n δ S = .ok x1 S) (h2 : dr n δ S = .ok xs S) : aCons d1 dr n δ S = .ok (x1 :: xs) S := by
  unfold aCons
  rw [h1]
  show (dr n δ S).bind _ = _
  rw [h2]
  rfl
theorem lstE (h : dl n δ S = .ok xs S) (hz : xs.length ≤ 100) : dLst dl n δ S = .ok (.lst xs) S := by
  unfold dLst
  rw [h]
  show (if _ then _ else _) = _
  rw [if_pos (by rw [szl]; omega)]
theorem tupE (h : dl n δ S = .ok xs S) (hz : xs.length ≤ 100) : dTup dl n δ S = .ok (.tup xs) S := by
  unfold dTup
  rw [h]
  show (if _ then _ else _) = _
  rw [if_pos (by rw [szl]; omega)]
theorem retE (h : da n δ S = .ok x S) : dRet da n δ S = .rt x S := by
  unfold dRet
  rw [h]
  rfl
theorem ifT (h : dt n δ S = .ok true S) (hr : s1 n δ S = r) : dIf dt s1 s2 n δ S = r := by
  unfold dIf
  rw [h]
  exact hr
theorem ifF (h : dt n δ S = .ok false S) (hr : s2 n δ S = r) : dIf dt s1 s2 n δ S = r := by
  unfold dIf
  rw [h]
  exact hr
theorem sqN (h : s1 n δ S = .nx δ2 S) (hr : s2 n δ2 S = r) : dSeq s1 s2 n δ S = r := by
  unfold dSeq
  rw [h]
  exact hr
theorem sqR (h : s1 n δ S = .rt x S) : dSeq s1 s2 n δ S = .rt x S := by
  unfold dSeq
  rw [h]
  rfl
theorem setE (h : da n δ S = .ok x S) : dSet i da n δ S = .nx (δ.set i (some x)) S := by
  unfold dSet
  rw [h]
  rfl
theorem asgE {g : GT} (h : da n δ S = .ok x S) (hg : g x δ = some δ2) : dAsg g da n δ S = .nx δ2 S := by
  unfold dAsg
  rw [h]
  simp only [Res.to_ok, hg]
theorem ifeT (h : dt n δ S = .ok true S) (hr : da n δ S = .ok x S) : dIfE dt da db n δ S = .ok x S := by
  unfold dIfE
  rw [h]
  exact hr
theorem ifeF (h : dt n δ S = .ok false S) (hr : db n δ S = .ok x S) : dIfE dt da db n δ S = .ok x S := by
  unfold dIfE
  rw [h]
  exact hr
theorem fnE {m : Mf} {np : Nat} {gD : List D → List D → List D} (h : dl n δ S = .ok xs S) (hr : callD m np gD n xs [] S = .ok x S) : dFn m np gD dl n δ S = .ok x S := by
  unfold dFn
  rw [h]
  exact hr
theorem biE {op : BOp} (h : dl n δ S = .ok xs S) (hr : op xs S = .ok x S) : dBi op dl n δ S = .ok x S := by
  unfold dBi
  rw [h]
  exact hr
theorem binE {op : Op2} (h1 : da n δ S = .ok x S) (h2 : db n δ S = .ok y S) (h : op x y S = .ok z S) : dBin op da db n δ S = .ok z S := by
  unfold dBin
  rw [h1]
  show (db n δ S).bind _ = _
  rw [h2]
  exact h
theorem testE (h : da n δ S = .ok (.bl b) S) : dTest da n δ S = .ok b S := by
  unfold dTest
  rw [h]
  rfl
theorem orT (h1 : dt n δ S = .ok false S) (h2 : du n δ S = .ok false S) : tOrD dt du n δ S = .ok false S := by
  unfold tOrD
  rw [h1]
  exact h2
theorem notE (h : da n δ S = .ok (.bl b) S) : dNot da n δ S = .ok (.bl (!b)) S := by
  unfold dNot
  rw [h]
  rfl
theorem andE (h1 : da n δ S = .ok (.bl true) S) (h2 : db n δ S = .ok x S) : dAnd da db n δ S = .ok x S := by
  unfold dAnd
  rw [h1]
  exact h2
end
/-! ### the values -/
structure Vv (d : D) : Prop where
  low : low 0 d = true
  clo : isClo d = false
  same : ∀ S, sameD S 6 d d = true
  tell : ∃ p : PyData, (∀ S, tellD S d = some p) ∧ p.showable = true ∧ p.shown.length ≤ 1000 ∧ p.depth ≤ 20
theorem allB_same {S : Store} : ∀ {ds : List D}, (∀ d ∈ ds, Vv d) → G.allB (sameD S 6) ds ds = true
  | [], _ => rfl
  | d :: ds, h => by
    simp only [G.allB, (h d (by simp)).same S, Bool.true_and]
    exact allB_same fun x hx => h x (by simp [hx])
theorem sames {ds : List D} {S : Store} (h : ∀ d ∈ ds, Vv d) : uNeX (.lst ds) (.lst ds) S = .ok (.bl false) S := by
  unfold uNeX orOp
  simp only [dNeF, allB_same h, if_true]
theorem nes {t : Str} {S : Store} : uNeX (.str t) (.str t) S = .ok (.bl false) S := by
  unfold uNeX orOp
  have e : dNeF (.str t) (.str t) S = .bad := rfl
  rw [e]
  cases h : SeqAt.shaped (.str t) with
  | true =>
    have e2 : dEq true (.str t) (.str t) S = .ok (.bl false) S := dEq_refl (p := .str t) rfl h
    rw [e2]
  | false =>
    have e2 : dEq true (.str t) (.str t) S = .bad := by
      unfold dEq
      simp only [toPy, h, Bool.and_self, Bool.false_eq_true, if_false]
    rw [e2]
    simp only [dNeS, bne_self_eq_false]
theorem tells {S : Store} : ∀ {ds : List D}, (∀ d ∈ ds, Vv d) → ∃ ps : List PyData, (∀ S, tellL S ds = some ps) ∧ ps.length = ds.length ∧ PyData.showableAll ps = true ∧ (∀ t ∈ PyData.shownAll ps, t.length ≤ 1000) ∧ PyData.depthAll ps ≤ 20 ∧ (PyData.shownAll ps).length = ds.length
  | [], _ => ⟨[], fun _ => rfl, rfl, by simp [PyData.showableAll], by simp [PyData.shownAll], by simp [PyData.depthAll], by simp [PyData.shownAll]⟩
  | d :: ds, h => by
    obtain ⟨p, h1, h2, h3, h4⟩ := (h d (by simp)).tell
    obtain ⟨ps, g1, g2, g3, g4, g5, g6⟩ := tells (S := S) (ds := ds) fun x hx => h x (by simp [hx])
    refine ⟨p :: ps, fun S => by simp only [tellL, h1 S, g1 S], by simp [g2], by simp [PyData.showableAll, h2, g3], fun t ht => ?_, by simp only [PyData.depthAll]; omega, by simp [PyData.shownAll, g6]⟩
    simp only [PyData.shownAll, List.mem_cons] at ht
    rcases ht with rfl | ht
    · exact h3
    · exact g4 t ht
theorem tf_len : ∀ (ts : List Str) (k : Nat) (acc : Str), (∀ t ∈ ts, t.length ≤ 1000) → (textFrom k acc ts).length ≤ acc.length + ts.length * 1002
  | [], _, acc, _ => by show acc.length ≤ _; omega
  | t :: ts, k, acc, h => by
    have ih := tf_len ts (k + 1) (acc ++ (if k > 0 then ", " else "" : String) ++ t) fun x hx => h x (by simp [hx])
    have e : (acc ++ (if k > 0 then ", " else "" : String) ++ t).length ≤ acc.length + 2 + t.length := by
      rw [strLen_append, strLen_append]
      have : (Str.ofString (if k > 0 then ", " else "" : String)).length ≤ 2 := by split <;> decide +kernel
      have e2 : ((if k > 0 then ", " else "" : String) : Str).length ≤ 2 := this
      omega
    have := h t (by simp)
    show (textFrom (k + 1) _ ts).length ≤ _
    rw [List.length_cons]
    omega
theorem reprs {ds : List D} (hl : ds.length ≤ 8) (h : ∀ d ∈ ds, Vv d) : ∃ t : Str, ∀ S, bReprN [.lst ds] S = .ok (.str t) S := by
  obtain ⟨ps, h1, h2, h3, h4, h5, h6⟩ := tells (S := []) h
  refine ⟨(PyData.list ps).shown, fun S => ?_⟩
  have e : tellD S (.lst ds) = some (.list ps) := by simp only [tellD, h1 S, Option.map_some]
  simp only [bReprN, e]
  have hz : (PyData.list ps).shown.length ≤ 16777216 := by
    simp only [PyData.shown, listText]
    have q := tf_len (PyData.shownAll ps) 0 "[" h4
    rw [strLen_append]
    have e1 : ((Str.ofString "[").length) = 1 := by decide +kernel
    have e2 : ((Str.ofString "]").length) = 1 := by decide +kernel
    have e3 : (("[" : Str).length) = 1 := e1
    have e4 : (("]" : Str).length) = 1 := e2
    rw [h6] at q
    omega
  rw [if_pos ⟨by simpa [PyData.showable] using h3, by rw [szl]; exact hz, by simp only [PyData.depth]; omega⟩]
end Lk07

namespace Lk07
open PySem PySem.Spec PyProof.Rows L2 G
theorem first_0 {n : Nat} {a b c : D} {S : Store} (ha : Vv a) (hb : Vv b) (hc : Vv c) : m_law_first n [.int 0, a, b, c] S = .ok (.tup [.exn "BadName" [("name", a)], .lst [a]]) S := pure_ret rfl (show d_law_first S.length [some (.int 0), some a, some b, some c] S = .rt (.tup [.exn "BadName" [("name", a)], .lst [a]]) S from (sqR (ifT (by kernel_rfl) (retE (tupE (aS (mkx_eq (a1 (va rfl ha.clo)) nilE ⟨⟨rfl, rfl⟩, rfl, Nat.le_of_ble_eq_true rfl⟩) (a1 (lstE (a1 (va rfl ha.clo)) (Nat.le_of_ble_eq_true rfl)))) (Nat.le_of_ble_eq_true rfl)))))) (by simp only [low, lowL, lowF, ha.low, hb.low, hc.low, Bool.and_self])
theorem told_0 {n : Nat} {a b c : D} {S : Store} (ha : Vv a) (hb : Vv b) (hc : Vv c) : m_law_first_told n [.int 0, .exn "BadName" [("name", a)]] S = .ok (.lst [a]) S := pure_ret rfl (show d_law_first_told S.length [some (.int 0), some (.exn "BadName" [("name", a)])] S = .rt (.lst [a]) S by kernel_rfl) (by simp only [low, lowL, ha.low, hb.low, hc.low, Bool.and_self])
theorem under_0 {n : Nat} {fs : List (String × D)} {S : Store} : m_law_under n [.exn "BadName" fs] S = .ok (.lst [.bl true, .bl false, .bl false, .bl false, .bl false, .bl false, .bl false, .bl false, .bl false, .bl false, .bl false, .bl false, .bl false, .bl false, .bl false, .bl false, .bl false, .bl false, .bl false, .bl false, .bl false, .bl false]) S := pure_ret rfl (show d_law_under S.length [some (.exn "BadName" fs), none] S = .rt (.lst [.bl true, .bl false, .bl false, .bl false, .bl false, .bl false, .bl false, .bl false, .bl false, .bl false, .bl false, .bl false, .bl false, .bl false, .bl false, .bl false, .bl false, .bl false, .bl false, .bl false, .bl false, .bl false]) S by kernel_rfl) rfl
theorem comp_0 {n : Nat} {o1 o2 o3 o4 o5 o6 o7 : Option D} {S : Store} : dLc [7] (gN 7) (iR1 (aCons (dC (.int 22)) aNil)) tYesD e_law_right_1 n [some (.int 0), o1, o2, o3, o4, o5, o6, o7] S = .ok (.lst [.bl true, .bl false, .bl false, .bl false, .bl false, .bl false, .bl false, .bl false, .bl false, .bl false, .bl false, .bl false, .bl false, .bl false, .bl false, .bl false, .bl false, .bl false, .bl false, .bl false, .bl false, .bl false]) S := by kernel_rfl
theorem is_0_AsBeforeError {fs : List (String × D)} {S : Store} : bIsG isT isE [.exn "BadName" fs, .glo "AsBeforeError"] S = .ok (.bl true) S := by kernel_rfl
theorem is_0_ValueError {fs : List (String × D)} {S : Store} : bIsG isT isE [.exn "BadName" fs, .ty "ValueError"] S = .ok (.bl true) S := by kernel_rfl
theorem is_0_LookupError {fs : List (String × D)} {S : Store} : bIsG isT isE [.exn "BadName" fs, .ty "LookupError"] S = .ok (.bl false) S := by kernel_rfl
theorem is_0_RuntimeError {fs : List (String × D)} {S : Store} : bIsG isT isE [.exn "BadName" fs, .ty "RuntimeError"] S = .ok (.bl false) S := by kernel_rfl
theorem is_0_two {fs : List (String × D)} {S : Store} : bIsG isT isE [.exn "BadName" fs, .tup [.ty "KeyError", .ty "IndexError"]] S = .ok (.bl false) S := by kernel_rfl
theorem right_0 {n : Nat} {a b c : D} {S : Store} (ha : Vv a) (hb : Vv b) (hc : Vv c) : m_law_right n [.int 0, a, b, c] S = .ok (.bl true) S := by
  obtain ⟨t, ht⟩ := reprs (ds := [a]) (Nat.le_of_ble_eq_true rfl) (by intro d hd; simp only [List.mem_cons, List.not_mem_nil, or_false] at hd; first | (rcases hd with rfl | rfl | rfl | rfl <;> assumption) | (rcases hd with rfl | rfl | rfl <;> assumption) | (rcases hd with rfl | rfl <;> assumption) | (subst hd; assumption))
  have sm : uNeX (.lst [a]) (.lst [a]) S = .ok (.bl false) S := sames (by intro d hd; simp only [List.mem_cons, List.not_mem_nil, or_false] at hd; first | (rcases hd with rfl | rfl | rfl | rfl <;> assumption) | (rcases hd with rfl | rfl | rfl <;> assumption) | (rcases hd with rfl | rfl <;> assumption) | (subst hd; assumption))
  refine pure_ret rfl (show d_law_right S.length [some (.int 0), some a, some b, some c, none, none, none, none] S = .rt (.bl true) S from ?_) rfl
  refine sqN (δ2 := [some (.int 0), some a, some b, some c, some (.exn "BadName" [("name", a)]), some (.lst [a]), none, none]) (asgE (ifeT (by kernel_rfl) (fnE (aS rfl (aS (va rfl ha.clo) (aS (va rfl hb.clo) (a1 (va rfl hc.clo))))) ((c_gkw_law_first_4).trans (first_0 ha hb hc)))) rfl) ?_
  refine sqN (δ2 := [some (.int 0), some a, some b, some c, some (.exn "BadName" [("name", a)]), some (.lst [a]), some (.lst [a]), none]) (setE (ifeT (by kernel_rfl) (fnE (aS rfl (a1 rfl)) ((c_gkw_law_first_told_2).trans (told_0 ha hb hc))))) ?_
  refine sqN (ifF (orT (testE (binE rfl rfl sm)) (testE (binE (biE (a1 rfl) (ht S)) (biE (a1 rfl) (ht S)) nes))) rfl) ?_
  refine sqN (ifF (orT (testE (binE (fnE (a1 rfl) (c_gkw_law_under_1.trans under_0)) comp_0 (by kernel_rfl))) (testE (binE (y := .bl true) (biE (aS rfl (a1 rfl)) is_0_AsBeforeError) (by kernel_rfl) (by kernel_rfl)))) rfl) ?_
  refine sqN (ifF (orT (testE (binE (y := .bl true) (biE (aS rfl (a1 rfl)) is_0_ValueError) (by kernel_rfl) (by kernel_rfl))) (testE (binE (y := .bl false) (biE (aS rfl (a1 rfl)) is_0_LookupError) (by kernel_rfl) (by kernel_rfl)))) rfl) ?_
  exact retE (andE (binE (y := .bl false) (biE (aS rfl (a1 rfl)) is_0_RuntimeError) (by kernel_rfl) (by kernel_rfl)) (notE (biE (aS rfl (a1 (tupE (aS rfl (a1 rfl)) (Nat.le_of_ble_eq_true rfl)))) is_0_two)))
theorem first_1 {n : Nat} {a b c : D} {S : Store} (ha : Vv a) (hb : Vv b) (hc : Vv c) : m_law_first n [.int 1, a, b, c] S = .ok (.tup [.exn "BadCost" [("cost", a)], .lst [a]]) S := pure_ret rfl (show d_law_first S.length [some (.int 1), some a, some b, some c] S = .rt (.tup [.exn "BadCost" [("cost", a)], .lst [a]]) S from (sqN (ifF (by kernel_rfl) rfl) (sqR (ifT (by kernel_rfl) (retE (tupE (aS (mkx_eq nilE (a1 (va rfl ha.clo)) ⟨⟨rfl, rfl⟩, rfl, Nat.le_of_ble_eq_true rfl⟩) (a1 (lstE (a1 (va rfl ha.clo)) (Nat.le_of_ble_eq_true rfl)))) (Nat.le_of_ble_eq_true rfl))))))) (by simp only [low, lowL, lowF, ha.low, hb.low, hc.low, Bool.and_self])
theorem told_1 {n : Nat} {a b c : D} {S : Store} (ha : Vv a) (hb : Vv b) (hc : Vv c) : m_law_first_told n [.int 1, .exn "BadCost" [("cost", a)]] S = .ok (.lst [a]) S := pure_ret rfl (show d_law_first_told S.length [some (.int 1), some (.exn "BadCost" [("cost", a)])] S = .rt (.lst [a]) S by kernel_rfl) (by simp only [low, lowL, ha.low, hb.low, hc.low, Bool.and_self])
theorem under_1 {n : Nat} {fs : List (String × D)} {S : Store} : m_law_under n [.exn "BadCost" fs] S = .ok (.lst [.bl false, .bl true, .bl false, .bl false, .bl false, .bl false, .bl false, .bl false, .bl false, .bl false, .bl false, .bl false, .bl false, .bl false, .bl false, .bl false, .bl false, .bl false, .bl false, .bl false, .bl false, .bl false]) S := pure_ret rfl (show d_law_under S.length [some (.exn "BadCost" fs), none] S = .rt (.lst [.bl false, .bl true, .bl false, .bl false, .bl false, .bl false, .bl false, .bl false, .bl false, .bl false, .bl false, .bl false, .bl false, .bl false, .bl false, .bl false, .bl false, .bl false, .bl false, .bl false, .bl false, .bl false]) S by kernel_rfl) rfl
theorem comp_1 {n : Nat} {o1 o2 o3 o4 o5 o6 o7 : Option D} {S : Store} : dLc [7] (gN 7) (iR1 (aCons (dC (.int 22)) aNil)) tYesD e_law_right_1 n [some (.int 1), o1, o2, o3, o4, o5, o6, o7] S = .ok (.lst [.bl false, .bl true, .bl false, .bl false, .bl false, .bl false, .bl false, .bl false, .bl false, .bl false, .bl false, .bl false, .bl false, .bl false, .bl false, .bl false, .bl false, .bl false, .bl false, .bl false, .bl false, .bl false]) S := by kernel_rfl
theorem is_1_AsBeforeError {fs : List (String × D)} {S : Store} : bIsG isT isE [.exn "BadCost" fs, .glo "AsBeforeError"] S = .ok (.bl true) S := by kernel_rfl
theorem is_1_ValueError {fs : List (String × D)} {S : Store} : bIsG isT isE [.exn "BadCost" fs, .ty "ValueError"] S = .ok (.bl true) S := by kernel_rfl
theorem is_1_LookupError {fs : List (String × D)} {S : Store} : bIsG isT isE [.exn "BadCost" fs, .ty "LookupError"] S = .ok (.bl false) S := by kernel_rfl
theorem is_1_RuntimeError {fs : List (String × D)} {S : Store} : bIsG isT isE [.exn "BadCost" fs, .ty "RuntimeError"] S = .ok (.bl false) S := by kernel_rfl
theorem is_1_two {fs : List (String × D)} {S : Store} : bIsG isT isE [.exn "BadCost" fs, .tup [.ty "KeyError", .ty "IndexError"]] S = .ok (.bl false) S := by kernel_rfl
theorem right_1 {n : Nat} {a b c : D} {S : Store} (ha : Vv a) (hb : Vv b) (hc : Vv c) : m_law_right n [.int 1, a, b, c] S = .ok (.bl true) S := by
  obtain ⟨t, ht⟩ := reprs (ds := [a]) (Nat.le_of_ble_eq_true rfl) (by intro d hd; simp only [List.mem_cons, List.not_mem_nil, or_false] at hd; first | (rcases hd with rfl | rfl | rfl | rfl <;> assumption) | (rcases hd with rfl | rfl | rfl <;> assumption) | (rcases hd with rfl | rfl <;> assumption) | (subst hd; assumption))
  have sm : uNeX (.lst [a]) (.lst [a]) S = .ok (.bl false) S := sames (by intro d hd; simp only [List.mem_cons, List.not_mem_nil, or_false] at hd; first | (rcases hd with rfl | rfl | rfl | rfl <;> assumption) | (rcases hd with rfl | rfl | rfl <;> assumption) | (rcases hd with rfl | rfl <;> assumption) | (subst hd; assumption))
  refine pure_ret rfl (show d_law_right S.length [some (.int 1), some a, some b, some c, none, none, none, none] S = .rt (.bl true) S from ?_) rfl
  refine sqN (δ2 := [some (.int 1), some a, some b, some c, some (.exn "BadCost" [("cost", a)]), some (.lst [a]), none, none]) (asgE (ifeT (by kernel_rfl) (fnE (aS rfl (aS (va rfl ha.clo) (aS (va rfl hb.clo) (a1 (va rfl hc.clo))))) ((c_gkw_law_first_4).trans (first_1 ha hb hc)))) rfl) ?_
  refine sqN (δ2 := [some (.int 1), some a, some b, some c, some (.exn "BadCost" [("cost", a)]), some (.lst [a]), some (.lst [a]), none]) (setE (ifeT (by kernel_rfl) (fnE (aS rfl (a1 rfl)) ((c_gkw_law_first_told_2).trans (told_1 ha hb hc))))) ?_
  refine sqN (ifF (orT (testE (binE rfl rfl sm)) (testE (binE (biE (a1 rfl) (ht S)) (biE (a1 rfl) (ht S)) nes))) rfl) ?_
  refine sqN (ifF (orT (testE (binE (fnE (a1 rfl) (c_gkw_law_under_1.trans under_1)) comp_1 (by kernel_rfl))) (testE (binE (y := .bl true) (biE (aS rfl (a1 rfl)) is_1_AsBeforeError) (by kernel_rfl) (by kernel_rfl)))) rfl) ?_
  refine sqN (ifF (orT (testE (binE (y := .bl true) (biE (aS rfl (a1 rfl)) is_1_ValueError) (by kernel_rfl) (by kernel_rfl))) (testE (binE (y := .bl false) (biE (aS rfl (a1 rfl)) is_1_LookupError) (by kernel_rfl) (by kernel_rfl)))) rfl) ?_
  exact retE (andE (binE (y := .bl false) (biE (aS rfl (a1 rfl)) is_1_RuntimeError) (by kernel_rfl) (by kernel_rfl)) (notE (biE (aS rfl (a1 (tupE (aS rfl (a1 rfl)) (Nat.le_of_ble_eq_true rfl)))) is_1_two)))
theorem first_2 {n : Nat} {a b c : D} {S : Store} (ha : Vv a) (hb : Vv b) (hc : Vv c) : m_law_first n [.int 2, a, b, c] S = .ok (.tup [.exn "BadStep" [("name", a)], .lst [a]]) S := pure_ret rfl (show d_law_first S.length [some (.int 2), some a, some b, some c] S = .rt (.tup [.exn "BadStep" [("name", a)], .lst [a]]) S from (sqN (ifF (by kernel_rfl) rfl) (sqN (ifF (by kernel_rfl) rfl) (sqR (ifT (by kernel_rfl) (retE (tupE (aS (mkx_eq (a1 (va rfl ha.clo)) nilE ⟨⟨rfl, rfl⟩, rfl, Nat.le_of_ble_eq_true rfl⟩) (a1 (lstE (a1 (va rfl ha.clo)) (Nat.le_of_ble_eq_true rfl)))) (Nat.le_of_ble_eq_true rfl)))))))) (by simp only [low, lowL, lowF, ha.low, hb.low, hc.low, Bool.and_self])
theorem told_2 {n : Nat} {a b c : D} {S : Store} (ha : Vv a) (hb : Vv b) (hc : Vv c) : m_law_first_told n [.int 2, .exn "BadStep" [("name", a)]] S = .ok (.lst [a]) S := pure_ret rfl (show d_law_first_told S.length [some (.int 2), some (.exn "BadStep" [("name", a)])] S = .rt (.lst [a]) S by kernel_rfl) (by simp only [low, lowL, ha.low, hb.low, hc.low, Bool.and_self])
theorem under_2 {n : Nat} {fs : List (String × D)} {S : Store} : m_law_under n [.exn "BadStep" fs] S = .ok (.lst [.bl false, .bl false, .bl true, .bl false, .bl false, .bl false, .bl false, .bl false, .bl false, .bl false, .bl false, .bl false, .bl false, .bl false, .bl false, .bl false, .bl false, .bl false, .bl false, .bl false, .bl false, .bl false]) S := pure_ret rfl (show d_law_under S.length [some (.exn "BadStep" fs), none] S = .rt (.lst [.bl false, .bl false, .bl true, .bl false, .bl false, .bl false, .bl false, .bl false, .bl false, .bl false, .bl false, .bl false, .bl false, .bl false, .bl false, .bl false, .bl false, .bl false, .bl false, .bl false, .bl false, .bl false]) S by kernel_rfl) rfl
theorem comp_2 {n : Nat} {o1 o2 o3 o4 o5 o6 o7 : Option D} {S : Store} : dLc [7] (gN 7) (iR1 (aCons (dC (.int 22)) aNil)) tYesD e_law_right_1 n [some (.int 2), o1, o2, o3, o4, o5, o6, o7] S = .ok (.lst [.bl false, .bl false, .bl true, .bl false, .bl false, .bl false, .bl false, .bl false, .bl false, .bl false, .bl false, .bl false, .bl false, .bl false, .bl false, .bl false, .bl false, .bl false, .bl false, .bl false, .bl false, .bl false]) S := by kernel_rfl
theorem is_2_AsBeforeError {fs : List (String × D)} {S : Store} : bIsG isT isE [.exn "BadStep" fs, .glo "AsBeforeError"] S = .ok (.bl true) S := by kernel_rfl
theorem is_2_ValueError {fs : List (String × D)} {S : Store} : bIsG isT isE [.exn "BadStep" fs, .ty "ValueError"] S = .ok (.bl true) S := by kernel_rfl
theorem is_2_LookupError {fs : List (String × D)} {S : Store} : bIsG isT isE [.exn "BadStep" fs, .ty "LookupError"] S = .ok (.bl false) S := by kernel_rfl
theorem is_2_RuntimeError {fs : List (String × D)} {S : Store} : bIsG isT isE [.exn "BadStep" fs, .ty "RuntimeError"] S = .ok (.bl false) S := by kernel_rfl
theorem is_2_two {fs : List (String × D)} {S : Store} : bIsG isT isE [.exn "BadStep" fs, .tup [.ty "KeyError", .ty "IndexError"]] S = .ok (.bl false) S := by kernel_rfl
theorem right_2 {n : Nat} {a b c : D} {S : Store} (ha : Vv a) (hb : Vv b) (hc : Vv c) : m_law_right n [.int 2, a, b, c] S = .ok (.bl true) S := by
  obtain ⟨t, ht⟩ := reprs (ds := [a]) (Nat.le_of_ble_eq_true rfl) (by intro d hd; simp only [List.mem_cons, List.not_mem_nil, or_false] at hd; first | (rcases hd with rfl | rfl | rfl | rfl <;> assumption) | (rcases hd with rfl | rfl | rfl <;> assumption) | (rcases hd with rfl | rfl <;> assumption) | (subst hd; assumption))
  have sm : uNeX (.lst [a]) (.lst [a]) S = .ok (.bl false) S := sames (by intro d hd; simp only [List.mem_cons, List.not_mem_nil, or_false] at hd; first | (rcases hd with rfl | rfl | rfl | rfl <;> assumption) | (rcases hd with rfl | rfl | rfl <;> assumption) | (rcases hd with rfl | rfl <;> assumption) | (subst hd; assumption))
  refine pure_ret rfl (show d_law_right S.length [some (.int 2), some a, some b, some c, none, none, none, none] S = .rt (.bl true) S from ?_) rfl
  refine sqN (δ2 := [some (.int 2), some a, some b, some c, some (.exn "BadStep" [("name", a)]), some (.lst [a]), none, none]) (asgE (ifeT (by kernel_rfl) (fnE (aS rfl (aS (va rfl ha.clo) (aS (va rfl hb.clo) (a1 (va rfl hc.clo))))) ((c_gkw_law_first_4).trans (first_2 ha hb hc)))) rfl) ?_
  refine sqN (δ2 := [some (.int 2), some a, some b, some c, some (.exn "BadStep" [("name", a)]), some (.lst [a]), some (.lst [a]), none]) (setE (ifeT (by kernel_rfl) (fnE (aS rfl (a1 rfl)) ((c_gkw_law_first_told_2).trans (told_2 ha hb hc))))) ?_
  refine sqN (ifF (orT (testE (binE rfl rfl sm)) (testE (binE (biE (a1 rfl) (ht S)) (biE (a1 rfl) (ht S)) nes))) rfl) ?_
  refine sqN (ifF (orT (testE (binE (fnE (a1 rfl) (c_gkw_law_under_1.trans under_2)) comp_2 (by kernel_rfl))) (testE (binE (y := .bl true) (biE (aS rfl (a1 rfl)) is_2_AsBeforeError) (by kernel_rfl) (by kernel_rfl)))) rfl) ?_
  refine sqN (ifF (orT (testE (binE (y := .bl true) (biE (aS rfl (a1 rfl)) is_2_ValueError) (by kernel_rfl) (by kernel_rfl))) (testE (binE (y := .bl false) (biE (aS rfl (a1 rfl)) is_2_LookupError) (by kernel_rfl) (by kernel_rfl)))) rfl) ?_
  exact retE (andE (binE (y := .bl false) (biE (aS rfl (a1 rfl)) is_2_RuntimeError) (by kernel_rfl) (by kernel_rfl)) (notE (biE (aS rfl (a1 (tupE (aS rfl (a1 rfl)) (Nat.le_of_ble_eq_true rfl)))) is_2_two)))
theorem first_3 {n : Nat} {a b c : D} {S : Store} (ha : Vv a) (hb : Vv b) (hc : Vv c) : m_law_first n [.int 3, a, b, c] S = .ok (.tup [.exn "BadBoard" [("at", b), ("part", a)], .lst [a, b]]) S := pure_ret rfl (show d_law_first S.length [some (.int 3), some a, some b, some c] S = .rt (.tup [.exn "BadBoard" [("at", b), ("part", a)], .lst [a, b]]) S from (sqN (ifF (by kernel_rfl) rfl) (sqN (ifF (by kernel_rfl) rfl) (sqN (ifF (by kernel_rfl) rfl) (sqR (ifT (by kernel_rfl) (retE (tupE (aS (mkx_eq (aS (va rfl ha.clo) (a1 (va rfl hb.clo))) nilE ⟨⟨rfl, rfl⟩, rfl, Nat.le_of_ble_eq_true rfl⟩) (a1 (lstE (aS (va rfl ha.clo) (a1 (va rfl hb.clo))) (Nat.le_of_ble_eq_true rfl)))) (Nat.le_of_ble_eq_true rfl))))))))) (by simp only [low, lowL, lowF, ha.low, hb.low, hc.low, Bool.and_self])
theorem told_3 {n : Nat} {a b c : D} {S : Store} (ha : Vv a) (hb : Vv b) (hc : Vv c) : m_law_first_told n [.int 3, .exn "BadBoard" [("at", b), ("part", a)]] S = .ok (.lst [a, b]) S := pure_ret rfl (show d_law_first_told S.length [some (.int 3), some (.exn "BadBoard" [("at", b), ("part", a)])] S = .rt (.lst [a, b]) S by kernel_rfl) (by simp only [low, lowL, ha.low, hb.low, hc.low, Bool.and_self])
theorem under_3 {n : Nat} {fs : List (String × D)} {S : Store} : m_law_under n [.exn "BadBoard" fs] S = .ok (.lst [.bl false, .bl false, .bl false, .bl true, .bl false, .bl false, .bl false, .bl false, .bl false, .bl false, .bl false, .bl false, .bl false, .bl false, .bl false, .bl false, .bl false, .bl false, .bl false, .bl false, .bl false, .bl false]) S := pure_ret rfl (show d_law_under S.length [some (.exn "BadBoard" fs), none] S = .rt (.lst [.bl false, .bl false, .bl false, .bl true, .bl false, .bl false, .bl false, .bl false, .bl false, .bl false, .bl false, .bl false, .bl false, .bl false, .bl false, .bl false, .bl false, .bl false, .bl false, .bl false, .bl false, .bl false]) S by kernel_rfl) rfl
theorem comp_3 {n : Nat} {o1 o2 o3 o4 o5 o6 o7 : Option D} {S : Store} : dLc [7] (gN 7) (iR1 (aCons (dC (.int 22)) aNil)) tYesD e_law_right_1 n [some (.int 3), o1, o2, o3, o4, o5, o6, o7] S = .ok (.lst [.bl false, .bl false, .bl false, .bl true, .bl false, .bl false, .bl false, .bl false, .bl false, .bl false, .bl false, .bl false, .bl false, .bl false, .bl false, .bl false, .bl false, .bl false, .bl false, .bl false, .bl false, .bl false]) S := by kernel_rfl
theorem is_3_AsBeforeError {fs : List (String × D)} {S : Store} : bIsG isT isE [.exn "BadBoard" fs, .glo "AsBeforeError"] S = .ok (.bl true) S := by kernel_rfl
theorem is_3_ValueError {fs : List (String × D)} {S : Store} : bIsG isT isE [.exn "BadBoard" fs, .ty "ValueError"] S = .ok (.bl true) S := by kernel_rfl
theorem is_3_LookupError {fs : List (String × D)} {S : Store} : bIsG isT isE [.exn "BadBoard" fs, .ty "LookupError"] S = .ok (.bl false) S := by kernel_rfl
theorem is_3_RuntimeError {fs : List (String × D)} {S : Store} : bIsG isT isE [.exn "BadBoard" fs, .ty "RuntimeError"] S = .ok (.bl false) S := by kernel_rfl
theorem is_3_two {fs : List (String × D)} {S : Store} : bIsG isT isE [.exn "BadBoard" fs, .tup [.ty "KeyError", .ty "IndexError"]] S = .ok (.bl false) S := by kernel_rfl
theorem right_3 {n : Nat} {a b c : D} {S : Store} (ha : Vv a) (hb : Vv b) (hc : Vv c) : m_law_right n [.int 3, a, b, c] S = .ok (.bl true) S := by
  obtain ⟨t, ht⟩ := reprs (ds := [a, b]) (Nat.le_of_ble_eq_true rfl) (by intro d hd; simp only [List.mem_cons, List.not_mem_nil, or_false] at hd; first | (rcases hd with rfl | rfl | rfl | rfl <;> assumption) | (rcases hd with rfl | rfl | rfl <;> assumption) | (rcases hd with rfl | rfl <;> assumption) | (subst hd; assumption))
  have sm : uNeX (.lst [a, b]) (.lst [a, b]) S = .ok (.bl false) S := sames (by intro d hd; simp only [List.mem_cons, List.not_mem_nil, or_false] at hd; first | (rcases hd with rfl | rfl | rfl | rfl <;> assumption) | (rcases hd with rfl | rfl | rfl <;> assumption) | (rcases hd with rfl | rfl <;> assumption) | (subst hd; assumption))
  refine pure_ret rfl (show d_law_right S.length [some (.int 3), some a, some b, some c, none, none, none, none] S = .rt (.bl true) S from ?_) rfl
  refine sqN (δ2 := [some (.int 3), some a, some b, some c, some (.exn "BadBoard" [("at", b), ("part", a)]), some (.lst [a, b]), none, none]) (asgE (ifeT (by kernel_rfl) (fnE (aS rfl (aS (va rfl ha.clo) (aS (va rfl hb.clo) (a1 (va rfl hc.clo))))) ((c_gkw_law_first_4).trans (first_3 ha hb hc)))) rfl) ?_
  refine sqN (δ2 := [some (.int 3), some a, some b, some c, some (.exn "BadBoard" [("at", b), ("part", a)]), some (.lst [a, b]), some (.lst [a, b]), none]) (setE (ifeT (by kernel_rfl) (fnE (aS rfl (a1 rfl)) ((c_gkw_law_first_told_2).trans (told_3 ha hb hc))))) ?_
  refine sqN (ifF (orT (testE (binE rfl rfl sm)) (testE (binE (biE (a1 rfl) (ht S)) (biE (a1 rfl) (ht S)) nes))) rfl) ?_
  refine sqN (ifF (orT (testE (binE (fnE (a1 rfl) (c_gkw_law_under_1.trans under_3)) comp_3 (by kernel_rfl))) (testE (binE (y := .bl true) (biE (aS rfl (a1 rfl)) is_3_AsBeforeError) (by kernel_rfl) (by kernel_rfl)))) rfl) ?_
  refine sqN (ifF (orT (testE (binE (y := .bl true) (biE (aS rfl (a1 rfl)) is_3_ValueError) (by kernel_rfl) (by kernel_rfl))) (testE (binE (y := .bl false) (biE (aS rfl (a1 rfl)) is_3_LookupError) (by kernel_rfl) (by kernel_rfl)))) rfl) ?_
  exact retE (andE (binE (y := .bl false) (biE (aS rfl (a1 rfl)) is_3_RuntimeError) (by kernel_rfl) (by kernel_rfl)) (notE (biE (aS rfl (a1 (tupE (aS rfl (a1 rfl)) (Nat.le_of_ble_eq_true rfl)))) is_3_two)))
theorem first_4 {n : Nat} {a b c : D} {S : Store} (ha : Vv a) (hb : Vv b) (hc : Vv c) : m_law_first n [.int 4, a, b, c] S = .ok (.tup [.exn "BadLine" [("at", a)], .lst [a]]) S := pure_ret rfl (show d_law_first S.length [some (.int 4), some a, some b, some c] S = .rt (.tup [.exn "BadLine" [("at", a)], .lst [a]]) S from (sqN (ifF (by kernel_rfl) rfl) (sqN (ifF (by kernel_rfl) rfl) (sqN (ifF (by kernel_rfl) rfl) (sqN (ifF (by kernel_rfl) rfl) (sqR (ifT (by kernel_rfl) (retE (tupE (aS (mkx_eq (a1 (va rfl ha.clo)) nilE ⟨⟨rfl, rfl⟩, rfl, Nat.le_of_ble_eq_true rfl⟩) (a1 (lstE (a1 (va rfl ha.clo)) (Nat.le_of_ble_eq_true rfl)))) (Nat.le_of_ble_eq_true rfl)))))))))) (by simp only [low, lowL, lowF, ha.low, hb.low, hc.low, Bool.and_self])
theorem told_4 {n : Nat} {a b c : D} {S : Store} (ha : Vv a) (hb : Vv b) (hc : Vv c) : m_law_first_told n [.int 4, .exn "BadLine" [("at", a)]] S = .ok (.lst [a]) S := pure_ret rfl (show d_law_first_told S.length [some (.int 4), some (.exn "BadLine" [("at", a)])] S = .rt (.lst [a]) S by kernel_rfl) (by simp only [low, lowL, ha.low, hb.low, hc.low, Bool.and_self])
theorem under_4 {n : Nat} {fs : List (String × D)} {S : Store} : m_law_under n [.exn "BadLine" fs] S = .ok (.lst [.bl false, .bl false, .bl false, .bl false, .bl true, .bl false, .bl false, .bl false, .bl false, .bl false, .bl false, .bl false, .bl false, .bl false, .bl false, .bl false, .bl false, .bl false, .bl false, .bl false, .bl false, .bl false]) S := pure_ret rfl (show d_law_under S.length [some (.exn "BadLine" fs), none] S = .rt (.lst [.bl false, .bl false, .bl false, .bl false, .bl true, .bl false, .bl false, .bl false, .bl false, .bl false, .bl false, .bl false, .bl false, .bl false, .bl false, .bl false, .bl false, .bl false, .bl false, .bl false, .bl false, .bl false]) S by kernel_rfl) rfl
theorem comp_4 {n : Nat} {o1 o2 o3 o4 o5 o6 o7 : Option D} {S : Store} : dLc [7] (gN 7) (iR1 (aCons (dC (.int 22)) aNil)) tYesD e_law_right_1 n [some (.int 4), o1, o2, o3, o4, o5, o6, o7] S = .ok (.lst [.bl false, .bl false, .bl false, .bl false, .bl true, .bl false, .bl false, .bl false, .bl false, .bl false, .bl false, .bl false, .bl false, .bl false, .bl false, .bl false, .bl false, .bl false, .bl false, .bl false, .bl false, .bl false]) S := by kernel_rfl
theorem is_4_AsBeforeError {fs : List (String × D)} {S : Store} : bIsG isT isE [.exn "BadLine" fs, .glo "AsBeforeError"] S = .ok (.bl true) S := by kernel_rfl
theorem is_4_ValueError {fs : List (String × D)} {S : Store} : bIsG isT isE [.exn "BadLine" fs, .ty "ValueError"] S = .ok (.bl true) S := by kernel_rfl
theorem is_4_LookupError {fs : List (String × D)} {S : Store} : bIsG isT isE [.exn "BadLine" fs, .ty "LookupError"] S = .ok (.bl false) S := by kernel_rfl
theorem is_4_RuntimeError {fs : List (String × D)} {S : Store} : bIsG isT isE [.exn "BadLine" fs, .ty "RuntimeError"] S = .ok (.bl false) S := by kernel_rfl
theorem is_4_two {fs : List (String × D)} {S : Store} : bIsG isT isE [.exn "BadLine" fs, .tup [.ty "KeyError", .ty "IndexError"]] S = .ok (.bl false) S := by kernel_rfl
theorem right_4 {n : Nat} {a b c : D} {S : Store} (ha : Vv a) (hb : Vv b) (hc : Vv c) : m_law_right n [.int 4, a, b, c] S = .ok (.bl true) S := by
  obtain ⟨t, ht⟩ := reprs (ds := [a]) (Nat.le_of_ble_eq_true rfl) (by intro d hd; simp only [List.mem_cons, List.not_mem_nil, or_false] at hd; first | (rcases hd with rfl | rfl | rfl | rfl <;> assumption) | (rcases hd with rfl | rfl | rfl <;> assumption) | (rcases hd with rfl | rfl <;> assumption) | (subst hd; assumption))
  have sm : uNeX (.lst [a]) (.lst [a]) S = .ok (.bl false) S := sames (by intro d hd; simp only [List.mem_cons, List.not_mem_nil, or_false] at hd; first | (rcases hd with rfl | rfl | rfl | rfl <;> assumption) | (rcases hd with rfl | rfl | rfl <;> assumption) | (rcases hd with rfl | rfl <;> assumption) | (subst hd; assumption))
  refine pure_ret rfl (show d_law_right S.length [some (.int 4), some a, some b, some c, none, none, none, none] S = .rt (.bl true) S from ?_) rfl
  refine sqN (δ2 := [some (.int 4), some a, some b, some c, some (.exn "BadLine" [("at", a)]), some (.lst [a]), none, none]) (asgE (ifeT (by kernel_rfl) (fnE (aS rfl (aS (va rfl ha.clo) (aS (va rfl hb.clo) (a1 (va rfl hc.clo))))) ((c_gkw_law_first_4).trans (first_4 ha hb hc)))) rfl) ?_
  refine sqN (δ2 := [some (.int 4), some a, some b, some c, some (.exn "BadLine" [("at", a)]), some (.lst [a]), some (.lst [a]), none]) (setE (ifeT (by kernel_rfl) (fnE (aS rfl (a1 rfl)) ((c_gkw_law_first_told_2).trans (told_4 ha hb hc))))) ?_
  refine sqN (ifF (orT (testE (binE rfl rfl sm)) (testE (binE (biE (a1 rfl) (ht S)) (biE (a1 rfl) (ht S)) nes))) rfl) ?_
  refine sqN (ifF (orT (testE (binE (fnE (a1 rfl) (c_gkw_law_under_1.trans under_4)) comp_4 (by kernel_rfl))) (testE (binE (y := .bl true) (biE (aS rfl (a1 rfl)) is_4_AsBeforeError) (by kernel_rfl) (by kernel_rfl)))) rfl) ?_
  refine sqN (ifF (orT (testE (binE (y := .bl true) (biE (aS rfl (a1 rfl)) is_4_ValueError) (by kernel_rfl) (by kernel_rfl))) (testE (binE (y := .bl false) (biE (aS rfl (a1 rfl)) is_4_LookupError) (by kernel_rfl) (by kernel_rfl)))) rfl) ?_
  exact retE (andE (binE (y := .bl false) (biE (aS rfl (a1 rfl)) is_4_RuntimeError) (by kernel_rfl) (by kernel_rfl)) (notE (biE (aS rfl (a1 (tupE (aS rfl (a1 rfl)) (Nat.le_of_ble_eq_true rfl)))) is_4_two)))
theorem first_5 {n : Nat} {a b c : D} {S : Store} (ha : Vv a) (hb : Vv b) (hc : Vv c) : m_law_first n [.int 5, a, b, c] S = .ok (.tup [.exn "BadGuard" [("name", a)], .lst [a]]) S := pure_ret rfl (show d_law_first S.length [some (.int 5), some a, some b, some c] S = .rt (.tup [.exn "BadGuard" [("name", a)], .lst [a]]) S from (sqN (ifF (by kernel_rfl) rfl) (sqN (ifF (by kernel_rfl) rfl) (sqN (ifF (by kernel_rfl) rfl) (sqN (ifF (by kernel_rfl) rfl) (sqN (ifF (by kernel_rfl) rfl) (sqR (ifT (by kernel_rfl) (retE (tupE (aS (mkx_eq nilE (a1 (va rfl ha.clo)) ⟨⟨rfl, rfl⟩, rfl, Nat.le_of_ble_eq_true rfl⟩) (a1 (lstE (a1 (va rfl ha.clo)) (Nat.le_of_ble_eq_true rfl)))) (Nat.le_of_ble_eq_true rfl))))))))))) (by simp only [low, lowL, lowF, ha.low, hb.low, hc.low, Bool.and_self])
theorem told_5 {n : Nat} {a b c : D} {S : Store} (ha : Vv a) (hb : Vv b) (hc : Vv c) : m_law_first_told n [.int 5, .exn "BadGuard" [("name", a)]] S = .ok (.lst [a]) S := pure_ret rfl (show d_law_first_told S.length [some (.int 5), some (.exn "BadGuard" [("name", a)])] S = .rt (.lst [a]) S by kernel_rfl) (by simp only [low, lowL, ha.low, hb.low, hc.low, Bool.and_self])
theorem under_5 {n : Nat} {fs : List (String × D)} {S : Store} : m_law_under n [.exn "BadGuard" fs] S = .ok (.lst [.bl false, .bl false, .bl false, .bl false, .bl false, .bl true, .bl false, .bl false, .bl false, .bl false, .bl false, .bl false, .bl false, .bl false, .bl false, .bl false, .bl false, .bl false, .bl false, .bl false, .bl false, .bl false]) S := pure_ret rfl (show d_law_under S.length [some (.exn "BadGuard" fs), none] S = .rt (.lst [.bl false, .bl false, .bl false, .bl false, .bl false, .bl true, .bl false, .bl false, .bl false, .bl false, .bl false, .bl false, .bl false, .bl false, .bl false, .bl false, .bl false, .bl false, .bl false, .bl false, .bl false, .bl false]) S by kernel_rfl) rfl
theorem comp_5 {n : Nat} {o1 o2 o3 o4 o5 o6 o7 : Option D} {S : Store} : dLc [7] (gN 7) (iR1 (aCons (dC (.int 22)) aNil)) tYesD e_law_right_1 n [some (.int 5), o1, o2, o3, o4, o5, o6, o7] S = .ok (.lst [.bl false, .bl false, .bl false, .bl false, .bl false, .bl true, .bl false, .bl false, .bl false, .bl false, .bl false, .bl false, .bl false, .bl false, .bl false, .bl false, .bl false, .bl false, .bl false, .bl false, .bl false, .bl false]) S := by kernel_rfl
theorem is_5_AsBeforeError {fs : List (String × D)} {S : Store} : bIsG isT isE [.exn "BadGuard" fs, .glo "AsBeforeError"] S = .ok (.bl true) S := by kernel_rfl
theorem is_5_ValueError {fs : List (String × D)} {S : Store} : bIsG isT isE [.exn "BadGuard" fs, .ty "ValueError"] S = .ok (.bl true) S := by kernel_rfl
theorem is_5_LookupError {fs : List (String × D)} {S : Store} : bIsG isT isE [.exn "BadGuard" fs, .ty "LookupError"] S = .ok (.bl false) S := by kernel_rfl
theorem is_5_RuntimeError {fs : List (String × D)} {S : Store} : bIsG isT isE [.exn "BadGuard" fs, .ty "RuntimeError"] S = .ok (.bl false) S := by kernel_rfl
theorem is_5_two {fs : List (String × D)} {S : Store} : bIsG isT isE [.exn "BadGuard" fs, .tup [.ty "KeyError", .ty "IndexError"]] S = .ok (.bl false) S := by kernel_rfl
theorem right_5 {n : Nat} {a b c : D} {S : Store} (ha : Vv a) (hb : Vv b) (hc : Vv c) : m_law_right n [.int 5, a, b, c] S = .ok (.bl true) S := by
  obtain ⟨t, ht⟩ := reprs (ds := [a]) (Nat.le_of_ble_eq_true rfl) (by intro d hd; simp only [List.mem_cons, List.not_mem_nil, or_false] at hd; first | (rcases hd with rfl | rfl | rfl | rfl <;> assumption) | (rcases hd with rfl | rfl | rfl <;> assumption) | (rcases hd with rfl | rfl <;> assumption) | (subst hd; assumption))
  have sm : uNeX (.lst [a]) (.lst [a]) S = .ok (.bl false) S := sames (by intro d hd; simp only [List.mem_cons, List.not_mem_nil, or_false] at hd; first | (rcases hd with rfl | rfl | rfl | rfl <;> assumption) | (rcases hd with rfl | rfl | rfl <;> assumption) | (rcases hd with rfl | rfl <;> assumption) | (subst hd; assumption))
  refine pure_ret rfl (show d_law_right S.length [some (.int 5), some a, some b, some c, none, none, none, none] S = .rt (.bl true) S from ?_) rfl
  refine sqN (δ2 := [some (.int 5), some a, some b, some c, some (.exn "BadGuard" [("name", a)]), some (.lst [a]), none, none]) (asgE (ifeT (by kernel_rfl) (fnE (aS rfl (aS (va rfl ha.clo) (aS (va rfl hb.clo) (a1 (va rfl hc.clo))))) ((c_gkw_law_first_4).trans (first_5 ha hb hc)))) rfl) ?_
  refine sqN (δ2 := [some (.int 5), some a, some b, some c, some (.exn "BadGuard" [("name", a)]), some (.lst [a]), some (.lst [a]), none]) (setE (ifeT (by kernel_rfl) (fnE (aS rfl (a1 rfl)) ((c_gkw_law_first_told_2).trans (told_5 ha hb hc))))) ?_
  refine sqN (ifF (orT (testE (binE rfl rfl sm)) (testE (binE (biE (a1 rfl) (ht S)) (biE (a1 rfl) (ht S)) nes))) rfl) ?_
  refine sqN (ifF (orT (testE (binE (fnE (a1 rfl) (c_gkw_law_under_1.trans under_5)) comp_5 (by kernel_rfl))) (testE (binE (y := .bl true) (biE (aS rfl (a1 rfl)) is_5_AsBeforeError) (by kernel_rfl) (by kernel_rfl)))) rfl) ?_
  refine sqN (ifF (orT (testE (binE (y := .bl true) (biE (aS rfl (a1 rfl)) is_5_ValueError) (by kernel_rfl) (by kernel_rfl))) (testE (binE (y := .bl false) (biE (aS rfl (a1 rfl)) is_5_LookupError) (by kernel_rfl) (by kernel_rfl)))) rfl) ?_
  exact retE (andE (binE (y := .bl false) (biE (aS rfl (a1 rfl)) is_5_RuntimeError) (by kernel_rfl) (by kernel_rfl)) (notE (biE (aS rfl (a1 (tupE (aS rfl (a1 rfl)) (Nat.le_of_ble_eq_true rfl)))) is_5_two)))
theorem first_6 {n : Nat} {a b c : D} {S : Store} (ha : Vv a) (hb : Vv b) (hc : Vv c) : m_law_first n [.int 6, a, b, c] S = .ok (.tup [.exn "Nested" [("name", a)], .lst [a]]) S := pure_ret rfl (show d_law_first S.length [some (.int 6), some a, some b, some c] S = .rt (.tup [.exn "Nested" [("name", a)], .lst [a]]) S from (sqN (ifF (by kernel_rfl) rfl) (sqN (ifF (by kernel_rfl) rfl) (sqN (ifF (by kernel_rfl) rfl) (sqN (ifF (by kernel_rfl) rfl) (sqN (ifF (by kernel_rfl) rfl) (sqN (ifF (by kernel_rfl) rfl) (sqR (ifT (by kernel_rfl) (retE (tupE (aS (mkx_eq (a1 (va rfl ha.clo)) nilE ⟨⟨rfl, rfl⟩, rfl, Nat.le_of_ble_eq_true rfl⟩) (a1 (lstE (a1 (va rfl ha.clo)) (Nat.le_of_ble_eq_true rfl)))) (Nat.le_of_ble_eq_true rfl)))))))))))) (by simp only [low, lowL, lowF, ha.low, hb.low, hc.low, Bool.and_self])
theorem told_6 {n : Nat} {a b c : D} {S : Store} (ha : Vv a) (hb : Vv b) (hc : Vv c) : m_law_first_told n [.int 6, .exn "Nested" [("name", a)]] S = .ok (.lst [a]) S := pure_ret rfl (show d_law_first_told S.length [some (.int 6), some (.exn "Nested" [("name", a)])] S = .rt (.lst [a]) S by kernel_rfl) (by simp only [low, lowL, ha.low, hb.low, hc.low, Bool.and_self])
theorem under_6 {n : Nat} {fs : List (String × D)} {S : Store} : m_law_under n [.exn "Nested" fs] S = .ok (.lst [.bl false, .bl false, .bl false, .bl false, .bl false, .bl false, .bl true, .bl false, .bl false, .bl false, .bl false, .bl false, .bl false, .bl false, .bl false, .bl false, .bl false, .bl false, .bl false, .bl false, .bl false, .bl false]) S := pure_ret rfl (show d_law_under S.length [some (.exn "Nested" fs), none] S = .rt (.lst [.bl false, .bl false, .bl false, .bl false, .bl false, .bl false, .bl true, .bl false, .bl false, .bl false, .bl false, .bl false, .bl false, .bl false, .bl false, .bl false, .bl false, .bl false, .bl false, .bl false, .bl false, .bl false]) S by kernel_rfl) rfl
theorem comp_6 {n : Nat} {o1 o2 o3 o4 o5 o6 o7 : Option D} {S : Store} : dLc [7] (gN 7) (iR1 (aCons (dC (.int 22)) aNil)) tYesD e_law_right_1 n [some (.int 6), o1, o2, o3, o4, o5, o6, o7] S = .ok (.lst [.bl false, .bl false, .bl false, .bl false, .bl false, .bl false, .bl true, .bl false, .bl false, .bl false, .bl false, .bl false, .bl false, .bl false, .bl false, .bl false, .bl false, .bl false, .bl false, .bl false, .bl false, .bl false]) S := by kernel_rfl
theorem is_6_AsBeforeError {fs : List (String × D)} {S : Store} : bIsG isT isE [.exn "Nested" fs, .glo "AsBeforeError"] S = .ok (.bl true) S := by kernel_rfl
theorem is_6_ValueError {fs : List (String × D)} {S : Store} : bIsG isT isE [.exn "Nested" fs, .ty "ValueError"] S = .ok (.bl true) S := by kernel_rfl
theorem is_6_LookupError {fs : List (String × D)} {S : Store} : bIsG isT isE [.exn "Nested" fs, .ty "LookupError"] S = .ok (.bl false) S := by kernel_rfl
theorem is_6_RuntimeError {fs : List (String × D)} {S : Store} : bIsG isT isE [.exn "Nested" fs, .ty "RuntimeError"] S = .ok (.bl false) S := by kernel_rfl
theorem is_6_two {fs : List (String × D)} {S : Store} : bIsG isT isE [.exn "Nested" fs, .tup [.ty "KeyError", .ty "IndexError"]] S = .ok (.bl false) S := by kernel_rfl
theorem right_6 {n : Nat} {a b c : D} {S : Store} (ha : Vv a) (hb : Vv b) (hc : Vv c) : m_law_right n [.int 6, a, b, c] S = .ok (.bl true) S := by
  obtain ⟨t, ht⟩ := reprs (ds := [a]) (Nat.le_of_ble_eq_true rfl) (by intro d hd; simp only [List.mem_cons, List.not_mem_nil, or_false] at hd; first | (rcases hd with rfl | rfl | rfl | rfl <;> assumption) | (rcases hd with rfl | rfl | rfl <;> assumption) | (rcases hd with rfl | rfl <;> assumption) | (subst hd; assumption))
  have sm : uNeX (.lst [a]) (.lst [a]) S = .ok (.bl false) S := sames (by intro d hd; simp only [List.mem_cons, List.not_mem_nil, or_false] at hd; first | (rcases hd with rfl | rfl | rfl | rfl <;> assumption) | (rcases hd with rfl | rfl | rfl <;> assumption) | (rcases hd with rfl | rfl <;> assumption) | (subst hd; assumption))
  refine pure_ret rfl (show d_law_right S.length [some (.int 6), some a, some b, some c, none, none, none, none] S = .rt (.bl true) S from ?_) rfl
  refine sqN (δ2 := [some (.int 6), some a, some b, some c, some (.exn "Nested" [("name", a)]), some (.lst [a]), none, none]) (asgE (ifeT (by kernel_rfl) (fnE (aS rfl (aS (va rfl ha.clo) (aS (va rfl hb.clo) (a1 (va rfl hc.clo))))) ((c_gkw_law_first_4).trans (first_6 ha hb hc)))) rfl) ?_
  refine sqN (δ2 := [some (.int 6), some a, some b, some c, some (.exn "Nested" [("name", a)]), some (.lst [a]), some (.lst [a]), none]) (setE (ifeT (by kernel_rfl) (fnE (aS rfl (a1 rfl)) ((c_gkw_law_first_told_2).trans (told_6 ha hb hc))))) ?_
  refine sqN (ifF (orT (testE (binE rfl rfl sm)) (testE (binE (biE (a1 rfl) (ht S)) (biE (a1 rfl) (ht S)) nes))) rfl) ?_
  refine sqN (ifF (orT (testE (binE (fnE (a1 rfl) (c_gkw_law_under_1.trans under_6)) comp_6 (by kernel_rfl))) (testE (binE (y := .bl true) (biE (aS rfl (a1 rfl)) is_6_AsBeforeError) (by kernel_rfl) (by kernel_rfl)))) rfl) ?_
  refine sqN (ifF (orT (testE (binE (y := .bl true) (biE (aS rfl (a1 rfl)) is_6_ValueError) (by kernel_rfl) (by kernel_rfl))) (testE (binE (y := .bl false) (biE (aS rfl (a1 rfl)) is_6_LookupError) (by kernel_rfl) (by kernel_rfl)))) rfl) ?_
  exact retE (andE (binE (y := .bl false) (biE (aS rfl (a1 rfl)) is_6_RuntimeError) (by kernel_rfl) (by kernel_rfl)) (notE (biE (aS rfl (a1 (tupE (aS rfl (a1 rfl)) (Nat.le_of_ble_eq_true rfl)))) is_6_two)))
theorem first_7 {n : Nat} {a b c : D} {S : Store} (ha : Vv a) (hb : Vv b) (hc : Vv c) : m_law_first n [.int 7, a, b, c] S = .ok (.tup [.exn "TooMany" [("what", a)], .lst [a]]) S := pure_ret rfl (show d_law_first S.length [some (.int 7), some a, some b, some c] S = .rt (.tup [.exn "TooMany" [("what", a)], .lst [a]]) S from (sqN (ifF (by kernel_rfl) rfl) (sqN (ifF (by kernel_rfl) rfl) (sqN (ifF (by kernel_rfl) rfl) (sqN (ifF (by kernel_rfl) rfl) (sqN (ifF (by kernel_rfl) rfl) (sqN (ifF (by kernel_rfl) rfl) (sqN (ifF (by kernel_rfl) rfl) (sqR (ifT (by kernel_rfl) (retE (tupE (aS (mkx_eq nilE (a1 (va rfl ha.clo)) ⟨⟨rfl, rfl⟩, rfl, Nat.le_of_ble_eq_true rfl⟩) (a1 (lstE (a1 (va rfl ha.clo)) (Nat.le_of_ble_eq_true rfl)))) (Nat.le_of_ble_eq_true rfl))))))))))))) (by simp only [low, lowL, lowF, ha.low, hb.low, hc.low, Bool.and_self])
theorem told_7 {n : Nat} {a b c : D} {S : Store} (ha : Vv a) (hb : Vv b) (hc : Vv c) : m_law_first_told n [.int 7, .exn "TooMany" [("what", a)]] S = .ok (.lst [a]) S := pure_ret rfl (show d_law_first_told S.length [some (.int 7), some (.exn "TooMany" [("what", a)])] S = .rt (.lst [a]) S by kernel_rfl) (by simp only [low, lowL, ha.low, hb.low, hc.low, Bool.and_self])
theorem under_7 {n : Nat} {fs : List (String × D)} {S : Store} : m_law_under n [.exn "TooMany" fs] S = .ok (.lst [.bl false, .bl false, .bl false, .bl false, .bl false, .bl false, .bl false, .bl true, .bl false, .bl false, .bl false, .bl false, .bl false, .bl false, .bl false, .bl false, .bl false, .bl false, .bl false, .bl false, .bl false, .bl false]) S := pure_ret rfl (show d_law_under S.length [some (.exn "TooMany" fs), none] S = .rt (.lst [.bl false, .bl false, .bl false, .bl false, .bl false, .bl false, .bl false, .bl true, .bl false, .bl false, .bl false, .bl false, .bl false, .bl false, .bl false, .bl false, .bl false, .bl false, .bl false, .bl false, .bl false, .bl false]) S by kernel_rfl) rfl
theorem comp_7 {n : Nat} {o1 o2 o3 o4 o5 o6 o7 : Option D} {S : Store} : dLc [7] (gN 7) (iR1 (aCons (dC (.int 22)) aNil)) tYesD e_law_right_1 n [some (.int 7), o1, o2, o3, o4, o5, o6, o7] S = .ok (.lst [.bl false, .bl false, .bl false, .bl false, .bl false, .bl false, .bl false, .bl true, .bl false, .bl false, .bl false, .bl false, .bl false, .bl false, .bl false, .bl false, .bl false, .bl false, .bl false, .bl false, .bl false, .bl false]) S := by kernel_rfl
theorem is_7_AsBeforeError {fs : List (String × D)} {S : Store} : bIsG isT isE [.exn "TooMany" fs, .glo "AsBeforeError"] S = .ok (.bl true) S := by kernel_rfl
theorem is_7_ValueError {fs : List (String × D)} {S : Store} : bIsG isT isE [.exn "TooMany" fs, .ty "ValueError"] S = .ok (.bl true) S := by kernel_rfl
theorem is_7_LookupError {fs : List (String × D)} {S : Store} : bIsG isT isE [.exn "TooMany" fs, .ty "LookupError"] S = .ok (.bl false) S := by kernel_rfl
theorem is_7_RuntimeError {fs : List (String × D)} {S : Store} : bIsG isT isE [.exn "TooMany" fs, .ty "RuntimeError"] S = .ok (.bl false) S := by kernel_rfl
theorem is_7_two {fs : List (String × D)} {S : Store} : bIsG isT isE [.exn "TooMany" fs, .tup [.ty "KeyError", .ty "IndexError"]] S = .ok (.bl false) S := by kernel_rfl
theorem right_7 {n : Nat} {a b c : D} {S : Store} (ha : Vv a) (hb : Vv b) (hc : Vv c) : m_law_right n [.int 7, a, b, c] S = .ok (.bl true) S := by
  obtain ⟨t, ht⟩ := reprs (ds := [a]) (Nat.le_of_ble_eq_true rfl) (by intro d hd; simp only [List.mem_cons, List.not_mem_nil, or_false] at hd; first | (rcases hd with rfl | rfl | rfl | rfl <;> assumption) | (rcases hd with rfl | rfl | rfl <;> assumption) | (rcases hd with rfl | rfl <;> assumption) | (subst hd; assumption))
  have sm : uNeX (.lst [a]) (.lst [a]) S = .ok (.bl false) S := sames (by intro d hd; simp only [List.mem_cons, List.not_mem_nil, or_false] at hd; first | (rcases hd with rfl | rfl | rfl | rfl <;> assumption) | (rcases hd with rfl | rfl | rfl <;> assumption) | (rcases hd with rfl | rfl <;> assumption) | (subst hd; assumption))
  refine pure_ret rfl (show d_law_right S.length [some (.int 7), some a, some b, some c, none, none, none, none] S = .rt (.bl true) S from ?_) rfl
  refine sqN (δ2 := [some (.int 7), some a, some b, some c, some (.exn "TooMany" [("what", a)]), some (.lst [a]), none, none]) (asgE (ifeT (by kernel_rfl) (fnE (aS rfl (aS (va rfl ha.clo) (aS (va rfl hb.clo) (a1 (va rfl hc.clo))))) ((c_gkw_law_first_4).trans (first_7 ha hb hc)))) rfl) ?_
  refine sqN (δ2 := [some (.int 7), some a, some b, some c, some (.exn "TooMany" [("what", a)]), some (.lst [a]), some (.lst [a]), none]) (setE (ifeT (by kernel_rfl) (fnE (aS rfl (a1 rfl)) ((c_gkw_law_first_told_2).trans (told_7 ha hb hc))))) ?_
  refine sqN (ifF (orT (testE (binE rfl rfl sm)) (testE (binE (biE (a1 rfl) (ht S)) (biE (a1 rfl) (ht S)) nes))) rfl) ?_
  refine sqN (ifF (orT (testE (binE (fnE (a1 rfl) (c_gkw_law_under_1.trans under_7)) comp_7 (by kernel_rfl))) (testE (binE (y := .bl true) (biE (aS rfl (a1 rfl)) is_7_AsBeforeError) (by kernel_rfl) (by kernel_rfl)))) rfl) ?_
  refine sqN (ifF (orT (testE (binE (y := .bl true) (biE (aS rfl (a1 rfl)) is_7_ValueError) (by kernel_rfl) (by kernel_rfl))) (testE (binE (y := .bl false) (biE (aS rfl (a1 rfl)) is_7_LookupError) (by kernel_rfl) (by kernel_rfl)))) rfl) ?_
  exact retE (andE (binE (y := .bl false) (biE (aS rfl (a1 rfl)) is_7_RuntimeError) (by kernel_rfl) (by kernel_rfl)) (notE (biE (aS rfl (a1 (tupE (aS rfl (a1 rfl)) (Nat.le_of_ble_eq_true rfl)))) is_7_two)))
theorem first_8 {n : Nat} {a b c : D} {S : Store} (ha : Vv a) (hb : Vv b) (hc : Vv c) : m_law_first n [.int 8, a, b, c] S = .ok (.tup [.exn "OtherBoard" [], .lst []]) S := pure_ret rfl (show d_law_first S.length [some (.int 8), some a, some b, some c] S = .rt (.tup [.exn "OtherBoard" [], .lst []]) S from (sqN (ifF (by kernel_rfl) rfl) (sqN (ifF (by kernel_rfl) rfl) (sqN (ifF (by kernel_rfl) rfl) (sqN (ifF (by kernel_rfl) rfl) (sqN (ifF (by kernel_rfl) rfl) (sqN (ifF (by kernel_rfl) rfl) (sqN (ifF (by kernel_rfl) rfl) (sqN (ifF (by kernel_rfl) rfl) (sqR (ifT (by kernel_rfl) (retE (tupE (aS rfl (a1 (lstE nilE (Nat.le_of_ble_eq_true rfl)))) (Nat.le_of_ble_eq_true rfl)))))))))))))) (by simp only [low, lowL, lowF, ha.low, hb.low, hc.low, Bool.and_self])
theorem told_8 {n : Nat} {a b c : D} {S : Store} (ha : Vv a) (hb : Vv b) (hc : Vv c) : m_law_first_told n [.int 8, .exn "OtherBoard" []] S = .ok (.lst []) S := pure_ret rfl (show d_law_first_told S.length [some (.int 8), some (.exn "OtherBoard" [])] S = .rt (.lst []) S by kernel_rfl) (by simp only [low, lowL, ha.low, hb.low, hc.low, Bool.and_self])
theorem under_8 {n : Nat} {fs : List (String × D)} {S : Store} : m_law_under n [.exn "OtherBoard" fs] S = .ok (.lst [.bl false, .bl false, .bl false, .bl false, .bl false, .bl false, .bl false, .bl false, .bl true, .bl false, .bl false, .bl false, .bl false, .bl false, .bl false, .bl false, .bl false, .bl false, .bl false, .bl false, .bl false, .bl false]) S := pure_ret rfl (show d_law_under S.length [some (.exn "OtherBoard" fs), none] S = .rt (.lst [.bl false, .bl false, .bl false, .bl false, .bl false, .bl false, .bl false, .bl false, .bl true, .bl false, .bl false, .bl false, .bl false, .bl false, .bl false, .bl false, .bl false, .bl false, .bl false, .bl false, .bl false, .bl false]) S by kernel_rfl) rfl
theorem comp_8 {n : Nat} {o1 o2 o3 o4 o5 o6 o7 : Option D} {S : Store} : dLc [7] (gN 7) (iR1 (aCons (dC (.int 22)) aNil)) tYesD e_law_right_1 n [some (.int 8), o1, o2, o3, o4, o5, o6, o7] S = .ok (.lst [.bl false, .bl false, .bl false, .bl false, .bl false, .bl false, .bl false, .bl false, .bl true, .bl false, .bl false, .bl false, .bl false, .bl false, .bl false, .bl false, .bl false, .bl false, .bl false, .bl false, .bl false, .bl false]) S := by kernel_rfl
theorem is_8_AsBeforeError {fs : List (String × D)} {S : Store} : bIsG isT isE [.exn "OtherBoard" fs, .glo "AsBeforeError"] S = .ok (.bl true) S := by kernel_rfl
theorem is_8_ValueError {fs : List (String × D)} {S : Store} : bIsG isT isE [.exn "OtherBoard" fs, .ty "ValueError"] S = .ok (.bl true) S := by kernel_rfl
theorem is_8_LookupError {fs : List (String × D)} {S : Store} : bIsG isT isE [.exn "OtherBoard" fs, .ty "LookupError"] S = .ok (.bl false) S := by kernel_rfl
theorem is_8_RuntimeError {fs : List (String × D)} {S : Store} : bIsG isT isE [.exn "OtherBoard" fs, .ty "RuntimeError"] S = .ok (.bl false) S := by kernel_rfl
theorem is_8_two {fs : List (String × D)} {S : Store} : bIsG isT isE [.exn "OtherBoard" fs, .tup [.ty "KeyError", .ty "IndexError"]] S = .ok (.bl false) S := by kernel_rfl
theorem right_8 {n : Nat} {a b c : D} {S : Store} (ha : Vv a) (hb : Vv b) (hc : Vv c) : m_law_right n [.int 8, a, b, c] S = .ok (.bl true) S := by
  obtain ⟨t, ht⟩ := reprs (ds := []) (Nat.le_of_ble_eq_true rfl) (fun d hd => nomatch hd)
  have sm : uNeX (.lst []) (.lst []) S = .ok (.bl false) S := sames (fun d hd => nomatch hd)
  refine pure_ret rfl (show d_law_right S.length [some (.int 8), some a, some b, some c, none, none, none, none] S = .rt (.bl true) S from ?_) rfl
  refine sqN (δ2 := [some (.int 8), some a, some b, some c, some (.exn "OtherBoard" []), some (.lst []), none, none]) (asgE (ifeT (by kernel_rfl) (fnE (aS rfl (aS (va rfl ha.clo) (aS (va rfl hb.clo) (a1 (va rfl hc.clo))))) ((c_gkw_law_first_4).trans (first_8 ha hb hc)))) rfl) ?_
  refine sqN (δ2 := [some (.int 8), some a, some b, some c, some (.exn "OtherBoard" []), some (.lst []), some (.lst []), none]) (setE (ifeT (by kernel_rfl) (fnE (aS rfl (a1 rfl)) ((c_gkw_law_first_told_2).trans (told_8 ha hb hc))))) ?_
  refine sqN (ifF (orT (testE (binE rfl rfl sm)) (testE (binE (biE (a1 rfl) (ht S)) (biE (a1 rfl) (ht S)) nes))) rfl) ?_
  refine sqN (ifF (orT (testE (binE (fnE (a1 rfl) (c_gkw_law_under_1.trans under_8)) comp_8 (by kernel_rfl))) (testE (binE (y := .bl true) (biE (aS rfl (a1 rfl)) is_8_AsBeforeError) (by kernel_rfl) (by kernel_rfl)))) rfl) ?_
  refine sqN (ifF (orT (testE (binE (y := .bl true) (biE (aS rfl (a1 rfl)) is_8_ValueError) (by kernel_rfl) (by kernel_rfl))) (testE (binE (y := .bl false) (biE (aS rfl (a1 rfl)) is_8_LookupError) (by kernel_rfl) (by kernel_rfl)))) rfl) ?_
  exact retE (andE (binE (y := .bl false) (biE (aS rfl (a1 rfl)) is_8_RuntimeError) (by kernel_rfl) (by kernel_rfl)) (notE (biE (aS rfl (a1 (tupE (aS rfl (a1 rfl)) (Nat.le_of_ble_eq_true rfl)))) is_8_two)))
theorem first_9 {n : Nat} {a b c : D} {S : Store} (ha : Vv a) (hb : Vv b) (hc : Vv c) : m_law_first n [.int 9, a, b, c] S = .ok (.tup [.exn "OpenFlow" [("place", a)], .lst [a]]) S := pure_ret rfl (show d_law_first S.length [some (.int 9), some a, some b, some c] S = .rt (.tup [.exn "OpenFlow" [("place", a)], .lst [a]]) S from (sqN (ifF (by kernel_rfl) rfl) (sqN (ifF (by kernel_rfl) rfl) (sqN (ifF (by kernel_rfl) rfl) (sqN (ifF (by kernel_rfl) rfl) (sqN (ifF (by kernel_rfl) rfl) (sqN (ifF (by kernel_rfl) rfl) (sqN (ifF (by kernel_rfl) rfl) (sqN (ifF (by kernel_rfl) rfl) (sqN (ifF (by kernel_rfl) rfl) (sqR (ifT (by kernel_rfl) (retE (tupE (aS (mkx_eq nilE (a1 (va rfl ha.clo)) ⟨⟨rfl, rfl⟩, rfl, Nat.le_of_ble_eq_true rfl⟩) (a1 (lstE (a1 (va rfl ha.clo)) (Nat.le_of_ble_eq_true rfl)))) (Nat.le_of_ble_eq_true rfl))))))))))))))) (by simp only [low, lowL, lowF, ha.low, hb.low, hc.low, Bool.and_self])
theorem told_9 {n : Nat} {a b c : D} {S : Store} (ha : Vv a) (hb : Vv b) (hc : Vv c) : m_law_first_told n [.int 9, .exn "OpenFlow" [("place", a)]] S = .ok (.lst [a]) S := pure_ret rfl (show d_law_first_told S.length [some (.int 9), some (.exn "OpenFlow" [("place", a)])] S = .rt (.lst [a]) S by kernel_rfl) (by simp only [low, lowL, ha.low, hb.low, hc.low, Bool.and_self])
theorem under_9 {n : Nat} {fs : List (String × D)} {S : Store} : m_law_under n [.exn "OpenFlow" fs] S = .ok (.lst [.bl false, .bl false, .bl false, .bl false, .bl false, .bl false, .bl false, .bl false, .bl false, .bl true, .bl false, .bl false, .bl false, .bl false, .bl false, .bl false, .bl false, .bl false, .bl false, .bl false, .bl false, .bl false]) S := pure_ret rfl (show d_law_under S.length [some (.exn "OpenFlow" fs), none] S = .rt (.lst [.bl false, .bl false, .bl false, .bl false, .bl false, .bl false, .bl false, .bl false, .bl false, .bl true, .bl false, .bl false, .bl false, .bl false, .bl false, .bl false, .bl false, .bl false, .bl false, .bl false, .bl false, .bl false]) S by kernel_rfl) rfl
theorem comp_9 {n : Nat} {o1 o2 o3 o4 o5 o6 o7 : Option D} {S : Store} : dLc [7] (gN 7) (iR1 (aCons (dC (.int 22)) aNil)) tYesD e_law_right_1 n [some (.int 9), o1, o2, o3, o4, o5, o6, o7] S = .ok (.lst [.bl false, .bl false, .bl false, .bl false, .bl false, .bl false, .bl false, .bl false, .bl false, .bl true, .bl false, .bl false, .bl false, .bl false, .bl false, .bl false, .bl false, .bl false, .bl false, .bl false, .bl false, .bl false]) S := by kernel_rfl
theorem is_9_AsBeforeError {fs : List (String × D)} {S : Store} : bIsG isT isE [.exn "OpenFlow" fs, .glo "AsBeforeError"] S = .ok (.bl true) S := by kernel_rfl
theorem is_9_ValueError {fs : List (String × D)} {S : Store} : bIsG isT isE [.exn "OpenFlow" fs, .ty "ValueError"] S = .ok (.bl true) S := by kernel_rfl
theorem is_9_LookupError {fs : List (String × D)} {S : Store} : bIsG isT isE [.exn "OpenFlow" fs, .ty "LookupError"] S = .ok (.bl false) S := by kernel_rfl
theorem is_9_RuntimeError {fs : List (String × D)} {S : Store} : bIsG isT isE [.exn "OpenFlow" fs, .ty "RuntimeError"] S = .ok (.bl false) S := by kernel_rfl
theorem is_9_two {fs : List (String × D)} {S : Store} : bIsG isT isE [.exn "OpenFlow" fs, .tup [.ty "KeyError", .ty "IndexError"]] S = .ok (.bl false) S := by kernel_rfl
theorem right_9 {n : Nat} {a b c : D} {S : Store} (ha : Vv a) (hb : Vv b) (hc : Vv c) : m_law_right n [.int 9, a, b, c] S = .ok (.bl true) S := by
  obtain ⟨t, ht⟩ := reprs (ds := [a]) (Nat.le_of_ble_eq_true rfl) (by intro d hd; simp only [List.mem_cons, List.not_mem_nil, or_false] at hd; first | (rcases hd with rfl | rfl | rfl | rfl <;> assumption) | (rcases hd with rfl | rfl | rfl <;> assumption) | (rcases hd with rfl | rfl <;> assumption) | (subst hd; assumption))
  have sm : uNeX (.lst [a]) (.lst [a]) S = .ok (.bl false) S := sames (by intro d hd; simp only [List.mem_cons, List.not_mem_nil, or_false] at hd; first | (rcases hd with rfl | rfl | rfl | rfl <;> assumption) | (rcases hd with rfl | rfl | rfl <;> assumption) | (rcases hd with rfl | rfl <;> assumption) | (subst hd; assumption))
  refine pure_ret rfl (show d_law_right S.length [some (.int 9), some a, some b, some c, none, none, none, none] S = .rt (.bl true) S from ?_) rfl
  refine sqN (δ2 := [some (.int 9), some a, some b, some c, some (.exn "OpenFlow" [("place", a)]), some (.lst [a]), none, none]) (asgE (ifeT (by kernel_rfl) (fnE (aS rfl (aS (va rfl ha.clo) (aS (va rfl hb.clo) (a1 (va rfl hc.clo))))) ((c_gkw_law_first_4).trans (first_9 ha hb hc)))) rfl) ?_
  refine sqN (δ2 := [some (.int 9), some a, some b, some c, some (.exn "OpenFlow" [("place", a)]), some (.lst [a]), some (.lst [a]), none]) (setE (ifeT (by kernel_rfl) (fnE (aS rfl (a1 rfl)) ((c_gkw_law_first_told_2).trans (told_9 ha hb hc))))) ?_
  refine sqN (ifF (orT (testE (binE rfl rfl sm)) (testE (binE (biE (a1 rfl) (ht S)) (biE (a1 rfl) (ht S)) nes))) rfl) ?_
  refine sqN (ifF (orT (testE (binE (fnE (a1 rfl) (c_gkw_law_under_1.trans under_9)) comp_9 (by kernel_rfl))) (testE (binE (y := .bl true) (biE (aS rfl (a1 rfl)) is_9_AsBeforeError) (by kernel_rfl) (by kernel_rfl)))) rfl) ?_
  refine sqN (ifF (orT (testE (binE (y := .bl true) (biE (aS rfl (a1 rfl)) is_9_ValueError) (by kernel_rfl) (by kernel_rfl))) (testE (binE (y := .bl false) (biE (aS rfl (a1 rfl)) is_9_LookupError) (by kernel_rfl) (by kernel_rfl)))) rfl) ?_
  exact retE (andE (binE (y := .bl false) (biE (aS rfl (a1 rfl)) is_9_RuntimeError) (by kernel_rfl) (by kernel_rfl)) (notE (biE (aS rfl (a1 (tupE (aS rfl (a1 rfl)) (Nat.le_of_ble_eq_true rfl)))) is_9_two)))
theorem first_10 {n : Nat} {a b c : D} {S : Store} (ha : Vv a) (hb : Vv b) (hc : Vv c) : m_law_first n [.int 10, a, b, c] S = .ok (.tup [.exn "BadPopulation" [("name", a)], .lst [a]]) S := pure_ret rfl (show d_law_first S.length [some (.int 10), some a, some b, some c] S = .rt (.tup [.exn "BadPopulation" [("name", a)], .lst [a]]) S from (sqN (ifF (by kernel_rfl) rfl) (sqN (ifF (by kernel_rfl) rfl) (sqN (ifF (by kernel_rfl) rfl) (sqN (ifF (by kernel_rfl) rfl) (sqN (ifF (by kernel_rfl) rfl) (sqN (ifF (by kernel_rfl) rfl) (sqN (ifF (by kernel_rfl) rfl) (sqN (ifF (by kernel_rfl) rfl) (sqN (ifF (by kernel_rfl) rfl) (sqN (ifF (by kernel_rfl) rfl) (retE (tupE (aS (mkx_eq (a1 (va rfl ha.clo)) nilE ⟨⟨rfl, rfl⟩, rfl, Nat.le_of_ble_eq_true rfl⟩) (a1 (lstE (a1 (va rfl ha.clo)) (Nat.le_of_ble_eq_true rfl)))) (Nat.le_of_ble_eq_true rfl)))))))))))))) (by simp only [low, lowL, lowF, ha.low, hb.low, hc.low, Bool.and_self])
theorem told_10 {n : Nat} {a b c : D} {S : Store} (ha : Vv a) (hb : Vv b) (hc : Vv c) : m_law_first_told n [.int 10, .exn "BadPopulation" [("name", a)]] S = .ok (.lst [a]) S := pure_ret rfl (show d_law_first_told S.length [some (.int 10), some (.exn "BadPopulation" [("name", a)])] S = .rt (.lst [a]) S by kernel_rfl) (by simp only [low, lowL, ha.low, hb.low, hc.low, Bool.and_self])
theorem under_10 {n : Nat} {fs : List (String × D)} {S : Store} : m_law_under n [.exn "BadPopulation" fs] S = .ok (.lst [.bl false, .bl false, .bl false, .bl false, .bl false, .bl false, .bl false, .bl false, .bl false, .bl false, .bl true, .bl false, .bl false, .bl false, .bl false, .bl false, .bl false, .bl false, .bl false, .bl false, .bl false, .bl false]) S := pure_ret rfl (show d_law_under S.length [some (.exn "BadPopulation" fs), none] S = .rt (.lst [.bl false, .bl false, .bl false, .bl false, .bl false, .bl false, .bl false, .bl false, .bl false, .bl false, .bl true, .bl false, .bl false, .bl false, .bl false, .bl false, .bl false, .bl false, .bl false, .bl false, .bl false, .bl false]) S by kernel_rfl) rfl
theorem comp_10 {n : Nat} {o1 o2 o3 o4 o5 o6 o7 : Option D} {S : Store} : dLc [7] (gN 7) (iR1 (aCons (dC (.int 22)) aNil)) tYesD e_law_right_1 n [some (.int 10), o1, o2, o3, o4, o5, o6, o7] S = .ok (.lst [.bl false, .bl false, .bl false, .bl false, .bl false, .bl false, .bl false, .bl false, .bl false, .bl false, .bl true, .bl false, .bl false, .bl false, .bl false, .bl false, .bl false, .bl false, .bl false, .bl false, .bl false, .bl false]) S := by kernel_rfl
theorem is_10_AsBeforeError {fs : List (String × D)} {S : Store} : bIsG isT isE [.exn "BadPopulation" fs, .glo "AsBeforeError"] S = .ok (.bl true) S := by kernel_rfl
theorem is_10_ValueError {fs : List (String × D)} {S : Store} : bIsG isT isE [.exn "BadPopulation" fs, .ty "ValueError"] S = .ok (.bl true) S := by kernel_rfl
theorem is_10_LookupError {fs : List (String × D)} {S : Store} : bIsG isT isE [.exn "BadPopulation" fs, .ty "LookupError"] S = .ok (.bl false) S := by kernel_rfl
theorem is_10_RuntimeError {fs : List (String × D)} {S : Store} : bIsG isT isE [.exn "BadPopulation" fs, .ty "RuntimeError"] S = .ok (.bl false) S := by kernel_rfl
theorem is_10_two {fs : List (String × D)} {S : Store} : bIsG isT isE [.exn "BadPopulation" fs, .tup [.ty "KeyError", .ty "IndexError"]] S = .ok (.bl false) S := by kernel_rfl
theorem right_10 {n : Nat} {a b c : D} {S : Store} (ha : Vv a) (hb : Vv b) (hc : Vv c) : m_law_right n [.int 10, a, b, c] S = .ok (.bl true) S := by
  obtain ⟨t, ht⟩ := reprs (ds := [a]) (Nat.le_of_ble_eq_true rfl) (by intro d hd; simp only [List.mem_cons, List.not_mem_nil, or_false] at hd; first | (rcases hd with rfl | rfl | rfl | rfl <;> assumption) | (rcases hd with rfl | rfl | rfl <;> assumption) | (rcases hd with rfl | rfl <;> assumption) | (subst hd; assumption))
  have sm : uNeX (.lst [a]) (.lst [a]) S = .ok (.bl false) S := sames (by intro d hd; simp only [List.mem_cons, List.not_mem_nil, or_false] at hd; first | (rcases hd with rfl | rfl | rfl | rfl <;> assumption) | (rcases hd with rfl | rfl | rfl <;> assumption) | (rcases hd with rfl | rfl <;> assumption) | (subst hd; assumption))
  refine pure_ret rfl (show d_law_right S.length [some (.int 10), some a, some b, some c, none, none, none, none] S = .rt (.bl true) S from ?_) rfl
  refine sqN (δ2 := [some (.int 10), some a, some b, some c, some (.exn "BadPopulation" [("name", a)]), some (.lst [a]), none, none]) (asgE (ifeT (by kernel_rfl) (fnE (aS rfl (aS (va rfl ha.clo) (aS (va rfl hb.clo) (a1 (va rfl hc.clo))))) ((c_gkw_law_first_4).trans (first_10 ha hb hc)))) rfl) ?_
  refine sqN (δ2 := [some (.int 10), some a, some b, some c, some (.exn "BadPopulation" [("name", a)]), some (.lst [a]), some (.lst [a]), none]) (setE (ifeT (by kernel_rfl) (fnE (aS rfl (a1 rfl)) ((c_gkw_law_first_told_2).trans (told_10 ha hb hc))))) ?_
  refine sqN (ifF (orT (testE (binE rfl rfl sm)) (testE (binE (biE (a1 rfl) (ht S)) (biE (a1 rfl) (ht S)) nes))) rfl) ?_
  refine sqN (ifF (orT (testE (binE (fnE (a1 rfl) (c_gkw_law_under_1.trans under_10)) comp_10 (by kernel_rfl))) (testE (binE (y := .bl true) (biE (aS rfl (a1 rfl)) is_10_AsBeforeError) (by kernel_rfl) (by kernel_rfl)))) rfl) ?_
  refine sqN (ifF (orT (testE (binE (y := .bl true) (biE (aS rfl (a1 rfl)) is_10_ValueError) (by kernel_rfl) (by kernel_rfl))) (testE (binE (y := .bl false) (biE (aS rfl (a1 rfl)) is_10_LookupError) (by kernel_rfl) (by kernel_rfl)))) rfl) ?_
  exact retE (andE (binE (y := .bl false) (biE (aS rfl (a1 rfl)) is_10_RuntimeError) (by kernel_rfl) (by kernel_rfl)) (notE (biE (aS rfl (a1 (tupE (aS rfl (a1 rfl)) (Nat.le_of_ble_eq_true rfl)))) is_10_two)))
theorem second_11 {n : Nat} {a b c : D} {S : Store} (ha : Vv a) (hb : Vv b) (hc : Vv c) : m_law_second n [.int 11, a, b, c] S = .ok (.tup [.exn "BadOrder" [("order", a)], .lst [a]]) S := pure_ret rfl (show d_law_second S.length [some (.int 11), some a, some b, some c] S = .rt (.tup [.exn "BadOrder" [("order", a)], .lst [a]]) S from (sqR (ifT (by kernel_rfl) (retE (tupE (aS (mkx_eq nilE (a1 (va rfl ha.clo)) ⟨⟨rfl, rfl⟩, rfl, Nat.le_of_ble_eq_true rfl⟩) (a1 (lstE (a1 (va rfl ha.clo)) (Nat.le_of_ble_eq_true rfl)))) (Nat.le_of_ble_eq_true rfl)))))) (by simp only [low, lowL, lowF, ha.low, hb.low, hc.low, Bool.and_self])
theorem told_11 {n : Nat} {a b c : D} {S : Store} (ha : Vv a) (hb : Vv b) (hc : Vv c) : m_law_second_told n [.int 11, .exn "BadOrder" [("order", a)]] S = .ok (.lst [a]) S := pure_ret rfl (show d_law_second_told S.length [some (.int 11), some (.exn "BadOrder" [("order", a)])] S = .rt (.lst [a]) S by kernel_rfl) (by simp only [low, lowL, ha.low, hb.low, hc.low, Bool.and_self])
theorem under_11 {n : Nat} {fs : List (String × D)} {S : Store} : m_law_under n [.exn "BadOrder" fs] S = .ok (.lst [.bl false, .bl false, .bl false, .bl false, .bl false, .bl false, .bl false, .bl false, .bl false, .bl false, .bl false, .bl true, .bl false, .bl false, .bl false, .bl false, .bl false, .bl false, .bl false, .bl false, .bl false, .bl false]) S := pure_ret rfl (show d_law_under S.length [some (.exn "BadOrder" fs), none] S = .rt (.lst [.bl false, .bl false, .bl false, .bl false, .bl false, .bl false, .bl false, .bl false, .bl false, .bl false, .bl false, .bl true, .bl false, .bl false, .bl false, .bl false, .bl false, .bl false, .bl false, .bl false, .bl false, .bl false]) S by kernel_rfl) rfl
theorem comp_11 {n : Nat} {o1 o2 o3 o4 o5 o6 o7 : Option D} {S : Store} : dLc [7] (gN 7) (iR1 (aCons (dC (.int 22)) aNil)) tYesD e_law_right_1 n [some (.int 11), o1, o2, o3, o4, o5, o6, o7] S = .ok (.lst [.bl false, .bl false, .bl false, .bl false, .bl false, .bl false, .bl false, .bl false, .bl false, .bl false, .bl false, .bl true, .bl false, .bl false, .bl false, .bl false, .bl false, .bl false, .bl false, .bl false, .bl false, .bl false]) S := by kernel_rfl
theorem is_11_AsBeforeError {fs : List (String × D)} {S : Store} : bIsG isT isE [.exn "BadOrder" fs, .glo "AsBeforeError"] S = .ok (.bl true) S := by kernel_rfl
theorem is_11_ValueError {fs : List (String × D)} {S : Store} : bIsG isT isE [.exn "BadOrder" fs, .ty "ValueError"] S = .ok (.bl true) S := by kernel_rfl
theorem is_11_LookupError {fs : List (String × D)} {S : Store} : bIsG isT isE [.exn "BadOrder" fs, .ty "LookupError"] S = .ok (.bl false) S := by kernel_rfl
theorem is_11_RuntimeError {fs : List (String × D)} {S : Store} : bIsG isT isE [.exn "BadOrder" fs, .ty "RuntimeError"] S = .ok (.bl false) S := by kernel_rfl
theorem is_11_two {fs : List (String × D)} {S : Store} : bIsG isT isE [.exn "BadOrder" fs, .tup [.ty "KeyError", .ty "IndexError"]] S = .ok (.bl false) S := by kernel_rfl
theorem right_11 {n : Nat} {a b c : D} {S : Store} (ha : Vv a) (hb : Vv b) (hc : Vv c) : m_law_right n [.int 11, a, b, c] S = .ok (.bl true) S := by
  obtain ⟨t, ht⟩ := reprs (ds := [a]) (Nat.le_of_ble_eq_true rfl) (by intro d hd; simp only [List.mem_cons, List.not_mem_nil, or_false] at hd; first | (rcases hd with rfl | rfl | rfl | rfl <;> assumption) | (rcases hd with rfl | rfl | rfl <;> assumption) | (rcases hd with rfl | rfl <;> assumption) | (subst hd; assumption))
  have sm : uNeX (.lst [a]) (.lst [a]) S = .ok (.bl false) S := sames (by intro d hd; simp only [List.mem_cons, List.not_mem_nil, or_false] at hd; first | (rcases hd with rfl | rfl | rfl | rfl <;> assumption) | (rcases hd with rfl | rfl | rfl <;> assumption) | (rcases hd with rfl | rfl <;> assumption) | (subst hd; assumption))
  refine pure_ret rfl (show d_law_right S.length [some (.int 11), some a, some b, some c, none, none, none, none] S = .rt (.bl true) S from ?_) rfl
  refine sqN (δ2 := [some (.int 11), some a, some b, some c, some (.exn "BadOrder" [("order", a)]), some (.lst [a]), none, none]) (asgE (ifeF (by kernel_rfl) (fnE (aS rfl (aS (va rfl ha.clo) (aS (va rfl hb.clo) (a1 (va rfl hc.clo))))) ((c_gkw_law_second_4).trans (second_11 ha hb hc)))) rfl) ?_
  refine sqN (δ2 := [some (.int 11), some a, some b, some c, some (.exn "BadOrder" [("order", a)]), some (.lst [a]), some (.lst [a]), none]) (setE (ifeF (by kernel_rfl) (fnE (aS rfl (a1 rfl)) ((c_gkw_law_second_told_2).trans (told_11 ha hb hc))))) ?_
  refine sqN (ifF (orT (testE (binE rfl rfl sm)) (testE (binE (biE (a1 rfl) (ht S)) (biE (a1 rfl) (ht S)) nes))) rfl) ?_
  refine sqN (ifF (orT (testE (binE (fnE (a1 rfl) (c_gkw_law_under_1.trans under_11)) comp_11 (by kernel_rfl))) (testE (binE (y := .bl true) (biE (aS rfl (a1 rfl)) is_11_AsBeforeError) (by kernel_rfl) (by kernel_rfl)))) rfl) ?_
  refine sqN (ifF (orT (testE (binE (y := .bl true) (biE (aS rfl (a1 rfl)) is_11_ValueError) (by kernel_rfl) (by kernel_rfl))) (testE (binE (y := .bl false) (biE (aS rfl (a1 rfl)) is_11_LookupError) (by kernel_rfl) (by kernel_rfl)))) rfl) ?_
  exact retE (andE (binE (y := .bl false) (biE (aS rfl (a1 rfl)) is_11_RuntimeError) (by kernel_rfl) (by kernel_rfl)) (notE (biE (aS rfl (a1 (tupE (aS rfl (a1 rfl)) (Nat.le_of_ble_eq_true rfl)))) is_11_two)))
theorem second_12 {n : Nat} {a b c : D} {S : Store} (ha : Vv a) (hb : Vv b) (hc : Vv c) : m_law_second n [.int 12, a, b, c] S = .ok (.tup [.exn "BadSubject" [("subject", a)], .lst [a]]) S := pure_ret rfl (show d_law_second S.length [some (.int 12), some a, some b, some c] S = .rt (.tup [.exn "BadSubject" [("subject", a)], .lst [a]]) S from (sqN (ifF (by kernel_rfl) rfl) (sqR (ifT (by kernel_rfl) (retE (tupE (aS (mkx_eq (a1 (va rfl ha.clo)) nilE ⟨⟨rfl, rfl⟩, rfl, Nat.le_of_ble_eq_true rfl⟩) (a1 (lstE (a1 (va rfl ha.clo)) (Nat.le_of_ble_eq_true rfl)))) (Nat.le_of_ble_eq_true rfl))))))) (by simp only [low, lowL, lowF, ha.low, hb.low, hc.low, Bool.and_self])
theorem told_12 {n : Nat} {a b c : D} {S : Store} (ha : Vv a) (hb : Vv b) (hc : Vv c) : m_law_second_told n [.int 12, .exn "BadSubject" [("subject", a)]] S = .ok (.lst [a]) S := pure_ret rfl (show d_law_second_told S.length [some (.int 12), some (.exn "BadSubject" [("subject", a)])] S = .rt (.lst [a]) S by kernel_rfl) (by simp only [low, lowL, ha.low, hb.low, hc.low, Bool.and_self])
theorem under_12 {n : Nat} {fs : List (String × D)} {S : Store} : m_law_under n [.exn "BadSubject" fs] S = .ok (.lst [.bl false, .bl false, .bl false, .bl false, .bl false, .bl false, .bl false, .bl false, .bl false, .bl false, .bl false, .bl false, .bl true, .bl false, .bl false, .bl false, .bl false, .bl false, .bl false, .bl false, .bl false, .bl false]) S := pure_ret rfl (show d_law_under S.length [some (.exn "BadSubject" fs), none] S = .rt (.lst [.bl false, .bl false, .bl false, .bl false, .bl false, .bl false, .bl false, .bl false, .bl false, .bl false, .bl false, .bl false, .bl true, .bl false, .bl false, .bl false, .bl false, .bl false, .bl false, .bl false, .bl false, .bl false]) S by kernel_rfl) rfl
theorem comp_12 {n : Nat} {o1 o2 o3 o4 o5 o6 o7 : Option D} {S : Store} : dLc [7] (gN 7) (iR1 (aCons (dC (.int 22)) aNil)) tYesD e_law_right_1 n [some (.int 12), o1, o2, o3, o4, o5, o6, o7] S = .ok (.lst [.bl false, .bl false, .bl false, .bl false, .bl false, .bl false, .bl false, .bl false, .bl false, .bl false, .bl false, .bl false, .bl true, .bl false, .bl false, .bl false, .bl false, .bl false, .bl false, .bl false, .bl false, .bl false]) S := by kernel_rfl
theorem is_12_AsBeforeError {fs : List (String × D)} {S : Store} : bIsG isT isE [.exn "BadSubject" fs, .glo "AsBeforeError"] S = .ok (.bl true) S := by kernel_rfl
theorem is_12_ValueError {fs : List (String × D)} {S : Store} : bIsG isT isE [.exn "BadSubject" fs, .ty "ValueError"] S = .ok (.bl true) S := by kernel_rfl
theorem is_12_LookupError {fs : List (String × D)} {S : Store} : bIsG isT isE [.exn "BadSubject" fs, .ty "LookupError"] S = .ok (.bl false) S := by kernel_rfl
theorem is_12_RuntimeError {fs : List (String × D)} {S : Store} : bIsG isT isE [.exn "BadSubject" fs, .ty "RuntimeError"] S = .ok (.bl false) S := by kernel_rfl
theorem is_12_two {fs : List (String × D)} {S : Store} : bIsG isT isE [.exn "BadSubject" fs, .tup [.ty "KeyError", .ty "IndexError"]] S = .ok (.bl false) S := by kernel_rfl
theorem right_12 {n : Nat} {a b c : D} {S : Store} (ha : Vv a) (hb : Vv b) (hc : Vv c) : m_law_right n [.int 12, a, b, c] S = .ok (.bl true) S := by
  obtain ⟨t, ht⟩ := reprs (ds := [a]) (Nat.le_of_ble_eq_true rfl) (by intro d hd; simp only [List.mem_cons, List.not_mem_nil, or_false] at hd; first | (rcases hd with rfl | rfl | rfl | rfl <;> assumption) | (rcases hd with rfl | rfl | rfl <;> assumption) | (rcases hd with rfl | rfl <;> assumption) | (subst hd; assumption))
  have sm : uNeX (.lst [a]) (.lst [a]) S = .ok (.bl false) S := sames (by intro d hd; simp only [List.mem_cons, List.not_mem_nil, or_false] at hd; first | (rcases hd with rfl | rfl | rfl | rfl <;> assumption) | (rcases hd with rfl | rfl | rfl <;> assumption) | (rcases hd with rfl | rfl <;> assumption) | (subst hd; assumption))
  refine pure_ret rfl (show d_law_right S.length [some (.int 12), some a, some b, some c, none, none, none, none] S = .rt (.bl true) S from ?_) rfl
  refine sqN (δ2 := [some (.int 12), some a, some b, some c, some (.exn "BadSubject" [("subject", a)]), some (.lst [a]), none, none]) (asgE (ifeF (by kernel_rfl) (fnE (aS rfl (aS (va rfl ha.clo) (aS (va rfl hb.clo) (a1 (va rfl hc.clo))))) ((c_gkw_law_second_4).trans (second_12 ha hb hc)))) rfl) ?_
  refine sqN (δ2 := [some (.int 12), some a, some b, some c, some (.exn "BadSubject" [("subject", a)]), some (.lst [a]), some (.lst [a]), none]) (setE (ifeF (by kernel_rfl) (fnE (aS rfl (a1 rfl)) ((c_gkw_law_second_told_2).trans (told_12 ha hb hc))))) ?_
  refine sqN (ifF (orT (testE (binE rfl rfl sm)) (testE (binE (biE (a1 rfl) (ht S)) (biE (a1 rfl) (ht S)) nes))) rfl) ?_
  refine sqN (ifF (orT (testE (binE (fnE (a1 rfl) (c_gkw_law_under_1.trans under_12)) comp_12 (by kernel_rfl))) (testE (binE (y := .bl true) (biE (aS rfl (a1 rfl)) is_12_AsBeforeError) (by kernel_rfl) (by kernel_rfl)))) rfl) ?_
  refine sqN (ifF (orT (testE (binE (y := .bl true) (biE (aS rfl (a1 rfl)) is_12_ValueError) (by kernel_rfl) (by kernel_rfl))) (testE (binE (y := .bl false) (biE (aS rfl (a1 rfl)) is_12_LookupError) (by kernel_rfl) (by kernel_rfl)))) rfl) ?_
  exact retE (andE (binE (y := .bl false) (biE (aS rfl (a1 rfl)) is_12_RuntimeError) (by kernel_rfl) (by kernel_rfl)) (notE (biE (aS rfl (a1 (tupE (aS rfl (a1 rfl)) (Nat.le_of_ble_eq_true rfl)))) is_12_two)))
theorem second_13 {n : Nat} {a b c : D} {S : Store} (ha : Vv a) (hb : Vv b) (hc : Vv c) : m_law_second n [.int 13, a, b, c] S = .ok (.tup [.exn "BadSizes" [("name", a)], .lst [a]]) S := pure_ret rfl (show d_law_second S.length [some (.int 13), some a, some b, some c] S = .rt (.tup [.exn "BadSizes" [("name", a)], .lst [a]]) S from (sqN (ifF (by kernel_rfl) rfl) (sqN (ifF (by kernel_rfl) rfl) (sqR (ifT (by kernel_rfl) (retE (tupE (aS (mkx_eq (a1 (va rfl ha.clo)) nilE ⟨⟨rfl, rfl⟩, rfl, Nat.le_of_ble_eq_true rfl⟩) (a1 (lstE (a1 (va rfl ha.clo)) (Nat.le_of_ble_eq_true rfl)))) (Nat.le_of_ble_eq_true rfl)))))))) (by simp only [low, lowL, lowF, ha.low, hb.low, hc.low, Bool.and_self])
theorem told_13 {n : Nat} {a b c : D} {S : Store} (ha : Vv a) (hb : Vv b) (hc : Vv c) : m_law_second_told n [.int 13, .exn "BadSizes" [("name", a)]] S = .ok (.lst [a]) S := pure_ret rfl (show d_law_second_told S.length [some (.int 13), some (.exn "BadSizes" [("name", a)])] S = .rt (.lst [a]) S by kernel_rfl) (by simp only [low, lowL, ha.low, hb.low, hc.low, Bool.and_self])
theorem under_13 {n : Nat} {fs : List (String × D)} {S : Store} : m_law_under n [.exn "BadSizes" fs] S = .ok (.lst [.bl false, .bl false, .bl false, .bl false, .bl false, .bl false, .bl false, .bl false, .bl false, .bl false, .bl false, .bl false, .bl false, .bl true, .bl false, .bl false, .bl false, .bl false, .bl false, .bl false, .bl false, .bl false]) S := pure_ret rfl (show d_law_under S.length [some (.exn "BadSizes" fs), none] S = .rt (.lst [.bl false, .bl false, .bl false, .bl false, .bl false, .bl false, .bl false, .bl false, .bl false, .bl false, .bl false, .bl false, .bl false, .bl true, .bl false, .bl false, .bl false, .bl false, .bl false, .bl false, .bl false, .bl false]) S by kernel_rfl) rfl
theorem comp_13 {n : Nat} {o1 o2 o3 o4 o5 o6 o7 : Option D} {S : Store} : dLc [7] (gN 7) (iR1 (aCons (dC (.int 22)) aNil)) tYesD e_law_right_1 n [some (.int 13), o1, o2, o3, o4, o5, o6, o7] S = .ok (.lst [.bl false, .bl false, .bl false, .bl false, .bl false, .bl false, .bl false, .bl false, .bl false, .bl false, .bl false, .bl false, .bl false, .bl true, .bl false, .bl false, .bl false, .bl false, .bl false, .bl false, .bl false, .bl false]) S := by kernel_rfl
theorem is_13_AsBeforeError {fs : List (String × D)} {S : Store} : bIsG isT isE [.exn "BadSizes" fs, .glo "AsBeforeError"] S = .ok (.bl true) S := by kernel_rfl
theorem is_13_ValueError {fs : List (String × D)} {S : Store} : bIsG isT isE [.exn "BadSizes" fs, .ty "ValueError"] S = .ok (.bl true) S := by kernel_rfl
theorem is_13_LookupError {fs : List (String × D)} {S : Store} : bIsG isT isE [.exn "BadSizes" fs, .ty "LookupError"] S = .ok (.bl false) S := by kernel_rfl
theorem is_13_RuntimeError {fs : List (String × D)} {S : Store} : bIsG isT isE [.exn "BadSizes" fs, .ty "RuntimeError"] S = .ok (.bl false) S := by kernel_rfl
theorem is_13_two {fs : List (String × D)} {S : Store} : bIsG isT isE [.exn "BadSizes" fs, .tup [.ty "KeyError", .ty "IndexError"]] S = .ok (.bl false) S := by kernel_rfl
theorem right_13 {n : Nat} {a b c : D} {S : Store} (ha : Vv a) (hb : Vv b) (hc : Vv c) : m_law_right n [.int 13, a, b, c] S = .ok (.bl true) S := by
  obtain ⟨t, ht⟩ := reprs (ds := [a]) (Nat.le_of_ble_eq_true rfl) (by intro d hd; simp only [List.mem_cons, List.not_mem_nil, or_false] at hd; first | (rcases hd with rfl | rfl | rfl | rfl <;> assumption) | (rcases hd with rfl | rfl | rfl <;> assumption) | (rcases hd with rfl | rfl <;> assumption) | (subst hd; assumption))
  have sm : uNeX (.lst [a]) (.lst [a]) S = .ok (.bl false) S := sames (by intro d hd; simp only [List.mem_cons, List.not_mem_nil, or_false] at hd; first | (rcases hd with rfl | rfl | rfl | rfl <;> assumption) | (rcases hd with rfl | rfl | rfl <;> assumption) | (rcases hd with rfl | rfl <;> assumption) | (subst hd; assumption))
  refine pure_ret rfl (show d_law_right S.length [some (.int 13), some a, some b, some c, none, none, none, none] S = .rt (.bl true) S from ?_) rfl
  refine sqN (δ2 := [some (.int 13), some a, some b, some c, some (.exn "BadSizes" [("name", a)]), some (.lst [a]), none, none]) (asgE (ifeF (by kernel_rfl) (fnE (aS rfl (aS (va rfl ha.clo) (aS (va rfl hb.clo) (a1 (va rfl hc.clo))))) ((c_gkw_law_second_4).trans (second_13 ha hb hc)))) rfl) ?_
  refine sqN (δ2 := [some (.int 13), some a, some b, some c, some (.exn "BadSizes" [("name", a)]), some (.lst [a]), some (.lst [a]), none]) (setE (ifeF (by kernel_rfl) (fnE (aS rfl (a1 rfl)) ((c_gkw_law_second_told_2).trans (told_13 ha hb hc))))) ?_
  refine sqN (ifF (orT (testE (binE rfl rfl sm)) (testE (binE (biE (a1 rfl) (ht S)) (biE (a1 rfl) (ht S)) nes))) rfl) ?_
  refine sqN (ifF (orT (testE (binE (fnE (a1 rfl) (c_gkw_law_under_1.trans under_13)) comp_13 (by kernel_rfl))) (testE (binE (y := .bl true) (biE (aS rfl (a1 rfl)) is_13_AsBeforeError) (by kernel_rfl) (by kernel_rfl)))) rfl) ?_
  refine sqN (ifF (orT (testE (binE (y := .bl true) (biE (aS rfl (a1 rfl)) is_13_ValueError) (by kernel_rfl) (by kernel_rfl))) (testE (binE (y := .bl false) (biE (aS rfl (a1 rfl)) is_13_LookupError) (by kernel_rfl) (by kernel_rfl)))) rfl) ?_
  exact retE (andE (binE (y := .bl false) (biE (aS rfl (a1 rfl)) is_13_RuntimeError) (by kernel_rfl) (by kernel_rfl)) (notE (biE (aS rfl (a1 (tupE (aS rfl (a1 rfl)) (Nat.le_of_ble_eq_true rfl)))) is_13_two)))
theorem second_14 {n : Nat} {a b c : D} {S : Store} (ha : Vv a) (hb : Vv b) (hc : Vv c) : m_law_second n [.int 14, a, b, c] S = .ok (.tup [.exn "BadLast" [("last", a)], .lst [a]]) S := pure_ret rfl (show d_law_second S.length [some (.int 14), some a, some b, some c] S = .rt (.tup [.exn "BadLast" [("last", a)], .lst [a]]) S from (sqN (ifF (by kernel_rfl) rfl) (sqN (ifF (by kernel_rfl) rfl) (sqN (ifF (by kernel_rfl) rfl) (sqR (ifT (by kernel_rfl) (retE (tupE (aS (mkx_eq nilE (a1 (va rfl ha.clo)) ⟨⟨rfl, rfl⟩, rfl, Nat.le_of_ble_eq_true rfl⟩) (a1 (lstE (a1 (va rfl ha.clo)) (Nat.le_of_ble_eq_true rfl)))) (Nat.le_of_ble_eq_true rfl))))))))) (by simp only [low, lowL, lowF, ha.low, hb.low, hc.low, Bool.and_self])
theorem told_14 {n : Nat} {a b c : D} {S : Store} (ha : Vv a) (hb : Vv b) (hc : Vv c) : m_law_second_told n [.int 14, .exn "BadLast" [("last", a)]] S = .ok (.lst [a]) S := pure_ret rfl (show d_law_second_told S.length [some (.int 14), some (.exn "BadLast" [("last", a)])] S = .rt (.lst [a]) S by kernel_rfl) (by simp only [low, lowL, ha.low, hb.low, hc.low, Bool.and_self])
theorem under_14 {n : Nat} {fs : List (String × D)} {S : Store} : m_law_under n [.exn "BadLast" fs] S = .ok (.lst [.bl false, .bl false, .bl false, .bl false, .bl false, .bl false, .bl false, .bl false, .bl false, .bl false, .bl false, .bl false, .bl false, .bl false, .bl true, .bl false, .bl false, .bl false, .bl false, .bl false, .bl false, .bl false]) S := pure_ret rfl (show d_law_under S.length [some (.exn "BadLast" fs), none] S = .rt (.lst [.bl false, .bl false, .bl false, .bl false, .bl false, .bl false, .bl false, .bl false, .bl false, .bl false, .bl false, .bl false, .bl false, .bl false, .bl true, .bl false, .bl false, .bl false, .bl false, .bl false, .bl false, .bl false]) S by kernel_rfl) rfl
theorem comp_14 {n : Nat} {o1 o2 o3 o4 o5 o6 o7 : Option D} {S : Store} : dLc [7] (gN 7) (iR1 (aCons (dC (.int 22)) aNil)) tYesD e_law_right_1 n [some (.int 14), o1, o2, o3, o4, o5, o6, o7] S = .ok (.lst [.bl false, .bl false, .bl false, .bl false, .bl false, .bl false, .bl false, .bl false, .bl false, .bl false, .bl false, .bl false, .bl false, .bl false, .bl true, .bl false, .bl false, .bl false, .bl false, .bl false, .bl false, .bl false]) S := by kernel_rfl
theorem is_14_AsBeforeError {fs : List (String × D)} {S : Store} : bIsG isT isE [.exn "BadLast" fs, .glo "AsBeforeError"] S = .ok (.bl true) S := by kernel_rfl
theorem is_14_ValueError {fs : List (String × D)} {S : Store} : bIsG isT isE [.exn "BadLast" fs, .ty "ValueError"] S = .ok (.bl true) S := by kernel_rfl
theorem is_14_LookupError {fs : List (String × D)} {S : Store} : bIsG isT isE [.exn "BadLast" fs, .ty "LookupError"] S = .ok (.bl false) S := by kernel_rfl
theorem is_14_RuntimeError {fs : List (String × D)} {S : Store} : bIsG isT isE [.exn "BadLast" fs, .ty "RuntimeError"] S = .ok (.bl false) S := by kernel_rfl
theorem is_14_two {fs : List (String × D)} {S : Store} : bIsG isT isE [.exn "BadLast" fs, .tup [.ty "KeyError", .ty "IndexError"]] S = .ok (.bl false) S := by kernel_rfl
theorem right_14 {n : Nat} {a b c : D} {S : Store} (ha : Vv a) (hb : Vv b) (hc : Vv c) : m_law_right n [.int 14, a, b, c] S = .ok (.bl true) S := by
  obtain ⟨t, ht⟩ := reprs (ds := [a]) (Nat.le_of_ble_eq_true rfl) (by intro d hd; simp only [List.mem_cons, List.not_mem_nil, or_false] at hd; first | (rcases hd with rfl | rfl | rfl | rfl <;> assumption) | (rcases hd with rfl | rfl | rfl <;> assumption) | (rcases hd with rfl | rfl <;> assumption) | (subst hd; assumption))
  have sm : uNeX (.lst [a]) (.lst [a]) S = .ok (.bl false) S := sames (by intro d hd; simp only [List.mem_cons, List.not_mem_nil, or_false] at hd; first | (rcases hd with rfl | rfl | rfl | rfl <;> assumption) | (rcases hd with rfl | rfl | rfl <;> assumption) | (rcases hd with rfl | rfl <;> assumption) | (subst hd; assumption))
  refine pure_ret rfl (show d_law_right S.length [some (.int 14), some a, some b, some c, none, none, none, none] S = .rt (.bl true) S from ?_) rfl
  refine sqN (δ2 := [some (.int 14), some a, some b, some c, some (.exn "BadLast" [("last", a)]), some (.lst [a]), none, none]) (asgE (ifeF (by kernel_rfl) (fnE (aS rfl (aS (va rfl ha.clo) (aS (va rfl hb.clo) (a1 (va rfl hc.clo))))) ((c_gkw_law_second_4).trans (second_14 ha hb hc)))) rfl) ?_
  refine sqN (δ2 := [some (.int 14), some a, some b, some c, some (.exn "BadLast" [("last", a)]), some (.lst [a]), some (.lst [a]), none]) (setE (ifeF (by kernel_rfl) (fnE (aS rfl (a1 rfl)) ((c_gkw_law_second_told_2).trans (told_14 ha hb hc))))) ?_
  refine sqN (ifF (orT (testE (binE rfl rfl sm)) (testE (binE (biE (a1 rfl) (ht S)) (biE (a1 rfl) (ht S)) nes))) rfl) ?_
  refine sqN (ifF (orT (testE (binE (fnE (a1 rfl) (c_gkw_law_under_1.trans under_14)) comp_14 (by kernel_rfl))) (testE (binE (y := .bl true) (biE (aS rfl (a1 rfl)) is_14_AsBeforeError) (by kernel_rfl) (by kernel_rfl)))) rfl) ?_
  refine sqN (ifF (orT (testE (binE (y := .bl true) (biE (aS rfl (a1 rfl)) is_14_ValueError) (by kernel_rfl) (by kernel_rfl))) (testE (binE (y := .bl false) (biE (aS rfl (a1 rfl)) is_14_LookupError) (by kernel_rfl) (by kernel_rfl)))) rfl) ?_
  exact retE (andE (binE (y := .bl false) (biE (aS rfl (a1 rfl)) is_14_RuntimeError) (by kernel_rfl) (by kernel_rfl)) (notE (biE (aS rfl (a1 (tupE (aS rfl (a1 rfl)) (Nat.le_of_ble_eq_true rfl)))) is_14_two)))
theorem second_15 {n : Nat} {a b c : D} {S : Store} (ha : Vv a) (hb : Vv b) (hc : Vv c) : m_law_second n [.int 15, a, b, c] S = .ok (.tup [.exn "NoOrder" [("events", b), ("population", a)], .lst [a, b]]) S := pure_ret rfl (show d_law_second S.length [some (.int 15), some a, some b, some c] S = .rt (.tup [.exn "NoOrder" [("events", b), ("population", a)], .lst [a, b]]) S from (sqN (ifF (by kernel_rfl) rfl) (sqN (ifF (by kernel_rfl) rfl) (sqN (ifF (by kernel_rfl) rfl) (sqN (ifF (by kernel_rfl) rfl) (sqR (ifT (by kernel_rfl) (retE (tupE (aS (mkx_eq nilE (aS (va rfl ha.clo) (a1 (va rfl hb.clo))) ⟨⟨rfl, rfl⟩, rfl, Nat.le_of_ble_eq_true rfl⟩) (a1 (lstE (aS (va rfl ha.clo) (a1 (va rfl hb.clo))) (Nat.le_of_ble_eq_true rfl)))) (Nat.le_of_ble_eq_true rfl)))))))))) (by simp only [low, lowL, lowF, ha.low, hb.low, hc.low, Bool.and_self])
theorem told_15 {n : Nat} {a b c : D} {S : Store} (ha : Vv a) (hb : Vv b) (hc : Vv c) : m_law_second_told n [.int 15, .exn "NoOrder" [("events", b), ("population", a)]] S = .ok (.lst [a, b]) S := pure_ret rfl (show d_law_second_told S.length [some (.int 15), some (.exn "NoOrder" [("events", b), ("population", a)])] S = .rt (.lst [a, b]) S by kernel_rfl) (by simp only [low, lowL, ha.low, hb.low, hc.low, Bool.and_self])
theorem under_15 {n : Nat} {fs : List (String × D)} {S : Store} : m_law_under n [.exn "NoOrder" fs] S = .ok (.lst [.bl false, .bl false, .bl false, .bl false, .bl false, .bl false, .bl false, .bl false, .bl false, .bl false, .bl false, .bl false, .bl false, .bl false, .bl false, .bl true, .bl false, .bl false, .bl false, .bl false, .bl false, .bl false]) S := pure_ret rfl (show d_law_under S.length [some (.exn "NoOrder" fs), none] S = .rt (.lst [.bl false, .bl false, .bl false, .bl false, .bl false, .bl false, .bl false, .bl false, .bl false, .bl false, .bl false, .bl false, .bl false, .bl false, .bl false, .bl true, .bl false, .bl false, .bl false, .bl false, .bl false, .bl false]) S by kernel_rfl) rfl
theorem comp_15 {n : Nat} {o1 o2 o3 o4 o5 o6 o7 : Option D} {S : Store} : dLc [7] (gN 7) (iR1 (aCons (dC (.int 22)) aNil)) tYesD e_law_right_1 n [some (.int 15), o1, o2, o3, o4, o5, o6, o7] S = .ok (.lst [.bl false, .bl false, .bl false, .bl false, .bl false, .bl false, .bl false, .bl false, .bl false, .bl false, .bl false, .bl false, .bl false, .bl false, .bl false, .bl true, .bl false, .bl false, .bl false, .bl false, .bl false, .bl false]) S := by kernel_rfl
theorem is_15_AsBeforeError {fs : List (String × D)} {S : Store} : bIsG isT isE [.exn "NoOrder" fs, .glo "AsBeforeError"] S = .ok (.bl true) S := by kernel_rfl
theorem is_15_ValueError {fs : List (String × D)} {S : Store} : bIsG isT isE [.exn "NoOrder" fs, .ty "ValueError"] S = .ok (.bl true) S := by kernel_rfl
theorem is_15_LookupError {fs : List (String × D)} {S : Store} : bIsG isT isE [.exn "NoOrder" fs, .ty "LookupError"] S = .ok (.bl false) S := by kernel_rfl
theorem is_15_RuntimeError {fs : List (String × D)} {S : Store} : bIsG isT isE [.exn "NoOrder" fs, .ty "RuntimeError"] S = .ok (.bl false) S := by kernel_rfl
theorem is_15_two {fs : List (String × D)} {S : Store} : bIsG isT isE [.exn "NoOrder" fs, .tup [.ty "KeyError", .ty "IndexError"]] S = .ok (.bl false) S := by kernel_rfl
theorem right_15 {n : Nat} {a b c : D} {S : Store} (ha : Vv a) (hb : Vv b) (hc : Vv c) : m_law_right n [.int 15, a, b, c] S = .ok (.bl true) S := by
  obtain ⟨t, ht⟩ := reprs (ds := [a, b]) (Nat.le_of_ble_eq_true rfl) (by intro d hd; simp only [List.mem_cons, List.not_mem_nil, or_false] at hd; first | (rcases hd with rfl | rfl | rfl | rfl <;> assumption) | (rcases hd with rfl | rfl | rfl <;> assumption) | (rcases hd with rfl | rfl <;> assumption) | (subst hd; assumption))
  have sm : uNeX (.lst [a, b]) (.lst [a, b]) S = .ok (.bl false) S := sames (by intro d hd; simp only [List.mem_cons, List.not_mem_nil, or_false] at hd; first | (rcases hd with rfl | rfl | rfl | rfl <;> assumption) | (rcases hd with rfl | rfl | rfl <;> assumption) | (rcases hd with rfl | rfl <;> assumption) | (subst hd; assumption))
  refine pure_ret rfl (show d_law_right S.length [some (.int 15), some a, some b, some c, none, none, none, none] S = .rt (.bl true) S from ?_) rfl
  refine sqN (δ2 := [some (.int 15), some a, some b, some c, some (.exn "NoOrder" [("events", b), ("population", a)]), some (.lst [a, b]), none, none]) (asgE (ifeF (by kernel_rfl) (fnE (aS rfl (aS (va rfl ha.clo) (aS (va rfl hb.clo) (a1 (va rfl hc.clo))))) ((c_gkw_law_second_4).trans (second_15 ha hb hc)))) rfl) ?_
  refine sqN (δ2 := [some (.int 15), some a, some b, some c, some (.exn "NoOrder" [("events", b), ("population", a)]), some (.lst [a, b]), some (.lst [a, b]), none]) (setE (ifeF (by kernel_rfl) (fnE (aS rfl (a1 rfl)) ((c_gkw_law_second_told_2).trans (told_15 ha hb hc))))) ?_
  refine sqN (ifF (orT (testE (binE rfl rfl sm)) (testE (binE (biE (a1 rfl) (ht S)) (biE (a1 rfl) (ht S)) nes))) rfl) ?_
  refine sqN (ifF (orT (testE (binE (fnE (a1 rfl) (c_gkw_law_under_1.trans under_15)) comp_15 (by kernel_rfl))) (testE (binE (y := .bl true) (biE (aS rfl (a1 rfl)) is_15_AsBeforeError) (by kernel_rfl) (by kernel_rfl)))) rfl) ?_
  refine sqN (ifF (orT (testE (binE (y := .bl true) (biE (aS rfl (a1 rfl)) is_15_ValueError) (by kernel_rfl) (by kernel_rfl))) (testE (binE (y := .bl false) (biE (aS rfl (a1 rfl)) is_15_LookupError) (by kernel_rfl) (by kernel_rfl)))) rfl) ?_
  exact retE (andE (binE (y := .bl false) (biE (aS rfl (a1 rfl)) is_15_RuntimeError) (by kernel_rfl) (by kernel_rfl)) (notE (biE (aS rfl (a1 (tupE (aS rfl (a1 rfl)) (Nat.le_of_ble_eq_true rfl)))) is_15_two)))
theorem second_16 {n : Nat} {a b c : D} {S : Store} (ha : Vv a) (hb : Vv b) (hc : Vv c) : m_law_second n [.int 16, a, b, c] S = .ok (.tup [.exn "Unknown" [("name", a)], .lst [a]]) S := pure_ret rfl (show d_law_second S.length [some (.int 16), some a, some b, some c] S = .rt (.tup [.exn "Unknown" [("name", a)], .lst [a]]) S from (sqN (ifF (by kernel_rfl) rfl) (sqN (ifF (by kernel_rfl) rfl) (sqN (ifF (by kernel_rfl) rfl) (sqN (ifF (by kernel_rfl) rfl) (sqN (ifF (by kernel_rfl) rfl) (sqR (ifT (by kernel_rfl) (retE (tupE (aS (mkx_eq (a1 (va rfl ha.clo)) nilE ⟨⟨rfl, rfl⟩, rfl, Nat.le_of_ble_eq_true rfl⟩) (a1 (lstE (a1 (va rfl ha.clo)) (Nat.le_of_ble_eq_true rfl)))) (Nat.le_of_ble_eq_true rfl))))))))))) (by simp only [low, lowL, lowF, ha.low, hb.low, hc.low, Bool.and_self])
theorem told_16 {n : Nat} {a b c : D} {S : Store} (ha : Vv a) (hb : Vv b) (hc : Vv c) : m_law_second_told n [.int 16, .exn "Unknown" [("name", a)]] S = .ok (.lst [a]) S := pure_ret rfl (show d_law_second_told S.length [some (.int 16), some (.exn "Unknown" [("name", a)])] S = .rt (.lst [a]) S by kernel_rfl) (by simp only [low, lowL, ha.low, hb.low, hc.low, Bool.and_self])
theorem under_16 {n : Nat} {fs : List (String × D)} {S : Store} : m_law_under n [.exn "Unknown" fs] S = .ok (.lst [.bl false, .bl false, .bl false, .bl false, .bl false, .bl false, .bl false, .bl false, .bl false, .bl false, .bl false, .bl false, .bl false, .bl false, .bl false, .bl false, .bl true, .bl false, .bl false, .bl false, .bl false, .bl false]) S := pure_ret rfl (show d_law_under S.length [some (.exn "Unknown" fs), none] S = .rt (.lst [.bl false, .bl false, .bl false, .bl false, .bl false, .bl false, .bl false, .bl false, .bl false, .bl false, .bl false, .bl false, .bl false, .bl false, .bl false, .bl false, .bl true, .bl false, .bl false, .bl false, .bl false, .bl false]) S by kernel_rfl) rfl
theorem comp_16 {n : Nat} {o1 o2 o3 o4 o5 o6 o7 : Option D} {S : Store} : dLc [7] (gN 7) (iR1 (aCons (dC (.int 22)) aNil)) tYesD e_law_right_1 n [some (.int 16), o1, o2, o3, o4, o5, o6, o7] S = .ok (.lst [.bl false, .bl false, .bl false, .bl false, .bl false, .bl false, .bl false, .bl false, .bl false, .bl false, .bl false, .bl false, .bl false, .bl false, .bl false, .bl false, .bl true, .bl false, .bl false, .bl false, .bl false, .bl false]) S := by kernel_rfl
theorem is_16_AsBeforeError {fs : List (String × D)} {S : Store} : bIsG isT isE [.exn "Unknown" fs, .glo "AsBeforeError"] S = .ok (.bl false) S := by kernel_rfl
theorem is_16_ValueError {fs : List (String × D)} {S : Store} : bIsG isT isE [.exn "Unknown" fs, .ty "ValueError"] S = .ok (.bl false) S := by kernel_rfl
theorem is_16_LookupError {fs : List (String × D)} {S : Store} : bIsG isT isE [.exn "Unknown" fs, .ty "LookupError"] S = .ok (.bl true) S := by kernel_rfl
theorem is_16_RuntimeError {fs : List (String × D)} {S : Store} : bIsG isT isE [.exn "Unknown" fs, .ty "RuntimeError"] S = .ok (.bl false) S := by kernel_rfl
theorem is_16_two {fs : List (String × D)} {S : Store} : bIsG isT isE [.exn "Unknown" fs, .tup [.ty "KeyError", .ty "IndexError"]] S = .ok (.bl false) S := by kernel_rfl
theorem right_16 {n : Nat} {a b c : D} {S : Store} (ha : Vv a) (hb : Vv b) (hc : Vv c) : m_law_right n [.int 16, a, b, c] S = .ok (.bl true) S := by
  obtain ⟨t, ht⟩ := reprs (ds := [a]) (Nat.le_of_ble_eq_true rfl) (by intro d hd; simp only [List.mem_cons, List.not_mem_nil, or_false] at hd; first | (rcases hd with rfl | rfl | rfl | rfl <;> assumption) | (rcases hd with rfl | rfl | rfl <;> assumption) | (rcases hd with rfl | rfl <;> assumption) | (subst hd; assumption))
  have sm : uNeX (.lst [a]) (.lst [a]) S = .ok (.bl false) S := sames (by intro d hd; simp only [List.mem_cons, List.not_mem_nil, or_false] at hd; first | (rcases hd with rfl | rfl | rfl | rfl <;> assumption) | (rcases hd with rfl | rfl | rfl <;> assumption) | (rcases hd with rfl | rfl <;> assumption) | (subst hd; assumption))
  refine pure_ret rfl (show d_law_right S.length [some (.int 16), some a, some b, some c, none, none, none, none] S = .rt (.bl true) S from ?_) rfl
  refine sqN (δ2 := [some (.int 16), some a, some b, some c, some (.exn "Unknown" [("name", a)]), some (.lst [a]), none, none]) (asgE (ifeF (by kernel_rfl) (fnE (aS rfl (aS (va rfl ha.clo) (aS (va rfl hb.clo) (a1 (va rfl hc.clo))))) ((c_gkw_law_second_4).trans (second_16 ha hb hc)))) rfl) ?_
  refine sqN (δ2 := [some (.int 16), some a, some b, some c, some (.exn "Unknown" [("name", a)]), some (.lst [a]), some (.lst [a]), none]) (setE (ifeF (by kernel_rfl) (fnE (aS rfl (a1 rfl)) ((c_gkw_law_second_told_2).trans (told_16 ha hb hc))))) ?_
  refine sqN (ifF (orT (testE (binE rfl rfl sm)) (testE (binE (biE (a1 rfl) (ht S)) (biE (a1 rfl) (ht S)) nes))) rfl) ?_
  refine sqN (ifF (orT (testE (binE (fnE (a1 rfl) (c_gkw_law_under_1.trans under_16)) comp_16 (by kernel_rfl))) (testE (binE (y := .bl false) (biE (aS rfl (a1 rfl)) is_16_AsBeforeError) (by kernel_rfl) (by kernel_rfl)))) rfl) ?_
  refine sqN (ifF (orT (testE (binE (y := .bl false) (biE (aS rfl (a1 rfl)) is_16_ValueError) (by kernel_rfl) (by kernel_rfl))) (testE (binE (y := .bl true) (biE (aS rfl (a1 rfl)) is_16_LookupError) (by kernel_rfl) (by kernel_rfl)))) rfl) ?_
  exact retE (andE (binE (y := .bl false) (biE (aS rfl (a1 rfl)) is_16_RuntimeError) (by kernel_rfl) (by kernel_rfl)) (notE (biE (aS rfl (a1 (tupE (aS rfl (a1 rfl)) (Nat.le_of_ble_eq_true rfl)))) is_16_two)))
theorem second_17 {n : Nat} {a b c : D} {S : Store} (ha : Vv a) (hb : Vv b) (hc : Vv c) : m_law_second n [.int 17, a, b, c] S = .ok (.tup [.exn "NoCell" [("at", a)], .lst [a]]) S := pure_ret rfl (show d_law_second S.length [some (.int 17), some a, some b, some c] S = .rt (.tup [.exn "NoCell" [("at", a)], .lst [a]]) S from (sqN (ifF (by kernel_rfl) rfl) (sqN (ifF (by kernel_rfl) rfl) (sqN (ifF (by kernel_rfl) rfl) (sqN (ifF (by kernel_rfl) rfl) (sqN (ifF (by kernel_rfl) rfl) (sqN (ifF (by kernel_rfl) rfl) (sqR (ifT (by kernel_rfl) (retE (tupE (aS (mkx_eq (a1 (va rfl ha.clo)) nilE ⟨⟨rfl, rfl⟩, rfl, Nat.le_of_ble_eq_true rfl⟩) (a1 (lstE (a1 (va rfl ha.clo)) (Nat.le_of_ble_eq_true rfl)))) (Nat.le_of_ble_eq_true rfl)))))))))))) (by simp only [low, lowL, lowF, ha.low, hb.low, hc.low, Bool.and_self])
theorem told_17 {n : Nat} {a b c : D} {S : Store} (ha : Vv a) (hb : Vv b) (hc : Vv c) : m_law_second_told n [.int 17, .exn "NoCell" [("at", a)]] S = .ok (.lst [a]) S := pure_ret rfl (show d_law_second_told S.length [some (.int 17), some (.exn "NoCell" [("at", a)])] S = .rt (.lst [a]) S by kernel_rfl) (by simp only [low, lowL, ha.low, hb.low, hc.low, Bool.and_self])
theorem under_17 {n : Nat} {fs : List (String × D)} {S : Store} : m_law_under n [.exn "NoCell" fs] S = .ok (.lst [.bl false, .bl false, .bl false, .bl false, .bl false, .bl false, .bl false, .bl false, .bl false, .bl false, .bl false, .bl false, .bl false, .bl false, .bl false, .bl false, .bl false, .bl true, .bl false, .bl false, .bl false, .bl false]) S := pure_ret rfl (show d_law_under S.length [some (.exn "NoCell" fs), none] S = .rt (.lst [.bl false, .bl false, .bl false, .bl false, .bl false, .bl false, .bl false, .bl false, .bl false, .bl false, .bl false, .bl false, .bl false, .bl false, .bl false, .bl false, .bl false, .bl true, .bl false, .bl false, .bl false, .bl false]) S by kernel_rfl) rfl
theorem comp_17 {n : Nat} {o1 o2 o3 o4 o5 o6 o7 : Option D} {S : Store} : dLc [7] (gN 7) (iR1 (aCons (dC (.int 22)) aNil)) tYesD e_law_right_1 n [some (.int 17), o1, o2, o3, o4, o5, o6, o7] S = .ok (.lst [.bl false, .bl false, .bl false, .bl false, .bl false, .bl false, .bl false, .bl false, .bl false, .bl false, .bl false, .bl false, .bl false, .bl false, .bl false, .bl false, .bl false, .bl true, .bl false, .bl false, .bl false, .bl false]) S := by kernel_rfl
theorem is_17_AsBeforeError {fs : List (String × D)} {S : Store} : bIsG isT isE [.exn "NoCell" fs, .glo "AsBeforeError"] S = .ok (.bl false) S := by kernel_rfl
theorem is_17_ValueError {fs : List (String × D)} {S : Store} : bIsG isT isE [.exn "NoCell" fs, .ty "ValueError"] S = .ok (.bl false) S := by kernel_rfl
theorem is_17_LookupError {fs : List (String × D)} {S : Store} : bIsG isT isE [.exn "NoCell" fs, .ty "LookupError"] S = .ok (.bl true) S := by kernel_rfl
theorem is_17_RuntimeError {fs : List (String × D)} {S : Store} : bIsG isT isE [.exn "NoCell" fs, .ty "RuntimeError"] S = .ok (.bl false) S := by kernel_rfl
theorem is_17_two {fs : List (String × D)} {S : Store} : bIsG isT isE [.exn "NoCell" fs, .tup [.ty "KeyError", .ty "IndexError"]] S = .ok (.bl false) S := by kernel_rfl
theorem right_17 {n : Nat} {a b c : D} {S : Store} (ha : Vv a) (hb : Vv b) (hc : Vv c) : m_law_right n [.int 17, a, b, c] S = .ok (.bl true) S := by
  obtain ⟨t, ht⟩ := reprs (ds := [a]) (Nat.le_of_ble_eq_true rfl) (by intro d hd; simp only [List.mem_cons, List.not_mem_nil, or_false] at hd; first | (rcases hd with rfl | rfl | rfl | rfl <;> assumption) | (rcases hd with rfl | rfl | rfl <;> assumption) | (rcases hd with rfl | rfl <;> assumption) | (subst hd; assumption))
  have sm : uNeX (.lst [a]) (.lst [a]) S = .ok (.bl false) S := sames (by intro d hd; simp only [List.mem_cons, List.not_mem_nil, or_false] at hd; first | (rcases hd with rfl | rfl | rfl | rfl <;> assumption) | (rcases hd with rfl | rfl | rfl <;> assumption) | (rcases hd with rfl | rfl <;> assumption) | (subst hd; assumption))
  refine pure_ret rfl (show d_law_right S.length [some (.int 17), some a, some b, some c, none, none, none, none] S = .rt (.bl true) S from ?_) rfl
  refine sqN (δ2 := [some (.int 17), some a, some b, some c, some (.exn "NoCell" [("at", a)]), some (.lst [a]), none, none]) (asgE (ifeF (by kernel_rfl) (fnE (aS rfl (aS (va rfl ha.clo) (aS (va rfl hb.clo) (a1 (va rfl hc.clo))))) ((c_gkw_law_second_4).trans (second_17 ha hb hc)))) rfl) ?_
  refine sqN (δ2 := [some (.int 17), some a, some b, some c, some (.exn "NoCell" [("at", a)]), some (.lst [a]), some (.lst [a]), none]) (setE (ifeF (by kernel_rfl) (fnE (aS rfl (a1 rfl)) ((c_gkw_law_second_told_2).trans (told_17 ha hb hc))))) ?_
  refine sqN (ifF (orT (testE (binE rfl rfl sm)) (testE (binE (biE (a1 rfl) (ht S)) (biE (a1 rfl) (ht S)) nes))) rfl) ?_
  refine sqN (ifF (orT (testE (binE (fnE (a1 rfl) (c_gkw_law_under_1.trans under_17)) comp_17 (by kernel_rfl))) (testE (binE (y := .bl false) (biE (aS rfl (a1 rfl)) is_17_AsBeforeError) (by kernel_rfl) (by kernel_rfl)))) rfl) ?_
  refine sqN (ifF (orT (testE (binE (y := .bl false) (biE (aS rfl (a1 rfl)) is_17_ValueError) (by kernel_rfl) (by kernel_rfl))) (testE (binE (y := .bl true) (biE (aS rfl (a1 rfl)) is_17_LookupError) (by kernel_rfl) (by kernel_rfl)))) rfl) ?_
  exact retE (andE (binE (y := .bl false) (biE (aS rfl (a1 rfl)) is_17_RuntimeError) (by kernel_rfl) (by kernel_rfl)) (notE (biE (aS rfl (a1 (tupE (aS rfl (a1 rfl)) (Nat.le_of_ble_eq_true rfl)))) is_17_two)))
theorem second_18 {n : Nat} {a b c : D} {S : Store} (ha : Vv a) (hb : Vv b) (hc : Vv c) : m_law_second n [.int 18, a, b, c] S = .ok (.tup [.exn "Running" [], .lst []]) S := pure_ret rfl (show d_law_second S.length [some (.int 18), some a, some b, some c] S = .rt (.tup [.exn "Running" [], .lst []]) S from (sqN (ifF (by kernel_rfl) rfl) (sqN (ifF (by kernel_rfl) rfl) (sqN (ifF (by kernel_rfl) rfl) (sqN (ifF (by kernel_rfl) rfl) (sqN (ifF (by kernel_rfl) rfl) (sqN (ifF (by kernel_rfl) rfl) (sqN (ifF (by kernel_rfl) rfl) (sqR (ifT (by kernel_rfl) (retE (tupE (aS rfl (a1 (lstE nilE (Nat.le_of_ble_eq_true rfl)))) (Nat.le_of_ble_eq_true rfl))))))))))))) (by simp only [low, lowL, lowF, ha.low, hb.low, hc.low, Bool.and_self])
theorem told_18 {n : Nat} {a b c : D} {S : Store} (ha : Vv a) (hb : Vv b) (hc : Vv c) : m_law_second_told n [.int 18, .exn "Running" []] S = .ok (.lst []) S := pure_ret rfl (show d_law_second_told S.length [some (.int 18), some (.exn "Running" [])] S = .rt (.lst []) S by kernel_rfl) (by simp only [low, lowL, ha.low, hb.low, hc.low, Bool.and_self])
theorem under_18 {n : Nat} {fs : List (String × D)} {S : Store} : m_law_under n [.exn "Running" fs] S = .ok (.lst [.bl false, .bl false, .bl false, .bl false, .bl false, .bl false, .bl false, .bl false, .bl false, .bl false, .bl false, .bl false, .bl false, .bl false, .bl false, .bl false, .bl false, .bl false, .bl true, .bl false, .bl false, .bl false]) S := pure_ret rfl (show d_law_under S.length [some (.exn "Running" fs), none] S = .rt (.lst [.bl false, .bl false, .bl false, .bl false, .bl false, .bl false, .bl false, .bl false, .bl false, .bl false, .bl false, .bl false, .bl false, .bl false, .bl false, .bl false, .bl false, .bl false, .bl true, .bl false, .bl false, .bl false]) S by kernel_rfl) rfl
theorem comp_18 {n : Nat} {o1 o2 o3 o4 o5 o6 o7 : Option D} {S : Store} : dLc [7] (gN 7) (iR1 (aCons (dC (.int 22)) aNil)) tYesD e_law_right_1 n [some (.int 18), o1, o2, o3, o4, o5, o6, o7] S = .ok (.lst [.bl false, .bl false, .bl false, .bl false, .bl false, .bl false, .bl false, .bl false, .bl false, .bl false, .bl false, .bl false, .bl false, .bl false, .bl false, .bl false, .bl false, .bl false, .bl true, .bl false, .bl false, .bl false]) S := by kernel_rfl
theorem is_18_AsBeforeError {fs : List (String × D)} {S : Store} : bIsG isT isE [.exn "Running" fs, .glo "AsBeforeError"] S = .ok (.bl false) S := by kernel_rfl
theorem is_18_ValueError {fs : List (String × D)} {S : Store} : bIsG isT isE [.exn "Running" fs, .ty "ValueError"] S = .ok (.bl false) S := by kernel_rfl
theorem is_18_LookupError {fs : List (String × D)} {S : Store} : bIsG isT isE [.exn "Running" fs, .ty "LookupError"] S = .ok (.bl false) S := by kernel_rfl
theorem is_18_RuntimeError {fs : List (String × D)} {S : Store} : bIsG isT isE [.exn "Running" fs, .ty "RuntimeError"] S = .ok (.bl true) S := by kernel_rfl
theorem is_18_two {fs : List (String × D)} {S : Store} : bIsG isT isE [.exn "Running" fs, .tup [.ty "KeyError", .ty "IndexError"]] S = .ok (.bl false) S := by kernel_rfl
theorem right_18 {n : Nat} {a b c : D} {S : Store} (ha : Vv a) (hb : Vv b) (hc : Vv c) : m_law_right n [.int 18, a, b, c] S = .ok (.bl true) S := by
  obtain ⟨t, ht⟩ := reprs (ds := []) (Nat.le_of_ble_eq_true rfl) (fun d hd => nomatch hd)
  have sm : uNeX (.lst []) (.lst []) S = .ok (.bl false) S := sames (fun d hd => nomatch hd)
  refine pure_ret rfl (show d_law_right S.length [some (.int 18), some a, some b, some c, none, none, none, none] S = .rt (.bl true) S from ?_) rfl
  refine sqN (δ2 := [some (.int 18), some a, some b, some c, some (.exn "Running" []), some (.lst []), none, none]) (asgE (ifeF (by kernel_rfl) (fnE (aS rfl (aS (va rfl ha.clo) (aS (va rfl hb.clo) (a1 (va rfl hc.clo))))) ((c_gkw_law_second_4).trans (second_18 ha hb hc)))) rfl) ?_
  refine sqN (δ2 := [some (.int 18), some a, some b, some c, some (.exn "Running" []), some (.lst []), some (.lst []), none]) (setE (ifeF (by kernel_rfl) (fnE (aS rfl (a1 rfl)) ((c_gkw_law_second_told_2).trans (told_18 ha hb hc))))) ?_
  refine sqN (ifF (orT (testE (binE rfl rfl sm)) (testE (binE (biE (a1 rfl) (ht S)) (biE (a1 rfl) (ht S)) nes))) rfl) ?_
  refine sqN (ifF (orT (testE (binE (fnE (a1 rfl) (c_gkw_law_under_1.trans under_18)) comp_18 (by kernel_rfl))) (testE (binE (y := .bl false) (biE (aS rfl (a1 rfl)) is_18_AsBeforeError) (by kernel_rfl) (by kernel_rfl)))) rfl) ?_
  refine sqN (ifF (orT (testE (binE (y := .bl false) (biE (aS rfl (a1 rfl)) is_18_ValueError) (by kernel_rfl) (by kernel_rfl))) (testE (binE (y := .bl false) (biE (aS rfl (a1 rfl)) is_18_LookupError) (by kernel_rfl) (by kernel_rfl)))) rfl) ?_
  exact retE (andE (binE (y := .bl true) (biE (aS rfl (a1 rfl)) is_18_RuntimeError) (by kernel_rfl) (by kernel_rfl)) (notE (biE (aS rfl (a1 (tupE (aS rfl (a1 rfl)) (Nat.le_of_ble_eq_true rfl)))) is_18_two)))
theorem second_19 {n : Nat} {a b c : D} {S : Store} (ha : Vv a) (hb : Vv b) (hc : Vv c) : m_law_second n [.int 19, a, b, c] S = .ok (.tup [.exn "Refusal" [("why", a)], .lst [a]]) S := pure_ret rfl (show d_law_second S.length [some (.int 19), some a, some b, some c] S = .rt (.tup [.exn "Refusal" [("why", a)], .lst [a]]) S from (sqN (ifF (by kernel_rfl) rfl) (sqN (ifF (by kernel_rfl) rfl) (sqN (ifF (by kernel_rfl) rfl) (sqN (ifF (by kernel_rfl) rfl) (sqN (ifF (by kernel_rfl) rfl) (sqN (ifF (by kernel_rfl) rfl) (sqN (ifF (by kernel_rfl) rfl) (sqN (ifF (by kernel_rfl) rfl) (sqR (ifT (by kernel_rfl) (retE (tupE (aS (mkx_eq nilE (a1 (va rfl ha.clo)) ⟨⟨rfl, rfl⟩, rfl, Nat.le_of_ble_eq_true rfl⟩) (a1 (lstE (a1 (va rfl ha.clo)) (Nat.le_of_ble_eq_true rfl)))) (Nat.le_of_ble_eq_true rfl)))))))))))))) (by simp only [low, lowL, lowF, ha.low, hb.low, hc.low, Bool.and_self])
theorem told_19 {n : Nat} {a b c : D} {S : Store} (ha : Vv a) (hb : Vv b) (hc : Vv c) : m_law_second_told n [.int 19, .exn "Refusal" [("why", a)]] S = .ok (.lst [a]) S := pure_ret rfl (show d_law_second_told S.length [some (.int 19), some (.exn "Refusal" [("why", a)])] S = .rt (.lst [a]) S by kernel_rfl) (by simp only [low, lowL, ha.low, hb.low, hc.low, Bool.and_self])
theorem under_19 {n : Nat} {fs : List (String × D)} {S : Store} : m_law_under n [.exn "Refusal" fs] S = .ok (.lst [.bl false, .bl false, .bl false, .bl false, .bl false, .bl false, .bl false, .bl false, .bl false, .bl false, .bl false, .bl false, .bl false, .bl false, .bl false, .bl false, .bl false, .bl false, .bl false, .bl true, .bl false, .bl false]) S := pure_ret rfl (show d_law_under S.length [some (.exn "Refusal" fs), none] S = .rt (.lst [.bl false, .bl false, .bl false, .bl false, .bl false, .bl false, .bl false, .bl false, .bl false, .bl false, .bl false, .bl false, .bl false, .bl false, .bl false, .bl false, .bl false, .bl false, .bl false, .bl true, .bl false, .bl false]) S by kernel_rfl) rfl
theorem comp_19 {n : Nat} {o1 o2 o3 o4 o5 o6 o7 : Option D} {S : Store} : dLc [7] (gN 7) (iR1 (aCons (dC (.int 22)) aNil)) tYesD e_law_right_1 n [some (.int 19), o1, o2, o3, o4, o5, o6, o7] S = .ok (.lst [.bl false, .bl false, .bl false, .bl false, .bl false, .bl false, .bl false, .bl false, .bl false, .bl false, .bl false, .bl false, .bl false, .bl false, .bl false, .bl false, .bl false, .bl false, .bl false, .bl true, .bl false, .bl false]) S := by kernel_rfl
theorem is_19_AsBeforeError {fs : List (String × D)} {S : Store} : bIsG isT isE [.exn "Refusal" fs, .glo "AsBeforeError"] S = .ok (.bl false) S := by kernel_rfl
theorem is_19_ValueError {fs : List (String × D)} {S : Store} : bIsG isT isE [.exn "Refusal" fs, .ty "ValueError"] S = .ok (.bl false) S := by kernel_rfl
theorem is_19_LookupError {fs : List (String × D)} {S : Store} : bIsG isT isE [.exn "Refusal" fs, .ty "LookupError"] S = .ok (.bl false) S := by kernel_rfl
theorem is_19_RuntimeError {fs : List (String × D)} {S : Store} : bIsG isT isE [.exn "Refusal" fs, .ty "RuntimeError"] S = .ok (.bl true) S := by kernel_rfl
theorem is_19_two {fs : List (String × D)} {S : Store} : bIsG isT isE [.exn "Refusal" fs, .tup [.ty "KeyError", .ty "IndexError"]] S = .ok (.bl false) S := by kernel_rfl
theorem right_19 {n : Nat} {a b c : D} {S : Store} (ha : Vv a) (hb : Vv b) (hc : Vv c) : m_law_right n [.int 19, a, b, c] S = .ok (.bl true) S := by
  obtain ⟨t, ht⟩ := reprs (ds := [a]) (Nat.le_of_ble_eq_true rfl) (by intro d hd; simp only [List.mem_cons, List.not_mem_nil, or_false] at hd; first | (rcases hd with rfl | rfl | rfl | rfl <;> assumption) | (rcases hd with rfl | rfl | rfl <;> assumption) | (rcases hd with rfl | rfl <;> assumption) | (subst hd; assumption))
  have sm : uNeX (.lst [a]) (.lst [a]) S = .ok (.bl false) S := sames (by intro d hd; simp only [List.mem_cons, List.not_mem_nil, or_false] at hd; first | (rcases hd with rfl | rfl | rfl | rfl <;> assumption) | (rcases hd with rfl | rfl | rfl <;> assumption) | (rcases hd with rfl | rfl <;> assumption) | (subst hd; assumption))
  refine pure_ret rfl (show d_law_right S.length [some (.int 19), some a, some b, some c, none, none, none, none] S = .rt (.bl true) S from ?_) rfl
  refine sqN (δ2 := [some (.int 19), some a, some b, some c, some (.exn "Refusal" [("why", a)]), some (.lst [a]), none, none]) (asgE (ifeF (by kernel_rfl) (fnE (aS rfl (aS (va rfl ha.clo) (aS (va rfl hb.clo) (a1 (va rfl hc.clo))))) ((c_gkw_law_second_4).trans (second_19 ha hb hc)))) rfl) ?_
  refine sqN (δ2 := [some (.int 19), some a, some b, some c, some (.exn "Refusal" [("why", a)]), some (.lst [a]), some (.lst [a]), none]) (setE (ifeF (by kernel_rfl) (fnE (aS rfl (a1 rfl)) ((c_gkw_law_second_told_2).trans (told_19 ha hb hc))))) ?_
  refine sqN (ifF (orT (testE (binE rfl rfl sm)) (testE (binE (biE (a1 rfl) (ht S)) (biE (a1 rfl) (ht S)) nes))) rfl) ?_
  refine sqN (ifF (orT (testE (binE (fnE (a1 rfl) (c_gkw_law_under_1.trans under_19)) comp_19 (by kernel_rfl))) (testE (binE (y := .bl false) (biE (aS rfl (a1 rfl)) is_19_AsBeforeError) (by kernel_rfl) (by kernel_rfl)))) rfl) ?_
  refine sqN (ifF (orT (testE (binE (y := .bl false) (biE (aS rfl (a1 rfl)) is_19_ValueError) (by kernel_rfl) (by kernel_rfl))) (testE (binE (y := .bl false) (biE (aS rfl (a1 rfl)) is_19_LookupError) (by kernel_rfl) (by kernel_rfl)))) rfl) ?_
  exact retE (andE (binE (y := .bl true) (biE (aS rfl (a1 rfl)) is_19_RuntimeError) (by kernel_rfl) (by kernel_rfl)) (notE (biE (aS rfl (a1 (tupE (aS rfl (a1 rfl)) (Nat.le_of_ble_eq_true rfl)))) is_19_two)))
theorem second_20 {n : Nat} {a b c : D} {S : Store} (ha : Vv a) (hb : Vv b) (hc : Vv c) : m_law_second n [.int 20, a, b, c] S = .ok (.tup [.exn "Refused" [("changed", c), ("why", b), ("event", a)], .lst [a, b, c]]) S := pure_ret rfl (show d_law_second S.length [some (.int 20), some a, some b, some c] S = .rt (.tup [.exn "Refused" [("changed", c), ("why", b), ("event", a)], .lst [a, b, c]]) S from (sqN (ifF (by kernel_rfl) rfl) (sqN (ifF (by kernel_rfl) rfl) (sqN (ifF (by kernel_rfl) rfl) (sqN (ifF (by kernel_rfl) rfl) (sqN (ifF (by kernel_rfl) rfl) (sqN (ifF (by kernel_rfl) rfl) (sqN (ifF (by kernel_rfl) rfl) (sqN (ifF (by kernel_rfl) rfl) (sqN (ifF (by kernel_rfl) rfl) (sqR (ifT (by kernel_rfl) (retE (tupE (aS (mkx_eq (a1 (va rfl ha.clo)) (aS (va rfl hb.clo) (a1 (va rfl hc.clo))) ⟨⟨rfl, rfl⟩, rfl, Nat.le_of_ble_eq_true rfl⟩) (a1 (lstE (aS (va rfl ha.clo) (aS (va rfl hb.clo) (a1 (va rfl hc.clo)))) (Nat.le_of_ble_eq_true rfl)))) (Nat.le_of_ble_eq_true rfl))))))))))))))) (by simp only [low, lowL, lowF, ha.low, hb.low, hc.low, Bool.and_self])
theorem told_20 {n : Nat} {a b c : D} {S : Store} (ha : Vv a) (hb : Vv b) (hc : Vv c) : m_law_second_told n [.int 20, .exn "Refused" [("changed", c), ("why", b), ("event", a)]] S = .ok (.lst [a, b, c]) S := pure_ret rfl (show d_law_second_told S.length [some (.int 20), some (.exn "Refused" [("changed", c), ("why", b), ("event", a)])] S = .rt (.lst [a, b, c]) S by kernel_rfl) (by simp only [low, lowL, ha.low, hb.low, hc.low, Bool.and_self])
theorem under_20 {n : Nat} {fs : List (String × D)} {S : Store} : m_law_under n [.exn "Refused" fs] S = .ok (.lst [.bl false, .bl false, .bl false, .bl false, .bl false, .bl false, .bl false, .bl false, .bl false, .bl false, .bl false, .bl false, .bl false, .bl false, .bl false, .bl false, .bl false, .bl false, .bl false, .bl false, .bl true, .bl false]) S := pure_ret rfl (show d_law_under S.length [some (.exn "Refused" fs), none] S = .rt (.lst [.bl false, .bl false, .bl false, .bl false, .bl false, .bl false, .bl false, .bl false, .bl false, .bl false, .bl false, .bl false, .bl false, .bl false, .bl false, .bl false, .bl false, .bl false, .bl false, .bl false, .bl true, .bl false]) S by kernel_rfl) rfl
theorem comp_20 {n : Nat} {o1 o2 o3 o4 o5 o6 o7 : Option D} {S : Store} : dLc [7] (gN 7) (iR1 (aCons (dC (.int 22)) aNil)) tYesD e_law_right_1 n [some (.int 20), o1, o2, o3, o4, o5, o6, o7] S = .ok (.lst [.bl false, .bl false, .bl false, .bl false, .bl false, .bl false, .bl false, .bl false, .bl false, .bl false, .bl false, .bl false, .bl false, .bl false, .bl false, .bl false, .bl false, .bl false, .bl false, .bl false, .bl true, .bl false]) S := by kernel_rfl
theorem is_20_AsBeforeError {fs : List (String × D)} {S : Store} : bIsG isT isE [.exn "Refused" fs, .glo "AsBeforeError"] S = .ok (.bl false) S := by kernel_rfl
theorem is_20_ValueError {fs : List (String × D)} {S : Store} : bIsG isT isE [.exn "Refused" fs, .ty "ValueError"] S = .ok (.bl false) S := by kernel_rfl
theorem is_20_LookupError {fs : List (String × D)} {S : Store} : bIsG isT isE [.exn "Refused" fs, .ty "LookupError"] S = .ok (.bl false) S := by kernel_rfl
theorem is_20_RuntimeError {fs : List (String × D)} {S : Store} : bIsG isT isE [.exn "Refused" fs, .ty "RuntimeError"] S = .ok (.bl true) S := by kernel_rfl
theorem is_20_two {fs : List (String × D)} {S : Store} : bIsG isT isE [.exn "Refused" fs, .tup [.ty "KeyError", .ty "IndexError"]] S = .ok (.bl false) S := by kernel_rfl
theorem right_20 {n : Nat} {a b c : D} {S : Store} (ha : Vv a) (hb : Vv b) (hc : Vv c) : m_law_right n [.int 20, a, b, c] S = .ok (.bl true) S := by
  obtain ⟨t, ht⟩ := reprs (ds := [a, b, c]) (Nat.le_of_ble_eq_true rfl) (by intro d hd; simp only [List.mem_cons, List.not_mem_nil, or_false] at hd; first | (rcases hd with rfl | rfl | rfl | rfl <;> assumption) | (rcases hd with rfl | rfl | rfl <;> assumption) | (rcases hd with rfl | rfl <;> assumption) | (subst hd; assumption))
  have sm : uNeX (.lst [a, b, c]) (.lst [a, b, c]) S = .ok (.bl false) S := sames (by intro d hd; simp only [List.mem_cons, List.not_mem_nil, or_false] at hd; first | (rcases hd with rfl | rfl | rfl | rfl <;> assumption) | (rcases hd with rfl | rfl | rfl <;> assumption) | (rcases hd with rfl | rfl <;> assumption) | (subst hd; assumption))
  refine pure_ret rfl (show d_law_right S.length [some (.int 20), some a, some b, some c, none, none, none, none] S = .rt (.bl true) S from ?_) rfl
  refine sqN (δ2 := [some (.int 20), some a, some b, some c, some (.exn "Refused" [("changed", c), ("why", b), ("event", a)]), some (.lst [a, b, c]), none, none]) (asgE (ifeF (by kernel_rfl) (fnE (aS rfl (aS (va rfl ha.clo) (aS (va rfl hb.clo) (a1 (va rfl hc.clo))))) ((c_gkw_law_second_4).trans (second_20 ha hb hc)))) rfl) ?_
  refine sqN (δ2 := [some (.int 20), some a, some b, some c, some (.exn "Refused" [("changed", c), ("why", b), ("event", a)]), some (.lst [a, b, c]), some (.lst [a, b, c]), none]) (setE (ifeF (by kernel_rfl) (fnE (aS rfl (a1 rfl)) ((c_gkw_law_second_told_2).trans (told_20 ha hb hc))))) ?_
  refine sqN (ifF (orT (testE (binE rfl rfl sm)) (testE (binE (biE (a1 rfl) (ht S)) (biE (a1 rfl) (ht S)) nes))) rfl) ?_
  refine sqN (ifF (orT (testE (binE (fnE (a1 rfl) (c_gkw_law_under_1.trans under_20)) comp_20 (by kernel_rfl))) (testE (binE (y := .bl false) (biE (aS rfl (a1 rfl)) is_20_AsBeforeError) (by kernel_rfl) (by kernel_rfl)))) rfl) ?_
  refine sqN (ifF (orT (testE (binE (y := .bl false) (biE (aS rfl (a1 rfl)) is_20_ValueError) (by kernel_rfl) (by kernel_rfl))) (testE (binE (y := .bl false) (biE (aS rfl (a1 rfl)) is_20_LookupError) (by kernel_rfl) (by kernel_rfl)))) rfl) ?_
  exact retE (andE (binE (y := .bl true) (biE (aS rfl (a1 rfl)) is_20_RuntimeError) (by kernel_rfl) (by kernel_rfl)) (notE (biE (aS rfl (a1 (tupE (aS rfl (a1 rfl)) (Nat.le_of_ble_eq_true rfl)))) is_20_two)))
theorem second_21 {n : Nat} {a b c : D} {S : Store} (ha : Vv a) (hb : Vv b) (hc : Vv c) : m_law_second n [.int 21, a, b, c] S = .ok (.tup [.exn "Stuck" [("changed", c), ("stuck", b), ("why", a), ("event", a)], .lst [a, a, b, c]]) S := pure_ret rfl (show d_law_second S.length [some (.int 21), some a, some b, some c] S = .rt (.tup [.exn "Stuck" [("changed", c), ("stuck", b), ("why", a), ("event", a)], .lst [a, a, b, c]]) S from (sqN (ifF (by kernel_rfl) rfl) (sqN (ifF (by kernel_rfl) rfl) (sqN (ifF (by kernel_rfl) rfl) (sqN (ifF (by kernel_rfl) rfl) (sqN (ifF (by kernel_rfl) rfl) (sqN (ifF (by kernel_rfl) rfl) (sqN (ifF (by kernel_rfl) rfl) (sqN (ifF (by kernel_rfl) rfl) (sqN (ifF (by kernel_rfl) rfl) (sqN (ifF (by kernel_rfl) rfl) (retE (tupE (aS (mkx_eq (a1 (va rfl ha.clo)) (aS (va rfl ha.clo) (aS (va rfl hb.clo) (a1 (va rfl hc.clo)))) ⟨⟨rfl, rfl⟩, rfl, Nat.le_of_ble_eq_true rfl⟩) (a1 (lstE (aS (va rfl ha.clo) (aS (va rfl ha.clo) (aS (va rfl hb.clo) (a1 (va rfl hc.clo))))) (Nat.le_of_ble_eq_true rfl)))) (Nat.le_of_ble_eq_true rfl)))))))))))))) (by simp only [low, lowL, lowF, ha.low, hb.low, hc.low, Bool.and_self])
theorem told_21 {n : Nat} {a b c : D} {S : Store} (ha : Vv a) (hb : Vv b) (hc : Vv c) : m_law_second_told n [.int 21, .exn "Stuck" [("changed", c), ("stuck", b), ("why", a), ("event", a)]] S = .ok (.lst [a, a, b, c]) S := pure_ret rfl (show d_law_second_told S.length [some (.int 21), some (.exn "Stuck" [("changed", c), ("stuck", b), ("why", a), ("event", a)])] S = .rt (.lst [a, a, b, c]) S by kernel_rfl) (by simp only [low, lowL, ha.low, hb.low, hc.low, Bool.and_self])
theorem under_21 {n : Nat} {fs : List (String × D)} {S : Store} : m_law_under n [.exn "Stuck" fs] S = .ok (.lst [.bl false, .bl false, .bl false, .bl false, .bl false, .bl false, .bl false, .bl false, .bl false, .bl false, .bl false, .bl false, .bl false, .bl false, .bl false, .bl false, .bl false, .bl false, .bl false, .bl false, .bl false, .bl true]) S := pure_ret rfl (show d_law_under S.length [some (.exn "Stuck" fs), none] S = .rt (.lst [.bl false, .bl false, .bl false, .bl false, .bl false, .bl false, .bl false, .bl false, .bl false, .bl false, .bl false, .bl false, .bl false, .bl false, .bl false, .bl false, .bl false, .bl false, .bl false, .bl false, .bl false, .bl true]) S by kernel_rfl) rfl
theorem comp_21 {n : Nat} {o1 o2 o3 o4 o5 o6 o7 : Option D} {S : Store} : dLc [7] (gN 7) (iR1 (aCons (dC (.int 22)) aNil)) tYesD e_law_right_1 n [some (.int 21), o1, o2, o3, o4, o5, o6, o7] S = .ok (.lst [.bl false, .bl false, .bl false, .bl false, .bl false, .bl false, .bl false, .bl false, .bl false, .bl false, .bl false, .bl false, .bl false, .bl false, .bl false, .bl false, .bl false, .bl false, .bl false, .bl false, .bl false, .bl true]) S := by kernel_rfl
theorem is_21_AsBeforeError {fs : List (String × D)} {S : Store} : bIsG isT isE [.exn "Stuck" fs, .glo "AsBeforeError"] S = .ok (.bl false) S := by kernel_rfl
theorem is_21_ValueError {fs : List (String × D)} {S : Store} : bIsG isT isE [.exn "Stuck" fs, .ty "ValueError"] S = .ok (.bl false) S := by kernel_rfl
theorem is_21_LookupError {fs : List (String × D)} {S : Store} : bIsG isT isE [.exn "Stuck" fs, .ty "LookupError"] S = .ok (.bl false) S := by kernel_rfl
theorem is_21_RuntimeError {fs : List (String × D)} {S : Store} : bIsG isT isE [.exn "Stuck" fs, .ty "RuntimeError"] S = .ok (.bl true) S := by kernel_rfl
theorem is_21_two {fs : List (String × D)} {S : Store} : bIsG isT isE [.exn "Stuck" fs, .tup [.ty "KeyError", .ty "IndexError"]] S = .ok (.bl false) S := by kernel_rfl
theorem right_21 {n : Nat} {a b c : D} {S : Store} (ha : Vv a) (hb : Vv b) (hc : Vv c) : m_law_right n [.int 21, a, b, c] S = .ok (.bl true) S := by
  obtain ⟨t, ht⟩ := reprs (ds := [a, a, b, c]) (Nat.le_of_ble_eq_true rfl) (by intro d hd; simp only [List.mem_cons, List.not_mem_nil, or_false] at hd; first | (rcases hd with rfl | rfl | rfl | rfl <;> assumption) | (rcases hd with rfl | rfl | rfl <;> assumption) | (rcases hd with rfl | rfl <;> assumption) | (subst hd; assumption))
  have sm : uNeX (.lst [a, a, b, c]) (.lst [a, a, b, c]) S = .ok (.bl false) S := sames (by intro d hd; simp only [List.mem_cons, List.not_mem_nil, or_false] at hd; first | (rcases hd with rfl | rfl | rfl | rfl <;> assumption) | (rcases hd with rfl | rfl | rfl <;> assumption) | (rcases hd with rfl | rfl <;> assumption) | (subst hd; assumption))
  refine pure_ret rfl (show d_law_right S.length [some (.int 21), some a, some b, some c, none, none, none, none] S = .rt (.bl true) S from ?_) rfl
  refine sqN (δ2 := [some (.int 21), some a, some b, some c, some (.exn "Stuck" [("changed", c), ("stuck", b), ("why", a), ("event", a)]), some (.lst [a, a, b, c]), none, none]) (asgE (ifeF (by kernel_rfl) (fnE (aS rfl (aS (va rfl ha.clo) (aS (va rfl hb.clo) (a1 (va rfl hc.clo))))) ((c_gkw_law_second_4).trans (second_21 ha hb hc)))) rfl) ?_
  refine sqN (δ2 := [some (.int 21), some a, some b, some c, some (.exn "Stuck" [("changed", c), ("stuck", b), ("why", a), ("event", a)]), some (.lst [a, a, b, c]), some (.lst [a, a, b, c]), none]) (setE (ifeF (by kernel_rfl) (fnE (aS rfl (a1 rfl)) ((c_gkw_law_second_told_2).trans (told_21 ha hb hc))))) ?_
  refine sqN (ifF (orT (testE (binE rfl rfl sm)) (testE (binE (biE (a1 rfl) (ht S)) (biE (a1 rfl) (ht S)) nes))) rfl) ?_
  refine sqN (ifF (orT (testE (binE (fnE (a1 rfl) (c_gkw_law_under_1.trans under_21)) comp_21 (by kernel_rfl))) (testE (binE (y := .bl false) (biE (aS rfl (a1 rfl)) is_21_AsBeforeError) (by kernel_rfl) (by kernel_rfl)))) rfl) ?_
  refine sqN (ifF (orT (testE (binE (y := .bl false) (biE (aS rfl (a1 rfl)) is_21_ValueError) (by kernel_rfl) (by kernel_rfl))) (testE (binE (y := .bl false) (biE (aS rfl (a1 rfl)) is_21_LookupError) (by kernel_rfl) (by kernel_rfl)))) rfl) ?_
  exact retE (andE (binE (y := .bl true) (biE (aS rfl (a1 rfl)) is_21_RuntimeError) (by kernel_rfl) (by kernel_rfl)) (notE (biE (aS rfl (a1 (tupE (aS rfl (a1 rfl)) (Nat.le_of_ble_eq_true rfl)))) is_21_two)))
end Lk07

namespace Lk07
open PySem PySem.Spec PyProof.Rows L2 G
theorem vv_non : Vv .non := ⟨rfl, rfl, fun S => rfl, .none, fun S => rfl, rfl, by decide +kernel, by decide⟩
theorem vv_tru : Vv (.bl true) := ⟨rfl, rfl, fun S => by kernel_rfl, .bool true, fun S => rfl, rfl, by decide +kernel, by decide⟩
theorem same_int {i : Int} {S : Store} : sameD S 6 (.int i) (.int i) = true := by
  unfold sameD
  have h := shaped_int (i := i)
  unfold SeqAt.shaped at h
  simp only [Bool.and_eq_true, decide_eq_true_eq] at h
  simp only [toPy, h.1, PyData.depth, PyData.eqv, Bool.true_and, beq_self_eq_true, Bool.and_true, Nat.zero_le, decide_true, Bool.true_or]
theorem int_len32 {c : Int} (h0 : 0 ≤ c) (h1 : c < 1000000000000000000000000000000) : (PyData.shown (.int c)).length ≤ 1000 := by
  obtain ⟨k, rfl⟩ : ∃ k : Nat, c = k := ⟨c.toNat, by omega⟩
  have e : (Str.ofString (toString (k : Int))).length = k.repr.length := by
    rw [show toString (k : Int) = k.repr from rfl]
    simp [Str.ofString_eq_toList, Str.length, Nat.repr_eq_ofList_toDigits]
  have e2 : (PyData.shown (.int (k : Int))).length = k.repr.length := by
    simp only [PyData.shown]
    exact e
  rw [e2]
  have : k.repr.length ≤ 30 := (Nat.length_repr_le_iff (by decide)).mpr (by omega)
  omega
theorem vv_int {i : Int} (h : (PyData.shown (.int i)).length ≤ 1000) (hl : i.natAbs.log2 < 1920) : Vv (.int i) := ⟨rfl, rfl, fun S => same_int, .int i, fun S => rfl, by simp only [PyData.showable, decide_eq_true hl], h, by simp [PyData.depth]⟩
theorem vv_r {r : Int} (h0 : 0 ≤ r) (h1 : r < 1000000000000000000000000000000) : Vv (.int r) := vv_int (int_len32 h0 h1) (by
  by_cases hz : r.natAbs = 0
  · rw [hz]; decide
  · exact Nat.lt_of_lt_of_le ((Nat.log2_lt hz).mpr (show r.natAbs < 2 ^ 120 by omega)) (by decide))
theorem vv_e : Vv (.str (Str.ofString "")) := ⟨rfl, rfl, fun S => by kernel_rfl, .str (Str.ofString ""), fun S => rfl, rfl, by decide +kernel, by decide⟩
theorem vv_a : Vv (.str (Str.ofString "a")) := ⟨rfl, rfl, fun S => by kernel_rfl, .str (Str.ofString "a"), fun S => rfl, rfl, by decide +kernel, by decide⟩
theorem vv_l : Vv (.lst [.int 1]) := ⟨rfl, rfl, fun S => by kernel_rfl, .list [.int 1], fun S => rfl, by decide +kernel, by decide +kernel, by decide⟩
theorem vv_t0 : Vv (.tup []) := ⟨rfl, rfl, fun S => by kernel_rfl, .tuple [], fun S => rfl, by decide +kernel, by decide +kernel, by decide⟩
theorem vv_t : Vv (.tup [.str (Str.ofString "a"), .tup [.int 0]]) := ⟨rfl, rfl, fun S => by kernel_rfl, .tuple [.str (Str.ofString "a"), .tuple [.int 0]], fun S => rfl, by decide +kernel, by decide +kernel, by decide⟩
theorem vv_d : Vv (.dct [(.str (Str.ofString "l"), .lst [.int 0])]) := ⟨rfl, rfl, fun S => by kernel_rfl, .dict [(.str (Str.ofString "l"), .list [.int 0])], fun S => rfl, by decide +kernel, by decide +kernel, by decide⟩
theorem value_ok {n b T : Nat} {S : Store} (h : Bag S b T) (hT : T + 10 < 1000000000000) : wpR (m_law_value n [.ref b] S) fun d S' => Vv d ∧ ∃ T', Bag S' b T' ∧ T' ≤ T + 2 := by
  have hb := bag_lt h
  refine w_pure rfl ?_
  simp only [startD, List.map_cons, List.map_nil, List.length_cons, List.length_nil, Nat.zero_add, Nat.reduceAdd, Nat.reduceSub, List.replicate_zero, List.replicate_succ, List.append_nil, List.cons_append, List.nil_append]
  unfold d_law_value
  have s0 : (0 ≤ sizeLine) = True := eq_true (by decide)
  have s1 : (1 ≤ sizeLine) = True := eq_true (by decide)
  have s2 : (2 ≤ sizeLine) = True := eq_true (by decide)
  have s11 : (11 ≤ sizeLine) = True := eq_true (by decide)
  rw [w_ret, w_fn]
  have hd : ∀ (δ : Slots) (S : Store), dDct [((dC (.str (Str.ofString "l"))), (dLst (aCons (dC (.int 0)) aNil)))] S.length δ S = .ok (.dct [(.str (Str.ofString "l"), .lst [.int 0])]) S := fun δ S => by kernel_rfl
  simp only [w_lst, w_tup, w_cons, w_nil, w_bin, w_fn, w_c, v_neg, dVar, ic_non, ic_bl, ic_int, ic_str, ic_ty, ic_glo, ic_tup, ic_lst, ic_dct, ic_obj, ic_exn, ic_ref, Bool.false_eq_true, if_false, List.getElem?_cons_zero, List.getElem?_cons_succ, wpR_ok, intP_int, p30]
  refine (take_ok (n := S.length) (c := 1000000000000000000000000000000) h (by omega) (by decide) (by decide +kernel)).mono fun d S' ⟨r2, x2, e1, a3, a4, e2, b2⟩ => ?_
  subst e1 e2
  have hd2 : ∀ (n : Nat) (δ : Slots) (S : Store), dDct [((dC (.str (Str.ofString "l"))), (dLst (aCons (dC (.int 0)) aNil)))] n δ S = .ok (.dct [(.str (Str.ofString "l"), .lst [.int 0])]) S := fun n δ S => by kernel_rfl
  simp only [w_lst, w_tup, w_cons, w_nil, w_bin, w_fn, w_c, v_neg, hd2, dVar, ic_non, ic_bl, ic_int, ic_str, ic_ty, ic_glo, ic_tup, ic_lst, ic_dct, ic_obj, ic_exn, ic_ref, Bool.false_eq_true, if_false, List.getElem?_cons_zero, List.getElem?_cons_succ, wpR_ok, intP_int, List.length_cons, List.length_nil, Nat.zero_add, Nat.reduceAdd, s0, s1, s2, s11, true_and, c_gkw_law_bag_2, c_gkm_BadName_init_1, c_gkm_BadCost_init_0_cost, c_gkm_BadStep_init_1, c_gkm_BadBoard_init_2, c_gkm_BadLine_init_1, c_gkm_BadGuard_init_0_name, c_gkm_Nested_init_1, c_gkm_TooMany_init_0_what, c_gkm_OpenFlow_init_0_place, c_gkm_BadPopulation_init_1, c_gkw_law_first_4, c_gkm_BadOrder_init_0_order, c_gkm_BadSubject_init_1, c_gkm_BadSizes_init_1, c_gkm_BadLast_init_0_last, c_gkm_NoOrder_init_0_population_events, c_gkm_Unknown_init_1, c_gkm_NoCell_init_1, c_gkm_Refusal_init_0_why, c_gkm_Refused_init_1_why_changed, c_gkm_Stuck_init_1_why_stuck_changed, c_gkw_law_second_4, c_gkw_law_first_told_2, c_gkw_law_second_told_2, c_gkw_law_under_1, c_gkw_law_right_4, c_gkw_law_take_2, c_gkw_law_of_2, c_gkw_law_value_1]
  have all : ∀ d ∈ [D.non, .bl true, .int 0, .int (-1), .int r2, .str (Str.ofString ""), .str (Str.ofString "a"), .lst [.int 1], .tup [], .tup [.str (Str.ofString "a"), .tup [.int 0]], .dct [(.str (Str.ofString "l"), .lst [.int 0])]], Vv d := fun d hd => by
    simp only [List.mem_cons, List.not_mem_nil, or_false] at hd
    rcases hd with rfl | rfl | rfl | rfl | rfl | rfl | rfl | rfl | rfl | rfl | rfl
    · exact vv_non
    · exact vv_tru
    · exact vv_int (by decide +kernel) (by decide)
    · exact vv_int (by decide +kernel) (by decide)
    · exact vv_r a3 a4
    · exact vv_e
    · exact vv_a
    · exact vv_l
    · exact vv_t0
    · exact vv_t
    · exact vv_d
  refine (of_ok (n := S.length) (xs := [D.non, .bl true, .int 0, .int (-1), .int r2, .str (Str.ofString ""), .str (Str.ofString "a"), .lst [.int 1], .tup [], .tup [.str (Str.ofString "a"), .tup [.int 0]], .dct [(.str (Str.ofString "l"), .lst [.int 0])]]) b2 (by omega) (by simp) (by simp) (fun d hd => (all d hd).low) (fun c => rfl) rfl (fun z => by simp)).mono fun r3 S3 hq => ?_
  obtain ⟨x3, hm, e3, b3⟩ := hq
  exact ⟨r3, by unfold fzFuel fzD; rw [if_pos (low_mono (Nat.zero_le _) r3 (all r3 hm).low)], all r3 hm, T + 1 + 1, bag_take b3 (by simpa using hb), by omega⟩
theorem right_ok {k : Nat} (hk : k < 22) {n : Nat} {a b c : D} {S : Store} (ha : Vv a) (hb : Vv b) (hc : Vv c) : m_law_right n [.int k, a, b, c] S = .ok (.bl true) S := by
  match k, hk with
  | 0, _ => exact right_0 ha hb hc
  | 1, _ => exact right_1 ha hb hc
  | 2, _ => exact right_2 ha hb hc
  | 3, _ => exact right_3 ha hb hc
  | 4, _ => exact right_4 ha hb hc
  | 5, _ => exact right_5 ha hb hc
  | 6, _ => exact right_6 ha hb hc
  | 7, _ => exact right_7 ha hb hc
  | 8, _ => exact right_8 ha hb hc
  | 9, _ => exact right_9 ha hb hc
  | 10, _ => exact right_10 ha hb hc
  | 11, _ => exact right_11 ha hb hc
  | 12, _ => exact right_12 ha hb hc
  | 13, _ => exact right_13 ha hb hc
  | 14, _ => exact right_14 ha hb hc
  | 15, _ => exact right_15 ha hb hc
  | 16, _ => exact right_16 ha hb hc
  | 17, _ => exact right_17 ha hb hc
  | 18, _ => exact right_18 ha hb hc
  | 19, _ => exact right_19 ha hb hc
  | 20, _ => exact right_20 ha hb hc
  | 21, _ => exact right_21 ha hb hc
  | k + 22, h => omega
theorem tr_bl {b : Bool} {S : Store} : truD S (.bl b) = some b := nr rfl
theorem turn_body {n b T k : Nat} {a0 a1 o3 : Option D} {S : Store} {E : Po} (h : Bag S b T) (hT : T + 100 < 1000000000000) (hk : k < 22)
    (q : ∀ (o3 : Option D) (S' : Store) (T' : Nat), Bag S' b T' → T' ≤ T + 6 → E.nx [a0, a1, some (.ref b), o3] S') : wpS (forStep (gN 3) b_law_1 n (.int k) [a0, a1, some (.ref b), o3] S) E := by
  unfold forStep b_law_1
  simp only [gN, List.set_cons_succ, List.set_cons_zero]
  rw [w_if, w_tnot, v_tru, w_fn]
  simp only [w_cons, w_nil, w_fn, dVar, ic_non, ic_bl, ic_int, ic_str, ic_ty, ic_glo, ic_tup, ic_lst, ic_dct, ic_obj, ic_exn, ic_ref, Bool.false_eq_true, if_false, List.getElem?_cons_zero, List.getElem?_cons_succ, wpR_ok, c_gkw_law_bag_2, c_gkm_BadName_init_1, c_gkm_BadCost_init_0_cost, c_gkm_BadStep_init_1, c_gkm_BadBoard_init_2, c_gkm_BadLine_init_1, c_gkm_BadGuard_init_0_name, c_gkm_Nested_init_1, c_gkm_TooMany_init_0_what, c_gkm_OpenFlow_init_0_place, c_gkm_BadPopulation_init_1, c_gkw_law_first_4, c_gkm_BadOrder_init_0_order, c_gkm_BadSubject_init_1, c_gkm_BadSizes_init_1, c_gkm_BadLast_init_0_last, c_gkm_NoOrder_init_0_population_events, c_gkm_Unknown_init_1, c_gkm_NoCell_init_1, c_gkm_Refusal_init_0_why, c_gkm_Refused_init_1_why_changed, c_gkm_Stuck_init_1_why_stuck_changed, c_gkw_law_second_4, c_gkw_law_first_told_2, c_gkw_law_second_told_2, c_gkw_law_under_1, c_gkw_law_right_4, c_gkw_law_take_2, c_gkw_law_of_2, c_gkw_law_value_1]
  refine (value_ok (n := n) h (by omega)).mono fun d1 S1 ⟨h1, T1, b1, t1⟩ => ?_
  refine (value_ok (n := n) b1 (by omega)).mono fun d2 S2 ⟨h2, T2, b2, t2⟩ => ?_
  refine (value_ok (n := n) b2 (by omega)).mono fun d3 S3 ⟨h3, T3, b3, t3⟩ => ?_
  simp only [right_ok hk h1 h2 h3, wpR_ok, tr_bl, optP_some, Bool.not_true, Bool.false_eq_true, if_false]
  rw [w_pass]
  exact q _ _ _ b3 (by omega)
theorem law_body {n k : Nat} {ns : List Int} {o1 o2 o3 : Option D} {S : Store} {E : Po} (hl : ns.length ≤ 100) (hk : k ≤ 10) (q : ∀ (o1 o2 o3 : Option D) (S' : Store), E.nx [some (.lst (ns.map .int)), o1, o2, o3] S') :
    wpS (forStep (gN 1) b_law_2 n (.int k) [some (.lst (ns.map .int)), o1, o2, o3] S) E := by
  unfold forStep b_law_2
  simp only [gN, List.set_cons_succ, List.set_cons_zero]
  rw [w_seq, w_set, w_fn]
  simp only [w_cons, w_nil, dVar, ic_non, ic_bl, ic_int, ic_str, ic_ty, ic_glo, ic_tup, ic_lst, ic_dct, ic_obj, ic_exn, ic_ref, Bool.false_eq_true, if_false, List.getElem?_cons_zero, List.getElem?_cons_succ, wpR_ok, c_gkw_law_bag_2, c_gkm_BadName_init_1, c_gkm_BadCost_init_0_cost, c_gkm_BadStep_init_1, c_gkm_BadBoard_init_2, c_gkm_BadLine_init_1, c_gkm_BadGuard_init_0_name, c_gkm_Nested_init_1, c_gkm_TooMany_init_0_what, c_gkm_OpenFlow_init_0_place, c_gkm_BadPopulation_init_1, c_gkw_law_first_4, c_gkm_BadOrder_init_0_order, c_gkm_BadSubject_init_1, c_gkm_BadSizes_init_1, c_gkm_BadLast_init_0_last, c_gkm_NoOrder_init_0_population_events, c_gkm_Unknown_init_1, c_gkm_NoCell_init_1, c_gkm_Refusal_init_0_why, c_gkm_Refused_init_1_why_changed, c_gkm_Stuck_init_1_why_stuck_changed, c_gkw_law_second_4, c_gkw_law_first_told_2, c_gkw_law_second_told_2, c_gkw_law_under_1, c_gkw_law_right_4, c_gkw_law_take_2, c_gkw_law_of_2, c_gkw_law_value_1]
  refine (bag_ok (n := n) hk hl).mono fun r S1 ⟨e, hb, c, hS⟩ => ?_
  subst e
  simp only [List.set_cons_succ, List.set_cons_zero]
  rw [w_dFor, v_iR1]
  simp only [w_cons, w_nil, w_c, wpR_ok, l1P_eq, intP_int]
  refine ⟨range_ok (by decide) (by decide), ?_⟩
  refine w_forL (I := fun ds δ S' => ∃ (lo m T : Nat) (o3 : Option D), δ = [some (.lst (ns.map .int)), some (.int k), some (.ref S.length), o3] ∧ ds = rangeD lo 1 m ∧ lo + m ≤ 22 ∧ Bag S' S.length T ∧ T ≤ 6 * lo) ?_ ?_ _ _ _ ⟨0, 22, 0, o3, rfl, rfl, by omega, hb, by omega⟩
  · rintro d ds δ S2 ⟨lo, m, T, o3, rfl, e, hlo, b2, hT⟩
    match m, e with
    | m + 1, e =>
      have e2 := List.cons.inj e
      rw [e2.1]
      exact turn_body b2 (by omega) (by omega) fun o3 S' T' b3 hT' => ⟨lo + 1, m, T', o3, rfl, e2.2, by omega, b3, by omega⟩
  · rintro δ S2 ⟨lo, m, T, o3, rfl, e, hlo, b2, hT⟩
    exact q _ _ _ _
theorem law_true : G.mTrue m_law 63 := by
  intro ns hl
  have key : wpR (m_law 0 [.lst (ns.map .int)] []) fun d _ => d = .bl true := by
    refine w_pure rfl ?_
    simp only [startD, List.map_cons, List.map_nil, List.length_cons, List.length_nil, Nat.zero_add, Nat.reduceAdd, Nat.reduceSub, List.replicate_zero, List.replicate_succ, List.append_nil, List.cons_append, List.nil_append]
    have hlen : bLen [.lst (ns.map .int)] [] = .ok (.int ns.length) [] := by rw [len_its (fun z => by simp) its_lst, List.length_map]
    unfold d_law
    rw [w_seq, w_dFor, v_iR1]
    simp only [w_cons, w_nil, w_bi, w_c, dVar, ic_non, ic_bl, ic_int, ic_str, ic_ty, ic_glo, ic_tup, ic_lst, ic_dct, ic_obj, ic_exn, ic_ref, Bool.false_eq_true, if_false, List.getElem?_cons_zero, wpR_ok, hlen, show ∀ S, bMin2 [.int 2, .int ns.length] S = .ok (.int (if (ns.length : Int) < 2 then ns.length else 2)) S from fun _ => rfl, show ∀ (j : Int) S, bMax2 [.int 1, .int j] S = .ok (.int (if j > 1 then j else 1)) S from fun _ _ => rfl, l1P_eq, intP_int]
    generalize hj : (if (if (ns.length : Int) < 2 then (ns.length : Int) else 2) > 1 then (if (ns.length : Int) < 2 then (ns.length : Int) else 2) else 1) = j
    have hj2 : 0 ≤ j ∧ j ≤ 2 := by
      rw [← hj]
      repeat' split
      all_goals omega
    refine ⟨range_ok hj2.1 (by omega), ?_⟩
    refine w_forL (I := fun ds δ S' => ∃ (lo m : Nat) (o1 o2 o3 : Option D), δ = [some (.lst (ns.map .int)), o1, o2, o3] ∧ ds = rangeD lo 1 m ∧ lo + m ≤ 4) ?_ ?_ _ _ _ ⟨0, j.toNat, none, none, none, rfl, rfl, by omega⟩
    · rintro d ds δ S1 ⟨lo, m, o1, o2, o3, rfl, e, hlo⟩
      match m, e with
      | m + 1, e =>
        have e2 := List.cons.inj e
        rw [e2.1]
        exact law_body (by omega) (by omega) fun o1 o2 o3 S' => ⟨lo + 1, m, o1, o2, o3, rfl, e2.2, by omega⟩
    · rintro δ S1 ⟨lo, m, o1, o2, o3, rfl, e, hlo⟩
      simp only [w_ret, w_c]
      exact ⟨_, low_fz rfl, rfl⟩
  obtain ⟨d, S', e, rfl⟩ := wpR_ex key
  exact ⟨S', e⟩
end Lk07

theorem PySem.Challenge.cw_asbefore_k07_errors_made_holds : PySem.Challenge.rw_asbefore_k07_errors_made.Holds := by
  exact law_of Lk07.law_true
