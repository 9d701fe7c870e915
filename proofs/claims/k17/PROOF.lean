import PyProof.Rows.All
import Wide.All
import OpenK.AllK
import Wide.FinOn
import HandS.ForMost
import HandS.ForExc
import HandS.Wide
import HandS.Defaults
import HandS.Flow
import HandS.TupAny
import HandS.Style
import HandS.Deep
import HandS.More
import HandS.Comp
import HandS.IsInst
import HandS.RaiseMore
import HandS.Conv
import HandS.SortInts
import PyProof.ReprRoads
import HandS.Ends
import HandS.HeadEnd
import HandS.HeadHook1
import HandS.HeadHook2
import HandS.HeadHook3
import HandS.Head0
import HandS.Head1
import HandS.Head2
import HandS.SortRule
import HandS.HeadHook4
import PyProof.ReprLen
import PySem.Challenge.RW_pupilpairs_k17_whole_calls_one_to_one
set_option Elab.async false
set_option linter.all false
set_option maxRecDepth 100000
set_option maxHeartbeats 0
namespace Sh
open PySem L2

inductive W where
  | non | bl (b : Bool) | int (i : Int) | str (x : Str)
  | tup (xs : List W) | lst (xs : List W) | dct (kvs : List (Key × W))
  | obj (C : Addr) (fs : List (Str × W)) | ref (a : Addr) | ty (n : String) | scr (ns : List Int)
/-- an object that may be written -/
inductive SO where
  | lst (ws : List W) | dct (kvs : List (Key × W)) | ins (C : Addr) (fs : List (Str × W))
inductive Slot where
  | none | val (w : W) | own (o : SO)
abbrev Sto := Addr → Option SO
structure Stt where
  ρ : List Slot
  S : Sto
/-- a result: a value; a new object that nobody else holds -/
inductive R where
  | val (w : W) | new (o : SO)
def SO.fz : SO → W
  | .lst ws => .lst ws
  | .dct kvs => .dct kvs
  | .ins C fs => .obj C fs
def R.fz : R → W
  | .val w => w
  | .new o => o.fz

def FzL (Lv : Addr → Prop) (H : Hp) (a : Addr) (xs : List V) : Prop := H a = some (.lst xs) ∧ ¬ Lv a
/-- the script: read, never written -/
def FzS (K : PySem.W.Frag) (Lv : Addr → Prop) (H : Hp) (a : Addr) (xs : List V) : Prop :=
  ((∃ o, H a = some (.frz o (.lst xs))) ∧ ¬ Lv a) ∨ FzL Lv H a xs ∨ ∃ (o : Obj) (its : Array Value) (n : Nat), K.lookup a = some o ∧ o.cls = .type "list" ∧ o.dict = none ∧ o.data = .seq its n ∧ its.size ≤ sizeLine ∧ Vals xs its.toList
def FzT (K : PySem.W.Frag) (Lv : Addr → Prop) (H : Hp) (a : Addr) (xs : List V) : Prop :=
  (Rd H a (.tup xs) ∧ ¬ Lv a) ∨ ∃ (o : Obj) (its : Array Value) (n : Nat), K.lookup a = some o ∧ o.cls = .type "tuple" ∧ o.data = .seq its n ∧ its.size ≤ sizeLine ∧ Vals xs its.toList
theorem FzL.sq {K : PySem.W.Frag} {Lv : Addr → Prop} {H : Hp} {a : Addr} {xs : List V} (h : FzL Lv H a xs) : SqL K H a xs := SqL.of h.1
theorem FzS.sq {K : PySem.W.Frag} {Lv : Addr → Prop} {H : Hp} {a : Addr} {xs : List V} (h : FzS K Lv H a xs) : SqL K H a xs := by
  rcases h with ⟨h, _⟩ | h | h
  · exact .inl (.inr h)
  · exact h.sq
  · exact .inr h
theorem FzT.sq {K : PySem.W.Frag} {Lv : Addr → Prop} {H : Hp} {a : Addr} {xs : List V} (h : FzT K Lv H a xs) : SqT K H a xs := h.imp (·.1) id
mutual
inductive RelW (K : PySem.W.Frag) (Lv : Addr → Prop) (H : Hp) : W → V → Prop
  | non : RelW K Lv H .non .non
  | bl (b : Bool) : RelW K Lv H (.bl b) (.bl b)
  | int (i : Int) : RelW K Lv H (.int i) (.int i)
  | str (x : Str) : RelW K Lv H (.str x) (.str x)
  | ty (n : String) : RelW K Lv H (.ty n) (.ty n)
  | ref (a : Addr) : RelW K Lv H (.ref a) (.ref a)
  | tup {a : Addr} {ws : List W} {vs : List V} : FzT K Lv H a vs → RelWs K Lv H ws vs → RelW K Lv H (.tup ws) (.ref a)
  | scr {a : Addr} {ns : List Int} : FzS K Lv H a (ns.map V.int) → RelW K Lv H (.scr ns) (.ref a)
  | lst {a : Addr} {ws : List W} {vs : List V} : FzL Lv H a vs → RelWs K Lv H ws vs → RelW K Lv H (.lst ws) (.ref a)
  | dct {a : Addr} {ws : List (Key × W)} {vs : List (Key × V)} : H a = some (.dK vs) → ¬ Lv a → RelKs K Lv H ws vs → RelW K Lv H (.dct ws) (.ref a)
  | obj {a C dx : Addr} {ws : List (Str × W)} {vs : List (Str × V)} : H a = some (.ins C dx vs) → ¬ Lv a → RelFs K Lv H ws vs → RelW K Lv H (.obj C ws) (.ref a)
inductive RelWs (K : PySem.W.Frag) (Lv : Addr → Prop) (H : Hp) : List W → List V → Prop
  | nil : RelWs K Lv H [] []
  | cons {w : W} {v : V} {ws : List W} {vs : List V} : RelW K Lv H w v → RelWs K Lv H ws vs → RelWs K Lv H (w :: ws) (v :: vs)
inductive RelKs (K : PySem.W.Frag) (Lv : Addr → Prop) (H : Hp) : List (Key × W) → List (Key × V) → Prop
  | nil : RelKs K Lv H [] []
  | cons {k : Key} {w : W} {v : V} {ws : List (Key × W)} {vs : List (Key × V)} : RelW K Lv H w v → RelKs K Lv H ws vs → RelKs K Lv H ((k, w) :: ws) ((k, v) :: vs)
inductive RelFs (K : PySem.W.Frag) (Lv : Addr → Prop) (H : Hp) : List (Str × W) → List (Str × V) → Prop
  | nil : RelFs K Lv H [] []
  | cons {k : Str} {w : W} {v : V} {ws : List (Str × W)} {vs : List (Str × V)} : RelW K Lv H w v → RelFs K Lv H ws vs → RelFs K Lv H ((k, w) :: ws) ((k, v) :: vs)
end
/-- what is not live stays, and stays not live -/
def Mv (Lv : Addr → Prop) (H : Hp) (Lv' : Addr → Prop) (H' : Hp) : Prop := ∀ a u, H a = some u → ¬ Lv a → H' a = some u ∧ ¬ Lv' a
section
variable {K : PySem.W.Frag} {Lv Lv' : Addr → Prop} {H H' : Hp}
theorem FzL.mono (m : Mv Lv H Lv' H') {a : Addr} {xs : List V} (h : FzL Lv H a xs) : FzL Lv' H' a xs := m _ _ h.1 h.2
theorem FzS.mono (m : Mv Lv H Lv' H') {a : Addr} {xs : List V} (h : FzS K Lv H a xs) : FzS K Lv' H' a xs := by
  rcases h with ⟨⟨o, h⟩, n⟩ | h | h
  · exact .inl ⟨⟨o, (m _ _ h n).1⟩, (m _ _ h n).2⟩
  · exact .inr (.inl (h.mono m))
  · exact .inr (.inr h)
theorem FzT.mono (m : Mv Lv H Lv' H') {a : Addr} {xs : List V} (h : FzT K Lv H a xs) : FzT K Lv' H' a xs := by
  rcases h with ⟨h | ⟨o, h⟩, n⟩ | h
  · exact .inl ⟨.inl (m _ _ h n).1, (m _ _ h n).2⟩
  · exact .inl ⟨.inr ⟨o, (m _ _ h n).1⟩, (m _ _ h n).2⟩
  · exact .inr h
mutual
theorem RelW.mono (m : Mv Lv H Lv' H') : ∀ {w : W} {v : V}, RelW K Lv H w v → RelW K Lv' H' w v
  | _, _, .non => .non
  | _, _, .bl b => .bl b
  | _, _, .int i => .int i
  | _, _, .str x => .str x
  | _, _, .ty n => .ty n
  | _, _, .ref a => .ref a
  | _, _, .tup h r => .tup (h.mono m) (RelWs.mono m r)
  | _, _, .lst h r => .lst (h.mono m) (RelWs.mono m r)
  | _, _, .scr h => .scr (h.mono m)
  | _, _, .dct h n r => .dct (m _ _ h n).1 (m _ _ h n).2 (RelKs.mono m r)
  | _, _, .obj h n r => .obj (m _ _ h n).1 (m _ _ h n).2 (RelFs.mono m r)
theorem RelWs.mono (m : Mv Lv H Lv' H') : ∀ {ws : List W} {vs : List V}, RelWs K Lv H ws vs → RelWs K Lv' H' ws vs
  | _, _, .nil => .nil
  | _, _, .cons h r => .cons (RelW.mono m h) (RelWs.mono m r)
theorem RelKs.mono (m : Mv Lv H Lv' H') : ∀ {ws : List (Key × W)} {vs : List (Key × V)}, RelKs K Lv H ws vs → RelKs K Lv' H' ws vs
  | _, _, .nil => .nil
  | _, _, .cons h r => .cons (RelW.mono m h) (RelKs.mono m r)
theorem RelFs.mono (m : Mv Lv H Lv' H') : ∀ {ws : List (Str × W)} {vs : List (Str × V)}, RelFs K Lv H ws vs → RelFs K Lv' H' ws vs
  | _, _, .nil => .nil
  | _, _, .cons h r => .cons (RelW.mono m h) (RelFs.mono m r)
end
theorem RelWs.length : ∀ {ws : List W} {vs : List V}, RelWs K Lv H ws vs → ws.length = vs.length
  | _, _, .nil => rfl
  | _, _, .cons _ r => congrArg Nat.succ (RelWs.length r)
theorem RelWs.get : ∀ {ws : List W} {vs : List V} {i : Nat} {w : W}, RelWs K Lv H ws vs → ws[i]? = some w → ∃ v, vs[i]? = some v ∧ RelW K Lv H w v
  | _, _, _, _, .nil, e => by simp at e
  | _, _, 0, _, .cons h _, e => by
    have e2 := Option.some.inj e
    subst e2
    exact ⟨_, rfl, h⟩
  | _, _, i + 1, w, .cons _ r, e => RelWs.get (i := i) r (by simpa using e)
theorem RelWs.append : ∀ {ws ws' : List W} {vs vs' : List V}, RelWs K Lv H ws vs → RelWs K Lv H ws' vs' → RelWs K Lv H (ws ++ ws') (vs ++ vs')
  | _, _, _, _, .nil, s => s
  | _, _, _, _, .cons h r, s => .cons h (RelWs.append r s)
end
/-- what stands at an address that may be written -/
def RelO (K : PySem.W.Frag) (Lv : Addr → Prop) (H : Hp) (a : Addr) : SO → Prop
  | .lst ws => ∃ vs, H a = some (.lst vs) ∧ RelWs K Lv H ws vs
  | .dct kvs => ∃ vs, H a = some (.dK vs) ∧ RelKs K Lv H kvs vs
  | .ins C fs => ∃ dx vs, H a = some (.ins C dx vs) ∧ RelFs K Lv H fs vs
theorem RelO.at {K : PySem.W.Frag} {Lv : Addr → Prop} {H : Hp} {a : Addr} {o : SO} (h : RelO K Lv H a o) : ∃ u, H a = some u := by
  cases o with
  | lst ws => obtain ⟨vs, e, _⟩ := h; exact ⟨_, e⟩
  | dct ws => obtain ⟨vs, e, _⟩ := h; exact ⟨_, e⟩
  | ins C ws => obtain ⟨dx, vs, e, _⟩ := h; exact ⟨_, e⟩
theorem RelO.move {K : PySem.W.Frag} {Lv Lv' : Addr → Prop} {H H' : Hp} {a : Addr} {o : SO} (h : RelO K Lv H a o) (e : ∀ u, H a = some u → H' a = some u) (m : Mv Lv H Lv' H') : RelO K Lv' H' a o := by
  cases o with
  | lst ws => obtain ⟨vs, q, r⟩ := h; exact ⟨vs, e _ q, r.mono m⟩
  | dct ws => obtain ⟨vs, q, r⟩ := h; exact ⟨vs, e _ q, r.mono m⟩
  | ins C ws => obtain ⟨dx, vs, q, r⟩ := h; exact ⟨dx, vs, e _ q, r.mono m⟩
theorem RelO.fz {K : PySem.W.Frag} {Lv : Addr → Prop} {H : Hp} {a : Addr} {o : SO} (h : RelO K Lv H a o) (n : ¬ Lv a) : RelW K Lv H o.fz (.ref a) := by
  cases o with
  | lst ws => obtain ⟨vs, q, r⟩ := h; exact .lst ⟨q, n⟩ r
  | dct ws => obtain ⟨vs, q, r⟩ := h; exact .dct q n r
  | ins C ws => obtain ⟨dx, vs, q, r⟩ := h; exact .obj q n r

/-- the addresses of the objects that slots own -/
def Ow (ρ : List Slot) (σ : St) (a : Addr) : Prop := ∃ (i : Nat) (o : SO), ρ[i]? = some (.own o) ∧ σ[i]? = some (some (.ref a))
/-- may be written by us -/
def Wr (st : Stt) (σ : St) (a : Addr) : Prop := st.S a ≠ none ∨ Ow st.ρ σ a
def Live (F : Addr → Prop) (st : Stt) (σ : St) (a : Addr) : Prop := Wr st σ a ∨ F a
structure Lk (K : PySem.W.Frag) (F : Addr → Prop) (st : Stt) (σ : St) (H : Hp) : Prop where
  len : st.ρ.length = σ.length
  val : ∀ (i : Nat) (w : W), st.ρ[i]? = some (.val w) → ∃ v, σ[i]? = some (some v) ∧ RelW K (Live F st σ) H w v
  own : ∀ (i : Nat) (o : SO), st.ρ[i]? = some (.own o) → ∃ a, σ[i]? = some (some (.ref a)) ∧ RelO K (Live F st σ) H a o ∧ st.S a = none ∧ ¬ F a
  inj : ∀ (i j : Nat) (o o' : SO) (a : Addr), st.ρ[i]? = some (.own o) → st.ρ[j]? = some (.own o') → σ[i]? = some (some (.ref a)) → σ[j]? = some (some (.ref a)) → i = j
  sto : ∀ a o, st.S a = some o → RelO K (Live F st σ) H a o
  ftr : ∀ a, F a → ∃ u, H a = some u
  fdis : ∀ a, F a → st.S a = none
structure Step (st : Stt) (σ : St) (H : Hp) (st' : Stt) (σ' : St) (H' : Hp) : Prop where
  keep : ∀ a u, H a = some u → ¬ Wr st σ a → H' a = some u
  new : ∀ a, Wr st' σ' a → Wr st σ a ∨ H a = none
theorem Step.refl {st : Stt} {σ : St} {H : Hp} : Step st σ H st σ H := ⟨fun _ _ e _ => e, fun _ w => .inl w⟩
theorem Step.trans {st st1 st2 : Stt} {σ σ1 σ2 : St} {H H1 H2 : Hp} (a : Step st σ H st1 σ1 H1) (b : Step st1 σ1 H1 st2 σ2 H2) : Step st σ H st2 σ2 H2 := by
  refine ⟨fun x u e n => b.keep x u (a.keep x u e n) fun w => ?_, fun x w => ?_⟩
  · rcases a.new x w with z | z
    · exact n z
    · rw [e] at z; cases z
  · rcases b.new x w with z | z
    · exact a.new x z
    · by_cases h : Wr st σ x
      · exact .inl h
      · cases e : H x with
        | none => exact .inr rfl
        | some u =>
          rw [a.keep x u e h] at z
          cases z
theorem Step.mv {F : Addr → Prop} {st st' : Stt} {σ σ' : St} {H H' : Hp} (s : Step st σ H st' σ' H') : Mv (Live F st σ) H (Live F st' σ') H' := fun a u e n =>
  ⟨s.keep a u e fun w => n (.inl w), fun l => by
    rcases l with l | l
    · rcases s.new a l with z | z
      · exact n (.inl z)
      · rw [e] at z; cases z
    · exact n (.inr l)⟩
section
variable {K : PySem.W.Frag} {F : Addr → Prop} {st st' : Stt} {σ σ' : St} {H H' : Hp}
theorem Lk.wtr (l : Lk K F st σ H) {a : Addr} (w : Wr st σ a) : ∃ u, H a = some u := by
  rcases w with w | ⟨i, o, e1, e2⟩
  · cases e : st.S a with
    | none => exact absurd e w
    | some o => exact (l.sto a o e).at
  · obtain ⟨b, e3, r, _⟩ := l.own i o e1
    rw [e2] at e3
    cases e3
    exact r.at
theorem Lk.fresh (l : Lk K F st σ H) {a : Addr} (e : H a = none) : ¬ Live F st σ a := fun z => by
  rcases z with z | z
  · obtain ⟨u, q⟩ := l.wtr z
    rw [e] at q; cases q
  · obtain ⟨u, q⟩ := l.ftr a z
    rw [e] at q; cases q
/-- a new object, tracked, that is nobody's -/
theorem Step.laid (l : Lk K F st σ H) {p : Addr} {o : HO} (e : H p = none) : Step st σ H st σ (upd H p o) :=
  ⟨fun a u q _ => by rw [upd_ne (ne_of_none q e)]; exact q, fun _ w => .inl w⟩
theorem Lk.laid (l : Lk K F st σ H) {p : Addr} {o : HO} (e : H p = none) : Lk K F st σ (upd H p o) := by
  have s : Step st σ H st σ (upd H p o) := Step.laid l e
  have k : ∀ a u, H a = some u → upd H p o a = some u := fun a u q => by rw [upd_ne (ne_of_none q e)]; exact q
  refine ⟨l.len, fun i w q => ?_, fun i o q => ?_, l.inj, fun a o q => (l.sto a o q).move (k a) s.mv, fun a q => ?_, l.fdis⟩
  · obtain ⟨v, e1, r⟩ := l.val i w q
    exact ⟨v, e1, r.mono s.mv⟩
  · obtain ⟨a, e1, r, n1, n2⟩ := l.own i o q
    exact ⟨a, e1, r.move (k a) s.mv, n1, n2⟩
  · obtain ⟨u, z⟩ := l.ftr a q
    exact ⟨u, k a u z⟩
theorem FzT.new (l : Lk K F st σ H) {p : Addr} {vs : List V} (e : H p = none) : FzT K (Live F st σ) (upd H p (.tup vs)) p vs := .inl ⟨.inl upd_same, l.fresh e⟩
theorem FzL.new (l : Lk K F st σ H) {p : Addr} {vs : List V} (e : H p = none) : FzL (Live F st σ) (upd H p (.lst vs)) p vs := ⟨upd_same, l.fresh e⟩
/-- fewer are foreign -/
theorem Lk.less {F' : Addr → Prop} (l : Lk K F st σ H) (h : ∀ a, F' a → F a) : Lk K F' st σ H := by
  have m : Mv (Live F st σ) H (Live F' st σ) H := fun a u e n => ⟨e, fun z => n (z.imp id (h a))⟩
  refine ⟨l.len, fun i w q => ?_, fun i o q => ?_, l.inj, fun a o q => (l.sto a o q).move (fun _ e => e) m, fun a q => l.ftr a (h a q), fun a q => l.fdis a (h a q)⟩
  · obtain ⟨v, e1, r⟩ := l.val i w q
    exact ⟨v, e1, r.mono m⟩
  · obtain ⟨a, e1, r, n1, n2⟩ := l.own i o q
    exact ⟨a, e1, r.move (fun _ e => e) m, n1, fun z => n2 (h a z)⟩
end
end Sh
namespace Sh
open PySem L2

structure Exn where
  C : Addr
  fs : List (Str × W)
abbrev XI := Exn → Stt → Prop
abbrev IE := XI → Stt → (W → Stt → Prop) → Prop
abbrev IN := XI → Stt → (SO → Stt → Prop) → Prop
abbrev IT := XI → Stt → (Bool → Stt → Prop) → Prop
abbrev IA := XI → Stt → (List W → Stt → Prop) → Prop
structure IEnds where
  nx : Stt → Prop
  rt : R → Sto → Prop
  bk : Stt → Prop := fun _ => False
  ct : Stt → Prop := fun _ => False
abbrev IS := XI → IEnds → Stt → Prop
abbrev ISp := List W → Sto → (R → Sto → Prop) → (Exn → Sto → Prop) → Prop

/-- nobody else can know it -/
def NewAt (st : Stt) (σ : St) (H : Hp) (a : Addr) : Prop := Wr st σ a ∨ H a = none
def FA (F : Addr → Prop) (a : Addr) : Addr → Prop := fun b => F b ∨ b = a
def RelX (K : PySem.W.Frag) (Lv : Addr → Prop) (H : Hp) (x : Exn) (cls : Value) (d : Option Addr) : Prop :=
  cls = .ref x.C ∧ ((x.fs = [] ∧ d = none) ∨ ∃ a vs, d = some a ∧ H a = some (.xd vs) ∧ ¬ Lv a ∧ RelFs K Lv H x.fs vs)
def UpX (K : PySem.W.Frag) (F : Addr → Prop) (Wx : WX) (st : Stt) (σ : St) (H : Hp) (EI : XI) : Prop :=
  ∀ x st' σ' cls d H', EI x st' → Lk K F st' σ' H' → Step st σ H st' σ' H' → RelX K (Live F st' σ') H' x cls d → Wx cls d σ' H'
def LE (K : PySem.W.Frag) (F : Addr → Prop) (Wx : WX) (i : IE) : TE := fun σ H Q => ∃ st QI EI, Lk K F st σ H ∧ i EI st QI ∧ UpX K F Wx st σ H EI ∧
  ∀ w st' v H', QI w st' → Lk K F st' σ H' → Step st σ H st' σ H' → RelW K (Live F st' σ) H' w v → Q v H'
def LT (K : PySem.W.Frag) (F : Addr → Prop) (Wx : WX) (i : IT) : TT := fun σ H Q => ∃ st QI EI, Lk K F st σ H ∧ i EI st QI ∧ UpX K F Wx st σ H EI ∧
  ∀ b st' H', QI b st' → Lk K F st' σ H' → Step st σ H st' σ H' → Q b H'
def LA (K : PySem.W.Frag) (F : Addr → Prop) (Wx : WX) (n : Nat) (i : IA) : TA := fun σ H Q => ∃ st QI EI, Lk K F st σ H ∧ i EI st QI ∧ UpX K F Wx st σ H EI ∧
  ∀ ws st' vs H', ws.length = n → QI ws st' → Lk K F st' σ H' → Step st σ H st' σ H' → RelWs K (Live F st' σ) H' ws vs → Q vs H'
def LN (K : PySem.W.Frag) (F : Addr → Prop) (Wx : WX) (i : IN) : TE := fun σ H Q => ∃ st QI EI, Lk K F st σ H ∧ i EI st QI ∧ UpX K F Wx st σ H EI ∧
  ∀ o st' a H', QI o st' → Lk K (FA F a) st' σ H' → Step st σ H st' σ H' → RelO K (Live (FA F a) st' σ) H' a o → NewAt st σ H a → Q (.ref a) H'
def RetOk (K : PySem.W.Frag) (F : Addr → Prop) (st : Stt) (σ : St) (H : Hp) (r : R) (S' : Sto) (v : V) (H' : Hp) : Prop :=
  Step st σ H ⟨[], S'⟩ [] H' ∧ match r with
    | .val w => Lk K F ⟨[], S'⟩ [] H' ∧ RelW K (Live F ⟨[], S'⟩ []) H' w v
    | .new o => ∃ a, v = .ref a ∧ Lk K (FA F a) ⟨[], S'⟩ [] H' ∧ RelO K (Live (FA F a) ⟨[], S'⟩ []) H' a o ∧ NewAt st σ H a
structure Up (K : PySem.W.Frag) (F : Addr → Prop) (Wx : WX) (st : Stt) (σ : St) (H : Hp) (EI : XI) (DI : IEnds) (D : Ends) : Prop where
  x : UpX K F Wx st σ H EI
  nx : ∀ st' σ' H', DI.nx st' → Lk K F st' σ' H' → Step st σ H st' σ' H' → D.nx σ' H'
  bk : ∀ st' σ' H', DI.bk st' → Lk K F st' σ' H' → Step st σ H st' σ' H' → D.bk σ' H'
  ct : ∀ st' σ' H', DI.ct st' → Lk K F st' σ' H' → Step st σ H st' σ' H' → D.ct σ' H'
  rt : ∀ r S' v H', DI.rt r S' → RetOk K F st σ H r S' v H' → D.rt v H'
def LS (K : PySem.W.Frag) (F : Addr → Prop) (Wx : WX) (i : IS) : TS := fun D σ H => ∃ st DI EI, Lk K F st σ H ∧ i EI DI st ∧ Up K F Wx st σ H EI DI D

section
variable {K : PySem.W.Frag} {F : Addr → Prop} {Wx : WX} {st st1 : Stt} {σ σ1 : St} {H H1 : Hp} {EI : XI} {DI : IEnds} {D : Ends}
theorem UpX.step (u : UpX K F Wx st σ H EI) (s : Step st σ H st1 σ1 H1) : UpX K F Wx st1 σ1 H1 EI := fun x st' σ' cls d H' e l s' r => u x st' σ' cls d H' e l (s.trans s') r
theorem NewAt.step {a : Addr} (s : Step st σ H st1 σ1 H1) (h : NewAt st1 σ1 H1 a) : NewAt st σ H a := by
  rcases h with h | h
  · exact s.new a h
  · by_cases w : Wr st σ a
    · exact .inl w
    · cases q : H a with
      | none => exact .inr q
      | some u =>
        rw [s.keep a u q w] at h
        cases h
theorem NewAt.nf {a : Addr} (l : Lk K F st σ H) (h : NewAt st σ H a) : ¬ F a := fun z => by
  rcases h with (h | ⟨i, o, e1, e2⟩) | h
  · exact h (l.fdis a z)
  · obtain ⟨b, e3, _, _, n⟩ := l.own i o e1
    rw [e2] at e3
    cases e3
    exact n z
  · obtain ⟨u, q⟩ := l.ftr a z
    rw [h] at q
    cases q
theorem RetOk.step {r : R} {S' : Sto} {v : V} {H' : Hp} (s : Step st σ H st1 σ1 H1) (h : RetOk K F st1 σ1 H1 r S' v H') : RetOk K F st σ H r S' v H' := by
  obtain ⟨s', h⟩ := h
  refine ⟨s.trans s', ?_⟩
  cases r with
  | val w => exact h
  | new o =>
    obtain ⟨a, e, l, r, n⟩ := h
    exact ⟨a, e, l, r, n.step s⟩
theorem Up.step (u : Up K F Wx st σ H EI DI D) (s : Step st σ H st1 σ1 H1) : Up K F Wx st1 σ1 H1 EI DI D :=
  ⟨u.x.step s, fun st' σ' H' q l s' => u.nx st' σ' H' q l (s.trans s'), fun st' σ' H' q l s' => u.bk st' σ' H' q l (s.trans s'), fun st' σ' H' q l s' => u.ct st' σ' H' q l (s.trans s'), fun r S' v H' q h => u.rt r S' v H' q (h.step s)⟩

def Stt.put (st : Stt) (i : Nat) (x : Slot) : Stt := { st with ρ := st.ρ.set i x }
theorem get_set {α : Type} {l : List α} {i j : Nat} {x y : α} (h : (l.set i x)[j]? = some y) : (j = i ∧ y = x ∧ i < l.length) ∨ (j ≠ i ∧ l[j]? = some y) := by
  by_cases e : j = i
  · subst e
    rw [List.getElem?_set_self'] at h
    cases q : l[j]? with
    | none =>
      rw [q] at h
      cases h
    | some z =>
      rw [q] at h
      exact .inl ⟨rfl, (Option.some.inj h).symm, (List.getElem?_eq_some_iff.mp q).1⟩
  · rw [List.getElem?_set_ne (Ne.symm e)] at h
    exact .inr ⟨e, h⟩
theorem set_get {α : Type} {l : List α} {i : Nat} {x : α} (h : i < l.length) : (l.set i x)[i]? = some x := by simp [h]
/-- a slot takes a value -/
theorem Ow.put {ρ : List Slot} {i : Nat} {w : W} {v : V} {a : Addr} (h : Ow (ρ.set i (.val w)) (σ.set i (some v)) a) : Ow ρ σ a := by
  obtain ⟨j, o, e1, e2⟩ := h
  rcases get_set e1 with ⟨_, z, _⟩ | ⟨n, e1⟩
  · cases z
  · rw [List.getElem?_set_ne (Ne.symm n)] at e2
    exact ⟨j, o, e1, e2⟩
theorem Step.put {i : Nat} {w : W} {v : V} : Step st σ H (st.put i (.val w)) (σ.set i (some v)) H :=
  ⟨fun _ _ e _ => e, fun a h => .inl (h.imp id Ow.put)⟩
theorem Lk.put (l : Lk K F st σ H) {i : Nat} {w : W} {v : V} (r : RelW K (Live F st σ) H w v) : Lk K F (st.put i (.val w)) (σ.set i (some v)) H := by
  have s : Step st σ H (st.put i (.val w)) (σ.set i (some v)) H := Step.put
  refine ⟨by simp [Stt.put, l.len], fun j y e => ?_, fun j o e => ?_, fun j k o o' a e1 e2 e3 e4 => ?_, fun a o e => (l.sto a o e).move (fun _ q => q) s.mv, l.ftr, l.fdis⟩
  · rcases get_set e with ⟨rfl, z, b⟩ | ⟨n, e⟩
    · cases z
      exact ⟨v, set_get (by rw [← l.len]; exact b), r.mono s.mv⟩
    · obtain ⟨u, e1, r1⟩ := l.val j y e
      exact ⟨u, by rw [List.getElem?_set_ne (Ne.symm n)]; exact e1, r1.mono s.mv⟩
  · rcases get_set e with ⟨_, z, _⟩ | ⟨n, e⟩
    · cases z
    · obtain ⟨a, e1, r1, n1, n2⟩ := l.own j o e
      exact ⟨a, by rw [List.getElem?_set_ne (Ne.symm n)]; exact e1, r1.move (fun _ q => q) s.mv, n1, n2⟩
  · rcases get_set e1 with ⟨_, z, _⟩ | ⟨n, e1⟩
    · cases z
    · rcases get_set e2 with ⟨_, z, _⟩ | ⟨m, e2⟩
      · cases z
      · rw [List.getElem?_set_ne (Ne.symm n)] at e3
        rw [List.getElem?_set_ne (Ne.symm m)] at e4
        exact l.inj j k o o' a e1 e2 e3 e4
/-- a slot is forgotten -/
theorem Lk.wipe (l : Lk K F st σ H) {i : Nat} {x : Option V} : Lk K F (st.put i .none) (σ.set i x) H ∧ Step st σ H (st.put i .none) (σ.set i x) H := by
  have ow : ∀ a, Ow (st.put i .none).ρ (σ.set i x) a → Ow st.ρ σ a := fun a h => by
    obtain ⟨j, o, e1, e2⟩ := h
    rcases get_set e1 with ⟨_, z, _⟩ | ⟨n, e1⟩
    · cases z
    · rw [List.getElem?_set_ne (Ne.symm n)] at e2
      exact ⟨j, o, e1, e2⟩
  have s : Step st σ H (st.put i .none) (σ.set i x) H := ⟨fun _ _ e _ => e, fun a h => .inl (h.imp id (ow a))⟩
  refine ⟨⟨by simp [Stt.put, l.len], fun j y e => ?_, fun j o e => ?_, fun j k o o' a e1 e2 e3 e4 => ?_, fun a o e => (l.sto a o e).move (fun _ q => q) s.mv, l.ftr, l.fdis⟩, s⟩
  · rcases get_set e with ⟨rfl, z, b⟩ | ⟨n, e⟩
    · cases z
    · obtain ⟨u, e1, r1⟩ := l.val j y e
      exact ⟨u, by rw [List.getElem?_set_ne (Ne.symm n)]; exact e1, r1.mono s.mv⟩
  · rcases get_set e with ⟨_, z, _⟩ | ⟨n, e⟩
    · cases z
    · obtain ⟨a, e1, r1, n1, n2⟩ := l.own j o e
      exact ⟨a, by rw [List.getElem?_set_ne (Ne.symm n)]; exact e1, r1.move (fun _ q => q) s.mv, n1, n2⟩
  · rcases get_set e1 with ⟨_, z, _⟩ | ⟨n, e1⟩
    · cases z
    · rcases get_set e2 with ⟨_, z, _⟩ | ⟨m, e2⟩
      · cases z
      · rw [List.getElem?_set_ne (Ne.symm n)] at e3
        rw [List.getElem?_set_ne (Ne.symm m)] at e4
        exact l.inj j k o o' a e1 e2 e3 e4
/-- an owned object is given free for reading, never to be written again -/
theorem Lk.freeze (l : Lk K F st σ H) {i : Nat} {o : SO} (e : st.ρ[i]? = some (.own o)) : Lk K F (st.put i (.val o.fz)) σ H ∧ Step st σ H (st.put i (.val o.fz)) σ H := by
  obtain ⟨a, ea, ra, na, nf⟩ := l.own i o e
  have hσ : σ.set i (some (.ref a)) = σ := by
    apply List.ext_getElem?
    intro j
    by_cases q : j = i
    · subst q
      rw [List.getElem?_set_self', ea]
      rfl
    · rw [List.getElem?_set_ne (Ne.symm q)]
  have s : Step st σ H (st.put i (.val o.fz)) σ H := by
    have z := Step.put (st := st) (σ := σ) (H := H) (i := i) (w := o.fz) (v := .ref a)
    rw [hσ] at z
    exact z
  have nl : ¬ Live F (st.put i (.val o.fz)) σ a := fun z => by
    rcases z with (z | ⟨j, o', e1, e2⟩) | z
    · exact z na
    · rcases get_set e1 with ⟨_, z, _⟩ | ⟨n, e1⟩
      · cases z
      · exact n (l.inj j i o' o a e1 e e2 ea)
    · exact nf z
  refine ⟨⟨by simp [Stt.put, l.len], fun j y q => ?_, fun j o' q => ?_, fun j k o1 o2 b e1 e2 e3 e4 => ?_, fun b o' q => (l.sto b o' q).move (fun _ q => q) s.mv, l.ftr, l.fdis⟩, s⟩
  · rcases get_set q with ⟨rfl, z, b⟩ | ⟨n, q⟩
    · cases z
      exact ⟨.ref a, ea, (ra.move (fun _ z => z) s.mv).fz nl⟩
    · obtain ⟨u, e1, r1⟩ := l.val j y q
      exact ⟨u, e1, r1.mono s.mv⟩
  · rcases get_set q with ⟨_, z, _⟩ | ⟨n, q⟩
    · cases z
    · obtain ⟨b, e1, r1, n1, n2⟩ := l.own j o' q
      exact ⟨b, e1, r1.move (fun _ q => q) s.mv, n1, n2⟩
  · rcases get_set e1 with ⟨_, z, _⟩ | ⟨n, e1⟩
    · cases z
    · rcases get_set e2 with ⟨_, z, _⟩ | ⟨m, e2⟩
      · cases z
      · exact l.inj j k o1 o2 b e1 e2 e3 e4
/-- a new object goes into a slot -/
theorem Lk.keepNew {a : Addr} {o : SO} {i : Nat} (l : Lk K (FA F a) st σ H) (r : RelO K (Live (FA F a) st σ) H a o) (nF : ¬ F a) : Lk K F (st.put i (.own o)) (σ.set i (some (.ref a))) H := by
  have ow : ∀ b, Ow (st.put i (.own o)).ρ (σ.set i (some (.ref a))) b → Ow st.ρ σ b ∨ b = a := fun b h => by
    obtain ⟨j, o', e1, e2⟩ := h
    rcases get_set e1 with ⟨rfl, _, b⟩ | ⟨n, e1⟩
    · rw [set_get (by rw [← l.len]; exact b)] at e2
      cases e2
      exact .inr rfl
    · rw [List.getElem?_set_ne (Ne.symm n)] at e2
      exact .inl ⟨j, o', e1, e2⟩
  have m : Mv (Live (FA F a) st σ) H (Live F (st.put i (.own o)) (σ.set i (some (.ref a)))) H := fun b u e n => ⟨e, fun z => n (by
    rcases z with (z | z) | z
    · exact .inl (.inl z)
    · rcases ow b z with z | z
      · exact .inl (.inr z)
      · exact .inr (.inr z)
    · exact .inr (.inl z))⟩
  have nS : st.S a = none := l.fdis a (.inr rfl)
  have nO : ∀ (j : Nat) (o' : SO), st.ρ[j]? = some (.own o') → σ[j]? = some (some (.ref a)) → False := fun j o' e1 e2 => by
    obtain ⟨b, e3, _, _, n⟩ := l.own j o' e1
    rw [e2] at e3
    cases e3
    exact n (.inr rfl)
  refine ⟨by simp [Stt.put, l.len], fun j y q => ?_, fun j o' q => ?_, fun j k o1 o2 b e1 e2 e3 e4 => ?_, fun b o' q => (l.sto b o' q).move (fun _ q => q) m, fun b q => l.ftr b (.inl q), fun b q => l.fdis b (.inl q)⟩
  · rcases get_set q with ⟨_, z, _⟩ | ⟨n, q⟩
    · cases z
    · obtain ⟨u, e1, r1⟩ := l.val j y q
      exact ⟨u, by rw [List.getElem?_set_ne (Ne.symm n)]; exact e1, r1.mono m⟩
  · rcases get_set q with ⟨rfl, z, b⟩ | ⟨n, q⟩
    · cases z
      refine ⟨a, set_get (by rw [← l.len]; exact b), r.move (fun _ q => q) m, nS, nF⟩
    · obtain ⟨b, e1, r1, n1, n2⟩ := l.own j o' q
      exact ⟨b, by rw [List.getElem?_set_ne (Ne.symm n)]; exact e1, r1.move (fun _ q => q) m, n1, fun z => n2 (.inl z)⟩
  · rcases get_set e1 with ⟨q1, z1, b1⟩ | ⟨n, e1⟩
    · rw [q1, set_get (by rw [← l.len]; exact b1)] at e3
      cases e3
      rcases get_set e2 with ⟨q2, z, _⟩ | ⟨m', e2⟩
      · rw [q1, q2]
      · rw [List.getElem?_set_ne (Ne.symm m')] at e4
        exact (nO _ _ e2 e4).elim
    · rw [List.getElem?_set_ne (Ne.symm n)] at e3
      rcases get_set e2 with ⟨q2, z, b2⟩ | ⟨m', e2⟩
      · rw [q2, set_get (by rw [← l.len]; exact b2)] at e4
        cases e4
        exact (nO _ _ e1 e3).elim
      · rw [List.getElem?_set_ne (Ne.symm m')] at e4
        exact l.inj j k o1 o2 b e1 e2 e3 e4
end
end Sh
namespace Sh
open PySem L2
open PyProof.Rows hiding St
section
variable {K : PySem.W.Frag} {F : Addr → Prop} {Wx : WX} {st st1 : Stt} {σ σ1 : L2.St} {H H1 : Hp} {EI : XI} {DI : IEnds} {D : Ends}
def Sto.put (S : Sto) (a : Addr) (o : SO) : Sto := fun b => if b = a then some o else S b
theorem Sto.put_same {S : Sto} {a : Addr} {o : SO} : S.put a o a = some o := if_pos rfl
theorem Sto.put_ne {S : Sto} {a b : Addr} {o : SO} (h : b ≠ a) : S.put a o b = S b := if_neg h
def Stt.puts (st : Stt) (a : Addr) (o : SO) : Stt := { st with S := st.S.put a o }
/-- what is written at a live address touches nothing that is frozen -/
theorem Mv.write {a : Addr} {u : HO} {Lv Lv' : Addr → Prop} (la : Lv a) (h : ∀ b, Lv' b → Lv b) : Mv Lv H Lv' (upd H a u) := fun b z e n =>
  ⟨(upd_ne (show b ≠ a from fun q => n (by rw [q]; exact la))).trans e, fun q => n (h b q)⟩
/-- an owned object is written -/
theorem Lk.write (l : Lk K F st σ H) {i : Nat} {o o' : SO} {a : Addr} {u : HO} (e : st.ρ[i]? = some (.own o)) (ea : σ[i]? = some (some (.ref a)))
    (r : RelO K (Live F st σ) (upd H a u) a o') : Lk K F (st.put i (.own o')) σ (upd H a u) ∧ Step st σ H (st.put i (.own o')) σ (upd H a u) := by
  have ow : ∀ b, Ow (st.put i (.own o')).ρ σ b → Ow st.ρ σ b := fun b h => by
    obtain ⟨j, q, e1, e2⟩ := h
    rcases get_set e1 with ⟨rfl, _, _⟩ | ⟨n, e1⟩
    · exact ⟨j, o, e, e2⟩
    · exact ⟨j, q, e1, e2⟩
  have lv : ∀ b, Live F (st.put i (.own o')) σ b → Live F st σ b := fun b z => z.imp (fun w => w.imp id (ow b)) id
  have la : Live F st σ a := .inl (.inr ⟨i, o, e, ea⟩)
  have m : Mv (Live F st σ) H (Live F (st.put i (.own o')) σ) (upd H a u) := Mv.write la lv
  have m2 : Mv (Live F st σ) (upd H a u) (Live F (st.put i (.own o')) σ) (upd H a u) := fun b z q n => ⟨q, fun w => n (lv b w)⟩
  obtain ⟨a', ea', _, na, nf⟩ := l.own i o e
  rw [ea] at ea'
  cases ea'
  refine ⟨⟨by simp [Stt.put, l.len], fun j y q => ?_, fun j q z => ?_, fun j k o1 o2 b e1 e2 e3 e4 => ?_, fun b q z => ?_, fun b z => ?_, l.fdis⟩, ⟨fun b z q n => ?_, fun b z => .inl (z.imp id (ow b))⟩⟩
  · rcases get_set q with ⟨_, z, _⟩ | ⟨n, q⟩
    · cases z
    · obtain ⟨v, e1, r1⟩ := l.val j y q
      exact ⟨v, e1, r1.mono m⟩
  · rcases get_set z with ⟨rfl, z, _⟩ | ⟨n, z⟩
    · cases z
      exact ⟨a, ea, r.move (fun _ q => q) m2, na, nf⟩
    · obtain ⟨b, e1, r1, n1, n2⟩ := l.own j q z
      have nb : b ≠ a := fun q' => n (l.inj j i q o a z e (by rw [e1, q']) ea)
      exact ⟨b, e1, r1.move (fun _ q => by rw [upd_ne nb]; exact q) m, n1, n2⟩
  · have e1' : ∃ o1', st.ρ[j]? = some (.own o1') := by
      rcases get_set e1 with ⟨rfl, _, _⟩ | ⟨_, z⟩
      · exact ⟨o, e⟩
      · exact ⟨o1, z⟩
    have e2' : ∃ o2', st.ρ[k]? = some (.own o2') := by
      rcases get_set e2 with ⟨rfl, _, _⟩ | ⟨_, z⟩
      · exact ⟨o, e⟩
      · exact ⟨o2, z⟩
    obtain ⟨o1', e1'⟩ := e1'
    obtain ⟨o2', e2'⟩ := e2'
    exact l.inj j k o1' o2' b e1' e2' e3 e4
  · have nb : b ≠ a := fun q' => by
      rw [q'] at z
      have z2 : st.S a = some q := z
      rw [na] at z2
      cases z2
    exact (l.sto b q z).move (fun _ q => by rw [upd_ne nb]; exact q) m
  · obtain ⟨x, q⟩ := l.ftr b z
    have nb : b ≠ a := fun q' => nf (q' ▸ z)
    exact ⟨x, by rw [upd_ne nb]; exact q⟩
  · have nb : b ≠ a := fun q' => n (.inr ⟨i, o, e, q' ▸ ea⟩)
    rw [upd_ne nb]
    exact q
/-- an object of the store is written -/
theorem Lk.writeS (l : Lk K F st σ H) {o o' : SO} {a : Addr} {u : HO} (e : st.S a = some o)
    (r : RelO K (Live F st σ) (upd H a u) a o') : Lk K F (st.puts a o') σ (upd H a u) ∧ Step st σ H (st.puts a o') σ (upd H a u) := by
  have sw : ∀ b, (st.puts a o').S b ≠ none → st.S b ≠ none := fun b h => by
    by_cases q : b = a
    · rw [q, e]
      exact fun z => nomatch z
    · have z : (st.puts a o').S b = st.S b := Sto.put_ne q
      rw [← z]
      exact h
  have lv : ∀ b, Live F (st.puts a o') σ b → Live F st σ b := fun b z => z.imp (fun w => w.imp (sw b) id) id
  have la : Live F st σ a := .inl (.inl (by rw [e]; exact fun z => nomatch z))
  have m : Mv (Live F st σ) H (Live F (st.puts a o') σ) (upd H a u) := Mv.write la lv
  have m2 : Mv (Live F st σ) (upd H a u) (Live F (st.puts a o') σ) (upd H a u) := fun b z q n => ⟨q, fun w => n (lv b w)⟩
  refine ⟨⟨l.len, fun j y q => ?_, fun j q z => ?_, l.inj, fun b q z => ?_, fun b z => ?_, fun b z => ?_⟩, ⟨fun b z q n => ?_, fun b z => .inl (z.imp (sw b) id)⟩⟩
  · obtain ⟨v, e1, r1⟩ := l.val j y q
    exact ⟨v, e1, r1.mono m⟩
  · obtain ⟨b, e1, r1, n1, n2⟩ := l.own j q z
    have nb : b ≠ a := fun q' => by
      rw [q', e] at n1
      cases n1
    exact ⟨b, e1, r1.move (fun _ q => by rw [upd_ne nb]; exact q) m, (Sto.put_ne nb).trans n1, n2⟩
  · by_cases nb : b = a
    · subst nb
      have z2 : st.S.put b o' b = some q := z
      rw [Sto.put_same] at z2
      cases z2
      exact r.move (fun _ q => q) m2
    · have z2 : st.S.put a o' b = some q := z
      rw [Sto.put_ne nb] at z2
      exact (l.sto b q z2).move (fun _ q => by rw [upd_ne nb]; exact q) m
  · obtain ⟨x, q⟩ := l.ftr b z
    have nb : b ≠ a := fun q' => by
      have q2 := l.fdis b z
      rw [q', e] at q2
      cases q2
    exact ⟨x, by rw [upd_ne nb]; exact q⟩
  · have nb : b ≠ a := fun q' => by
      have q2 := l.fdis b z
      rw [q', e] at q2
      cases q2
    exact (Sto.put_ne nb).trans (l.fdis b z)
  · have nb : b ≠ a := fun q' => n (.inl (by rw [q', e]; exact fun z => nomatch z))
    rw [upd_ne nb]
    exact q

/-- what a callee sees as foreign -/
def Fo (F : Addr → Prop) (st : Stt) (σ : L2.St) : Addr → Prop := fun a => F a ∨ Ow st.ρ σ a
theorem ow_nil {a : Addr} : ¬ Ow [] [] a := fun ⟨_, _, e, _⟩ => by simp at e
theorem live_enter {a : Addr} : Live (Fo F st σ) ⟨[], st.S⟩ [] a ↔ Live F st σ a := by
  constructor
  · rintro ((z | z) | (z | z))
    · exact .inl (.inl z)
    · exact (ow_nil z).elim
    · exact .inr z
    · exact .inl (.inr z)
  · rintro ((z | z) | z)
    · exact .inl (.inl z)
    · exact .inr (.inr z)
    · exact .inr (.inl z)
theorem mv_same {Lv Lv' : Addr → Prop} (h : ∀ a, Lv' a → Lv a) : Mv Lv H Lv' H := fun a _ e n => ⟨e, fun z => n (h a z)⟩
theorem Lk.enter (l : Lk K F st σ H) : Lk K (Fo F st σ) ⟨[], st.S⟩ [] H := by
  refine ⟨rfl, fun i w e => by simp at e, fun i o e => by simp at e, fun i j o o' a e => by simp at e, fun a o e => (l.sto a o e).move (fun _ q => q) (mv_same fun b z => live_enter.mp z), fun a z => ?_, fun a z => ?_⟩
  · rcases z with z | z
    · exact l.ftr a z
    · exact l.wtr (.inr z)
  · rcases z with z | ⟨i, o, e1, e2⟩
    · exact l.fdis a z
    · obtain ⟨b, e3, _, n, _⟩ := l.own i o e1
      rw [e2] at e3
      cases e3
      exact n
theorem Lk.back {F2 : Addr → Prop} {S' : Sto} (l : Lk K F st σ H) (s : Step ⟨[], st.S⟩ [] H ⟨[], S'⟩ [] H1) (l2 : Lk K (Fo F2 st σ) ⟨[], S'⟩ [] H1) (hF : ∀ a, F a → F2 a)
    (h2 : ∀ a, F2 a → F a ∨ st.S a ≠ none ∨ H a = none) : Lk K F2 { st with S := S' } σ H1 ∧ Step st σ H { st with S := S' } σ H1 := by
  have wr0 : ∀ a, ¬ Wr st σ a → ¬ Wr ⟨[], st.S⟩ [] a := fun a n z => z.elim (fun z => n (.inl z)) ow_nil
  have st' : Step st σ H { st with S := S' } σ H1 := by
    refine ⟨fun a u e n => s.keep a u e (wr0 a n), fun a z => ?_⟩
    rcases z with z | z
    · rcases s.new a (.inl z) with (z | z) | z
      · exact .inl (.inl z)
      · exact (ow_nil z).elim
      · exact .inr z
    · exact .inl (.inr z)
  have m : Mv (Live F st σ) H (Live F2 { st with S := S' } σ) H1 := fun a u e n => by
    refine ⟨st'.keep a u e fun z => n (.inl z), fun z => ?_⟩
    rcases z with z | z
    · rcases st'.new a z with z | z
      · exact n (.inl z)
      · rw [e] at z; cases z
    · rcases h2 a z with z | z | z
      · exact n (.inr z)
      · exact n (.inl (.inl z))
      · rw [e] at z; cases z
  have lv : ∀ a, Live F2 { st with S := S' } σ a → Live (Fo F2 st σ) ⟨[], S'⟩ [] a := fun a z => (live_enter (F := F2) (st := { st with S := S' }) (σ := σ)).mpr z
  refine ⟨⟨l.len, fun i w e => ?_, fun i o e => ?_, l.inj, fun a o e => (l2.sto a o e).move (fun _ q => q) (mv_same lv), fun a z => l2.ftr a (.inl z), fun a z => l2.fdis a (.inl z)⟩, st'⟩
  · obtain ⟨v, e1, r⟩ := l.val i w e
    exact ⟨v, e1, r.mono m⟩
  · obtain ⟨a, e1, r, n1, n2⟩ := l.own i o e
    have oa : Ow st.ρ σ a := ⟨i, o, e, e1⟩
    refine ⟨a, e1, r.move (fun u q => s.keep a u q fun z => z.elim (fun z => z n1) ow_nil) m, l2.fdis a (.inr oa), fun z => ?_⟩
    rcases h2 a z with z | z | z
    · exact n2 z
    · exact z n1
    · obtain ⟨u, q⟩ := r.at
      rw [z] at q
      cases q
end

/-- spec over values: from the arguments and the store -/
def spI (K : PySem.W.Frag) (n : Nat) (spec : ISp) : Sp := fun vs H Q E => ∃ F S ws QI EI, Lk K F ⟨[], S⟩ [] H ∧ RelWs K (Live F ⟨[], S⟩ []) H ws vs ∧ ws.length = n ∧ spec ws S QI EI ∧
  (∀ r S' v H', QI r S' → RetOk K F ⟨[], S⟩ [] H r S' v H' → Q v H') ∧
  ∀ x S' cls d H', EI x S' → Lk K F ⟨[], S'⟩ [] H' → Step ⟨[], S⟩ [] H ⟨[], S'⟩ [] H' → RelX K (Live F ⟨[], S'⟩ []) H' x cls d → E cls d H'
theorem spI.len {K : PySem.W.Frag} {n : Nat} {spec : ISp} {vs : List V} {H : Hp} {Q : VK} {E : XK} (h : spI K n spec vs H Q E) : vs.length = n := by
  obtain ⟨F, S, ws, QI, EI, _, r, e, _⟩ := h
  rw [← r.length, e]
theorem spI.imp {K : PySem.W.Frag} {n : Nat} {spec spec' : ISp} (h : ∀ ws S Q E, spec' ws S Q E → spec ws S Q E) {vs : List V} {H : Hp} {Q : VK} {E : XK} (q : spI K n spec' vs H Q E) : spI K n spec vs H Q E := by
  obtain ⟨F, S, ws, QI, EI, l, r, e, s, k1, k2⟩ := q
  exact ⟨F, S, ws, QI, EI, l, r, e, h _ _ _ _ s, k1, k2⟩
/-- the slots at the entry -/
def start0 (m : Nat) (ws : List W) : List Slot := ws.map .val ++ List.replicate (m - ws.length) .none
/-- a body as a spec -/
def bodyI (m : Nat) (ib : IS) : ISp := fun ws S Q E => ib (fun x st => E x st.S) { nx := fun st => Q (.val .non) st.S, rt := Q } ⟨start0 m ws, S⟩
theorem start_rel {K : PySem.W.Frag} {Lv : Addr → Prop} {H : Hp} : ∀ {ws : List W} {vs : List V} {m : Nat} {i : Nat} {w : W}, RelWs K Lv H ws vs → (ws.map Slot.val ++ List.replicate m .none)[i]? = some (.val w) →
    ∃ v, (vs.map some ++ List.replicate m none)[i]? = some (some v) ∧ RelW K Lv H w v
  | _, _, m, i, w, .nil, e => by
    have e2 : (List.replicate m Slot.none)[i]? = some (.val w) := by simpa using e
    rw [List.getElem?_replicate] at e2
    split at e2 <;> cases e2
  | _, _, m, 0, w, .cons h r, e => by
    have e2 := Option.some.inj e
    cases e2
    exact ⟨_, rfl, h⟩
  | _, _, m, i + 1, w, .cons _ r, e => start_rel (i := i) r (by simpa using e)
theorem start_own {ws : List W} {m i : Nat} {o : SO} (e : (ws.map Slot.val ++ List.replicate m .none)[i]? = some (.own o)) : False := by
  have h := List.mem_of_getElem? e
  rcases List.mem_append.mp h with h | h
  · obtain ⟨w, _, q⟩ := List.mem_map.mp h
    cases q
  · have q := List.eq_of_mem_replicate h
    cases q
structure FnG (P : Program) (w : World) (K : PySem.W.Frag) (mg : Str → Option Value) (base : Heap) (k : Nat) (f : Addr) (fd : FuncData) (ps : List Str) (sp : Sp) : Prop where
  len : ∀ {vs H Q E}, sp vs H Q E → vs.length = ps.length
  go : ∀ {A : Around} {outer : List Env} {s : Shared} {H : Hp} {args : Args} {us : List Value} {vs : List V} {Q : VK} {E : XK}, Room k A → A.guards = some [] → Env0 P w K mg base A outer s H →
    BindsTo s fd args (ps.zip us) → Vals vs us → sp vs H Q E → codeAny (model P w) A (.call (.ref f) args) (CR (L2.CX P w) outer P w H s Q E) s
theorem FnG.imp {P : Program} {w : World} {K : PySem.W.Frag} {mg : Str → Option Value} {base : Heap} {k : Nat} {f : Addr} {fd : FuncData} {ps : List Str} {sp sp' : Sp} (G : FnG P w K mg base k f fd ps sp) (h : ∀ {vs H Q E}, sp' vs H Q E → sp vs H Q E) : FnG P w K mg base k f fd ps sp' :=
  ⟨fun q => G.len (h q), fun r g e b v q => G.go r g e b v (h q)⟩
theorem FnG.up {P : Program} {w : World} {K : PySem.W.Frag} {mg : Str → Option Value} {base : Heap} {j k : Nat} {f : Addr} {fd : FuncData} {ps : List Str} {sp : Sp} (G : FnG P w K mg base j f fd ps sp) (h : j ≤ k) : FnG P w K mg base k f fd ps sp :=
  ⟨G.len, fun r g e b v q => G.go (r.mono h) g e b v q⟩
/-- a nicer spec -/
theorem FnG.spec {P : Program} {w : World} {K : PySem.W.Frag} {mg : Str → Option Value} {base : Heap} {k n : Nat} {f : Addr} {fd : FuncData} {ps : List Str} {spec spec' : ISp} (G : FnG P w K mg base k f fd ps (spI K n spec)) (h : ∀ ws S Q E, spec' ws S Q E → spec ws S Q E) : FnG P w K mg base k f fd ps (spI K n spec') :=
  G.imp fun q => spI.imp h q
section
variable {P : Program} {w : World} {K : PySem.W.Frag} {mg : Str → Option Value} {base : Heap} {x qual : Str} {params : Arguments} {body : List Stmt} {scope : Scope} {f : Addr} {fd : FuncData}
theorem fn_run {N ps : List Str} {k : Nat} {sp : Sp} (Fd : FunD K x qual params body scope [] [] f fd) (Sc : FnScope N ps scope) (len : ∀ {vs H Q E}, sp vs H Q E → vs.length = ps.length)
    (hbody : ∀ (cdv : Value) (A : Around) (outer : List Env) (s : Shared) (H : Hp) (vs : List V) (Q : VK) (E : XK), Room k (A.deeper (envOfC qual scope s.heap.objs.size f cdv)) → A.guards = some [] → sp vs H Q E →
      ∃ t, PSs (cxOf (L2.CX P w) P w K mg base N qual scope f cdv A outer s H E) body t ∧ t { nx := fun _ H' => Q .non H', rt := Q } (L2.start N vs) H) : FnG P w K mg base (k + 1) f fd ps sp := by
  obtain ⟨oc, od, dV, kV, doc, pm, an, cdv, ct, osl, rfl, lk, hcd, _, _⟩ := Fd.ex
  refine ⟨len, fun {A outer s H args us vs Q E} room gu e0 bd rel hq => ?_⟩
  have hv := len hq
  have kin : K.In s.heap := e0.mod.kin.keeps fun b o e => (e0.bs b o e).1
  have noLim : s.heap.NoLimit := e0.mod.nolimit.keeps fun b o e => (e0.bs b o e).1
  have kinds : ∀ y ∈ ps.zip us, scope.names.lookup y.1 = some .local ∨
      (scope.names.lookup y.1 = some .cell ∧ ((cellsFrom (s.heap.objs.size + 1) scope.names []).lookup y.1).isSome = true) := fun y hy => by
    rcases Sc.par y.1 (List.of_mem_zip hy).1 with q | q
    · exact .inl q
    · exact .inr ⟨q, PySem.W.cellsFrom_some _ _ _ (.inl q)⟩
  refine codeAny_call_function room.depth (kin _ _ lk) rfl Sc.co Sc.gen rfl (PySem.W.codeRec_of kin hcd) (bd _ _ _ _ ?_)
  refine wpAny_newFunctionEnv_cells Sc.kind kinds fun env he s1 z => ?_
  subst he
  refine ⟨noLim.keeps z.toInCall.keep, codeAny_func ?_⟩
  obtain ⟨t, ht, hq2⟩ := hbody cdv A outer s H vs Q E (room.deeper _) gu hq
  have I := inv_start (CX := L2.CX P w) (E := E) Sc room.hd e0 hv rel z
  refine wpAny_mono (ht.run [] s1 _ H _ I hq2) (fun fl s' hs => ?_) fun _ _ h => h
  have fin : ∀ {σ' : L2.St} {H' : Hp} {v : V} {u : Value}, Inv (cxOf (L2.CX P w) P w K mg base N qual scope f cdv A outer s H E) [] σ' H' s' →
      RelV v u → Q v H' → CE outer P w H s Q u s' := fun {σ' H' v u} J rv q => ⟨v, H', J.os, J.bare, J.base, J.hok, rv, q⟩
  cases fl with
  | ret u => obtain ⟨v, σ', H', J, rv, q⟩ := hs; exact fin J rv q
  | next => obtain ⟨σ', H', J, q⟩ := hs; exact fin (v := V.non) (u := Value.none) J rfl q
  | brk => obtain ⟨_, _, _, q⟩ := hs; exact q.elim
  | cont => obtain ⟨_, _, _, q⟩ := hs; exact q.elim
/-- THE RULE for a def -/
theorem fnI {N ps : List Str} {k : Nat} {ib : IS} (Fd : FunD K x qual params body scope [] [] f fd) (Sc : FnScope N ps scope)
    (hb : ∀ (cdv : Value) (A : Around) (outer : List Env) (s : Shared) (H : Hp) (E : XK), Room k (A.deeper (envOfC qual scope s.heap.objs.size f cdv)) → A.guards = some [] → ∀ (F : Addr → Prop) (Wx : WX), Takes (cxOf (L2.CX P w) P w K mg base N qual scope f cdv A outer s H E) Wx →
      PSs (cxOf (L2.CX P w) P w K mg base N qual scope f cdv A outer s H E) body (LS K F Wx ib)) : FnG P w K mg base (k + 1) f fd ps (spI K ps.length (bodyI N.length ib)) := by
  refine fn_run Fd Sc (fun h => h.len) fun cdv A outer s H vs Q E hr gu h => ?_
  obtain ⟨F, S, ws, QI, EI, l, r, e, hs, kr, kx⟩ := h
  refine ⟨_, hb cdv A outer s H E hr gu F (fun cls d _ H => E cls d H) (takes_of rfl rfl rfl rfl), ?_⟩
  have hlen : ws.length = vs.length := r.length
  have nOw : ∀ a, ¬ Ow (start0 N.length ws) (L2.start N vs) a := fun a ⟨i, o, e1, _⟩ => start_own e1
  have lv : ∀ a, Live F ⟨start0 N.length ws, S⟩ (L2.start N vs) a → Live F ⟨[], S⟩ [] a := fun a z => z.imp (fun z => z.elim .inl fun z => (nOw a z).elim) id
  have lk : Lk K F ⟨start0 N.length ws, S⟩ (L2.start N vs) H := by
    refine ⟨?_, fun i y q => ?_, fun i o q => (start_own q).elim, fun i j o o' a q => (start_own q).elim, fun a o q => (l.sto a o q).move (fun _ z => z) (mv_same lv), l.ftr, l.fdis⟩
    · simp [start0, L2.start, hlen]
    · have q2 : (ws.map Slot.val ++ List.replicate (N.length - ws.length) .none)[i]? = some (.val y) := q
      rw [hlen] at q2
      obtain ⟨v, e1, r1⟩ := start_rel r q2
      exact ⟨v, e1, r1.mono (mv_same lv)⟩
  have s0 : Step ⟨[], S⟩ [] H ⟨start0 N.length ws, S⟩ (L2.start N vs) H := ⟨fun _ _ e _ => e, fun a z => .inl (z.elim .inl fun z => (nOw a z).elim)⟩
  refine ⟨⟨start0 N.length ws, S⟩, _, _, lk, hs, ⟨fun x st' σ' cls d H' q l' s' r' => ?_, fun st' σ' H' q l' s' => ?_, fun _ _ _ q => q.elim, fun _ _ _ q => q.elim, fun r' S' v H' q h' => kr r' S' v H' q (h'.step s0)⟩⟩
  all_goals
    have nx : ∀ a, Live F ⟨[], st'.S⟩ [] a → Live F st' σ' a := fun a z => z.imp (fun z => z.elim .inl fun z => (ow_nil z).elim) id
    have l3 : Lk K F ⟨[], st'.S⟩ [] H' := ⟨rfl, fun i w e => by simp at e, fun i o e => by simp at e, fun i j o o' a e => by simp at e, fun a o e => (l'.sto a o e).move (fun _ q => q) (mv_same nx), l'.ftr, l'.fdis⟩
    have s3 : Step ⟨[], S⟩ [] H ⟨[], st'.S⟩ [] H' := (s0.trans s').trans ⟨fun _ _ e _ => e, fun a z => .inl (z.elim .inl fun z => (ow_nil z).elim)⟩
  · refine kx x st'.S cls d H' q l3 s3 ?_
    obtain ⟨e1, z⟩ := r'
    refine ⟨e1, z.imp id ?_⟩
    rintro ⟨a, vs', e2, e3, e4, e5⟩
    exact ⟨a, vs', e2, e3, fun z => e4 (nx a z), e5.mono (mv_same nx)⟩
  · exact kr (.val .non) st'.S .non H' q ⟨s3, l3, .non⟩
end
end Sh
namespace Sh
open PySem L2
open PyProof.Rows hiding St
theorem pe_imp {X : Cx} {e : Expr} {t t' : TE} (h : PE X e t) (m : ∀ σ H Q, t' σ H Q → t σ H Q) : PE X e t' := ⟨fun pins s σ H Q I q => h.run pins s σ H Q I (m _ _ _ q)⟩
theorem pt_imp {X : Cx} {e : Expr} {t t' : TT} (h : PT X e t) (m : ∀ σ H Q, t' σ H Q → t σ H Q) : PT X e t' := ⟨fun pins s σ H Q I q => h.run pins s σ H Q I (m _ _ _ q)⟩
theorem pw_imp {X : Cx} {e : Expr} {t t' : TT} (h : PW X e t) (m : ∀ σ H Q, t' σ H Q → t σ H Q) : PW X e t' := ⟨fun wh pins s σ H Q I q => h.run wh pins s σ H Q I (m _ _ _ q)⟩
theorem pa_imp {X : Cx} {es : List Expr} {t t' : TA} (h : PA X es t) (m : ∀ σ H Q, t' σ H Q → t σ H Q) : PA X es t' := ⟨fun pos pins s σ H Q I q => h.run pos pins s σ H Q I (m _ _ _ q)⟩

section
variable {X : Cx} {F : Addr → Prop} {Wx : WX} {a b c e : Expr} {es : List Expr} {pos : Pos} {ia ib ic : IE}
def iVar (i : Nat) : IE := fun _ st Q => match st.ρ[i]? with
  | some (.val w) => Q w st
  | some (.own o) => Q o.fz (st.put i (.val o.fz))
  | _ => False
theorem i_var (i : Nat) {x : Str} (hN : X.N[i]? = some x := by rfl) (hv : Vis X.env.scope x := by first | exact Or.inl rfl | exact Or.inr (Or.inl rfl) | exact Or.inr (Or.inr rfl)) (hd : (x == ("__debug__" : Str)) = false := by decide)
    (hcd : (x == ("__classdict__" : Str)) = false := by decide) : PE X (.Name x pos) (LE X.K F Wx (iVar i)) := by
  refine pe_imp (pe_var hN hv hd hcd) fun σ H Q h => ?_
  obtain ⟨st, QI, EI, l, q, ux, k⟩ := h
  unfold iVar at q
  split at q
  · rename_i w e
    obtain ⟨v, ev, r⟩ := l.val i w e
    exact ⟨v, ev, k w st v H q l .refl r⟩
  · rename_i o e
    obtain ⟨v, ev, r, _⟩ := l.own i o e
    obtain ⟨l2, s2⟩ := l.freeze e
    refine ⟨.ref v, ev, k _ _ _ H q l2 s2 ?_⟩
    obtain ⟨u, eu, r2⟩ := l2.val i o.fz (by
      have hi : i < st.ρ.length := (List.getElem?_eq_some_iff.mp e).1
      exact set_get hi)
    rw [ev] at eu
    cases eu
    exact r2
  · exact q.elim
def iC (w : W) : IE := fun _ st Q => Q w st
theorem i_c {w : W} {v : V} (h : PE X e (tC v)) (r : ∀ Lv H, RelW X.K Lv H w v) : PE X e (LE X.K F Wx (iC w)) := by
  refine pe_imp h fun σ H Q q => ?_
  obtain ⟨st, QI, EI, l, q, ux, k⟩ := q
  exact k w st v H q l .refl (r _ _)
theorem i_int {i : Int} {j : Nat} : PE X (.Constant (.int i) j pos) (LE X.K F Wx (iC (.int i))) := i_c pe_int fun _ _ => .int i
theorem i_bl {b : Bool} {j : Nat} : PE X (.Constant (.bool b) j pos) (LE X.K F Wx (iC (.bl b))) := i_c pe_bl fun _ _ => .bl b
theorem i_non {j : Nat} : PE X (.Constant .none j pos) (LE X.K F Wx (iC .non)) := i_c pe_non fun _ _ => .non
theorem i_str {x : Str} {j : Nat} : PE X (.Constant (.str x) j pos) (LE X.K F Wx (iC (.str x))) := i_c pe_str fun _ _ => .str x

def iNil : IA := fun _ st Q => Q [] st
def iCons (i : IE) (r : IA) : IA := fun EI st Q => i EI st fun w st1 => r EI st1 fun ws st2 => Q (w :: ws) st2
theorem ia_nil : PA X [] (LA X.K F Wx 0 iNil) := by
  refine pa_imp pa_nil fun σ H Q h => ?_
  obtain ⟨st, QI, EI, l, q, ux, k⟩ := h
  exact k [] st [] H rfl q l .refl .nil
theorem ia_cons {n : Nat} {ir : IA} (ha : PE X e (LE X.K F Wx ia)) (hr : PA X es (LA X.K F Wx n ir)) (hs : starEach (e :: es) X.env = (false, eval e X.env) :: starEach es X.env := by rfl) : PA X (e :: es) (LA X.K F Wx (n + 1) (iCons ia ir)) := by
  refine pa_imp (pa_cons ha hr hs) fun σ H Q h => ?_
  obtain ⟨st, QI, EI, l, q, ux, k⟩ := h
  refine ⟨st, _, EI, l, q, ux, fun w st1 v H1 q1 l1 s1 r1 => ⟨st1, _, EI, l1, q1, ux.step s1, fun ws st2 vs H2 hn q2 l2 s2 r2 => ?_⟩⟩
  exact k (w :: ws) st2 (v :: vs) H2 (by simp [hn]) q2 l2 (s1.trans s2) (.cons (r1.mono s2.mv) r2)
def iTup (i : IA) : IE := fun EI st Q => i EI st fun ws st1 => Q (.tup ws) st1
theorem i_tup {n : Nat} {i : IA} {x1} (h : PA X es (LA X.K F Wx n i)) (hn : n ≤ sizeLine := by decide) : PE X (.Tuple es x1 pos) (LE X.K F Wx (iTup i)) := by
  refine pe_imp (pe_tup h) fun σ H Q h => ?_
  obtain ⟨st, QI, EI, l, q, ux, k⟩ := h
  refine ⟨st, _, EI, l, q, ux, fun ws st1 vs H1 e1 q1 l1 s1 r1 => ⟨by rw [← r1.length, e1]; exact hn, fun p hp => ?_⟩⟩
  have s2 : Step st1 σ H1 st1 σ (upd H1 p (.tup vs)) := Step.laid l1 hp
  exact k (.tup ws) st1 (.ref p) _ q1 (l1.laid hp) (s1.trans s2) (.tup (FzT.new l1 hp) (r1.mono s2.mv))
def iLst (i : IA) : IE := fun EI st Q => i EI st fun ws st1 => Q (.lst ws) st1
theorem i_lst {n : Nat} {i : IA} (h : PA X es (LA X.K F Wx n i)) (hn : n ≤ sizeLine := by decide) : PE X (.List es pos) (LE X.K F Wx (iLst i)) := by
  refine pe_imp (pe_lst h) fun σ H Q h => ?_
  obtain ⟨st, QI, EI, l, q, ux, k⟩ := h
  refine ⟨st, _, EI, l, q, ux, fun ws st1 vs H1 e1 q1 l1 s1 r1 => ⟨by rw [← r1.length, e1]; exact hn, fun p hp => ?_⟩⟩
  have s2 : Step st1 σ H1 st1 σ (upd H1 p (.lst vs)) := Step.laid l1 hp
  exact k (.lst ws) st1 (.ref p) _ q1 (l1.laid hp) (s1.trans s2) (.lst (FzL.new l1 hp) (r1.mono s2.mv))
/-- a new object is foreign to all that stands -/
theorem Lk.foreign {K : PySem.W.Frag} {st : Stt} {σ : L2.St} {H : Hp} (l : Lk K F st σ H) {p : Addr} {u : HO} (e : H p = none) : Lk K (FA F p) st σ (upd H p u) := by
  have m : Mv (Live F st σ) H (Live (FA F p) st σ) (upd H p u) := fun b z q n => ⟨(upd_ne (ne_of_none q e)).trans q, fun w => by
    rcases w with w | w | w
    · exact n (.inl w)
    · exact n (.inr w)
    · rw [w, e] at q; cases q⟩
  have k : ∀ b z, H b = some z → upd H p u b = some z := fun b z q => (upd_ne (ne_of_none q e)).trans q
  refine ⟨l.len, fun i w q => ?_, fun i o q => ?_, l.inj, fun b o q => (l.sto b o q).move (k b) m, fun b q => ?_, fun b q => ?_⟩
  · obtain ⟨v, e1, r⟩ := l.val i w q
    exact ⟨v, e1, r.mono m⟩
  · obtain ⟨b, e1, r, n1, n2⟩ := l.own i o q
    refine ⟨b, e1, r.move (k b) m, n1, fun z => ?_⟩
    rcases z with z | z
    · exact n2 z
    · obtain ⟨u', q'⟩ := r.at
      rw [z, e] at q'
      cases q'
  · rcases q with q | q
    · obtain ⟨z, q'⟩ := l.ftr b q
      exact ⟨z, k b z q'⟩
    · exact ⟨u, by rw [q]; exact upd_same⟩
  · rcases q with q | q
    · exact l.fdis b q
    · rw [q]
      cases z : st.S p with
      | none => rfl
      | some o =>
        obtain ⟨u', q'⟩ := (l.sto p o z).at
        rw [e] at q'
        cases q'
theorem mv_foreign {K : PySem.W.Frag} {st : Stt} {σ : L2.St} {H : Hp} (l : Lk K F st σ H) {p : Addr} {u : HO} (e : H p = none) : Mv (Live F st σ) H (Live (FA F p) st σ) (upd H p u) := fun b z q n => ⟨(upd_ne (ne_of_none q e)).trans q, fun w => by
    rcases w with w | w | w
    · exact n (.inl w)
    · exact n (.inr w)
    · rw [w, e] at q; cases q⟩
def nLst (i : IA) : IN := fun EI st Q => i EI st fun ws st1 => Q (.lst ws) st1
theorem n_lst {n : Nat} {i : IA} (h : PA X es (LA X.K F Wx n i)) (hn : n ≤ sizeLine := by decide) : PE X (.List es pos) (LN X.K F Wx (nLst i)) := by
  refine pe_imp (pe_lst h) fun σ H Q h => ?_
  obtain ⟨st, QI, EI, l, q, ux, k⟩ := h
  refine ⟨st, _, EI, l, q, ux, fun ws st1 vs H1 e1 q1 l1 s1 r1 => ⟨by rw [← r1.length, e1]; exact hn, fun p hp => ?_⟩⟩
  have s2 : Step st1 σ H1 st1 σ (upd H1 p (.lst vs)) := Step.laid l1 hp
  exact k (.lst ws) st1 p _ q1 (l1.foreign hp) (s1.trans s2) ⟨vs, upd_same, r1.mono (mv_foreign l1 hp)⟩ (NewAt.step s1 (.inr hp))
/-- a new object as a value -/
def iFz (n : IN) : IE := fun EI st Q => n EI st fun o st1 => Q o.fz st1
theorem i_fz {n : IN} (h : PE X e (LN X.K F Wx n)) : PE X e (LE X.K F Wx (iFz n)) := by
  refine pe_imp h fun σ H Q h => ?_
  obtain ⟨st, QI, EI, l, q, ux, k⟩ := h
  refine ⟨st, _, EI, l, q, ux, fun o st1 a H1 q1 l1 s1 r1 n1 => ?_⟩
  have l2 : Lk X.K F st1 σ H1 := l1.less fun _ z => .inl z
  have m : Mv (Live (FA F a) st1 σ) H1 (Live F st1 σ) H1 := mv_same fun b z => z.imp id .inl
  have na : ¬ Live F st1 σ a := fun z => by
    rcases z with (z | ⟨i, o', e1, e2⟩) | z
    · exact z (l1.fdis a (.inr rfl))
    · obtain ⟨b, e3, _, _, n3⟩ := l1.own i o' e1
      rw [e2] at e3
      cases e3
      exact n3 (.inr rfl)
    · exact NewAt.nf l n1 z
  exact k o.fz st1 (.ref a) H1 q1 l2 s1 ((r1.move (fun _ z => z) m).fz na)

/-- what an operator of two values gives: the state stays -/
def OpG (K : PySem.W.Frag) (r : R2) (g : W → W → (W → Prop) → Prop) : Prop :=
  ∀ {F : Addr → Prop} {st : Stt} {σ : L2.St} {H : Hp} {x y : W} {v u : V} {P : W → Prop} {Q : VK}, g x y P → Lk K F st σ H → RelW K (Live F st σ) H x v → RelW K (Live F st σ) H y u →
    (∀ w z H', P w → Lk K F st σ H' → Step st σ H st σ H' → RelW K (Live F st σ) H' w z → Q z H') → r v u H Q
def iB (g : W → W → (W → Prop) → Prop) (ia ib : IE) : IE := fun EI st Q => ia EI st fun x st1 => ib EI st1 fun y st2 => g x y fun w => Q w st2
theorem LE_op {K : PySem.W.Frag} {r : R2} {g : W → W → (W → Prop) → Prop} (hg : OpG K r g) {σ : L2.St} {H : Hp} {Q : VK} (h : LE K F Wx (iB g ia ib) σ H Q) : tOp r (LE K F Wx ia) (LE K F Wx ib) σ H Q := by
  obtain ⟨st, QI, EI, l, q, ux, k⟩ := h
  refine ⟨st, _, EI, l, q, ux, fun x st1 v H1 q1 l1 s1 r1 => ⟨st1, _, EI, l1, q1, ux.step s1, fun y st2 u H2 q2 l2 s2 r2 => ?_⟩⟩
  exact hg q2 l2 (r1.mono s2.mv) r2 fun w z H3 p l3 s3 r3 => k w st2 z H3 p l3 ((s1.trans s2).trans s3) r3
theorem i_op {op : Operator} {r : R2} {g : W → W → (W → Prop) → Prop} (ho : OpR X (binaryOp op) r) (hg : OpG X.K r g) (ha : PE X a (LE X.K F Wx ia)) (hb : PE X b (LE X.K F Wx ib)) : PE X (.BinOp a op b pos) (LE X.K F Wx (iB g ia ib)) :=
  pe_imp (pe_op ho ha hb) fun _ _ _ h => LE_op hg h
theorem i_cmp {op : CmpOp} {r : R2} {g : W → W → (W → Prop) → Prop} (ho : OpR X (compareOp op) r) (hg : OpG X.K r g) (ha : PE X a (LE X.K F Wx ia)) (hb : PE X b (LE X.K F Wx ib)) (hm : behindInMarks op b = false) : PE X (.Compare a [op] [b] pos) (LE X.K F Wx (iB g ia ib)) :=
  pe_imp (pe_cmpR ho ha hb hm) fun _ _ _ h => LE_op hg h
theorem OpG.or {K : PySem.W.Frag} {r r' : R2} {g : W → W → (W → Prop) → Prop} (h : OpG K (fun x y H Q => r x y H Q ∨ r' x y H Q) g) : OpG K (fun x y H Q => r x y H Q ∨ r' x y H Q) g := h

def gI (f : Int → Int → W) : W → W → (W → Prop) → Prop := fun x y P => match x, y with
  | .int i, .int j => P (f i j)
  | _, _ => False
def gIC (C : Int → Int → Prop) (f : Int → Int → W) : W → W → (W → Prop) → Prop := fun x y P => match x, y with
  | .int i, .int j => C i j ∧ P (f i j)
  | _, _ => False
theorem gI_inv {f : Int → Int → W} {x y : W} {P : W → Prop} (h : gI f x y P) : ∃ i j, x = .int i ∧ y = .int j ∧ P (f i j) := by
  unfold gI at h
  split at h
  · exact ⟨_, _, rfl, rfl, h⟩
  · exact h.elim
theorem gIC_inv {C : Int → Int → Prop} {f : Int → Int → W} {x y : W} {P : W → Prop} (h : gIC C f x y P) : ∃ i j, x = .int i ∧ y = .int j ∧ C i j ∧ P (f i j) := by
  unfold gIC at h
  split at h
  · exact ⟨_, _, rfl, rfl, h⟩
  · exact h.elim
theorem opG_I {K : PySem.W.Frag} {f : Int → Int → W} {fv : Int → Int → V} (hf : ∀ i j Lv H, RelW K Lv H (f i j) (fv i j)) : OpG K (rI0 fv) (gI f) := by
  intro F st σ H x y v u P Q h l rx ry k
  obtain ⟨i, j, rfl, rfl, p⟩ := gI_inv h
  cases rx
  cases ry
  exact ⟨i, j, rfl, rfl, k _ _ H p l .refl (hf _ _ _ _)⟩
theorem opG_IC {K : PySem.W.Frag} {C : Int → Int → Prop} {f : Int → Int → W} {fv : Int → Int → V} (hf : ∀ i j Lv H, RelW K Lv H (f i j) (fv i j)) : OpG K (rI C fv) (gIC C f) := by
  intro F st σ H x y v u P Q h l rx ry k
  obtain ⟨i, j, rfl, rfl, c, p⟩ := gIC_inv h
  cases rx
  cases ry
  exact ⟨i, j, rfl, rfl, c, k _ _ H p l .refl (hf _ _ _ _)⟩
end
end Sh
namespace Sh
open PySem L2
open PyProof.Rows hiding St

def okD : Nat → W → Bool
  | _, .non => true
  | _, .bl _ => true
  | _, .int _ => true
  | _, .str x => PyData.strOk x
  | n + 1, .tup ws => ws.all (okD n)
  | n + 1, .lst ws => ws.all (okD n)
  | _, _ => false
mutual
def eqW : W → W → Bool
  | .non, .non => true
  | .bl a, .bl b => a == b
  | .bl a, .int j => (if a then 1 else 0) == j
  | .int i, .bl b => i == (if b then 1 else 0)
  | .int i, .int j => i == j
  | .str x, .str y => x == y
  | .lst xs, .lst ys => eqWs xs ys
  | .tup xs, .tup ys => eqWs xs ys
  | _, _ => false
def eqWs : List W → List W → Bool
  | [], [] => true
  | x :: xs, y :: ys => eqW x y && eqWs xs ys
  | _, _ => false
end
mutual
def toD : W → PyData
  | .bl b => .bool b
  | .int i => .int i
  | .str x => .str x
  | .tup ws => .tuple (toDs ws)
  | .lst ws => .list (toDs ws)
  | _ => .none
def toDs : List W → List PyData
  | [] => []
  | w :: ws => toD w :: toDs ws
end
section
variable {K : PySem.W.Frag} {Lv : Addr → Prop} {H : Hp}
mutual
theorem dp_of : ∀ {n : Nat} (w : W) {v : V}, okD n w = true → RelW K Lv H w v → Dp K H v (toD w)
  | _, .non, _, _, .non => .non
  | _, .bl b, _, _, .bl _ => .bl b
  | _, .int i, _, _, .int _ => .int i
  | _, .str x, _, _, .str _ => .str x
  | n + 1, .tup ws, _, h, .tup f r => .tup f.sq (dps_of ws (show ws.all (okD n) = true from h) r)
  | n + 1, .lst ws, _, h, .lst f r => .lst f.sq (dps_of ws (show ws.all (okD n) = true from h) r)
  | 0, .tup ws, _, h, _ => by simp [okD] at h
  | 0, .lst ws, _, h, _ => by simp [okD] at h
  | n, .dct _, _, h, _ => by cases n <;> simp [okD] at h
  | n, .obj _ _, _, h, _ => by cases n <;> simp [okD] at h
  | n, .ref _, _, h, _ => by cases n <;> simp [okD] at h
  | n, .ty _, _, h, _ => by cases n <;> simp [okD] at h
  | n, .scr _, _, h, _ => by cases n <;> simp [okD] at h
theorem dps_of : ∀ {n : Nat} (ws : List W) {vs : List V}, ws.all (okD n) = true → RelWs K Lv H ws vs → DpAll K H vs (toDs ws)
  | _, [], _, _, .nil => .nil
  | n, w :: ws, _, h, .cons a r => by
    rw [List.all_cons, Bool.and_eq_true] at h
    exact .cons (dp_of w h.1 a) (dps_of ws h.2 r)
end
mutual
theorem lay_of : ∀ {n : Nat} (w : W), okD n w = true → (toD w).canLay0 = true ∧ (toD w).depth ≤ n
  | _, .non, _ => ⟨rfl, Nat.zero_le _⟩
  | _, .bl b, _ => ⟨rfl, Nat.zero_le _⟩
  | _, .int i, _ => ⟨rfl, Nat.zero_le _⟩
  | n, .str x, h => ⟨by cases n <;> exact h, Nat.zero_le _⟩
  | n + 1, .tup ws, h => by
    obtain ⟨h1, h2⟩ := lays_of ws (show ws.all (okD n) = true from h)
    exact ⟨h1, by show PyData.depthAll (toDs ws) + 1 ≤ n + 1; omega⟩
  | n + 1, .lst ws, h => by
    obtain ⟨h1, h2⟩ := lays_of ws (show ws.all (okD n) = true from h)
    exact ⟨h1, by show PyData.depthAll (toDs ws) + 1 ≤ n + 1; omega⟩
  | 0, .tup ws, h => by simp [okD] at h
  | 0, .lst ws, h => by simp [okD] at h
  | n, .dct _, h => by cases n <;> simp [okD] at h
  | n, .obj _ _, h => by cases n <;> simp [okD] at h
  | n, .ref _, h => by cases n <;> simp [okD] at h
  | n, .ty _, h => by cases n <;> simp [okD] at h
  | n, .scr _, h => by cases n <;> simp [okD] at h
theorem lays_of : ∀ {n : Nat} (ws : List W), ws.all (okD n) = true → PyData.canLayAll0 (toDs ws) = true ∧ PyData.depthAll (toDs ws) ≤ n
  | _, [], _ => ⟨rfl, Nat.zero_le _⟩
  | n, w :: ws, h => by
    rw [List.all_cons, Bool.and_eq_true] at h
    obtain ⟨h1, h2⟩ := lay_of w h.1
    obtain ⟨h3, h4⟩ := lays_of ws h.2
    exact ⟨by show ((toD w).canLay0 && PyData.canLayAll0 (toDs ws)) = true; rw [h1, h3]; rfl, by show max _ _ ≤ n; omega⟩
end
theorem eqvs_of {n m : Nat} (ih : ∀ (x y : W), okD n x = true → okD m y = true → PyData.eqv (toD x) (toD y) = eqW x y) : ∀ (xs ys : List W), xs.all (okD n) = true → ys.all (okD m) = true → PyData.eqvAll (toDs xs) (toDs ys) = eqWs xs ys
  | [], [], _, _ => rfl
  | [], _ :: _, _, _ => rfl
  | _ :: _, [], _, _ => rfl
  | x :: xs, y :: ys, hx, hy => by
    rw [List.all_cons, Bool.and_eq_true] at hx hy
    show (PyData.eqv (toD x) (toD y) && PyData.eqvAll (toDs xs) (toDs ys)) = (eqW x y && eqWs xs ys)
    rw [ih x y hx.1 hy.1, eqvs_of ih xs ys hx.2 hy.2]
theorem eqv_of {n : Nat} : ∀ {m : Nat} (x y : W), okD n x = true → okD m y = true → PyData.eqv (toD x) (toD y) = eqW x y := by
  induction n with
  | zero =>
    intro m x y hx hy
    cases x <;> cases y <;> first
      | rfl
      | (exfalso; clear hy; simp [okD] at hx; done)
      | (exfalso; clear hx; cases m <;> simp [okD] at hy <;> done)
  | succ n ih =>
    intro m x y hx hy
    cases x <;> cases y <;> first
      | rfl
      | (exfalso; clear hy; simp [okD] at hx; done)
      | (exfalso; clear hx; cases m <;> simp [okD] at hy <;> done)
      | (cases m with
         | zero => simp [okD] at hy
         | succ m => exact eqvs_of (fun x y => ih x y) _ _ hx hy)
theorem shaped_of {w : W} (h : okD 64 w = true) : SeqAt.shaped (toD w) = true := by
  obtain ⟨h1, h2⟩ := lay_of w h
  unfold SeqAt.shaped
  rw [h1, decide_eq_true h2]
  rfl
end
end Sh
namespace Sh
open PySem L2
open PyProof.Rows hiding St
def lim : Int := 10 ^ 200
def Bd (i : Int) : Prop := -lim < i ∧ i < lim
theorem lim_lt : lim.natAbs < 2 ^ 700 := by decide +kernel
theorem Bd.abs {i : Int} (h : Bd i) : i.natAbs < 2 ^ 700 := by
  have h1 := lim_lt
  obtain ⟨h2, h3⟩ := h
  omega
theorem Bd.mul {i j : Int} (h : Bd i) (k : Bd j) : CMulW i j := wide_mul h.abs k.abs (by decide) (by decide) (by decide)
section
variable {K : PySem.W.Frag} {Lv : Addr → Prop} {H : Hp}
theorem RelWs.drop : ∀ {ws : List W} {vs : List V} (n : Nat), RelWs K Lv H ws vs → RelWs K Lv H (ws.drop n) (vs.drop n)
  | _, _, 0, r => r
  | _, _, _ + 1, .nil => .nil
  | _, _, n + 1, .cons _ r => RelWs.drop n r
theorem RelWs.take : ∀ {ws : List W} {vs : List V} (n : Nat), RelWs K Lv H ws vs → RelWs K Lv H (ws.take n) (vs.take n)
  | _, _, 0, _ => .nil
  | _, _, _ + 1, .nil => .nil
  | _, _, n + 1, .cons h r => .cons h (RelWs.take n r)
theorem RelWs.ints : ∀ (ns : List Int), RelWs K Lv H (ns.map W.int) (ns.map V.int)
  | [] => .nil
  | n :: ns => .cons (.int n) (RelWs.ints ns)
theorem RelWs.reverse {ws : List W} {vs : List V} (r : RelWs K Lv H ws vs) : RelWs K Lv H ws.reverse vs.reverse := by
  induction ws generalizing vs with
  | nil => cases r; exact .nil
  | cons w ws ih =>
    cases r with
    | cons h r =>
      rw [List.reverse_cons, List.reverse_cons]
      exact (ih r).append (.cons h .nil)
end
section
variable {X : Cx} {F : Addr → Prop} {Wx : WX} {a b c e : Expr} {es : List Expr} {pos : Pos} {ia ib ic : IE}
abbrev rAddStr : R2 := fun x y H Q => ∃ i j, x = .str i ∧ y = .str j ∧ i.length + j.length ≤ sizeLine ∧ Q (.str (i ++ j)) H
def rAdds (K : PySem.W.Frag) : R2 := fun x y H Q => rI0 (fun i j => .int (i + j)) x y H Q ∨ rAddStr x y H Q ∨ rCatA K x y H Q ∨ rCat x y H Q
theorem op_adds : OpR X (binaryOp .Add) (rAdds X.K) := op_add.or (op_add_str.or (op_catA.or op_cat))
def gAdd : W → W → (W → Prop) → Prop := fun x y P => match x, y with
  | .int i, .int j => P (.int (i + j))
  | .str i, .str j => i.length + j.length ≤ sizeLine ∧ P (.str (i ++ j))
  | .tup xs, .tup ys => xs.length + ys.length ≤ sizeLine ∧ P (.tup (xs ++ ys))
  | .lst xs, .lst ys => xs.length + ys.length ≤ sizeLine ∧ P (.lst (xs ++ ys))
  | _, _ => False
theorem opG_add {K : PySem.W.Frag} : OpG K (rAdds K) gAdd := by
  intro F st σ H x y v u P Q h l rx ry k
  unfold gAdd at h
  split at h
  · cases rx; cases ry
    exact .inl ⟨_, _, rfl, rfl, k _ _ H h l .refl (.int _)⟩
  · cases rx; cases ry
    exact .inr (.inl ⟨_, _, rfl, rfl, h.1, k _ _ H h.2 l .refl (.str _)⟩)
  · cases rx with
    | tup fx rsx =>
      cases ry with
      | tup fy rsy =>
        rename_i a vs b us
        refine .inr (.inr (.inl ⟨a, b, vs, us, rfl, rfl, fx.sq, fy.sq, by rw [← rsx.length, ← rsy.length]; exact h.1, fun e => ?_, fun e1 e2 => ?_, fun _ _ p hp => ?_⟩))
        · subst e
          cases rsx
          exact k _ _ H h.2 l .refl (.tup fy rsy)
        · subst e2
          cases rsy
          exact k _ _ H h.2 l .refl (.tup fx (by rw [List.append_nil]; exact rsx))
        · have s := Step.laid (o := .tup (vs ++ us)) l hp
          exact k _ _ _ h.2 (l.laid hp) s (.tup (FzT.new l hp) ((rsx.append rsy).mono s.mv))
  · cases rx with
    | lst fx rsx =>
      cases ry with
      | lst fy rsy =>
        rename_i a vs b us
        refine .inr (.inr (.inr ⟨a, b, vs, us, rfl, rfl, fx.1, fy.1, by rw [← rsx.length, ← rsy.length]; exact h.1, fun p hp => ?_⟩))
        have s := Step.laid (o := .lst (vs ++ us)) l hp
        exact k _ _ _ h.2 (l.laid hp) s (.lst (FzL.new l hp) ((rsx.append rsy).mono s.mv))
  · exact h.elim
theorem i_add (ha : PE X a (LE X.K F Wx ia)) (hb : PE X b (LE X.K F Wx ib)) : PE X (.BinOp a .Add b pos) (LE X.K F Wx (iB gAdd ia ib)) := i_op op_adds opG_add ha hb
abbrev gSub := gI fun i j => .int (i - j)
theorem i_sub (ha : PE X a (LE X.K F Wx ia)) (hb : PE X b (LE X.K F Wx ib)) : PE X (.BinOp a .Sub b pos) (LE X.K F Wx (iB gSub ia ib)) := i_op op_sub (opG_I fun _ _ _ _ => .int _) ha hb
def MulOk (i j : Int) : Prop := (Bd i ∧ Bd j) ∨ (-(2 ^ 64) < i ∧ i < 2 ^ 64) ∨ (-(2 ^ 64) < j ∧ j < 2 ^ 64)
theorem MulOk.ok {i j : Int} (h : MulOk i j) : IntMulOk i j := by
  rcases h with h | h
  · exact (h.1.mul h.2).ok
  · exact CMul.ok h
def timesS (x : Str) (n : Nat) : Str := ⟨(List.replicate n x.cps).foldl (· ++ ·) #[]⟩
theorem times_size (xs : Array Nat) : ∀ (n : Nat) (acc : Array Nat), ((List.replicate n xs).foldl (· ++ ·) acc).size = acc.size + xs.size * n
  | 0, acc => by simp
  | n + 1, acc => by
    rw [List.replicate_succ, List.foldl_cons, times_size xs n, Array.size_append, Nat.mul_succ]
    omega
theorem timesS_len (x : Str) (n : Nat) : (timesS x n).length = x.length * n := by
  show (Array.size _) = x.cps.size * n
  unfold timesS
  rw [times_size]
  simp
abbrev rMulS : R2 := fun x y H Q => ∃ (i : Str) (n : Int), x = .str i ∧ y = .int n ∧ 2 ≤ n ∧ n ≤ 1000000 ∧ i.length ≠ 0 ∧ i.length * n.toNat ≤ sizeLine ∧ Q (.str (timesS i n.toNat)) H
theorem op_mul_str : OpR X (binaryOp .Mult) rMulS := by
  intro pins s σ H x y v u Q I rx ry h
  obtain ⟨i, n, rfl, rfl, h1, h2, h3, hz, q⟩ := h
  obtain ⟨t, rfl⟩ := rx
  obtain ⟨t', rfl⟩ := ry
  have e1 : ¬ n < 1 := by omega
  have e2 : (n == 1 || i.length == 0) = false := by
    have a : (n == 1) = false := by simp; omega
    have b : (i.length == 0) = false := by simp [h3]
    rw [a, b]; rfl
  refine PySem.P.mul_str ?_ (fun _ _ => ?_) (fun _ _ => ?_) ?_
  · have a : ¬ n < -(2 ^ 63 : Int) := by omega
    have b : ¬ n ≥ 2 ^ 63 := by omega
    rw [decide_eq_false a, decide_eq_false b]; rfl
  · have hs : (i.length : Int) * n ≤ sizeLine := by
      have e : ((i.length * n.toNat : Nat) : Int) = (i.length : Int) * n := by
        rw [Int.natCast_mul, Int.toNat_of_nonneg (by omega)]
      rw [← e]; exact_mod_cast hz
    have z : (sizeLine : Int) ≤ 2 ^ 63 - 1 := by decide
    intro w
    have w2 : (2 ^ 63 - 1) < (i.length : Int) * n := (Int.ediv_lt_iff_lt_mul (by omega)).mp w
    omega
  · exact (by unfold PySem.Builtin.Str.tooLong; exact decide_eq_false (Nat.not_lt.mpr hz))
  · rw [if_neg e1, e2, if_neg Bool.false_ne_true]
    refine ⟨?_, ⟨.str _, H, I.tok _, ⟨_, rfl⟩, q⟩⟩
    have e : (timesS i n.toNat).length = i.length * n.toNat := timesS_len i n.toNat
    exact Nat.le_trans (Nat.le_of_eq e) hz
def rMuls : R2 := fun x y H Q => rI MulOk (fun i j => .int (i * j)) x y H Q ∨ rMulS x y H Q ∨ rRep x y H Q
theorem op_mulI : OpR X (binaryOp .Mult) (rI MulOk fun i j => .int (i * j)) := opI fun _ _ _ _ _ _ _ hc q => mul_int q hc.ok
theorem op_muls : OpR X (binaryOp .Mult) rMuls := op_mulI.or (op_mul_str.or op_rep)
def gMul : W → W → (W → Prop) → Prop := fun x y P => match x, y with
  | .int i, .int j => MulOk i j ∧ P (.int (i * j))
  | .str i, .int n => 2 ≤ n ∧ n ≤ 1000000 ∧ i.length ≠ 0 ∧ i.length * n.toNat ≤ sizeLine ∧ P (.str (timesS i n.toNat))
  | .lst ws, .int k => -(2 ^ 63) ≤ k ∧ k < 2 ^ 63 ∧ ws.length * k.toNat ≤ sizeLine ∧ P (.lst (List.replicate k.toNat ws).flatten)
  | _, _ => False
theorem RelWs.times {K : PySem.W.Frag} {Lv : Addr → Prop} {H : Hp} {ws : List W} {vs : List V} (r : RelWs K Lv H ws vs) : ∀ n : Nat, RelWs K Lv H (List.replicate n ws).flatten (List.replicate n vs).flatten
  | 0 => .nil
  | n + 1 => by
    rw [List.replicate_succ, List.replicate_succ, List.flatten_cons, List.flatten_cons]
    exact r.append (RelWs.times r n)
theorem opG_mul {K : PySem.W.Frag} : OpG K rMuls gMul := by
  intro F st σ H x y v u P Q h l rx ry k
  unfold gMul at h
  split at h
  · cases rx; cases ry
    exact .inl ⟨_, _, rfl, rfl, h.1, k _ _ H h.2 l .refl (.int _)⟩
  · cases rx; cases ry
    obtain ⟨h1, h2, h3, h4, p⟩ := h
    exact .inr (.inl ⟨_, _, rfl, rfl, h1, h2, h3, h4, k _ _ H p l .refl (.str _)⟩)
  · cases rx with
    | lst f rs =>
      cases ry
      obtain ⟨h1, h2, h3, p⟩ := h
      refine .inr (.inr ⟨_, _, _, rfl, rfl, f.1, h1, h2, by rw [← rs.length]; exact h3, fun q hq => ?_⟩)
      exact k _ _ _ p (l.laid hq) (Step.laid l hq) (.lst (FzL.new l hq) ((rs.times _).mono (Step.laid l hq).mv))
  · exact h.elim
theorem OpR.cond {f : Value → Value → Sem Value} {C C' : Int → Int → Prop} {g : Int → Int → V} (h : OpR X f (rI C g)) (hc : ∀ i j, C' i j → C i j) : OpR X f (rI C' g) := by
  intro pins s σ H x y v u Q I rx ry q
  obtain ⟨i, j, e1, e2, c, q⟩ := q
  exact h pins s σ H x y v u Q I rx ry ⟨i, j, e1, e2, hc _ _ c, q⟩
theorem i_mul (ha : PE X a (LE X.K F Wx ia)) (hb : PE X b (LE X.K F Wx ib)) : PE X (.BinOp a .Mult b pos) (LE X.K F Wx (iB gMul ia ib)) := i_op op_muls opG_mul ha hb
abbrev gDiv := gIC (fun _ j => 0 < j ∧ Bd j) fun i j => .int (i / j)
theorem i_div (ha : PE X a (LE X.K F Wx ia)) (hb : PE X b (LE X.K F Wx ib)) : PE X (.BinOp a .FloorDiv b pos) (LE X.K F Wx (iB gDiv ia ib)) :=
  i_op (OpR.cond op_fdivW fun _ _ h => wide_div h.1 h.2.abs (by decide) (by decide)) (opG_IC fun _ _ _ _ => .int _) ha hb
abbrev gMod := gIC (fun _ j => 0 < j) fun i j => .int (i % j)
theorem i_mod (ha : PE X a (LE X.K F Wx ia)) (hb : PE X b (LE X.K F Wx ib)) : PE X (.BinOp a .Mod b pos) (LE X.K F Wx (iB gMod ia ib)) := i_op op_mod (opG_IC fun _ _ _ _ => .int _) ha hb
abbrev gPow := gIC CPow fun i j => .int (i ^ j.toNat)
theorem i_pow (ha : PE X a (LE X.K F Wx ia)) (hb : PE X b (LE X.K F Wx ib)) : PE X (.BinOp a .Pow b pos) (LE X.K F Wx (iB gPow ia ib)) := i_op op_pow (opG_IC fun _ _ _ _ => .int _) ha hb
def iNeg (ia : IE) : IE := fun EI st Q => ia EI st fun x st1 => match x with
  | .int i => Q (.int (-i)) st1
  | _ => False
theorem i_neg (ha : PE X a (LE X.K F Wx ia)) : PE X (.UnaryOp .USub a pos) (LE X.K F Wx (iNeg ia)) := by
  refine pe_imp (pe_un un_neg ha) fun σ H Q h => ?_
  obtain ⟨st, QI, EI, l, q, ux, k⟩ := h
  refine ⟨st, _, EI, l, q, ux, fun x st1 v H1 q1 l1 s1 r1 => ?_⟩
  split at q1
  · cases r1
    exact ⟨_, rfl, k _ _ _ H1 q1 l1 s1 (.int _)⟩
  · exact q1.elim

abbrev gLt := gI fun i j => .bl (decide (i < j))
abbrev gLe := gI fun i j => .bl (decide (i ≤ j))
abbrev gGt := gI fun i j => .bl (decide (j < i))
abbrev gGe := gI fun i j => .bl (decide (j ≤ i))
theorem og_lt {K : PySem.W.Frag} : OpG K (rI0 fun i j => .bl (decide (i < j))) gLt := opG_I fun _ _ _ _ => .bl _
theorem og_le {K : PySem.W.Frag} : OpG K (rI0 fun i j => .bl (decide (i ≤ j))) gLe := opG_I fun _ _ _ _ => .bl _
theorem og_gt {K : PySem.W.Frag} : OpG K (rI0 fun i j => .bl (decide (j < i))) gGt := opG_I fun _ _ _ _ => .bl _
theorem og_ge {K : PySem.W.Frag} : OpG K (rI0 fun i j => .bl (decide (j ≤ i))) gGe := opG_I fun _ _ _ _ => .bl _
def isS : W → Bool
  | .str _ => true
  | _ => false
/-- what == takes -/
def eqOk : W → W → Bool
  | .str _, .str _ => true
  | x, y => okD 64 x && okD 64 y
def gEq : W → W → (W → Prop) → Prop := fun x y P => eqOk x y = true ∧ P (.bl (eqW x y))
def gNe : W → W → (W → Prop) → Prop := fun x y P => eqOk x y = true ∧ P (.bl (!eqW x y))
def rEqS (K : PySem.W.Frag) : R2 := fun x y H Q => rEq x y H Q ∨ rEqD K x y H Q
def rNeS (K : PySem.W.Frag) : R2 := fun x y H Q => rNe x y H Q ∨ rNeD K x y H Q
theorem op_eqS (hu : X.A.units + 64 < cLine) : OpR X (compareOp .Eq) (rEqS X.K) := op_eq.or (op_eqD hu)
theorem op_neS (hu : X.A.units + 64 < cLine) : OpR X (compareOp .NotEq) (rNeS X.K) := op_ne.or (op_neD hu)
theorem eqOk_cases {x y : W} (h : eqOk x y = true) : (∃ a b, x = .str a ∧ y = .str b) ∨ okD 64 x = true ∧ okD 64 y = true := by
  unfold eqOk at h
  split at h
  · exact .inl ⟨_, _, rfl, rfl⟩
  · exact .inr (Bool.and_eq_true .. ▸ h)
theorem og_eq {K : PySem.W.Frag} : OpG K (rEqS K) gEq := by
  intro F st σ H x y v u P Q h l rx ry k
  obtain ⟨hx, p⟩ := h
  rcases eqOk_cases hx with ⟨a, b, rfl, rfl⟩ | ⟨hx, hy⟩
  · cases rx; cases ry
    refine .inl ⟨rfl, ?_⟩
    rw [dec_str]
    exact k _ _ H p l .refl (.bl _)
  · refine .inr ⟨_, _, dp_of x hx rx, dp_of y hy ry, shaped_of hx, shaped_of hy, ?_⟩
    rw [eqv_of x y hx hy]
    exact k _ _ H p l .refl (.bl _)
theorem og_ne {K : PySem.W.Frag} : OpG K (rNeS K) gNe := by
  intro F st σ H x y v u P Q h l rx ry k
  obtain ⟨hx, p⟩ := h
  rcases eqOk_cases hx with ⟨a, b, rfl, rfl⟩ | ⟨hx, hy⟩
  · cases rx; cases ry
    refine .inl ⟨rfl, ?_⟩
    rw [dec_str]
    exact k _ _ H p l .refl (.bl _)
  · refine .inr ⟨_, _, dp_of x hx rx, dp_of y hy ry, shaped_of hx, shaped_of hy, ?_⟩
    rw [eqv_of x y hx hy]
    exact k _ _ H p l .refl (.bl _)
/-- flat values -/
def flatW : W → Bool
  | .non => true
  | .bl _ => true
  | .int _ => true
  | .str _ => true
  | _ => false
theorem flat_rel {K : PySem.W.Frag} {Lv : Addr → Prop} {H : Hp} {w : W} {v : V} (f : flatW w = true) (r : RelW K Lv H w v) : flatV v = true := by
  cases r <;> first | rfl | cases f
theorem eqV_rel {K : PySem.W.Frag} {Lv : Addr → Prop} {H : Hp} {w y : W} {v u : V} (f : flatW w = true) (g : flatW y = true) (r : RelW K Lv H w v) (q : RelW K Lv H y u) : eqV v u = eqW w y := by
  cases r <;> cases q <;> first | rfl | cases f | cases g
theorem flats_rel {K : PySem.W.Frag} {Lv : Addr → Prop} {H : Hp} : ∀ {ws : List W} {vs : List V}, ws.all flatW = true → RelWs K Lv H ws vs → vs.all flatV = true
  | _, _, _, .nil => rfl
  | _, _, f, .cons h r => by
    rw [List.all_cons, Bool.and_eq_true] at f
    rw [List.all_cons, flat_rel f.1 h, flats_rel f.2 r]
    rfl
theorem inV_rel {K : PySem.W.Frag} {Lv : Addr → Prop} {H : Hp} {x : W} {v : V} (fx : flatW x = true) (rx : RelW K Lv H x v) : ∀ {ws : List W} {vs : List V}, ws.all flatW = true → RelWs K Lv H ws vs → inV v vs = ws.any fun y => eqW y x
  | _, _, _, .nil => rfl
  | _, _, f, .cons h r => by
    rw [List.all_cons, Bool.and_eq_true] at f
    show (eqV _ v || inV v _) = _
    rw [eqV_rel f.1 fx h rx, inV_rel fx rx f.2 r]
    rfl
def inW (x : W) (ws : List W) : Bool := ws.any fun y => eqW y x
def gIn (neg : Bool) : W → W → (W → Prop) → Prop := fun x y P => match y with
  | .lst ws => flatW x = true ∧ ws.all flatW = true ∧ P (.bl (if neg then !inW x ws else inW x ws))
  | .tup ws => flatW x = true ∧ ws.all flatW = true ∧ P (.bl (if neg then !inW x ws else inW x ws))
  | _ => False
theorem og_in {K : PySem.W.Frag} {neg : Bool} : OpG K (rIn K neg) (gIn neg) := by
  intro F st σ H x y v u P Q h l rx ry k
  unfold gIn at h
  split at h
  · obtain ⟨f1, f2, p⟩ := h
    cases ry with
    | lst fy rsy =>
      refine ⟨_, _, rfl, .inl fy.sq, flat_rel f1 rx, flats_rel f2 rsy, ?_⟩
      rw [inV_rel f1 rx f2 rsy]
      exact k _ _ H p l .refl (.bl _)
  · obtain ⟨f1, f2, p⟩ := h
    cases ry with
    | tup fy rsy =>
      refine ⟨_, _, rfl, .inr fy.sq, flat_rel f1 rx, flats_rel f2 rsy, ?_⟩
      rw [inV_rel f1 rx f2 rsy]
      exact k _ _ H p l .refl (.bl _)
  · exact h.elim
def isN : W → Bool
  | .non => true
  | _ => false
theorem isN_rel {K : PySem.W.Frag} {Lv : Addr → Prop} {H : Hp} {w : W} {v : V} (r : RelW K Lv H w v) : decide (v = .non) = isN w := by
  cases r <;> rfl
def gIsN (neg : Bool) : W → W → (W → Prop) → Prop := fun x y P => match y with
  | .non => P (.bl (if neg then !isN x else isN x))
  | _ => False
theorem og_isN {K : PySem.W.Frag} : OpG K (fun x y H Q => y = .non ∧ Q (.bl (decide (x = .non))) H) (gIsN false) := by
  intro F st σ H x y v u P Q h l rx ry k
  unfold gIsN at h
  split at h
  · cases ry
    refine ⟨rfl, ?_⟩
    rw [isN_rel rx]
    exact k _ _ H h l .refl (.bl _)
  · exact h.elim
theorem og_notN {K : PySem.W.Frag} : OpG K (fun x y H Q => y = .non ∧ Q (.bl (!decide (x = .non))) H) (gIsN true) := by
  intro F st σ H x y v u P Q h l rx ry k
  unfold gIsN at h
  split at h
  · cases ry
    refine ⟨rfl, ?_⟩
    rw [isN_rel rx]
    exact k _ _ H h l .refl (.bl _)
  · exact h.elim
theorem i_lt (ha : PE X a (LE X.K F Wx ia)) (hb : PE X b (LE X.K F Wx ib)) : PE X (.Compare a [.Lt] [b] pos) (LE X.K F Wx (iB gLt ia ib)) := i_cmp op_lt og_lt ha hb (nomark _)
theorem i_le (ha : PE X a (LE X.K F Wx ia)) (hb : PE X b (LE X.K F Wx ib)) : PE X (.Compare a [.LtE] [b] pos) (LE X.K F Wx (iB gLe ia ib)) := i_cmp op_le og_le ha hb (nomark _)
theorem i_gt (ha : PE X a (LE X.K F Wx ia)) (hb : PE X b (LE X.K F Wx ib)) : PE X (.Compare a [.Gt] [b] pos) (LE X.K F Wx (iB gGt ia ib)) := i_cmp op_gt og_gt ha hb (nomark _)
theorem i_ge (ha : PE X a (LE X.K F Wx ia)) (hb : PE X b (LE X.K F Wx ib)) : PE X (.Compare a [.GtE] [b] pos) (LE X.K F Wx (iB gGe ia ib)) := i_cmp op_ge og_ge ha hb (nomark _)
theorem i_eq (hu : X.A.units + 64 < cLine) (ha : PE X a (LE X.K F Wx ia)) (hb : PE X b (LE X.K F Wx ib)) : PE X (.Compare a [.Eq] [b] pos) (LE X.K F Wx (iB gEq ia ib)) := i_cmp (op_eqS hu) og_eq ha hb (nomark _)
theorem i_ne (hu : X.A.units + 64 < cLine) (ha : PE X a (LE X.K F Wx ia)) (hb : PE X b (LE X.K F Wx ib)) : PE X (.Compare a [.NotEq] [b] pos) (LE X.K F Wx (iB gNe ia ib)) := i_cmp (op_neS hu) og_ne ha hb (nomark _)
theorem i_in (ha : PE X a (LE X.K F Wx ia)) (hb : PE X b (LE X.K F Wx ib)) (hm : behindInMarks .In b = false := by rfl) : PE X (.Compare a [.In] [b] pos) (LE X.K F Wx (iB (gIn false) ia ib)) := i_cmp op_in_seq og_in ha hb hm
theorem i_notin (ha : PE X a (LE X.K F Wx ia)) (hb : PE X b (LE X.K F Wx ib)) (hm : behindInMarks .NotIn b = false := by rfl) : PE X (.Compare a [.NotIn] [b] pos) (LE X.K F Wx (iB (gIn true) ia ib)) := i_cmp op_notIn_seq og_in ha hb hm
theorem i_is (ha : PE X a (LE X.K F Wx ia)) (hb : PE X b (LE X.K F Wx ib)) : PE X (.Compare a [.Is] [b] pos) (LE X.K F Wx (iB (gIsN false) ia ib)) := i_cmp op_isN og_isN ha hb (nomark _)
theorem i_isnot (ha : PE X a (LE X.K F Wx ia)) (hb : PE X b (LE X.K F Wx ib)) : PE X (.Compare a [.IsNot] [b] pos) (LE X.K F Wx (iB (gIsN true) ia ib)) := i_cmp op_notN og_notN ha hb (nomark _)
def iChain (g g' : W → W → (W → Prop) → Prop) (ia ib ic : IE) : IE := fun EI st Q => ia EI st fun x st1 => ib EI st1 fun y st2 => g x y fun z => match z with
  | .bl k => if k = true then ic EI st2 fun w st3 => g' y w fun r => Q r st3 else Q (.bl false) st2
  | _ => False
theorem i_chain {op op' : CmpOp} {r r' : R2} {g g' : W → W → (W → Prop) → Prop} (ho : OpR X (compareOp op) r) (ho' : OpR X (compareOp op') r') (hg : OpG X.K r g) (hg' : OpG X.K r' g') (ha : PE X a (LE X.K F Wx ia)) (hb : PE X b (LE X.K F Wx ib)) (hc : PE X c (LE X.K F Wx ic))
    (hm : lastMarks [op, op'] [b, c] = false := by with_unfolding_all rfl) : PE X (.Compare a [op, op'] [b, c] pos) (LE X.K F Wx (iChain g g' ia ib ic)) := by
  refine pe_imp (pe_chain ho ho' ha hb hc hm) fun σ H Q h => ?_
  obtain ⟨st, QI, EI, l, q, ux, k⟩ := h
  refine ⟨st, _, EI, l, q, ux, fun x st1 v H1 q1 l1 s1 r1 => ⟨st1, _, EI, l1, q1, ux.step s1, fun y st2 u H2 q2 l2 s2 r2 => ?_⟩⟩
  refine hg q2 l2 (r1.mono s2.mv) r2 fun w z H3 p l3 s3 r3 => ?_
  split at p
  · rename_i b'
    cases r3
    refine ⟨b', rfl, ?_⟩
    cases b' with
    | true =>
      rw [if_pos rfl] at p ⊢
      refine ⟨st2, _, EI, l3, p, (ux.step (s1.trans s2)).step s3, fun w' st4 v4 H4 q4 l4 s4 r4 => ?_⟩
      exact hg' q4 l4 ((r2.mono s3.mv).mono s4.mv) r4 fun w5 z5 H5 p5 l5 s5 r5 => k w5 st4 z5 H5 p5 l5 ((((s1.trans s2).trans s3).trans s4).trans s5) r5
    | false =>
      rw [if_neg Bool.false_ne_true] at p ⊢
      exact k _ _ _ H3 p l3 ((s1.trans s2).trans s3) (.bl false)
  · exact p.elim

def gTru (x : W) (P : Bool → Prop) : Prop := match x with
  | .non => P false
  | .bl b => P b
  | .int i => P (i != 0)
  | .str y => y.length ≤ sizeLine ∧ P ((y.length : Int) != 0)
  | .tup ws => P (!ws.isEmpty)
  | .lst ws => P (!ws.isEmpty)
  | .dct ws => P (!ws.isEmpty)
  | _ => False
theorem RelWs.empty {K : PySem.W.Frag} {Lv : Addr → Prop} {H : Hp} {ws : List W} {vs : List V} (r : RelWs K Lv H ws vs) : vs.isEmpty = ws.isEmpty := by
  cases r <;> rfl
theorem RelKs.empty {K : PySem.W.Frag} {Lv : Addr → Prop} {H : Hp} {ws : List (Key × W)} {vs : List (Key × V)} (r : RelKs K Lv H ws vs) : vs.isEmpty = ws.isEmpty := by
  cases r <;> rfl
theorem tru_rel {K : PySem.W.Frag} {Lv : Addr → Prop} {H : Hp} {w : W} {v : V} {P : Bool → Prop} (h : gTru w P) (r : RelW K Lv H w v) : ∃ k, TruV K v H k ∧ P k := by
  cases r with
  | non => exact ⟨_, rfl, h⟩
  | bl b => exact ⟨_, rfl, h⟩
  | int i => exact ⟨_, rfl, h⟩
  | str x => exact ⟨_, ⟨h.1, rfl⟩, h.2⟩
  | tup f rs => exact ⟨_, .inr (.inl ⟨_, f.sq, rfl⟩), by rw [rs.empty]; exact h⟩
  | lst f rs => exact ⟨_, .inl ⟨_, f.sq, rfl⟩, by rw [rs.empty]; exact h⟩
  | dct e n rs => exact ⟨_, .inr (.inr ⟨_, e, rfl⟩), by rw [rs.empty]; exact h⟩
  | ty n => exact h.elim
  | ref a => exact h.elim
  | obj e n rs => exact h.elim
  | scr f => exact h.elim
/-- a value as a test -/
def tTru' (ia : IE) : IT := fun EI st Q => ia EI st fun x st1 => gTru x fun b => Q b st1
theorem t_tru (ha : PE X a (LE X.K F Wx ia)) (he : ∀ whole, isTrue a X.env whole = (do let v ← whole; standAt a.pos; holding [v] (truthy v)) := by intro _; rfl) : PT X a (LT X.K F Wx (tTru' ia)) := by
  refine pt_imp (pt_truth ha he) fun σ H Q h => ?_
  obtain ⟨st, QI, EI, l, q, ux, k⟩ := h
  refine ⟨st, _, EI, l, q, ux, fun x st1 v H1 q1 l1 s1 r1 => ?_⟩
  obtain ⟨b, t, p⟩ := tru_rel q1 r1
  exact ⟨b, t, k b st1 H1 p l1 s1⟩
/-- a comparison as a test -/
def tBl (ia : IE) : IT := fun EI st Q => ia EI st fun x st1 => match x with
  | .bl b => Q b st1
  | _ => False
theorem t_of_bl {K : PySem.W.Frag} {σ : L2.St} {H : Hp} {Q : Bool → Hp → Prop} (h : LT K F Wx (tBl ia) σ H Q) : LE K F Wx ia σ H fun x H' => ∃ k, x = .bl k ∧ Q k H' := by
  obtain ⟨st, QI, EI, l, q, ux, k⟩ := h
  refine ⟨st, _, EI, l, q, ux, fun x st1 v H1 q1 l1 s1 r1 => ?_⟩
  split at q1
  · cases r1
    exact ⟨_, rfl, k _ st1 H1 q1 l1 s1⟩
  · exact q1.elim
theorem t_cmp {op : CmpOp} {r : R2} {g : W → W → (W → Prop) → Prop} (ho : OpR X (compareOp op) r) (hg : OpG X.K r g) (ha : PE X a (LE X.K F Wx ia)) (hb : PE X b (LE X.K F Wx ib)) (hm : behindInMarks op b = false) : PT X (.Compare a [op] [b] pos) (LT X.K F Wx (tBl (iB g ia ib))) :=
  pt_imp (pt_cmpR ho ha hb hm) fun _ _ _ h => LE_op hg (t_of_bl h)
theorem t_lt (ha : PE X a (LE X.K F Wx ia)) (hb : PE X b (LE X.K F Wx ib)) : PT X (.Compare a [.Lt] [b] pos) (LT X.K F Wx (tBl (iB gLt ia ib))) := t_cmp op_lt og_lt ha hb (nomark _)
theorem t_le (ha : PE X a (LE X.K F Wx ia)) (hb : PE X b (LE X.K F Wx ib)) : PT X (.Compare a [.LtE] [b] pos) (LT X.K F Wx (tBl (iB gLe ia ib))) := t_cmp op_le og_le ha hb (nomark _)
theorem t_gt (ha : PE X a (LE X.K F Wx ia)) (hb : PE X b (LE X.K F Wx ib)) : PT X (.Compare a [.Gt] [b] pos) (LT X.K F Wx (tBl (iB gGt ia ib))) := t_cmp op_gt og_gt ha hb (nomark _)
theorem t_ge (ha : PE X a (LE X.K F Wx ia)) (hb : PE X b (LE X.K F Wx ib)) : PT X (.Compare a [.GtE] [b] pos) (LT X.K F Wx (tBl (iB gGe ia ib))) := t_cmp op_ge og_ge ha hb (nomark _)
theorem t_eq (hu : X.A.units + 64 < cLine) (ha : PE X a (LE X.K F Wx ia)) (hb : PE X b (LE X.K F Wx ib)) : PT X (.Compare a [.Eq] [b] pos) (LT X.K F Wx (tBl (iB gEq ia ib))) := t_cmp (op_eqS hu) og_eq ha hb (nomark _)
theorem t_ne (hu : X.A.units + 64 < cLine) (ha : PE X a (LE X.K F Wx ia)) (hb : PE X b (LE X.K F Wx ib)) : PT X (.Compare a [.NotEq] [b] pos) (LT X.K F Wx (tBl (iB gNe ia ib))) := t_cmp (op_neS hu) og_ne ha hb (nomark _)
theorem t_in (ha : PE X a (LE X.K F Wx ia)) (hb : PE X b (LE X.K F Wx ib)) (hm : behindInMarks .In b = false := by rfl) : PT X (.Compare a [.In] [b] pos) (LT X.K F Wx (tBl (iB (gIn false) ia ib))) := t_cmp op_in_seq og_in ha hb hm
theorem t_notin (ha : PE X a (LE X.K F Wx ia)) (hb : PE X b (LE X.K F Wx ib)) (hm : behindInMarks .NotIn b = false := by rfl) : PT X (.Compare a [.NotIn] [b] pos) (LT X.K F Wx (tBl (iB (gIn true) ia ib))) := t_cmp op_notIn_seq og_in ha hb hm
theorem t_is (ha : PE X a (LE X.K F Wx ia)) (hb : PE X b (LE X.K F Wx ib)) : PT X (.Compare a [.Is] [b] pos) (LT X.K F Wx (tBl (iB (gIsN false) ia ib))) := t_cmp op_isN og_isN ha hb (nomark _)
theorem t_isnot (ha : PE X a (LE X.K F Wx ia)) (hb : PE X b (LE X.K F Wx ib)) : PT X (.Compare a [.IsNot] [b] pos) (LT X.K F Wx (tBl (iB (gIsN true) ia ib))) := t_cmp op_notN og_notN ha hb (nomark _)
theorem t_chain {op op' : CmpOp} {r r' : R2} {g g' : W → W → (W → Prop) → Prop} (ho : OpR X (compareOp op) r) (ho' : OpR X (compareOp op') r') (hg : OpG X.K r g) (hg' : OpG X.K r' g') (ha : PE X a (LE X.K F Wx ia)) (hb : PE X b (LE X.K F Wx ib)) (hc : PE X c (LE X.K F Wx ic))
    (hm : lastMarks [op, op'] [b, c] = false := by with_unfolding_all rfl) : PT X (.Compare a [op, op'] [b, c] pos) (LT X.K F Wx (tBl (iChain g g' ia ib ic))) := by
  refine pt_imp (pt_chain ho ho' ha hb hc hm) fun σ H Q h => ?_
  obtain ⟨st, QI, EI, l, q, ux, k⟩ := t_of_bl h
  refine ⟨st, _, EI, l, q, ux, fun x st1 v H1 q1 l1 s1 r1 => ⟨st1, _, EI, l1, q1, ux.step s1, fun y st2 u H2 q2 l2 s2 r2 => ?_⟩⟩
  refine hg q2 l2 (r1.mono s2.mv) r2 fun w z H3 p l3 s3 r3 => ?_
  split at p
  · rename_i b'
    cases r3
    refine ⟨b', rfl, ?_⟩
    cases b' with
    | true =>
      rw [if_pos rfl] at p ⊢
      refine ⟨st2, _, EI, l3, p, (ux.step (s1.trans s2)).step s3, fun w' st4 v4 H4 q4 l4 s4 r4 => ?_⟩
      exact hg' q4 l4 ((r2.mono s3.mv).mono s4.mv) r4 fun w5 z5 H5 p5 l5 s5 r5 => k w5 st4 z5 H5 p5 l5 ((((s1.trans s2).trans s3).trans s4).trans s5) r5
    | false =>
      rw [if_neg Bool.false_ne_true] at p ⊢
      exact k _ _ _ H3 p l3 ((s1.trans s2).trans s3) (.bl false)
  · exact p.elim
def tAnd' (s t : IT) : IT := fun EI st Q => s EI st fun c st1 => if c = true then t EI st1 Q else Q false st1
def tOr' (s t : IT) : IT := fun EI st Q => s EI st fun c st1 => if c = true then Q true st1 else t EI st1 Q
def tNot' (s : IT) : IT := fun EI st Q => s EI st fun c st1 => Q (!c) st1
variable {ta tb : IT} {rest : List Expr}
theorem w_and1 (ha : PT X a (LT X.K F Wx ta)) : PW X (.BoolOp .And [a] pos) (LT X.K F Wx ta) := pw_and1 ha
theorem w_or1 (ha : PT X a (LT X.K F Wx ta)) : PW X (.BoolOp .Or [a] pos) (LT X.K F Wx ta) := pw_or1 ha
theorem w_and (ha : PT X a (LT X.K F Wx ta)) (hb : PW X (.BoolOp .And (b :: rest) pos) (LT X.K F Wx tb)) : PW X (.BoolOp .And (a :: b :: rest) pos) (LT X.K F Wx (tAnd' ta tb)) := by
  refine pw_imp (pw_and ha hb) fun σ H Q h => ?_
  obtain ⟨st, QI, EI, l, q, ux, k⟩ := h
  refine ⟨st, _, EI, l, q, ux, fun c st1 H1 q1 l1 s1 => ?_⟩
  cases c with
  | true =>
    rw [if_pos rfl] at q1 ⊢
    exact ⟨st1, _, EI, l1, q1, ux.step s1, fun b st2 H2 q2 l2 s2 => k b st2 H2 q2 l2 (s1.trans s2)⟩
  | false =>
    rw [if_neg Bool.false_ne_true] at q1 ⊢
    exact k _ _ H1 q1 l1 s1
theorem w_or (ha : PT X a (LT X.K F Wx ta)) (hb : PW X (.BoolOp .Or (b :: rest) pos) (LT X.K F Wx tb)) : PW X (.BoolOp .Or (a :: b :: rest) pos) (LT X.K F Wx (tOr' ta tb)) := by
  refine pw_imp (pw_or ha hb) fun σ H Q h => ?_
  obtain ⟨st, QI, EI, l, q, ux, k⟩ := h
  refine ⟨st, _, EI, l, q, ux, fun c st1 H1 q1 l1 s1 => ?_⟩
  cases c with
  | true =>
    rw [if_pos rfl] at q1 ⊢
    exact k _ _ H1 q1 l1 s1
  | false =>
    rw [if_neg Bool.false_ne_true] at q1 ⊢
    exact ⟨st1, _, EI, l1, q1, ux.step s1, fun b st2 H2 q2 l2 s2 => k b st2 H2 q2 l2 (s1.trans s2)⟩
theorem t_not (ha : PT X a (LT X.K F Wx ta)) : PT X (.UnaryOp .Not a pos) (LT X.K F Wx (tNot' ta)) := by
  refine pt_imp (pt_not ha) fun σ H Q h => ?_
  obtain ⟨st, QI, EI, l, q, ux, k⟩ := h
  exact ⟨st, _, EI, l, q, ux, fun c st1 H1 q1 l1 s1 => k _ _ H1 q1 l1 s1⟩
def iIf (t : IT) (ia ib : IE) : IE := fun EI st Q => t EI st fun c st1 => if c = true then ia EI st1 Q else ib EI st1 Q
theorem i_if (hc : PT X c (LT X.K F Wx ta)) (ha : PE X a (LE X.K F Wx ia)) (hb : PE X b (LE X.K F Wx ib)) : PE X (.IfExp c a b pos) (LE X.K F Wx (iIf ta ia ib)) := by
  refine pe_imp (pe_ifExp hc ha hb) fun σ H Q h => ?_
  obtain ⟨st, QI, EI, l, q, ux, k⟩ := h
  refine ⟨st, _, EI, l, q, ux, fun c st1 H1 q1 l1 s1 => ?_⟩
  cases c with
  | true =>
    rw [if_pos rfl] at q1 ⊢
    exact ⟨st1, _, EI, l1, q1, ux.step s1, fun w st2 v H2 q2 l2 s2 r2 => k w st2 v H2 q2 l2 (s1.trans s2) r2⟩
  | false =>
    rw [if_neg Bool.false_ne_true] at q1 ⊢
    exact ⟨st1, _, EI, l1, q1, ux.step s1, fun w st2 v H2 q2 l2 s2 r2 => k w st2 v H2 q2 l2 (s1.trans s2) r2⟩
/-- and, or, not as values -/
def iAnd (ia ib : IE) : IE := fun EI st Q => ia EI st fun x st1 => gTru x fun b => if b = true then ib EI st1 Q else Q x st1
def iOr (ia ib : IE) : IE := fun EI st Q => ia EI st fun x st1 => gTru x fun b => if b = true then Q x st1 else ib EI st1 Q
def iNot (ia : IE) : IE := fun EI st Q => ia EI st fun x st1 => gTru x fun b => Q (.bl (!b)) st1
theorem i_one {op : BoolOp} (h : PE X a (LE X.K F Wx ia)) : PE X (.BoolOp op [a] pos) (LE X.K F Wx ia) := pe_one h
theorem i_and (ha : PE X a (LE X.K F Wx ia)) (hb : PE X (.BoolOp .And (b :: rest) pos) (LE X.K F Wx ib)) : PE X (.BoolOp .And (a :: b :: rest) pos) (LE X.K F Wx (iAnd ia ib)) := by
  refine pe_imp (pe_andT ha hb) fun σ H Q h => ?_
  obtain ⟨st, QI, EI, l, q, ux, k⟩ := h
  refine ⟨st, _, EI, l, q, ux, fun x st1 v H1 q1 l1 s1 r1 => ?_⟩
  obtain ⟨c, t, p⟩ := tru_rel q1 r1
  refine ⟨c, t, ?_⟩
  cases c with
  | true =>
    rw [if_pos rfl] at p ⊢
    exact ⟨st1, _, EI, l1, p, ux.step s1, fun w st2 v H2 q2 l2 s2 r2 => k w st2 v H2 q2 l2 (s1.trans s2) r2⟩
  | false =>
    rw [if_neg Bool.false_ne_true] at p ⊢
    exact k _ _ _ H1 p l1 s1 r1
theorem i_or (ha : PE X a (LE X.K F Wx ia)) (hb : PE X (.BoolOp .Or (b :: rest) pos) (LE X.K F Wx ib)) : PE X (.BoolOp .Or (a :: b :: rest) pos) (LE X.K F Wx (iOr ia ib)) := by
  refine pe_imp (pe_orT ha hb) fun σ H Q h => ?_
  obtain ⟨st, QI, EI, l, q, ux, k⟩ := h
  refine ⟨st, _, EI, l, q, ux, fun x st1 v H1 q1 l1 s1 r1 => ?_⟩
  obtain ⟨c, t, p⟩ := tru_rel q1 r1
  refine ⟨c, t, ?_⟩
  cases c with
  | true =>
    rw [if_pos rfl] at p ⊢
    exact k _ _ _ H1 p l1 s1 r1
  | false =>
    rw [if_neg Bool.false_ne_true] at p ⊢
    exact ⟨st1, _, EI, l1, p, ux.step s1, fun w st2 v H2 q2 l2 s2 r2 => k w st2 v H2 q2 l2 (s1.trans s2) r2⟩
theorem i_not (ha : PE X a (LE X.K F Wx ia)) : PE X (.UnaryOp .Not a pos) (LE X.K F Wx (iNot ia)) := by
  refine pe_imp (pe_notT ha) fun σ H Q h => ?_
  obtain ⟨st, QI, EI, l, q, ux, k⟩ := h
  refine ⟨st, _, EI, l, q, ux, fun x st1 v H1 q1 l1 s1 r1 => ?_⟩
  obtain ⟨c, t, p⟩ := tru_rel q1 r1
  exact ⟨c, t, k _ _ _ H1 p l1 s1 (.bl _)⟩
end
end Sh
namespace Sh
open PySem L2
open PyProof.Rows hiding St
section
variable {X : Cx} {F : Addr → Prop} {Wx : WX} {a b c e : Expr} {es : List Expr} {pos : Pos} {ia ib ic : IE}
def atW (ws : List W) (i : Int) (P : W → Prop) : Prop := match atI ws i with
  | some w => P w
  | none => False
theorem atW_inv {ws : List W} {i : Int} {P : W → Prop} (h : atW ws i P) : ∃ w, atI ws i = some w ∧ P w := by
  unfold atW at h
  split at h
  · exact ⟨_, by assumption, h⟩
  · exact h.elim
theorem atI_rel {K : PySem.W.Frag} {Lv : Addr → Prop} {H : Hp} {ws : List W} {vs : List V} {i : Int} {w : W} (r : RelWs K Lv H ws vs) (e : atI ws i = some w) : ∃ v, atI vs i = some v ∧ RelW K Lv H w v := by
  unfold atI at e ⊢
  rw [← r.length]
  cases q : ixN ws.length i with
  | none => rw [q] at e; cases e
  | some j =>
    rw [q, Option.bind_some] at e
    rw [Option.bind_some]
    exact r.get e
/-- an item; of the store's lists too -/
def gIx (st : Stt) (x y : W) (P : W → Prop) : Prop := match x, y with
  | .tup ws, .int i => atW ws i P
  | .lst ws, .int i => atW ws i P
  | .ref a, .int i => (match st.S a with
    | some (.lst ws) => atW ws i P
    | _ => False)
  | .str z, .int i => z.length ≤ sizeLine ∧ (match atI z.cps.toList i with
    | some c => P (.str ⟨#[c]⟩)
    | none => False)
  | _, _ => False
def iIx (ia ib : IE) : IE := fun EI st Q => ia EI st fun x st1 => ib EI st1 fun y st2 => gIx st2 x y fun w => Q w st2
theorem ix_rel {K : PySem.W.Frag} {st : Stt} {σ : L2.St} {H : Hp} {x y : W} {v u : V} {P : W → Prop} {Q : VK} (h : gIx st x y P) (l : Lk K F st σ H) (rx : RelW K (Live F st σ) H x v) (ry : RelW K (Live F st σ) H y u)
    (k : ∀ w z, P w → RelW K (Live F st σ) H w z → Q z H) : rIx K v u H Q := by
  unfold gIx at h
  split at h
  · obtain ⟨w, e, p⟩ := atW_inv h
    cases rx with
    | tup f r =>
      cases ry
      obtain ⟨z, ez, rz⟩ := atI_rel r e
      exact .inr (.inl ⟨_, _, _, z, rfl, rfl, f.sq, ez, k w z p rz⟩)
  · obtain ⟨w, e, p⟩ := atW_inv h
    cases rx with
    | lst f r =>
      cases ry
      obtain ⟨z, ez, rz⟩ := atI_rel r e
      exact .inl ⟨_, _, _, z, rfl, rfl, f.sq, ez, k w z p rz⟩
  · split at h
    · rename_i ws es
      obtain ⟨w, e, p⟩ := atW_inv h
      cases rx
      cases ry
      obtain ⟨vs, ev, r⟩ := l.sto _ _ es
      obtain ⟨z, ez, rz⟩ := atI_rel r e
      exact .inl ⟨_, _, _, z, rfl, rfl, SqL.of ev, ez, k w z p rz⟩
    · exact h.elim
  · obtain ⟨hl, h⟩ := h
    cases rx
    cases ry
    split at h
    · rename_i c ec
      exact .inr (.inr ⟨_, _, c, rfl, rfl, hl, ec, k _ _ h (.str _)⟩)
    · exact h.elim
  · exact h.elim
theorem i_ix (ha : PE X a (LE X.K F Wx ia)) (hb : PE X b (LE X.K F Wx ib)) (hs : PlainIx b := by intro _ _; rfl) : PE X (.Subscript a b pos) (LE X.K F Wx (iIx ia ib)) := by
  refine pe_imp (pe_ix ix_seq ha hb hs) fun σ H Q h => ?_
  obtain ⟨st, QI, EI, l, q, ux, k⟩ := h
  refine ⟨st, _, EI, l, q, ux, fun x st1 v H1 q1 l1 s1 r1 => ⟨st1, _, EI, l1, q1, ux.step s1, fun y st2 u H2 q2 l2 s2 r2 => ?_⟩⟩
  exact ix_rel q2 l2 (r1.mono s2.mv) r2 fun w z p r => k w st2 z H2 p l2 (s1.trans s2) r
/-- an item of an owned list, which stays owned -/
def ownL (st : Stt) (i : Nat) (P : List W → Prop) : Prop := match st.ρ[i]? with
  | some (.own (.lst ws)) => P ws
  | _ => False
theorem ownL_inv {st : Stt} {i : Nat} {P : List W → Prop} (h : ownL st i P) : ∃ ws, st.ρ[i]? = some (.own (.lst ws)) ∧ P ws := by
  unfold ownL at h
  split at h
  · exact ⟨_, by assumption, h⟩
  · exact h.elim
def iIxO (i : Nat) (ib : IE) : IE := fun EI st Q => ownL st i fun _ => ib EI st fun y st1 => ownL st1 i fun ws => match y with
  | .int j => atW ws j fun w => Q w st1
  | _ => False
theorem i_ixO {i : Nat} {x : Str} {px : Pos} (hb : PE X b (LE X.K F Wx ib)) (hN : X.N[i]? = some x := by rfl) (hv : Vis X.env.scope x := by first | exact Or.inl rfl | exact Or.inr (Or.inl rfl) | exact Or.inr (Or.inr rfl)) (hd : (x == ("__debug__" : Str)) = false := by decide)
    (hcd : (x == ("__classdict__" : Str)) = false := by decide) (hs : PlainIx b := by intro _ _; rfl) : PE X (.Subscript (.Name x px) b pos) (LE X.K F Wx (iIxO i ib)) := by
  refine pe_imp (pe_ix ix_seq (pe_var hN hv hd hcd) hb hs) fun σ H Q h => ?_
  obtain ⟨st, QI, EI, l, q, ux, k⟩ := h
  obtain ⟨ws0, e0, q⟩ := ownL_inv q
  obtain ⟨a, ea, _⟩ := l.own i _ e0
  refine ⟨.ref a, ea, st, _, EI, l, q, ux, fun y st1 u H1 q1 l1 s1 r1 => ?_⟩
  obtain ⟨ws, es, q1⟩ := ownL_inv q1
  split at q1
  · rename_i j
    obtain ⟨w, e, p⟩ := atW_inv q1
    obtain ⟨a', ea', ⟨vs, hv, r⟩, _, _⟩ := l1.own i _ es
    rw [ea] at ea'
    cases ea'
    cases r1
    obtain ⟨z, ez, rz⟩ := atI_rel r e
    exact .inl ⟨_, _, _, z, rfl, rfl, SqL.of hv, ez, k w st1 z H1 p l1 s1 rz⟩
  · exact q1.elim

abbrev IO' := XI → Stt → (Option Int → Stt → Prop) → Prop
def LO (K : PySem.W.Frag) (F : Addr → Prop) (Wx : WX) (i : IO') : TO := fun σ H Q => ∃ st QI EI, Lk K F st σ H ∧ i EI st QI ∧ UpX K F Wx st σ H EI ∧
  ∀ o st' H', QI o st' → Lk K F st' σ H' → Step st σ H st' σ H' → Q o H'
theorem po_imp {X : Cx} {e : Option Expr} {t t' : TO} (h : PO X e t) (m : ∀ σ H Q, t' σ H Q → t σ H Q) : PO X e t' := ⟨fun pins s σ H Q I q => h.run pins s σ H Q I (m _ _ _ q)⟩
def oNone : IO' := fun _ st Q => Q none st
def oSome (ia : IE) : IO' := fun EI st Q => ia EI st fun x st1 => match x with
  | .int i => Q (some i) st1
  | _ => False
theorem o_none : PO X none (LO X.K F Wx oNone) := by
  refine po_imp po_none fun σ H Q h => ?_
  obtain ⟨st, QI, EI, l, q, ux, k⟩ := h
  exact k none st H q l .refl
theorem o_some (ha : PE X a (LE X.K F Wx ia)) : PO X (some a) (LO X.K F Wx (oSome ia)) := by
  refine po_imp (po_some ha) fun σ H Q h => ?_
  obtain ⟨st, QI, EI, l, q, ux, k⟩ := h
  refine ⟨st, _, EI, l, q, ux, fun x st1 v H1 q1 l1 s1 r1 => ?_⟩
  split at q1
  · cases r1
    exact ⟨_, rfl, k _ _ H1 q1 l1 s1⟩
  · exact q1.elim
def cutW {α : Type} (xs : List α) (lo hi : Option Int) : List α := (xs.drop (HT.sIx xs.length 0 lo)).take (HT.sIx xs.length xs.length hi - HT.sIx xs.length 0 lo)
theorem cut_rel {K : PySem.W.Frag} {Lv : Addr → Prop} {H : Hp} {ws : List W} {vs : List V} (r : RelWs K Lv H ws vs) (lo hi : Option Int) : RelWs K Lv H (cutW ws lo hi) (cutV vs lo hi) := by
  unfold cutW cutV
  rw [r.length]
  exact (r.drop _).take _
def rSls (K : PySem.W.Frag) : V → Option Int → Option Int → Hp → VK → Prop := fun x lo hi H Q => rSlA K x lo hi H Q ∨ rSlL K x lo hi H Q
theorem sl_any : SlR X (rSls X.K) := sl_tupA.or sl_list
def gSl (x : W) (lo hi : Option Int) (P : W → Prop) : Prop := match x with
  | .tup ws => P (.tup (cutW ws lo hi))
  | .lst ws => P (.lst (cutW ws lo hi))
  | .scr ns => P (.lst ((cutW ns lo hi).map .int))
  | _ => False
theorem cutV_map (ns : List Int) (lo hi : Option Int) : cutV (ns.map V.int) lo hi = (cutW ns lo hi).map V.int := by
  unfold cutW cutV
  rw [List.length_map, List.map_take, List.map_drop]
theorem cut_whole {α : Type} {xs : List α} {lo hi : Option Int} (h : HT.sIx xs.length 0 lo = 0 ∧ HT.sIx xs.length xs.length hi = xs.length) : cutW xs lo hi = xs := by
  unfold cutW
  rw [h.1, h.2]
  simp
theorem sl_rel {K : PySem.W.Frag} {st : Stt} {σ : L2.St} {H : Hp} {x : W} {v : V} {lo hi : Option Int} {P : W → Prop} {Q : VK} (h : gSl x lo hi P) (l : Lk K F st σ H) (rx : RelW K (Live F st σ) H x v)
    (k : ∀ w z H', P w → Lk K F st σ H' → Step st σ H st σ H' → RelW K (Live F st σ) H' w z → Q z H') : rSls K v lo hi H Q := by
  unfold gSl at h
  split at h
  · cases rx with
    | tup f r =>
      rename_i a vs
      refine .inl ⟨a, vs, rfl, f.sq, fun e => ?_, fun _ p hp => ?_⟩
      · rw [cut_whole (by rw [r.length]; exact e)] at h
        exact k _ _ H h l .refl (.tup f r)
      · have s := Step.laid (o := .tup (cutV vs lo hi)) l hp
        exact k _ _ _ h (l.laid hp) s (.tup (FzT.new l hp) ((cut_rel r lo hi).mono s.mv))
  · cases rx with
    | lst f r =>
      rename_i a vs
      refine .inr ⟨a, vs, rfl, f.sq, fun p hp => ?_⟩
      have s := Step.laid (o := .lst (cutV vs lo hi)) l hp
      exact k _ _ _ h (l.laid hp) s (.lst (FzL.new l hp) ((cut_rel r lo hi).mono s.mv))
  · cases rx with
    | scr f =>
      rename_i ns a
      refine .inr ⟨a, _, rfl, f.sq, fun p hp => ?_⟩
      have s := Step.laid (o := .lst (cutV (ns.map V.int) lo hi)) l hp
      refine k _ _ _ h (l.laid hp) s (.lst (FzL.new l hp) ?_)
      rw [cutV_map]
      exact RelWs.ints _
  · exact h.elim
def iSl (ia : IE) (lo hi : IO') : IE := fun EI st Q => ia EI st fun x st1 => lo EI st1 fun i st2 => hi EI st2 fun j st3 => gSl x i j fun w => Q w st3
theorem i_sl {lo hi : Option Expr} {il ih : IO'} {p2 : Pos} (ha : PE X a (LE X.K F Wx ia)) (hl : PO X lo (LO X.K F Wx il)) (hh : PO X hi (LO X.K F Wx ih)) : PE X (.Subscript a (.Slice lo hi none p2) pos) (LE X.K F Wx (iSl ia il ih)) := by
  refine pe_imp (pe_slice sl_any ha hl hh) fun σ H Q h => ?_
  obtain ⟨st, QI, EI, l, q, ux, k⟩ := h
  refine ⟨st, _, EI, l, q, ux, fun x st1 v H1 q1 l1 s1 r1 => ⟨st1, _, EI, l1, q1, ux.step s1, fun i st2 H2 q2 l2 s2 => ⟨st2, _, EI, l2, q2, ux.step (s1.trans s2), fun j st3 H3 q3 l3 s3 => ?_⟩⟩⟩
  exact sl_rel q3 l3 ((r1.mono s2.mv).mono s3.mv) fun w z H4 p l4 s4 r4 => k w st3 z H4 p l4 (((s1.trans s2).trans s3).trans s4) r4
/-- xs[::-1], a list -/
def iRevL (ia : IE) : IE := fun EI st Q => ia EI st fun x st1 => match x with
  | .lst ws => Q (.lst ws.reverse) st1
  | _ => False
theorem i_revL {k' : Nat} {p1 p2 p3 : Pos} (ha : PE X a (LE X.K F Wx ia)) : PE X (.Subscript a (.Slice none none (some (.UnaryOp .USub (.Constant (.int 1) k' p1) p2)) p3) pos) (LE X.K F Wx (iRevL ia)) := by
  refine pe_imp (pe_revL ha) fun σ H Q h => ?_
  obtain ⟨st, QI, EI, l, q, ux, k⟩ := h
  refine ⟨st, _, EI, l, q, ux, fun x st1 v H1 q1 l1 s1 r1 => ?_⟩
  split at q1
  · cases r1 with
    | lst f r =>
      rename_i a' vs
      refine ⟨a', vs, rfl, f.sq, fun p hp => ?_⟩
      have s := Step.laid (o := .lst vs.reverse) l1 hp
      exact k _ _ _ _ q1 (l1.laid hp) (s1.trans s) (.lst (FzL.new l1 hp) (r.reverse.mono s.mv))
  · exact q1.elim

def iCall (spec : ISp) (i : IA) : IE := fun EI st Q => i EI st fun ws st1 => spec ws st1.S (fun r S' => Q r.fz { st1 with S := S' }) fun x S' => EI x { st1 with S := S' }
def nCall (spec : ISp) (i : IA) : IN := fun EI st Q => i EI st fun ws st1 => spec ws st1.S (fun r S' => match r with
  | .new o => Q o { st1 with S := S' }
  | .val _ => False) fun x S' => EI x { st1 with S := S' }
theorem RetOk.fz {K : PySem.W.Frag} {st : Stt} {σ : L2.St} {H : Hp} {r : R} {S' : Sto} {v : V} {H' : Hp} (l : Lk K F st σ H) (h : RetOk K F st σ H r S' v H') : Lk K F ⟨[], S'⟩ [] H' ∧ RelW K (Live F ⟨[], S'⟩ []) H' r.fz v := by
  obtain ⟨s, h⟩ := h
  cases r with
  | val w => exact h
  | new o =>
    obtain ⟨a, rfl, l2, r, n⟩ := h
    have m : Mv (Live (FA F a) ⟨[], S'⟩ []) H' (Live F ⟨[], S'⟩ []) H' := mv_same fun b z => z.imp id .inl
    refine ⟨l2.less fun _ z => .inl z, (r.move (fun _ z => z) m).fz fun z => ?_⟩
    rcases z with (z | z) | z
    · exact z (l2.fdis a (.inr rfl))
    · exact ow_nil z
    · exact NewAt.nf l n z
/-- a promise is kept at a call -/
theorem call_ok {K : PySem.W.Frag} {n : Nat} {spec : ISp} {st : Stt} {σ : L2.St} {H : Hp} {ws : List W} {vs : List V} {QI : R → Sto → Prop} {EI : XI} {Q : VK} (l : Lk K F st σ H) (r : RelWs K (Live F st σ) H ws vs) (hn : ws.length = n)
    (hs : spec ws st.S QI fun x S' => EI x { st with S := S' }) (ux : UpX K F Wx st σ H EI)
    (k : ∀ r S' v H', QI r S' → RetOk K (Fo F st σ) ⟨[], st.S⟩ [] H r S' v H' → Q v H') : spI K n spec vs H Q (WE Wx σ) := by
  refine ⟨Fo F st σ, st.S, ws, _, _, l.enter, r.mono (mv_same fun a z => live_enter.mp z), hn, hs, k, fun x S' cls d H' e l2 s2 rx => ?_⟩
  obtain ⟨l3, s3⟩ := l.back s2 l2 (fun _ z => z) fun a z => .inl z
  refine ux x { st with S := S' } σ cls d H' e l3 s3 ?_
  obtain ⟨e1, z⟩ := rx
  refine ⟨e1, z.imp id ?_⟩
  rintro ⟨a, vs', e2, e3, e4, e5⟩
  have lv : ∀ b, Live F { st with S := S' } σ b → Live (Fo F st σ) ⟨[], S'⟩ [] b := fun b z => (live_enter (F := F) (st := { st with S := S' }) (σ := σ)).mpr z
  exact ⟨a, vs', e2, e3, fun z => e4 (lv a z), e5.mono (mv_same lv)⟩
theorem call_val {K : PySem.W.Frag} {n : Nat} {spec : ISp} {ia : IA} {σ : L2.St} {H : Hp} {Q : VK} (h : LE K F Wx (iCall spec ia) σ H Q) : tCallS (spI K n spec) (WE Wx) (LA K F Wx n ia) σ H Q := by
  obtain ⟨st, QI, EI, l, q, ux, k⟩ := h
  refine ⟨st, _, EI, l, q, ux, fun ws st1 vs H1 hn q1 l1 s1 r1 => ?_⟩
  refine call_ok l1 r1 hn q1 (ux.step s1) fun r S' v H2 q2 h2 => ?_
  have ⟨l2, rv⟩ := h2.fz l1.enter
  obtain ⟨l3, s3⟩ := l1.back h2.1 l2 (fun _ z => z) fun a z => .inl z
  exact k r.fz _ v H2 q2 l3 (s1.trans s3) (rv.mono (mv_same fun b z => (live_enter (F := F) (st := { st1 with S := S' }) (σ := σ)).mpr z))
theorem call_new {K : PySem.W.Frag} {n : Nat} {spec : ISp} {ia : IA} {σ : L2.St} {H : Hp} {Q : VK} (h : LN K F Wx (nCall spec ia) σ H Q) : tCallS (spI K n spec) (WE Wx) (LA K F Wx n ia) σ H Q := by
  obtain ⟨st, QI, EI, l, q, ux, k⟩ := h
  refine ⟨st, _, EI, l, q, ux, fun ws st1 vs H1 hn q1 l1 s1 r1 => ?_⟩
  refine call_ok l1 r1 hn q1 (ux.step s1) fun r S' v H2 q2 h2 => ?_
  cases r with
  | val w => exact q2.elim
  | new o =>
    obtain ⟨s2, a, rfl, l2, ro, na⟩ := h2
    have na1 : NewAt st1 σ H1 a := na.imp (fun z => z.elim .inl fun z => (ow_nil z).elim) id
    have l2' : Lk K (Fo (FA F a) st1 σ) ⟨[], S'⟩ [] H2 := l2.less fun b z => by
      rcases z with (z | z) | z
      · exact .inl (.inl z)
      · exact .inr z
      · exact .inl (.inr z)
    obtain ⟨l3, s3⟩ := l1.back (F2 := FA F a) s2 l2' (fun _ z => .inl z) fun b z => by
      rcases z with z | z
      · exact .inl z
      · rw [z]
        rcases na with (z | z) | z
        · exact .inr (.inl z)
        · exact (ow_nil z).elim
        · exact .inr (.inr z)
    refine k o _ a H2 q2 l3 (s1.trans s3) (ro.move (fun _ z => z) (mv_same fun b z => ?_)) (na1.step s1)
    have z2 := (live_enter (F := FA F a) (st := { st1 with S := S' }) (σ := σ)).mpr z
    rcases z2 with z2 | z2
    · exact .inl z2
    · rcases z2 with (z2 | z2) | z2
      · exact .inr (.inl (.inl z2))
      · exact .inr (.inr z2)
      · exact .inr (.inl (.inr z2))
variable {k' : Nat} {f : Addr} {fd : FuncData} {ps : List Str} {spec : ISp} {x : Str} {p : Pos} {n : Nat} {i : IA}
theorem run_fnG {pins : List (Addr × Obj)} {σ : L2.St} {H : Hp} {s : Shared} {Q : VK} {us : List Value} {vs : List V} {sp : Sp} (G : FnG X.prog X.w X.K X.mg X.base k' f fd ps sp) (hr : Room k' X.A) (hgd : X.A.guards = some []) (tk : Takes X Wx) (hb : Binds X.K fd ps [])
    (I : Inv X pins σ H s) (r : Vals vs us) (h : sp vs H Q (WE Wx σ)) : wpAny (model X.prog X.w) X.A (call (.ref f) us) (EP X pins σ Q) X.xe s := by
  have hl : us.length = ps.length := r.length.symm.trans (G.len h)
  have bd := hb s us I.kIn (by simpa using hl)
  rw [List.append_nil] at bd
  refine wpAny_call (codeAny_mono (G.go hr hgd I.env0 bd r h) fun res s' q => ?_)
  cases res with
  | error e => exact passAt tk σ pins H s e s' I q
  | ok fl => cases fl <;> first | exact I.after q | exact q.elim
theorem pe_callG {sp : Sp} {t : TA} (G : FnG X.prog X.w X.K X.mg X.base k' f fd ps sp) (hr : Room k' X.A) (hgd : X.A.guards = some []) (tk : Takes X Wx) (hm : X.mg x = some (.ref f)) (hk : PySem.W.keepIn X.K (.ref f) = true) (hb : Binds X.K fd ps [])
    (ha : PA X (e :: es) t) (hg : Gl X x) (hdb : (x == ("__debug__" : Str)) = false) (he : starEach (e :: es) X.env = (false, eval e X.env) :: starEach es X.env) (hpl : (backTo pos (starEach es X.env)).any (·.1) = false) :
    PE X (.Call (.Name x p) (e :: es) [] pos) (tCallS sp (WE Wx) t) := by
  refine ⟨fun pins s σ H Q I h => wpAny_Call_Name_kw (ld_glob I hg hm ?_ hdb)⟩
  exact PySem.W.callWith_K (h₀ := X.base) I.ok.mod.kin hk (thn (ha.run pos pins s σ H _ I h) fun us s1 ⟨vs, H1, I1, r, q⟩ => ⟨I1.kIn, run_fnG G hr hgd tk hb I1 r q⟩) he hpl
theorem i_call (G : FnG X.prog X.w X.K X.mg X.base k' f fd ps (spI X.K n spec)) (hr : Room k' X.A) (hgd : X.A.guards = some []) (tk : Takes X Wx) (hm : X.mg x = some (.ref f)) (hk : PySem.W.keepIn X.K (.ref f) = true) (hb : Binds X.K fd ps [])
    (ha : PA X (e :: es) (LA X.K F Wx n i)) (hg : Gl X x := by rfl) (hdb : (x == ("__debug__" : Str)) = false := by decide) (he : starEach (e :: es) X.env = (false, eval e X.env) :: starEach es X.env := by rfl) (hpl : (backTo pos (starEach es X.env)).any (·.1) = false := by rfl) :
    PE X (.Call (.Name x p) (e :: es) [] pos) (LE X.K F Wx (iCall spec i)) :=
  pe_imp (pe_callG G hr hgd tk hm hk hb ha hg hdb he hpl) fun _ _ _ h => call_val h
theorem n_call (G : FnG X.prog X.w X.K X.mg X.base k' f fd ps (spI X.K n spec)) (hr : Room k' X.A) (hgd : X.A.guards = some []) (tk : Takes X Wx) (hm : X.mg x = some (.ref f)) (hk : PySem.W.keepIn X.K (.ref f) = true) (hb : Binds X.K fd ps [])
    (ha : PA X (e :: es) (LA X.K F Wx n i)) (hg : Gl X x := by rfl) (hdb : (x == ("__debug__" : Str)) = false := by decide) (he : starEach (e :: es) X.env = (false, eval e X.env) :: starEach es X.env := by rfl) (hpl : (backTo pos (starEach es X.env)).any (·.1) = false := by rfl) :
    PE X (.Call (.Name x p) (e :: es) [] pos) (LN X.K F Wx (nCall spec i)) :=
  pe_imp (pe_callG G hr hgd tk hm hk hb ha hg hdb he hpl) fun _ _ _ h => call_new h
theorem pe_callG0 {sp : Sp} (G : FnG X.prog X.w X.K X.mg X.base k' f fd ps sp) (hr : Room k' X.A) (hgd : X.A.guards = some []) (tk : Takes X Wx) (hm : X.mg x = some (.ref f)) (hk : PySem.W.keepIn X.K (.ref f) = true) (hb : Binds X.K fd ps [])
    (hg : Gl X x) (hdb : (x == ("__debug__" : Str)) = false) : PE X (.Call (.Name x p) [] [] pos) (tCallS sp (WE Wx) tNil) := by
  refine ⟨fun pins s σ H Q I h => wpAny_Call_Name_kw (ld_glob I hg hm ?_ hdb)⟩
  exact PySem.W.callWith_K0 I.kIn hk (run_fnG (us := []) G hr hgd tk hb I .nil h)
theorem la_nil {K : PySem.W.Frag} {σ : L2.St} {H : Hp} {Q : List V → Hp → Prop} (h : LA K F Wx 0 iNil σ H Q) : tNil σ H Q := by
  obtain ⟨st, QI, EI, l, q, ux, k⟩ := h
  exact k [] st [] H rfl q l .refl .nil
theorem i_call0 (G : FnG X.prog X.w X.K X.mg X.base k' f fd ps (spI X.K 0 spec)) (hr : Room k' X.A) (hgd : X.A.guards = some []) (tk : Takes X Wx) (hm : X.mg x = some (.ref f)) (hk : PySem.W.keepIn X.K (.ref f) = true) (hb : Binds X.K fd ps [])
    (hg : Gl X x := by rfl) (hdb : (x == ("__debug__" : Str)) = false := by decide) : PE X (.Call (.Name x p) [] [] pos) (LE X.K F Wx (iCall spec iNil)) :=
  pe_imp (pe_callG0 G hr hgd tk hm hk hb hg hdb) fun _ _ _ h => la_nil (call_val (n := 0) h)
theorem n_call0 (G : FnG X.prog X.w X.K X.mg X.base k' f fd ps (spI X.K 0 spec)) (hr : Room k' X.A) (hgd : X.A.guards = some []) (tk : Takes X Wx) (hm : X.mg x = some (.ref f)) (hk : PySem.W.keepIn X.K (.ref f) = true) (hb : Binds X.K fd ps [])
    (hg : Gl X x := by rfl) (hdb : (x == ("__debug__" : Str)) = false := by decide) : PE X (.Call (.Name x p) [] [] pos) (LN X.K F Wx (nCall spec iNil)) :=
  pe_imp (pe_callG0 G hr hgd tk hm hk hb hg hdb) fun _ _ _ h => la_nil (call_new (n := 0) h)

def BtG (K : PySem.W.Frag) (r : List V → Hp → VK → Prop) (g : List W → (W → Prop) → Prop) : Prop :=
  ∀ {F : Addr → Prop} {st : Stt} {σ : L2.St} {H : Hp} {ws : List W} {vs : List V} {P : W → Prop} {Q : VK}, g ws P → Lk K F st σ H → RelWs K (Live F st σ) H ws vs →
    (∀ w z H', P w → Lk K F st σ H' → Step st σ H st σ H' → RelW K (Live F st σ) H' w z → Q z H') → r vs H Q
def iFn (g : List W → (W → Prop) → Prop) (i : IA) : IE := fun EI st Q => i EI st fun ws st1 => g ws fun w => Q w st1
theorem fn_val {K : PySem.W.Frag} {r : List V → Hp → VK → Prop} {g : List W → (W → Prop) → Prop} (hg : BtG K r g) {σ : L2.St} {H : Hp} {Q : VK} (h : LE K F Wx (iFn g i) σ H Q) : tCB r (LA K F Wx n i) σ H Q := by
  obtain ⟨st, QI, EI, l, q, ux, k⟩ := h
  refine ⟨st, _, EI, l, q, ux, fun ws st1 vs H1 hn q1 l1 s1 r1 => ?_⟩
  exact hg q1 l1 r1 fun w z H2 p l2 s2 r2 => k w st1 z H2 p l2 (s1.trans s2) r2
theorem i_fn {id : String} {r : List V → Hp → VK → Prop} {g : List W → (W → Prop) → Prop} (hc : CallR X (.builtin id) r) (hgf : BtG X.K r g) (hm : X.mg x = none) (hv : bootBuiltins x = some (.builtin id)) (ha : PA X (e :: es) (LA X.K F Wx n i)) (hg : Gl X x := by rfl) (hn : x ≠ "__name__" := by decide)
    (hdb : (x == ("__debug__" : Str)) = false := by decide) (he : starEach (e :: es) X.env = (false, eval e X.env) :: starEach es X.env := by rfl) (hpl : (backTo pos (starEach es X.env)).any (·.1) = false := by rfl) : PE X (.Call (.Name x p) (e :: es) [] pos) (LE X.K F Wx (iFn g i)) :=
  pe_imp (pe_callB hc hg hm hv ha hn hdb he hpl) fun _ _ _ h => fn_val hgf h
theorem i_ty {T : String} {r : List V → Hp → VK → Prop} {g : List W → (W → Prop) → Prop} (hc : CallR X (.type T) r) (hgf : BtG X.K r g) (hm : X.mg x = none) (hv : bootBuiltins x = some (.type T)) (ha : PA X (e :: es) (LA X.K F Wx n i)) (hg : Gl X x := by rfl) (hn : x ≠ "__name__" := by decide)
    (hdb : (x == ("__debug__" : Str)) = false := by decide) (he : starEach (e :: es) X.env = (false, eval e X.env) :: starEach es X.env := by rfl) (hpl : (backTo pos (starEach es X.env)).any (·.1) = false := by rfl) : PE X (.Call (.Name x p) (e :: es) [] pos) (LE X.K F Wx (iFn g i)) :=
  pe_imp (pe_callTy hc hg hm hv ha hn hdb he hpl) fun _ _ _ h => fn_val hgf h
end
end Sh
namespace Sh
open PySem L2
open PyProof.Rows hiding St
theorem ps_imp {X : Cx} {s : Stmt} {t t' : TS} (h : PS X s t) (m : ∀ D σ H, t' D σ H → t D σ H) : PS X s t' := ⟨fun pins s σ H D I q => h.run pins s σ H D I (m _ _ _ q)⟩
theorem pss_imp {X : Cx} {s : List Stmt} {t t' : TS} (h : PSs X s t) (m : ∀ D σ H, t' D σ H → t D σ H) : PSs X s t' := ⟨fun pins s σ H D I q => h.run pins s σ H D I (m _ _ _ q)⟩
theorem pg_imp {X : Cx} {e : Expr} {t t' : TG} (h : PG X e t) (m : ∀ v σ H Q, t' v σ H Q → t v σ H Q) : PG X e t' := ⟨fun pins s σ H v u Q I r q => h.run pins s σ H v u Q I r (m _ _ _ _ q)⟩
theorem pgs_imp {X : Cx} {e : List Expr} {t t' : TGs} (h : PGs X e t) (m : ∀ v σ H Q, t' v σ H Q → t v σ H Q) : PGs X e t' := ⟨fun pins s σ H v u Q I r q => h.run pins s σ H v u Q I r (m _ _ _ _ q)⟩
/-- a state without its slots -/
theorem Lk.drop {K : PySem.W.Frag} {F : Addr → Prop} {st : Stt} {σ : L2.St} {H : Hp} (l : Lk K F st σ H) : Lk K F ⟨[], st.S⟩ [] H ∧ Step st σ H ⟨[], st.S⟩ [] H ∧ ∀ a, Live F ⟨[], st.S⟩ [] a → Live F st σ a := by
  have nx : ∀ a, Live F ⟨[], st.S⟩ [] a → Live F st σ a := fun a z => z.imp (fun z => z.elim .inl fun z => (ow_nil z).elim) id
  exact ⟨⟨rfl, fun i w e => by simp at e, fun i o e => by simp at e, fun i j o o' a e => by simp at e, fun a o e => (l.sto a o e).move (fun _ q => q) (mv_same nx), l.ftr, l.fdis⟩,
    ⟨fun _ _ e _ => e, fun a z => .inl (z.elim .inl fun z => (ow_nil z).elim)⟩, nx⟩
section
variable {X : Cx} {F : Addr → Prop} {Wx : WX} {a b c e : Expr} {es : List Expr} {pos : Pos} {ia ib ic : IE} {s : Stmt} {ss : List Stmt} {ip iq : IS} {nn : IN}
def sNext : IS := fun _ D st => D.nx st
def sSeq (p q : IS) : IS := fun EI D st => p EI { D with nx := q EI D } st
theorem s_nil : PSs X [] (LS X.K F Wx sNext) := pss_imp pss_nil fun D σ H h => by
  obtain ⟨st, DI, EI, l, q, u⟩ := h
  exact u.nx st σ H q l .refl
theorem s_cons (h1 : PS X s (LS X.K F Wx ip)) (h2 : PSs X ss (LS X.K F Wx iq)) : PSs X (s :: ss) (LS X.K F Wx (sSeq ip iq)) := pss_imp (pss_cons h1 h2) fun D σ H h => by
  obtain ⟨st, DI, EI, l, q, u⟩ := h
  exact ⟨st, _, EI, l, q, ⟨u.x, fun st' σ' H' q' l' s' => ⟨st', DI, EI, l', q', u.step s'⟩, u.bk, u.ct, u.rt⟩⟩
theorem s_one (h1 : PS X s (LS X.K F Wx ip)) : PSs X [s] (LS X.K F Wx ip) := pss_one h1
theorem s_pass : PS X (.Pass pos) (LS X.K F Wx sNext) := ps_imp ps_pass fun D σ H h => by
  obtain ⟨st, DI, EI, l, q, u⟩ := h
  exact u.nx st σ H q l .refl
def sNever : IS := fun _ _ _ => False
theorem s_never : PS X s (LS X.K F Wx sNever) := ps_imp ps_never fun D σ H h => by
  obtain ⟨st, DI, EI, l, q, u⟩ := h
  exact q
def sCont : IS := fun _ D st => D.ct st
theorem s_continue : PS X (.Continue pos) (LS X.K F Wx sCont) := ps_imp ps_continue fun D σ H h => by
  obtain ⟨st, DI, EI, l, q, u⟩ := h
  exact u.ct st σ H q l .refl
def sBreak : IS := fun _ D st => D.bk st
theorem s_break : PS X (.Break pos) (LS X.K F Wx sBreak) := ps_imp ps_break fun D σ H h => by
  obtain ⟨st, DI, EI, l, q, u⟩ := h
  exact u.bk st σ H q l .refl
def sDrop (ia : IE) : IS := fun EI D st => ia EI st fun _ st1 => D.nx st1
theorem s_expr (ha : PE X a (LE X.K F Wx ia)) (hs : swapsWith a none pos.line X.env = pure false := by rfl) : PS X (.Expr a pos) (LS X.K F Wx (sDrop ia)) := ps_imp (ps_expr ha hs) fun D σ H h => by
  obtain ⟨st, DI, EI, l, q, u⟩ := h
  exact ⟨st, _, EI, l, q, u.x, fun w st1 v H1 q1 l1 s1 r1 => u.nx st1 σ H1 q1 l1 s1⟩
def sRet (ia : IE) : IS := fun EI D st => ia EI st fun w st1 => D.rt (.val w) st1.S
theorem s_ret (ha : PE X a (LE X.K F Wx ia)) : PS X (.Return (some a) pos) (LS X.K F Wx (sRet ia)) := ps_imp (ps_ret ha) fun D σ H h => by
  obtain ⟨st, DI, EI, l, q, u⟩ := h
  refine ⟨st, _, EI, l, q, u.x, fun w st1 v H1 q1 l1 s1 r1 => ?_⟩
  obtain ⟨l2, s2, nx⟩ := l1.drop
  exact u.rt _ _ v H1 q1 ⟨s1.trans s2, l2, r1.mono (mv_same nx)⟩
def sRetN (nn : IN) : IS := fun EI D st => nn EI st fun o st1 => D.rt (.new o) st1.S
theorem s_retN (ha : PE X a (LN X.K F Wx nn)) : PS X (.Return (some a) pos) (LS X.K F Wx (sRetN nn)) := ps_imp (ps_ret ha) fun D σ H h => by
  obtain ⟨st, DI, EI, l, q, u⟩ := h
  refine ⟨st, _, EI, l, q, u.x, fun o st1 a H1 q1 l1 s1 r1 n1 => ?_⟩
  obtain ⟨l2, s2, nx⟩ := l1.drop
  exact u.rt _ _ _ H1 q1 ⟨s1.trans s2, a, rfl, l2, r1.move (fun _ z => z) (mv_same nx), n1⟩
/-- return of an owned object -/
def sRetO (i : Nat) : IS := fun _ D st => match st.ρ[i]? with
  | some (.own o) => D.rt (.new o) st.S
  | _ => False
theorem s_retO {i : Nat} {x : Str} {px : Pos} (hN : X.N[i]? = some x := by rfl) (hv : Vis X.env.scope x := by first | exact Or.inl rfl | exact Or.inr (Or.inl rfl) | exact Or.inr (Or.inr rfl)) (hd : (x == ("__debug__" : Str)) = false := by decide)
    (hcd : (x == ("__classdict__" : Str)) = false := by decide) : PS X (.Return (some (.Name x px)) pos) (LS X.K F Wx (sRetO i)) := ps_imp (ps_ret (pe_var hN hv hd hcd)) fun D σ H h => by
  obtain ⟨st, DI, EI, l, q, u⟩ := h
  unfold sRetO at q
  split at q
  · rename_i o e
    obtain ⟨a, ea, r, na, nf⟩ := l.own i o e
    refine ⟨.ref a, ea, u.rt _ _ _ H q ?_⟩
    have lv : ∀ b, Live (FA F a) ⟨[], st.S⟩ [] b → Live F st σ b := fun b z => by
      rcases z with (z | z) | z | z
      · exact .inl (.inl z)
      · exact (ow_nil z).elim
      · exact .inr z
      · exact .inl (.inr ⟨i, o, e, z ▸ ea⟩)
    refine ⟨⟨fun _ _ e _ => e, fun b z => .inl (z.elim .inl fun z => (ow_nil z).elim)⟩, a, rfl, ⟨rfl, fun i w e => by simp at e, fun i o e => by simp at e, fun i j o o' a e => by simp at e, fun b o e => (l.sto b o e).move (fun _ q => q) (mv_same lv), fun b z => ?_, fun b z => ?_⟩, r.move (fun _ z => z) (mv_same lv), .inl (.inr ⟨i, o, e, ea⟩)⟩
    · rcases z with z | z
      · exact l.ftr b z
      · rw [z]; exact r.at
    · rcases z with z | z
      · exact l.fdis b z
      · rw [z]; exact na
  · exact q.elim
def sRet0 : IS := fun _ D st => D.rt (.val .non) st.S
theorem s_ret0 : PS X (.Return none pos) (LS X.K F Wx sRet0) := ps_imp ps_retN fun D σ H h => by
  obtain ⟨st, DI, EI, l, q, u⟩ := h
  obtain ⟨l2, s2, nx⟩ := l.drop
  exact u.rt _ _ .non H q ⟨s2, l2, .non⟩
def sIf (t : IT) (p q : IS) : IS := fun EI D st => t EI st fun b st1 => if b = true then p EI D st1 else q EI D st1
theorem s_if {ta : IT} {sa sb : List Stmt} (hc : PT X c (LT X.K F Wx ta)) (ha : PSs X sa (LS X.K F Wx ip)) (hb : PSs X sb (LS X.K F Wx iq)) : PS X (.If c sa sb pos) (LS X.K F Wx (sIf ta ip iq)) := ps_imp (ps_if hc ha hb) fun D σ H h => by
  obtain ⟨st, DI, EI, l, q, u⟩ := h
  refine ⟨st, _, EI, l, q, u.x, fun b st1 H1 q1 l1 s1 => ?_⟩
  cases b with
  | true =>
    rw [if_pos rfl] at q1 ⊢
    exact ⟨st1, DI, EI, l1, q1, u.step s1⟩
  | false =>
    rw [if_neg Bool.false_ne_true] at q1 ⊢
    exact ⟨st1, DI, EI, l1, q1, u.step s1⟩
def sSet (i : Nat) (ia : IE) : IS := fun EI D st => ia EI st fun w st1 => D.nx (st1.put i (.val w))
def sSetN (i : Nat) (nn : IN) : IS := fun EI D st => nn EI st fun o st1 => D.nx (st1.put i (.own o))
theorem set_of {K : PySem.W.Frag} {i : Nat} {D : Ends} {σ : L2.St} {H : Hp} (h : LS K F Wx (sSet i ia) D σ H) : tAsg (LE K F Wx ia) (gName i) D σ H := by
  obtain ⟨st, DI, EI, l, q, u⟩ := h
  exact ⟨st, _, EI, l, q, u.x, fun w st1 v H1 q1 l1 s1 r1 => u.nx _ _ H1 q1 (l1.put r1) (s1.trans Step.put)⟩
theorem Step.keepNew {st : Stt} {σ : L2.St} {H : Hp} {i : Nat} {o : SO} {a : Addr} {st1 : Stt} {σ1 : L2.St} {H1 : Hp} (hl : st1.ρ.length = σ1.length) (s : Step st σ H st1 σ1 H1) (n : NewAt st σ H a) : Step st σ H (st1.put i (.own o)) (σ1.set i (some (.ref a))) H1 :=
  ⟨s.keep, fun b z => by
    rcases z with z | ⟨j, o', e1, e2⟩
    · exact s.new b (.inl z)
    · rcases get_set e1 with ⟨rfl, _, hj⟩ | ⟨nj, e1⟩
      · rw [set_get (by rw [← hl]; exact hj)] at e2
        cases e2
        exact n
      · rw [List.getElem?_set_ne (Ne.symm nj)] at e2
        exact s.new b (.inr ⟨j, o', e1, e2⟩)⟩
theorem setN_of {K : PySem.W.Frag} {i : Nat} {D : Ends} {σ : L2.St} {H : Hp} (h : LS K F Wx (sSetN i nn) D σ H) : tAsg (LN K F Wx nn) (gName i) D σ H := by
  obtain ⟨st, DI, EI, l, q, u⟩ := h
  exact ⟨st, _, EI, l, q, u.x, fun o st1 a H1 q1 l1 s1 r1 n1 => u.nx _ _ H1 q1 (l1.keepNew r1 (NewAt.nf l n1)) (Step.keepNew l1.len s1 n1)⟩
theorem s_set (i : Nat) {x : Str} {pos' : Pos} (hN : X.N.Nodup) (ha : PE X a (LE X.K F Wx ia)) (hi : X.N[i]? = some x := by rfl) (hx : Loc X.env.scope x := by first | exact Or.inl rfl | exact Or.inr rfl) (hs : swapsWith a (some (.Name x pos')) pos.line X.env = pure false := by rfl)
    (hf : X.fn x = true ∨ X.env.scope.names.lookup x = some .local := by first | exact .inl rfl | exact .inr rfl | assumption) : PS X (.Assign [.Name x pos'] a pos) (LS X.K F Wx (sSet i ia)) := ps_imp (ps_set hN hi hx ha hs hf) fun _ _ _ h => set_of h
theorem s_setN (i : Nat) {x : Str} {pos' : Pos} (hN : X.N.Nodup) (ha : PE X a (LN X.K F Wx nn)) (hi : X.N[i]? = some x := by rfl) (hx : Loc X.env.scope x := by first | exact Or.inl rfl | exact Or.inr rfl) (hs : swapsWith a (some (.Name x pos')) pos.line X.env = pure false := by rfl)
    (hf : X.fn x = true ∨ X.env.scope.names.lookup x = some .local := by first | exact .inl rfl | exact .inr rfl | assumption) : PS X (.Assign [.Name x pos'] a pos) (LS X.K F Wx (sSetN i nn)) := ps_imp (ps_set hN hi hx ha hs hf) fun _ _ _ h => setN_of h
/-- a, b = e1, e2 -/
def sPar (i j : Nat) (ia ib : IE) : IS := fun EI D st => ia EI st fun w st1 => ib EI st1 fun y st2 => D.nx ((st2.put i (.val w)).put j (.val y))
theorem s_par (i j : Nat) {x y : Str} {px py pt : Pos} {kt k2 pt2} (hN : X.N.Nodup) (ha : PE X a (LE X.K F Wx ia)) (hb : PE X b (LE X.K F Wx ib)) (hi : X.N[i]? = some x := by rfl) (hj : X.N[j]? = some y := by rfl) (hij : i ≠ j := by decide)
    (hx : X.env.scope.names.lookup x = some .local := by rfl) (hy : X.env.scope.names.lookup y = some .local := by rfl) (hc : X.calm = true := by rfl)
    (hw : swappedStores [.Tuple [.Name x px, .Name y py] kt pt] (.Tuple [a, b] k2 pt2) X.env = pure (some [x, y]) := by rfl)
    (hs : swapsWithSole [.Tuple [.Name x px, .Name y py] kt pt] (.Tuple [a, b] k2 pt2) pos.line X.env = pure false := by rfl)
    (h1 : starEach [a, b] X.env = (false, eval a X.env) :: starEach [b] X.env := by rfl) (h2 : starEach [b] X.env = (false, eval b X.env) :: starEach [] X.env := by rfl) :
    PS X (.Assign [.Tuple [.Name x px, .Name y py] kt pt] (.Tuple [a, b] k2 pt2) pos) (LS X.K F Wx (sPar i j ia ib)) := ps_imp (ps_par hc hN hi hj hij hx hy (pa_cons ha (pa_cons hb pa_nil h2) h1) hw hs) fun D σ H h => by
  obtain ⟨st, DI, EI, l, q, u⟩ := h
  refine ⟨st, _, EI, l, q, u.x, fun w st1 v H1 q1 l1 s1 r1 => ⟨st1, _, EI, l1, q1, u.x.step s1, fun w2 st2 v2 H2 q2 l2 s2 r2 => ⟨v, v2, rfl, ?_⟩⟩⟩
  have l3 := l2.put (i := i) (r1.mono s2.mv)
  have s3 : Step st2 σ H2 (st2.put i (.val w)) (σ.set i (some v)) H2 := Step.put
  exact u.nx _ _ H2 q2 (l3.put (r2.mono s3.mv)) (((s1.trans s2).trans s3).trans Step.put)
/-- the second one is new -/
def sParEN (i j : Nat) (ia : IE) (nn : IN) : IS := fun EI D st => ia EI st fun w st1 => nn EI st1 fun o st2 => D.nx ((st2.put i (.val w)).put j (.own o))
theorem Lk.putF {K : PySem.W.Frag} {st : Stt} {σ : L2.St} {H : Hp} {p : Addr} {o : SO} {i : Nat} {w : W} {v : V} (l : Lk K (FA F p) st σ H) (ro : RelO K (Live (FA F p) st σ) H p o) (r : RelW K (Live (FA F p) st σ) H w v) :
    Lk K (FA F p) (st.put i (.val w)) (σ.set i (some v)) H ∧ RelO K (Live (FA F p) (st.put i (.val w)) (σ.set i (some v))) H p o := by
  have s : Step st σ H (st.put i (.val w)) (σ.set i (some v)) H := Step.put
  exact ⟨l.put r, ro.move (fun _ z => z) s.mv⟩
/-- a value that stands is not the new object -/
theorem RelW.foreign {K : PySem.W.Frag} {st st1 : Stt} {σ : L2.St} {H H1 : Hp} {p : Addr} {w : W} {v : V} (l : Lk K F st σ H) (r : RelW K (Live F st σ) H w v) (s : Step st σ H st1 σ H1) (n : NewAt st σ H p) : RelW K (Live (FA F p) st1 σ) H1 w v :=
  r.mono fun b u e nl => ⟨s.keep b u e fun z => nl (.inl z), fun z => by
    rcases z with z | z | z
    · rcases s.new b z with z | z
      · exact nl (.inl z)
      · rw [e] at z; cases z
    · exact nl (.inr z)
    · subst z
      rcases n with n | n
      · exact nl (.inl n)
      · rw [e] at n; cases n⟩
theorem s_parEN (i j : Nat) {x y : Str} {px py pt : Pos} {kt k2 pt2} (hN : X.N.Nodup) (ha : PE X a (LE X.K F Wx ia)) (hb : PE X b (LN X.K F Wx nn)) (hi : X.N[i]? = some x := by rfl) (hj : X.N[j]? = some y := by rfl) (hij : i ≠ j := by decide)
    (hx : X.env.scope.names.lookup x = some .local := by rfl) (hy : X.env.scope.names.lookup y = some .local := by rfl) (hc : X.calm = true := by rfl)
    (hw : swappedStores [.Tuple [.Name x px, .Name y py] kt pt] (.Tuple [a, b] k2 pt2) X.env = pure (some [x, y]) := by rfl)
    (hs : swapsWithSole [.Tuple [.Name x px, .Name y py] kt pt] (.Tuple [a, b] k2 pt2) pos.line X.env = pure false := by rfl)
    (h1 : starEach [a, b] X.env = (false, eval a X.env) :: starEach [b] X.env := by rfl) (h2 : starEach [b] X.env = (false, eval b X.env) :: starEach [] X.env := by rfl) :
    PS X (.Assign [.Tuple [.Name x px, .Name y py] kt pt] (.Tuple [a, b] k2 pt2) pos) (LS X.K F Wx (sParEN i j ia nn)) := ps_imp (ps_par hc hN hi hj hij hx hy (pa_cons ha (pa_cons hb pa_nil h2) h1) hw hs) fun D σ H h => by
  obtain ⟨st, DI, EI, l, q, u⟩ := h
  refine ⟨st, _, EI, l, q, u.x, fun w st1 v H1 q1 l1 s1 r1 => ⟨st1, _, EI, l1, q1, u.x.step s1, fun o st2 p H2 q2 l2 s2 r2 n2 => ⟨v, .ref p, rfl, ?_⟩⟩⟩
  have rw' := r1.foreign l1 s2 n2
  obtain ⟨l3, ro⟩ := l2.putF (i := i) r2 rw'
  exact u.nx _ _ H2 q2 (l3.keepNew ro (NewAt.nf l1 n2)) (Step.keepNew l3.len ((s1.trans s2).trans Step.put) (n2.step s1))
theorem pe_ex {i : IE} (h : ∀ F, PE X e (LE X.K F Wx i)) : PE X e (fun σ H Q => ∃ F, LE X.K F Wx i σ H Q) := ⟨fun pins s σ H Q I ⟨F, q⟩ => (h F).run pins s σ H Q I q⟩
theorem UpX.more {K : PySem.W.Frag} {st : Stt} {σ : L2.St} {H : Hp} {EI : XI} {F' : Addr → Prop} (u : UpX K F Wx st σ H EI) (h : ∀ a, F a → F' a) : UpX K F' Wx st σ H EI := fun x st' σ' cls d H' e l s r => by
  refine u x st' σ' cls d H' e (l.less h) s ?_
  obtain ⟨e1, z⟩ := r
  refine ⟨e1, z.imp id ?_⟩
  rintro ⟨a, vs', e2, e3, e4, e5⟩
  have lv : ∀ b, Live F st' σ' b → Live F' st' σ' b := fun b z => z.imp id (h b)
  exact ⟨a, vs', e2, e3, fun z => e4 (lv a z), e5.mono (mv_same lv)⟩
/-- the first one is new -/
def sParNE (i j : Nat) (nn : IN) (ib : IE) : IS := fun EI D st => nn EI st fun o st1 => ib EI st1 fun w st2 => D.nx ((st2.put i (.own o)).put j (.val w))
theorem s_parNE (i j : Nat) {x y : Str} {px py pt : Pos} {kt k2 pt2} (hN : X.N.Nodup) (ha : PE X a (LN X.K F Wx nn)) (hb : ∀ F, PE X b (LE X.K F Wx ib)) (hi : X.N[i]? = some x := by rfl) (hj : X.N[j]? = some y := by rfl) (hij : i ≠ j := by decide)
    (hx : X.env.scope.names.lookup x = some .local := by rfl) (hy : X.env.scope.names.lookup y = some .local := by rfl) (hc : X.calm = true := by rfl)
    (hw : swappedStores [.Tuple [.Name x px, .Name y py] kt pt] (.Tuple [a, b] k2 pt2) X.env = pure (some [x, y]) := by rfl)
    (hs : swapsWithSole [.Tuple [.Name x px, .Name y py] kt pt] (.Tuple [a, b] k2 pt2) pos.line X.env = pure false := by rfl)
    (h1 : starEach [a, b] X.env = (false, eval a X.env) :: starEach [b] X.env := by rfl) (h2 : starEach [b] X.env = (false, eval b X.env) :: starEach [] X.env := by rfl) :
    PS X (.Assign [.Tuple [.Name x px, .Name y py] kt pt] (.Tuple [a, b] k2 pt2) pos) (LS X.K F Wx (sParNE i j nn ib)) := ps_imp (ps_par hc hN hi hj hij hx hy (pa_cons ha (pa_cons (pe_ex hb) pa_nil h2) h1) hw hs) fun D σ H h => by
  obtain ⟨st, DI, EI, l, q, u⟩ := h
  refine ⟨st, _, EI, l, q, u.x, fun o st1 p H1 q1 l1 s1 r1 n1 => ⟨FA F p, st1, _, EI, l1, q1, (u.x.step s1).more fun _ z => .inl z, fun w st2 v H2 q2 l2 s2 r2 => ⟨.ref p, v, rfl, ?_⟩⟩⟩
  have nw : ¬ Wr st1 σ p := fun z => by
    rcases z with z | ⟨k, o', e1, e2⟩
    · exact z (l1.fdis p (.inr rfl))
    · obtain ⟨b, e3, _, _, n3⟩ := l1.own k o' e1
      rw [e2] at e3
      cases e3
      exact n3 (.inr rfl)
  have ro : RelO X.K (Live (FA F p) st2 σ) H2 p o := r1.move (fun u e => s2.keep p u e nw) s2.mv
  -- store the value first, then the new one: the two orders are one
  obtain ⟨l3, ro3⟩ := l2.putF (i := j) ro r2
  have l4 : Lk X.K F ((st2.put j (.val w)).put i (.own o)) ((σ.set j (some v)).set i (some (.ref p))) H2 := l3.keepNew ro3 (NewAt.nf l n1)
  have s4 : Step st σ H ((st2.put j (.val w)).put i (.own o)) ((σ.set j (some v)).set i (some (.ref p))) H2 := Step.keepNew l3.len ((s1.trans s2).trans Step.put) n1
  have e1 : (st2.put j (.val w)).put i (.own o) = (st2.put i (.own o)).put j (.val w) := by
    unfold Stt.put
    simp only
    rw [List.set_comm _ _ (Ne.symm hij)]
  have e2 : (σ.set j (some v)).set i (some (V.ref p)) = (σ.set i (some (.ref p))).set j (some v) := List.set_comm _ _ (Ne.symm hij)
  rw [e1, e2] at l4 s4
  exact u.nx _ _ H2 q2 l4 s4
/-- three at once -/
def sPar3 (i j k : Nat) (ia ib ic : IE) : IS := fun EI D st => ia EI st fun w st1 => ib EI st1 fun y st2 => ic EI st2 fun z st3 => D.nx (((st3.put i (.val w)).put j (.val y)).put k (.val z))
theorem s_par3 (i j k : Nat) {x y z : Str} {px py pz pt : Pos} {kt k2 pt2} (hN : X.N.Nodup) (ha : PE X a (LE X.K F Wx ia)) (hb : PE X b (LE X.K F Wx ib)) (hcc : PE X c (LE X.K F Wx ic)) (hi : X.N[i]? = some x := by rfl) (hj : X.N[j]? = some y := by rfl) (hk : X.N[k]? = some z := by rfl)
    (hij : i ≠ j := by decide) (hik : i ≠ k := by decide) (hjk : j ≠ k := by decide)
    (hx : X.env.scope.names.lookup x = some .local := by rfl) (hy : X.env.scope.names.lookup y = some .local := by rfl) (hz : X.env.scope.names.lookup z = some .local := by rfl) (hc : X.calm = true := by rfl)
    (hw : swappedStores [.Tuple [.Name x px, .Name y py, .Name z pz] kt pt] (.Tuple [a, b, c] k2 pt2) X.env = pure (some [x, y, z]) := by rfl)
    (hs : swapsWithSole [.Tuple [.Name x px, .Name y py, .Name z pz] kt pt] (.Tuple [a, b, c] k2 pt2) pos.line X.env = pure false := by rfl)
    (h1 : starEach [a, b, c] X.env = (false, eval a X.env) :: starEach [b, c] X.env := by rfl) (h2 : starEach [b, c] X.env = (false, eval b X.env) :: starEach [c] X.env := by rfl) (h3 : starEach [c] X.env = (false, eval c X.env) :: starEach [] X.env := by rfl) :
    PS X (.Assign [.Tuple [.Name x px, .Name y py, .Name z pz] kt pt] (.Tuple [a, b, c] k2 pt2) pos) (LS X.K F Wx (sPar3 i j k ia ib ic)) := ps_imp (ps_par3 hc hN hi hj hk hij hik hjk hx hy hz (pa_cons ha (pa_cons hb (pa_cons hcc pa_nil h3) h2) h1) hw hs) fun D σ H h => by
  obtain ⟨st, DI, EI, l, q, u⟩ := h
  refine ⟨st, _, EI, l, q, u.x, fun w st1 v H1 q1 l1 s1 r1 => ⟨st1, _, EI, l1, q1, u.x.step s1, fun w2 st2 v2 H2 q2 l2 s2 r2 => ⟨st2, _, EI, l2, q2, u.x.step (s1.trans s2), fun w3 st3 v3 H3 q3 l3 s3 r3 => ⟨v, v2, v3, rfl, ?_⟩⟩⟩⟩
  have l4 := l3.put (i := i) ((r1.mono s2.mv).mono s3.mv)
  have s4 : Step st3 σ H3 (st3.put i (.val w)) (σ.set i (some v)) H3 := Step.put
  have l5 := l4.put (i := j) ((r2.mono s3.mv).mono s4.mv)
  have s5 : Step (st3.put i (.val w)) (σ.set i (some v)) H3 ((st3.put i (.val w)).put j (.val w2)) ((σ.set i (some v)).set j (some v2)) H3 := Step.put
  exact u.nx _ _ H3 q3 (l5.put ((r3.mono s4.mv).mono s5.mv)) ((((((s1.trans s2).trans s3).trans s4).trans s5)).trans Step.put)
abbrev IG := W → Stt → (Stt → Prop) → Prop
abbrev IGs := List W → Stt → (Stt → Prop) → Prop
theorem wipe_set {i : Nat} {x : Option V} : ∀ {vs : List Nat} (σ : L2.St), i ∈ vs → L2.wipe (σ.set i x) vs = L2.wipe σ vs
  | v :: vs, σ, h => by
    by_cases e : i ∈ vs
    · show (L2.wipe (σ.set i x) vs).set v none = (L2.wipe σ vs).set v none
      rw [wipe_set σ e]
    · have ev : i = v := by
        rcases List.mem_cons.mp h with h | h
        · exact h
        · exact absurd h e
      subst ev
      have key : ∀ (ws : List Nat) (τ : L2.St), (L2.wipe (τ.set i x) ws).set i none = (L2.wipe τ ws).set i none := by
        intro ws
        induction ws with
        | nil => intro τ; show (τ.set i x).set i none = τ.set i none; rw [List.set_set]
        | cons w ws ih =>
          intro τ
          show ((L2.wipe (τ.set i x) ws).set w none).set i none = ((L2.wipe τ ws).set w none).set i none
          by_cases q : w = i
          · subst q
            rw [List.set_set, List.set_set, ih]
          · rw [List.set_comm _ _ q, ih, List.set_comm _ _ (Ne.symm q)]
      exact key vs σ
def LG (K : PySem.W.Frag) (F : Addr → Prop) (vs : List Nat) (g : IG) : TG := fun v σ H Q => ∃ w st QI, Lk K F st σ H ∧ RelW K (Live F st σ) H w v ∧ g w st QI ∧ ∀ st' σ' H', QI st' → Lk K F st' σ' H' → Step st σ H st' σ' H' → L2.wipe σ' vs = L2.wipe σ vs → (∀ b u, H b = some u → H' b = some u) → Q σ' H'
def LGs (K : PySem.W.Frag) (F : Addr → Prop) (vs : List Nat) (g : IGs) : TGs := fun us σ H Q => ∃ ws st QI, Lk K F st σ H ∧ RelWs K (Live F st σ) H ws us ∧ g ws st QI ∧ ∀ st' σ' H', QI st' → Lk K F st' σ' H' → Step st σ H st' σ' H' → L2.wipe σ' vs = L2.wipe σ vs → (∀ b u, H b = some u → H' b = some u) → Q σ' H'
variable {vs : List Nat}
def gNm (i : Nat) : IG := fun w st Q => Q (st.put i (.val w))
def gsNil : IGs := fun ws st Q => match ws with
  | [] => Q st
  | _ => False
def gsCons (g : IG) (gs : IGs) : IGs := fun ws st Q => match ws with
  | w :: r => g w st fun st1 => gs r st1 Q
  | [] => False
def gTp (n : Nat) (gs : IGs) : IG := fun w st Q => match w with
  | .tup ws => ws.length = n ∧ gs ws st Q
  | _ => False
theorem g_name (i : Nat) {x : Str} (hN : X.N.Nodup) (hm : i ∈ vs := by decide) (hi : X.N[i]? = some x := by rfl) (hx : Loc X.env.scope x := by first | exact Or.inl rfl | exact Or.inr rfl) (hf : X.fn x = true ∨ X.env.scope.names.lookup x = some .local := by first | exact .inl rfl | exact .inr rfl | assumption) :
    PG X (.Name x pos) (LG X.K F vs (gNm i)) := pg_imp (pg_name hN hi hx hf) fun v σ H Q h => by
  obtain ⟨w, st, QI, l, r, q, k⟩ := h
  exact k _ _ H q (l.put r) Step.put (wipe_set σ hm) fun _ _ e => e
theorem gs_nil : PGs X [] (LGs X.K F vs gsNil) := pgs_imp pgs_nil fun v σ H Q h => by
  obtain ⟨ws, st, QI, l, r, q, k⟩ := h
  unfold gsNil at q
  split at q
  · cases r
    exact ⟨rfl, k st σ H q l .refl rfl fun _ _ e => e⟩
  · exact q.elim
theorem gs_cons {g : IG} {gs : IGs} (h1 : PG X e (LG X.K F vs g)) (h2 : PGs X es (LGs X.K F vs gs)) (hs : (assignEach (e :: es) X.env).map (·.2) = assign e X.env :: (assignEach es X.env).map (·.2) := by rfl) : PGs X (e :: es) (LGs X.K F vs (gsCons g gs)) := pgs_imp (pgs_cons h1 h2 hs) fun v σ H Q h => by
  obtain ⟨ws, st, QI, l, r, q, k⟩ := h
  unfold gsCons at q
  split at q
  · cases r with
    | cons ra rs => exact ⟨_, _, rfl, _, st, _, l, ra, q, fun st1 σ1 H1 q1 l1 s1 e1 k1 => ⟨_, st1, _, l1, rs.mono s1.mv, q1, fun st2 σ2 H2 q2 l2 s2 e2 k2 => k st2 σ2 H2 q2 l2 (s1.trans s2) (e2.trans e1) fun b u z => k2 b u (k1 b u z)⟩⟩
  · exact q.elim
theorem g_tup {gs : IGs} {k' n : Nat} (h : PGs X es (LGs X.K F vs gs)) (hc : X.calm = true := by rfl) (hn : (assignEach es X.env).length = n := by rfl) (hst : (assignEach es X.env).findIdx? (·.1) = none := by rfl) : PG X (.Tuple es k' pos) (LG X.K F vs (gTp n gs)) := pg_imp (pg_tup hc h hn hst) fun v σ H Q h => by
  obtain ⟨w, st, QI, l, r, q, k⟩ := h
  unfold gTp at q
  split at q
  · cases r with
    | tup f rs => exact ⟨_, _, rfl, f.sq, by rw [← rs.length]; exact q.1, _, st, _, l, rs, q.2, k⟩
  · exact q.elim
def sAsg (ia : IE) (g : IG) : IS := fun EI D st => ia EI st fun w st1 => g w st1 D.nx
theorem s_asg {tg : Expr} {g : IG} (ha : PE X a (LE X.K F Wx ia)) (hg : PG X tg (LG X.K F vs g)) (hs : swapsWithSole [tg] a pos.line X.env = pure false := by rfl) (hw : swappedStores [tg] a X.env = pure none := by rfl)
    (h1 : (assignEach [tg] X.env).map (·.2) = [assign tg X.env] := by rfl) : PS X (.Assign [tg] a pos) (LS X.K F Wx (sAsg ia g)) := ps_imp (ps_asg ha hg hs hw h1) fun D σ H h => by
  obtain ⟨st, DI, EI, l, q, u⟩ := h
  exact ⟨st, _, EI, l, q, u.x, fun w st1 v H1 q1 l1 s1 r1 => ⟨w, st1, _, l1, r1, q1, fun st2 σ2 H2 q2 l2 s2 _ _ => u.nx st2 σ2 H2 q2 l2 (s1.trans s2)⟩⟩
def sAugI (i : Nat) (f : Int → Int → Int) (ia : IE) : IS := fun EI D st => match st.ρ[i]? with
  | some (.val (.int n)) => ia EI st fun w st1 => (match w with
    | .int m => D.nx (st1.put i (.val (.int (f n m))))
    | _ => False)
  | _ => False
theorem s_augI (i : Nat) {x : Str} {pos' : Pos} {op : Operator} {f : Int → Int → Int} (ho : PIp X op (ipI f)) (hN : X.N.Nodup) (ha : PE X a (LE X.K F Wx ia)) (hi : X.N[i]? = some x := by rfl) (hx : Loc X.env.scope x := by first | exact Or.inl rfl | exact Or.inr rfl)
    (hf : X.fn x = true ∨ X.env.scope.names.lookup x = some .local := by first | exact .inl rfl | exact .inr rfl | assumption) : PS X (.AugAssign (.Name x pos') op a pos) (LS X.K F Wx (sAugI i f ia)) := ps_imp (ps_aug hN hi hx ha ho hf) fun D σ H h => by
  obtain ⟨st, DI, EI, l, q, u⟩ := h
  unfold sAugI at q
  split at q
  · rename_i n e
    obtain ⟨v, ev, r⟩ := l.val i _ e
    cases r
    refine ⟨.int n, ev, st, _, EI, l, q, u.x, fun w st1 v H1 q1 l1 s1 r1 => ?_⟩
    split at q1
    · cases r1
      exact ⟨_, _, rfl, rfl, u.nx _ _ H1 q1 (l1.put (.int _)) (s1.trans Step.put)⟩
    · exact q1.elim
  · exact q.elim
end
end Sh
namespace Sh
open PySem L2
open PyProof.Rows hiding St
/-- from here on the iterator J yields ws -/
structure Yd (K : PySem.W.Frag) (F : Addr → Prop) (J : It) (ws : List W) (st : Stt) (σ : L2.St) (H : Hp) : Prop where
  go : ∀ (i : Nat) (F' : Addr → Prop) st' σ' H', i < ws.length → Lk K F' st' σ' H' → Mv (Live F st σ) H (Live F' st' σ') H' → J.go i H' ∧ ∀ x H2, J.yld i H' x H2 → ∃ w, ws[i]? = some w ∧ Lk K F' st' σ' H2 ∧ Step st' σ' H' st' σ' H2 ∧
    (∀ b u, H' b = some u → H2 b = some u) ∧ RelW K (Live F' st' σ') H2 w x
  stop : ∀ (i : Nat) (F' : Addr → Prop) st' σ' H', ws.length ≤ i → Mv (Live F st σ) H (Live F' st' σ') H' → J.stop i H'
abbrev IL := XI → Stt → (List W → Stt → Prop) → Prop
def LI (K : PySem.W.Frag) (F : Addr → Prop) (Wx : WX) (i : IL) : TI := fun σ H R => ∃ st QI EI, Lk K F st σ H ∧ i EI st QI ∧ UpX K F Wx st σ H EI ∧
  ∀ ws st' J H', QI ws st' → Lk K F st' σ H' → Step st σ H st' σ H' → Yd K F J ws st' σ H' → R J H'
theorem pi_imp {X : Cx} {tg it : Expr} {t t' : TI} (h : PI X tg it t) (m : ∀ σ H Q, t' σ H Q → t σ H Q) : PI X tg it t' := ⟨fun pins s σ H R I q => h.run pins s σ H R I (m _ _ _ q)⟩
/-- a list or a tuple, whichever -/
def iSeq (K : PySem.W.Frag) (tl : TE) : TI := fun σ H R => tl σ H fun x H1 => ∃ a, x = .ref a ∧ (((∃ xs, SqL K H1 a xs) ∧ R (Itl K a) H1) ∨ ((∃ xs, SqT K H1 a xs) ∧ R (Itt K a) H1))
theorem pi_seq {X : Cx} {tg l : Expr} {tl : TE} (hl : PE X l tl) : PI X tg l (iSeq X.K tl) := by
  refine ⟨fun pins s σ H R I h => ?_⟩
  refine thn (hl.run pins s σ H _ I h) fun v s1 ⟨x, H1, I1, r1, q1⟩ => ?_
  obtain ⟨a, e, q⟩ := q1
  subst e
  cases r1
  rcases q with ⟨⟨xs, hq⟩, q⟩ | ⟨⟨xs, hq⟩, q⟩
  · obtain ⟨its, rv, p, hz⟩ := I1.list hq
    refine wpAny_pyIter_list p.isList ?_
    refine ⟨s1.heap.objs.size, [s1.heap.objs.size], _, _, H1, rfl, I1.kept (t' := s1.toks) fun b o e => Heap.get?_push_of_some _ e, turn_list a _, ⟨_, Heap.get?_push_size _ rfl, rfl, rfl⟩, fun b hb => ?_, q⟩
    have e : b = s1.heap.objs.size := by simpa using hb
    subst e
    exact I1.fpOk (Nat.le_refl _) (I1.hok.fresh (Nat.le_refl _))
  · obtain ⟨its, rv, p, hz⟩ := I1.tuple hq
    refine wpAny_pyIter_tuple (show s1.heap.IsTuple a its.toArray from p) ?_
    refine ⟨s1.heap.objs.size, [s1.heap.objs.size], _, _, H1, rfl, I1.kept (t' := s1.toks) fun b o e => Heap.get?_push_of_some _ e, turn_tuple a _, ⟨_, Heap.get?_push_size _ rfl, rfl, rfl⟩, fun b hb => ?_, q⟩
    have e : b = s1.heap.objs.size := by simpa using hb
    subst e
    exact I1.fpOk (Nat.le_refl _) (I1.hok.fresh (Nat.le_refl _))
section
variable {X : Cx} {F : Addr → Prop} {Wx : WX} {vs : List Nat} {a b c e tg : Expr} {es : List Expr} {pos p : Pos} {ia ib ic : IE} {s : Stmt} {ss : List Stmt} {ip iq : IS} {nn : IN}
theorem some_of {α : Type} {l : List α} {i : Nat} (h : i < l.length) : ∃ x, l[i]? = some x := ⟨l[i], by simp [h]⟩
theorem yd_list {K : PySem.W.Frag} {st : Stt} {σ : L2.St} {H : Hp} {ws : List W} {a : Addr} {vs : List V} (f : ∀ (Lv' : Addr → Prop) H', Mv (Live F st σ) H Lv' H' → SqL K H' a vs) (r : RelWs K (Live F st σ) H ws vs) : Yd K F (Itl K a) ws st σ H where
  go := fun i F' st' σ' H' hi l m => by
    obtain ⟨w, ew⟩ := some_of hi
    obtain ⟨v, ev, rv⟩ := r.get ew
    refine ⟨⟨vs, v, f _ _ m, ev⟩, fun x H2 y => ?_⟩
    obtain ⟨rfl, y⟩ := y
    have ex := y vs (f _ _ m)
    rw [ev] at ex
    cases ex
    exact ⟨w, ew, l, .refl, fun _ _ e => e, rv.mono m⟩
  stop := fun i F' st' σ' H' hi m => ⟨vs, f _ _ m, by rw [← r.length]; exact hi⟩
theorem yd_tup {K : PySem.W.Frag} {st : Stt} {σ : L2.St} {H : Hp} {ws : List W} {a : Addr} {vs : List V} (f : ∀ (Lv' : Addr → Prop) H', Mv (Live F st σ) H Lv' H' → SqT K H' a vs) (r : RelWs K (Live F st σ) H ws vs) : Yd K F (Itt K a) ws st σ H where
  go := fun i F' st' σ' H' hi l m => by
    obtain ⟨w, ew⟩ := some_of hi
    obtain ⟨v, ev, rv⟩ := r.get ew
    refine ⟨⟨vs, v, f _ _ m, ev⟩, fun x H2 y => ?_⟩
    obtain ⟨rfl, y⟩ := y
    have ex := y vs (f _ _ m)
    rw [ev] at ex
    cases ex
    exact ⟨w, ew, l, .refl, fun _ _ e => e, rv.mono m⟩
  stop := fun i F' st' σ' H' hi m => ⟨vs, f _ _ m, by rw [← r.length]; exact hi⟩
/-- the items of a value -/
def gItems (x : W) (P : List W → Prop) : Prop := match x with
  | .lst ws => P ws
  | .tup ws => P ws
  | .scr ns => P (ns.map .int)
  | _ => False
def lSeq (ia : IE) : IL := fun EI st Q => ia EI st fun x st1 => gItems x fun ws => Q ws st1
theorem l_seq (ha : PE X a (LE X.K F Wx ia)) : PI X tg a (LI X.K F Wx (lSeq ia)) := pi_imp (pi_seq ha) fun σ H R h => by
  obtain ⟨st, QI, EI, l, q, ux, k⟩ := h
  refine ⟨st, _, EI, l, q, ux, fun x st1 v H1 q1 l1 s1 r1 => ?_⟩
  unfold gItems at q1
  split at q1
  · cases r1 with
    | lst f r => exact ⟨_, rfl, .inl ⟨⟨_, f.sq⟩, k _ _ _ H1 q1 l1 s1 (yd_list (fun _ _ m => (f.mono m).sq) r)⟩⟩
  · cases r1 with
    | tup f r => exact ⟨_, rfl, .inr ⟨⟨_, f.sq⟩, k _ _ _ H1 q1 l1 s1 (yd_tup (fun _ _ m => (f.mono m).sq) r)⟩⟩
  · cases r1 with
    | scr f => exact ⟨_, rfl, .inl ⟨⟨_, f.sq⟩, k _ _ _ H1 q1 l1 s1 (yd_list (fun _ _ m => (f.mono m).sq) (RelWs.ints _))⟩⟩
  · exact q1.elim
/-- lo, lo + 1, .. -/
def rng (lo : Int) (n : Nat) : List W := (List.range n).map fun (i : Nat) => W.int (lo + (i : Int))
theorem rng_length (lo : Int) (n : Nat) : (rng lo n).length = n := by simp [rng]
theorem rng_get {lo : Int} {n i : Nat} (h : i < n) : (rng lo n)[i]? = some (.int (lo + i)) := by simp [rng, h]
theorem yd_range {K : PySem.W.Frag} {st : Stt} {σ : L2.St} {H : Hp} (lo : Int) (n : Nat) : Yd K F (Itr lo n) (rng lo n) st σ H where
  go := fun i F' st' σ' H' hi l m => by
    rw [rng_length] at hi
    refine ⟨hi, fun x H2 y => ?_⟩
    obtain ⟨rfl, rfl⟩ := y
    exact ⟨_, rng_get hi, l, .refl, fun _ _ e => e, .int _⟩
  stop := fun i F' st' σ' H' hi m => by
    rw [rng_length] at hi
    exact hi
def i62 (i : Int) : Prop := -(2 ^ 62) ≤ i ∧ i < 2 ^ 62
def lRange1 (ia : IE) : IL := fun EI st Q => ia EI st fun x st1 => match x with
  | .int j => i62 j ∧ Q (rng 0 j.toNat) st1
  | _ => False
theorem l_range1 (hm : X.mg "range" = none) (ha : PE X a (LE X.K F Wx ia)) (hg : Gl X "range" := by rfl) (hs : starEach [a] X.env = [(false, eval a X.env)] := by rfl) (hs2 : starEach [a] X.env = (false, eval a X.env) :: starEach [] X.env := by rfl) :
    PI X tg (.Call (.Name "range" p) [a] [] pos) (LI X.K F Wx (lRange1 ia)) := pi_imp (pi_range1 hg hm (pa_cons ha pa_nil hs2) hs) fun σ H R h => by
  obtain ⟨st, QI, EI, l, q, ux, k⟩ := h
  refine ⟨st, _, EI, l, q, ux, fun x st1 v H1 q1 l1 s1 r1 => ?_⟩
  split at q1
  · cases r1
    exact ⟨_, rfl, q1.1.1, q1.1.2, k _ _ _ H1 q1.2 l1 s1 (yd_range 0 _)⟩
  · exact q1.elim
def lRange2 (ia ib : IE) : IL := fun EI st Q => ia EI st fun x st1 => ib EI st1 fun y st2 => match x, y with
  | .int i, .int j => i62 i ∧ i62 j ∧ Q (rng i (j - i).toNat) st2
  | _, _ => False
theorem l_range2 (hm : X.mg "range" = none) (ha : PE X a (LE X.K F Wx ia)) (hb : PE X b (LE X.K F Wx ib)) (hg : Gl X "range" := by rfl) (hs : starEach [a, b] X.env = [(false, eval a X.env), (false, eval b X.env)] := by rfl) (hs2 : starEach [b] X.env = [(false, eval b X.env)] := by rfl)
    (h1 : starEach [a, b] X.env = (false, eval a X.env) :: starEach [b] X.env := by rfl) (h2 : starEach [b] X.env = (false, eval b X.env) :: starEach [] X.env := by rfl) :
    PI X tg (.Call (.Name "range" p) [a, b] [] pos) (LI X.K F Wx (lRange2 ia ib)) := pi_imp (pi_range2 hg hm (pa_cons ha (pa_cons hb pa_nil h2) h1) hs hs2) fun σ H R h => by
  obtain ⟨st, QI, EI, l, q, ux, k⟩ := h
  refine ⟨st, _, EI, l, q, ux, fun x st1 v H1 q1 l1 s1 r1 => ⟨st1, _, EI, l1, q1, ux.step s1, fun y st2 u H2 q2 l2 s2 r2 => ?_⟩⟩
  split at q2
  · cases r1
    cases r2
    exact ⟨_, _, rfl, ⟨q2.1.1, q2.1.2, q2.2.1.1, q2.2.1.2⟩, k _ _ _ H2 q2.2.2 l2 (s1.trans s2) (yd_range _ _)⟩
  · exact q2.elim

def forGo (g : IG) (body : IS) (EI : XI) (D : IEnds) : List W → Stt → Prop
  | [], st => D.nx st
  | w :: ws, st => g w st fun st1 => body EI { nx := forGo g body EI D ws, ct := forGo g body EI D ws, bk := D.nx, rt := D.rt } st1
def sFor (il : IL) (g : IG) (body : IS) : IS := fun EI D st => il EI st fun ws st1 => forGo g body EI D ws st1
theorem s_for {iter : Expr} {body : List Stmt} {il : IL} {g : IG} (hp : PassesOwn (model X.prog X.w) X.A X.env X.xe) (hi : PI X tg iter (LI X.K F Wx il)) (hg : PG X tg (LG X.K F vs g)) (hb : PSs X body (LS X.K F Wx ip)) (hc : X.calm = true := by rfl)
    (hs : ∀ x, foldedSetIterable iter X.env x = pure x := by intro _; rfl) : PS X (.For tg iter body [] pos) (LS X.K F Wx (sFor il g ip)) := ps_imp (ps_for hp hc hi hg hb hs) fun D σ H h => by
  obtain ⟨st, DI, EI, l, q, u⟩ := h
  refine ⟨st, _, EI, l, q, u.x, fun ws st1 J H1 q1 l1 s1 y => ?_⟩
  refine ⟨fun i m σ' H' => m = ws.length - i ∧ i ≤ ws.length ∧ ∃ st', Lk X.K F st' σ' H' ∧ Step st1 σ H1 st' σ' H' ∧ forGo g ip EI DI (ws.drop i) st', ⟨ws.length, by simp, Nat.zero_le _, st1, l1, .refl, q1⟩, ?_⟩
  rintro i m σ' H' ⟨rfl, hi, st', l', s', q'⟩
  by_cases hlt : i < ws.length
  · obtain ⟨go, yl⟩ := y.go i F st' σ' H' hlt l' s'.mv
    refine .inr ⟨go, fun σ2 H2 => ∃ st2, Lk X.K F st2 σ2 H2 ∧ Step st1 σ H1 st2 σ2 H2 ∧ forGo g ip EI DI (ws.drop (i + 1)) st2, fun σ2 H2 ⟨st2, l2, s2, q2⟩ => ⟨ws.length - (i + 1), by omega, rfl, hlt, st2, l2, s2, q2⟩, fun x H2 yx => ?_⟩
    obtain ⟨w, ew, l2, s2, _, rw'⟩ := yl x H2 yx
    have ed : ws.drop i = w :: ws.drop (i + 1) := by
      obtain ⟨h1, h2⟩ := List.getElem?_eq_some_iff.mp ew
      rw [← h2]
      exact List.drop_eq_getElem_cons h1
    rw [ed] at q'
    refine ⟨w, st', _, l2, rw', q', fun st3 σ3 H3 q3 l3 s3 _ _ => ⟨st3, _, EI, l3, q3, ?_⟩⟩
    have sx : Step st σ H st3 σ3 H3 := ((s1.trans s').trans s2).trans s3
    exact ⟨u.x.step sx, fun st4 σ4 H4 q4 l4 s4 => ⟨st4, l4, ((s'.trans s2).trans s3).trans s4, q4⟩, fun st4 σ4 H4 q4 l4 s4 => u.nx st4 σ4 H4 q4 l4 (sx.trans s4), fun st4 σ4 H4 q4 l4 s4 => ⟨st4, l4, ((s'.trans s2).trans s3).trans s4, q4⟩, fun r S' v H4 q4 h4 => u.rt r S' v H4 q4 (h4.step sx)⟩
  · have e : i = ws.length := by omega
    subst e
    rw [List.drop_length] at q'
    exact .inl ⟨y.stop _ F st' σ' H' (Nat.le_refl _) s'.mv, u.nx st' σ' H' q' l' (s1.trans s')⟩
def sWhile (t : IT) (body : IS) : IS := fun EI D st => ∃ I : Nat → Stt → Prop, (∃ m, I m st) ∧ ∀ m st, I m st → t EI st fun b st1 => if b = true then body EI { nx := fun st' => ∃ m', m' < m ∧ I m' st', ct := fun st' => ∃ m', m' < m ∧ I m' st', bk := D.nx, rt := D.rt } st1 else D.nx st1
theorem s_while {t : IT} {body : List Stmt} (hp : PassesOwn (model X.prog X.w) X.A X.env X.xe) (hc : PT X c (LT X.K F Wx t)) (hb : PSs X body (LS X.K F Wx ip)) : PS X (.While c body [] pos) (LS X.K F Wx (sWhile t ip)) := ps_imp (ps_while hp hc hb) fun D σ H h => by
  obtain ⟨st, DI, EI, l, ⟨I, ⟨m0, i0⟩, turn⟩, u⟩ := h
  refine ⟨fun m σ' H' => ∃ st', Lk X.K F st' σ' H' ∧ Step st σ H st' σ' H' ∧ I m st', ⟨m0, st, l, .refl, i0⟩, ?_⟩
  rintro m σ' H' ⟨st', l', s', i'⟩
  refine ⟨st', _, EI, l', turn m st' i', u.x.step s', fun b st1 H1 q1 l1 s1 => ?_⟩
  have sx : Step st σ H st1 σ' H1 := s'.trans s1
  cases b with
  | true =>
    rw [if_pos rfl] at q1
    refine iteT ?_
    refine ⟨fun σ2 H2 => ∃ m', m' < m ∧ ∃ st2, Lk X.K F st2 σ2 H2 ∧ Step st σ H st2 σ2 H2 ∧ I m' st2, fun _ _ z => z, st1, _, EI, l1, q1, ?_⟩
    exact ⟨u.x.step sx, fun st4 σ4 H4 ⟨m', hm, i4⟩ l4 s4 => ⟨m', hm, st4, l4, sx.trans s4, i4⟩, fun st4 σ4 H4 q4 l4 s4 => u.nx st4 σ4 H4 q4 l4 (sx.trans s4), fun st4 σ4 H4 ⟨m', hm, i4⟩ l4 s4 => ⟨m', hm, st4, l4, sx.trans s4, i4⟩, fun r S' v H4 q4 h4 => u.rt r S' v H4 q4 (h4.step sx)⟩
  | false =>
    rw [if_neg Bool.false_ne_true] at q1
    exact iteF (u.nx st1 σ' H1 q1 l1 sx)
def Stt.wipe (st : Stt) : List Nat → Stt
  | [] => st
  | v :: vs => (st.wipe vs).put v .none
theorem Lk.wipes {K : PySem.W.Frag} {st : Stt} {σ : L2.St} {H : Hp} (l : Lk K F st σ H) : ∀ vs : List Nat, Lk K F (st.wipe vs) (L2.wipe σ vs) H ∧ Step st σ H (st.wipe vs) (L2.wipe σ vs) H
  | [] => ⟨l, .refl⟩
  | v :: vs => by
    obtain ⟨l1, s1⟩ := l.wipes vs
    obtain ⟨l2, s2⟩ := l1.wipe (i := v) (x := none)
    exact ⟨l2, s1.trans s2⟩
abbrev noX : XI := fun _ _ => False
abbrev W0 : WX := fun _ _ _ _ => False
def lcGo (g : IG) (t : IT) (ie : IE) (vs : List Nat) (Q : SO → Stt → Prop) : List W → List W → Stt → Prop
  | [], acc, st => Q (.lst acc) st
  | w :: ws, acc, st => g w (st.wipe vs) fun st1 => t noX st1 fun b st2 => if b = true then ie noX st2 fun y st3 => acc.length < sizeLine ∧ lcGo g t ie vs Q ws (acc ++ [y]) st3 else lcGo g t ie vs Q ws acc st2
def nLc (il : IL) (g : IG) (t : IT) (ie : IE) (vs : List Nat) : IN := fun EI st Q => il EI st fun ws st1 => lcGo g t ie vs (fun o st2 => Q o (st2.wipe vs)) ws [] st1
theorem Lk.writeF {K : PySem.W.Frag} {st : Stt} {σ : L2.St} {H : Hp} {D : Addr} {u : HO} (l : Lk K F st σ H) (fd : F D) : Lk K F st σ (upd H D u) ∧ Mv (Live F st σ) H (Live F st σ) (upd H D u) := by
  have m : Mv (Live F st σ) H (Live F st σ) (upd H D u) := Mv.write (.inr fd) fun _ z => z
  refine ⟨⟨l.len, fun i w e => ?_, fun i o e => ?_, l.inj, fun a o e => (l.sto a o e).move (fun x q => ?_) m, fun a z => ?_, l.fdis⟩, m⟩
  · obtain ⟨v, e1, r⟩ := l.val i w e
    exact ⟨v, e1, r.mono m⟩
  · obtain ⟨a, e1, r, n1, n2⟩ := l.own i o e
    have na : a ≠ D := fun q => n2 (q ▸ fd)
    exact ⟨a, e1, r.move (fun x q => by rw [upd_ne na]; exact q) m, n1, n2⟩
  · have na : a ≠ D := fun z => by
      have q2 := l.fdis D fd
      rw [← z, e] at q2
      cases q2
    rw [upd_ne na]
    exact q
  · by_cases na : a = D
    · rw [na]
      exact ⟨u, upd_same⟩
    · obtain ⟨x, q⟩ := l.ftr a z
      exact ⟨x, by rw [upd_ne na]; exact q⟩
theorem Lk.nwr {K : PySem.W.Frag} {st : Stt} {σ : L2.St} {H : Hp} {D : Addr} (l : Lk K F st σ H) (fd : F D) : ¬ Wr st σ D := fun z => by
  rcases z with z | ⟨i, o, e1, e2⟩
  · exact z (l.fdis D fd)
  · obtain ⟨b, e3, _, _, n⟩ := l.own i o e1
    rw [e2] at e3
    cases e3
    exact n fd
/-- slots that hold nothing may hold anything -/
theorem wipe_get {i : Nat} : ∀ (vs : List Nat) (st : Stt) (σ : L2.St) {x : Slot}, (st.wipe vs).ρ[i]? = some x → x ≠ .none → (L2.wipe σ vs)[i]? = σ[i]?
  | [], _, _, _, _, _ => rfl
  | v :: vs, st, σ, x, e, n => by
    have e' : ((st.wipe vs).ρ.set v .none)[i]? = some x := e
    rcases get_set e' with ⟨_, z, _⟩ | ⟨nv, e'⟩
    · exact absurd z n
    · show ((L2.wipe σ vs).set v none)[i]? = σ[i]?
      rw [List.getElem?_set_ne (Ne.symm nv)]
      exact wipe_get vs st σ e' n
theorem ow_wipe {vs : List Nat} {st : Stt} {σ : L2.St} {a : Addr} : Ow (st.wipe vs).ρ σ a ↔ Ow (st.wipe vs).ρ (L2.wipe σ vs) a := by
  constructor
  · rintro ⟨i, o, e1, e2⟩
    exact ⟨i, o, e1, by rw [wipe_get vs st σ e1 (fun z => nomatch z)]; exact e2⟩
  · rintro ⟨i, o, e1, e2⟩
    exact ⟨i, o, e1, by rw [← wipe_get vs st σ e1 (fun z => nomatch z)]; exact e2⟩
theorem live_wipe {vs : List Nat} {st : Stt} {σ : L2.St} {a : Addr} : Live F (st.wipe vs) σ a ↔ Live F (st.wipe vs) (L2.wipe σ vs) a := by
  unfold Live Wr
  rw [ow_wipe]
theorem Lk.unwipe {K : PySem.W.Frag} {vs : List Nat} {st : Stt} {σ : L2.St} {H : Hp} (l : Lk K F (st.wipe vs) (L2.wipe σ vs) H) : Lk K F (st.wipe vs) σ H := by
  have lv : ∀ a, Live F (st.wipe vs) σ a → Live F (st.wipe vs) (L2.wipe σ vs) a := fun a z => live_wipe.mp z
  have m : Mv (Live F (st.wipe vs) (L2.wipe σ vs)) H (Live F (st.wipe vs) σ) H := mv_same lv
  refine ⟨by rw [l.len, L2.wipe_length], fun i w e => ?_, fun i o e => ?_, fun i j o o' a e1 e2 e3 e4 => ?_, fun a o e => (l.sto a o e).move (fun _ q => q) m, l.ftr, l.fdis⟩
  · obtain ⟨v, e1, r⟩ := l.val i w e
    exact ⟨v, by rw [← wipe_get vs st σ e (fun z => nomatch z)]; exact e1, r.mono m⟩
  · obtain ⟨a, e1, r, n1, n2⟩ := l.own i o e
    exact ⟨a, by rw [← wipe_get vs st σ e (fun z => nomatch z)]; exact e1, r.move (fun _ q => q) m, n1, n2⟩
  · exact l.inj i j o o' a e1 e2 (by rw [wipe_get vs st σ e1 (fun z => nomatch z)]; exact e3) (by rw [wipe_get vs st σ e2 (fun z => nomatch z)]; exact e4)
theorem Step.unwipe {vs : List Nat} {st st' : Stt} {σ σ' : L2.St} {H H' : Hp} (s : Step st σ H (st'.wipe vs) (L2.wipe σ' vs) H') : Step st σ H (st'.wipe vs) σ' H' :=
  ⟨s.keep, fun a z => s.new a (z.imp id fun z => ow_wipe.mp z)⟩
theorem mv_new {st st' : Stt} {σ σ' : L2.St} {H H' : Hp} {D : Addr} (s : Step st σ H st' σ' H') (e : H D = none) : Mv (Live F st σ) H (Live (FA F D) st' σ') H' := fun a u q n =>
  ⟨s.keep a u q fun z => n (.inl z), fun z => by
    rcases z with z | z | z
    · rcases s.new a z with z | z
      · exact n (.inl z)
      · rw [q] at z; cases z
    · exact n (.inr z)
    · rw [z, e] at q; cases q⟩
theorem wipe_sub {vs : List Nat} (σ : L2.St) : ∀ ws : List Nat, (∀ i ∈ ws, i ∈ vs) → L2.wipe (L2.wipe σ ws) vs = L2.wipe σ vs
  | [], _ => rfl
  | w :: ws, h => by
    show L2.wipe ((L2.wipe σ ws).set w none) vs = _
    rw [wipe_set _ (h w List.mem_cons_self), wipe_sub σ ws fun i hi => h i (List.mem_cons_of_mem _ hi)]
theorem lc_of {K : PySem.W.Frag} {il : IL} {g : IG} {t : IT} {ie : IE} {σ : L2.St} {H : Hp} {Q : VK} (h : LN K F Wx (nLc il g t ie vs) σ H Q) :
    tLc (LI K F Wx il) (fun v σ H Q => ∃ F', LG K F' vs g v σ H Q) (fun σ H Q => ∃ F', LT K F' W0 t σ H Q) (fun σ H Q => ∃ F', LE K F' W0 ie σ H Q) vs σ H Q := by
  obtain ⟨st, QI, EI, l, q, ux, k⟩ := h
  refine ⟨st, _, EI, l, q, ux, fun ws st1 J H1 q1 l1 s1 y D hD => ?_⟩
  refine ⟨fun i m Hc => m = ws.length - i ∧ i ≤ ws.length ∧ ∃ stc acc us, Lk K (FA F D) (stc.wipe vs) (L2.wipe σ vs) Hc ∧ Step st1 σ H1 (stc.wipe vs) (L2.wipe σ vs) Hc ∧ Hc D = some (.lst us) ∧ RelWs K (Live (FA F D) (stc.wipe vs) (L2.wipe σ vs)) Hc acc us ∧
    lcGo g t ie vs (fun o st2 => QI o (st2.wipe vs)) (ws.drop i) acc stc, ⟨ws.length, by simp, Nat.zero_le _, st1, [], [], ?_, ?_, upd_same, .nil, q1⟩, ?_⟩
  · exact ((l1.foreign hD).wipes vs).1
  · exact (Step.laid l1 hD).trans ((l1.laid hD).wipes vs).2
  rintro i m Hc ⟨rfl, hi, stc, acc, us, lc, sc, eD, ra, qc⟩
  have mv1 : Mv (Live F st1 σ) H1 (Live (FA F D) (stc.wipe vs) (L2.wipe σ vs)) Hc := mv_new sc hD
  by_cases hlt : i < ws.length
  · obtain ⟨go, yl⟩ := y.go i (FA F D) (stc.wipe vs) (L2.wipe σ vs) Hc hlt lc mv1
    refine .inr ⟨go, fun H' => ∃ stc acc us, Lk K (FA F D) (stc.wipe vs) (L2.wipe σ vs) H' ∧ Step st1 σ H1 (stc.wipe vs) (L2.wipe σ vs) H' ∧ H' D = some (.lst us) ∧ RelWs K (Live (FA F D) (stc.wipe vs) (L2.wipe σ vs)) H' acc us ∧
      lcGo g t ie vs (fun o st2 => QI o (st2.wipe vs)) (ws.drop (i + 1)) acc stc, fun H' ⟨stc, acc, us, z⟩ => ⟨ws.length - (i + 1), by omega, rfl, hlt, stc, acc, us, z⟩, fun x H2 yx => ?_⟩
    obtain ⟨w, ew, l2, s2, k2, rw'⟩ := yl x H2 yx
    have ed : ws.drop i = w :: ws.drop (i + 1) := by
      obtain ⟨h1, h2⟩ := List.getElem?_eq_some_iff.mp ew
      rw [← h2]
      exact List.drop_eq_getElem_cons h1
    rw [ed] at qc
    refine ⟨FA F D, w, stc.wipe vs, _, l2, rw', qc, fun st3 σ3 H3 q3 l3 s3 e3' k3 => ?_⟩
    have e3 : L2.wipe σ3 vs = L2.wipe σ vs := e3'.trans (wipe_sub σ vs fun _ z => z)
    refine ⟨e3, ?_⟩
    have eD3 : H3 D = some (.lst us) := k3 _ _ (k2 _ _ eD)
    have ra3 : RelWs K (Live (FA F D) st3 σ3) H3 acc us := ra.mono (s2.trans s3).mv
    refine ⟨FA F D, st3, _, noX, l3, q3, fun _ _ _ _ _ _ z => z.elim, fun b st4 H4 q4 l4 s4 => ?_⟩
    have eD4 : H4 D = some (.lst us) := s4.keep _ _ eD3 (l3.nwr (.inr rfl))
    have ra4 : RelWs K (Live (FA F D) st4 σ3) H4 acc us := ra3.mono s4.mv
    cases b with
    | false =>
      rw [if_neg Bool.false_ne_true] at q4
      refine iteF ⟨st4, acc, us, ?_⟩
      obtain ⟨l5, s5⟩ := l4.wipes vs
      rw [e3] at l5 s5
      exact ⟨l5, (((sc.trans s2).trans s3).trans s4).trans s5, eD4, ra4.mono s5.mv, q4⟩
    | true =>
      rw [if_pos rfl] at q4
      refine iteT ⟨FA F D, st4, _, noX, l4, q4, fun _ _ _ _ _ _ z => z.elim, fun w5 st5 v5 H5 q5 l5 s5 r5 => ?_⟩
      have eD5 : H5 D = some (.lst us) := s5.keep _ _ eD4 (l4.nwr (.inr rfl))
      have ra5 : RelWs K (Live (FA F D) st5 σ3) H5 acc us := ra4.mono s5.mv
      refine ⟨us, eD5, by rw [← ra5.length]; exact q5.1, st5, acc ++ [w5], us ++ [v5], ?_⟩
      obtain ⟨l6, s6⟩ := l5.wipes vs
      rw [e3] at l6 s6
      obtain ⟨l7, m7⟩ := l6.writeF (D := D) (u := .lst (us ++ [v5])) (.inr rfl)
      refine ⟨l7, ?_, upd_same, ((ra5.append (.cons r5 .nil)).mono s6.mv).mono m7, q5.2⟩
      have s8 := ((((sc.trans s2).trans s3).trans s4).trans s5).trans s6
      exact ⟨fun a u e n => by rw [upd_ne (ne_of_none e hD)]; exact s8.keep a u e n, s8.new⟩
  · have e : i = ws.length := by omega
    subst e
    rw [List.drop_length] at qc
    refine .inl ⟨y.stop _ (FA F D) (stc.wipe vs) (L2.wipe σ vs) Hc (Nat.le_refl _) mv1, ?_⟩
    exact k (.lst acc) (stc.wipe vs) D Hc qc lc.unwipe (s1.trans sc.unwipe) ⟨us, eD, ra.mono (mv_same fun a z => live_wipe.mp z)⟩ (NewAt.step s1 (.inr hD))
theorem pt_ex {i : IT} {Wx : WX} (h : ∀ F, PT X e (LT X.K F Wx i)) : PT X e (fun σ H Q => ∃ F, LT X.K F Wx i σ H Q) := ⟨fun pins s σ H Q I ⟨F, q⟩ => (h F).run pins s σ H Q I q⟩
theorem pg_ex {g : IG} (h : ∀ F, PG X e (LG X.K F vs g)) : PG X e (fun v σ H Q => ∃ F, LG X.K F vs g v σ H Q) := ⟨fun pins s σ H v u Q I r ⟨F, q⟩ => (h F).run pins s σ H v u Q I r q⟩
def tYes' : IT := fun _ st Q => Q true st
structure PTI (X : Cx) (ifs : List Expr) (t : IT) : Prop where
  it : PTs X ifs (fun σ H Q => ∃ F, LT X.K F W0 t σ H Q)
theorem ti_nil : PTI X [] tYes' := ⟨⟨fun pins s σ H Q I ⟨F, st, QI, EI, l, q, ux, k⟩ => pts_nil.run pins s σ H Q I (k true st H q l .refl)⟩⟩
theorem ti_one {t : IT} (h : ∀ F, PT X c (LT X.K F W0 t)) : PTI X [c] t := ⟨pts_one (pt_ex h)⟩
variable {elt iter : Expr} {ifs : List Expr} {scope : Scope} {il : IL} {g : IG} {t : IT} {ie : IE}
theorem n_lc (own : List (Str × Nat)) (hN : X.N.Nodup) (hi : PI X tg iter (LI X.K F Wx il)) (ok : BlkOk X.N X.env.scope scope own)
    (hg : ∀ (s : Shared) (H : Hp) (C : Addr) (cl : List (Str × Addr)) (fp : List Addr) F, PG (X.blk s H scope (compEnvC scope cl C X.env) fp) tg (LG X.K F (own.map (·.2)) g))
    (ht : ∀ (s : Shared) (H : Hp) (C : Addr) (cl : List (Str × Addr)) (fp : List Addr), PTI (X.blk s H scope (compEnvC scope cl C X.env) fp) ifs t)
    (he : ∀ (s : Shared) (H : Hp) (C : Addr) (cl : List (Str × Addr)) (fp : List Addr) F, PE (X.blk s H scope (compEnvC scope cl C X.env) fp) elt (LE X.K F W0 ie)) (hc : X.calm = true := by rfl) (hs : ∀ x, foldedSetIterable iter X.env x = pure x := by intro _; rfl) :
    PE X (.ListComp elt [⟨tg, iter, ifs, 0⟩] scope pos) (LN X.K F Wx (nLc il g t ie (own.map (·.2)))) :=
  pe_imp (pe_lc hc hN hi ok (fun s H C cl fp => pg_ex fun F => hg s H C cl fp F) (fun s H C cl fp => (ht s H C cl fp).it) (fun s H C cl fp => pe_ex fun F => he s H C cl fp F) hs) fun _ _ _ h => lc_of h
theorem s_setLc (i : Nat) (own : List (Str × Nat)) {y : Str} {py spos : Pos} (hN : X.N.Nodup) (hi : PI X tg iter (LI X.K F Wx il)) (ok : BlkOk X.N X.env.scope scope own)
    (hg : ∀ (s : Shared) (H : Hp) (C : Addr) (cl : List (Str × Addr)) (fp : List Addr) F, PG (X.blk s H scope (compEnvC scope cl C X.env) fp) tg (LG X.K F (own.map (·.2)) g))
    (ht : ∀ (s : Shared) (H : Hp) (C : Addr) (cl : List (Str × Addr)) (fp : List Addr), PTI (X.blk s H scope (compEnvC scope cl C X.env) fp) ifs t)
    (he : ∀ (s : Shared) (H : Hp) (C : Addr) (cl : List (Str × Addr)) (fp : List Addr) F, PE (X.blk s H scope (compEnvC scope cl C X.env) fp) elt (LE X.K F W0 ie)) (hsw : swapsWith (.ListComp elt [⟨tg, iter, ifs, 0⟩] scope pos) (some (.Name y py)) spos.line X.env = pure true)
    (hy : X.N[i]? = some y := by rfl) (hyl : X.env.scope.names.lookup y = some .local := by rfl) (hc : X.calm = true := by rfl) (hs : ∀ x, foldedSetIterable iter X.env x = pure x := by intro _; rfl) :
    PS X (.Assign [.Name y py] (.ListComp elt [⟨tg, iter, ifs, 0⟩] scope pos) spos) (LS X.K F Wx (sSetN i (nLc il g t ie (own.map (·.2))))) :=
  ps_imp (ps_setLc hc hN hy hyl hsw hi ok (fun s H C cl fp => pg_ex fun F => hg s H C cl fp F) (fun s H C cl fp => (ht s H C cl fp).it) (fun s H C cl fp => pe_ex fun F => he s H C cl fp F) hs) fun D σ H h => by
    exact lc_of (setN_of h)
end
end Sh
namespace Sh
open PySem L2
open PyProof.Rows hiding St
section
variable {X : Cx} {F : Addr → Prop} {Wx : WX} {a b c e o : Expr} {es : List Expr} {pos p apos cpos : Pos} {ia ib ic : IE} {i : IA} {n : Nat} {x name : Str} {id : String}
/-- from the items and the arguments: the items behind, the value -/
def MtG (r : V → List V → Hp → VK → Prop) (g : List W → List W → (List W → W → Prop) → Prop) : Prop :=
  ∀ {K : PySem.W.Frag} {Lv : Addr → Prop} {H : Hp} {l : Addr} {ws as : List W} {vs us : List V} {P : List W → W → Prop} {Q : VK}, g ws as P → H l = some (.lst vs) → RelWs K Lv H ws vs → RelWs K Lv H as us →
    (∀ ws' w vs' v, P ws' w → RelWs K Lv H ws' vs' → RelW K Lv H w v → Q v (upd H l (.lst vs'))) → r (.ref l) us H Q
def iMtO (j : Nat) (g : List W → List W → (List W → W → Prop) → Prop) (i : IA) : IE := fun EI st Q => ownL st j fun _ => i EI st fun as st1 => ownL st1 j fun ws => g ws as fun ws' w => Q w (st1.put j (.own (.lst ws')))
theorem i_mtO (j : Nat) {px : Pos} {r : V → List V → Hp → VK → Prop} {g : List W → List W → (List W → W → Prop) → Prop} (hg : MtG r g) (hm : MtR X id r) (slot : PySem.Slot "list" name id) (hty : typeOf (.builtin id) = pure (.type "method_descriptor")) (ha : PA X (e :: es) (LA X.K F Wx n i))
    (hN : X.N[j]? = some x := by rfl) (hv : Vis X.env.scope x := by first | exact Or.inl rfl | exact Or.inr (Or.inl rfl) | exact Or.inr (Or.inr rfl)) (hd : (x == ("__debug__" : Str)) = false := by decide) (hcd : (x == ("__classdict__" : Str)) = false := by decide)
    (hbase : attributeBase (.Name x px) name X.env (eval (.Name x px) X.env) = eval (.Name x px) X.env := by rfl)
    (hfew : ((backTo cpos (starEach (e :: es) X.env)).all (fun x => !x.1) && (backToKw cpos (keywordEach [] X.env)).all (fun x => x.1.isSome) && decide ((e :: es).length + ([] : List Keyword).length + (if ([] : List Keyword).isEmpty then 0 else 1) < 30)) = true := by rfl)
    (hline : (apos.endLine == cpos.line) = true := by rfl) (hs : starEach (e :: es) X.env = (false, eval e X.env) :: starEach es X.env := by rfl) (hplain : (backTo cpos (starEach es X.env)).any (·.1) = false := by rfl) :
    PE X (.Call (.Attribute (.Name x px) name apos) (e :: es) [] cpos) (LE X.K F Wx (iMtO j g i)) := by
  refine pe_imp (pe_bm PySem.F.plainAttrs_list slot hty hm (pe_var hN hv hd hcd) ha hbase hfew hline hs hplain) fun σ H Q h => ?_
  obtain ⟨st, QI, EI, l, q, ux, k⟩ := h
  obtain ⟨ws0, e0, q⟩ := ownL_inv q
  obtain ⟨b, eb, ⟨vs0, hv0, r0⟩, _⟩ := l.own j _ e0
  refine ⟨.ref b, eb, .inl ⟨rfl, _, SqL.of hv0⟩, st, _, EI, l, q, ux, fun as st1 us H1 hn q1 l1 s1 r1 => ?_⟩
  obtain ⟨ws, e1, q1⟩ := ownL_inv q1
  obtain ⟨b', eb', ⟨vs, hv1, rs⟩, _⟩ := l1.own j _ e1
  rw [eb] at eb'
  cases eb'
  refine hg q1 hv1 rs r1 fun ws' w vs' v p r2 rw' => ?_
  have la : Live F st1 σ b := .inl (.inr ⟨j, _, e1, eb⟩)
  have m : Mv (Live F st1 σ) H1 (Live F st1 σ) (upd H1 b (.lst vs')) := Mv.write la fun _ z => z
  obtain ⟨l2, s2⟩ := l1.write (o' := .lst ws') (u := .lst vs') e1 eb ⟨vs', upd_same, r2.mono m⟩
  exact k w _ v _ p l2 (s1.trans s2) (rw'.mono s2.mv)
def gAppend : List W → List W → (List W → W → Prop) → Prop := fun ws as P => match as with
  | [y] => ws.length < sizeLine ∧ P (ws ++ [y]) .non
  | _ => False
theorem mg_append : MtG rAppend gAppend := by
  intro K Lv H l ws as vs us P Q h hl rs ra k
  unfold gAppend at h
  split at h
  · cases ra with
    | cons r1 r2 =>
      cases r2
      exact ⟨l, vs, _, rfl, rfl, hl, by rw [← rs.length]; exact h.1, k _ _ _ _ h.2 (rs.append (.cons r1 .nil)) .non⟩
  · exact h.elim
abbrev rInsert : V → List V → Hp → VK → Prop := fun x vs H Q => ∃ (l : Addr) (xs : List V) (i : Int) (y : V), x = .ref l ∧ vs = [.int i, y] ∧ H l = some (.lst xs) ∧ xs.length < sizeLine ∧ 0 ≤ i ∧ i < 2 ^ 63 ∧
    Q .non (upd H l (.lst (xs.take i.toNat ++ [y] ++ xs.drop i.toNat)))
def gInsert : List W → List W → (List W → W → Prop) → Prop := fun ws as P => match as with
  | [.int i, y] => ws.length < sizeLine ∧ 0 ≤ i ∧ i < 2 ^ 63 ∧ P (ws.take i.toNat ++ [y] ++ ws.drop i.toNat) .non
  | _ => False
theorem mg_insert : MtG rInsert gInsert := by
  intro K Lv H l ws as vs us P Q h hl rs ra k
  unfold gInsert at h
  split at h
  · cases ra with
    | cons r1 r2 =>
      cases r1
      cases r2 with
      | cons r2 r3 =>
        cases r3
        exact ⟨l, vs, _, _, rfl, rfl, hl, by rw [← rs.length]; exact h.1, h.2.1, h.2.2.1, k _ _ _ _ h.2.2.2 (((rs.take _).append (.cons r2 .nil)).append (rs.drop _)) .non⟩
  · exact h.elim
def gExtend : List W → List W → (List W → W → Prop) → Prop := fun ws as P => match as with
  | [.lst ys] => ws.length + ys.length ≤ sizeLine ∧ P (ws ++ ys) .non
  | _ => False
theorem mg_extend : MtG rExtend gExtend := by
  intro K Lv H l ws as vs us P Q h hl rs ra k
  unfold gExtend at h
  split at h
  · cases ra with
    | cons r1 r2 =>
      cases r2
      cases r1 with
      | lst f r => exact ⟨l, _, vs, _, rfl, rfl, hl, f.1, by rw [← rs.length, ← r.length]; exact h.1, k _ _ _ _ h.2 (rs.append r) .non⟩
  · exact h.elim
def setW (ws : List W) (i : Int) (y : W) (P : List W → Prop) : Prop := match ixN ws.length i with
  | some j => P (ws.set j y)
  | none => False
theorem setW_inv {ws : List W} {i : Int} {y : W} {P : List W → Prop} (h : setW ws i y P) : ∃ j, ixN ws.length i = some j ∧ P (ws.set j y) := by
  unfold setW at h
  split at h
  · exact ⟨_, by assumption, h⟩
  · exact h.elim
theorem RelWs.set {K : PySem.W.Frag} {Lv : Addr → Prop} {H : Hp} {y : W} {v : V} (r : RelW K Lv H y v) : ∀ {ws : List W} {vs : List V} (j : Nat), RelWs K Lv H ws vs → RelWs K Lv H (ws.set j y) (vs.set j v)
  | _, _, _, .nil => .nil
  | _, _, 0, .cons _ t => .cons r t
  | _, _, j + 1, .cons q t => .cons q (RelWs.set r j t)
/-- of an owned list -/
def sIxO (j : Nat) (ii ie : IE) : IS := fun EI D st => ie EI st fun w st1 => ownL st1 j fun _ => ii EI st1 fun y st2 => ownL st2 j fun ws => match y with
  | .int k => setW ws k w fun ws' => D.nx (st2.put j (.own (.lst ws')))
  | _ => False
theorem s_ixO (j : Nat) {px tp : Pos} {ii ie : IE} {b : Expr} (he : PE X e (LE X.K F Wx ie)) (hi : PE X b (LE X.K F Wx ii)) (hN : X.N[j]? = some x := by rfl) (hv : Vis X.env.scope x := by first | exact Or.inl rfl | exact Or.inr (Or.inl rfl) | exact Or.inr (Or.inr rfl)) (hd : (x == ("__debug__" : Str)) = false := by decide)
    (hcd : (x == ("__classdict__" : Str)) = false := by decide) (hs : swapsWithSole [.Subscript (.Name x px) b tp] e pos.line X.env = pure false := by rfl) (hw : swappedStores [.Subscript (.Name x px) b tp] e X.env = pure none := by rfl)
    (h1 : (assignEach [.Subscript (.Name x px) b tp] X.env).map (·.2) = [assign (.Subscript (.Name x px) b tp) X.env] := by rfl)
    (ha : ∀ v, assign (.Subscript (.Name x px) b tp) X.env v = (do
      let ov ← holding [v] (eval (.Name x px) X.env)
      let iv ← holding [v, ov] (eval b X.env)
      standAt tp
      holding [v, ov, iv] (setItem ov iv v)
      release [v, ov, iv] []) := by intro _; rfl) :
    PS X (.Assign [.Subscript (.Name x px) b tp] e pos) (LS X.K F Wx (sIxO j ii ie)) := ps_imp (ps_asg he (pg_sub (pe_var hN hv hd hcd) hi set_list ha) hs hw h1) fun D σ H h => by
  obtain ⟨st, DI, EI, l, q, u⟩ := h
  refine ⟨st, _, EI, l, q, u.x, fun w st1 v H1 q1 l1 s1 r1 => ?_⟩
  obtain ⟨ws0, e0, q1⟩ := ownL_inv q1
  obtain ⟨b', eb, _⟩ := l1.own j _ e0
  refine ⟨.ref b', eb, st1, _, EI, l1, q1, u.x.step s1, fun y st2 v2 H2 q2 l2 s2 r2 => ?_⟩
  obtain ⟨ws, e1, q2⟩ := ownL_inv q2
  obtain ⟨b2, eb2, ⟨vs, hv1, rs⟩, _⟩ := l2.own j _ e1
  rw [eb] at eb2
  cases eb2
  split at q2
  · cases r2
    obtain ⟨jj, ej, p⟩ := setW_inv q2
    refine ⟨b', vs, _, jj, rfl, rfl, hv1, by rw [← rs.length]; exact ej, ?_⟩
    have la : Live F st2 σ b' := .inl (.inr ⟨j, _, e1, eb⟩)
    have m : Mv (Live F st2 σ) H2 (Live F st2 σ) (upd H2 b' (.lst (vs.set jj v))) := Mv.write la fun _ z => z
    obtain ⟨l3, s3⟩ := l2.write (o' := .lst (ws.set jj w)) (u := .lst (vs.set jj v)) e1 eb ⟨_, upd_same, (rs.set (r1.mono s2.mv) jj).mono m⟩
    exact u.nx _ _ _ p l3 ((s1.trans s2).trans s3)
  · exact q2.elim
/-- a list of the store, by a name -/
def stoL (st : Stt) (j : Nat) (P : Addr → List W → Prop) : Prop := match st.ρ[j]? with
  | some (.val (.ref a)) => (match st.S a with
    | some (.lst ws) => P a ws
    | _ => False)
  | _ => False
theorem stoL_inv {st : Stt} {j : Nat} {P : Addr → List W → Prop} (h : stoL st j P) : ∃ a ws, st.ρ[j]? = some (.val (.ref a)) ∧ st.S a = some (.lst ws) ∧ P a ws := by
  unfold stoL at h
  split at h
  · split at h
    · exact ⟨_, _, by assumption, by assumption, h⟩
    · exact h.elim
  · exact h.elim
def sIxS (j : Nat) (ii ie : IE) : IS := fun EI D st => ie EI st fun w st1 => stoL st1 j fun _ _ => ii EI st1 fun y st2 => stoL st2 j fun a ws => match y with
  | .int k => setW ws k w fun ws' => D.nx (st2.puts a (.lst ws'))
  | _ => False
theorem s_ixS (j : Nat) {px tp : Pos} {ii ie : IE} {b : Expr} (he : PE X e (LE X.K F Wx ie)) (hi : PE X b (LE X.K F Wx ii)) (hN : X.N[j]? = some x := by rfl) (hv : Vis X.env.scope x := by first | exact Or.inl rfl | exact Or.inr (Or.inl rfl) | exact Or.inr (Or.inr rfl)) (hd : (x == ("__debug__" : Str)) = false := by decide)
    (hcd : (x == ("__classdict__" : Str)) = false := by decide) (hs : swapsWithSole [.Subscript (.Name x px) b tp] e pos.line X.env = pure false := by rfl) (hw : swappedStores [.Subscript (.Name x px) b tp] e X.env = pure none := by rfl)
    (h1 : (assignEach [.Subscript (.Name x px) b tp] X.env).map (·.2) = [assign (.Subscript (.Name x px) b tp) X.env] := by rfl)
    (ha : ∀ v, assign (.Subscript (.Name x px) b tp) X.env v = (do
      let ov ← holding [v] (eval (.Name x px) X.env)
      let iv ← holding [v, ov] (eval b X.env)
      standAt tp
      holding [v, ov, iv] (setItem ov iv v)
      release [v, ov, iv] []) := by intro _; rfl) :
    PS X (.Assign [.Subscript (.Name x px) b tp] e pos) (LS X.K F Wx (sIxS j ii ie)) := ps_imp (ps_asg he (pg_sub (pe_var hN hv hd hcd) hi set_list ha) hs hw h1) fun D σ H h => by
  obtain ⟨st, DI, EI, l, q, u⟩ := h
  refine ⟨st, _, EI, l, q, u.x, fun w st1 v H1 q1 l1 s1 r1 => ?_⟩
  obtain ⟨a0, ws0, e0, _, q1⟩ := stoL_inv q1
  obtain ⟨v0, ev, r0⟩ := l1.val j _ e0
  cases r0
  refine ⟨.ref a0, ev, st1, _, EI, l1, q1, u.x.step s1, fun y st2 v2 H2 q2 l2 s2 r2 => ?_⟩
  obtain ⟨a1, ws, e1, es, q2⟩ := stoL_inv q2
  obtain ⟨v1, ev1, r1'⟩ := l2.val j _ e1
  rw [ev] at ev1
  cases ev1
  cases r1'
  split at q2
  · cases r2
    obtain ⟨jj, ej, p⟩ := setW_inv q2
    obtain ⟨vs, hv1, rs⟩ := l2.sto _ _ es
    refine ⟨a0, vs, _, jj, rfl, rfl, hv1, by rw [← rs.length]; exact ej, ?_⟩
    have la : Live F st2 σ a0 := .inl (.inl (by rw [es]; exact fun z => nomatch z))
    have m : Mv (Live F st2 σ) H2 (Live F st2 σ) (upd H2 a0 (.lst (vs.set jj v))) := Mv.write la fun _ z => z
    obtain ⟨l3, s3⟩ := l2.writeS (o' := .lst (ws.set jj w)) (u := .lst (vs.set jj v)) es ⟨_, upd_same, (rs.set (r1.mono s2.mv) jj).mono m⟩
    exact u.nx _ _ _ p l3 ((s1.trans s2).trans s3)
  · exact q2.elim
/-- xs[i] += e, a list of the store, numbers, i not below 0 -/
def rGetL : V → V → Hp → VK → Prop := fun x y H Q => ∃ p xs i v, x = .ref p ∧ y = .int i ∧ H p = some (.lst xs) ∧ 0 ≤ i ∧ i < 2 ^ 62 ∧ xs[i.toNat]? = some v ∧ Q v H
theorem get_list : PGet X rGetL := by
  intro pins s σ H x y v u Q I rx ry h
  obtain ⟨p, xs, i, z, rfl, rfl, hp, h0, h1, hz, q⟩ := h
  cases rx
  obtain ⟨t, rfl⟩ := ry
  obtain ⟨its, r, pl, _⟩ := I.list (SqL.of hp)
  obtain ⟨w, ew, rw'⟩ := r.get hz
  exact wpAny_getItem_list pl.isList h0 (by omega) (by simpa using ew) ⟨z, H, I, rw', q⟩
def sAugS (j : Nat) (f : Int → Int → Int) (ii ie : IE) : IS := fun EI D st => stoL st j fun _ _ => ii EI st fun y st1 => stoL st1 j fun _ ws => match y with
  | .int k => 0 ≤ k ∧ k < 2 ^ 62 ∧ (match ws[k.toNat]? with
    | some (.int n) => ie EI st1 fun z st2 => stoL st2 j fun a ws2 => (match z with
      | .int m => setW ws2 k (.int (f n m)) fun ws' => D.nx (st2.puts a (.lst ws'))
      | _ => False)
    | _ => False)
  | _ => False
theorem s_augS (j : Nat) {px tp : Pos} {ii ie : IE} {b : Expr} {op : Operator} {f : Int → Int → Int} (ho : PIp X op (ipI f)) (he : PE X e (LE X.K F Wx ie)) (hi : PE X b (LE X.K F Wx ii)) (hN : X.N[j]? = some x := by rfl) (hv : Vis X.env.scope x := by first | exact Or.inl rfl | exact Or.inr (Or.inl rfl) | exact Or.inr (Or.inr rfl)) (hd : (x == ("__debug__" : Str)) = false := by decide)
    (hcd : (x == ("__classdict__" : Str)) = false := by decide) (ha : ∀ ov iv new, augStore b ov iv new = (do holding [new, ov, iv] (setItem ov iv new); release [new, ov, iv] []; pure .next) := by intros; rfl) :
    PS X (.AugAssign (.Subscript (.Name x px) b tp) op e pos) (LS X.K F Wx (sAugS j f ii ie)) := ps_imp (ps_augS (pe_var hN hv hd hcd) hi get_list he ho set_list ha) fun D σ H h => by
  obtain ⟨st, DI, EI, l, q, u⟩ := h
  obtain ⟨a0, ws0, e0, _, q⟩ := stoL_inv q
  obtain ⟨v0, ev, r0⟩ := l.val j _ e0
  cases r0
  refine ⟨.ref a0, ev, st, _, EI, l, q, u.x, fun y st1 v1 H1 q1 l1 s1 r1 => ?_⟩
  obtain ⟨a1, ws1, e1, es1, q1⟩ := stoL_inv q1
  obtain ⟨v1', ev1, r1'⟩ := l1.val j _ e1
  rw [ev] at ev1
  cases ev1
  cases r1'
  split at q1
  · cases r1
    obtain ⟨hk0, hk1, q1⟩ := q1
    split at q1
    · rename_i m ew
      obtain ⟨vs1, hv1, rs1⟩ := l1.sto _ _ es1
      obtain ⟨z1, ez, rz⟩ := rs1.get ew
      cases rz
      refine ⟨a0, vs1, _, .int m, rfl, rfl, hv1, hk0, hk1, ez, st1, _, EI, l1, q1, u.x.step s1, fun z st2 v2 H2 q2 l2 s2 r2 => ?_⟩
      obtain ⟨a2, ws2, e2, es2, q2⟩ := stoL_inv q2
      obtain ⟨v2', ev2, r2'⟩ := l2.val j _ e2
      rw [ev] at ev2
      cases ev2
      cases r2'
      split at q2
      · rename_i m2
        cases r2
        obtain ⟨jj, ej, p⟩ := setW_inv q2
        obtain ⟨vs, hv2, rs⟩ := l2.sto _ _ es2
        refine ⟨_, _, rfl, rfl, a0, vs, _, jj, rfl, rfl, hv2, by rw [← rs.length]; exact ej, ?_⟩
        have la : Live F st2 σ a0 := .inl (.inl (by rw [es2]; exact fun z => nomatch z))
        have key : ∀ c : Int, Lk X.K F (st2.puts a0 (.lst (ws2.set jj (.int c)))) σ (upd H2 a0 (.lst (vs.set jj (.int c)))) ∧ Step st2 σ H2 (st2.puts a0 (.lst (ws2.set jj (.int c)))) σ (upd H2 a0 (.lst (vs.set jj (.int c)))) := fun c => by
          have m' : Mv (Live F st2 σ) H2 (Live F st2 σ) (upd H2 a0 (.lst (vs.set jj (.int c)))) := Mv.write la fun _ z => z
          exact l2.writeS es2 ⟨_, upd_same, (rs.set (.int c) jj).mono m'⟩
        obtain ⟨l3, s3⟩ := key _
        exact u.nx _ _ _ p l3 ((s1.trans s2).trans s3)
      · exact q2.elim
    · exact q1.elim
  · exact q1.elim
def gLen : List W → (W → Prop) → Prop := fun ws P => match ws with
  | [.str y] => y.length ≤ sizeLine ∧ P (.int y.length)
  | [.tup ys] => P (.int ys.length)
  | [.lst ys] => P (.int ys.length)
  | [.scr ns] => P (.int ns.length)
  | _ => False
theorem bt_len {K : PySem.W.Frag} : BtG K (fun xs H Q => ∃ x n, xs = [x] ∧ LenV K x H n ∧ Q (.int n) H) gLen := by
  intro F st σ H ws vs P Q h l r k
  unfold gLen at h
  split at h
  · cases r with
    | cons r1 r2 =>
      cases r2
      cases r1
      exact ⟨_, _, rfl, ⟨h.1, rfl⟩, k _ _ H h.2 l .refl (.int _)⟩
  · cases r with
    | cons r1 r2 =>
      cases r2
      cases r1 with
      | tup f rs => exact ⟨_, _, rfl, .inr ⟨_, f.sq, rfl⟩, by rw [← rs.length]; exact k _ _ H h l .refl (.int _)⟩
  · cases r with
    | cons r1 r2 =>
      cases r2
      cases r1 with
      | lst f rs => exact ⟨_, _, rfl, .inl ⟨_, f.sq, rfl⟩, by rw [← rs.length]; exact k _ _ H h l .refl (.int _)⟩
  · cases r with
    | cons r1 r2 =>
      cases r2
      cases r1 with
      | scr f => exact ⟨_, _, rfl, .inl ⟨_, f.sq, rfl⟩, by rw [List.length_map]; exact k _ _ H h l .refl (.int _)⟩
  · exact h.elim
theorem i_len (hm : X.mg "len" = none) (ha : PA X (e :: es) (LA X.K F Wx n i)) (hg : Gl X "len" := by rfl) (he : starEach (e :: es) X.env = (false, eval e X.env) :: starEach es X.env := by rfl) (hpl : (backTo pos (starEach es X.env)).any (·.1) = false := by rfl) :
    PE X (.Call (.Name "len" p) (e :: es) [] pos) (LE X.K F Wx (iFn gLen i)) := i_fn call_len bt_len hm PySem.boot_len ha hg (by decide) (by decide) he hpl
/-- len of an owned list -/
def iLenO (j : Nat) : IE := fun _ st Q => ownL st j fun ws => Q (.int ws.length) st
theorem i_lenO (j : Nat) {px : Pos} (hm : X.mg "len" = none) (hN : X.N[j]? = some x := by rfl) (hv : Vis X.env.scope x := by first | exact Or.inl rfl | exact Or.inr (Or.inl rfl) | exact Or.inr (Or.inr rfl)) (hd : (x == ("__debug__" : Str)) = false := by decide)
    (hcd : (x == ("__classdict__" : Str)) = false := by decide) (hg : Gl X "len" := by rfl) (he : starEach [.Name x px] X.env = (false, eval (.Name x px) X.env) :: starEach [] X.env := by rfl) (hpl : (backTo pos (starEach [] X.env)).any (·.1) = false := by rfl) :
    PE X (.Call (.Name "len" p) [.Name x px] [] pos) (LE X.K F Wx (iLenO j)) := pe_imp (pe_callB call_len hg hm PySem.boot_len (pa_cons (pe_var hN hv hd hcd) pa_nil he) (by decide) (by decide) he hpl) fun σ H Q h => by
  obtain ⟨st, QI, EI, l, q, ux, k⟩ := h
  obtain ⟨ws, e0, q⟩ := ownL_inv q
  obtain ⟨b, eb, ⟨vs, hv, rs⟩, _⟩ := l.own j _ e0
  exact ⟨.ref b, eb, _, _, rfl, .inl ⟨_, SqL.of hv, rfl⟩, by rw [← rs.length]; exact k _ _ _ H q l .refl (.int _)⟩
def gAbs : List W → (W → Prop) → Prop := fun ws P => match ws with
  | [.int j] => P (.int (if j < 0 then -j else j))
  | _ => False
theorem bt_abs {K : PySem.W.Frag} : BtG K (fun xs H Q => ∃ i, xs = [.int i] ∧ Q (.int (if i < 0 then -i else i)) H) gAbs := by
  intro F st σ H ws vs P Q h l r k
  unfold gAbs at h
  split at h
  · cases r with
    | cons r1 r2 =>
      cases r2
      cases r1
      exact ⟨_, rfl, k _ _ H h l .refl (.int _)⟩
  · exact h.elim
theorem boot_abs' : bootBuiltins "abs" = some (.builtin "abs") := by decide +kernel
theorem i_abs (hm : X.mg "abs" = none) (ha : PA X (e :: es) (LA X.K F Wx n i)) (hg : Gl X "abs" := by rfl) (he : starEach (e :: es) X.env = (false, eval e X.env) :: starEach es X.env := by rfl) (hpl : (backTo pos (starEach es X.env)).any (·.1) = false := by rfl) :
    PE X (.Call (.Name "abs" p) (e :: es) [] pos) (LE X.K F Wx (iFn gAbs i)) := i_fn call_abs bt_abs hm boot_abs' ha hg (by decide) (by decide) he hpl
def gInt : List W → (W → Prop) → Prop := fun ws P => match ws with
  | [.int j] => P (.int j)
  | [.bl k] => P (.int (if k then 1 else 0))
  | _ => False
theorem bt_int {K : PySem.W.Frag} : BtG K (fun xs H Q => (∃ i, xs = [.int i] ∧ Q (.int i) H) ∨ ∃ k, xs = [.bl k] ∧ Q (.int (if k then 1 else 0)) H) gInt := by
  intro F st σ H ws vs P Q h l r k
  unfold gInt at h
  split at h
  · cases r with
    | cons r1 r2 =>
      cases r2
      cases r1
      exact .inl ⟨_, rfl, k _ _ H h l .refl (.int _)⟩
  · cases r with
    | cons r1 r2 =>
      cases r2
      cases r1
      exact .inr ⟨_, rfl, k _ _ H h l .refl (.int _)⟩
  · exact h.elim
theorem boot_int' : bootBuiltins "int" = some (.type "int") := by decide +kernel
theorem i_toint (hm : X.mg "int" = none) (ha : PA X (e :: es) (LA X.K F Wx n i)) (hg : Gl X "int" := by rfl) (he : starEach (e :: es) X.env = (false, eval e X.env) :: starEach es X.env := by rfl) (hpl : (backTo pos (starEach es X.env)).any (·.1) = false := by rfl) :
    PE X (.Call (.Name "int" p) (e :: es) [] pos) (LE X.K F Wx (iFn gInt i)) := i_ty call_int1 bt_int hm boot_int' ha hg (by decide) (by decide) he hpl
def gMinMax (f : Int → Int → Int) : List W → (W → Prop) → Prop := fun ws P => match ws with
  | [.int a, .int b] => P (.int (f a b))
  | _ => False
theorem bt_mm {K : PySem.W.Frag} {f : Int → Int → Int} : BtG K (fun xs H Q => ∃ i j, xs = [.int i, .int j] ∧ Q (.int (f i j)) H) (gMinMax f) := by
  intro F st σ H ws vs P Q h l r k
  unfold gMinMax at h
  split at h
  · cases r with
    | cons r1 r2 =>
      cases r1
      cases r2 with
      | cons r2 r3 =>
        cases r2
        cases r3
        exact ⟨_, _, rfl, k _ _ H h l .refl (.int _)⟩
  · exact h.elim
theorem boot_min' : bootBuiltins "min" = some (.builtin "min") := by decide +kernel
theorem boot_max' : bootBuiltins "max" = some (.builtin "max") := by decide +kernel
theorem i_max2 (hm : X.mg "max" = none) (ha : PA X (e :: es) (LA X.K F Wx n i)) (hc : X.calm = true := by rfl) (hg : Gl X "max" := by rfl) (he : starEach (e :: es) X.env = (false, eval e X.env) :: starEach es X.env := by rfl) (hpl : (backTo pos (starEach es X.env)).any (·.1) = false := by rfl) :
    PE X (.Call (.Name "max" p) (e :: es) [] pos) (LE X.K F Wx (iFn (gMinMax fun i j => if j > i then j else i) i)) := i_fn (call_max2 hc) bt_mm hm boot_max' ha hg (by decide) (by decide) he hpl
theorem i_min2 (hm : X.mg "min" = none) (ha : PA X (e :: es) (LA X.K F Wx n i)) (hc : X.calm = true := by rfl) (hg : Gl X "min" := by rfl) (he : starEach (e :: es) X.env = (false, eval e X.env) :: starEach es X.env := by rfl) (hpl : (backTo pos (starEach es X.env)).any (·.1) = false := by rfl) :
    PE X (.Call (.Name "min" p) (e :: es) [] pos) (LE X.K F Wx (iFn (gMinMax fun i j => if j < i then j else i) i)) := i_fn (call_min2 hc) bt_mm hm boot_min' ha hg (by decide) (by decide) he hpl
/-- list(x), tuple(x) -/
def gList : List W → (W → Prop) → Prop := fun ws P => match ws with
  | [.lst ys] => P (.lst ys)
  | [.tup ys] => P (.lst ys)
  | _ => False
theorem bt_list {K : PySem.W.Frag} : BtG K (fun xs H Q => ∃ p ys, xs = [.ref p] ∧ (SqL K H p ys ∨ SqT K H p ys) ∧ ∀ l, H l = none → Q (.ref l) (upd H l (.lst ys))) gList := by
  intro F st σ H ws vs P Q h l r k
  have key : ∀ (ys : List W) (us : List V), RelWs K (Live F st σ) H ys us → P (.lst ys) → ∀ q, H q = none → Q (.ref q) (upd H q (.lst us)) := fun ys us rs p q hq => by
    have s := Step.laid (o := .lst us) l hq
    exact k _ _ _ p (l.laid hq) s (.lst (FzL.new l hq) (rs.mono s.mv))
  unfold gList at h
  split at h
  · cases r with
    | cons r1 r2 =>
      cases r2
      cases r1 with
      | lst f rs => exact ⟨_, _, rfl, .inl f.sq, key _ _ rs h⟩
  · cases r with
    | cons r1 r2 =>
      cases r2
      cases r1 with
      | tup f rs => exact ⟨_, _, rfl, .inr f.sq, key _ _ rs h⟩
  · exact h.elim
theorem boot_list' : bootBuiltins "list" = some (.type "list") := by decide +kernel
theorem boot_tuple' : bootBuiltins "tuple" = some (.type "tuple") := by decide +kernel
theorem i_list (hm : X.mg "list" = none) (ha : PA X (e :: es) (LA X.K F Wx n i)) (hg : Gl X "list" := by rfl) (he : starEach (e :: es) X.env = (false, eval e X.env) :: starEach es X.env := by rfl) (hpl : (backTo pos (starEach es X.env)).any (·.1) = false := by rfl) :
    PE X (.Call (.Name "list" p) (e :: es) [] pos) (LE X.K F Wx (iFn gList i)) := i_ty call_list_of bt_list hm boot_list' ha hg (by decide) (by decide) he hpl
def gTuple : List W → (W → Prop) → Prop := fun ws P => match ws with
  | [.lst ys] => P (.tup ys)
  | [.tup ys] => P (.tup ys)
  | _ => False
theorem bt_tuple {K : PySem.W.Frag} : BtG K (fun xs H Q => ∃ p ys, xs = [.ref p] ∧ ((SqL K H p ys ∧ ∀ l, H l = none → Q (.ref l) (upd H l (.tup ys))) ∨ (SqT K H p ys ∧ Q (.ref p) H))) gTuple := by
  intro F st σ H ws vs P Q h l r k
  unfold gTuple at h
  split at h
  · cases r with
    | cons r1 r2 =>
      cases r2
      cases r1 with
      | lst f rs =>
        rename_i us
        refine ⟨_, us, rfl, .inl ⟨f.sq, fun q hq => ?_⟩⟩
        have s := Step.laid (o := .tup us) l hq
        exact k _ _ _ h (l.laid hq) s (.tup (FzT.new l hq) (rs.mono s.mv))
  · cases r with
    | cons r1 r2 =>
      cases r2
      cases r1 with
      | tup f rs => exact ⟨_, _, rfl, .inr ⟨f.sq, k _ _ H h l .refl (.tup f rs)⟩⟩
  · exact h.elim
theorem i_tuple (hm : X.mg "tuple" = none) (ha : PA X (e :: es) (LA X.K F Wx n i)) (hg : Gl X "tuple" := by rfl) (he : starEach (e :: es) X.env = (false, eval e X.env) :: starEach es X.env := by rfl) (hpl : (backTo pos (starEach es X.env)).any (·.1) = false := by rfl) :
    PE X (.Call (.Name "tuple" p) (e :: es) [] pos) (LE X.K F Wx (iFn gTuple i)) := i_ty call_tuple_of bt_tuple hm boot_tuple' ha hg (by decide) (by decide) he hpl
/-- list(range(a)) -/
def iListRg (ia : IE) : IE := fun EI st Q => ia EI st fun x st1 => match x with
  | .int j => 0 ≤ j ∧ j ≤ 16777216 ∧ Q (.lst (rng 0 j.toNat)) st1
  | _ => False
theorem rng_rel {K : PySem.W.Frag} {Lv : Addr → Prop} {H : Hp} (lo hi : Int) : RelWs K Lv H (rng lo (hi - lo).toNat) (rgV lo hi) := by
  unfold rng rgV
  generalize (hi - lo).toNat = n
  induction (List.range n) with
  | nil => exact .nil
  | cons i l ih => exact .cons (.int _) ih
theorem i_listRg {p2 pos2 : Pos} (hm : X.mg "list" = none) (hm2 : X.mg "range" = none) (ha : PE X a (LE X.K F Wx ia)) (hc : X.calm = true := by rfl) (hg : Gl X "list" := by rfl) (hg2 : Gl X "range" := by rfl) (n1 : starEach [a] X.env = (false, eval a X.env) :: starEach [] X.env := by rfl)
    (na : starEach [.Call (.Name "range" p2) [a] [] pos2] X.env = (false, eval (.Call (.Name "range" p2) [a] [] pos2) X.env) :: starEach [] X.env := by rfl) : PE X (.Call (.Name "list" p) [.Call (.Name "range" p2) [a] [] pos2] [] pos) (LE X.K F Wx (iListRg ia)) := by
  refine pe_imp (pe_listRg hc hg hm (prg_1 hg2 hm2 ha n1) na) fun σ H Q h => ?_
  obtain ⟨st, QI, EI, l, q, ux, k⟩ := h
  refine ⟨st, _, EI, l, q, ux, fun x st1 v H1 q1 l1 s1 r1 => ?_⟩
  split at q1
  · rename_i j
    cases r1
    refine ⟨_, rfl, RgOk.of_le (by decide) q1.2.1 (by decide) q1.1, fun q hq => ?_⟩
    have s := Step.laid (o := .lst (rgV 0 j)) l1 hq
    have e1 : (j - 0).toNat = j.toNat := by rw [Int.sub_zero]
    have rr := rng_rel (K := X.K) (Lv := Live F st1 σ) (H := upd H1 q (.lst (rgV 0 j))) 0 j
    rw [e1] at rr
    exact k _ _ _ _ q1.2.2 (l1.laid hq) (s1.trans s) (.lst (FzL.new l1 hq) rr)
  · exact q1.elim
/-- all(..), any(..) of truths -/
def blsOf : List W → Option (List Bool)
  | [] => some []
  | .bl b :: ws => (blsOf ws).map (b :: ·)
  | _ => none
theorem bls_rel {K : PySem.W.Frag} {Lv : Addr → Prop} {H : Hp} : ∀ {ws : List W} {vs : List V} {bs : List Bool}, blsOf ws = some bs → RelWs K Lv H ws vs → vs = bs.map V.bl := by
  intro ws
  induction ws with
  | nil =>
    intro vs bs e r
    cases r
    cases e
    rfl
  | cons w ws ih =>
    intro vs bs e r
    cases r with
    | cons h r =>
      cases w with
      | bl b =>
        cases h
        unfold blsOf at e
        cases q : blsOf ws with
        | none => rw [q] at e; cases e
        | some bs =>
          rw [q] at e
          cases e
          rw [ih q r]
          rfl
      | _ => cases e
def gAll (f : List Bool → Bool) : List W → (W → Prop) → Prop := fun ws P => match ws with
  | [.lst ys] => (match blsOf ys with
    | some bs => P (.bl (f bs))
    | none => False)
  | _ => False
theorem bt_all {K : PySem.W.Frag} {f : List Bool → Bool} : BtG K (fun vs H Q => ∃ (a : Addr) (bs : List Bool), vs = [V.ref a] ∧ SqL K H a (bs.map V.bl) ∧ Q (.bl (f bs)) H) (gAll f) := by
  intro F st σ H ws vs P Q h l r k
  unfold gAll at h
  split at h
  · split at h
    · rename_i bs eb
      cases r with
      | cons r1 r2 =>
        cases r2
        cases r1 with
        | lst fz rs =>
          have e := bls_rel eb rs
          subst e
          exact ⟨_, bs, rfl, fz.sq, k _ _ H h l .refl (.bl _)⟩
    · exact h.elim
  · exact h.elim
theorem boot_all' : bootBuiltins "all" = some (.builtin "all") := by decide +kernel
theorem boot_any' : bootBuiltins "any" = some (.builtin "any") := by decide +kernel
theorem i_all (hm : X.mg "all" = none) (ha : PA X (e :: es) (LA X.K F Wx n i)) (hc : X.calm = true := by rfl) (hg : Gl X "all" := by rfl) (he : starEach (e :: es) X.env = (false, eval e X.env) :: starEach es X.env := by rfl) (hpl : (backTo pos (starEach es X.env)).any (·.1) = false := by rfl) :
    PE X (.Call (.Name "all" p) (e :: es) [] pos) (LE X.K F Wx (iFn (gAll fun bs => bs.all _root_.id) i)) := i_fn (cr_all hc) bt_all hm boot_all' ha hg (by decide) (by decide) he hpl
theorem i_any (hm : X.mg "any" = none) (ha : PA X (e :: es) (LA X.K F Wx n i)) (hc : X.calm = true := by rfl) (hg : Gl X "any" := by rfl) (he : starEach (e :: es) X.env = (false, eval e X.env) :: starEach es X.env := by rfl) (hpl : (backTo pos (starEach es X.env)).any (·.1) = false := by rfl) :
    PE X (.Call (.Name "any" p) (e :: es) [] pos) (LE X.K F Wx (iFn (gAll fun bs => bs.any _root_.id) i)) := i_fn (cr_any hc) bt_all hm boot_any' ha hg (by decide) (by decide) he hpl
/-- ints in a list -/
def intsOf : List W → Option (List Int)
  | [] => some []
  | .int b :: ws => (intsOf ws).map (b :: ·)
  | _ => none
theorem ints_rel {K : PySem.W.Frag} {Lv : Addr → Prop} {H : Hp} : ∀ {ws : List W} {vs : List V} {bs : List Int}, intsOf ws = some bs → RelWs K Lv H ws vs → vs = bs.map V.int := by
  intro ws
  induction ws with
  | nil =>
    intro vs bs e r
    cases r
    cases e
    rfl
  | cons w ws ih =>
    intro vs bs e r
    cases r with
    | cons h r =>
      cases w with
      | int b =>
        cases h
        unfold intsOf at e
        cases q : intsOf ws with
        | none => rw [q] at e; cases e
        | some bs =>
          rw [q] at e
          cases e
          rw [ih q r]
          rfl
      | _ => cases e
def gSum : List W → (W → Prop) → Prop := fun ws P => match ws with
  | [.lst ys] => (match intsOf ys with
    | some ns => P (.int ns.sum)
    | none => False)
  | _ => False
theorem bt_sum {K : PySem.W.Frag} : BtG K (rSum K) gSum := by
  intro F st σ H ws vs P Q h l r k
  unfold gSum at h
  split at h
  · split at h
    · rename_i bs eb
      cases r with
      | cons r1 r2 =>
        cases r2
        cases r1 with
        | lst fz rs =>
          have e := ints_rel eb rs
          subst e
          exact ⟨_, bs, rfl, fz.sq, k _ _ H h l .refl (.int _)⟩
    · exact h.elim
  · exact h.elim
theorem boot_sum' : bootBuiltins "sum" = some (.builtin "sum") := by decide +kernel
theorem i_sum (hm : X.mg "sum" = none) (ha : PA X (e :: es) (LA X.K F Wx n i)) (hc : X.calm = true := by rfl) (hg : Gl X "sum" := by rfl) (he : starEach (e :: es) X.env = (false, eval e X.env) :: starEach es X.env := by rfl) (hpl : (backTo pos (starEach es X.env)).any (·.1) = false := by rfl) :
    PE X (.Call (.Name "sum" p) (e :: es) [] pos) (LE X.K F Wx (iFn gSum i)) := i_fn (cr_sum hc) bt_sum hm boot_sum' ha hg (by decide) (by decide) he hpl
def tyN : W → Option String
  | .non => some "NoneType"
  | .bl _ => some "bool"
  | .int _ => some "int"
  | .str _ => some "str"
  | .tup _ => some "tuple"
  | .lst _ => some "list"
  | .dct _ => some "dict"
  | _ => none
def gIsi : List W → (W → Prop) → Prop := fun ws P => match ws with
  | [x, .ty T] => (match tyN x with
    | some S => (match kitB S T with
      | some b => P (.bl b)
      | none => False)
    | none => False)
  | _ => False
theorem tyx_of {K : PySem.W.Frag} {Lv : Addr → Prop} {H : Hp} {w : W} {v : V} {S : String} (e : tyN w = some S) (r : RelW K Lv H w v) : TyX K H v (.type S) := by
  cases r with
  | non => cases e; exact .base .non
  | bl b => cases e; exact .base (.bl b)
  | int j => cases e; exact .base (.int j)
  | str y => cases e; exact .base (.str y)
  | tup f rs =>
    cases e
    rcases f with ⟨f | ⟨o, f⟩, _⟩ | ⟨o, _, _, h1, h2, _⟩
    · exact .base (.tup f)
    · exact .fTuple f
    · exact .kTuple h1 h2
  | lst f rs => cases e; exact .base (.lst f.1)
  | dct f n rs => cases e; exact .base (.dK f)
  | ty => cases e
  | ref => cases e
  | obj f n rs => cases e
  | scr f => cases e
theorem bt_isi {K : PySem.W.Frag} : BtG K (rIsi K) gIsi := by
  intro F st σ H ws vs P Q h l r k
  unfold gIsi at h
  split at h
  · split at h
    · rename_i S eS
      split at h
      · rename_i b eb
        cases r with
        | cons r1 r2 =>
          cases r2 with
          | cons r2 r3 =>
            cases r2
            cases r3
            exact ⟨_, _, _, _, b, rfl, .ty _, tyx_of eS r1, kit_ty eb, k _ _ H h l .refl (.bl _)⟩
      · exact h.elim
    · exact h.elim
  · exact h.elim
theorem boot_isi' : bootBuiltins "isinstance" = some (.builtin "isinstance") := by decide +kernel
theorem i_isi (hm : X.mg "isinstance" = none) (ha : PA X (e :: es) (LA X.K F Wx n i)) (hg : Gl X "isinstance" := by rfl) (he : starEach (e :: es) X.env = (false, eval e X.env) :: starEach es X.env := by rfl) (hpl : (backTo pos (starEach es X.env)).any (·.1) = false := by rfl) :
    PE X (.Call (.Name "isinstance" p) (e :: es) [] pos) (LE X.K F Wx (iFn gIsi i)) := i_fn call_isi bt_isi hm boot_isi' ha hg (by decide) (by decide) he hpl
/-- a built-in type as a value -/
theorem i_tyv {T : String} (hm : X.mg x = none) (hv : bootBuiltins x = some (.type T)) (hg : Gl X x := by rfl) (hn : x ≠ "__name__" := by decide) (hdb : (x == ("__debug__" : Str)) = false := by decide) : PE X (.Name x pos) (LE X.K F Wx (iC (.ty T))) := i_c (pe_bltn (v := .ty T) hg hm hv rfl hn hdb) fun _ _ => .ty T
def RepOk (w : W) : Prop := okD 60 w = true ∧ (toD w).showable = true ∧ (toD w).shown.length ≤ sizeLine
def gRepr : List W → (W → Prop) → Prop := fun ws P => match ws with
  | [w] => RepOk w ∧ P (.str (toD w).shown)
  | _ => False
def rRepr (K : PySem.W.Frag) : List V → Hp → VK → Prop := fun vs H Q => ∃ (v : V) (d : PyData), vs = [v] ∧ Dp K H v d ∧ d.canLay0 = true ∧ d.depth ≤ 60 ∧ d.showable = true ∧ d.shown.length ≤ sizeLine ∧ Q (.str d.shown) H
theorem cr_repr (hgd : X.A.guards = some []) (hu : X.A.units + 64 < cLine) : CallR X (.builtin "repr") (rRepr X.K) := by
  intro pins s σ H xs us Q I r h
  obtain ⟨v, d, rfl, hd, hl, hdp, hs, hz, q⟩ := h
  obtain ⟨u, rfl, ru⟩ := vals1 r
  cases hd with
  | non => cases ru; exact PySem.P.repr_of_none ⟨.str _, H, I.tok _, ⟨_, rfl⟩, q⟩
  | bl b => cases ru; exact PySem.P.repr_of_bool ⟨.str _, H, I.tok _, ⟨_, rfl⟩, q⟩
  | int j =>
    obtain ⟨t, rfl⟩ := ru
    exact PySem.P.repr_of_int (of_decide_eq_true hs) ⟨.str _, H, I.tok _, ⟨_, rfl⟩, q⟩
  | str y =>
    obtain ⟨t, rfl⟩ := ru
    exact PySem.P.repr_of_str ⟨.str _, H, I.tok _, ⟨_, rfl⟩, q⟩ hz
  | lst f rs =>
    cases ru
    obtain ⟨as, rr⟩ := Dp.reads I _ _ _ (.lst f rs) rfl
    exact repr_of_reads' rr hs (PyData.noDict_hsm (PyData.hasDict_of_canLay _ hl)) hgd (by omega) (fun _ _ e => e) (fun h' u tk hk => ⟨.str _, H, I.kept hk, ⟨_, rfl⟩, q⟩) hz
  | tup f rs =>
    cases ru
    obtain ⟨as, rr⟩ := Dp.reads I _ _ _ (.tup f rs) rfl
    exact repr_of_reads' rr hs (PyData.noDict_hsm (PyData.hasDict_of_canLay _ hl)) hgd (by omega) (fun _ _ e => e) (fun h' u tk hk => ⟨.str _, H, I.kept hk, ⟨_, rfl⟩, q⟩) hz
theorem bt_repr {K : PySem.W.Frag} : BtG K (rRepr K) gRepr := by
  intro F st σ H ws vs P Q h l r k
  unfold gRepr at h
  split at h
  · cases r with
    | cons r1 r2 =>
      cases r2
      obtain ⟨⟨h1, h2, h3⟩, p⟩ := h
      obtain ⟨h4, h5⟩ := lay_of _ h1
      exact ⟨_, _, rfl, dp_of _ h1 r1, h4, h5, h2, h3, k _ _ H p l .refl (.str _)⟩
  · exact h.elim
theorem boot_repr' : bootBuiltins "repr" = some (.builtin "repr") := by decide +kernel
theorem i_repr (hgd : X.A.guards = some []) (hu : X.A.units + 64 < cLine) (hm : X.mg "repr" = none) (ha : PA X (e :: es) (LA X.K F Wx n i)) (hg : Gl X "repr" := by rfl) (he : starEach (e :: es) X.env = (false, eval e X.env) :: starEach es X.env := by rfl) (hpl : (backTo pos (starEach es X.env)).any (·.1) = false := by rfl) :
    PE X (.Call (.Name "repr" p) (e :: es) [] pos) (LE X.K F Wx (iFn gRepr i)) := i_fn (cr_repr hgd hu) bt_repr hm boot_repr' ha hg (by decide) (by decide) he hpl
end
end Sh
namespace Sh
open PySem L2
open PyProof.Rows hiding St
abbrev S0 : Sto := fun _ => none
theorem live0 {a : Addr} : ¬ Live (fun _ => False) ⟨[], S0⟩ [] a := fun z => Or.elim z (fun z => Or.elim z (fun z => z rfl) ow_nil) _root_.id
theorem lk0 {K : PySem.W.Frag} {H : Hp} : Lk K (fun _ => False) ⟨[], S0⟩ [] H :=
  ⟨rfl, fun i w e => by simp at e, fun i o e => by simp at e, fun i j o o' a e => by simp at e, fun a o e => (nomatch (show (none : Option SO) = some o from e)), fun _ z => False.elim z, fun _ z => False.elim z⟩
theorem scr_of {K : PySem.W.Frag} {H : Hp} {a : Addr} {ns : List Int} (h : SqL K H a (ns.map V.int)) : RelW K (Live (fun _ => False) ⟨[], S0⟩ []) H (.scr ns) (.ref a) := by
  refine .scr ?_
  rcases h with (h | ⟨o, h⟩) | h
  · exact .inr (.inl ⟨h, live0⟩)
  · exact .inl ⟨⟨o, h⟩, live0⟩
  · exact .inr (.inr h)
/-- a law's spec at the script -/
theorem law_sp {K : PySem.W.Frag} {H : Hp} {a : Addr} {ns : List Int} {spec : ISp} (hS : SqL K H a (ns.map V.int)) (h : spec [.scr ns] S0 (fun r _ => r = .val (.bl true)) fun _ _ => False) : spI K 1 spec [.ref a] H (fun v _ => v = .bl true) fun _ _ _ => False := by
  refine ⟨fun _ => False, S0, [.scr ns], _, _, lk0, .cons (scr_of hS) .nil, rfl, h, fun r S' v H' q ok => ?_, fun _ _ _ _ _ z => False.elim z⟩
  have e : r = .val (.bl true) := q
  subst e
  obtain ⟨_, _, rv⟩ := ok
  cases rv
  rfl
theorem CX_none {P : Program} {w : World} {l : List Env} {H : Hp} {s : Shared} {e : Value} {s' : Shared} : ¬ L2.CX P w l H s (fun _ _ _ => False) e s' := fun ⟨_, _, _, _, _, _, _, _, _, _, _, _, z⟩ => z
section
variable {P : Program} {w : World} {K : PySem.W.Frag} {mg mb : Str → Option Value} {k : Nat} {fa a : Addr} {fd : FuncData} {x : Str} {sp : Sp} {sA : Shared} {us : List Value} {ns : List Int}
/-- the call of the law over an abstract heap that tracks the script at most -/
theorem law_at {H : Hp} (kin : K.In sA.heap) (gl : sA.heap.Ns mainGlobals mg) (bl : sA.heap.Ns builtinsNs mb) (bb : ∀ y : Str, y ≠ "__name__" → mb y = bootBuiltins y) (lim' : sA.heap.NoLimit) (gens : sA.gens = #[])
    (obj : sA.heap.get? a = some { cls := .type "list", data := .seq us.toArray }) (room : Room k callerA)
    (G : ∀ base : Heap, K.In base → base.Ns mainGlobals mg → FnG P w K mg base k fa fd [x] sp) (bd : ∀ (s : Shared) (u : Value), BindsTo s fd ⟨[u], []⟩ [(x, u)])
    (q : sp [.ref a] H (fun v _ => v = .bl true) fun _ _ _ => False) (only : Only H) (held : HOk P w H sA.heap) (mine : ∀ b, H b ≠ none → b = a) (out : H a ≠ none → K.lookup a = none) :
    codeAny (model P w) callerA (.call (.ref fa) ⟨[.ref a], []⟩) (fun r s' => r = .ok (.ret (.bool true)) ∧ OldK sA.heap s'.heap ∧ s'.os = sA.os ∧ AllBare s'.gens) sA := by
  -- what is a dict is not the script
  have nd : ∀ {b : Addr} {o : Obj} {ds : Array DictEntry} {m : Nat}, sA.heap.get? b = some o → o.data = .dict ds m → H b = none := fun {b o ds m} e d => by
    refine Classical.byContradiction fun z => ?_
    rw [mine b z, obj] at e
    cases e
    exact nomatch (show Data.seq us.toArray _ = Data.dict ds m from d)
  have ns' : ∀ {b : Addr} {f : Str → Option Value}, sA.heap.Ns b f → (hidT sA.heap H).Ns b f := fun {b f} ⟨o, ds, m, e, d, r⟩ => ⟨o, ds, m, hidT_get e (nd e d), d, r⟩
  have kb : K.In (hidT sA.heap H) := fun b o e => by
    refine hidT_get (kin b o e) (Classical.byContradiction fun z => ?_)
    have eb := mine b z
    rw [eb] at z e
    rw [out z] at e
    cases e
  obtain ⟨mc, c1, c2⟩ := lim'
  have md : Mod K mg (hidT sA.heap H) := ⟨kb, ns' gl, ⟨mb, ns' bl, bb⟩, ⟨mc, ns' c1, c2⟩⟩
  have en : Env0 P w K mg (hidT sA.heap H) callerA [] sA H := ⟨rfl, md, fun _ _ e => of_hidT e, Nat.le_of_eq (hidT_size _ _), trivial, fun b z => (nomatch (show b ∈ ([] : List Addr) from z)), held, .of_eq gens⟩
  refine codeAny_mono ((G _ kb (ns' gl)).go (us := [.ref a]) (vs := [.ref a]) room rfl en (bd sA _) (.cons rfl .nil) q) fun r s' h => ?_
  cases r with
  | error e => exact (CX_none h).elim
  | ok fl =>
    cases fl with
    | ret u =>
      obtain ⟨v, H', os, bare, un, held', rv, e⟩ := h
      have ev : v = .bl true := e
      subst ev
      have eu : u = Value.bool true := rv
      subst eu
      refine ⟨rfl, OldK.of_keep fun b o eb => ?_, os, bare⟩
      rcases only b with z | ⟨ob, xs, z⟩
      · exact un.keep b o eb z (fun y => (nomatch (show b ∈ ([] : List Addr) from y))) (fun y => nomatch y)
      · have e1 := (held b _ z).1
        rw [eb] at e1
        cases e1
        exact (held' b _ (un.frzs b o _ z)).1
    | next => exact h.elim
    | brk => exact h.elim
    | cont => exact h.elim
theorem law_go {spec : ISp} (kin : K.In sA.heap) (gl : sA.heap.Ns mainGlobals mg) (bl : sA.heap.Ns builtinsNs mb) (bb : ∀ y : Str, y ≠ "__name__" → mb y = bootBuiltins y) (lim' : sA.heap.NoLimit) (gens : sA.gens = #[])
    (obj : sA.heap.get? a = some { cls := .type "list", data := .seq us.toArray }) (ints' : IntsAre us ns) (len : ns.length ≤ sizeLine) (room : Room k callerA)
    (G : ∀ base : Heap, K.In base → base.Ns mainGlobals mg → FnG P w K mg base k fa fd [x] (spI K 1 spec)) (bd : ∀ (s : Shared) (u : Value), BindsTo s fd ⟨[u], []⟩ [(x, u)])
    (h : spec [.scr ns] S0 (fun r _ => r = .val (.bl true)) fun _ _ => False) :
    codeAny (model P w) callerA (.call (.ref fa) ⟨[.ref a], []⟩) (fun r s' => r = .ok (.ret (.bool true)) ∧ OldK sA.heap s'.heap ∧ s'.os = sA.os ∧ AllBare s'.gens) sA := by
  have rel := vals_ints ints'
  have len2 : us.length = ns.length := ints'.length
  cases e : K.lookup a with
  | some o =>
    have eo := (kin a o e).symm.trans obj
    cases eo
    have sq : SqL K (fun _ => none) a (ns.map V.int) := .inr ⟨_, us.toArray, _, e, rfl, rfl, rfl, by rw [List.size_toArray, len2]; exact len, by simpa using rel⟩
    exact law_at kin gl bl bb lim' gens obj room G bd (law_sp sq h) (fun _ => .inl rfl) (fun b u z => nomatch (show (none : Option HO) = some u from z)) (fun b z => (z rfl).elim) fun z => (z rfl).elim
  | none =>
    let H : Hp := upd (fun _ => none) a (.frz { cls := .type "list", data := .seq us.toArray } (.lst (ns.map V.int)))
    have at_a : H a = some (.frz { cls := .type "list", data := .seq us.toArray } (.lst (ns.map V.int))) := upd_same
    have off : ∀ b, b ≠ a → H b = none := fun b z => upd_ne z
    refine law_at (H := H) kin gl bl bb lim' gens obj room G bd (law_sp (.inl (.inr ⟨_, at_a⟩)) h) (fun b => ?_) (fun b u z => ?_) (fun b z => ?_) fun _ => e
    · by_cases q : b = a
      · rw [q]; exact .inr ⟨_, _, at_a⟩
      · exact .inl (off b q)
    · by_cases q : b = a
      · subst q
        rw [at_a] at z
        cases z
        exact ⟨obj, by rw [List.length_map]; exact len, us, _, rel, obj⟩
      · rw [off b q] at z
        cases z
    · exact Classical.byContradiction fun q => z (off b q)
end
/-- THE END of a law -/
theorem walkG {l : PySem.W.OpenLaw} {n k : Nat} {q : Program} {loose : List Str} {XP : (Str → Option Value) → Heap → Prop} {YP : World → Heap → Prop} {d : DefRec} {x : Str} (hn : l.most = some n) (hn2 : n ≤ sizeLine) (hdf : d.params.defaults = []) (room : Room k callerA)
    (T : ∀ (w : World) (mg : Str → Option Value) (fa : Addr) (h : Heap), YP w h → h.Ns mainGlobals mg → mg d.name = some (.ref fa) → ∃ (K : PySem.W.Frag) (fd : FuncData) (spec : ISp), K.In h ∧ (∀ (s : Shared) (u : Value), BindsTo s fd ⟨[u], []⟩ [(x, u)]) ∧
      (∀ ns : List Int, ns.length ≤ n → spec [.scr ns] S0 (fun r _ => r = .val (.bl true)) fun _ _ => False) ∧ ∀ base : Heap, K.In base → base.Ns mainGlobals mg → FnG l.prog w K mg base k fa fd [x] (spI K 1 spec)) :
    PySem.W.WalkO q loose XP YP l.row.toRowW d [] (fun f vs => PySem.call f vs) :=
  Att.attach_call hn hdf fun w s₀ s₁ mg mb fa o pm cd doc a vs ns G Y ho hd hcd hmg hobj hints hlen hg => by
    obtain ⟨K, fd, spec, kin, bd, sp, F⟩ := T w mg fa _ Y G.T.g hmg
    exact law_go kin G.T.g G.T.b G.T.builtins G.T.nolimit hg hobj hints (Nat.le_trans hlen hn2) room F bd (sp ns hlen)
end Sh
namespace Sh
open PySem L2
open PyProof.Rows hiding St
section
variable {K : PySem.W.Frag} {F : Addr → Prop} {st : Stt} {σ : L2.St} {H : Hp} {a : Addr} {o : SO}
theorem live_pub : ∀ b, Live F (st.puts a o) σ b → Live (FA F a) st σ b := fun b z => by
  rcases z with (z | z) | z
  · by_cases e : b = a
    · exact .inr (.inr e)
    · refine .inl (.inl ?_)
      have q : (st.puts a o).S b = st.S b := Sto.put_ne e
      rw [q] at z
      exact z
  · exact .inl (.inr z)
  · exact .inr (.inl z)
/-- a new object goes into the store -/
theorem Lk.publish (l : Lk K (FA F a) st σ H) (r : RelO K (Live (FA F a) st σ) H a o) (nF : ¬ F a) : Lk K F (st.puts a o) σ H := by
  have m : Mv (Live (FA F a) st σ) H (Live F (st.puts a o) σ) H := mv_same live_pub
  refine ⟨l.len, fun i w e => ?_, fun i o' e => ?_, l.inj, fun b o' e => ?_, fun b z => l.ftr b (.inl z), fun b z => ?_⟩
  · obtain ⟨v, e1, r1⟩ := l.val i w e
    exact ⟨v, e1, r1.mono m⟩
  · obtain ⟨b, e1, r1, n1, n2⟩ := l.own i o' e
    refine ⟨b, e1, r1.move (fun _ q => q) m, ?_, fun z => n2 (.inl z)⟩
    have ne : b ≠ a := fun z => n2 (.inr z)
    exact (Sto.put_ne ne).trans n1
  · by_cases q : b = a
    · subst q
      have e2 : some o = some o' := Eq.trans (Sto.put_same (S := st.S)).symm e
      cases e2
      exact r.move (fun _ q => q) m
    · have e2 : st.S b = some o' := (Sto.put_ne q).symm.trans e
      exact (l.sto b o' e2).move (fun _ q => q) m
  · have ne : b ≠ a := fun q => nF (q ▸ z)
    exact (Sto.put_ne ne).trans (l.fdis b (.inl z))
theorem Step.publish {st0 : Stt} {σ0 : L2.St} {H0 : Hp} (s : Step st0 σ0 H0 st σ H) (n : NewAt st0 σ0 H0 a) : Step st0 σ0 H0 (st.puts a o) σ H :=
  ⟨s.keep, fun b z => by
    rcases z with z | z
    · by_cases e : b = a
      · rw [e]; exact n
      · have q : (st.puts a o).S b = st.S b := Sto.put_ne e
        rw [q] at z
        exact s.new b (.inl z)
    · exact s.new b (.inr z)⟩
end
section
variable {X : Cx} {F : Addr → Prop} {Wx : WX} {a b c e : Expr} {es : List Expr} {pos : Pos} {ia ib ic : IE} {nn : IN}
/-- x = a new object that is handed about: it goes into the store -/
def sSetP (i : Nat) (nn : IN) : IS := fun EI D st => nn EI st fun o st1 => ∀ a, st1.S a = none → D.nx ((st1.puts a o).put i (.val (.ref a)))
theorem setP_of {K : PySem.W.Frag} {i : Nat} {D : Ends} {σ : L2.St} {H : Hp} (h : LS K F Wx (sSetP i nn) D σ H) : tAsg (LN K F Wx nn) (gName i) D σ H := by
  obtain ⟨st, DI, EI, l, q, u⟩ := h
  exact ⟨st, _, EI, l, q, u.x, fun o st1 a H1 q1 l1 s1 r1 n1 => u.nx _ _ H1 (q1 a (l1.fdis a (.inr rfl))) ((l1.publish r1 (NewAt.nf l n1)).put (.ref a)) ((Step.publish s1 n1).trans Step.put)⟩
theorem s_setP (i : Nat) {x : Str} {pos' : Pos} (hN : X.N.Nodup) (ha : PE X a (LN X.K F Wx nn)) (hi : X.N[i]? = some x := by rfl) (hx : Loc X.env.scope x := by first | exact Or.inl rfl | exact Or.inr rfl) (hs : swapsWith a (some (.Name x pos')) pos.line X.env = pure false := by rfl)
    (hf : X.fn x = true ∨ X.env.scope.names.lookup x = some .local := by first | exact .inl rfl | exact .inr rfl | assumption) : PS X (.Assign [.Name x pos'] a pos) (LS X.K F Wx (sSetP i nn)) := ps_imp (ps_set hN hi hx ha hs hf) fun _ _ _ h => setP_of h
end
theorem boot_bool' : bootBuiltins "bool" = some (.type "bool") := by decide +kernel
theorem boot_str' : bootBuiltins "str" = some (.type "str") := by decide +kernel
theorem boot_dict' : bootBuiltins "dict" = some (.type "dict") := by decide +kernel
structure Df (K : PySem.W.Frag) (mg : Str → Option Value) (x : Str) (s : Stmt) : Prop where
  ex : ∃ f fd, FunD K x x (defArgs s) (defBody s) (defScope s) [] [] f fd ∧ mg x = some (.ref f)
structure Cal (P : Program) (w : World) (K : PySem.W.Frag) (mg : Str → Option Value) (base : Heap) (x : Str) (k n : Nat) (spec : ISp) : Prop where
  ex : ∃ f fd ps, FnG P w K mg base k f fd ps (spI K n spec) ∧ mg x = some (.ref f) ∧ PySem.W.keepIn K (.ref f) = true ∧ Binds K fd ps []
section
variable {P : Program} {w : World} {K : PySem.W.Frag} {mg : Str → Option Value} {base : Heap} {x : Str} {k n : Nat}
theorem Cal.spec {sp sp' : ISp} (C : Cal P w K mg base x k n sp) (h : ∀ ws S Q E, sp' ws S Q E → sp ws S Q E) : Cal P w K mg base x k n sp' := by
  obtain ⟨f, fd, ps, G, r⟩ := C.ex
  exact ⟨f, fd, ps, G.spec h, r⟩
theorem Cal.up {sp : ISp} {k' : Nat} (C : Cal P w K mg base x k n sp) (h : k ≤ k') : Cal P w K mg base x k' n sp := by
  obtain ⟨f, fd, ps, G, r⟩ := C.ex
  exact ⟨f, fd, ps, G.up h, r⟩
/-- a def of the module keeps what its body does -/
theorem calI {s : Stmt} {N ps : List Str} {ib : IS} (D : Df K mg x s) (Sc : FnScope N ps (defScope s))
    (bd : ∀ (kV doc pm : Value) (an : Option Addr) (cdv ct : Value) (us : List Value), us.length = ps.length → bindArgs (PySem.W.fnOf x x (defArgs s) (defBody s) (defScope s) .none kV doc pm an cdv ct) ⟨us, []⟩ = pure (ps.zip us))
    (hb : ∀ (f : Addr) (cdv : Value) (A : Around) (outer : List Env) (s' : Shared) (H : Hp) (E : XK), Room k (A.deeper (envOfC x (defScope s) s'.heap.objs.size f cdv)) → A.guards = some [] → ∀ (F : Addr → Prop) (Wx : WX), Takes (cxOf (L2.CX P w) P w K mg base N x (defScope s) f cdv A outer s' H E) Wx →
      PSs (cxOf (L2.CX P w) P w K mg base N x (defScope s) f cdv A outer s' H E) (defBody s) (LS K F Wx ib)) : Cal P w K mg base x (k + 1) ps.length (bodyI N.length ib) := by
  obtain ⟨f, fd, Fd, hm⟩ := D.ex
  exact ⟨f, fd, ps, fnI Fd Sc (hb f), hm, Fd.kp, Fd.bindsN bd⟩
end
section
variable {X : Cx} {F : Addr → Prop} {Wx : WX} {e : Expr} {es : List Expr} {pos p : Pos} {k' n : Nat} {spec : ISp} {x : Str} {i : IA}
theorem i_cal (C : Cal X.prog X.w X.K X.mg X.base x k' n spec) (hr : Room k' X.A) (hgd : X.A.guards = some []) (tk : Takes X Wx) (ha : PA X (e :: es) (LA X.K F Wx n i)) (hg : Gl X x := by rfl) (hdb : (x == ("__debug__" : Str)) = false := by decide)
    (he : starEach (e :: es) X.env = (false, eval e X.env) :: starEach es X.env := by rfl) (hpl : (backTo pos (starEach es X.env)).any (·.1) = false := by rfl) : PE X (.Call (.Name x p) (e :: es) [] pos) (LE X.K F Wx (iCall spec i)) := by
  obtain ⟨f, fd, ps, G, hm, hk, hb⟩ := C.ex
  exact i_call G hr hgd tk hm hk hb ha hg hdb he hpl
theorem n_cal (C : Cal X.prog X.w X.K X.mg X.base x k' n spec) (hr : Room k' X.A) (hgd : X.A.guards = some []) (tk : Takes X Wx) (ha : PA X (e :: es) (LA X.K F Wx n i)) (hg : Gl X x := by rfl) (hdb : (x == ("__debug__" : Str)) = false := by decide)
    (he : starEach (e :: es) X.env = (false, eval e X.env) :: starEach es X.env := by rfl) (hpl : (backTo pos (starEach es X.env)).any (·.1) = false := by rfl) : PE X (.Call (.Name x p) (e :: es) [] pos) (LN X.K F Wx (nCall spec i)) := by
  obtain ⟨f, fd, ps, G, hm, hk, hb⟩ := C.ex
  exact n_call G hr hgd tk hm hk hb ha hg hdb he hpl
theorem i_cal0 (C : Cal X.prog X.w X.K X.mg X.base x k' 0 spec) (hr : Room k' X.A) (hgd : X.A.guards = some []) (tk : Takes X Wx) (hg : Gl X x := by rfl) (hdb : (x == ("__debug__" : Str)) = false := by decide) : PE X (.Call (.Name x p) [] [] pos) (LE X.K F Wx (iCall spec iNil)) := by
  obtain ⟨f, fd, ps, G, hm, hk, hb⟩ := C.ex
  exact i_call0 G hr hgd tk hm hk hb hg hdb
theorem n_cal0 (C : Cal X.prog X.w X.K X.mg X.base x k' 0 spec) (hr : Room k' X.A) (hgd : X.A.guards = some []) (tk : Takes X Wx) (hg : Gl X x := by rfl) (hdb : (x == ("__debug__" : Str)) = false := by decide) : PE X (.Call (.Name x p) [] [] pos) (LN X.K F Wx (nCall spec iNil)) := by
  obtain ⟨f, fd, ps, G, hm, hk, hb⟩ := C.ex
  exact n_call0 G hr hgd tk hm hk hb hg hdb
end
end Sh
namespace Sh
open PySem L2
open PyProof.Rows hiding St
mutual
def kvB (K : PySem.W.Frag) : Nat → Value → W → Bool
  | _, .none, .non => true
  | _, .bool b, .bl c => b == c
  | _, .int i _, .int j => i == j
  | _, .str x _, .str y => x == y
  | n + 1, .ref a, .tup ws => (match K.lookup a with
    | some ⟨.type c, _, .seq its _, _⟩ => decide (c = "tuple") && (decide (its.size ≤ sizeLine) && kvsB K n its.toList ws)
    | _ => false)
  | _, _, _ => false
def kvsB (K : PySem.W.Frag) : Nat → List Value → List W → Bool
  | _, [], [] => true
  | n, v :: vs, w :: ws => kvB K n v w && kvsB K n vs ws
  | _, _, _ => false
end
def KvOk (K : PySem.W.Frag) (u : Value) (w : W) : Prop := ∃ v : V, RelV v u ∧ ∀ Lv H, RelW K Lv H w v
theorem kvsB_ok {K : PySem.W.Frag} {n : Nat} (ih : ∀ u w, kvB K n u w = true → KvOk K u w) : ∀ (us : List Value) (ws : List W), kvsB K n us ws = true → ∃ vs, Vals vs us ∧ ∀ Lv H, RelWs K Lv H ws vs
  | [], [], _ => ⟨[], .nil, fun _ _ => .nil⟩
  | [], _ :: _, h => by simp [kvsB] at h
  | _ :: _, [], h => by simp [kvsB] at h
  | u :: us, w :: ws, h => by
    have h2 : (kvB K n u w && kvsB K n us ws) = true := by unfold kvsB at h; exact h
    rw [Bool.and_eq_true] at h2
    obtain ⟨v, r, q⟩ := ih u w h2.1
    obtain ⟨vs, rs, qs⟩ := kvsB_ok ih us ws h2.2
    exact ⟨v :: vs, .cons r rs, fun Lv H => .cons (q Lv H) (qs Lv H)⟩
theorem kvB_ok {K : PySem.W.Frag} : ∀ {n : Nat} (u : Value) (w : W), kvB K n u w = true → KvOk K u w := by
  intro n
  induction n with
  | zero =>
    intro u w h
    cases u <;> cases w <;> first
      | exact ⟨.non, rfl, fun _ _ => .non⟩
      | (unfold kvB at h; rw [beq_iff_eq] at h; subst h; first | exact ⟨.bl _, rfl, fun _ _ => .bl _⟩ | exact ⟨.int _, ⟨_, rfl⟩, fun _ _ => .int _⟩ | exact ⟨.str _, ⟨_, rfl⟩, fun _ _ => .str _⟩)
      | (simp [kvB] at h; done)
  | succ n ih =>
    intro u w h
    cases u <;> cases w <;> first
      | exact ⟨.non, rfl, fun _ _ => .non⟩
      | (unfold kvB at h; rw [beq_iff_eq] at h; subst h; first | exact ⟨.bl _, rfl, fun _ _ => .bl _⟩ | exact ⟨.int _, ⟨_, rfl⟩, fun _ _ => .int _⟩ | exact ⟨.str _, ⟨_, rfl⟩, fun _ _ => .str _⟩)
      | (simp [kvB] at h; done)
      | skip
    rename_i a ws
    unfold kvB at h
    split at h
    · rename_i c _ its _ _ q
      rw [Bool.and_eq_true, Bool.and_eq_true] at h
      obtain ⟨h1, h2, h3⟩ := h
      obtain ⟨vs, rs, qs⟩ := kvsB_ok ih _ _ h3
      exact ⟨.ref a, rfl, fun Lv H => .tup (.inr ⟨_, its, _, q, congrArg Value.type (of_decide_eq_true h1), rfl, of_decide_eq_true h2, rs⟩) (qs Lv H)⟩
    · cases h
/-- a name of the module stands for w -/
def Kc (K : PySem.W.Frag) (mg : Str → Option Value) (x : Str) (w : W) : Prop := ∃ u, mg x = some u ∧ KvOk K u w
def kcB (K : PySem.W.Frag) (x : Str) (w : W) : Bool := match PySem.W.nsIn K mainGlobals x with
  | some (some u) => kvB K 9 u w
  | _ => false
theorem kcB_ok {K : PySem.W.Frag} {h : Heap} {mg : Str → Option Value} (X : K.In h) (G : h.Ns mainGlobals mg) {x : Str} {w : W} (c : kcB K x w = true) : Kc K mg x w := by
  unfold kcB at c
  split at c
  · rename_i u e
    exact ⟨u, PySem.W.mg_of X G e, kvB_ok u w c⟩
  · cases c
section
variable {X : Cx} {F : Addr → Prop} {Wx : WX} {a b c e : Expr} {pos : Pos} {ia ib : IE} {x : Str} {w : W}
theorem i_k (k : Kc X.K X.mg x w) (hg : Gl X x := by rfl) (hd : (x == ("__debug__" : Str)) = false := by decide) : PE X (.Name x pos) (LE X.K F Wx (iC w)) := by
  obtain ⟨u, hm, v, r, q⟩ := k
  exact i_c (pe_glob hg hm r hd) q
end
def rowsB (K : PySem.W.Frag) : List DictEntry → List (Str × W) → Bool
  | [], [] => true
  | e :: es, (k, w) :: r => e.key.isStr k && (kvB K 9 e.val w && rowsB K es r)
  | _, _ => false
def kdB (K : PySem.W.Frag) (x : Str) (tbl : List (Str × W)) : Bool := match PySem.W.nsIn K mainGlobals x with
  | some (some (.ref d)) => decide (d = He.ga K x) && (match K.lookup d with
    | some ⟨_, _, .dict es _, _⟩ => rowsB K es.toList tbl
    | _ => false)
  | _ => false
theorem isStr_inv {v : Value} {x : Str} (h : v.isStr x = true) : ∃ t, v = .str x t := by
  unfold Value.isStr at h
  split at h
  · rw [beq_iff_eq] at h; subst h; exact ⟨_, rfl⟩
  · cases h
theorem rows_find {K : PySem.W.Frag} (z : Str) : ∀ (es : List DictEntry) (tbl : List (Str × W)), rowsB K es tbl = true → es.any (·.refKey) = false ∧
    ((tbl.lookup z = none ∧ es.find? (·.key.isStr z) = none) ∨ ∃ w e, tbl.lookup z = some w ∧ es.find? (·.key.isStr z) = some e ∧ KvOk K e.val w)
  | [], [], _ => ⟨rfl, .inl ⟨rfl, rfl⟩⟩
  | [], _ :: _, h => by simp [rowsB] at h
  | _ :: _, [], h => by simp [rowsB] at h
  | e :: es, (k, w) :: r, h => by
    have h2 : (e.key.isStr k && (kvB K 9 e.val w && rowsB K es r)) = true := h
    rw [Bool.and_eq_true, Bool.and_eq_true] at h2
    obtain ⟨h1, hv, hr⟩ := h2
    obtain ⟨t, ek⟩ := isStr_inv h1
    obtain ⟨i1, i2⟩ := rows_find z es r hr
    have nr : e.refKey = false := by unfold DictEntry.refKey; rw [ek]
    have es' : e.key.isStr z = (k == z) := by rw [ek]; rfl
    refine ⟨by rw [List.any_cons, nr, i1]; rfl, ?_⟩
    by_cases q : k = z
    · subst q
      refine .inr ⟨w, e, ?_, ?_, kvB_ok _ _ hv⟩
      · rw [List.lookup_cons]; simp
      · rw [List.find?_cons_of_pos (by rw [es']; simp)]
    · have l : List.lookup z ((k, w) :: r) = List.lookup z r := by
        rw [List.lookup_cons]
        have : (z == k) = false := by rw [beq_eq_false_iff_ne]; exact fun y => q y.symm
        rw [this]
      have f : (e :: es).find? (·.key.isStr z) = es.find? (·.key.isStr z) := List.find?_cons_of_neg (by rw [es']; simpa using q)
      rw [l, f]
      exact i2
structure Kd (K : PySem.W.Frag) (w : World) (mg : Str → Option Value) (x : Str) (tbl : List (Str × W)) : Prop where
  ex : ∃ d es n, mg x = some (.ref d) ∧ KDict K w d es n ∧ ∀ z, (tbl.lookup z = none ∧ PySem.W.nsIn K d z = some none) ∨ ∃ wv u, tbl.lookup z = some wv ∧ PySem.W.nsIn K d z = some (some u) ∧ KvOk K u wv
theorem kdB_ok {K : PySem.W.Frag} {h : Heap} {wd : World} {mg : Str → Option Value} (X : K.In h) (G : h.Ns mainGlobals mg) {x : Str} {tbl : List (Str × W)} (c : kdB K x tbl = true) (t : ∃ es n, KDict K wd (He.ga K x) es n) : Kd K wd mg x tbl := by
  unfold kdB at c
  split at c
  · rename_i d e
    rw [Bool.and_eq_true] at c
    obtain ⟨c1, c2⟩ := c
    have ed := of_decide_eq_true c1
    obtain ⟨es, n, D⟩ := t
    rw [← ed] at D
    refine ⟨d, es, n, PySem.W.mg_of X G e, D, fun z => ?_⟩
    rw [D.at_] at c2
    obtain ⟨i1, i2⟩ := rows_find z es.toList tbl c2
    have en : PySem.W.nsIn K d z = match es.toList.find? (·.key.isStr z) with
      | some e => some (some e.val)
      | none => if es.toList.any (·.refKey) then none else some none := by
      unfold PySem.W.nsIn
      rw [D.at_]
      rfl
    rcases i2 with ⟨l, f⟩ | ⟨w, e', l, f, k⟩
    · rw [f, i1] at en
      exact .inl ⟨l, en⟩
    · rw [f] at en
      exact .inr ⟨w, e'.val, l, en, k⟩
  · cases c
section
variable {X : Cx} {F : Addr → Prop} {Wx : WX} {a b c e : Expr} {pos p : Pos} {ia ib : IE} {x : Str} {tbl : List (Str × W)}
/-- word in TABLE -/
def tKdIn (neg : Bool) (tbl : List (Str × W)) (ia : IE) : IT := fun EI st Q => ia EI st fun v st1 => match v with
  | .str z => Q (if neg then !(tbl.lookup z).isSome else (tbl.lookup z).isSome) st1
  | _ => False
theorem kd_in {K : PySem.W.Frag} {neg : Bool} {d : Addr} {r : R2} (hr : ∀ z b H Q, ((∃ y, PySem.W.nsIn K d z = some y ∧ b = if neg then !y.isSome else y.isSome)) → Q (.bl b) H → r (.str z) (.ref d) H Q)
    (h : ∀ z, (tbl.lookup z = none ∧ PySem.W.nsIn K d z = some none) ∨ ∃ wv u, tbl.lookup z = some wv ∧ PySem.W.nsIn K d z = some (some u) ∧ KvOk K u wv) {σ : L2.St} {H : Hp} {Q : Bool → Hp → Prop} (q : LT K F Wx (tKdIn neg tbl ia) σ H Q) :
    tOp r (LE K F Wx ia) (tC (.ref d)) σ H fun x H' => ∃ k, x = .bl k ∧ Q k H' := by
  obtain ⟨st, QI, EI, l, q, ux, k⟩ := q
  refine ⟨st, _, EI, l, q, ux, fun w st1 v H1 q1 l1 s1 r1 => ?_⟩
  split at q1
  · rename_i z
    cases r1
    refine hr z _ H1 _ ?_ ⟨_, rfl, k _ st1 H1 q1 l1 s1⟩
    rcases h z with ⟨e1, e2⟩ | ⟨w, u, e1, e2, _⟩
    · exact ⟨none, e2, by rw [e1]; rfl⟩
    · exact ⟨some u, e2, by rw [e1]; rfl⟩
  · exact q1.elim
theorem kd_inE {K : PySem.W.Frag} {neg : Bool} {d : Addr} {r : R2} (hr : ∀ z b H Q, ((∃ y, PySem.W.nsIn K d z = some y ∧ b = if neg then !y.isSome else y.isSome)) → Q (.bl b) H → r (.str z) (.ref d) H Q)
    (h : ∀ z, (tbl.lookup z = none ∧ PySem.W.nsIn K d z = some none) ∨ ∃ wv u, tbl.lookup z = some wv ∧ PySem.W.nsIn K d z = some (some u) ∧ KvOk K u wv) {σ : L2.St} {H : Hp} {Q : VK} (q : LT K F Wx (tKdIn neg tbl ia) σ H fun b H' => Q (.bl b) H') :
    tOp r (LE K F Wx ia) (tC (.ref d)) σ H Q := by
  obtain ⟨st, QI, EI, l, q, ux, k⟩ := q
  refine ⟨st, _, EI, l, q, ux, fun w st1 v H1 q1 l1 s1 r1 => ?_⟩
  split at q1
  · rename_i z
    cases r1
    refine hr z _ H1 _ ?_ (k _ st1 H1 q1 l1 s1)
    rcases h z with ⟨e1, e2⟩ | ⟨w, u, e1, e2, _⟩
    · exact ⟨none, e2, by rw [e1]; rfl⟩
    · exact ⟨some u, e2, by rw [e1]; rfl⟩
  · exact q1.elim
theorem t_kdin (k : Kd X.K X.w X.mg x tbl) (ha : PE X a (LE X.K F Wx ia)) (hg : Gl X x := by rfl) (hd : (x == ("__debug__" : Str)) = false := by decide) (hm : behindInMarks .In (.Name x p) = false := by rfl) : PT X (.Compare a [.In] [.Name x p] pos) (LT X.K F Wx (tKdIn false tbl ia)) := by
  obtain ⟨d, es, n, mgx, D, h⟩ := k.ex
  refine pt_imp (pt_cmpR (op_in_kd D) ha (pe_glob (v := .ref d) hg mgx rfl hd) hm) fun σ H Q q => kd_in (fun z b H Q ⟨y, e, eb⟩ q => ⟨z, y, rfl, rfl, e, by rw [eb] at q; exact q⟩) h q
theorem t_kdnotin (k : Kd X.K X.w X.mg x tbl) (ha : PE X a (LE X.K F Wx ia)) (hg : Gl X x := by rfl) (hd : (x == ("__debug__" : Str)) = false := by decide) (hm : behindInMarks .NotIn (.Name x p) = false := by rfl) : PT X (.Compare a [.NotIn] [.Name x p] pos) (LT X.K F Wx (tKdIn true tbl ia)) := by
  obtain ⟨d, es, n, mgx, D, h⟩ := k.ex
  refine pt_imp (pt_cmpR (op_notIn_kd D) ha (pe_glob (v := .ref d) hg mgx rfl hd) hm) fun σ H Q q => kd_in (fun z b H Q ⟨y, e, eb⟩ q => ⟨z, y, rfl, rfl, e, by rw [eb] at q; exact q⟩) h q
def iOfT (t : IT) : IE := fun EI st Q => t EI st fun b st1 => Q (.bl b) st1
theorem of_t {K : PySem.W.Frag} {t : IT} {σ : L2.St} {H : Hp} {Q : VK} (h : LE K F Wx (iOfT t) σ H Q) : LT K F Wx t σ H fun b H' => Q (.bl b) H' := by
  obtain ⟨st, QI, EI, l, q, ux, k⟩ := h
  exact ⟨st, _, EI, l, q, ux, fun b st1 H1 q1 l1 s1 => k _ st1 _ H1 q1 l1 s1 (.bl b)⟩
theorem i_kdin (k : Kd X.K X.w X.mg x tbl) (ha : PE X a (LE X.K F Wx ia)) (hg : Gl X x := by rfl) (hd : (x == ("__debug__" : Str)) = false := by decide) (hm : behindInMarks .In (.Name x p) = false := by rfl) : PE X (.Compare a [.In] [.Name x p] pos) (LE X.K F Wx (iOfT (tKdIn false tbl ia))) := by
  obtain ⟨d, es, n, mgx, D, h⟩ := k.ex
  refine pe_imp (pe_cmpR (op_in_kd D) ha (pe_glob (v := .ref d) hg mgx rfl hd) hm) fun σ H Q q => kd_inE (fun z b H Q ⟨y, e, eb⟩ q => ⟨z, y, rfl, rfl, e, by rw [eb] at q; exact q⟩) h (of_t q)
theorem i_kdnotin (k : Kd X.K X.w X.mg x tbl) (ha : PE X a (LE X.K F Wx ia)) (hg : Gl X x := by rfl) (hd : (x == ("__debug__" : Str)) = false := by decide) (hm : behindInMarks .NotIn (.Name x p) = false := by rfl) : PE X (.Compare a [.NotIn] [.Name x p] pos) (LE X.K F Wx (iOfT (tKdIn true tbl ia))) := by
  obtain ⟨d, es, n, mgx, D, h⟩ := k.ex
  refine pe_imp (pe_cmpR (op_notIn_kd D) ha (pe_glob (v := .ref d) hg mgx rfl hd) hm) fun σ H Q q => kd_inE (fun z b H Q ⟨y, e, eb⟩ q => ⟨z, y, rfl, rfl, e, by rw [eb] at q; exact q⟩) h (of_t q)
/-- TABLE[word] -/
def iKdIx (tbl : List (Str × W)) (ib : IE) : IE := fun EI st Q => ib EI st fun v st1 => match v with
  | .str z => (match tbl.lookup z with
    | some w => Q w st1
    | none => False)
  | _ => False
theorem i_kdix (k : Kd X.K X.w X.mg x tbl) (hb : PE X b (LE X.K F Wx ib)) (hs : PlainIx b := by intro _ _; rfl) (hg : Gl X x := by rfl) (hd : (x == ("__debug__" : Str)) = false := by decide) : PE X (.Subscript (.Name x p) b pos) (LE X.K F Wx (iKdIx tbl ib)) := by
  obtain ⟨d, es, n, mgx, D, h⟩ := k.ex
  refine pe_imp (pe_ix ix_kdict (pe_glob (v := .ref d) hg mgx rfl hd) hb hs) fun σ H Q q => ?_
  obtain ⟨st, QI, EI, l, q, ux, k⟩ := q
  refine ⟨st, _, EI, l, q, ux, fun w st1 v H1 q1 l1 s1 r1 => ?_⟩
  split at q1
  · rename_i z
    cases r1
    split at q1
    · rename_i wv e
      rcases h z with ⟨e1, _⟩ | ⟨w, u, e1, e2, v0, r0, rw0⟩
      · rw [e1] at e; cases e
      · rw [e1] at e
        cases e
        exact ⟨d, z, v0, rfl, rfl, ⟨es, n, u, D.at_, D.lit, e2, r0⟩, k _ st1 v0 H1 q1 l1 s1 (rw0 _ _)⟩
    · exact q1.elim
  · exact q1.elim
end
abbrev pairW (p : Int × Int) : W := .tup [.int p.1, .int p.2]
def lexLe (p q : Int × Int) : Prop := p.1 < q.1 ∨ (p.1 = q.1 ∧ p.2 ≤ q.2)
/-- of pairs of numbers, as they lie in K or the heap -/
def rSortZ (K : PySem.W.Frag) : List V → Hp → VK → Prop := fun vs H Q => ∃ (a : Addr) (zs : List ((Int × Int) × V)), vs = [V.ref a] ∧ SqL K H a (zs.map (·.2)) ∧ (∀ z ∈ zs, ∃ t, z.2 = V.ref t ∧ SqT K H t [.int z.1.1, .int z.1.2]) ∧
  ∀ (ys : List ((Int × Int) × V)) (p : Addr), ys.Perm zs → (ys.map (·.1)).Pairwise lexLe → H p = none → Q (.ref p) (upd H p (.lst (ys.map (·.2))))
open Classical in
theorem cr_sortZ {X : Cx} : CallR X (.builtin "sorted") (rSortZ X.K) := by
  intro pins s σ H vs us Q I r h
  obtain ⟨adr, zs, rfl, hs, hz, q⟩ := h
  obtain ⟨its, rv, il, sz⟩ := I.list hs
  obtain ⟨u, rfl, ru⟩ := vals1 r
  obtain rfl : u = Value.ref adr := ru
  let key : V → Int × Int := fun v => if hk : ∃ z ∈ zs, z.2 = v then (Classical.choose hk).1 else (0, 0)
  have keyOf : ∀ z ∈ zs, key z.2 = z.1 := fun z mz => by
    have hk : ∃ y ∈ zs, y.2 = z.2 := ⟨z, mz, rfl⟩
    have e : key z.2 = (Classical.choose hk).1 := dif_pos hk
    obtain ⟨my, ey⟩ := Classical.choose_spec hk
    obtain ⟨t, et, ht⟩ := hz _ my
    obtain ⟨t', et', ht'⟩ := hz z mz
    rw [ey, et'] at et
    cases et
    have := I.tuple_inj ht ht'
    rw [e]
    injection this with a1 a2
    injection a2 with a2 _
    exact Prod.ext (V.int.inj a1) (V.int.inj a2)
  have zk : zs = (zs.map (·.2)).map fun v => (key v, v) := by
    rw [List.map_map]
    conv => lhs; rw [← List.map_id zs]
    exact List.map_congr_left fun z mz => Prod.ext (keyOf z mz).symm rfl
  obtain ⟨b1, b2⟩ := refs_back rv fun x mx => by
    obtain ⟨z, mz, ez⟩ := List.mem_map.mp mx
    obtain ⟨t, et, _⟩ := hz z mz
    exact ⟨t, by rw [← ez, et]⟩
  refine SrtO.sorted_pairsO (k := fun u => key (backV u)) il.isList (by rw [← rv.length]; exact sz) (fun v mv => ?_) fun h' d out o1 o2 kp dd dn => ?_
  · obtain ⟨t, rfl⟩ := b2 v mv
    have mx : V.ref t ∈ zs.map (·.2) := by rw [b1]; exact List.mem_map.mpr ⟨_, mv, rfl⟩
    obtain ⟨z, mz, ez⟩ := List.mem_map.mp mx
    obtain ⟨t', et, ht⟩ := hz z mz
    rw [ez] at et
    cases et
    obtain ⟨its2, r2, ⟨o, ho, hc, n, hd⟩, _⟩ := I.tuple ht
    obtain ⟨u1, u2, e2, ri, rj⟩ := vals2 r2
    obtain ⟨t1, rfl⟩ := ri
    obtain ⟨t2, rfl⟩ := rj
    have ek : key (backV (Value.ref t)) = z.1 := by rw [← keyOf z mz, ez]; rfl
    simp only [ek]
    subst e2
    exact ⟨t, o, t1, t2, n, rfl, ho, hc, hd⟩
  · have o3 : ∀ u ∈ out, ∃ a, u = Value.ref a := fun u hu => b2 u (o2.perm.mem_iff.mp hu)
    obtain ⟨n, dn⟩ := dn
    have pm : ((out.map backV).map fun v => (key v, v)).Perm zs := by
      conv => rhs; rw [zk, b1]
      exact (o2.perm.map backV).map _
    have e2 : ((out.map backV).map fun v => (key v, v)).map (·.2) = out.map backV := by
      rw [List.map_map]
      exact List.map_id _
    have fin := q ((out.map backV).map fun v => (key v, v)) d pm ?_ (I.hok.fresh dd)
    · rw [e2] at fin
      refine ⟨.ref d, upd H d (.lst (out.map backV)), I.laid (t' := s.toks) kp dd ⟨?_, out, n, vals_back o3, dn⟩, rfl, fin⟩
      have := pm.length_eq
      rw [List.length_map] at this
      rw [this, ← List.length_map (f := (·.2))]
      exact sz
    · rw [List.map_map, List.map_map]
      refine List.pairwise_map.mpr (List.Pairwise.imp (fun {x y} hxy => ?_) o1)
      have l := SrtO.lexB_no.mp hxy
      show lexLe (key (backV x)) (key (backV y))
      unfold lexLe
      omega
def gSorted : List W → (W → Prop) → Prop := fun ws P =>
  (∃ ns : List Int, ws = [.lst (ns.map .int)] ∧ ∀ ns' : List Int, ns'.Perm ns → ns'.Pairwise (· ≤ ·) → P (.lst (ns'.map .int))) ∨
  ∃ ps : List (Int × Int), ws = [.lst (ps.map pairW)] ∧ ∀ ps' : List (Int × Int), ps'.Perm ps → ps'.Pairwise lexLe → P (.lst (ps'.map pairW))
theorem ints_of {K : PySem.W.Frag} {Lv : Addr → Prop} {H : Hp} : ∀ {ns : List Int} {vs : List V}, RelWs K Lv H (ns.map W.int) vs → vs = ns.map V.int
  | [], _, .nil => rfl
  | n :: ns, _, .cons r rs => by
    cases r
    rw [ints_of rs]; rfl
theorem pairs_of {K : PySem.W.Frag} {Lv : Addr → Prop} {H : Hp} : ∀ {ps : List (Int × Int)} {vs : List V}, RelWs K Lv H (ps.map pairW) vs → ∃ zs : List ((Int × Int) × V), zs.map (·.1) = ps ∧ zs.map (·.2) = vs ∧ ∀ z ∈ zs, RelW K Lv H (pairW z.1) z.2
  | [], _, .nil => ⟨[], rfl, rfl, fun z hz => by cases hz⟩
  | p :: ps, _, .cons (v := v) r rs => by
    obtain ⟨zs, e1, e2, h⟩ := pairs_of rs
    refine ⟨(p, v) :: zs, by rw [List.map_cons, e1], by rw [List.map_cons, e2], fun z hz => ?_⟩
    rcases List.mem_cons.mp hz with rfl | hz
    · exact r
    · exact h z hz
theorem rel_zs {K : PySem.W.Frag} {Lv : Addr → Prop} {H : Hp} : ∀ {zs : List ((Int × Int) × V)}, (∀ z ∈ zs, RelW K Lv H (pairW z.1) z.2) → RelWs K Lv H ((zs.map (·.1)).map pairW) (zs.map (·.2))
  | [], _ => .nil
  | z :: zs, h => .cons (h z (List.mem_cons_self ..)) (rel_zs fun y hy => h y (List.mem_cons_of_mem _ hy))
theorem bt_sorted {K : PySem.W.Frag} : BtG K (fun vs H Q => rSortedI K vs H Q ∨ rSortZ K vs H Q) gSorted := by
  intro F st σ H ws vs P Q h l r k
  rcases h with ⟨ns, rfl, h⟩ | ⟨ps, rfl, h⟩
  · cases r with
    | cons r1 r2 =>
      cases r2
      cases r1 with
      | lst f rs =>
        rw [ints_of rs] at f
        refine .inl ⟨_, ns, rfl, f.sq, fun ns' p pm pw hp => ?_⟩
        exact k _ _ _ (h ns' pm pw) (l.laid hp) (Step.laid l hp) (.lst (FzL.new l hp) (RelWs.ints _))
  · cases r with
    | cons r1 r2 =>
      cases r2
      cases r1 with
      | lst f rs =>
        obtain ⟨zs, e1, e2, hz⟩ := pairs_of rs
        rw [← e2] at f
        refine .inr ⟨_, zs, rfl, f.sq, fun z mz => ?_, fun ys p pm pw hp => ?_⟩
        · have r0 := hz z mz
          generalize ev : z.2 = v at r0
          cases r0 with
          | tup ft rt =>
            cases rt with
            | cons a1 rt =>
              cases rt with
              | cons a2 rt =>
                cases rt
                cases a1; cases a2
                exact ⟨_, rfl, ft.sq⟩
        · have pm2 : (ys.map (·.1)).Perm ps := by rw [← e1]; exact pm.map _
          exact k _ _ _ (h _ pm2 pw) (l.laid hp) (Step.laid l hp) (.lst (FzL.new l hp) ((rel_zs fun y hy => hz y (pm.mem_iff.mp hy)).mono (Step.laid l hp).mv))
section
variable {X : Cx} {F : Addr → Prop} {Wx : WX} {e : Expr} {es : List Expr} {pos p : Pos} {i : IA} {n : Nat}
theorem boot_sorted' : bootBuiltins "sorted" = some (.builtin "sorted") := by decide +kernel
theorem i_sorted (hm : X.mg "sorted" = none) (ha : PA X (e :: es) (LA X.K F Wx n i)) (hg : Gl X "sorted" := by rfl) (he : starEach (e :: es) X.env = (false, eval e X.env) :: starEach es X.env := by rfl) (hpl : (backTo pos (starEach es X.env)).any (·.1) = false := by rfl) :
    PE X (.Call (.Name "sorted" p) (e :: es) [] pos) (LE X.K F Wx (iFn gSorted i)) := i_fn (cr_sortedI.or cr_sortZ) bt_sorted hm boot_sorted' ha hg (by decide) (by decide) he hpl
end
end Sh
namespace Sh
open PySem L2
open PyProof.Rows hiding St
theorem Sto.put_put {S : Sto} {a : Addr} {o o' : SO} : (S.put a o).put a o' = S.put a o' := by
  funext b
  unfold Sto.put
  split <;> rfl
theorem atI_0 {α : Type} {x : α} {xs : List α} : atI (x :: xs) 0 = some x := by
  unfold atI ixN
  rw [if_pos (by omega), if_pos (by rw [List.length_cons]; omega)]
  rfl
theorem atI_nat {α : Type} {xs : List α} {i : Nat} (h : i < xs.length) : atI xs (i : Int) = some xs[i] := by
  unfold atI ixN
  rw [if_pos (by omega), if_pos (by omega)]
  simp [h]
theorem atI_pos {α : Type} {xs : List α} {i : Int} (h0 : 0 ≤ i) (h : i < xs.length) : atI xs i = some (xs[i.toNat]'(by omega)) := by
  have e := atI_nat (xs := xs) (i := i.toNat) (by omega)
  rw [Int.toNat_of_nonneg h0] at e
  exact e
theorem atI_1 {α : Type} {x y : α} {xs : List α} : atI (x :: y :: xs) 1 = some y := by
  unfold atI ixN
  rw [if_pos (by omega), if_pos (by simp only [List.length_cons]; omega)]
  rfl
theorem atI_2 {α : Type} {x y z : α} {xs : List α} : atI (x :: y :: z :: xs) 2 = some z := by
  unfold atI ixN
  rw [if_pos (by omega), if_pos (by simp only [List.length_cons]; omega)]
  rfl
theorem atI_3 {α : Type} {x y z u : α} {xs : List α} : atI (x :: y :: z :: u :: xs) 3 = some u := by
  unfold atI ixN
  rw [if_pos (by omega), if_pos (by simp only [List.length_cons]; omega)]
  rfl
theorem ixN_4_0 : ixN (0 + 1 + 1 + 1 + 1) 0 = some 0 := rfl
theorem ixN_4_1 : ixN (0 + 1 + 1 + 1 + 1) 1 = some 1 := rfl
theorem ixN_4_2 : ixN (0 + 1 + 1 + 1 + 1) 2 = some 2 := rfl
theorem ixN_4_3 : ixN (0 + 1 + 1 + 1 + 1) 3 = some 3 := rfl
theorem toNat_2 : Int.toNat 2 = 2 := rfl
section
variable {α : Type} {a b c d : α}
theorem cut_13 : cutW [a, b, c, d] (some 1) (some 3) = [b, c] := rfl
theorem cut_1_2 : cutW [a, b] (some 1) none = [b] := rfl
theorem cut_1_3 : cutW [a, b, c] (some 1) none = [b, c] := rfl
theorem cut_m2 : cutW [a, b] none (some (-1)) = [a] := rfl
theorem cut_m3 : cutW [a, b, c] none (some (-1)) = [a, b] := rfl
theorem cut_m4 : cutW [a, b, c, d] none (some (-1)) = [a, b, c] := rfl
theorem atI_m2 : atI [a, b] (-1) = some b := rfl
theorem atI_m3 : atI [a, b, c] (-1) = some c := rfl
theorem atI_m4 : atI [a, b, c, d] (-1) = some d := rfl
end
theorem fz_val (w : W) : (R.val w).fz = w := rfl
theorem fz_new (o : SO) : (R.new o).fz = o.fz := rfl
theorem so_lst (ws : List W) : (SO.lst ws).fz = .lst ws := rfl
theorem so_dct (ws : List (Key × W)) : (SO.dct ws).fz = .dct ws := rfl
theorem so_ins (C) (ws : List (Str × W)) : (SO.ins C ws).fz = .obj C ws := rfl
section
variable {i j : Int} {x y : Str} {ws vs : List W} {v w : W} {a b : Bool} {n : Nat}
theorem eqW_ii : eqW (.int i) (.int j) = (i == j) := rfl
theorem eqW_ss : eqW (.str x) (.str y) = (x == y) := rfl
theorem eqW_tt : eqW (.tup ws) (.tup vs) = eqWs ws vs := rfl
theorem eqW_ll : eqW (.lst ws) (.lst vs) = eqWs ws vs := rfl
theorem eqW_nn : eqW .non .non = true := rfl
theorem eqW_bb : eqW (.bl a) (.bl b) = (a == b) := rfl
theorem eqW_ni : eqW .non (.int j) = false := rfl
theorem eqW_in : eqW (.int j) .non = false := rfl
theorem eqW_nt : eqW .non (.tup ws) = false := rfl
theorem eqW_tn : eqW (.tup ws) .non = false := rfl
theorem eqW_nl : eqW .non (.lst ws) = false := rfl
theorem eqW_ln : eqW (.lst ws) .non = false := rfl
theorem eqW_is : eqW (.int i) (.str x) = false := rfl
theorem eqW_si : eqW (.str x) (.int i) = false := rfl
theorem eqWs_nil : eqWs [] [] = true := rfl
theorem eqWs_cons : eqWs (v :: vs) (w :: ws) = (eqW v w && eqWs vs ws) := rfl
theorem eqWs_nc : eqWs [] (w :: ws) = false := rfl
theorem eqWs_cn : eqWs (w :: ws) [] = false := rfl
theorem okD_int : okD n (.int i) = true := by cases n <;> rfl
theorem okD_str : okD n (.str x) = PyData.strOk x := by cases n <;> rfl
theorem okD_bl : okD n (.bl a) = true := by cases n <;> rfl
theorem okD_non : okD n .non = true := by cases n <;> rfl
theorem okD_tup : okD (n + 1) (.tup ws) = ws.all (okD n) := rfl
theorem okD_lst : okD (n + 1) (.lst ws) = ws.all (okD n) := rfl
theorem eqOk_ii : eqOk (.int i) (.int j) = true := rfl
theorem eqOk_ss : eqOk (.str x) (.str y) = true := rfl
theorem eqOk_nn : eqOk .non .non = true := rfl
theorem eqOk_bb : eqOk (.bl a) (.bl b) = true := rfl
theorem eqOk_in : eqOk (.int i) .non = true := rfl
theorem eqOk_ni : eqOk .non (.int i) = true := rfl
theorem eqOk_tt : eqOk (.tup ws) (.tup vs) = (okD 64 (.tup ws) && okD 64 (.tup vs)) := rfl
theorem eqOk_ll : eqOk (.lst ws) (.lst vs) = (okD 64 (.lst ws) && okD 64 (.lst vs)) := rfl
theorem flatW_int : flatW (.int i) = true := rfl
theorem flatW_str : flatW (.str x) = true := rfl
theorem flatW_bl : flatW (.bl a) = true := rfl
theorem flatW_non : flatW .non = true := rfl
end
/-- a statement, then the rest, by name -/
theorem seq_go {p q : IS} {EI : XI} {D : IEnds} {st : Stt} (h : ∀ nx : Stt → Prop, nx = q EI D → p EI { D with nx := nx } st) : sSeq p q EI D st := h _ rfl
end Sh
namespace Sh
open PySem L2
open PyProof.Rows hiding St
def IsBag (o : SO) : Prop := ∃ (n0 n1 n2 : Int) (cs : List Int), o = .lst [.int n0, .int n1, .int n2, .lst (cs.map .int)] ∧ 0 ≤ n0 ∧ 0 ≤ n1 ∧ n1 < 2147483647 ∧ 0 ≤ n2 ∧ ∀ c ∈ cs, 0 ≤ c
theorem Sto.put_eta {S : Sto} {a : Addr} {o : SO} (h : S a = some o) : S.put a o = S := by
  funext b
  unfold Sto.put
  split
  · rename_i e; rw [e, h]
  · rfl
theorem ifb {c : Bool} {P Q : Prop} (h1 : c = true → P) (h2 : c = false → Q) : if c = true then P else Q := by
  cases c
  · rw [if_neg Bool.false_ne_true]; exact h2 rfl
  · rw [if_pos rfl]; exact h1 rfl
theorem ifT {c : Bool} {P Q : Prop} (h : c = true) (p : P) : if c = true then P else Q := ifb (fun _ => p) fun z => by rw [h] at z; cases z
theorem ifF {c : Bool} {P Q : Prop} (h : c = false) (p : Q) : if c = true then P else Q := ifb (fun z => by rw [h] at z; cases z) fun _ => p
theorem seq_end {p q : IS} {EI : XI} {D : IEnds} {st : Stt} (h : ∀ nx : Stt → Prop, p EI { D with nx := nx } st) : sSeq p q EI D st := h _
theorem seq_cut {p q : IS} {EI : XI} {D : IEnds} {st : Stt} (M : Stt → Prop) (h1 : ∀ nx : Stt → Prop, (∀ st, M st → nx st) → p EI { D with nx := nx } st) (h2 : ∀ st, M st → q EI D st) : sSeq p q EI D st := h1 _ h2
theorem seq_step {p q : IS} {EI : XI} {D : IEnds} {st : Stt} (st' : Stt) (h1 : ∀ nx : Stt → Prop, nx st' → p EI { D with nx := nx } st) (h2 : q EI D st') : sSeq p q EI D st := h1 _ h2
theorem for_inv {g : IG} {body : IS} {EI : XI} {D : IEnds} (I : List W → Stt → Prop) : ∀ (ws : List W) (st : Stt), I ws st → (∀ st, I [] st → D.nx st) →
    (∀ w ws st (nx : Stt → Prop), I (w :: ws) st → (∀ st', I ws st' → nx st') → g w st fun st1 => body EI { nx := nx, ct := nx, bk := D.nx, rt := D.rt } st1) → forGo g body EI D ws st
  | [], st, h0, hd, _ => hd st h0
  | w :: ws, st, h0, hd, hs => hs w ws st (forGo g body EI D ws) h0 fun st' h' => for_inv I ws st' h' hd hs
theorem for_same {g : IG} {body : IS} {EI : XI} {D : IEnds} (I : Stt → Prop) : ∀ (ws : List W) (st : Stt), I st → (∀ st, I st → D.nx st) →
    (∀ w ∈ ws, ∀ st (nx : Stt → Prop), I st → (∀ st', I st' → nx st') → g w st fun st1 => body EI { nx := nx, ct := nx, bk := D.nx, rt := D.rt } st1) → forGo g body EI D ws st
  | [], st, h0, hd, _ => hd st h0
  | w :: ws, st, h0, hd, hs => hs w (List.mem_cons_self ..) st (forGo g body EI D ws) h0 fun st' h' => for_same I ws st' h' hd fun w' hw => hs w' (List.mem_cons_of_mem _ hw)
def sp_l_take : ISp := fun ws S Q E => ∃ a n o, ws = [.ref a, .int n] ∧ 0 < n ∧ Bd n ∧ S a = some o ∧ IsBag o ∧ ∀ r o', 0 ≤ r → r < n → IsBag o' → Q (.val (.int r)) (S.put a o')
def ib_l_take : IS := (sSeq (sIf (tBl (iB gEq (iIx (iVar 0) (iC (.int 0))) (iC (.int 0)))) (sSeq (sSet 2 (iC (.int 0)))
    (sSeq (sIf (tBl (iB gLt (iIx (iVar 0) (iC (.int 2))) (iFn gLen (iCons (iIx (iVar 0) (iC (.int 3))) iNil)))) (sSet 2 (iIx (iIx (iVar 0) (iC (.int 3))) (iIx (iVar 0) (iC (.int 2))))) sNext)
    (sSeq (sAugS 0 (· + ·) (iC (.int 2)) (iC (.int 1)))
    (sSeq (sIf (tBl (iB gGe (iVar 2) (iC (.int 1000000000000000000)))) (sIxS 0 (iC (.int 0)) (iVar 2)) sNext)
    (sSeq (sSet 3 (iB gAdd (iB gAdd (iB gMul (iIx (iVar 0) (iC (.int 1))) (iC (.int 48271))) (iB gMod (iFn gInt (iCons (iVar 2) iNil)) (iC (.int 2147483647)))) (iB gMul (iC (.int 7919)) (iIx (iVar 0) (iC (.int 2))))))
    (sIxS 0 (iC (.int 1)) (iB gMod (iFn gInt (iCons (iVar 3) iNil)) (iC (.int 2147483647))))))))) sNext)
  (sSeq (sIf (tBl (iB gGt (iIx (iVar 0) (iC (.int 0))) (iC (.int 0)))) (sSeq (sSet 4 (iB gMod (iFn gInt (iCons (iIx (iVar 0) (iC (.int 0))) iNil)) (iVar 1)))
    (sSeq (sIxS 0 (iC (.int 0)) (iB gDiv (iFn gInt (iCons (iIx (iVar 0) (iC (.int 0))) iNil)) (iVar 1)))
    (sRet (iVar 4)))) sNext)
  (sSeq (sSet 5 (iB gMod (iFn gInt (iCons (iB gMul (iB gAdd (iIx (iVar 0) (iC (.int 1))) (iC (.int 1))) (iC (.int 39373))) iNil)) (iC (.int 1000000007))))
  (sSeq (sSet 6 (iB gMod (iFn gInt (iCons (iB gMul (iB gMod (iFn gInt (iCons (iB gMul (iVar 5) (iVar 5)) iNil)) (iC (.int 998244353))) (iC (.int 30011))) iNil)) (iC (.int 998244353))))
  (sRet (iB gMod (iFn gInt (iCons (iB gDiv (iVar 6) (iC (.int 7))) iNil)) (iVar 1)))))))
abbrev bagO (n0 n1 n2 : Int) (cs : List Int) : SO := .lst [.int n0, .int n1, .int n2, .lst (cs.map .int)]
theorem ok_l_take (ws : List W) (S : Sto) (Q : R → Sto → Prop) (E : Exn → Sto → Prop) (h : sp_l_take ws S Q E) : bodyI 7 ib_l_take ws S Q E := by
  obtain ⟨a, n, o, rfl, hn, bn, ha, ⟨n0, n1, n2, cs, rfl, h0, h1, h2, h3, h4⟩, q⟩ := h
  unfold ib_l_take
  show sSeq _ _ _ _ ⟨[.val (.ref a), .val (.int n), .none, .none, .none, .none, .none], S⟩
  refine seq_cut (fun st => ∃ n0 n1 n2 x2 x3, st = ⟨[.val (.ref a), .val (.int n), x2, x3, .none, .none, .none], S.put a (bagO n0 n1 n2 cs)⟩ ∧ 0 ≤ n0 ∧ 0 ≤ n1 ∧ n1 < 2147483647 ∧ 0 ≤ n2) (fun nx k => ?_) (fun st ⟨n0, n1, n2, x2, x3, e, h0, h1, h2, h3⟩ => ?_)
  · simp only [sIf, tBl, iB, iIx, iVar, iC, gIx, ha, atI_0, gEq, okD, eqOk, Bool.and_true, eqW, atW, List.getElem?_cons_zero, true_and]
    refine ifb (fun c => ?_) (fun c => ?_)
    · refine seq_step _ (fun nx h => h) ?_
      refine seq_cut (fun st => ∃ c : Int, 0 ≤ c ∧ st = ⟨[.val (.ref a), .val (.int n), .val (.int c), .none, .none, .none, .none], S⟩) (fun nx k => ?_) (fun st ⟨c, hc, e⟩ => ?_)
      · simp only [bodyI, start0, sSeq, sNext, sNever, sCont, sBreak, sDrop, sRet, sRetN, sRet0, sRetO, sIf, sSet, sSetN, sSetP, sPar, sParEN, sParNE, sPar3, sAsg, gNm, gsNil, gsCons, gTp, sAugI, sIxO, sIxS, sAugS, stoL, setW, iVar, iC, iNil, iCons, iTup, iLst, nLst, iFz, iB, gAdd, gI, gIC, gSub, gMul, gDiv, gMod, gPow, gLt, gLe, gGt, gGe, gEq, gNe, gIn, gIsN, isN, iNeg, tTru', gTru, tBl, iChain, tAnd', tOr', tNot', tYes', iIf, iAnd, iOr, iNot, iIx, gIx, atW, iIxO, ownL, oNone, oSome, iSl, gSl, iRevL, iCall, nCall, iFn, Sh.R.fz, SO.fz, Stt.put, Stt.puts, iMtO, gAppend, gInsert, gExtend, gLen, iLenO, gAbs, gInt, gMinMax, gList, gTuple, iListRg, gIsi, tyN, gRepr, flatW, eqW, okD, eqOk, cut_13, cut_1_2, cut_1_3, cut_m2, cut_m3, cut_m4, atI_m2, atI_m3, atI_m4, iOfT, tKdIn, iKdIx, atI_0, atI_1, atI_2, atI_3, ixN_4_0, ixN_4_1, ixN_4_2, ixN_4_3, Sto.put_same, Sto.put_put, toNat_2, List.map, List.replicate, List.length_cons, List.length_nil, List.getElem?_cons_zero, List.getElem?_cons_succ, List.getElem?_nil, List.set_cons_zero, List.set_cons_succ, List.set_nil, List.cons_append, List.nil_append, List.append_nil, if_true, if_false, ha]
        refine ifb (fun z => ?_) (fun z => ?_)
        · have z2 : n2 < (cs.length : Int) := by simpa using z
          have e : atI (cs.map W.int) n2 = some (.int (cs[n2.toNat]'(by omega))) := by
            rw [atI_pos h3 (by simpa using z2)]
            simp
          simp only [atW, e]
          exact k _ ⟨_, h4 _ (List.getElem_mem _), rfl⟩
        · exact k _ ⟨0, by omega, rfl⟩
      · subst e
        refine seq_step ⟨[.val (.ref a), .val (.int n), .val (.int c), .none, .none, .none, .none], S.put a (bagO n0 n1 (n2 + 1) cs)⟩ (fun nx h => ?_) ?_
        · simp only [bodyI, start0, sSeq, sNext, sNever, sCont, sBreak, sDrop, sRet, sRetN, sRet0, sRetO, sIf, sSet, sSetN, sSetP, sPar, sParEN, sParNE, sPar3, sAsg, gNm, gsNil, gsCons, gTp, sAugI, sIxO, sIxS, sAugS, stoL, setW, iVar, iC, iNil, iCons, iTup, iLst, nLst, iFz, iB, gAdd, gI, gIC, gSub, gMul, gDiv, gMod, gPow, gLt, gLe, gGt, gGe, gEq, gNe, gIn, gIsN, isN, iNeg, tTru', gTru, tBl, iChain, tAnd', tOr', tNot', tYes', iIf, iAnd, iOr, iNot, iIx, gIx, atW, iIxO, ownL, oNone, oSome, iSl, gSl, iRevL, iCall, nCall, iFn, Sh.R.fz, SO.fz, Stt.put, Stt.puts, iMtO, gAppend, gInsert, gExtend, gLen, iLenO, gAbs, gInt, gMinMax, gList, gTuple, iListRg, gIsi, tyN, gRepr, flatW, eqW, okD, eqOk, cut_13, cut_1_2, cut_1_3, cut_m2, cut_m3, cut_m4, atI_m2, atI_m3, atI_m4, iOfT, tKdIn, iKdIx, atI_0, atI_1, atI_2, atI_3, ixN_4_0, ixN_4_1, ixN_4_2, ixN_4_3, Sto.put_same, Sto.put_put, toNat_2, List.map, List.replicate, List.length_cons, List.length_nil, List.getElem?_cons_zero, List.getElem?_cons_succ, List.getElem?_nil, List.set_cons_zero, List.set_cons_succ, List.set_nil, List.cons_append, List.nil_append, List.append_nil, if_true, if_false, ha]
          exact ⟨by decide, by decide, h⟩
        · refine seq_cut (fun st => ∃ n0, 0 ≤ n0 ∧ st = ⟨[.val (.ref a), .val (.int n), .val (.int c), .none, .none, .none, .none], S.put a (bagO n0 n1 (n2 + 1) cs)⟩) (fun nx k => ?_) (fun st ⟨n0, hc, e⟩ => ?_)
          · simp only [bodyI, start0, sSeq, sNext, sNever, sCont, sBreak, sDrop, sRet, sRetN, sRet0, sRetO, sIf, sSet, sSetN, sSetP, sPar, sParEN, sParNE, sPar3, sAsg, gNm, gsNil, gsCons, gTp, sAugI, sIxO, sIxS, sAugS, stoL, setW, iVar, iC, iNil, iCons, iTup, iLst, nLst, iFz, iB, gAdd, gI, gIC, gSub, gMul, gDiv, gMod, gPow, gLt, gLe, gGt, gGe, gEq, gNe, gIn, gIsN, isN, iNeg, tTru', gTru, tBl, iChain, tAnd', tOr', tNot', tYes', iIf, iAnd, iOr, iNot, iIx, gIx, atW, iIxO, ownL, oNone, oSome, iSl, gSl, iRevL, iCall, nCall, iFn, Sh.R.fz, SO.fz, Stt.put, Stt.puts, iMtO, gAppend, gInsert, gExtend, gLen, iLenO, gAbs, gInt, gMinMax, gList, gTuple, iListRg, gIsi, tyN, gRepr, flatW, eqW, okD, eqOk, cut_13, cut_1_2, cut_1_3, cut_m2, cut_m3, cut_m4, atI_m2, atI_m3, atI_m4, iOfT, tKdIn, iKdIx, atI_0, atI_1, atI_2, atI_3, ixN_4_0, ixN_4_1, ixN_4_2, ixN_4_3, Sto.put_same, Sto.put_put, toNat_2, List.map, List.replicate, List.length_cons, List.length_nil, List.getElem?_cons_zero, List.getElem?_cons_succ, List.getElem?_nil, List.set_cons_zero, List.set_cons_succ, List.set_nil, List.cons_append, List.nil_append, List.append_nil, if_true, if_false]
            refine ifb (fun z => ?_) (fun z => ?_)
            · exact k _ ⟨c, hc, rfl⟩
            · exact k _ ⟨n0, h0, rfl⟩
          · subst e
            refine seq_step ?s (fun nx h => ?a) ?b
            case a =>
              simp only [bodyI, start0, sSeq, sNext, sNever, sCont, sBreak, sDrop, sRet, sRetN, sRet0, sRetO, sIf, sSet, sSetN, sSetP, sPar, sParEN, sParNE, sPar3, sAsg, gNm, gsNil, gsCons, gTp, sAugI, sIxO, sIxS, sAugS, stoL, setW, iVar, iC, iNil, iCons, iTup, iLst, nLst, iFz, iB, gAdd, gI, gIC, gSub, gMul, gDiv, gMod, gPow, gLt, gLe, gGt, gGe, gEq, gNe, gIn, gIsN, isN, iNeg, tTru', gTru, tBl, iChain, tAnd', tOr', tNot', tYes', iIf, iAnd, iOr, iNot, iIx, gIx, atW, iIxO, ownL, oNone, oSome, iSl, gSl, iRevL, iCall, nCall, iFn, Sh.R.fz, SO.fz, Stt.put, Stt.puts, iMtO, gAppend, gInsert, gExtend, gLen, iLenO, gAbs, gInt, gMinMax, gList, gTuple, iListRg, gIsi, tyN, gRepr, flatW, eqW, okD, eqOk, cut_13, cut_1_2, cut_1_3, cut_m2, cut_m3, cut_m4, atI_m2, atI_m3, atI_m4, iOfT, tKdIn, iKdIx, atI_0, atI_1, atI_2, atI_3, ixN_4_0, ixN_4_1, ixN_4_2, ixN_4_3, Sto.put_same, Sto.put_put, toNat_2, List.map, List.replicate, List.length_cons, List.length_nil, List.getElem?_cons_zero, List.getElem?_cons_succ, List.getElem?_nil, List.set_cons_zero, List.set_cons_succ, List.set_nil, List.cons_append, List.nil_append, List.append_nil, if_true, if_false]
              refine ⟨.inr (.inr (by omega)), by omega, .inr (.inl (by omega)), ?_⟩
              exact h
            case b =>
              simp only [bodyI, start0, sSeq, sNext, sNever, sCont, sBreak, sDrop, sRet, sRetN, sRet0, sRetO, sIf, sSet, sSetN, sSetP, sPar, sParEN, sParNE, sPar3, sAsg, gNm, gsNil, gsCons, gTp, sAugI, sIxO, sIxS, sAugS, stoL, setW, iVar, iC, iNil, iCons, iTup, iLst, nLst, iFz, iB, gAdd, gI, gIC, gSub, gMul, gDiv, gMod, gPow, gLt, gLe, gGt, gGe, gEq, gNe, gIn, gIsN, isN, iNeg, tTru', gTru, tBl, iChain, tAnd', tOr', tNot', tYes', iIf, iAnd, iOr, iNot, iIx, gIx, atW, iIxO, ownL, oNone, oSome, iSl, gSl, iRevL, iCall, nCall, iFn, Sh.R.fz, SO.fz, Stt.put, Stt.puts, iMtO, gAppend, gInsert, gExtend, gLen, iLenO, gAbs, gInt, gMinMax, gList, gTuple, iListRg, gIsi, tyN, gRepr, flatW, eqW, okD, eqOk, cut_13, cut_1_2, cut_1_3, cut_m2, cut_m3, cut_m4, atI_m2, atI_m3, atI_m4, iOfT, tKdIn, iKdIx, atI_0, atI_1, atI_2, atI_3, ixN_4_0, ixN_4_1, ixN_4_2, ixN_4_3, Sto.put_same, Sto.put_put, toNat_2, List.map, List.replicate, List.length_cons, List.length_nil, List.getElem?_cons_zero, List.getElem?_cons_succ, List.getElem?_nil, List.set_cons_zero, List.set_cons_succ, List.set_nil, List.cons_append, List.nil_append, List.append_nil, if_true, if_false]
              refine ⟨by omega, k _ ⟨_, _, _, _, _, rfl, hc, Int.emod_nonneg _ (by omega), Int.emod_lt_of_pos _ (by omega), by omega⟩⟩
    · exact k _ ⟨n0, n1, n2, .none, .none, by rw [Sto.put_eta ha], h0, h1, h2, h3⟩
  · subst e
    refine seq_cut (fun st => st = ⟨[.val (.ref a), .val (.int n), x2, x3, .none, .none, .none], S.put a (bagO n0 n1 n2 cs)⟩) (fun nx k => ?_) (fun st e => ?_)
    · simp only [bodyI, start0, sSeq, sNext, sNever, sCont, sBreak, sDrop, sRet, sRetN, sRet0, sRetO, sIf, sSet, sSetN, sSetP, sPar, sParEN, sParNE, sPar3, sAsg, gNm, gsNil, gsCons, gTp, sAugI, sIxO, sIxS, sAugS, stoL, setW, iVar, iC, iNil, iCons, iTup, iLst, nLst, iFz, iB, gAdd, gI, gIC, gSub, gMul, gDiv, gMod, gPow, gLt, gLe, gGt, gGe, gEq, gNe, gIn, gIsN, isN, iNeg, tTru', gTru, tBl, iChain, tAnd', tOr', tNot', tYes', iIf, iAnd, iOr, iNot, iIx, gIx, atW, iIxO, ownL, oNone, oSome, iSl, gSl, iRevL, iCall, nCall, iFn, Sh.R.fz, SO.fz, Stt.put, Stt.puts, iMtO, gAppend, gInsert, gExtend, gLen, iLenO, gAbs, gInt, gMinMax, gList, gTuple, iListRg, gIsi, tyN, gRepr, flatW, eqW, okD, eqOk, cut_13, cut_1_2, cut_1_3, cut_m2, cut_m3, cut_m4, atI_m2, atI_m3, atI_m4, iOfT, tKdIn, iKdIx, atI_0, atI_1, atI_2, atI_3, ixN_4_0, ixN_4_1, ixN_4_2, ixN_4_3, Sto.put_same, Sto.put_put, toNat_2, List.map, List.replicate, List.length_cons, List.length_nil, List.getElem?_cons_zero, List.getElem?_cons_succ, List.getElem?_nil, List.set_cons_zero, List.set_cons_succ, List.set_nil, List.cons_append, List.nil_append, List.append_nil, if_true, if_false]
      refine ifb (fun z => ?_) (fun z => k _ rfl)
      refine ⟨hn, ⟨hn, bn⟩, q _ _ (Int.emod_nonneg _ (by omega)) (Int.emod_lt_of_pos _ hn) ⟨_, _, _, _, rfl, Int.ediv_nonneg h0 (by omega), h1, h2, h3, h4⟩⟩
    · subst e
      simp only [bodyI, start0, sSeq, sNext, sNever, sCont, sBreak, sDrop, sRet, sRetN, sRet0, sRetO, sIf, sSet, sSetN, sSetP, sPar, sParEN, sParNE, sPar3, sAsg, gNm, gsNil, gsCons, gTp, sAugI, sIxO, sIxS, sAugS, stoL, setW, iVar, iC, iNil, iCons, iTup, iLst, nLst, iFz, iB, gAdd, gI, gIC, gSub, gMul, gDiv, gMod, gPow, gLt, gLe, gGt, gGe, gEq, gNe, gIn, gIsN, isN, iNeg, tTru', gTru, tBl, iChain, tAnd', tOr', tNot', tYes', iIf, iAnd, iOr, iNot, iIx, gIx, atW, iIxO, ownL, oNone, oSome, iSl, gSl, iRevL, iCall, nCall, iFn, Sh.R.fz, SO.fz, Stt.put, Stt.puts, iMtO, gAppend, gInsert, gExtend, gLen, iLenO, gAbs, gInt, gMinMax, gList, gTuple, iListRg, gIsi, tyN, gRepr, flatW, eqW, okD, eqOk, cut_13, cut_1_2, cut_1_3, cut_m2, cut_m3, cut_m4, atI_m2, atI_m3, atI_m4, iOfT, tKdIn, iKdIx, atI_0, atI_1, atI_2, atI_3, ixN_4_0, ixN_4_1, ixN_4_2, ixN_4_3, Sto.put_same, Sto.put_put, toNat_2, List.map, List.replicate, List.length_cons, List.length_nil, List.getElem?_cons_zero, List.getElem?_cons_succ, List.getElem?_nil, List.set_cons_zero, List.set_cons_succ, List.set_nil, List.cons_append, List.nil_append, List.append_nil, if_true, if_false]
      refine ⟨.inr (.inr (by omega)), by omega, .inr (.inl ⟨?_, ?_⟩), by omega, .inr (.inr (by omega)), by omega, ⟨by omega, by unfold Bd lim; omega⟩, hn, ?_⟩
      · have := Int.emod_nonneg ((n1 + 1) * 39373) (show (1000000007 : Int) ≠ 0 by omega); omega
      · have := Int.emod_lt_of_pos ((n1 + 1) * 39373) (show (0 : Int) < 1000000007 by omega); omega
      · exact q _ _ (Int.emod_nonneg _ (by omega)) (Int.emod_lt_of_pos _ hn) ⟨_, _, _, _, rfl, h0, h1, h2, h3, h4⟩
def stepQ (g : IG) (t : IT) (ie : IE) (st : Stt) (w : W) (Y : W → Stt → Prop) (Nn : Stt → Prop) : Prop := g w st fun st1 => t noX st1 fun b st2 => if b = true then ie noX st2 Y else Nn st2
theorem lc_map {g : IG} {t : IT} {ie : IE} {vs : List Nat} {Q : SO → Stt → Prop} (st0 : Stt) (f : W → Option W) : ∀ (ws acc : List W) (st : Stt),
    (∀ w ∈ ws, ∀ Y Nn, (∀ y st', f w = some y → st'.wipe vs = st0 → Y y st') → (∀ st', f w = none → st'.wipe vs = st0 → Nn st') → stepQ g t ie st0 w Y Nn) →
    st.wipe vs = st0 → acc.length + ws.length ≤ sizeLine → (∀ st', st'.wipe vs = st0 → Q (.lst (acc ++ ws.filterMap f)) st') → lcGo g t ie vs Q ws acc st
  | [], acc, st, _, e, _, q => by
    have := q st e
    rw [List.filterMap_nil, List.append_nil] at this
    exact this
  | w :: ws, acc, st, h, e, hl, q => by
    show stepQ g t ie (st.wipe vs) w (fun y st3 => acc.length < sizeLine ∧ lcGo g t ie vs Q ws (acc ++ [y]) st3) (fun st2 => lcGo g t ie vs Q ws acc st2)
    rw [List.length_cons] at hl
    rw [e]
    refine h w (List.mem_cons_self ..) _ _ (fun y st' ef es => ⟨by omega, lc_map st0 f ws _ _ (fun w' hw => h w' (List.mem_cons_of_mem _ hw)) es (by rw [List.length_append, List.length_singleton]; omega) fun st2 e2 => ?_⟩) (fun st' ef es => lc_map st0 f ws _ _ (fun w' hw => h w' (List.mem_cons_of_mem _ hw)) es (by omega) fun st2 e2 => ?_)
    · have := q st2 e2
      rw [List.filterMap_cons_some ef] at this
      rw [List.append_assoc]
      exact this
    · have := q st2 e2
      rw [List.filterMap_cons_none ef] at this
      exact this
theorem okD_mono : ∀ {d d' : Nat}, d ≤ d' → ∀ w : W, okD d w = true → okD d' w = true
  | 0, d', _, w, h => by
    cases w <;> first | (cases d' <;> first | rfl | exact h) | (exfalso; simp [okD] at h; done)
  | d + 1, 0, hd, _, _ => by omega
  | d + 1, d' + 1, hd, w, h => by
    cases w with
    | tup ws =>
      show ws.all (okD d') = true
      rw [List.all_eq_true]
      exact fun x hx => okD_mono (Nat.le_of_succ_le_succ hd) x (List.all_eq_true.mp (show ws.all (okD d) = true from h) x hx)
    | lst ws =>
      show ws.all (okD d') = true
      rw [List.all_eq_true]
      exact fun x hx => okD_mono (Nat.le_of_succ_le_succ hd) x (List.all_eq_true.mp (show ws.all (okD d) = true from h) x hx)
    | _ => exact h
def Rep (d n : Nat) (w : W) : Prop := okD d w = true ∧ (toD w).showable = true ∧ (toD w).shown.length ≤ n
theorem Rep.ok {d n : Nat} {w : W} (h : Rep d n w) (hd : d ≤ 60 := by decide) (hn : n ≤ sizeLine := by decide) : RepOk w := ⟨okD_mono hd w h.1, h.2.1, Nat.le_trans h.2.2 hn⟩
theorem Rep.up {d d' n n' : Nat} {w : W} (h : Rep d n w) (hd : d ≤ d') (hn : n ≤ n') : Rep d' n' w := ⟨okD_mono hd w h.1, h.2.1, Nat.le_trans h.2.2 hn⟩
theorem rep_int {d : Nat} {i : Int} (h : Bd i) : Rep d 201 (.int i) := by
  have hn : i.natAbs < 10 ^ 200 := by unfold Bd lim at h; omega
  refine ⟨by cases d <;> rfl, ?_, ?_⟩
  · have h7 := h.abs
    show decide (i.natAbs.log2 < 1920) = true
    refine decide_eq_true ?_
    by_cases z : i.natAbs = 0
    · rw [z]; decide
    · have := (Nat.log2_lt z).mpr h7
      omega
  · show (Str.ofString (toString i)).length ≤ 201
    rw [PySem.ofString_length]
    exact int_text_length_le10 (k := 200) (by decide) hn
theorem rep_bl {d : Nat} (b : Bool) : Rep d 5 (.bl b) := ⟨by cases d <;> rfl, rfl, by cases b <;> decide⟩
theorem rep_non {d : Nat} : Rep d 4 .non := ⟨by cases d <;> rfl, rfl, by decide⟩
theorem shown_sum {n : Nat} : ∀ (ws : List W), (∀ w ∈ ws, (toD w).shown.length ≤ n) → ((PyData.shownAll (toDs ws)).map (·.length)).sum ≤ n * ws.length ∧ (PyData.shownAll (toDs ws)).length = ws.length
  | [], _ => ⟨Nat.zero_le _, rfl⟩
  | w :: ws, h => by
    have a := shown_sum ws fun x hx => h x (List.mem_cons_of_mem _ hx)
    have b := h w (List.mem_cons_self ..)
    have e : PyData.shownAll (toDs (w :: ws)) = (toD w).shown :: PyData.shownAll (toDs ws) := rfl
    rw [e, List.map_cons, List.sum_cons, List.length_cons, List.length_cons, Nat.mul_succ]
    exact ⟨by omega, by omega⟩
theorem show_all : ∀ (ws : List W), (∀ w ∈ ws, (toD w).showable = true) → PyData.showableAll (toDs ws) = true
  | [], _ => rfl
  | w :: ws, h => by
    show ((toD w).showable && PyData.showableAll (toDs ws)) = true
    rw [h w (List.mem_cons_self ..), show_all ws fun x hx => h x (List.mem_cons_of_mem _ hx)]
    rfl
theorem rep_tup {d n : Nat} {ws : List W} (h : ∀ w ∈ ws, Rep d n w) : Rep (d + 1) (n * ws.length + 2 * ws.length + 3) (.tup ws) := by
  refine ⟨List.all_eq_true.mpr fun x hx => (h x hx).1, show_all ws fun x hx => (h x hx).2.1, ?_⟩
  obtain ⟨a, b⟩ := shown_sum ws fun x hx => (h x hx).2.2
  have := tupleText_len_le (PyData.shownAll (toDs ws))
  rw [b] at this
  exact Nat.le_trans this (by omega)
theorem rep_lst {d n : Nat} {ws : List W} (h : ∀ w ∈ ws, Rep d n w) : Rep (d + 1) (n * ws.length + 2 * ws.length + 3) (.lst ws) := by
  refine ⟨List.all_eq_true.mpr fun x hx => (h x hx).1, show_all ws fun x hx => (h x hx).2.1, ?_⟩
  obtain ⟨a, b⟩ := shown_sum ws fun x hx => (h x hx).2.2
  have := listText_len_le (PyData.shownAll (toDs ws))
  rw [b] at this
  exact Nat.le_trans this (by omega)
def ib_l_bag : IS := (sRetN (nLst (iCons (iC (.int 0)) (iCons (iC (.int 1234567891)) (iCons (iC (.int 0)) (iCons (iFz (nLc (lSeq (iSl (iVar 0) oNone (oSome (iC (.int 63))))) (gNm 1) tYes' (iFn gAbs (iCons (iVar 1) iNil)) [1])) iNil))))))
def sp_l_bag : ISp := fun ws S Q E => ∃ ns : List Int, ws = [.scr ns] ∧ ns.length ≤ 63 ∧ ∀ o, IsBag o → Q (.new o) S
def absI (j : Int) : Int := if j < 0 then -j else j
theorem ok_l_bag (ws : List W) (S : Sto) (Q : R → Sto → Prop) (E : Exn → Sto → Prop) (h : sp_l_bag ws S Q E) : bodyI 2 ib_l_bag ws S Q E := by
  obtain ⟨ns, rfl, hn, q⟩ := h
  unfold ib_l_bag
  simp only [bodyI, start0, sSeq, sNext, sNever, sCont, sBreak, sDrop, sRet, sRetN, sRet0, sRetO, sIf, sSet, sSetN, sSetP, sPar, sParEN, sParNE, sPar3, sAsg, gNm, gsNil, gsCons, gTp, sAugI, sIxO, sIxS, sAugS, stoL, setW, iVar, iC, iNil, iCons, iTup, iLst, nLst, iFz, iB, gAdd, gI, gIC, gSub, gMul, gDiv, gMod, gPow, gLt, gLe, gGt, gGe, gEq, gNe, gIn, gIsN, isN, iNeg, tTru', gTru, tBl, iChain, tAnd', tOr', tNot', tYes', iIf, iAnd, iOr, iNot, iIx, gIx, atW, iIxO, ownL, oNone, oSome, iSl, gSl, iRevL, iCall, nCall, iFn, Sh.R.fz, SO.fz, Stt.put, Stt.puts, iMtO, gAppend, gInsert, gExtend, gLen, iLenO, gAbs, gInt, gMinMax, gList, gTuple, iListRg, gIsi, tyN, gRepr, flatW, eqW, okD, eqOk, cut_13, cut_1_2, cut_1_3, cut_m2, cut_m3, cut_m4, atI_m2, atI_m3, atI_m4, iOfT, tKdIn, iKdIx, atI_0, atI_1, atI_2, atI_3, ixN_4_0, ixN_4_1, ixN_4_2, ixN_4_3, Sto.put_same, Sto.put_put, toNat_2, List.map, List.replicate, List.length_cons, List.length_nil, List.getElem?_cons_zero, List.getElem?_cons_succ, List.getElem?_nil, List.set_cons_zero, List.set_cons_succ, List.set_nil, List.cons_append, List.nil_append, List.append_nil, if_true, if_false, nLc, lSeq, gItems]
  have hc : (cutW ns none (some 63)).length ≤ 63 := by
    unfold cutW
    rw [List.length_take, List.length_drop]
    omega
  refine lc_map ⟨[.val (.scr ns), .none], S⟩ (fun w => match w with | .int i => some (.int (absI i)) | _ => none) _ _ _ (fun w hw Y Nn hY _ => ?_) rfl (by rw [List.length_map, List.length_nil, sizeLine_eq]; omega) fun st' e => ?_
  · obtain ⟨i, _, rfl⟩ := List.mem_map.mp hw
    exact hY _ _ rfl rfl
  · rw [e]
    refine q _ ⟨0, 1234567891, 0, (cutW ns none (some 63)).map absI, ?_, by omega, by omega, by omega, by omega, fun c hc => ?_⟩
    · rw [List.nil_append, List.filterMap_map, List.map_map]
      have : ((fun w : W => match w with | .int i => some (W.int (absI i)) | _ => none) ∘ W.int) = some ∘ (W.int ∘ absI) := rfl
      rw [this, List.filterMap_eq_map]
    · obtain ⟨i, _, rfl⟩ := List.mem_map.mp hc
      unfold absI
      split <;> omega
def ib_l_one : IS := (sRet (iIx (iVar 1) (iCall sp_l_take (iCons (iVar 0) (iCons (iFn gLen (iCons (iVar 1) iNil)) iNil)))))
def sp_l_one : ISp := fun ws S Q E => ∃ a xs o, ws = [.ref a, .lst xs] ∧ xs ≠ [] ∧ xs.length < 1000000000 ∧ S a = some o ∧ IsBag o ∧ ∀ x o', x ∈ xs → IsBag o' → Q (.val x) (S.put a o')
theorem ok_l_one (ws : List W) (S : Sto) (Q : R → Sto → Prop) (E : Exn → Sto → Prop) (h : sp_l_one ws S Q E) : bodyI 2 ib_l_one ws S Q E := by
  obtain ⟨a, xs, o, rfl, hx, hl, ha, hb, q⟩ := h
  unfold ib_l_one
  simp only [bodyI, start0, sSeq, sNext, sNever, sCont, sBreak, sDrop, sRet, sRetN, sRet0, sRetO, sIf, sSet, sSetN, sSetP, sPar, sParEN, sParNE, sPar3, sAsg, gNm, gsNil, gsCons, gTp, sAugI, sIxO, sIxS, sAugS, stoL, setW, iVar, iC, iNil, iCons, iTup, iLst, nLst, iFz, iB, gAdd, gI, gIC, gSub, gMul, gDiv, gMod, gPow, gLt, gLe, gGt, gGe, gEq, gNe, gIn, gIsN, isN, iNeg, tTru', gTru, tBl, iChain, tAnd', tOr', tNot', tYes', iIf, iAnd, iOr, iNot, iIx, gIx, atW, iIxO, ownL, oNone, oSome, iSl, gSl, iRevL, iCall, nCall, iFn, Sh.R.fz, SO.fz, Stt.put, Stt.puts, iMtO, gAppend, gInsert, gExtend, gLen, iLenO, gAbs, gInt, gMinMax, gList, gTuple, iListRg, gIsi, tyN, gRepr, flatW, eqW, okD, eqOk, cut_13, cut_1_2, cut_1_3, cut_m2, cut_m3, cut_m4, atI_m2, atI_m3, atI_m4, iOfT, tKdIn, iKdIx, atI_0, atI_1, atI_2, atI_3, ixN_4_0, ixN_4_1, ixN_4_2, ixN_4_3, Sto.put_same, Sto.put_put, toNat_2, List.map, List.replicate, List.length_cons, List.length_nil, List.getElem?_cons_zero, List.getElem?_cons_succ, List.getElem?_nil, List.set_cons_zero, List.set_cons_succ, List.set_nil, List.cons_append, List.nil_append, List.append_nil, if_true, if_false]
  have hp : 0 < xs.length := List.length_pos_iff.mpr hx
  refine ⟨a, xs.length, o, rfl, by omega, by unfold Bd lim; omega, ha, hb, fun r o' h0 h1 hb' => ?_⟩
  simp only [bodyI, start0, sSeq, sNext, sNever, sCont, sBreak, sDrop, sRet, sRetN, sRet0, sRetO, sIf, sSet, sSetN, sSetP, sPar, sParEN, sParNE, sPar3, sAsg, gNm, gsNil, gsCons, gTp, sAugI, sIxO, sIxS, sAugS, stoL, setW, iVar, iC, iNil, iCons, iTup, iLst, nLst, iFz, iB, gAdd, gI, gIC, gSub, gMul, gDiv, gMod, gPow, gLt, gLe, gGt, gGe, gEq, gNe, gIn, gIsN, isN, iNeg, tTru', gTru, tBl, iChain, tAnd', tOr', tNot', tYes', iIf, iAnd, iOr, iNot, iIx, gIx, atW, iIxO, ownL, oNone, oSome, iSl, gSl, iRevL, iCall, nCall, iFn, Sh.R.fz, SO.fz, Stt.put, Stt.puts, iMtO, gAppend, gInsert, gExtend, gLen, iLenO, gAbs, gInt, gMinMax, gList, gTuple, iListRg, gIsi, tyN, gRepr, flatW, eqW, okD, eqOk, cut_13, cut_1_2, cut_1_3, cut_m2, cut_m3, cut_m4, atI_m2, atI_m3, atI_m4, iOfT, tKdIn, iKdIx, atI_0, atI_1, atI_2, atI_3, ixN_4_0, ixN_4_1, ixN_4_2, ixN_4_3, Sto.put_same, Sto.put_put, toNat_2, List.map, List.replicate, List.length_cons, List.length_nil, List.getElem?_cons_zero, List.getElem?_cons_succ, List.getElem?_nil, List.set_cons_zero, List.set_cons_succ, List.set_nil, List.cons_append, List.nil_append, List.append_nil, if_true, if_false, atI_pos h0 h1]
  exact q _ _ (List.getElem_mem _) hb'
def ib_l_alike : IS := (sRet (iAnd (iB gEq (iVar 0) (iVar 1)) (iB gEq (iFn gRepr (iCons (iVar 0) iNil)) (iFn gRepr (iCons (iVar 1) iNil)))))
/-- of two things that are the same -/
def sp_l_alike : ISp := fun ws S Q E => ∃ x, ws = [x, x] ∧ RepOk x ∧ Q (.val (.bl true)) S
theorem eqW_refl : ∀ (d : Nat) (w : W), okD d w = true → eqW w w = true
  | _, .non, _ => rfl
  | _, .bl b, _ => by simp [eqW]
  | _, .int i, _ => by simp [eqW]
  | _, .str x, _ => by simp [eqW]
  | d + 1, .tup ws, h => by
    show eqWs ws ws = true
    have h2 : ws.all (okD d) = true := h
    clear h
    induction ws with
    | nil => rfl
    | cons w ws ih =>
      rw [List.all_cons, Bool.and_eq_true] at h2
      show (eqW w w && eqWs ws ws) = true
      rw [eqW_refl d w h2.1, ih h2.2]; rfl
  | d + 1, .lst ws, h => by
    show eqWs ws ws = true
    have h2 : ws.all (okD d) = true := h
    clear h
    induction ws with
    | nil => rfl
    | cons w ws ih =>
      rw [List.all_cons, Bool.and_eq_true] at h2
      show (eqW w w && eqWs ws ws) = true
      rw [eqW_refl d w h2.1, ih h2.2]; rfl
  | 0, .tup ws, h => by simp [okD] at h
  | 0, .lst ws, h => by simp [okD] at h
  | d, .dct _, h => by cases d <;> simp [okD] at h
  | d, .obj _ _, h => by cases d <;> simp [okD] at h
  | d, .ref _, h => by cases d <;> simp [okD] at h
  | d, .ty _, h => by cases d <;> simp [okD] at h
  | d, .scr _, h => by cases d <;> simp [okD] at h
theorem eqOk_of {x y : W} (hx : okD 64 x = true) (hy : okD 64 y = true) : eqOk x y = true := by
  unfold eqOk
  split
  · rfl
  · rw [hx, hy]; rfl
theorem ok_l_alike (ws : List W) (S : Sto) (Q : R → Sto → Prop) (E : Exn → Sto → Prop) (h : sp_l_alike ws S Q E) : bodyI 2 ib_l_alike ws S Q E := by
  obtain ⟨x, rfl, hr, q⟩ := h
  have h64 := okD_mono (show 60 ≤ 64 by decide) x hr.1
  unfold ib_l_alike
  show eqOk x x = true ∧ gTru (.bl (eqW x x)) fun b => if b = true then (RepOk x ∧ RepOk x ∧ eqOk (.str (toD x).shown) (.str (toD x).shown) = true ∧ Q (.val (.bl (eqW (.str (toD x).shown) (.str (toD x).shown)))) S) else Q (.val (.bl (eqW x x))) S
  refine ⟨eqOk_of h64 h64, ?_⟩
  rw [eqW_refl 64 x h64]
  refine ⟨hr, hr, rfl, ?_⟩
  have e : eqW (.str (toD x).shown) (.str (toD x).shown) = true := by simp [eqW]
  rw [e]
  exact q
def isI : W → Bool
  | .int _ => true
  | _ => false
def ib_p_is_integer : IS := (sRet (iAnd (iFn gIsi (iCons (iVar 0) (iCons (iC (.ty "int")) iNil))) (iNot (iFn gIsi (iCons (iVar 0) (iCons (iC (.ty "bool")) iNil))))))
def sp_p_is_integer : ISp := fun ws S Q E => ∃ x, ws = [x] ∧ tyN x ≠ none ∧ Q (.val (.bl (isI x))) S
theorem ok_p_is_integer (ws : List W) (S : Sto) (Q : R → Sto → Prop) (E : Exn → Sto → Prop) (h : sp_p_is_integer ws S Q E) : bodyI 1 ib_p_is_integer ws S Q E := by
  obtain ⟨x, rfl, hx, q⟩ := h
  cases x <;> first | exact absurd rfl hx | exact q
def ib_p_is_index : IS := (sRet (iAnd (iCall sp_p_is_integer (iCons (iVar 0) iNil)) (iChain gLe gLt (iC (.int 0)) (iVar 0) (iVar 1))))
def isIx (x : W) (n : Int) : Bool := match x with
  | .int i => decide (0 ≤ i) && decide (i < n)
  | _ => false
def sp_p_is_index : ISp := fun ws S Q E => ∃ x n, ws = [x, .int n] ∧ tyN x ≠ none ∧ Q (.val (.bl (isIx x n))) S
theorem ok_p_is_index (ws : List W) (S : Sto) (Q : R → Sto → Prop) (E : Exn → Sto → Prop) (h : sp_p_is_index ws S Q E) : bodyI 2 ib_p_is_index ws S Q E := by
  obtain ⟨x, n, rfl, hx, q⟩ := h
  unfold ib_p_is_index
  refine ⟨x, rfl, hx, ?_⟩
  cases x with
  | int i =>
    show if decide (0 ≤ i) = true then Q (.val (.bl (decide (i < n)))) S else Q (.val (.bl false)) S
    unfold isIx at q
    simp only at q
    refine ifb (fun c => ?_) (fun c => ?_)
    · rw [c] at q; exact q
    · rw [c] at q; exact q
  | _ => exact q
end Sh
namespace Sh
open PySem L2
open PyProof.Rows hiding St
def Cg (m a b : Int) : Prop := m ∣ a - b
theorem Cg.refl {m : Int} (a : Int) : Cg m a a := ⟨0, by grind⟩
theorem Cg.symm {m a b : Int} (h : Cg m a b) : Cg m b a := by
  obtain ⟨k, e⟩ := h
  exact ⟨-k, by grind⟩
theorem Cg.trans {m a b c : Int} (h : Cg m a b) (h2 : Cg m b c) : Cg m a c := by
  obtain ⟨k, e⟩ := h
  obtain ⟨l, e2⟩ := h2
  exact ⟨k + l, by grind⟩
theorem Cg.mul {m a b c d : Int} (h : Cg m a b) (h2 : Cg m c d) : Cg m (a * c) (b * d) := by
  obtain ⟨k, e⟩ := h
  obtain ⟨l, e2⟩ := h2
  exact ⟨k * c + b * l, by grind⟩
theorem Cg.add {m a b c d : Int} (h : Cg m a b) (h2 : Cg m c d) : Cg m (a + c) (b + d) := by
  obtain ⟨k, e⟩ := h
  obtain ⟨l, e2⟩ := h2
  exact ⟨k + l, by grind⟩
theorem Cg.pow {m a b : Int} (h : Cg m a b) : ∀ n : Nat, Cg m (a ^ n) (b ^ n)
  | 0 => by rw [Int.pow_zero, Int.pow_zero]; exact .refl _
  | n + 1 => by rw [Int.pow_succ, Int.pow_succ]; exact (Cg.pow h n).mul h
theorem cg_mod (m a : Int) : Cg m (a % m) a := ⟨-(a / m), by have := Int.mul_ediv_add_emod a m; grind⟩
theorem Cg.eq {m a b : Int} (h : Cg m a b) (h0 : 0 ≤ a) (h1 : a < m) (h2 : 0 ≤ b) (h3 : b < m) : a = b := by
  obtain ⟨k, e⟩ := h
  have hk : k = 0 := by
    by_cases z : k = 0
    · exact z
    · exfalso
      rcases Int.lt_or_gt_of_ne z with z | z
      · have : m * k ≤ m * (-1) := Int.mul_le_mul_of_nonneg_left (by omega) (by omega)
        omega
      · have : m * 1 ≤ m * k := Int.mul_le_mul_of_nonneg_left (by omega) (by omega)
        omega
  subst hk
  omega
theorem Cg.mod {m a b : Int} (h : Cg m a b) (hm : 0 < m) : a % m = b % m :=
  Cg.eq (((cg_mod m a).trans h).trans (cg_mod m b).symm) (Int.emod_nonneg _ (by omega)) (Int.emod_lt_of_pos _ hm) (Int.emod_nonneg _ (by omega)) (Int.emod_lt_of_pos _ hm)
theorem bd_lt {a m : Int} (hm : Bd m) (h0 : 0 ≤ a) (h1 : a < m) : Bd a := by unfold Bd lim at *; omega
def ib_p_power_1 : IS := (sSeq (sIf (tBl (iB gEq (iB gMod (iVar 1) (iC (.int 2))) (iC (.int 1)))) (sSet 3 (iB gMod (iB gMul (iVar 3) (iVar 4)) (iVar 2))) sNext)
    (sSeq (sSet 4 (iB gMod (iB gMul (iVar 4) (iVar 4)) (iVar 2)))
    (sSet 1 (iB gDiv (iVar 1) (iC (.int 2))))))
def ib_p_power : IS := (sSeq (sPar 3 4 (iB gMod (iC (.int 1)) (iVar 2)) (iB gMod (iVar 0) (iVar 2)))
  (sSeq (sWhile (tBl (iB gGt (iVar 1) (iC (.int 0)))) ib_p_power_1)
  (sRet (iVar 3))))
def sp_p_power : ISp := fun ws S Q E => ∃ (b : Int) (e : Nat) (m : Int), ws = [.int b, .int e, .int m] ∧ 0 < m ∧ Bd m ∧ Q (.val (.int (b ^ e % m))) S
theorem ok_p_power (ws : List W) (S : Sto) (Q : R → Sto → Prop) (E : Exn → Sto → Prop) (h : sp_p_power ws S Q E) : bodyI 5 ib_p_power ws S Q E := by
  obtain ⟨b, e, m, rfl, hm, bm, q⟩ := h
  unfold ib_p_power
  refine seq_step ⟨[.val (.int b), .val (.int e), .val (.int m), .val (.int (1 % m)), .val (.int (b % m))], S⟩ (fun nx h => ?_) ?_
  · simp only [bodyI, start0, sSeq, sNext, sNever, sCont, sBreak, sDrop, sRet, sRetN, sRet0, sRetO, sIf, sSet, sSetN, sSetP, sPar, sParEN, sParNE, sPar3, sAsg, gNm, gsNil, gsCons, gTp, sAugI, sIxO, sIxS, sAugS, stoL, setW, iVar, iC, iNil, iCons, iTup, iLst, nLst, iFz, iB, gAdd, gI, gIC, gSub, gMul, gDiv, gMod, gPow, gLt, gLe, gGt, gGe, gEq, gNe, gIn, gIsN, isN, iNeg, tTru', gTru, tBl, iChain, tAnd', tOr', tNot', tYes', iIf, iAnd, iOr, iNot, iIx, gIx, atW, iIxO, ownL, oNone, oSome, iSl, gSl, iRevL, iCall, nCall, iFn, Sh.R.fz, SO.fz, Stt.put, Stt.puts, iMtO, gAppend, gInsert, gExtend, gLen, iLenO, gAbs, gInt, gMinMax, gList, gTuple, iListRg, gIsi, tyN, gRepr, flatW, eqW, okD, eqOk, cut_13, cut_1_2, cut_1_3, cut_m2, cut_m3, cut_m4, atI_m2, atI_m3, atI_m4, iOfT, tKdIn, iKdIx, atI_0, atI_1, atI_2, atI_3, ixN_4_0, ixN_4_1, ixN_4_2, ixN_4_3, Sto.put_same, Sto.put_put, toNat_2, List.map, List.replicate, List.length_cons, List.length_nil, List.getElem?_cons_zero, List.getElem?_cons_succ, List.getElem?_nil, List.set_cons_zero, List.set_cons_succ, List.set_nil, List.cons_append, List.nil_append, List.append_nil, if_true, if_false]
    exact ⟨hm, hm, h⟩
  refine seq_cut (fun st => ∃ x1 x4, st = ⟨[.val (.int b), x1, .val (.int m), .val (.int (b ^ e % m)), x4], S⟩) (fun nx k => ?_) (fun st ⟨x1, x4, es⟩ => ?_)
  · refine ⟨fun n st => ∃ f s : Int, st = ⟨[.val (.int b), .val (.int (n : Nat)), .val (.int m), .val (.int f), .val (.int s)], S⟩ ∧ 0 ≤ f ∧ f < m ∧ 0 ≤ s ∧ s < m ∧ Cg m (f * s ^ n) (b ^ e), ⟨e, _, _, rfl, Int.emod_nonneg _ (by omega), Int.emod_lt_of_pos _ hm, Int.emod_nonneg _ (by omega), Int.emod_lt_of_pos _ hm, ?_⟩, ?_⟩
    · have := (cg_mod m 1).mul ((cg_mod m b).pow e)
      rw [Int.one_mul] at this
      exact this
    · rintro n st ⟨f, s, rfl, f0, f1, s0, s1, c⟩
      simp only [bodyI, start0, sSeq, sNext, sNever, sCont, sBreak, sDrop, sRet, sRetN, sRet0, sRetO, sIf, sSet, sSetN, sSetP, sPar, sParEN, sParNE, sPar3, sAsg, gNm, gsNil, gsCons, gTp, sAugI, sIxO, sIxS, sAugS, stoL, setW, iVar, iC, iNil, iCons, iTup, iLst, nLst, iFz, iB, gAdd, gI, gIC, gSub, gMul, gDiv, gMod, gPow, gLt, gLe, gGt, gGe, gEq, gNe, gIn, gIsN, isN, iNeg, tTru', gTru, tBl, iChain, tAnd', tOr', tNot', tYes', iIf, iAnd, iOr, iNot, iIx, gIx, atW, iIxO, ownL, oNone, oSome, iSl, gSl, iRevL, iCall, nCall, iFn, Sh.R.fz, SO.fz, Stt.put, Stt.puts, iMtO, gAppend, gInsert, gExtend, gLen, iLenO, gAbs, gInt, gMinMax, gList, gTuple, iListRg, gIsi, tyN, gRepr, flatW, eqW, okD, eqOk, cut_13, cut_1_2, cut_1_3, cut_m2, cut_m3, cut_m4, atI_m2, atI_m3, atI_m4, iOfT, tKdIn, iKdIx, atI_0, atI_1, atI_2, atI_3, ixN_4_0, ixN_4_1, ixN_4_2, ixN_4_3, Sto.put_same, Sto.put_put, toNat_2, List.map, List.replicate, List.length_cons, List.length_nil, List.getElem?_cons_zero, List.getElem?_cons_succ, List.getElem?_nil, List.set_cons_zero, List.set_cons_succ, List.set_nil, List.cons_append, List.nil_append, List.append_nil, if_true, if_false]
      refine ifb (fun z => ?_) (fun z => ?_)
      · have hn : 0 < n := by have := of_decide_eq_true z; omega
        unfold ib_p_power_1
        have go : ∀ f' : Int, 0 ≤ f' → f' < m → Cg m (f' * (s * s) ^ (n / 2)) (b ^ e) →
            sSeq (sSet 4 (iB gMod (iB gMul (iVar 4) (iVar 4)) (iVar 2))) (sSet 1 (iB gDiv (iVar 1) (iC (.int 2)))) (fun x st => E x st.S)
              { nx := fun st' => ∃ m', m' < n ∧ ∃ f s : Int, st' = ⟨[.val (.int b), .val (.int (m' : Nat)), .val (.int m), .val (.int f), .val (.int s)], S⟩ ∧ 0 ≤ f ∧ f < m ∧ 0 ≤ s ∧ s < m ∧ Cg m (f * s ^ m') (b ^ e),
                ct := fun st' => ∃ m', m' < n ∧ ∃ f s : Int, st' = ⟨[.val (.int b), .val (.int (m' : Nat)), .val (.int m), .val (.int f), .val (.int s)], S⟩ ∧ 0 ≤ f ∧ f < m ∧ 0 ≤ s ∧ s < m ∧ Cg m (f * s ^ m') (b ^ e), bk := nx, rt := Q }
              ⟨[.val (.int b), .val (.int n), .val (.int m), .val (.int f'), .val (.int s)], S⟩ := fun f' g0 g1 cf => by
          simp only [bodyI, start0, sSeq, sNext, sNever, sCont, sBreak, sDrop, sRet, sRetN, sRet0, sRetO, sIf, sSet, sSetN, sSetP, sPar, sParEN, sParNE, sPar3, sAsg, gNm, gsNil, gsCons, gTp, sAugI, sIxO, sIxS, sAugS, stoL, setW, iVar, iC, iNil, iCons, iTup, iLst, nLst, iFz, iB, gAdd, gI, gIC, gSub, gMul, gDiv, gMod, gPow, gLt, gLe, gGt, gGe, gEq, gNe, gIn, gIsN, isN, iNeg, tTru', gTru, tBl, iChain, tAnd', tOr', tNot', tYes', iIf, iAnd, iOr, iNot, iIx, gIx, atW, iIxO, ownL, oNone, oSome, iSl, gSl, iRevL, iCall, nCall, iFn, Sh.R.fz, SO.fz, Stt.put, Stt.puts, iMtO, gAppend, gInsert, gExtend, gLen, iLenO, gAbs, gInt, gMinMax, gList, gTuple, iListRg, gIsi, tyN, gRepr, flatW, eqW, okD, eqOk, cut_13, cut_1_2, cut_1_3, cut_m2, cut_m3, cut_m4, atI_m2, atI_m3, atI_m4, iOfT, tKdIn, iKdIx, atI_0, atI_1, atI_2, atI_3, ixN_4_0, ixN_4_1, ixN_4_2, ixN_4_3, Sto.put_same, Sto.put_put, toNat_2, List.map, List.replicate, List.length_cons, List.length_nil, List.getElem?_cons_zero, List.getElem?_cons_succ, List.getElem?_nil, List.set_cons_zero, List.set_cons_succ, List.set_nil, List.cons_append, List.nil_append, List.append_nil, if_true, if_false]
          refine ⟨.inl ⟨bd_lt bm s0 s1, bd_lt bm s0 s1⟩, hm, ⟨by omega, by unfold Bd lim; omega⟩, n / 2, by omega, f', s * s % m, ?_, g0, g1, Int.emod_nonneg _ (by omega), Int.emod_lt_of_pos _ hm, ?_⟩
          · rfl
          · exact ((Cg.refl f').mul ((cg_mod m (s * s)).pow _)).trans cf
        by_cases od : n % 2 = 1
        · refine seq_step ⟨[.val (.int b), .val (.int n), .val (.int m), .val (.int (f * s % m)), .val (.int s)], S⟩ (fun nx h => ?_) (go _ (Int.emod_nonneg _ (by omega)) (Int.emod_lt_of_pos _ hm) ?_)
          · simp only [bodyI, start0, sSeq, sNext, sNever, sCont, sBreak, sDrop, sRet, sRetN, sRet0, sRetO, sIf, sSet, sSetN, sSetP, sPar, sParEN, sParNE, sPar3, sAsg, gNm, gsNil, gsCons, gTp, sAugI, sIxO, sIxS, sAugS, stoL, setW, iVar, iC, iNil, iCons, iTup, iLst, nLst, iFz, iB, gAdd, gI, gIC, gSub, gMul, gDiv, gMod, gPow, gLt, gLe, gGt, gGe, gEq, gNe, gIn, gIsN, isN, iNeg, tTru', gTru, tBl, iChain, tAnd', tOr', tNot', tYes', iIf, iAnd, iOr, iNot, iIx, gIx, atW, iIxO, ownL, oNone, oSome, iSl, gSl, iRevL, iCall, nCall, iFn, Sh.R.fz, SO.fz, Stt.put, Stt.puts, iMtO, gAppend, gInsert, gExtend, gLen, iLenO, gAbs, gInt, gMinMax, gList, gTuple, iListRg, gIsi, tyN, gRepr, flatW, eqW, okD, eqOk, cut_13, cut_1_2, cut_1_3, cut_m2, cut_m3, cut_m4, atI_m2, atI_m3, atI_m4, iOfT, tKdIn, iKdIx, atI_0, atI_1, atI_2, atI_3, ixN_4_0, ixN_4_1, ixN_4_2, ixN_4_3, Sto.put_same, Sto.put_put, toNat_2, List.map, List.replicate, List.length_cons, List.length_nil, List.getElem?_cons_zero, List.getElem?_cons_succ, List.getElem?_nil, List.set_cons_zero, List.set_cons_succ, List.set_nil, List.cons_append, List.nil_append, List.append_nil, if_true, if_false]
            have e1 : ((n : Int) % 2 == 1) = true := by
              have : (n : Int) % 2 = 1 := by omega
              rw [this]; rfl
            exact ⟨by omega, rfl, ifT e1 ⟨.inl ⟨bd_lt bm f0 f1, bd_lt bm s0 s1⟩, hm, h⟩⟩
          · refine ((cg_mod m (f * s)).mul (Cg.refl _)).trans (Cg.trans ?_ c)
            have e2 : s ^ n = s * (s * s) ^ (n / 2) := by
              have : n = 2 * (n / 2) + 1 := by omega
              conv => lhs; rw [this]
              rw [Int.pow_succ, Int.pow_mul, Int.pow_succ, Int.pow_succ, Int.pow_zero, Int.one_mul, Int.mul_comm]
            rw [e2]
            exact ⟨0, by grind⟩
        · refine seq_step ⟨[.val (.int b), .val (.int n), .val (.int m), .val (.int f), .val (.int s)], S⟩ (fun nx h => ?_) (go _ f0 f1 ?_)
          · simp only [bodyI, start0, sSeq, sNext, sNever, sCont, sBreak, sDrop, sRet, sRetN, sRet0, sRetO, sIf, sSet, sSetN, sSetP, sPar, sParEN, sParNE, sPar3, sAsg, gNm, gsNil, gsCons, gTp, sAugI, sIxO, sIxS, sAugS, stoL, setW, iVar, iC, iNil, iCons, iTup, iLst, nLst, iFz, iB, gAdd, gI, gIC, gSub, gMul, gDiv, gMod, gPow, gLt, gLe, gGt, gGe, gEq, gNe, gIn, gIsN, isN, iNeg, tTru', gTru, tBl, iChain, tAnd', tOr', tNot', tYes', iIf, iAnd, iOr, iNot, iIx, gIx, atW, iIxO, ownL, oNone, oSome, iSl, gSl, iRevL, iCall, nCall, iFn, Sh.R.fz, SO.fz, Stt.put, Stt.puts, iMtO, gAppend, gInsert, gExtend, gLen, iLenO, gAbs, gInt, gMinMax, gList, gTuple, iListRg, gIsi, tyN, gRepr, flatW, eqW, okD, eqOk, cut_13, cut_1_2, cut_1_3, cut_m2, cut_m3, cut_m4, atI_m2, atI_m3, atI_m4, iOfT, tKdIn, iKdIx, atI_0, atI_1, atI_2, atI_3, ixN_4_0, ixN_4_1, ixN_4_2, ixN_4_3, Sto.put_same, Sto.put_put, toNat_2, List.map, List.replicate, List.length_cons, List.length_nil, List.getElem?_cons_zero, List.getElem?_cons_succ, List.getElem?_nil, List.set_cons_zero, List.set_cons_succ, List.set_nil, List.cons_append, List.nil_append, List.append_nil, if_true, if_false]
            have e1 : ((n : Int) % 2 == 1) = false := by
              have : (n : Int) % 2 = 0 := by omega
              rw [this]; rfl
            exact ⟨by omega, rfl, ifF e1 h⟩
          · refine Cg.trans ?_ c
            have e2 : s ^ n = (s * s) ^ (n / 2) := by
              have : n = 2 * (n / 2) := by omega
              conv => lhs; rw [this]
              rw [Int.pow_mul, Int.pow_succ, Int.pow_succ, Int.pow_zero, Int.one_mul]
            rw [e2]
            exact .refl _
      · have hn : n = 0 := by have := of_decide_eq_false z; omega
        subst hn
        have ef : f = b ^ e % m := by
          rw [Int.pow_zero, Int.mul_one] at c
          exact (c.trans (cg_mod m _).symm).eq f0 f1 (Int.emod_nonneg _ (by omega)) (Int.emod_lt_of_pos _ hm)
        subst ef
        exact k _ ⟨_, _, rfl⟩
  · subst es
    exact q
def oddP (n : Int) : Int := if n % 2 = 1 then n else n - 1
def ib_p_odd_part : IS := (sRet (iIf (tBl (iB gEq (iB gMod (iVar 0) (iC (.int 2))) (iC (.int 1)))) (iVar 0) (iB gSub (iVar 0) (iC (.int 1)))))
def sp_p_odd_part : ISp := fun ws S Q E => ∃ n : Int, ws = [.int n] ∧ Q (.val (.int (oddP n))) S
theorem ok_p_odd_part (ws : List W) (S : Sto) (Q : R → Sto → Prop) (E : Exn → Sto → Prop) (h : sp_p_odd_part ws S Q E) : bodyI 1 ib_p_odd_part ws S Q E := by
  obtain ⟨n, rfl, q⟩ := h
  unfold ib_p_odd_part
  simp only [bodyI, start0, sSeq, sNext, sNever, sCont, sBreak, sDrop, sRet, sRetN, sRet0, sRetO, sIf, sSet, sSetN, sSetP, sPar, sParEN, sParNE, sPar3, sAsg, gNm, gsNil, gsCons, gTp, sAugI, sIxO, sIxS, sAugS, stoL, setW, iVar, iC, iNil, iCons, iTup, iLst, nLst, iFz, iB, gAdd, gI, gIC, gSub, gMul, gDiv, gMod, gPow, gLt, gLe, gGt, gGe, gEq, gNe, gIn, gIsN, isN, iNeg, tTru', gTru, tBl, iChain, tAnd', tOr', tNot', tYes', iIf, iAnd, iOr, iNot, iIx, gIx, atW, iIxO, ownL, oNone, oSome, iSl, gSl, iRevL, iCall, nCall, iFn, Sh.R.fz, SO.fz, Stt.put, Stt.puts, iMtO, gAppend, gInsert, gExtend, gLen, iLenO, gAbs, gInt, gMinMax, gList, gTuple, iListRg, gIsi, tyN, gRepr, flatW, eqW, okD, eqOk, cut_13, cut_1_2, cut_1_3, cut_m2, cut_m3, cut_m4, atI_m2, atI_m3, atI_m4, iOfT, tKdIn, iKdIx, atI_0, atI_1, atI_2, atI_3, ixN_4_0, ixN_4_1, ixN_4_2, ixN_4_3, Sto.put_same, Sto.put_put, toNat_2, List.map, List.replicate, List.length_cons, List.length_nil, List.getElem?_cons_zero, List.getElem?_cons_succ, List.getElem?_nil, List.set_cons_zero, List.set_cons_succ, List.set_nil, List.cons_append, List.nil_append, List.append_nil, if_true, if_false]
  refine ⟨by omega, rfl, ifb (fun z => ?_) (fun z => ?_)⟩
  · have : n % 2 = 1 := by simpa using z
    unfold oddP at q
    rw [if_pos this] at q
    exact q
  · have : ¬ n % 2 = 1 := by simpa using z
    unfold oddP at q
    rw [if_neg this] at q
    exact q
/-- where a row comes to -/
def stp (n x k : Int) : Int := if x = oddP n then x else if 0 ≤ k then x * (((oddP n + 1) / 2) ^ k.toNat % oddP n) % oddP n else x * (2 ^ (-k).toNat % oddP n) % oddP n
def ib_p_stepped : IS := (sSeq (sIf (tNot' (tTru' (iCall sp_p_is_index (iCons (iVar 1) (iCons (iVar 0) iNil))))) sNever sNext)
  (sSeq (sSet 3 (iCall sp_p_odd_part (iCons (iVar 0) iNil)))
  (sSeq (sIf (tBl (iB gEq (iVar 1) (iVar 3))) (sRet (iVar 1)) sNext)
  (sSeq (sSet 4 (iIf (tBl (iB gGe (iVar 2) (iC (.int 0)))) (iCall sp_p_power (iCons (iB gDiv (iB gAdd (iVar 3) (iC (.int 1))) (iC (.int 2))) (iCons (iVar 2) (iCons (iVar 3) iNil)))) (iCall sp_p_power (iCons (iC (.int 2)) (iCons (iNeg (iVar 2)) (iCons (iVar 3) iNil))))))
  (sRet (iB gMod (iB gMul (iVar 1) (iVar 4)) (iVar 3)))))))
def sp_p_stepped : ISp := fun ws S Q E => ∃ n x k : Int, ws = [.int n, .int x, .int k] ∧ 0 ≤ x ∧ x < n ∧ Bd n ∧ Q (.val (.int (stp n x k))) S
theorem oddP_pos {n x : Int} (h0 : 0 ≤ x) (h1 : x < n) (hx : x ≠ oddP n) : 0 < oddP n := by
  unfold oddP at *
  split <;> rename_i z
  · omega
  · rw [if_neg z] at hx; omega
theorem oddP_bd {n : Int} (h : Bd n) (hn : 0 < n) : Bd (oddP n) := by
  unfold Bd lim oddP at *
  split <;> omega
theorem ok_p_stepped (ws : List W) (S : Sto) (Q : R → Sto → Prop) (E : Exn → Sto → Prop) (h : sp_p_stepped ws S Q E) : bodyI 5 ib_p_stepped ws S Q E := by
  obtain ⟨n, x, k, rfl, h0, h1, bn, q⟩ := h
  unfold ib_p_stepped
  have bo := oddP_bd bn (by omega)
  refine seq_step ⟨[.val (.int n), .val (.int x), .val (.int k), .none, .none], S⟩ (fun nx h => ?_) ?_
  · refine ⟨.int x, n, rfl, (fun z => by cases z), ?_⟩
    have e : isIx (.int x) n = true := by
      show (decide (0 ≤ x) && decide (x < n)) = true
      rw [decide_eq_true h0, decide_eq_true h1]; rfl
    rw [e]
    exact h
  refine seq_step ⟨[.val (.int n), .val (.int x), .val (.int k), .val (.int (oddP n)), .none], S⟩ (fun nx h => ⟨n, rfl, h⟩) ?_
  by_cases z : x = oddP n
  · have e : stp n x k = x := if_pos z
    rw [e] at q
    refine seq_end fun nx => ?_
    simp only [bodyI, start0, sSeq, sNext, sNever, sCont, sBreak, sDrop, sRet, sRetN, sRet0, sRetO, sIf, sSet, sSetN, sSetP, sPar, sParEN, sParNE, sPar3, sAsg, gNm, gsNil, gsCons, gTp, sAugI, sIxO, sIxS, sAugS, stoL, setW, iVar, iC, iNil, iCons, iTup, iLst, nLst, iFz, iB, gAdd, gI, gIC, gSub, gMul, gDiv, gMod, gPow, gLt, gLe, gGt, gGe, gEq, gNe, gIn, gIsN, isN, iNeg, tTru', gTru, tBl, iChain, tAnd', tOr', tNot', tYes', iIf, iAnd, iOr, iNot, iIx, gIx, atW, iIxO, ownL, oNone, oSome, iSl, gSl, iRevL, iCall, nCall, iFn, Sh.R.fz, SO.fz, Stt.put, Stt.puts, iMtO, gAppend, gInsert, gExtend, gLen, iLenO, gAbs, gInt, gMinMax, gList, gTuple, iListRg, gIsi, tyN, gRepr, flatW, eqW, okD, eqOk, cut_13, cut_1_2, cut_1_3, cut_m2, cut_m3, cut_m4, atI_m2, atI_m3, atI_m4, iOfT, tKdIn, iKdIx, atI_0, atI_1, atI_2, atI_3, ixN_4_0, ixN_4_1, ixN_4_2, ixN_4_3, Sto.put_same, Sto.put_put, toNat_2, List.map, List.replicate, List.length_cons, List.length_nil, List.getElem?_cons_zero, List.getElem?_cons_succ, List.getElem?_nil, List.set_cons_zero, List.set_cons_succ, List.set_nil, List.cons_append, List.nil_append, List.append_nil, if_true, if_false]
    exact ⟨rfl, ifT (beq_iff_eq.mpr z) q⟩
  · have op := oddP_pos h0 h1 z
    have e : stp n x k = if 0 ≤ k then x * (((oddP n + 1) / 2) ^ k.toNat % oddP n) % oddP n else x * (2 ^ (-k).toNat % oddP n) % oddP n := if_neg z
    rw [e] at q
    refine seq_step ⟨[.val (.int n), .val (.int x), .val (.int k), .val (.int (oddP n)), .none], S⟩ (fun nx h => ?_) ?_
    · simp only [bodyI, start0, sSeq, sNext, sNever, sCont, sBreak, sDrop, sRet, sRetN, sRet0, sRetO, sIf, sSet, sSetN, sSetP, sPar, sParEN, sParNE, sPar3, sAsg, gNm, gsNil, gsCons, gTp, sAugI, sIxO, sIxS, sAugS, stoL, setW, iVar, iC, iNil, iCons, iTup, iLst, nLst, iFz, iB, gAdd, gI, gIC, gSub, gMul, gDiv, gMod, gPow, gLt, gLe, gGt, gGe, gEq, gNe, gIn, gIsN, isN, iNeg, tTru', gTru, tBl, iChain, tAnd', tOr', tNot', tYes', iIf, iAnd, iOr, iNot, iIx, gIx, atW, iIxO, ownL, oNone, oSome, iSl, gSl, iRevL, iCall, nCall, iFn, Sh.R.fz, SO.fz, Stt.put, Stt.puts, iMtO, gAppend, gInsert, gExtend, gLen, iLenO, gAbs, gInt, gMinMax, gList, gTuple, iListRg, gIsi, tyN, gRepr, flatW, eqW, okD, eqOk, cut_13, cut_1_2, cut_1_3, cut_m2, cut_m3, cut_m4, atI_m2, atI_m3, atI_m4, iOfT, tKdIn, iKdIx, atI_0, atI_1, atI_2, atI_3, ixN_4_0, ixN_4_1, ixN_4_2, ixN_4_3, Sto.put_same, Sto.put_put, toNat_2, List.map, List.replicate, List.length_cons, List.length_nil, List.getElem?_cons_zero, List.getElem?_cons_succ, List.getElem?_nil, List.set_cons_zero, List.set_cons_succ, List.set_nil, List.cons_append, List.nil_append, List.append_nil, if_true, if_false]
      exact ⟨rfl, ifF (beq_eq_false_iff_ne.mpr z) h⟩
    · have fin : ∀ y : Int, 0 ≤ y → y < oddP n → Q (.val (.int (x * y % oddP n))) S → sRet (iB gMod (iB gMul (iVar 1) (iVar 4)) (iVar 3)) (fun x st => E x st.S) { nx := fun st => Q (.val .non) st.S, rt := Q } ⟨[.val (.int n), .val (.int x), .val (.int k), .val (.int (oddP n)), .val (.int y)], S⟩ := fun y y0 y1 q => by
        simp only [bodyI, start0, sSeq, sNext, sNever, sCont, sBreak, sDrop, sRet, sRetN, sRet0, sRetO, sIf, sSet, sSetN, sSetP, sPar, sParEN, sParNE, sPar3, sAsg, gNm, gsNil, gsCons, gTp, sAugI, sIxO, sIxS, sAugS, stoL, setW, iVar, iC, iNil, iCons, iTup, iLst, nLst, iFz, iB, gAdd, gI, gIC, gSub, gMul, gDiv, gMod, gPow, gLt, gLe, gGt, gGe, gEq, gNe, gIn, gIsN, isN, iNeg, tTru', gTru, tBl, iChain, tAnd', tOr', tNot', tYes', iIf, iAnd, iOr, iNot, iIx, gIx, atW, iIxO, ownL, oNone, oSome, iSl, gSl, iRevL, iCall, nCall, iFn, Sh.R.fz, SO.fz, Stt.put, Stt.puts, iMtO, gAppend, gInsert, gExtend, gLen, iLenO, gAbs, gInt, gMinMax, gList, gTuple, iListRg, gIsi, tyN, gRepr, flatW, eqW, okD, eqOk, cut_13, cut_1_2, cut_1_3, cut_m2, cut_m3, cut_m4, atI_m2, atI_m3, atI_m4, iOfT, tKdIn, iKdIx, atI_0, atI_1, atI_2, atI_3, ixN_4_0, ixN_4_1, ixN_4_2, ixN_4_3, Sto.put_same, Sto.put_put, toNat_2, List.map, List.replicate, List.length_cons, List.length_nil, List.getElem?_cons_zero, List.getElem?_cons_succ, List.getElem?_nil, List.set_cons_zero, List.set_cons_succ, List.set_nil, List.cons_append, List.nil_append, List.append_nil, if_true, if_false]
        exact ⟨.inl ⟨bd_lt bn h0 h1, bd_lt bo y0 y1⟩, op, q⟩
      by_cases hk : 0 ≤ k
      · rw [if_pos hk] at q
        refine seq_step _ (fun nx h => ?_) (fin (((oddP n + 1) / 2) ^ k.toNat % oddP n) (Int.emod_nonneg _ (by omega)) (Int.emod_lt_of_pos _ op) q)
        simp only [bodyI, start0, sSeq, sNext, sNever, sCont, sBreak, sDrop, sRet, sRetN, sRet0, sRetO, sIf, sSet, sSetN, sSetP, sPar, sParEN, sParNE, sPar3, sAsg, gNm, gsNil, gsCons, gTp, sAugI, sIxO, sIxS, sAugS, stoL, setW, iVar, iC, iNil, iCons, iTup, iLst, nLst, iFz, iB, gAdd, gI, gIC, gSub, gMul, gDiv, gMod, gPow, gLt, gLe, gGt, gGe, gEq, gNe, gIn, gIsN, isN, iNeg, tTru', gTru, tBl, iChain, tAnd', tOr', tNot', tYes', iIf, iAnd, iOr, iNot, iIx, gIx, atW, iIxO, ownL, oNone, oSome, iSl, gSl, iRevL, iCall, nCall, iFn, Sh.R.fz, SO.fz, Stt.put, Stt.puts, iMtO, gAppend, gInsert, gExtend, gLen, iLenO, gAbs, gInt, gMinMax, gList, gTuple, iListRg, gIsi, tyN, gRepr, flatW, eqW, okD, eqOk, cut_13, cut_1_2, cut_1_3, cut_m2, cut_m3, cut_m4, atI_m2, atI_m3, atI_m4, iOfT, tKdIn, iKdIx, atI_0, atI_1, atI_2, atI_3, ixN_4_0, ixN_4_1, ixN_4_2, ixN_4_3, Sto.put_same, Sto.put_put, toNat_2, List.map, List.replicate, List.length_cons, List.length_nil, List.getElem?_cons_zero, List.getElem?_cons_succ, List.getElem?_nil, List.set_cons_zero, List.set_cons_succ, List.set_nil, List.cons_append, List.nil_append, List.append_nil, if_true, if_false]
        refine ifT (decide_eq_true hk) ⟨⟨by omega, by unfold Bd lim; omega⟩, (oddP n + 1) / 2, k.toNat, oddP n, ?_, op, bo, h⟩
        rw [Int.toNat_of_nonneg hk]
      · rw [if_neg hk] at q
        refine seq_step _ (fun nx h => ?_) (fin (2 ^ (-k).toNat % oddP n) (Int.emod_nonneg _ (by omega)) (Int.emod_lt_of_pos _ op) q)
        simp only [bodyI, start0, sSeq, sNext, sNever, sCont, sBreak, sDrop, sRet, sRetN, sRet0, sRetO, sIf, sSet, sSetN, sSetP, sPar, sParEN, sParNE, sPar3, sAsg, gNm, gsNil, gsCons, gTp, sAugI, sIxO, sIxS, sAugS, stoL, setW, iVar, iC, iNil, iCons, iTup, iLst, nLst, iFz, iB, gAdd, gI, gIC, gSub, gMul, gDiv, gMod, gPow, gLt, gLe, gGt, gGe, gEq, gNe, gIn, gIsN, isN, iNeg, tTru', gTru, tBl, iChain, tAnd', tOr', tNot', tYes', iIf, iAnd, iOr, iNot, iIx, gIx, atW, iIxO, ownL, oNone, oSome, iSl, gSl, iRevL, iCall, nCall, iFn, Sh.R.fz, SO.fz, Stt.put, Stt.puts, iMtO, gAppend, gInsert, gExtend, gLen, iLenO, gAbs, gInt, gMinMax, gList, gTuple, iListRg, gIsi, tyN, gRepr, flatW, eqW, okD, eqOk, cut_13, cut_1_2, cut_1_3, cut_m2, cut_m3, cut_m4, atI_m2, atI_m3, atI_m4, iOfT, tKdIn, iKdIx, atI_0, atI_1, atI_2, atI_3, ixN_4_0, ixN_4_1, ixN_4_2, ixN_4_3, Sto.put_same, Sto.put_put, toNat_2, List.map, List.replicate, List.length_cons, List.length_nil, List.getElem?_cons_zero, List.getElem?_cons_succ, List.getElem?_nil, List.set_cons_zero, List.set_cons_succ, List.set_nil, List.cons_append, List.nil_append, List.append_nil, if_true, if_false]
        refine ifF (decide_eq_false hk) ⟨2, (-k).toNat, oddP n, ?_, op, bo, h⟩
        rw [Int.toNat_of_nonneg (by omega)]
end Sh
namespace Sh
open PySem L2
open PyProof.Rows hiding St
def ib_p_common_1 : IS := (sPar 0 1 (iVar 1) (iB gMod (iVar 0) (iVar 1)))
def ib_p_common : IS := (sSeq (sWhile (tTru' (iVar 1)) ib_p_common_1)
  (sRet (iVar 0)))
def sp_p_common : ISp := fun ws S Q E => ∃ a b : Nat, ws = [.int a, .int b] ∧ Q (.val (.int (Nat.gcd a b))) S
theorem ok_p_common (ws : List W) (S : Sto) (Q : R → Sto → Prop) (E : Exn → Sto → Prop) (h : sp_p_common ws S Q E) : bodyI 2 ib_p_common ws S Q E := by
  obtain ⟨a, b, rfl, q⟩ := h
  unfold ib_p_common
  refine seq_cut (fun st => st = ⟨[.val (.int (Nat.gcd a b)), .val (.int 0)], S⟩) (fun nx k => ?_) (fun st es => ?_)
  · refine ⟨fun n st => ∃ c : Nat, st = ⟨[.val (.int c), .val (.int (n : Nat))], S⟩ ∧ Nat.gcd c n = Nat.gcd a b, ⟨b, a, rfl, rfl⟩, ?_⟩
    rintro n st ⟨c, rfl, hg⟩
    unfold ib_p_common_1
    simp only [bodyI, start0, sSeq, sNext, sNever, sCont, sBreak, sDrop, sRet, sRetN, sRet0, sRetO, sIf, sSet, sSetN, sSetP, sPar, sParEN, sParNE, sPar3, sAsg, gNm, gsNil, gsCons, gTp, sAugI, sIxO, sIxS, sAugS, stoL, setW, iVar, iC, iNil, iCons, iTup, iLst, nLst, iFz, iB, gAdd, gI, gIC, gSub, gMul, gDiv, gMod, gPow, gLt, gLe, gGt, gGe, gEq, gNe, gIn, gIsN, isN, iNeg, tTru', gTru, tBl, iChain, tAnd', tOr', tNot', tYes', iIf, iAnd, iOr, iNot, iIx, gIx, atW, iIxO, ownL, oNone, oSome, iSl, gSl, iRevL, iCall, nCall, iFn, Sh.R.fz, SO.fz, Stt.put, Stt.puts, iMtO, gAppend, gInsert, gExtend, gLen, iLenO, gAbs, gInt, gMinMax, gList, gTuple, iListRg, gIsi, tyN, gRepr, flatW, eqW, okD, eqOk, cut_13, cut_1_2, cut_1_3, cut_m2, cut_m3, cut_m4, atI_m2, atI_m3, atI_m4, iOfT, tKdIn, iKdIx, atI_0, atI_1, atI_2, atI_3, ixN_4_0, ixN_4_1, ixN_4_2, ixN_4_3, Sto.put_same, Sto.put_put, toNat_2, List.map, List.replicate, List.length_cons, List.length_nil, List.getElem?_cons_zero, List.getElem?_cons_succ, List.getElem?_nil, List.set_cons_zero, List.set_cons_succ, List.set_nil, List.cons_append, List.nil_append, List.append_nil, if_true, if_false]
    refine ifb (fun z => ?_) (fun z => ?_)
    · have hn : n ≠ 0 := by intro e; subst e; simp at z
      refine ⟨by omega, c % n, Nat.mod_lt _ (by omega), n, rfl, ?_⟩
      rw [← hg, Nat.gcd_comm c n, Nat.gcd_rec n c, Nat.gcd_comm]
    · have hn : n = 0 := by
        have : ((n : Int) != 0) = false := z
        simpa using this
      subst hn
      rw [Nat.gcd_zero_right] at hg
      subst hg
      exact k _ rfl
  · subst es
    exact q
def IsOrd (m b : Int) (r : Nat) : Prop := 1 ≤ r ∧ Cg m (b ^ r) 1 ∧ ∀ s, 1 ≤ s → s < r → ¬ Cg m (b ^ s) 1
def ib_p_order_of_1 : IS := (sPar 2 3 (iB gAdd (iVar 2) (iC (.int 1))) (iB gMod (iB gMul (iVar 3) (iVar 0)) (iVar 1)))
def ib_p_order_of : IS := (sSeq (sPar 2 3 (iC (.int 1)) (iB gMod (iVar 0) (iVar 1)))
  (sSeq (sWhile (tBl (iB gNe (iVar 3) (iB gMod (iC (.int 1)) (iVar 1)))) ib_p_order_of_1)
  (sRet (iVar 2))))
def sp_p_order_of : ISp := fun ws S Q E => ∃ (b m : Int) (r0 : Nat), ws = [.int b, .int m] ∧ 0 < m ∧ Bd m ∧ Bd b ∧ 1 ≤ r0 ∧ Cg m (b ^ r0) 1 ∧ ∀ r : Nat, IsOrd m b r → Q (.val (.int r)) S
theorem ok_p_order_of (ws : List W) (S : Sto) (Q : R → Sto → Prop) (E : Exn → Sto → Prop) (h : sp_p_order_of ws S Q E) : bodyI 4 ib_p_order_of ws S Q E := by
  obtain ⟨b, m, r0, rfl, hm, bm, bb, hr, hc, q⟩ := h
  unfold ib_p_order_of
  refine seq_step ⟨[.val (.int b), .val (.int m), .val (.int 1), .val (.int (b % m))], S⟩ (fun nx h => ?_) ?_
  · simp only [bodyI, start0, sSeq, sNext, sNever, sCont, sBreak, sDrop, sRet, sRetN, sRet0, sRetO, sIf, sSet, sSetN, sSetP, sPar, sParEN, sParNE, sPar3, sAsg, gNm, gsNil, gsCons, gTp, sAugI, sIxO, sIxS, sAugS, stoL, setW, iVar, iC, iNil, iCons, iTup, iLst, nLst, iFz, iB, gAdd, gI, gIC, gSub, gMul, gDiv, gMod, gPow, gLt, gLe, gGt, gGe, gEq, gNe, gIn, gIsN, isN, iNeg, tTru', gTru, tBl, iChain, tAnd', tOr', tNot', tYes', iIf, iAnd, iOr, iNot, iIx, gIx, atW, iIxO, ownL, oNone, oSome, iSl, gSl, iRevL, iCall, nCall, iFn, Sh.R.fz, SO.fz, Stt.put, Stt.puts, iMtO, gAppend, gInsert, gExtend, gLen, iLenO, gAbs, gInt, gMinMax, gList, gTuple, iListRg, gIsi, tyN, gRepr, flatW, eqW, okD, eqOk, cut_13, cut_1_2, cut_1_3, cut_m2, cut_m3, cut_m4, atI_m2, atI_m3, atI_m4, iOfT, tKdIn, iKdIx, atI_0, atI_1, atI_2, atI_3, ixN_4_0, ixN_4_1, ixN_4_2, ixN_4_3, Sto.put_same, Sto.put_put, toNat_2, List.map, List.replicate, List.length_cons, List.length_nil, List.getElem?_cons_zero, List.getElem?_cons_succ, List.getElem?_nil, List.set_cons_zero, List.set_cons_succ, List.set_nil, List.cons_append, List.nil_append, List.append_nil, if_true, if_false]
    exact ⟨hm, h⟩
  refine seq_cut (fun st => ∃ (r : Nat) (x : Slot), st = ⟨[.val (.int b), .val (.int m), .val (.int r), x], S⟩ ∧ IsOrd m b r) (fun nx k => ?_) (fun st ⟨r, x, es, ho⟩ => ?_)
  · refine ⟨fun n st => ∃ r : Nat, n + r = r0 ∧ 1 ≤ r ∧ (∀ s, 1 ≤ s → s < r → ¬ Cg m (b ^ s) 1) ∧ st = ⟨[.val (.int b), .val (.int m), .val (.int r), .val (.int (b ^ r % m))], S⟩, ⟨r0 - 1, 1, by omega, by omega, fun s h1 h2 => by omega, by rw [Int.pow_succ, Int.pow_zero, Int.one_mul]; rfl⟩, ?_⟩
    rintro n st ⟨r, hn, h1, hmin, rfl⟩
    unfold ib_p_order_of_1
    simp only [bodyI, start0, sSeq, sNext, sNever, sCont, sBreak, sDrop, sRet, sRetN, sRet0, sRetO, sIf, sSet, sSetN, sSetP, sPar, sParEN, sParNE, sPar3, sAsg, gNm, gsNil, gsCons, gTp, sAugI, sIxO, sIxS, sAugS, stoL, setW, iVar, iC, iNil, iCons, iTup, iLst, nLst, iFz, iB, gAdd, gI, gIC, gSub, gMul, gDiv, gMod, gPow, gLt, gLe, gGt, gGe, gEq, gNe, gIn, gIsN, isN, iNeg, tTru', gTru, tBl, iChain, tAnd', tOr', tNot', tYes', iIf, iAnd, iOr, iNot, iIx, gIx, atW, iIxO, ownL, oNone, oSome, iSl, gSl, iRevL, iCall, nCall, iFn, Sh.R.fz, SO.fz, Stt.put, Stt.puts, iMtO, gAppend, gInsert, gExtend, gLen, iLenO, gAbs, gInt, gMinMax, gList, gTuple, iListRg, gIsi, tyN, gRepr, flatW, eqW, okD, eqOk, cut_13, cut_1_2, cut_1_3, cut_m2, cut_m3, cut_m4, atI_m2, atI_m3, atI_m4, iOfT, tKdIn, iKdIx, atI_0, atI_1, atI_2, atI_3, ixN_4_0, ixN_4_1, ixN_4_2, ixN_4_3, Sto.put_same, Sto.put_put, toNat_2, List.map, List.replicate, List.length_cons, List.length_nil, List.getElem?_cons_zero, List.getElem?_cons_succ, List.getElem?_nil, List.set_cons_zero, List.set_cons_succ, List.set_nil, List.cons_append, List.nil_append, List.append_nil, if_true, if_false]
    refine ⟨hm, rfl, ifb (fun z => ?_) (fun z => ?_)⟩
    · have ne : ¬ Cg m (b ^ r) 1 := fun c => by
        have := c.mod hm
        rw [this] at z
        simp at z
      have hn0 : n ≠ 0 := fun e => by
        rw [e, Nat.zero_add] at hn
        subst hn
        exact ne hc
      refine ⟨.inl ⟨bd_lt bm (Int.emod_nonneg _ (by omega)) (Int.emod_lt_of_pos _ hm), bb⟩, hm, n - 1, by omega, r + 1, by omega, by omega, fun s g1 g2 => ?_, ?_⟩
      · by_cases e : s = r
        · rw [e]; exact ne
        · exact hmin s g1 (by omega)
      · have e : b ^ r % m * b % m = b ^ (r + 1) % m := by
          rw [Int.pow_succ]
          exact ((cg_mod m _).mul (.refl b)).mod hm
        rw [e]
        rfl
    · have c : Cg m (b ^ r) 1 := by
        have e : b ^ r % m = 1 % m := by simpa using z
        have := (cg_mod m (b ^ r)).symm
        rw [e] at this
        exact this.trans (cg_mod m 1)
      exact k _ ⟨r, _, rfl, h1, c, hmin⟩
  · subst es
    exact q r ho
def Pr (d : Nat) : Prop := 2 ≤ d ∧ ∀ e, 2 ≤ e → e < d → ¬ e ∣ d
open Classical in
/-- the prime divisors of n below k -/
noncomputable def prims (n : Nat) (k : Nat) : List Nat := (List.range k).filter fun d => decide (Pr d ∧ d ∣ n)
theorem prims_mem {n k d : Nat} : d ∈ prims n k ↔ d < k ∧ Pr d ∧ d ∣ n := by
  unfold prims
  rw [List.mem_filter, List.mem_range]
  simp
theorem prims_yes {n k : Nat} (h : Pr k ∧ k ∣ n) : prims n (k + 1) = prims n k ++ [k] := by
  unfold prims
  rw [List.range_succ, List.filter_append]
  simp [h]
theorem prims_no {n k : Nat} (h : ¬ (Pr k ∧ k ∣ n)) : prims n (k + 1) = prims n k := by
  unfold prims
  rw [List.range_succ, List.filter_append]
  simp [h]
theorem prims_two {n : Nat} : prims n 2 = [] := by
  have e0 : ¬ (Pr 0 ∧ 0 ∣ n) := fun h => by have := h.1.1; omega
  have e1 : ¬ (Pr 1 ∧ 1 ∣ n) := fun h => by have := h.1.1; omega
  rw [prims_no e1, prims_no e0]
  rfl
/-- all of them -/
noncomputable def primes (n : Nat) : List Nat := prims n (n + 1)
theorem prims_far {n k : Nat} (hn : 0 < n) : ∀ j, prims n (n + 1 + j) = primes n
  | 0 => rfl
  | j + 1 => by
    have e : n + 1 + (j + 1) = (n + 1 + j) + 1 := rfl
    rw [e, prims_no fun h => by have := Nat.le_of_dvd hn h.2; omega]
    exact prims_far hn (k := k) j
theorem prims_less {n k : Nat} (h : ∀ d, k ≤ d → Pr d → ¬ d ∣ n) : ∀ j, prims n (k + j) = prims n k
  | 0 => rfl
  | j + 1 => by
    have e : k + (j + 1) = (k + j) + 1 := rfl
    rw [e, prims_no fun z => h (k + j) (by omega) z.1 z.2]
    exact prims_less h j
theorem prims_all {n k : Nat} (hn : 0 < n) (h : ∀ d, k ≤ d → Pr d → ¬ d ∣ n) : prims n k = primes n := by
  rw [← prims_less h (n + 1), ← prims_far hn (k := k) k]
  congr 1
  omega
theorem primes_mem {n d : Nat} (hn : 0 < n) : d ∈ primes n ↔ Pr d ∧ d ∣ n := by
  unfold primes
  rw [prims_mem]
  exact ⟨fun h => h.2, fun h => ⟨by have := Nat.le_of_dvd hn h.2; omega, h⟩⟩
theorem Pr.coprime {p q : Nat} (hp : Pr p) (hq : Pr q) (h : p ≠ q) : Nat.Coprime p q := by
  have d1 := Nat.gcd_dvd_left p q
  have d2 := Nat.gcd_dvd_right p q
  have p1 : 0 < Nat.gcd p q := Nat.gcd_pos_of_pos_left _ (by have := hp.1; omega)
  have l1 := Nat.le_of_dvd (by have := hp.1; omega) d1
  have l2 := Nat.le_of_dvd (by have := hq.1; omega) d2
  unfold Nat.Coprime
  by_cases z : Nat.gcd p q = 1
  · exact z
  · exfalso
    have e1 : Nat.gcd p q = p := by
      by_cases w : Nat.gcd p q < p
      · exact absurd d1 (hp.2 _ (by omega) w)
      · omega
    have e2 : Nat.gcd p q = q := by
      by_cases w : Nat.gcd p q < q
      · exact absurd d2 (hq.2 _ (by omega) w)
      · omega
    omega
def ib_p_primes_of_1 : IS := (sSet 0 (iB gDiv (iVar 0) (iVar 2)))
def ib_p_primes_of_2 : IS := (sSeq (sIf (tBl (iB gEq (iB gMod (iVar 0) (iVar 2)) (iC (.int 0)))) (sSeq (sDrop (iMtO 1 gAppend (iCons (iVar 2) iNil)))
      (sWhile (tBl (iB gEq (iB gMod (iVar 0) (iVar 2)) (iC (.int 0)))) ib_p_primes_of_1)) sNext)
    (sAugI 2 (· + ·) (iC (.int 1))))
def ib_p_primes_of : IS := (sSeq (sParNE 1 2 (nLst iNil) (iC (.int 2)))
  (sSeq (sWhile (tBl (iB gGt (iVar 0) (iC (.int 1)))) ib_p_primes_of_2)
  (sRetO 1)))
def natW (ps : List Nat) : List W := ps.map fun (p : Nat) => W.int (p : Int)
def sp_p_primes_of : ISp := fun ws S Q E => ∃ n : Nat, ws = [.int n] ∧ 0 < n ∧ n ≤ 10000000 ∧ Q (.new (.lst (natW (primes n)))) S
theorem prims_len (n k : Nat) : (prims n k).length ≤ k := by
  unfold prims
  refine Nat.le_trans (List.length_filter_le _ _) ?_
  rw [List.length_range]
  omega
/-- where the walk stands -/
def PrAt (n0 n d : Nat) : Prop := 0 < n ∧ n ∣ n0 ∧ 2 ≤ d ∧ (∀ e, 2 ≤ e → e < d → ¬ e ∣ n) ∧ ∀ p, d ≤ p → Pr p → p ∣ n0 → p ∣ n
theorem PrAt.prime {n0 n d : Nat} (h : PrAt n0 n d) (hd : d ∣ n) : Pr d := ⟨h.2.2.1, fun e e1 e2 e3 => h.2.2.2.1 e e1 e2 (Nat.dvd_trans e3 hd)⟩
theorem PrAt.next {n0 n d : Nat} (h : PrAt n0 n d) (hd : ¬ d ∣ n) : PrAt n0 n (d + 1) := by
  obtain ⟨h1, h2, h3, h4, h5⟩ := h
  refine ⟨h1, h2, by omega, fun e e1 e2 => ?_, fun p p1 => h5 p (by omega)⟩
  by_cases z : e = d
  · rw [z]; exact hd
  · exact h4 e e1 (by omega)
/-- what is left behind a factor -/
def PrIn (n0 n d : Nat) : Prop := 0 < n ∧ n ∣ n0 ∧ (∀ e, 2 ≤ e → e < d → ¬ e ∣ n) ∧ ∀ p, d + 1 ≤ p → Pr p → p ∣ n0 → p ∣ n
theorem PrIn.less {n0 n d : Nat} (h : PrIn n0 n d) (pd : Pr d) (hd : d ∣ n) : PrIn n0 (n / d) d := by
  obtain ⟨h1, h2, h4, h5⟩ := h
  have dp : 0 < d := by have := pd.1; omega
  have e : n = d * (n / d) := (Nat.mul_div_cancel' hd).symm
  have dv : n / d ∣ n := ⟨d, by rw [Nat.mul_comm]; exact e⟩
  refine ⟨Nat.div_pos (Nat.le_of_dvd h1 hd) dp, Nat.dvd_trans dv h2, fun x x1 x2 x3 => h4 x x1 x2 (Nat.dvd_trans x3 dv), fun p p1 p2 p3 => ?_⟩
  have := h5 p p1 p2 p3
  rw [e, Nat.mul_comm] at this
  exact Nat.Coprime.dvd_of_dvd_mul_right (p2.coprime pd (by omega)) this
theorem ok_p_primes_of (ws : List W) (S : Sto) (Q : R → Sto → Prop) (E : Exn → Sto → Prop) (h : sp_p_primes_of ws S Q E) : bodyI 3 ib_p_primes_of ws S Q E := by
  obtain ⟨n0, rfl, hn, hb, q⟩ := h
  unfold ib_p_primes_of
  refine seq_step ⟨[.val (.int n0), .own (.lst []), .val (.int 2)], S⟩ (fun nx h => h) ?_
  refine seq_cut (fun st => ∃ x0 x2 : Slot, st = ⟨[x0, .own (.lst (natW (primes n0))), x2], S⟩) (fun nx k => ?_) (fun st ⟨x0, x2, es⟩ => ?_)
  · refine ⟨fun j st => ∃ n d : Nat, j = n + 1 - d ∧ PrAt n0 n d ∧ st = ⟨[.val (.int n), .own (.lst (natW (prims n0 d))), .val (.int d)], S⟩, ⟨n0 + 1 - 2, n0, 2, rfl, ⟨hn, Nat.dvd_refl _, by omega, fun e e1 e2 => by omega, fun _ _ _ h => h⟩, by rw [prims_two]; rfl⟩, ?_⟩
    rintro j st ⟨n, d, rfl, at', rfl⟩
    have hd2 := at'.2.2.1
    have ndv : (n : Int) % d = ((n % d : Nat) : Int) := rfl
    unfold ib_p_primes_of_2
    simp only [sIf, tBl, iB, iVar, iC, gGt, gI, List.getElem?_cons_zero]
    refine ifb (fun z => ?_) (fun z => ?_)
    · have n1 : 1 < n := by have := of_decide_eq_true z; omega
      have dn : d ≤ n := by
        by_cases w : d ≤ n
        · exact w
        · exact absurd (Nat.dvd_refl n) (at'.2.2.2.1 n (by omega) (by omega))
      have bdd : Bd (d : Int) := by
        have l0 := Nat.le_of_dvd hn at'.2.1
        unfold Bd lim
        omega
      refine seq_cut (fun st => ∃ n' : Nat, n' ≤ n ∧ PrAt n0 n' (d + 1) ∧ st = ⟨[.val (.int n'), .own (.lst (natW (prims n0 (d + 1)))), .val (.int d)], S⟩) (fun nx2 k2 => ?_) (fun st ⟨n', l1, a2, es⟩ => ?_)
      · simp only [sIf, tBl, iB, iVar, iC, gMod, gIC, gEq, List.getElem?_cons_zero, List.getElem?_cons_succ]
        refine ⟨by omega, rfl, ifb (fun y => ?_) (fun y => ?_)⟩
        · have dv : d ∣ n := by
            have : (n : Int) % d = 0 := by simpa [eqW] using y
            exact Nat.dvd_of_mod_eq_zero (by omega)
          have pd := at'.prime dv
          refine seq_step ⟨[.val (.int n), .own (.lst (natW (prims n0 (d + 1)))), .val (.int d)], S⟩ (fun nx h => ?_) ?_
          · rw [prims_yes ⟨pd, Nat.dvd_trans dv at'.2.1⟩] at h
            simp only [bodyI, start0, sSeq, sNext, sNever, sCont, sBreak, sDrop, sRet, sRetN, sRet0, sRetO, sIf, sSet, sSetN, sSetP, sPar, sParEN, sParNE, sPar3, sAsg, gNm, gsNil, gsCons, gTp, sAugI, sIxO, sIxS, sAugS, stoL, setW, iVar, iC, iNil, iCons, iTup, iLst, nLst, iFz, iB, gAdd, gI, gIC, gSub, gMul, gDiv, gMod, gPow, gLt, gLe, gGt, gGe, gEq, gNe, gIn, gIsN, isN, iNeg, tTru', gTru, tBl, iChain, tAnd', tOr', tNot', tYes', iIf, iAnd, iOr, iNot, iIx, gIx, atW, iIxO, ownL, oNone, oSome, iSl, gSl, iRevL, iCall, nCall, iFn, Sh.R.fz, SO.fz, Stt.put, Stt.puts, iMtO, gAppend, gInsert, gExtend, gLen, iLenO, gAbs, gInt, gMinMax, gList, gTuple, iListRg, gIsi, tyN, gRepr, flatW, eqW, okD, eqOk, cut_13, cut_1_2, cut_1_3, cut_m2, cut_m3, cut_m4, atI_m2, atI_m3, atI_m4, iOfT, tKdIn, iKdIx, atI_0, atI_1, atI_2, atI_3, ixN_4_0, ixN_4_1, ixN_4_2, ixN_4_3, Sto.put_same, Sto.put_put, toNat_2, List.map, List.replicate, List.length_cons, List.length_nil, List.getElem?_cons_zero, List.getElem?_cons_succ, List.getElem?_nil, List.set_cons_zero, List.set_cons_succ, List.set_nil, List.cons_append, List.nil_append, List.append_nil, if_true, if_false]
            refine ⟨?_, ?_⟩
            · unfold natW
              rw [List.length_map]
              have := prims_len n0 d
              have l0 := Nat.le_of_dvd hn at'.2.1
              rw [sizeLine_eq]
              omega
            · unfold natW at h ⊢
              rw [List.map_append] at h
              exact h
          · refine ⟨fun j st => ∃ i : Nat, i = j ∧ i ≤ n ∧ PrIn n0 i d ∧ st = ⟨[.val (.int i), .own (.lst (natW (prims n0 (d + 1)))), .val (.int d)], S⟩, ⟨n, n, rfl, Nat.le_refl _, ⟨at'.1, at'.2.1, at'.2.2.2.1, fun p p1 => at'.2.2.2.2 p (by omega)⟩, rfl⟩, ?_⟩
            rintro j st ⟨i, rfl, il, pin, rfl⟩
            unfold ib_p_primes_of_1
            simp only [bodyI, start0, sSeq, sNext, sNever, sCont, sBreak, sDrop, sRet, sRetN, sRet0, sRetO, sIf, sSet, sSetN, sSetP, sPar, sParEN, sParNE, sPar3, sAsg, gNm, gsNil, gsCons, gTp, sAugI, sIxO, sIxS, sAugS, stoL, setW, iVar, iC, iNil, iCons, iTup, iLst, nLst, iFz, iB, gAdd, gI, gIC, gSub, gMul, gDiv, gMod, gPow, gLt, gLe, gGt, gGe, gEq, gNe, gIn, gIsN, isN, iNeg, tTru', gTru, tBl, iChain, tAnd', tOr', tNot', tYes', iIf, iAnd, iOr, iNot, iIx, gIx, atW, iIxO, ownL, oNone, oSome, iSl, gSl, iRevL, iCall, nCall, iFn, Sh.R.fz, SO.fz, Stt.put, Stt.puts, iMtO, gAppend, gInsert, gExtend, gLen, iLenO, gAbs, gInt, gMinMax, gList, gTuple, iListRg, gIsi, tyN, gRepr, flatW, eqW, okD, eqOk, cut_13, cut_1_2, cut_1_3, cut_m2, cut_m3, cut_m4, atI_m2, atI_m3, atI_m4, iOfT, tKdIn, iKdIx, atI_0, atI_1, atI_2, atI_3, ixN_4_0, ixN_4_1, ixN_4_2, ixN_4_3, Sto.put_same, Sto.put_put, toNat_2, List.map, List.replicate, List.length_cons, List.length_nil, List.getElem?_cons_zero, List.getElem?_cons_succ, List.getElem?_nil, List.set_cons_zero, List.set_cons_succ, List.set_nil, List.cons_append, List.nil_append, List.append_nil, if_true, if_false]
            refine ⟨by omega, rfl, ifb (fun x => ?_) (fun x => ?_)⟩
            · have dv2 : d ∣ i := by
                have : (i : Int) % d = 0 := by simpa [eqW] using x
                exact Nat.dvd_of_mod_eq_zero (by omega)
              have ip := pin.1
              have lt : i / d < i := Nat.div_lt_self ip (by omega)
              exact ⟨⟨by omega, bdd⟩, i / d, lt, i / d, rfl, by omega, pin.less pd dv2, rfl⟩
            · have dv2 : ¬ d ∣ i := fun w => by
                have : (i : Int) % d = 0 := by have := Nat.mod_eq_zero_of_dvd w; omega
                simp [eqW, this] at x
              refine k2 _ ⟨i, il, ⟨pin.1, pin.2.1, by omega, fun e e1 e2 => ?_, pin.2.2.2⟩, rfl⟩
              by_cases w : e = d
              · rw [w]; exact dv2
              · exact pin.2.2.1 e e1 (by omega)
        · have dv : ¬ d ∣ n := fun w => by
            have : (n : Int) % d = 0 := by have := Nat.mod_eq_zero_of_dvd w; omega
            simp [eqW, this] at y
          refine k2 _ ⟨n, Nat.le_refl _, at'.next dv, ?_⟩
          rw [prims_no fun w => dv (at'.2.2.2.2 d (Nat.le_refl _) w.1 w.2)]
      · subst es
        simp only [bodyI, start0, sSeq, sNext, sNever, sCont, sBreak, sDrop, sRet, sRetN, sRet0, sRetO, sIf, sSet, sSetN, sSetP, sPar, sParEN, sParNE, sPar3, sAsg, gNm, gsNil, gsCons, gTp, sAugI, sIxO, sIxS, sAugS, stoL, setW, iVar, iC, iNil, iCons, iTup, iLst, nLst, iFz, iB, gAdd, gI, gIC, gSub, gMul, gDiv, gMod, gPow, gLt, gLe, gGt, gGe, gEq, gNe, gIn, gIsN, isN, iNeg, tTru', gTru, tBl, iChain, tAnd', tOr', tNot', tYes', iIf, iAnd, iOr, iNot, iIx, gIx, atW, iIxO, ownL, oNone, oSome, iSl, gSl, iRevL, iCall, nCall, iFn, Sh.R.fz, SO.fz, Stt.put, Stt.puts, iMtO, gAppend, gInsert, gExtend, gLen, iLenO, gAbs, gInt, gMinMax, gList, gTuple, iListRg, gIsi, tyN, gRepr, flatW, eqW, okD, eqOk, cut_13, cut_1_2, cut_1_3, cut_m2, cut_m3, cut_m4, atI_m2, atI_m3, atI_m4, iOfT, tKdIn, iKdIx, atI_0, atI_1, atI_2, atI_3, ixN_4_0, ixN_4_1, ixN_4_2, ixN_4_3, Sto.put_same, Sto.put_put, toNat_2, List.map, List.replicate, List.length_cons, List.length_nil, List.getElem?_cons_zero, List.getElem?_cons_succ, List.getElem?_nil, List.set_cons_zero, List.set_cons_succ, List.set_nil, List.cons_append, List.nil_append, List.append_nil, if_true, if_false]
        exact ⟨n' + 1 - (d + 1), by omega, n', d + 1, rfl, a2, rfl⟩
    · have n1 : n = 1 := by
        have := of_decide_eq_false z
        have := at'.1
        omega
      subst n1
      have e := prims_all hn (k := d) (n := n0) fun p p1 p2 p3 => ?_
      · exact k _ ⟨_, _, by rw [e]⟩
      have := Nat.le_of_dvd (by omega) (at'.2.2.2.2 p p1 p2 p3)
      have := p2.1
      omega
  · subst es
    exact q
end Sh
namespace Sh
open PySem L2
open PyProof.Rows hiding St
theorem oddP_odd {n : Int} : oddP n % 2 = 1 := by
  unfold oddP
  split <;> omega
theorem stp_m {n k : Int} : stp n (oddP n) k = oddP n := if_pos rfl
theorem half_cg {m : Int} (hm : m % 2 = 1) : Cg m (2 * ((m + 1) / 2)) 1 := ⟨1, by omega⟩
theorem half_pow {m : Int} (hm : m % 2 = 1) (i : Nat) : Cg m (2 ^ i * ((m + 1) / 2) ^ i) 1 := by
  have := (half_cg hm).pow i
  rw [Int.mul_pow, Int.one_pow] at this
  exact this
theorem two_cancel {m u v : Int} (hm : m % 2 = 1) {i : Nat} (h : Cg m (2 ^ i * u) (2 ^ i * v)) : Cg m u v := by
  have c := (Cg.refl (((m + 1) / 2) ^ i)).mul h
  have e : ∀ x : Int, Cg m (((m + 1) / 2) ^ i * (2 ^ i * x)) x := fun x => by
    have := (half_pow hm i).mul (Cg.refl x)
    rw [Int.one_mul] at this
    have e2 : ((m + 1) / 2) ^ i * (2 ^ i * x) = 2 ^ i * ((m + 1) / 2) ^ i * x := by grind
    rw [e2]
    exact this
  exact ((e u).symm.trans c).trans (e v)
theorem stp_rel {n x k : Int} (h0 : 0 ≤ x) (h1 : x < n) (hx : x ≠ oddP n) : 0 ≤ stp n x k ∧ stp n x k < oddP n ∧ ∀ i j : Nat, (i : Int) - j = k → Cg (oddP n) (2 ^ i * stp n x k) (2 ^ j * x) := by
  have op := oddP_pos h0 h1 hx
  have od := oddP_odd (n := n)
  generalize hm : oddP n = m at *
  unfold stp
  rw [hm, if_neg hx]
  by_cases hk : 0 ≤ k
  · rw [if_pos hk]
    refine ⟨Int.emod_nonneg _ (by omega), Int.emod_lt_of_pos _ op, fun i j e => ?_⟩
    have ei : i = k.toNat + j := by omega
    have c : Cg m (x * (((m + 1) / 2) ^ k.toNat % m) % m) (x * ((m + 1) / 2) ^ k.toNat) := (cg_mod m _).trans ((Cg.refl x).mul (cg_mod m _))
    refine ((Cg.refl (2 ^ i)).mul c).trans ?_
    rw [ei, Int.pow_add]
    have := (half_pow od k.toNat).mul (Cg.refl (2 ^ j * x))
    rw [Int.one_mul] at this
    have e2 : (2 : Int) ^ k.toNat * 2 ^ j * (x * ((m + 1) / 2) ^ k.toNat) = 2 ^ k.toNat * ((m + 1) / 2) ^ k.toNat * (2 ^ j * x) := by grind
    rw [e2]
    exact this
  · rw [if_neg hk]
    refine ⟨Int.emod_nonneg _ (by omega), Int.emod_lt_of_pos _ op, fun i j e => ?_⟩
    have ej : j = i + (-k).toNat := by omega
    have c : Cg m (x * (2 ^ (-k).toNat % m) % m) (x * 2 ^ (-k).toNat) := (cg_mod m _).trans ((Cg.refl x).mul (cg_mod m _))
    refine ((Cg.refl (2 ^ i)).mul c).trans ?_
    rw [ej, Int.pow_add]
    have e2 : (2 : Int) ^ i * (x * 2 ^ (-k).toNat) = 2 ^ i * 2 ^ (-k).toNat * x := by grind
    rw [e2]
    exact .refl _
theorem stp_ne {n x k : Int} (h0 : 0 ≤ x) (h1 : x < n) (hx : x ≠ oddP n) : stp n x k ≠ oddP n := by
  have := (stp_rel (k := k) h0 h1 hx).2.1
  omega
theorem oddP_le {n : Int} : oddP n ≤ n := by
  unfold oddP
  split <;> omega
theorem stp_in {n x k : Int} (h0 : 0 ≤ x) (h1 : x < n) : 0 ≤ stp n x k ∧ stp n x k < n := by
  by_cases hx : x = oddP n
  · have : stp n x k = x := if_pos hx
    rw [this]
    exact ⟨h0, h1⟩
  · obtain ⟨a, b, _⟩ := stp_rel (k := k) h0 h1 hx
    have := oddP_le (n := n)
    exact ⟨a, by omega⟩
/-- who goes there by i steps back and j on is there -/
theorem stp_eq {n x k y : Int} (h0 : 0 ≤ x) (h1 : x < n) (hx : x ≠ oddP n) (y0 : 0 ≤ y) (y1 : y < oddP n) (i j : Nat) (e : (i : Int) - j = k) (c : Cg (oddP n) (2 ^ i * y) (2 ^ j * x)) : stp n x k = y := by
  obtain ⟨a, b, r⟩ := stp_rel (k := k) h0 h1 hx
  exact (two_cancel oddP_odd ((r i j e).trans c.symm)).eq a b y0 y1
theorem stp_add {n x k l : Int} (h0 : 0 ≤ x) (h1 : x < n) : stp n (stp n x k) l = stp n x (k + l) := by
  by_cases hx : x = oddP n
  · rw [show stp n x k = x from if_pos hx, show stp n x l = x from if_pos hx, show stp n x (k + l) = x from if_pos hx]
  · obtain ⟨a, b, r⟩ := stp_rel (k := k) h0 h1 hx
    obtain ⟨a2, b2, r2⟩ := stp_rel (k := l) a (Int.lt_of_lt_of_le b oddP_le) (by omega : stp n x k ≠ oddP n)
    refine (stp_eq h0 h1 hx a2 b2 (k.toNat + l.toNat) ((-k).toNat + (-l).toNat) (by omega) ?_).symm
    have c1 := r k.toNat (-k).toNat (by omega)
    have c2 := r2 l.toNat (-l).toNat (by omega)
    rw [Int.pow_add, Int.pow_add]
    have d1 := (Cg.refl (2 ^ k.toNat)).mul c2
    have d2 := (Cg.refl (2 ^ (-l).toNat)).mul c1
    have e1 : (2 : Int) ^ k.toNat * 2 ^ l.toNat * stp n (stp n x k) l = 2 ^ k.toNat * (2 ^ l.toNat * stp n (stp n x k) l) := by grind
    have e2 : (2 : Int) ^ k.toNat * (2 ^ (-l).toNat * stp n x k) = 2 ^ (-l).toNat * (2 ^ k.toNat * stp n x k) := by grind
    have e3 : (2 : Int) ^ (-k).toNat * 2 ^ (-l).toNat * x = 2 ^ (-l).toNat * (2 ^ (-k).toNat * x) := by grind
    rw [e1, e3]
    rw [e2] at d1
    exact d1.trans d2
theorem stp_zero {n x : Int} (h0 : 0 ≤ x) (h1 : x < n) : stp n x 0 = x := by
  by_cases hx : x = oddP n
  · exact if_pos hx
  · refine stp_eq h0 h1 hx h0 ?_ 0 0 rfl (.refl _)
    unfold oddP at *
    split <;> rename_i z
    · omega
    · rw [if_neg z] at hx; omega
theorem lt_oddP {n x : Int} (h1 : x < n) (hx : x ≠ oddP n) : x < oddP n := by
  unfold oddP at *
  split <;> rename_i z
  · omega
  · rw [if_neg z] at hx; omega
theorem stp_others {n x : Int} (h0 : 0 ≤ x) (h1 : x < n) : stp n x 1 = x / 2 + (n - n / 2) * (x - 2 * (x / 2)) := by
  have hy : x / 2 + (n - n / 2) * (x - 2 * (x / 2)) = if x % 2 = 0 then x / 2 else x / 2 + (n - n / 2) := by
    split
    · rw [show x - 2 * (x / 2) = 0 by omega]; omega
    · rw [show x - 2 * (x / 2) = 1 by omega]; omega
  rw [hy]
  by_cases hx : x = oddP n
  · rw [show stp n x 1 = x from if_pos hx]
    unfold oddP at hx
    split at hx <;> split <;> omega
  · have lt := lt_oddP h1 hx
    refine stp_eq h0 h1 hx ?_ ?_ 1 0 rfl ?_
    · split <;> omega
    · unfold oddP at *
      split at hx <;> split <;> omega
    · rw [Int.pow_succ, Int.pow_zero, Int.one_mul, Int.one_mul]
      unfold Cg oddP
      split <;> split
      · exact ⟨0, by omega⟩
      · exact ⟨1, by omega⟩
      · exact ⟨0, by omega⟩
      · exact ⟨1, by omega⟩
theorem stp_fill {n x : Int} (h0 : 0 ≤ x) (h1 : x < n) : stp n x (-1) = if n - n / 2 ≤ x then 2 * (x - (n - n / 2)) + 1 else 2 * x := by
  by_cases hx : x = oddP n
  · rw [show stp n x (-1) = x from if_pos hx]
    unfold oddP at hx
    split at hx <;> split <;> omega
  · have lt := lt_oddP h1 hx
    refine stp_eq h0 h1 hx ?_ ?_ 0 1 rfl ?_
    · split <;> omega
    · unfold oddP at *
      split at hx <;> split <;> omega
    · rw [Int.pow_succ, Int.pow_zero, Int.one_mul, Int.one_mul]
      unfold Cg oddP
      split <;> split
      · exact ⟨-1, by omega⟩
      · exact ⟨0, by omega⟩
      · exact ⟨-1, by omega⟩
      · exact ⟨0, by omega⟩
theorem stp_nought {n k : Int} (hn : 0 < n) : stp n 0 k = 0 := by
  have hx : (0 : Int) ≠ oddP n := by have := oddP_odd (n := n); omega
  exact stp_eq (by omega) hn hx (by omega) (lt_oddP hn hx) k.toNat (-k).toNat (by omega) (by rw [Int.mul_zero, Int.mul_zero]; exact .refl _)
theorem stp_last {n k : Int} (h : n % 2 = 0) : stp n (n - 1) k = n - 1 := if_pos (by unfold oddP; rw [if_neg (by omega)])
/-- who is back -/
theorem stp_back {n x : Int} {r : Nat} (h0 : 0 ≤ x) (h1 : x < n) (hr : Cg (oddP n) (2 ^ r) 1) : stp n x r = x := by
  by_cases hx : x = oddP n
  · exact if_pos hx
  · refine stp_eq h0 h1 hx h0 (lt_oddP h1 hx) r 0 (by omega) ?_
    have := hr.mul (Cg.refl x)
    rw [Int.pow_zero]
    exact this
theorem stp_away {n : Int} {q : Nat} (hn : 1 < oddP n) (hq : ¬ Cg (oddP n) (2 ^ q) 1) : stp n 1 q ≠ 1 := fun e => by
  have l := oddP_le (n := n)
  obtain ⟨_, _, r⟩ := stp_rel (n := n) (x := 1) (k := q) (by omega) (by omega) (by omega)
  have := r q 0 (by omega)
  rw [e, Int.mul_one, Int.mul_one, Int.pow_zero] at this
  exact hq this
theorem pig : ∀ (m : Nat) (f : Nat → Nat), (∀ i, i ≤ m → f i < m) → ∃ i j, i < j ∧ j ≤ m ∧ f i = f j
  | 0, f, h => by have := h 0 (Nat.le_refl _); omega
  | m + 1, f, h => by
    by_cases z : ∃ i, i ≤ m ∧ f i = f (m + 1)
    · obtain ⟨i, hi, e⟩ := z
      exact ⟨i, m + 1, by omega, Nat.le_refl _, e⟩
    · have hz : ∀ i, i ≤ m → f i ≠ f (m + 1) := fun i hi e => z ⟨i, hi, e⟩
      have hl := h (m + 1) (Nat.le_refl _)
      obtain ⟨i, j, hij, hj, e⟩ := pig m (fun i => if f i < f (m + 1) then f i else f i - 1) fun i hi => by
        have a := h i (by omega)
        have b := hz i hi
        show (if f i < f (m + 1) then f i else f i - 1) < m
        split <;> omega
      refine ⟨i, j, hij, by omega, ?_⟩
      have a := hz i (by omega)
      have b := hz j hj
      have e2 : (if f i < f (m + 1) then f i else f i - 1) = (if f j < f (m + 1) then f j else f j - 1) := e
      split at e2 <;> split at e2 <;> omega
theorem ord_nat {m c : Nat} (hm : 0 < m) (hc : Nat.gcd m c = 1) : ∃ r, 1 ≤ r ∧ r ≤ m ∧ Cg m ((c : Int) ^ r) 1 := by
  obtain ⟨i, j, hij, hj, e⟩ := pig m (fun i => c ^ i % m) fun i _ => Nat.mod_lt _ hm
  refine ⟨j - i, by omega, by omega, ?_⟩
  have e1 : ((c : Int) ^ i) % m = ((c : Int) ^ j) % m := by
    have := congrArg (fun x : Nat => (x : Int)) e
    simp only [Int.natCast_emod, Int.natCast_pow] at this
    exact this
  have c1 : Cg m ((c : Int) ^ j) (c ^ i) := by
    have := (cg_mod m ((c : Int) ^ j)).symm
    rw [← e1] at this
    exact this.trans (cg_mod m _)
  have e2 : (c : Int) ^ j = c ^ i * c ^ (j - i) := by rw [← Int.pow_add]; congr 1; omega
  rw [e2] at c1
  have dv : (m : Int) ∣ ((c : Int) ^ (j - i) - 1) * (c : Int) ^ i := by
    obtain ⟨k, ek⟩ := c1
    exact ⟨k, by rw [← ek]; grind⟩
  have cp : Nat.Coprime m (c ^ i) := Nat.Coprime.pow_right i hc
  have dn : m ∣ ((c : Int) ^ (j - i) - 1).natAbs * c ^ i := by
    have := Int.natAbs_dvd_natAbs.mpr dv
    rw [Int.natAbs_mul, Int.natAbs_pow, Int.natAbs_natCast, Int.natAbs_natCast] at this
    exact this
  have := Nat.Coprime.dvd_of_dvd_mul_right cp dn
  exact Int.natAbs_dvd_natAbs.mp (by rw [Int.natAbs_natCast]; exact this)
theorem ord_ex {m b : Int} (hm : 0 < m) (hc : Nat.gcd m.toNat (b % m).toNat = 1) : ∃ r : Nat, 1 ≤ r ∧ (r : Int) ≤ m ∧ Cg m (b ^ r) 1 := by
  obtain ⟨r, h1, h2, c⟩ := ord_nat (by omega) hc
  rw [Int.toNat_of_nonneg (by omega), Int.toNat_of_nonneg (Int.emod_nonneg _ (by omega))] at c
  exact ⟨r, h1, by omega, ((cg_mod m b).pow r).symm.trans c⟩
theorem IsOrd.le {m b : Int} {r s : Nat} (h : IsOrd m b r) (h1 : 1 ≤ s) (c : Cg m (b ^ s) 1) : r ≤ s := by
  by_cases z : r ≤ s
  · exact z
  · exact absurd c (h.2.2 s h1 (by omega))
def ib_p_order_paper : IS := (sSeq (sIf (tBl (iB gNe (iCall sp_p_common (iCons (iVar 1) (iCons (iB gMod (iVar 0) (iVar 1)) iNil))) (iC (.int 1)))) sNever sNext)
  (sSeq (sSet 2 (iCall sp_p_order_of (iCons (iVar 0) (iCons (iVar 1) iNil))))
  (sRet (iTup (iCons (iVar 2) (iCons (iCall sp_p_primes_of (iCons (iVar 2) iNil)) iNil))))))
def sp_p_order_paper : ISp := fun ws S Q E => ∃ b m : Int, ws = [.int b, .int m] ∧ 0 < m ∧ m ≤ 10000000 ∧ Bd b ∧ Nat.gcd m.toNat (b % m).toNat = 1 ∧ ∀ r : Nat, IsOrd m b r → Q (.val (.tup [.int r, .lst (natW (primes r))])) S
theorem ok_p_order_paper (ws : List W) (S : Sto) (Q : R → Sto → Prop) (E : Exn → Sto → Prop) (h : sp_p_order_paper ws S Q E) : bodyI 3 ib_p_order_paper ws S Q E := by
  obtain ⟨b, m, rfl, hm, hm2, bb, hg, q⟩ := h
  obtain ⟨r0, r1, r2, rc⟩ := ord_ex hm hg
  unfold ib_p_order_paper
  refine seq_step ⟨[.val (.int b), .val (.int m), .none], S⟩ (fun nx h => ?_) ?_
  · simp only [bodyI, start0, sSeq, sNext, sNever, sCont, sBreak, sDrop, sRet, sRetN, sRet0, sRetO, sIf, sSet, sSetN, sSetP, sPar, sParEN, sParNE, sPar3, sAsg, gNm, gsNil, gsCons, gTp, sAugI, sIxO, sIxS, sAugS, stoL, setW, iVar, iC, iNil, iCons, iTup, iLst, nLst, iFz, iB, gAdd, gI, gIC, gSub, gMul, gDiv, gMod, gPow, gLt, gLe, gGt, gGe, gEq, gNe, gIn, gIsN, isN, iNeg, tTru', gTru, tBl, iChain, tAnd', tOr', tNot', tYes', iIf, iAnd, iOr, iNot, iIx, gIx, atW, iIxO, ownL, oNone, oSome, iSl, gSl, iRevL, iCall, nCall, iFn, Sh.R.fz, SO.fz, Stt.put, Stt.puts, iMtO, gAppend, gInsert, gExtend, gLen, iLenO, gAbs, gInt, gMinMax, gList, gTuple, iListRg, gIsi, tyN, gRepr, flatW, eqW, okD, eqOk, cut_13, cut_1_2, cut_1_3, cut_m2, cut_m3, cut_m4, atI_m2, atI_m3, atI_m4, iOfT, tKdIn, iKdIx, atI_0, atI_1, atI_2, atI_3, ixN_4_0, ixN_4_1, ixN_4_2, ixN_4_3, Sto.put_same, Sto.put_put, toNat_2, List.map, List.replicate, List.length_cons, List.length_nil, List.getElem?_cons_zero, List.getElem?_cons_succ, List.getElem?_nil, List.set_cons_zero, List.set_cons_succ, List.set_nil, List.cons_append, List.nil_append, List.append_nil, if_true, if_false]
    refine ⟨hm, m.toNat, (b % m).toNat, ?_, ?_⟩
    · rw [Int.toNat_of_nonneg (by omega), Int.toNat_of_nonneg (Int.emod_nonneg _ (by omega))]
    · rw [hg]
      exact ⟨rfl, ifF rfl h⟩
  refine seq_cut (fun st => ∃ r : Nat, IsOrd m b r ∧ st = ⟨[.val (.int b), .val (.int m), .val (.int r)], S⟩) (fun nx k => ?_) (fun st ⟨r, ho, es⟩ => ?_)
  · exact ⟨b, m, r0, rfl, hm, by unfold Bd lim; omega, bb, r1, rc, fun r ho => k _ ⟨r, ho, rfl⟩⟩
  · subst es
    have := ho.le r1 rc
    exact ⟨r, rfl, ho.1, by omega, q r ho⟩
def ib_p_others_return : IS := (sRet (iCall sp_p_order_paper (iCons (iC (.int 2)) (iCons (iCall sp_p_odd_part (iCons (iVar 0) iNil)) iNil))))
def sp_p_others_return : ISp := fun ws S Q E => ∃ n : Int, ws = [.int n] ∧ 0 < n ∧ n ≤ 10000000 ∧ ∀ r : Nat, IsOrd (oddP n) 2 r → Q (.val (.tup [.int r, .lst (natW (primes r))])) S
theorem odd_gcd {m : Int} (hm : 0 < m) (h : m % 2 = 1) : Nat.gcd m.toNat (2 % m).toNat = 1 := by
  by_cases z : m = 1
  · subst z; decide
  · have e : (2 % m).toNat = 2 := by rw [Int.emod_eq_of_lt (by omega) (by omega)]; rfl
    rw [e, Nat.gcd_comm, Nat.gcd_rec]
    have : m.toNat % 2 = 1 := by omega
    rw [this]
    decide
theorem ok_p_others_return (ws : List W) (S : Sto) (Q : R → Sto → Prop) (E : Exn → Sto → Prop) (h : sp_p_others_return ws S Q E) : bodyI 1 ib_p_others_return ws S Q E := by
  obtain ⟨n, rfl, hn, hn2, q⟩ := h
  have hm : 0 < oddP n := by unfold oddP; split <;> omega
  have hl := oddP_le (n := n)
  exact ⟨n, rfl, 2, oddP n, rfl, hm, by omega, by unfold Bd lim; omega, odd_gcd hm oddP_odd, q⟩
end Sh
namespace Sh
open PySem L2
open PyProof.Rows hiding St
def ib_l_open : IS := (sSeq (sPar 4 5 (iB gAdd (iB gMul (iIx (iVar 3) (iC (.int 0))) (iVar 1)) (iIx (iVar 3) (iC (.int 1)))) (iB gSub (iVar 2) (iB gDiv (iVar 2) (iC (.int 2)))))
  (sSeq (sIf (tBl (iB gEq (iVar 0) (iC (.str "halve")))) (sRet (iTup (iCons (iB gSub (iVar 4) (iB gMul (iVar 2) (iB gDiv (iVar 4) (iVar 2)))) (iCons (iB gDiv (iVar 4) (iVar 2)) iNil)))) sNext)
  (sSeq (sIf (tBl (iB gEq (iVar 0) (iC (.str "pair")))) (sSeq (sSet 6 (iB gAdd (iB gMul (iIx (iVar 3) (iC (.int 1))) (iVar 2)) (iIx (iVar 3) (iC (.int 0)))))
    (sRet (iTup (iCons (iB gDiv (iVar 6) (iVar 1)) (iCons (iB gSub (iVar 6) (iB gMul (iVar 1) (iB gDiv (iVar 6) (iVar 1)))) iNil))))) sNext)
  (sSeq (sSet 7 (iB gSub (iIx (iVar 3) (iC (.int 0))) (iB gMul (iC (.int 2)) (iB gDiv (iIx (iVar 3) (iC (.int 0))) (iC (.int 2))))))
  (sSeq (sIf (tBl (iB gEq (iVar 0) (iC (.str "others")))) (sRet (iTup (iCons (iB gAdd (iB gDiv (iIx (iVar 3) (iC (.int 0))) (iC (.int 2))) (iB gMul (iVar 5) (iVar 7))) (iCons (iIx (iVar 3) (iC (.int 1))) iNil)))) sNext)
  (sSeq (sSet 8 (iFn gInt (iCons (iB gGe (iIx (iVar 3) (iC (.int 0))) (iVar 5)) iNil)))
  (sRet (iTup (iCons (iB gAdd (iB gMul (iC (.int 2)) (iB gSub (iIx (iVar 3) (iC (.int 0))) (iB gMul (iVar 5) (iVar 8)))) (iVar 8)) (iCons (iIx (iVar 3) (iC (.int 1))) iNil))))))))))
/-- where an open call leads, by the law's own rule -/
def opn (w : Str) (fl n r f : Int) : Int × Int :=
  if w = "halve" then (r * fl + f - n * ((r * fl + f) / n), (r * fl + f) / n)
  else if w = "pair" then ((f * n + r) / fl, f * n + r - fl * ((f * n + r) / fl))
  else if w = "others" then (r / 2 + (n - n / 2) * (r - 2 * (r / 2)), f)
  else (2 * (r - (n - n / 2) * (if n - n / 2 ≤ r then 1 else 0)) + (if n - n / 2 ≤ r then 1 else 0), f)
def sp_l_open : ISp := fun ws S Q E => ∃ (w : Str) (fl n r f : Int), ws = [.str w, .int fl, .int n, .tup [.int r, .int f]] ∧ (w = "halve" ∨ w = "pair" ∨ w = "others" ∨ w = "fill") ∧ 0 < fl ∧ fl < 10 ∧ 0 ≤ f ∧ f < fl ∧ 0 ≤ r ∧ r < n ∧ Bd n ∧
  Q (.val (.tup [.int (opn w fl n r f).1, .int (opn w fl n r f).2])) S
theorem small_r {i j : Int} (h0 : -100 ≤ j) (h1 : j ≤ 100) : MulOk i j := .inr (.inr (by omega))
theorem small_l {i j : Int} (h0 : -100 ≤ i) (h1 : i ≤ 100) : MulOk i j := .inr (.inl (by omega))
theorem ok_l_open (ws : List W) (S : Sto) (Q : R → Sto → Prop) (E : Exn → Sto → Prop) (h : sp_l_open ws S Q E) : bodyI 9 ib_l_open ws S Q E := by
  obtain ⟨w, fl, n, r, f, rfl, hw, l0, l1, f0, f1, r0, r1, bn, q⟩ := h
  have bfl : Bd fl := by unfold Bd lim; omega
  have b2 : Bd 2 := by unfold Bd lim; omega
  have q0 : 0 ≤ (r * fl + f) / n := Int.ediv_nonneg (by have := Int.mul_nonneg r0 (show 0 ≤ fl by omega); omega) (by omega)
  have q1 : (r * fl + f) / n ≤ 10 := by
    have h : r * fl + f < n * 10 := by
      have a : r * fl ≤ (n - 1) * fl := Int.mul_le_mul_of_nonneg_right (by omega) (by omega)
      have b : n * fl ≤ n * 9 := Int.mul_le_mul_of_nonneg_left (by omega) (by omega)
      have c : (n - 1) * fl = n * fl - fl := by grind
      omega
    have : (r * fl + f) / n < 10 := Int.ediv_lt_of_lt_mul (by omega) (by have e : 10 * n = n * 10 := Int.mul_comm ..; rw [e]; exact h)
    omega
  unfold ib_l_open
  refine seq_step ⟨[.val (.str w), .val (.int fl), .val (.int n), .val (.tup [.int r, .int f]), .val (.int (r * fl + f)), .val (.int (n - n / 2)), .none, .none, .none], S⟩ (fun nx h => ?_) ?_
  · simp only [bodyI, start0, sSeq, sNext, sNever, sCont, sBreak, sDrop, sRet, sRetN, sRet0, sRetO, sIf, sSet, sSetN, sSetP, sPar, sParEN, sParNE, sPar3, sAsg, gNm, gsNil, gsCons, gTp, sAugI, sIxO, sIxS, sAugS, stoL, setW, iVar, iC, iNil, iCons, iTup, iLst, nLst, iFz, iB, gAdd, gI, gIC, gSub, gMul, gDiv, gMod, gPow, gLt, gLe, gGt, gGe, gEq, gNe, gIn, gIsN, isN, iNeg, tTru', gTru, tBl, iChain, tAnd', tOr', tNot', tYes', iIf, iAnd, iOr, iNot, iIx, gIx, atW, iIxO, ownL, oNone, oSome, iSl, gSl, iRevL, iCall, nCall, iFn, Sh.R.fz, SO.fz, Stt.put, Stt.puts, iMtO, gAppend, gInsert, gExtend, gLen, iLenO, gAbs, gInt, gMinMax, gList, gTuple, iListRg, gIsi, tyN, gRepr, flatW, eqW, okD, eqOk, cut_13, cut_1_2, cut_1_3, cut_m2, cut_m3, cut_m4, atI_m2, atI_m3, atI_m4, iOfT, tKdIn, iKdIx, atI_0, atI_1, atI_2, atI_3, ixN_4_0, ixN_4_1, ixN_4_2, ixN_4_3, Sto.put_same, Sto.put_put, toNat_2, List.map, List.replicate, List.length_cons, List.length_nil, List.getElem?_cons_zero, List.getElem?_cons_succ, List.getElem?_nil, List.set_cons_zero, List.set_cons_succ, List.set_nil, List.cons_append, List.nil_append, List.append_nil, if_true, if_false]
    exact ⟨small_r (by omega) (by omega), ⟨by omega, b2⟩, h⟩
  by_cases w1 : w = "halve"
  · subst w1
    refine seq_end fun nx => ?_
    simp only [bodyI, start0, sSeq, sNext, sNever, sCont, sBreak, sDrop, sRet, sRetN, sRet0, sRetO, sIf, sSet, sSetN, sSetP, sPar, sParEN, sParNE, sPar3, sAsg, gNm, gsNil, gsCons, gTp, sAugI, sIxO, sIxS, sAugS, stoL, setW, iVar, iC, iNil, iCons, iTup, iLst, nLst, iFz, iB, gAdd, gI, gIC, gSub, gMul, gDiv, gMod, gPow, gLt, gLe, gGt, gGe, gEq, gNe, gIn, gIsN, isN, iNeg, tTru', gTru, tBl, iChain, tAnd', tOr', tNot', tYes', iIf, iAnd, iOr, iNot, iIx, gIx, atW, iIxO, ownL, oNone, oSome, iSl, gSl, iRevL, iCall, nCall, iFn, Sh.R.fz, SO.fz, Stt.put, Stt.puts, iMtO, gAppend, gInsert, gExtend, gLen, iLenO, gAbs, gInt, gMinMax, gList, gTuple, iListRg, gIsi, tyN, gRepr, flatW, eqW, okD, eqOk, cut_13, cut_1_2, cut_1_3, cut_m2, cut_m3, cut_m4, atI_m2, atI_m3, atI_m4, iOfT, tKdIn, iKdIx, atI_0, atI_1, atI_2, atI_3, ixN_4_0, ixN_4_1, ixN_4_2, ixN_4_3, Sto.put_same, Sto.put_put, toNat_2, List.map, List.replicate, List.length_cons, List.length_nil, List.getElem?_cons_zero, List.getElem?_cons_succ, List.getElem?_nil, List.set_cons_zero, List.set_cons_succ, List.set_nil, List.cons_append, List.nil_append, List.append_nil, if_true, if_false]
    exact ⟨trivial, ifT (by decide) ⟨⟨by omega, bn⟩, small_r (by omega) (by omega), ⟨by omega, bn⟩, q⟩⟩
  refine seq_step ⟨[.val (.str w), .val (.int fl), .val (.int n), .val (.tup [.int r, .int f]), .val (.int (r * fl + f)), .val (.int (n - n / 2)), .none, .none, .none], S⟩ (fun nx h => ?_) ?_
  · simp only [bodyI, start0, sSeq, sNext, sNever, sCont, sBreak, sDrop, sRet, sRetN, sRet0, sRetO, sIf, sSet, sSetN, sSetP, sPar, sParEN, sParNE, sPar3, sAsg, gNm, gsNil, gsCons, gTp, sAugI, sIxO, sIxS, sAugS, stoL, setW, iVar, iC, iNil, iCons, iTup, iLst, nLst, iFz, iB, gAdd, gI, gIC, gSub, gMul, gDiv, gMod, gPow, gLt, gLe, gGt, gGe, gEq, gNe, gIn, gIsN, isN, iNeg, tTru', gTru, tBl, iChain, tAnd', tOr', tNot', tYes', iIf, iAnd, iOr, iNot, iIx, gIx, atW, iIxO, ownL, oNone, oSome, iSl, gSl, iRevL, iCall, nCall, iFn, Sh.R.fz, SO.fz, Stt.put, Stt.puts, iMtO, gAppend, gInsert, gExtend, gLen, iLenO, gAbs, gInt, gMinMax, gList, gTuple, iListRg, gIsi, tyN, gRepr, flatW, eqW, okD, eqOk, cut_13, cut_1_2, cut_1_3, cut_m2, cut_m3, cut_m4, atI_m2, atI_m3, atI_m4, iOfT, tKdIn, iKdIx, atI_0, atI_1, atI_2, atI_3, ixN_4_0, ixN_4_1, ixN_4_2, ixN_4_3, Sto.put_same, Sto.put_put, toNat_2, List.map, List.replicate, List.length_cons, List.length_nil, List.getElem?_cons_zero, List.getElem?_cons_succ, List.getElem?_nil, List.set_cons_zero, List.set_cons_succ, List.set_nil, List.cons_append, List.nil_append, List.append_nil, if_true, if_false]
    exact ⟨trivial, ifF (beq_eq_false_iff_ne.mpr w1) h⟩
  by_cases w2 : w = "pair"
  · subst w2
    refine seq_end fun nx => ?_
    simp only [bodyI, start0, sSeq, sNext, sNever, sCont, sBreak, sDrop, sRet, sRetN, sRet0, sRetO, sIf, sSet, sSetN, sSetP, sPar, sParEN, sParNE, sPar3, sAsg, gNm, gsNil, gsCons, gTp, sAugI, sIxO, sIxS, sAugS, stoL, setW, iVar, iC, iNil, iCons, iTup, iLst, nLst, iFz, iB, gAdd, gI, gIC, gSub, gMul, gDiv, gMod, gPow, gLt, gLe, gGt, gGe, gEq, gNe, gIn, gIsN, isN, iNeg, tTru', gTru, tBl, iChain, tAnd', tOr', tNot', tYes', iIf, iAnd, iOr, iNot, iIx, gIx, atW, iIxO, ownL, oNone, oSome, iSl, gSl, iRevL, iCall, nCall, iFn, Sh.R.fz, SO.fz, Stt.put, Stt.puts, iMtO, gAppend, gInsert, gExtend, gLen, iLenO, gAbs, gInt, gMinMax, gList, gTuple, iListRg, gIsi, tyN, gRepr, flatW, eqW, okD, eqOk, cut_13, cut_1_2, cut_1_3, cut_m2, cut_m3, cut_m4, atI_m2, atI_m3, atI_m4, iOfT, tKdIn, iKdIx, atI_0, atI_1, atI_2, atI_3, ixN_4_0, ixN_4_1, ixN_4_2, ixN_4_3, Sto.put_same, Sto.put_put, toNat_2, List.map, List.replicate, List.length_cons, List.length_nil, List.getElem?_cons_zero, List.getElem?_cons_succ, List.getElem?_nil, List.set_cons_zero, List.set_cons_succ, List.set_nil, List.cons_append, List.nil_append, List.append_nil, if_true, if_false]
    exact ⟨trivial, ifT (by decide) ⟨small_l (by omega) (by omega), ⟨by omega, bfl⟩, ⟨by omega, bfl⟩, small_l (by omega) (by omega), q⟩⟩
  refine seq_step ⟨[.val (.str w), .val (.int fl), .val (.int n), .val (.tup [.int r, .int f]), .val (.int (r * fl + f)), .val (.int (n - n / 2)), .none, .none, .none], S⟩ (fun nx h => ?_) ?_
  · simp only [bodyI, start0, sSeq, sNext, sNever, sCont, sBreak, sDrop, sRet, sRetN, sRet0, sRetO, sIf, sSet, sSetN, sSetP, sPar, sParEN, sParNE, sPar3, sAsg, gNm, gsNil, gsCons, gTp, sAugI, sIxO, sIxS, sAugS, stoL, setW, iVar, iC, iNil, iCons, iTup, iLst, nLst, iFz, iB, gAdd, gI, gIC, gSub, gMul, gDiv, gMod, gPow, gLt, gLe, gGt, gGe, gEq, gNe, gIn, gIsN, isN, iNeg, tTru', gTru, tBl, iChain, tAnd', tOr', tNot', tYes', iIf, iAnd, iOr, iNot, iIx, gIx, atW, iIxO, ownL, oNone, oSome, iSl, gSl, iRevL, iCall, nCall, iFn, Sh.R.fz, SO.fz, Stt.put, Stt.puts, iMtO, gAppend, gInsert, gExtend, gLen, iLenO, gAbs, gInt, gMinMax, gList, gTuple, iListRg, gIsi, tyN, gRepr, flatW, eqW, okD, eqOk, cut_13, cut_1_2, cut_1_3, cut_m2, cut_m3, cut_m4, atI_m2, atI_m3, atI_m4, iOfT, tKdIn, iKdIx, atI_0, atI_1, atI_2, atI_3, ixN_4_0, ixN_4_1, ixN_4_2, ixN_4_3, Sto.put_same, Sto.put_put, toNat_2, List.map, List.replicate, List.length_cons, List.length_nil, List.getElem?_cons_zero, List.getElem?_cons_succ, List.getElem?_nil, List.set_cons_zero, List.set_cons_succ, List.set_nil, List.cons_append, List.nil_append, List.append_nil, if_true, if_false]
    exact ⟨trivial, ifF (beq_eq_false_iff_ne.mpr w2) h⟩
  refine seq_step ⟨[.val (.str w), .val (.int fl), .val (.int n), .val (.tup [.int r, .int f]), .val (.int (r * fl + f)), .val (.int (n - n / 2)), .none, .val (.int (r - 2 * (r / 2))), .none], S⟩ (fun nx h => ?_) ?_
  · simp only [bodyI, start0, sSeq, sNext, sNever, sCont, sBreak, sDrop, sRet, sRetN, sRet0, sRetO, sIf, sSet, sSetN, sSetP, sPar, sParEN, sParNE, sPar3, sAsg, gNm, gsNil, gsCons, gTp, sAugI, sIxO, sIxS, sAugS, stoL, setW, iVar, iC, iNil, iCons, iTup, iLst, nLst, iFz, iB, gAdd, gI, gIC, gSub, gMul, gDiv, gMod, gPow, gLt, gLe, gGt, gGe, gEq, gNe, gIn, gIsN, isN, iNeg, tTru', gTru, tBl, iChain, tAnd', tOr', tNot', tYes', iIf, iAnd, iOr, iNot, iIx, gIx, atW, iIxO, ownL, oNone, oSome, iSl, gSl, iRevL, iCall, nCall, iFn, Sh.R.fz, SO.fz, Stt.put, Stt.puts, iMtO, gAppend, gInsert, gExtend, gLen, iLenO, gAbs, gInt, gMinMax, gList, gTuple, iListRg, gIsi, tyN, gRepr, flatW, eqW, okD, eqOk, cut_13, cut_1_2, cut_1_3, cut_m2, cut_m3, cut_m4, atI_m2, atI_m3, atI_m4, iOfT, tKdIn, iKdIx, atI_0, atI_1, atI_2, atI_3, ixN_4_0, ixN_4_1, ixN_4_2, ixN_4_3, Sto.put_same, Sto.put_put, toNat_2, List.map, List.replicate, List.length_cons, List.length_nil, List.getElem?_cons_zero, List.getElem?_cons_succ, List.getElem?_nil, List.set_cons_zero, List.set_cons_succ, List.set_nil, List.cons_append, List.nil_append, List.append_nil, if_true, if_false]
    exact ⟨⟨by omega, b2⟩, small_l (by omega) (by omega), h⟩
  by_cases w3 : w = "others"
  · subst w3
    refine seq_end fun nx => ?_
    simp only [bodyI, start0, sSeq, sNext, sNever, sCont, sBreak, sDrop, sRet, sRetN, sRet0, sRetO, sIf, sSet, sSetN, sSetP, sPar, sParEN, sParNE, sPar3, sAsg, gNm, gsNil, gsCons, gTp, sAugI, sIxO, sIxS, sAugS, stoL, setW, iVar, iC, iNil, iCons, iTup, iLst, nLst, iFz, iB, gAdd, gI, gIC, gSub, gMul, gDiv, gMod, gPow, gLt, gLe, gGt, gGe, gEq, gNe, gIn, gIsN, isN, iNeg, tTru', gTru, tBl, iChain, tAnd', tOr', tNot', tYes', iIf, iAnd, iOr, iNot, iIx, gIx, atW, iIxO, ownL, oNone, oSome, iSl, gSl, iRevL, iCall, nCall, iFn, Sh.R.fz, SO.fz, Stt.put, Stt.puts, iMtO, gAppend, gInsert, gExtend, gLen, iLenO, gAbs, gInt, gMinMax, gList, gTuple, iListRg, gIsi, tyN, gRepr, flatW, eqW, okD, eqOk, cut_13, cut_1_2, cut_1_3, cut_m2, cut_m3, cut_m4, atI_m2, atI_m3, atI_m4, iOfT, tKdIn, iKdIx, atI_0, atI_1, atI_2, atI_3, ixN_4_0, ixN_4_1, ixN_4_2, ixN_4_3, Sto.put_same, Sto.put_put, toNat_2, List.map, List.replicate, List.length_cons, List.length_nil, List.getElem?_cons_zero, List.getElem?_cons_succ, List.getElem?_nil, List.set_cons_zero, List.set_cons_succ, List.set_nil, List.cons_append, List.nil_append, List.append_nil, if_true, if_false]
    exact ⟨trivial, ifT (by decide) ⟨⟨by omega, b2⟩, small_r (by omega) (by omega), q⟩⟩
  refine seq_step ⟨[.val (.str w), .val (.int fl), .val (.int n), .val (.tup [.int r, .int f]), .val (.int (r * fl + f)), .val (.int (n - n / 2)), .none, .val (.int (r - 2 * (r / 2))), .none], S⟩ (fun nx h => ?_) ?_
  · simp only [bodyI, start0, sSeq, sNext, sNever, sCont, sBreak, sDrop, sRet, sRetN, sRet0, sRetO, sIf, sSet, sSetN, sSetP, sPar, sParEN, sParNE, sPar3, sAsg, gNm, gsNil, gsCons, gTp, sAugI, sIxO, sIxS, sAugS, stoL, setW, iVar, iC, iNil, iCons, iTup, iLst, nLst, iFz, iB, gAdd, gI, gIC, gSub, gMul, gDiv, gMod, gPow, gLt, gLe, gGt, gGe, gEq, gNe, gIn, gIsN, isN, iNeg, tTru', gTru, tBl, iChain, tAnd', tOr', tNot', tYes', iIf, iAnd, iOr, iNot, iIx, gIx, atW, iIxO, ownL, oNone, oSome, iSl, gSl, iRevL, iCall, nCall, iFn, Sh.R.fz, SO.fz, Stt.put, Stt.puts, iMtO, gAppend, gInsert, gExtend, gLen, iLenO, gAbs, gInt, gMinMax, gList, gTuple, iListRg, gIsi, tyN, gRepr, flatW, eqW, okD, eqOk, cut_13, cut_1_2, cut_1_3, cut_m2, cut_m3, cut_m4, atI_m2, atI_m3, atI_m4, iOfT, tKdIn, iKdIx, atI_0, atI_1, atI_2, atI_3, ixN_4_0, ixN_4_1, ixN_4_2, ixN_4_3, Sto.put_same, Sto.put_put, toNat_2, List.map, List.replicate, List.length_cons, List.length_nil, List.getElem?_cons_zero, List.getElem?_cons_succ, List.getElem?_nil, List.set_cons_zero, List.set_cons_succ, List.set_nil, List.cons_append, List.nil_append, List.append_nil, if_true, if_false]
    exact ⟨trivial, ifF (beq_eq_false_iff_ne.mpr w3) h⟩
  unfold opn at q
  rw [if_neg w1, if_neg w2, if_neg w3] at q
  refine seq_step ⟨[.val (.str w), .val (.int fl), .val (.int n), .val (.tup [.int r, .int f]), .val (.int (r * fl + f)), .val (.int (n - n / 2)), .none, .val (.int (r - 2 * (r / 2))), .val (.int (if n - n / 2 ≤ r then 1 else 0))], S⟩ (fun nx h => ?_) ?_
  · simp only [bodyI, start0, sSeq, sNext, sNever, sCont, sBreak, sDrop, sRet, sRetN, sRet0, sRetO, sIf, sSet, sSetN, sSetP, sPar, sParEN, sParNE, sPar3, sAsg, gNm, gsNil, gsCons, gTp, sAugI, sIxO, sIxS, sAugS, stoL, setW, iVar, iC, iNil, iCons, iTup, iLst, nLst, iFz, iB, gAdd, gI, gIC, gSub, gMul, gDiv, gMod, gPow, gLt, gLe, gGt, gGe, gEq, gNe, gIn, gIsN, isN, iNeg, tTru', gTru, tBl, iChain, tAnd', tOr', tNot', tYes', iIf, iAnd, iOr, iNot, iIx, gIx, atW, iIxO, ownL, oNone, oSome, iSl, gSl, iRevL, iCall, nCall, iFn, Sh.R.fz, SO.fz, Stt.put, Stt.puts, iMtO, gAppend, gInsert, gExtend, gLen, iLenO, gAbs, gInt, gMinMax, gList, gTuple, iListRg, gIsi, tyN, gRepr, flatW, eqW, okD, eqOk, cut_13, cut_1_2, cut_1_3, cut_m2, cut_m3, cut_m4, atI_m2, atI_m3, atI_m4, iOfT, tKdIn, iKdIx, atI_0, atI_1, atI_2, atI_3, ixN_4_0, ixN_4_1, ixN_4_2, ixN_4_3, Sto.put_same, Sto.put_put, toNat_2, List.map, List.replicate, List.length_cons, List.length_nil, List.getElem?_cons_zero, List.getElem?_cons_succ, List.getElem?_nil, List.set_cons_zero, List.set_cons_succ, List.set_nil, List.cons_append, List.nil_append, List.append_nil, if_true, if_false]
    by_cases z : n - n / 2 ≤ r
    · rw [if_pos z] at h
      rw [decide_eq_true z]
      exact h
    · rw [if_neg z] at h
      rw [decide_eq_false z]
      exact h
  · simp only [bodyI, start0, sSeq, sNext, sNever, sCont, sBreak, sDrop, sRet, sRetN, sRet0, sRetO, sIf, sSet, sSetN, sSetP, sPar, sParEN, sParNE, sPar3, sAsg, gNm, gsNil, gsCons, gTp, sAugI, sIxO, sIxS, sAugS, stoL, setW, iVar, iC, iNil, iCons, iTup, iLst, nLst, iFz, iB, gAdd, gI, gIC, gSub, gMul, gDiv, gMod, gPow, gLt, gLe, gGt, gGe, gEq, gNe, gIn, gIsN, isN, iNeg, tTru', gTru, tBl, iChain, tAnd', tOr', tNot', tYes', iIf, iAnd, iOr, iNot, iIx, gIx, atW, iIxO, ownL, oNone, oSome, iSl, gSl, iRevL, iCall, nCall, iFn, Sh.R.fz, SO.fz, Stt.put, Stt.puts, iMtO, gAppend, gInsert, gExtend, gLen, iLenO, gAbs, gInt, gMinMax, gList, gTuple, iListRg, gIsi, tyN, gRepr, flatW, eqW, okD, eqOk, cut_13, cut_1_2, cut_1_3, cut_m2, cut_m3, cut_m4, atI_m2, atI_m3, atI_m4, iOfT, tKdIn, iKdIx, atI_0, atI_1, atI_2, atI_3, ixN_4_0, ixN_4_1, ixN_4_2, ixN_4_3, Sto.put_same, Sto.put_put, toNat_2, List.map, List.replicate, List.length_cons, List.length_nil, List.getElem?_cons_zero, List.getElem?_cons_succ, List.getElem?_nil, List.set_cons_zero, List.set_cons_succ, List.set_nil, List.cons_append, List.nil_append, List.append_nil, if_true, if_false]
    refine ⟨small_r ?_ ?_, small_l (by omega) (by omega), q⟩ <;> split <;> omega
def ib_l_far : IS := (sSeq (sSet 1 (iB gAdd (iB gMul (iCall sp_l_take (iCons (iVar 0) (iCons (iB gPow (iC (.int 10)) (iC (.int 9))) iNil))) (iB gPow (iC (.int 10)) (iC (.int 30)))) (iCall sp_l_take (iCons (iVar 0) (iCons (iB gPow (iC (.int 10)) (iC (.int 12))) iNil)))))
  (sRet (iCall sp_l_one (iCons (iVar 0) (iCons (iLst (iCons (iC (.int 0)) (iCons (iC (.int 1)) (iCons (iNeg (iC (.int 1))) (iCons (iC (.int 2)) (iCons (iNeg (iC (.int 3))) (iCons (iCall sp_l_take (iCons (iVar 0) (iCons (iC (.int 30)) iNil))) (iCons (iVar 1) (iCons (iB gSub (iC (.int 0)) (iVar 1)) iNil))))))))) iNil)))))
def sp_l_far : ISp := fun ws S Q E => ∃ a o, ws = [.ref a] ∧ S a = some o ∧ IsBag o ∧ ∀ y o', -(10 ^ 41) < y → y < 10 ^ 41 → IsBag o' → Q (.val (.int y)) (S.put a o')
theorem cpow10 {j : Int} (h0 : 0 ≤ j) (h1 : j ≤ 1000) : CPow 10 j := ⟨h0, by omega, by decide⟩
theorem ok_l_far (ws : List W) (S : Sto) (Q : R → Sto → Prop) (E : Exn → Sto → Prop) (h : sp_l_far ws S Q E) : bodyI 2 ib_l_far ws S Q E := by
  obtain ⟨a, o, rfl, ha, hb, q⟩ := h
  unfold ib_l_far
  refine seq_cut (fun st => ∃ (y : Int) (o' : SO), 0 ≤ y ∧ y < 10 ^ 40 ∧ IsBag o' ∧ st = ⟨[.val (.ref a), .val (.int y)], S.put a o'⟩) (fun nx k => ?_) (fun st ⟨y, o1, y0, y1, hb1, es⟩ => ?_)
  · simp only [bodyI, start0, sSeq, sNext, sNever, sCont, sBreak, sDrop, sRet, sRetN, sRet0, sRetO, sIf, sSet, sSetN, sSetP, sPar, sParEN, sParNE, sPar3, sAsg, gNm, gsNil, gsCons, gTp, sAugI, sIxO, sIxS, sAugS, stoL, setW, iVar, iC, iNil, iCons, iTup, iLst, nLst, iFz, iB, gAdd, gI, gIC, gSub, gMul, gDiv, gMod, gPow, gLt, gLe, gGt, gGe, gEq, gNe, gIn, gIsN, isN, iNeg, tTru', gTru, tBl, iChain, tAnd', tOr', tNot', tYes', iIf, iAnd, iOr, iNot, iIx, gIx, atW, iIxO, ownL, oNone, oSome, iSl, gSl, iRevL, iCall, nCall, iFn, Sh.R.fz, SO.fz, Stt.put, Stt.puts, iMtO, gAppend, gInsert, gExtend, gLen, iLenO, gAbs, gInt, gMinMax, gList, gTuple, iListRg, gIsi, tyN, gRepr, flatW, eqW, okD, eqOk, cut_13, cut_1_2, cut_1_3, cut_m2, cut_m3, cut_m4, atI_m2, atI_m3, atI_m4, iOfT, tKdIn, iKdIx, atI_0, atI_1, atI_2, atI_3, ixN_4_0, ixN_4_1, ixN_4_2, ixN_4_3, Sto.put_same, Sto.put_put, toNat_2, List.map, List.replicate, List.length_cons, List.length_nil, List.getElem?_cons_zero, List.getElem?_cons_succ, List.getElem?_nil, List.set_cons_zero, List.set_cons_succ, List.set_nil, List.cons_append, List.nil_append, List.append_nil, if_true, if_false]
    refine ⟨cpow10 (by omega) (by omega), a, _, o, rfl, by decide, ⟨by decide +kernel, by decide +kernel⟩, ha, hb, fun r o1 r0 r1 hb1 => ?_⟩
    simp only [bodyI, start0, sSeq, sNext, sNever, sCont, sBreak, sDrop, sRet, sRetN, sRet0, sRetO, sIf, sSet, sSetN, sSetP, sPar, sParEN, sParNE, sPar3, sAsg, gNm, gsNil, gsCons, gTp, sAugI, sIxO, sIxS, sAugS, stoL, setW, iVar, iC, iNil, iCons, iTup, iLst, nLst, iFz, iB, gAdd, gI, gIC, gSub, gMul, gDiv, gMod, gPow, gLt, gLe, gGt, gGe, gEq, gNe, gIn, gIsN, isN, iNeg, tTru', gTru, tBl, iChain, tAnd', tOr', tNot', tYes', iIf, iAnd, iOr, iNot, iIx, gIx, atW, iIxO, ownL, oNone, oSome, iSl, gSl, iRevL, iCall, nCall, iFn, Sh.R.fz, SO.fz, Stt.put, Stt.puts, iMtO, gAppend, gInsert, gExtend, gLen, iLenO, gAbs, gInt, gMinMax, gList, gTuple, iListRg, gIsi, tyN, gRepr, flatW, eqW, okD, eqOk, cut_13, cut_1_2, cut_1_3, cut_m2, cut_m3, cut_m4, atI_m2, atI_m3, atI_m4, iOfT, tKdIn, iKdIx, atI_0, atI_1, atI_2, atI_3, ixN_4_0, ixN_4_1, ixN_4_2, ixN_4_3, Sto.put_same, Sto.put_put, toNat_2, List.map, List.replicate, List.length_cons, List.length_nil, List.getElem?_cons_zero, List.getElem?_cons_succ, List.getElem?_nil, List.set_cons_zero, List.set_cons_succ, List.set_nil, List.cons_append, List.nil_append, List.append_nil, if_true, if_false]
    refine ⟨cpow10 (by omega) (by omega), ?_, cpow10 (by omega) (by omega), a, _, o1, rfl, by decide, ⟨by decide +kernel, by decide +kernel⟩, Sto.put_same, hb1, fun r2 o2 s0 s1 hb2 => ?_⟩
    · have : r < 1000000000 := r1
      exact .inr (.inl (by omega))
    · have h1 : r < 1000000000 := r1
      have h2 : r2 < 1000000000000 := s1
      rw [Sto.put_put]
      refine k _ ⟨_, o2, ?_, ?_, hb2, rfl⟩
      · show 0 ≤ r * 1000000000000000000000000000000 + r2
        omega
      · show r * 1000000000000000000000000000000 + r2 < 10 ^ 40
        omega
  · subst es
    simp only [bodyI, start0, sSeq, sNext, sNever, sCont, sBreak, sDrop, sRet, sRetN, sRet0, sRetO, sIf, sSet, sSetN, sSetP, sPar, sParEN, sParNE, sPar3, sAsg, gNm, gsNil, gsCons, gTp, sAugI, sIxO, sIxS, sAugS, stoL, setW, iVar, iC, iNil, iCons, iTup, iLst, nLst, iFz, iB, gAdd, gI, gIC, gSub, gMul, gDiv, gMod, gPow, gLt, gLe, gGt, gGe, gEq, gNe, gIn, gIsN, isN, iNeg, tTru', gTru, tBl, iChain, tAnd', tOr', tNot', tYes', iIf, iAnd, iOr, iNot, iIx, gIx, atW, iIxO, ownL, oNone, oSome, iSl, gSl, iRevL, iCall, nCall, iFn, Sh.R.fz, SO.fz, Stt.put, Stt.puts, iMtO, gAppend, gInsert, gExtend, gLen, iLenO, gAbs, gInt, gMinMax, gList, gTuple, iListRg, gIsi, tyN, gRepr, flatW, eqW, okD, eqOk, cut_13, cut_1_2, cut_1_3, cut_m2, cut_m3, cut_m4, atI_m2, atI_m3, atI_m4, iOfT, tKdIn, iKdIx, atI_0, atI_1, atI_2, atI_3, ixN_4_0, ixN_4_1, ixN_4_2, ixN_4_3, Sto.put_same, Sto.put_put, toNat_2, List.map, List.replicate, List.length_cons, List.length_nil, List.getElem?_cons_zero, List.getElem?_cons_succ, List.getElem?_nil, List.set_cons_zero, List.set_cons_succ, List.set_nil, List.cons_append, List.nil_append, List.append_nil, if_true, if_false]
    refine ⟨a, 30, o1, rfl, by omega, by unfold Bd lim; omega, Sto.put_same, hb1, fun r o2 r0 r1 hb2 => ?_⟩
    simp only [bodyI, start0, sSeq, sNext, sNever, sCont, sBreak, sDrop, sRet, sRetN, sRet0, sRetO, sIf, sSet, sSetN, sSetP, sPar, sParEN, sParNE, sPar3, sAsg, gNm, gsNil, gsCons, gTp, sAugI, sIxO, sIxS, sAugS, stoL, setW, iVar, iC, iNil, iCons, iTup, iLst, nLst, iFz, iB, gAdd, gI, gIC, gSub, gMul, gDiv, gMod, gPow, gLt, gLe, gGt, gGe, gEq, gNe, gIn, gIsN, isN, iNeg, tTru', gTru, tBl, iChain, tAnd', tOr', tNot', tYes', iIf, iAnd, iOr, iNot, iIx, gIx, atW, iIxO, ownL, oNone, oSome, iSl, gSl, iRevL, iCall, nCall, iFn, Sh.R.fz, SO.fz, Stt.put, Stt.puts, iMtO, gAppend, gInsert, gExtend, gLen, iLenO, gAbs, gInt, gMinMax, gList, gTuple, iListRg, gIsi, tyN, gRepr, flatW, eqW, okD, eqOk, cut_13, cut_1_2, cut_1_3, cut_m2, cut_m3, cut_m4, atI_m2, atI_m3, atI_m4, iOfT, tKdIn, iKdIx, atI_0, atI_1, atI_2, atI_3, ixN_4_0, ixN_4_1, ixN_4_2, ixN_4_3, Sto.put_same, Sto.put_put, toNat_2, List.map, List.replicate, List.length_cons, List.length_nil, List.getElem?_cons_zero, List.getElem?_cons_succ, List.getElem?_nil, List.set_cons_zero, List.set_cons_succ, List.set_nil, List.cons_append, List.nil_append, List.append_nil, if_true, if_false]
    refine ⟨a, _, o2, rfl, (fun z => nomatch z), by simp only [List.length_cons, List.length_nil]; omega, Sto.put_same, hb2, fun x o3 hx hb3 => ?_⟩
    rw [Sto.put_put]
    simp only [List.mem_cons, List.not_mem_nil, or_false] at hx
    rcases hx with rfl | rfl | rfl | rfl | rfl | rfl | rfl | rfl <;> exact q _ _ (by omega) (by omega) hb3
end Sh
namespace Sh
open PySem L2
open PyProof.Rows hiding St
theorem seq_same {p q : IS} {EI : XI} {D : IEnds} {st : Stt} (h1 : ∀ nx : Stt → Prop, nx st → p EI { D with nx := nx } st) (h2 : q EI D st) : sSeq p q EI D st := h1 _ h2
def isPl (F R : Int) : W → Bool
  | .tup [a, b] => isIx a R && isIx b F
  | _ => false
def ib_p_is_place : IS := (sSeq (sIf (tOr' (tNot' (tTru' (iFn gIsi (iCons (iVar 2) (iCons (iC (.ty "tuple")) iNil))))) (tBl (iB gNe (iFn gLen (iCons (iVar 2) iNil)) (iC (.int 2))))) (sRet (iC (.bl false))) sNext)
  (sRet (iAnd (iCall sp_p_is_index (iCons (iIx (iVar 2) (iC (.int 0))) (iCons (iVar 1) iNil))) (iCall sp_p_is_index (iCons (iIx (iVar 2) (iC (.int 1))) (iCons (iVar 0) iNil))))))
def okParts : W → Prop
  | .tup [a, b] => tyN a ≠ none ∧ tyN b ≠ none
  | _ => True
def sp_p_is_place : ISp := fun ws S Q E => ∃ (F R : Int) (x : W), ws = [.int F, .int R, x] ∧ tyN x ≠ none ∧ okParts x ∧ Q (.val (.bl (isPl F R x))) S
theorem ok_p_is_place (ws : List W) (S : Sto) (Q : R → Sto → Prop) (E : Exn → Sto → Prop) (h : sp_p_is_place ws S Q E) : bodyI 3 ib_p_is_place ws S Q E := by
  obtain ⟨F, R, x, rfl, hx, hp, q⟩ := h
  unfold ib_p_is_place
  cases x with
  | tup ws =>
    match ws, hp, q with
    | [a, b], ⟨ha, hb⟩, q =>
      refine seq_same (fun nx h => ?_) ?_
      · simp only [bodyI, start0, sSeq, sNext, sNever, sCont, sBreak, sDrop, sRet, sRetN, sRet0, sRetO, sIf, sSet, sSetN, sSetP, sPar, sParEN, sParNE, sPar3, sAsg, gNm, gsNil, gsCons, gTp, sAugI, sIxO, sIxS, sAugS, stoL, setW, iVar, iC, iNil, iCons, iTup, iLst, nLst, iFz, iB, gAdd, gI, gIC, gSub, gMul, gDiv, gMod, gPow, gLt, gLe, gGt, gGe, gEq, gNe, gIn, gIsN, isN, iNeg, tTru', gTru, tBl, iChain, tAnd', tOr', tNot', tYes', iIf, iAnd, iOr, iNot, iIx, gIx, atW, iIxO, ownL, oNone, oSome, iSl, gSl, iRevL, iCall, nCall, iFn, Sh.R.fz, SO.fz, Stt.put, Stt.puts, iMtO, gAppend, gInsert, gExtend, gLen, iLenO, gAbs, gInt, gMinMax, gList, gTuple, iListRg, gIsi, tyN, gRepr, flatW, eqW, okD, eqOk, cut_13, cut_1_2, cut_1_3, cut_m2, cut_m3, cut_m4, atI_m2, atI_m3, atI_m4, iOfT, tKdIn, iKdIx, atI_0, atI_1, atI_2, atI_3, ixN_4_0, ixN_4_1, ixN_4_2, ixN_4_3, Sto.put_same, Sto.put_put, toNat_2, List.map, List.replicate, List.length_cons, List.length_nil, List.getElem?_cons_zero, List.getElem?_cons_succ, List.getElem?_nil, List.set_cons_zero, List.set_cons_succ, List.set_nil, List.cons_append, List.nil_append, List.append_nil, if_true, if_false]
        exact ifF rfl ⟨rfl, ifF rfl h⟩
      · refine ⟨a, R, rfl, ha, ?_⟩
        show if isIx a R = true then _ else _
        have q2 : Q (.val (.bl (isIx a R && isIx b F))) S := q
        refine ifb (fun z => ⟨b, F, rfl, hb, ?_⟩) (fun z => ?_)
        · rw [z] at q2; exact q2
        · rw [z] at q2
          show Q (.val (.bl (isIx a R))) S
          rw [z]; exact q2
    | [], _, q =>
      refine seq_end fun nx => ?_
      simp only [bodyI, start0, sSeq, sNext, sNever, sCont, sBreak, sDrop, sRet, sRetN, sRet0, sRetO, sIf, sSet, sSetN, sSetP, sPar, sParEN, sParNE, sPar3, sAsg, gNm, gsNil, gsCons, gTp, sAugI, sIxO, sIxS, sAugS, stoL, setW, iVar, iC, iNil, iCons, iTup, iLst, nLst, iFz, iB, gAdd, gI, gIC, gSub, gMul, gDiv, gMod, gPow, gLt, gLe, gGt, gGe, gEq, gNe, gIn, gIsN, isN, iNeg, tTru', gTru, tBl, iChain, tAnd', tOr', tNot', tYes', iIf, iAnd, iOr, iNot, iIx, gIx, atW, iIxO, ownL, oNone, oSome, iSl, gSl, iRevL, iCall, nCall, iFn, Sh.R.fz, SO.fz, Stt.put, Stt.puts, iMtO, gAppend, gInsert, gExtend, gLen, iLenO, gAbs, gInt, gMinMax, gList, gTuple, iListRg, gIsi, tyN, gRepr, flatW, eqW, okD, eqOk, cut_13, cut_1_2, cut_1_3, cut_m2, cut_m3, cut_m4, atI_m2, atI_m3, atI_m4, iOfT, tKdIn, iKdIx, atI_0, atI_1, atI_2, atI_3, ixN_4_0, ixN_4_1, ixN_4_2, ixN_4_3, Sto.put_same, Sto.put_put, toNat_2, List.map, List.replicate, List.length_cons, List.length_nil, List.getElem?_cons_zero, List.getElem?_cons_succ, List.getElem?_nil, List.set_cons_zero, List.set_cons_succ, List.set_nil, List.cons_append, List.nil_append, List.append_nil, if_true, if_false]
      exact ifF rfl ⟨rfl, ifT rfl q⟩
    | [_], _, q =>
      refine seq_end fun nx => ?_
      simp only [bodyI, start0, sSeq, sNext, sNever, sCont, sBreak, sDrop, sRet, sRetN, sRet0, sRetO, sIf, sSet, sSetN, sSetP, sPar, sParEN, sParNE, sPar3, sAsg, gNm, gsNil, gsCons, gTp, sAugI, sIxO, sIxS, sAugS, stoL, setW, iVar, iC, iNil, iCons, iTup, iLst, nLst, iFz, iB, gAdd, gI, gIC, gSub, gMul, gDiv, gMod, gPow, gLt, gLe, gGt, gGe, gEq, gNe, gIn, gIsN, isN, iNeg, tTru', gTru, tBl, iChain, tAnd', tOr', tNot', tYes', iIf, iAnd, iOr, iNot, iIx, gIx, atW, iIxO, ownL, oNone, oSome, iSl, gSl, iRevL, iCall, nCall, iFn, Sh.R.fz, SO.fz, Stt.put, Stt.puts, iMtO, gAppend, gInsert, gExtend, gLen, iLenO, gAbs, gInt, gMinMax, gList, gTuple, iListRg, gIsi, tyN, gRepr, flatW, eqW, okD, eqOk, cut_13, cut_1_2, cut_1_3, cut_m2, cut_m3, cut_m4, atI_m2, atI_m3, atI_m4, iOfT, tKdIn, iKdIx, atI_0, atI_1, atI_2, atI_3, ixN_4_0, ixN_4_1, ixN_4_2, ixN_4_3, Sto.put_same, Sto.put_put, toNat_2, List.map, List.replicate, List.length_cons, List.length_nil, List.getElem?_cons_zero, List.getElem?_cons_succ, List.getElem?_nil, List.set_cons_zero, List.set_cons_succ, List.set_nil, List.cons_append, List.nil_append, List.append_nil, if_true, if_false]
      exact ifF rfl ⟨rfl, ifT rfl q⟩
    | _ :: _ :: _ :: r, _, q =>
      refine seq_end fun nx => ?_
      simp only [bodyI, start0, sSeq, sNext, sNever, sCont, sBreak, sDrop, sRet, sRetN, sRet0, sRetO, sIf, sSet, sSetN, sSetP, sPar, sParEN, sParNE, sPar3, sAsg, gNm, gsNil, gsCons, gTp, sAugI, sIxO, sIxS, sAugS, stoL, setW, iVar, iC, iNil, iCons, iTup, iLst, nLst, iFz, iB, gAdd, gI, gIC, gSub, gMul, gDiv, gMod, gPow, gLt, gLe, gGt, gGe, gEq, gNe, gIn, gIsN, isN, iNeg, tTru', gTru, tBl, iChain, tAnd', tOr', tNot', tYes', iIf, iAnd, iOr, iNot, iIx, gIx, atW, iIxO, ownL, oNone, oSome, iSl, gSl, iRevL, iCall, nCall, iFn, Sh.R.fz, SO.fz, Stt.put, Stt.puts, iMtO, gAppend, gInsert, gExtend, gLen, iLenO, gAbs, gInt, gMinMax, gList, gTuple, iListRg, gIsi, tyN, gRepr, flatW, eqW, okD, eqOk, cut_13, cut_1_2, cut_1_3, cut_m2, cut_m3, cut_m4, atI_m2, atI_m3, atI_m4, iOfT, tKdIn, iKdIx, atI_0, atI_1, atI_2, atI_3, ixN_4_0, ixN_4_1, ixN_4_2, ixN_4_3, Sto.put_same, Sto.put_put, toNat_2, List.map, List.replicate, List.length_cons, List.length_nil, List.getElem?_cons_zero, List.getElem?_cons_succ, List.getElem?_nil, List.set_cons_zero, List.set_cons_succ, List.set_nil, List.cons_append, List.nil_append, List.append_nil, if_true, if_false]
      refine ifF rfl ⟨rfl, ifT ?_ q⟩
      rw [Bool.not_eq_true', beq_eq_false_iff_ne]
      omega
  | _ => first | exact absurd rfl hx | exact q
/-- the place of a number -/
def plc (F x : Int) : W := .tup [.int (x / F), .int (x % F)]
theorem plc_of {F r f : Int} (f0 : 0 ≤ f) (f1 : f < F) : plc F (r * F + f) = .tup [.int r, .int f] := by
  have hF : 0 < F := by omega
  unfold plc
  have e1 : (r * F + f) / F = r := by
    rw [Int.add_comm, Int.add_mul_ediv_right _ _ (by omega), Int.ediv_eq_zero_of_lt f0 f1]; omega
  have e2 : (r * F + f) % F = f := by
    rw [Int.add_comm, Int.add_mul_emod_self_right, Int.emod_eq_of_lt f0 f1]
  rw [e1, e2]
theorem plc_in {F R x : Int} (hF : 0 < F) (x0 : 0 ≤ x) (x1 : x < F * R) : 0 ≤ x / F ∧ x / F < R ∧ 0 ≤ x % F ∧ x % F < F ∧ x / F * F + x % F = x := by
  refine ⟨Int.ediv_nonneg x0 (by omega), Int.ediv_lt_of_lt_mul hF (by rw [Int.mul_comm]; exact x1), Int.emod_nonneg _ (by omega), Int.emod_lt_of_pos _ hF, ?_⟩
  have := Int.mul_ediv_add_emod x F
  rw [Int.mul_comm]
  exact this
def ib_p_place_of : IS := (sRet (iTup (iCons (iB gDiv (iVar 1) (iVar 0)) (iCons (iB gMod (iVar 1) (iVar 0)) iNil))))
def sp_p_place_of : ISp := fun ws S Q E => ∃ F x : Int, ws = [.int F, .int x] ∧ 0 < F ∧ Bd F ∧ Q (.val (plc F x)) S
theorem ok_p_place_of (ws : List W) (S : Sto) (Q : R → Sto → Prop) (E : Exn → Sto → Prop) (h : sp_p_place_of ws S Q E) : bodyI 2 ib_p_place_of ws S Q E := by
  obtain ⟨F, x, rfl, h0, h1, q⟩ := h
  exact ⟨⟨h0, h1⟩, h0, q⟩
def ib_p_number_of : IS := (sRet (iB gAdd (iB gMul (iIx (iVar 1) (iC (.int 0))) (iVar 0)) (iIx (iVar 1) (iC (.int 1)))))
def sp_p_number_of : ISp := fun ws S Q E => ∃ F r f : Int, ws = [.int F, .tup [.int r, .int f]] ∧ -100 ≤ F ∧ F ≤ 100 ∧ Q (.val (.int (r * F + f))) S
theorem ok_p_number_of (ws : List W) (S : Sto) (Q : R → Sto → Prop) (E : Exn → Sto → Prop) (h : sp_p_number_of ws S Q E) : bodyI 2 ib_p_number_of ws S Q E := by
  obtain ⟨F, r, f, rfl, h0, h1, q⟩ := h
  unfold ib_p_number_of
  simp only [bodyI, start0, sSeq, sNext, sNever, sCont, sBreak, sDrop, sRet, sRetN, sRet0, sRetO, sIf, sSet, sSetN, sSetP, sPar, sParEN, sParNE, sPar3, sAsg, gNm, gsNil, gsCons, gTp, sAugI, sIxO, sIxS, sAugS, stoL, setW, iVar, iC, iNil, iCons, iTup, iLst, nLst, iFz, iB, gAdd, gI, gIC, gSub, gMul, gDiv, gMod, gPow, gLt, gLe, gGt, gGe, gEq, gNe, gIn, gIsN, isN, iNeg, tTru', gTru, tBl, iChain, tAnd', tOr', tNot', tYes', iIf, iAnd, iOr, iNot, iIx, gIx, atW, iIxO, ownL, oNone, oSome, iSl, gSl, iRevL, iCall, nCall, iFn, Sh.R.fz, SO.fz, Stt.put, Stt.puts, iMtO, gAppend, gInsert, gExtend, gLen, iLenO, gAbs, gInt, gMinMax, gList, gTuple, iListRg, gIsi, tyN, gRepr, flatW, eqW, okD, eqOk, cut_13, cut_1_2, cut_1_3, cut_m2, cut_m3, cut_m4, atI_m2, atI_m3, atI_m4, iOfT, tKdIn, iKdIx, atI_0, atI_1, atI_2, atI_3, ixN_4_0, ixN_4_1, ixN_4_2, ixN_4_3, Sto.put_same, Sto.put_put, toNat_2, List.map, List.replicate, List.length_cons, List.length_nil, List.getElem?_cons_zero, List.getElem?_cons_succ, List.getElem?_nil, List.set_cons_zero, List.set_cons_succ, List.set_nil, List.cons_append, List.nil_append, List.append_nil, if_true, if_false]
  exact ⟨small_r h0 h1, q⟩
def hv (F R x k : Int) : Int := if x = F * R - 1 then x else if 0 ≤ k then x * (F ^ k.toNat % (F * R - 1)) % (F * R - 1) else x * (R ^ (-k).toNat % (F * R - 1)) % (F * R - 1)
def ib_p_halved : IS := (sSeq (sIf (tNot' (tTru' (iCall sp_p_is_place (iCons (iVar 0) (iCons (iVar 1) (iCons (iVar 2) iNil)))))) sNever sNext)
  (sSeq (sPar 4 5 (iB gSub (iB gMul (iVar 0) (iVar 1)) (iC (.int 1))) (iCall sp_p_number_of (iCons (iVar 0) (iCons (iVar 2) iNil))))
  (sSeq (sIf (tBl (iB gEq (iVar 5) (iVar 4))) (sRet (iVar 2)) sNext)
  (sSeq (sSet 6 (iIf (tBl (iB gGe (iVar 3) (iC (.int 0)))) (iCall sp_p_power (iCons (iVar 0) (iCons (iVar 3) (iCons (iVar 4) iNil)))) (iCall sp_p_power (iCons (iVar 1) (iCons (iNeg (iVar 3)) (iCons (iVar 4) iNil))))))
  (sRet (iCall sp_p_place_of (iCons (iVar 0) (iCons (iB gMod (iB gMul (iVar 5) (iVar 6)) (iVar 4)) iNil))))))))
/-- a line of a sober size -/
def Ln (F R : Int) : Prop := 2 ≤ F ∧ F ≤ 3 ∧ 1 ≤ R ∧ R < 10 ^ 100
def sp_p_halved : ISp := fun ws S Q E => ∃ F R x k : Int, ws = [.int F, .int R, plc F x, .int k] ∧ Ln F R ∧ 0 ≤ x ∧ x < F * R ∧ Q (.val (plc F (hv F R x k))) S
theorem Ln.last {F R : Int} (h : Ln F R) : 0 < F * R - 1 ∧ Bd (F * R - 1) ∧ F * R - 1 < 10 ^ 101 := by
  obtain ⟨h1, h2, h3, h4⟩ := h
  have a : 2 * R ≤ F * R := Int.mul_le_mul_of_nonneg_right h1 (by omega)
  have b : F * R ≤ 3 * R := Int.mul_le_mul_of_nonneg_right h2 (by omega)
  exact ⟨by omega, by unfold Bd lim; omega, by omega⟩
theorem isPl_plc {F R x : Int} (hF : 0 < F) (x0 : 0 ≤ x) (x1 : x < F * R) : isPl F R (plc F x) = true := by
  obtain ⟨a, b, c, d, _⟩ := plc_in hF x0 x1
  show (decide (0 ≤ x / F) && decide (x / F < R) && (decide (0 ≤ x % F) && decide (x % F < F))) = true
  rw [decide_eq_true a, decide_eq_true b, decide_eq_true c, decide_eq_true d]
  rfl
theorem ok_p_halved (ws : List W) (S : Sto) (Q : R → Sto → Prop) (E : Exn → Sto → Prop) (h : sp_p_halved ws S Q E) : bodyI 7 ib_p_halved ws S Q E := by
  obtain ⟨F, R, x, k, rfl, hl, x0, x1, q⟩ := h
  obtain ⟨m0, m1, m2⟩ := hl.last
  obtain ⟨h1, h2, h3, h4⟩ := hl
  have pin := plc_in (R := R) (x := x) (show 0 < F by omega) x0 x1
  unfold ib_p_halved
  refine seq_same (fun nx h => ?_) ?_
  · refine ⟨F, R, plc F x, rfl, (fun z => by cases z), ⟨fun z => (by cases z), fun z => (by cases z)⟩, ?_⟩
    rw [isPl_plc (by omega) x0 x1]
    exact h
  refine seq_step ⟨[.val (.int F), .val (.int R), .val (plc F x), .val (.int k), .val (.int (F * R - 1)), .val (.int x), .none], S⟩ (fun nx h => ?_) ?_
  · refine ⟨small_l (by omega) (by omega), F, x / F, x % F, rfl, by omega, by omega, ?_⟩
    rw [pin.2.2.2.2]
    exact h
  by_cases z : x = F * R - 1
  · refine seq_end fun nx => ?_
    rw [show hv F R x k = x from if_pos z] at q
    exact ⟨rfl, ifT (beq_iff_eq.mpr z) q⟩
  refine seq_same (fun nx h => ⟨rfl, ifF (beq_eq_false_iff_ne.mpr z) h⟩) ?_
  have fin : ∀ y : Int, 0 ≤ y → y < F * R - 1 → Q (.val (plc F (x * y % (F * R - 1)))) S → sRet (iCall sp_p_place_of (iCons (iVar 0) (iCons (iB gMod (iB gMul (iVar 5) (iVar 6)) (iVar 4)) iNil))) (fun x st => E x st.S) { nx := fun st => Q (.val .non) st.S, rt := Q } ⟨[.val (.int F), .val (.int R), .val (plc F x), .val (.int k), .val (.int (F * R - 1)), .val (.int x), .val (.int y)], S⟩ := fun y y0 y1 q =>
    ⟨.inl ⟨bd_lt m1 x0 (by omega), bd_lt m1 y0 y1⟩, m0, F, _, rfl, by omega, by unfold Bd lim; omega, q⟩
  rw [show hv F R x k = _ from if_neg z] at q
  by_cases hk : 0 ≤ k
  · rw [if_pos hk] at q
    refine seq_step _ (fun nx h => ?_) (fin (F ^ k.toNat % (F * R - 1)) (Int.emod_nonneg _ (by omega)) (Int.emod_lt_of_pos _ m0) q)
    refine ifT (decide_eq_true hk) ⟨F, k.toNat, F * R - 1, ?_, m0, m1, h⟩
    rw [Int.toNat_of_nonneg hk]
  · rw [if_neg hk] at q
    refine seq_step _ (fun nx h => ?_) (fin (R ^ (-k).toNat % (F * R - 1)) (Int.emod_nonneg _ (by omega)) (Int.emod_lt_of_pos _ m0) q)
    refine ifF (decide_eq_false hk) ⟨R, (-k).toNat, F * R - 1, ?_, m0, m1, h⟩
    rw [Int.toNat_of_nonneg (by omega)]
theorem fr_cg {F R : Int} : Cg (F * R - 1) (F * R) 1 := ⟨1, by grind⟩
theorem fr_pow {F R : Int} (i : Nat) : Cg (F * R - 1) (R ^ i * F ^ i) 1 := by
  have := (fr_cg (F := F) (R := R)).pow i
  rw [Int.mul_pow, Int.one_pow] at this
  rw [Int.mul_comm (R ^ i)]
  exact this
theorem fr_cancel {F R u v : Int} {i : Nat} (h : Cg (F * R - 1) (F ^ i * u) (F ^ i * v)) : Cg (F * R - 1) u v := by
  have c := (Cg.refl (R ^ i)).mul h
  have e : ∀ x : Int, Cg (F * R - 1) (R ^ i * (F ^ i * x)) x := fun x => by
    have := (fr_pow (F := F) (R := R) i).mul (Cg.refl x)
    rw [Int.one_mul] at this
    rw [← Int.mul_assoc]
    exact this
  exact ((e u).symm.trans c).trans (e v)
section
variable {F R x k l y : Int}
theorem hv_rel (m0 : 0 < F * R - 1) (hx : x ≠ F * R - 1) : 0 ≤ hv F R x k ∧ hv F R x k < F * R - 1 ∧ ∀ i j : Nat, (i : Int) - j = k → Cg (F * R - 1) (F ^ j * hv F R x k) (F ^ i * x) := by
  unfold hv
  rw [if_neg hx]
  by_cases hk : 0 ≤ k
  · rw [if_pos hk]
    refine ⟨Int.emod_nonneg _ (by omega), Int.emod_lt_of_pos _ m0, fun i j e => ?_⟩
    have ei : i = k.toNat + j := by omega
    have c : Cg (F * R - 1) (x * (F ^ k.toNat % (F * R - 1)) % (F * R - 1)) (x * F ^ k.toNat) := (cg_mod _ _).trans ((Cg.refl x).mul (cg_mod _ _))
    refine ((Cg.refl (F ^ j)).mul c).trans ?_
    rw [ei, Int.pow_add]
    have e2 : F ^ j * (x * F ^ k.toNat) = F ^ k.toNat * F ^ j * x := by grind
    rw [e2]
    exact .refl _
  · rw [if_neg hk]
    refine ⟨Int.emod_nonneg _ (by omega), Int.emod_lt_of_pos _ m0, fun i j e => ?_⟩
    have ej : j = i + (-k).toNat := by omega
    have c : Cg (F * R - 1) (x * (R ^ (-k).toNat % (F * R - 1)) % (F * R - 1)) (x * R ^ (-k).toNat) := (cg_mod _ _).trans ((Cg.refl x).mul (cg_mod _ _))
    refine ((Cg.refl (F ^ j)).mul c).trans ?_
    rw [ej, Int.pow_add]
    have := (fr_pow (F := F) (R := R) (-k).toNat).mul (Cg.refl (F ^ i * x))
    rw [Int.one_mul] at this
    have e2 : F ^ i * F ^ (-k).toNat * (x * R ^ (-k).toNat) = R ^ (-k).toNat * F ^ (-k).toNat * (F ^ i * x) := by grind
    rw [e2]
    exact this
theorem hv_eq (m0 : 0 < F * R - 1) (hx : x ≠ F * R - 1) (y0 : 0 ≤ y) (y1 : y < F * R - 1) (i j : Nat) (e : (i : Int) - j = k) (c : Cg (F * R - 1) (F ^ j * y) (F ^ i * x)) : hv F R x k = y := by
  obtain ⟨a, b, r⟩ := hv_rel (k := k) m0 hx
  exact (fr_cancel ((r i j e).trans c.symm)).eq a b y0 y1
theorem hv_in (m0 : 0 < F * R - 1) (x0 : 0 ≤ x) (x1 : x < F * R) : 0 ≤ hv F R x k ∧ hv F R x k < F * R := by
  by_cases hx : x = F * R - 1
  · rw [show hv F R x k = x from if_pos hx]
    exact ⟨x0, x1⟩
  · obtain ⟨a, b, _⟩ := hv_rel (k := k) m0 hx
    exact ⟨a, by omega⟩
theorem hv_add (m0 : 0 < F * R - 1) : hv F R (hv F R x k) l = hv F R x (k + l) := by
  by_cases hx : x = F * R - 1
  · rw [show hv F R x k = x from if_pos hx, show hv F R x l = x from if_pos hx, show hv F R x (k + l) = x from if_pos hx]
  · obtain ⟨a, b, r⟩ := hv_rel (k := k) m0 hx
    obtain ⟨a2, b2, r2⟩ := hv_rel (F := F) (R := R) (x := hv F R x k) (k := l) m0 (by omega)
    refine (hv_eq m0 hx a2 b2 (k.toNat + l.toNat) ((-k).toNat + (-l).toNat) (by omega) ?_).symm
    have c1 := r k.toNat (-k).toNat (by omega)
    have c2 := r2 l.toNat (-l).toNat (by omega)
    rw [Int.pow_add, Int.pow_add]
    have d1 := (Cg.refl (F ^ (-k).toNat)).mul c2
    have d2 := (Cg.refl (F ^ l.toNat)).mul c1
    have e1 : F ^ (-k).toNat * F ^ (-l).toNat * hv F R (hv F R x k) l = F ^ (-k).toNat * (F ^ (-l).toNat * hv F R (hv F R x k) l) := by grind
    have e2 : F ^ (-k).toNat * (F ^ l.toNat * hv F R x k) = F ^ l.toNat * (F ^ (-k).toNat * hv F R x k) := by grind
    have e3 : F ^ k.toNat * F ^ l.toNat * x = F ^ l.toNat * (F ^ k.toNat * x) := by grind
    rw [e1, e3]
    rw [e2] at d1
    exact d1.trans d2
theorem hv_zero (m0 : 0 < F * R - 1) (x0 : 0 ≤ x) (x1 : x < F * R) : hv F R x 0 = x := by
  by_cases hx : x = F * R - 1
  · exact if_pos hx
  · exact hv_eq m0 hx x0 (by omega) 0 0 rfl (.refl _)
theorem hv_nought (m0 : 0 < F * R - 1) : hv F R 0 k = 0 :=
  hv_eq m0 (by omega) (by omega) (by omega) k.toNat (-k).toNat (by omega) (by rw [Int.mul_zero, Int.mul_zero]; exact .refl _)
theorem hv_last : hv F R (F * R - 1) k = F * R - 1 := if_pos rfl
theorem hv_back {r : Nat} (m0 : 0 < F * R - 1) (x0 : 0 ≤ x) (x1 : x < F * R) (hr : Cg (F * R - 1) (F ^ r) 1) : hv F R x r = x := by
  by_cases hx : x = F * R - 1
  · exact if_pos hx
  · refine hv_eq m0 hx x0 (by omega) r 0 (by omega) ?_
    have := hr.mul (Cg.refl x)
    rw [Int.pow_zero]
    exact this.symm
/-- one round is the call -/
theorem hv_halve (hF : 0 < F) (hR : 0 < R) (m0 : 0 < F * R - 1) (x0 : 0 ≤ x) (x1 : x < F * R) : hv F R x 1 = x % R * F + x / R := by
  have q0 : 0 ≤ x / R := Int.ediv_nonneg x0 (by omega)
  have q1 : x / R < F := Int.ediv_lt_of_lt_mul hR x1
  have s0 : 0 ≤ x % R := Int.emod_nonneg _ (by omega)
  have s1 : x % R < R := Int.emod_lt_of_pos _ hR
  have ex := Int.mul_ediv_add_emod x R
  generalize x / R = q at *
  generalize x % R = s at *
  have up : s * F ≤ (R - 1) * F := Int.mul_le_mul_of_nonneg_right (by omega) (by omega)
  have e1 : (R - 1) * F = F * R - F := by grind
  by_cases hx : x = F * R - 1
  · rw [show hv F R x 1 = x from if_pos hx]
    have es : s = R - 1 := by
      by_cases z : s = R - 1
      · exact z
      · exfalso
        have a : R * q ≤ R * (F - 1) := Int.mul_le_mul_of_nonneg_left (by omega) (by omega)
        have b : R * (F - 1) = F * R - R := by grind
        omega
    have eq : q = F - 1 := by
      have e : R * q = R * (F - 1) := by
        have : R * (F - 1) = F * R - R := by grind
        omega
      exact Int.eq_of_mul_eq_mul_left (by omega) e
    rw [es, eq, e1, hx]
    omega
  · have n0 : 0 ≤ s * F := Int.mul_nonneg s0 (by omega)
    refine hv_eq m0 hx (by omega) ?_ 1 0 rfl ?_
    · by_cases z : s * F + q = F * R - 1
      · exfalso
        apply hx
        have es : s = R - 1 := by
          by_cases w : s = R - 1
          · exact w
          · exfalso
            have : s * F ≤ (R - 2) * F := Int.mul_le_mul_of_nonneg_right (by omega) (by omega)
            have e2 : (R - 2) * F = F * R - 2 * F := by grind
            omega
        have eq : q = F - 1 := by rw [es, e1] at z; omega
        rw [← ex, es, eq]
        grind
      · omega
    · rw [Int.pow_succ, Int.pow_zero, Int.one_mul, Int.one_mul]
      refine ⟨-q, ?_⟩
      rw [← ex]
      grind
theorem hv_pair {r f : Int} (hF : 0 < F) (hR : 0 < R) (m0 : 0 < F * R - 1) (r0 : 0 ≤ r) (r1 : r < R) (f0 : 0 ≤ f) (f1 : f < F) : hv F R (r * F + f) (-1) = f * R + r := by
  have a : f * R ≤ (F - 1) * R := Int.mul_le_mul_of_nonneg_right (by omega) (by omega)
  have b : (F - 1) * R = F * R - R := by grind
  have a0 : 0 ≤ f * R := Int.mul_nonneg f0 (by omega)
  by_cases hx : r * F + f = F * R - 1
  · rw [show hv F R (r * F + f) (-1) = r * F + f from if_pos hx, hx]
    have er : r = R - 1 := by
      by_cases w : r = R - 1
      · exact w
      · exfalso
        have : r * F ≤ (R - 2) * F := Int.mul_le_mul_of_nonneg_right (by omega) (by omega)
        have e2 : (R - 2) * F = F * R - 2 * F := by grind
        omega
    have ef : f = F - 1 := by
      rw [er] at hx
      have : (R - 1) * F = F * R - F := by grind
      omega
    rw [er, ef, b]
    omega
  · refine hv_eq m0 hx (by omega) ?_ 0 1 rfl ?_
    · by_cases z : f * R + r = F * R - 1
      · exfalso
        apply hx
        have ef : f = F - 1 := by
          by_cases w : f = F - 1
          · exact w
          · exfalso
            have : f * R ≤ (F - 2) * R := Int.mul_le_mul_of_nonneg_right (by omega) (by omega)
            have e2 : (F - 2) * R = F * R - 2 * R := by grind
            omega
        have er : r = R - 1 := by rw [ef, b] at z; omega
        rw [er, ef]
        grind
      · omega
    · rw [Int.pow_succ, Int.pow_zero, Int.one_mul, Int.one_mul]
      exact ⟨f, by grind⟩
end
def ib_p_halve_return : IS := (sRet (iCall sp_p_order_paper (iCons (iVar 0) (iCons (iB gSub (iB gMul (iVar 0) (iVar 1)) (iC (.int 1))) iNil))))
def sp_p_halve_return : ISp := fun ws S Q E => ∃ F R : Int, ws = [.int F, .int R] ∧ 2 ≤ F ∧ F ≤ 3 ∧ 1 ≤ R ∧ R ≤ 1000000 ∧ ∀ r : Nat, IsOrd (F * R - 1) F r → Q (.val (.tup [.int r, .lst (natW (primes r))])) S
theorem fr_gcd {F R : Int} (hF : 0 < F) (hR : 0 < R) (m0 : 0 < F * R - 1) : Nat.gcd (F * R - 1).toNat (F % (F * R - 1)).toNat = 1 := by
  have d1 := Nat.gcd_dvd_left (F * R - 1).toNat (F % (F * R - 1)).toNat
  have d2 := Nat.gcd_dvd_right (F * R - 1).toNat (F % (F * R - 1)).toNat
  generalize Nat.gcd (F * R - 1).toNat (F % (F * R - 1)).toNat = g at d1 d2
  have i1 : (g : Int) ∣ F * R - 1 := by
    have := Int.natCast_dvd_natCast.mpr d1
    rw [Int.toNat_of_nonneg (by omega)] at this
    exact this
  have i2 : (g : Int) ∣ F % (F * R - 1) := by
    have := Int.natCast_dvd_natCast.mpr d2
    rw [Int.toNat_of_nonneg (Int.emod_nonneg _ (by omega))] at this
    exact this
  have i3 : (g : Int) ∣ F := by
    have e := Int.mul_ediv_add_emod F (F * R - 1)
    rw [← e]
    exact Int.dvd_add (Int.dvd_mul_of_dvd_left i1) i2
  have i4 : (g : Int) ∣ 1 := by
    have e : (1 : Int) = F * R - (F * R - 1) := by omega
    rw [e]
    exact Int.dvd_sub (Int.dvd_mul_of_dvd_left i3) i1
  have := Int.natCast_dvd_natCast.mp (show ((g : Nat) : Int) ∣ ((1 : Nat) : Int) from i4)
  exact Nat.dvd_one.mp this
theorem ok_p_halve_return (ws : List W) (S : Sto) (Q : R → Sto → Prop) (E : Exn → Sto → Prop) (h : sp_p_halve_return ws S Q E) : bodyI 2 ib_p_halve_return ws S Q E := by
  obtain ⟨F, R, rfl, h1, h2, h3, h4, q⟩ := h
  have a : 2 * R ≤ F * R := Int.mul_le_mul_of_nonneg_right h1 (by omega)
  have b : F * R ≤ 3 * R := Int.mul_le_mul_of_nonneg_right h2 (by omega)
  exact ⟨small_l (by omega) (by omega), F, F * R - 1, rfl, by omega, by omega, by unfold Bd lim; omega, fr_gcd (by omega) (by omega) (by omega), q⟩
end Sh
namespace Sh
open PySem L2
open PyProof.Rows hiding St
inductive Call where
  | all (k : Int) | up (f k : Int) | swap (f g : Int) | wheel (f g k : Int) | about | front (f g : Int) | halve | pair | others | fill
def Call.w : Call → W
  | .all k => .tup [.str "all", .int k]
  | .up f k => .tup [.str "up", .int f, .int k]
  | .swap f g => .tup [.str "swap", .int f, .int g]
  | .wheel f g k => .tup [.str "wheel", .int f, .int g, .int k]
  | .about => .tup [.str "about"]
  | .front f g => .tup [.str "front", .int f, .int g]
  | .halve => .tup [.str "halve"]
  | .pair => .tup [.str "pair"]
  | .others => .tup [.str "others"]
  | .fill => .tup [.str "fill"]
/-- files that there are, two of them -/
def Two (F f g : Int) : Prop := 0 ≤ f ∧ f < F ∧ 0 ≤ g ∧ g < F ∧ f ≠ g
def Call.ok (F : Int) : Call → Prop
  | .all _ => True
  | .up f _ => 0 ≤ f ∧ f < F
  | .swap f g => Two F f g
  | .wheel f g _ => Two F f g
  | .front f g => Two F f g
  | _ => True
def whl (R g h k : Int) (p : Int × Int) : Int × Int :=
  if p.2 ≠ g ∧ p.2 ≠ h then p else
    let s := ((if p.2 = g then R - 1 - p.1 else R + p.1) + k) % (2 * R)
    if s < R then (R - 1 - s, g) else (s - R, h)
def mv (F R : Int) (c : Call) (p : Int × Int) : Int × Int := match c with
  | .all k => ((p.1 - k) % R, p.2)
  | .up g k => if p.2 = g then ((p.1 - k) % R, p.2) else p
  | .about => (R - 1 - p.1, F - 1 - p.2)
  | .wheel g h k => whl R g h k p
  | .swap g h => if p.2 ≠ g ∧ p.2 ≠ h then p else (p.1, if p.2 = g then h else g)
  | .front g h => if (p.2 ≠ g ∧ p.2 ≠ h) ∨ 0 < p.1 then p else (p.1, if p.2 = g then h else g)
  | .halve => ((p.1 * F + p.2) % R, (p.1 * F + p.2) / R)
  | .pair => ((p.2 * R + p.1) / F, (p.2 * R + p.1) % F)
  | .others => if p.1 % 2 = 0 then (p.1 / 2, p.2) else ((R + 1) / 2 + p.1 / 2, p.2)
  | .fill => if p.1 < (R + 1) / 2 then (2 * p.1, p.2) else (2 * (p.1 - (R + 1) / 2) + 1, p.2)
/-- a place of the line -/
def At (F R : Int) (p : Int × Int) : Prop := 0 ≤ p.1 ∧ p.1 < R ∧ 0 ≤ p.2 ∧ p.2 < F
theorem inW_two {i g h : Int} : inW (.int i) [.int g, .int h] = decide (i = g ∨ i = h) := by
  unfold inW
  simp only [List.any_cons, List.any_nil, eqW, Bool.or_false]
  by_cases a : i = g
  · subst a; simp
  · by_cases b : i = h
    · subst b; simp
    · simp [a, b, Ne.symm a, Ne.symm b]
def ib_p_on_wheel : IS := (sSeq (sAsg (iVar 2) (gTp 2 (gsCons (gNm 3) (gsCons (gNm 4) gsNil))))
  (sSeq (sIf (tBl (iB (gIn true) (iVar 4) (iSl (iVar 0) (oSome (iC (.int 1))) (oSome (iC (.int 3)))))) (sRet (iVar 2)) sNext)
  (sSeq (sSet 5 (iIf (tBl (iB gEq (iVar 4) (iIx (iVar 0) (iC (.int 1))))) (iB gSub (iB gSub (iVar 1) (iC (.int 1))) (iVar 3)) (iB gAdd (iVar 1) (iVar 3))))
  (sSeq (sSet 5 (iB gMod (iB gAdd (iVar 5) (iIx (iVar 0) (iC (.int 3)))) (iB gMul (iC (.int 2)) (iVar 1))))
  (sRet (iIf (tBl (iB gLt (iVar 5) (iVar 1))) (iTup (iCons (iB gSub (iB gSub (iVar 1) (iC (.int 1))) (iVar 5)) (iCons (iIx (iVar 0) (iC (.int 1))) iNil))) (iTup (iCons (iB gSub (iVar 5) (iVar 1)) (iCons (iIx (iVar 0) (iC (.int 2))) iNil)))))))))
def sp_p_on_wheel : ISp := fun ws S Q E => ∃ g h k R r f : Int, ws = [(Call.wheel g h k).w, .int R, pairW (r, f)] ∧ 0 < R ∧ Q (.val (pairW (whl R g h k (r, f)))) S
theorem ok_p_on_wheel (ws : List W) (S : Sto) (Q : R → Sto → Prop) (E : Exn → Sto → Prop) (h : sp_p_on_wheel ws S Q E) : bodyI 6 ib_p_on_wheel ws S Q E := by
  obtain ⟨g, h, k, R, r, f, rfl, hR, q⟩ := h
  unfold ib_p_on_wheel
  refine seq_step ⟨[.val (Call.wheel g h k).w, .val (.int R), .val (pairW (r, f)), .val (.int r), .val (.int f), .none], S⟩ (fun nx h => ⟨rfl, h⟩) ?_
  by_cases z : f ≠ g ∧ f ≠ h
  · refine seq_end fun nx => ?_
    simp only [bodyI, start0, sSeq, sNext, sNever, sCont, sBreak, sDrop, sRet, sRetN, sRet0, sRetO, sIf, sSet, sSetN, sSetP, sPar, sParEN, sParNE, sPar3, sAsg, gNm, gsNil, gsCons, gTp, sAugI, sIxO, sIxS, sAugS, stoL, setW, iVar, iC, iNil, iCons, iTup, iLst, nLst, iFz, iB, gAdd, gI, gIC, gSub, gMul, gDiv, gMod, gPow, gLt, gLe, gGt, gGe, gEq, gNe, gIn, gIsN, isN, iNeg, tTru', gTru, tBl, iChain, tAnd', tOr', tNot', tYes', iIf, iAnd, iOr, iNot, iIx, gIx, atW, iIxO, ownL, oNone, oSome, iSl, gSl, iRevL, iCall, nCall, iFn, Sh.R.fz, SO.fz, Stt.put, Stt.puts, iMtO, gAppend, gInsert, gExtend, gLen, iLenO, gAbs, gInt, gMinMax, gList, gTuple, iListRg, gIsi, tyN, gRepr, flatW, eqW, okD, eqOk, cut_13, cut_1_2, cut_1_3, cut_m2, cut_m3, cut_m4, atI_m2, atI_m3, atI_m4, iOfT, tKdIn, iKdIx, atI_0, atI_1, atI_2, atI_3, ixN_4_0, ixN_4_1, ixN_4_2, ixN_4_3, Sto.put_same, Sto.put_put, toNat_2, List.map, List.replicate, List.length_cons, List.length_nil, List.getElem?_cons_zero, List.getElem?_cons_succ, List.getElem?_nil, List.set_cons_zero, List.set_cons_succ, List.set_nil, List.cons_append, List.nil_append, List.append_nil, if_true, if_false, Call.w]
    rw [show whl R g h k (r, f) = (r, f) from if_pos z] at q
    refine ⟨trivial, rfl, ifT ?_ q⟩
    rw [inW_two, decide_eq_false (by omega)]
    rfl
  refine seq_same (fun nx hn => ?_) ?_
  · simp only [bodyI, start0, sSeq, sNext, sNever, sCont, sBreak, sDrop, sRet, sRetN, sRet0, sRetO, sIf, sSet, sSetN, sSetP, sPar, sParEN, sParNE, sPar3, sAsg, gNm, gsNil, gsCons, gTp, sAugI, sIxO, sIxS, sAugS, stoL, setW, iVar, iC, iNil, iCons, iTup, iLst, nLst, iFz, iB, gAdd, gI, gIC, gSub, gMul, gDiv, gMod, gPow, gLt, gLe, gGt, gGe, gEq, gNe, gIn, gIsN, isN, iNeg, tTru', gTru, tBl, iChain, tAnd', tOr', tNot', tYes', iIf, iAnd, iOr, iNot, iIx, gIx, atW, iIxO, ownL, oNone, oSome, iSl, gSl, iRevL, iCall, nCall, iFn, Sh.R.fz, SO.fz, Stt.put, Stt.puts, iMtO, gAppend, gInsert, gExtend, gLen, iLenO, gAbs, gInt, gMinMax, gList, gTuple, iListRg, gIsi, tyN, gRepr, flatW, eqW, okD, eqOk, cut_13, cut_1_2, cut_1_3, cut_m2, cut_m3, cut_m4, atI_m2, atI_m3, atI_m4, iOfT, tKdIn, iKdIx, atI_0, atI_1, atI_2, atI_3, ixN_4_0, ixN_4_1, ixN_4_2, ixN_4_3, Sto.put_same, Sto.put_put, toNat_2, List.map, List.replicate, List.length_cons, List.length_nil, List.getElem?_cons_zero, List.getElem?_cons_succ, List.getElem?_nil, List.set_cons_zero, List.set_cons_succ, List.set_nil, List.cons_append, List.nil_append, List.append_nil, if_true, if_false, Call.w]
    refine ⟨trivial, rfl, ifF ?_ hn⟩
    rw [inW_two, decide_eq_true (by omega)]
    rfl
  rw [show whl R g h k (r, f) = _ from if_neg z] at q
  simp only at q
  have fin : ∀ t : Int, (((if f = g then R - 1 - r else R + r) + k) % (2 * R)) = (t + k) % (2 * R) → sSeq (sSet 5 (iB gMod (iB gAdd (iVar 5) (iIx (iVar 0) (iC (.int 3)))) (iB gMul (iC (.int 2)) (iVar 1))))
      (sRet (iIf (tBl (iB gLt (iVar 5) (iVar 1))) (iTup (iCons (iB gSub (iB gSub (iVar 1) (iC (.int 1))) (iVar 5)) (iCons (iIx (iVar 0) (iC (.int 1))) iNil))) (iTup (iCons (iB gSub (iVar 5) (iVar 1)) (iCons (iIx (iVar 0) (iC (.int 2))) iNil))))) (fun x st => E x st.S) { nx := fun st => Q (.val .non) st.S, rt := Q } ⟨[.val (Call.wheel g h k).w, .val (.int R), .val (pairW (r, f)), .val (.int r), .val (.int f), .val (.int t)], S⟩ := fun t e => by
    rw [e] at q
    simp only [bodyI, start0, sSeq, sNext, sNever, sCont, sBreak, sDrop, sRet, sRetN, sRet0, sRetO, sIf, sSet, sSetN, sSetP, sPar, sParEN, sParNE, sPar3, sAsg, gNm, gsNil, gsCons, gTp, sAugI, sIxO, sIxS, sAugS, stoL, setW, iVar, iC, iNil, iCons, iTup, iLst, nLst, iFz, iB, gAdd, gI, gIC, gSub, gMul, gDiv, gMod, gPow, gLt, gLe, gGt, gGe, gEq, gNe, gIn, gIsN, isN, iNeg, tTru', gTru, tBl, iChain, tAnd', tOr', tNot', tYes', iIf, iAnd, iOr, iNot, iIx, gIx, atW, iIxO, ownL, oNone, oSome, iSl, gSl, iRevL, iCall, nCall, iFn, Sh.R.fz, SO.fz, Stt.put, Stt.puts, iMtO, gAppend, gInsert, gExtend, gLen, iLenO, gAbs, gInt, gMinMax, gList, gTuple, iListRg, gIsi, tyN, gRepr, flatW, eqW, okD, eqOk, cut_13, cut_1_2, cut_1_3, cut_m2, cut_m3, cut_m4, atI_m2, atI_m3, atI_m4, iOfT, tKdIn, iKdIx, atI_0, atI_1, atI_2, atI_3, ixN_4_0, ixN_4_1, ixN_4_2, ixN_4_3, Sto.put_same, Sto.put_put, toNat_2, List.map, List.replicate, List.length_cons, List.length_nil, List.getElem?_cons_zero, List.getElem?_cons_succ, List.getElem?_nil, List.set_cons_zero, List.set_cons_succ, List.set_nil, List.cons_append, List.nil_append, List.append_nil, if_true, if_false, Call.w]
    refine ⟨small_l (by omega) (by omega), by omega, ifb (fun y => ?_) (fun y => ?_)⟩
    · rw [if_pos (of_decide_eq_true y)] at q; exact q
    · rw [if_neg (of_decide_eq_false y)] at q; exact q
  by_cases y : f = g
  · refine seq_step _ (fun nx h => ?_) (fin (R - 1 - r) (by rw [if_pos y]))
    simp only [bodyI, start0, sSeq, sNext, sNever, sCont, sBreak, sDrop, sRet, sRetN, sRet0, sRetO, sIf, sSet, sSetN, sSetP, sPar, sParEN, sParNE, sPar3, sAsg, gNm, gsNil, gsCons, gTp, sAugI, sIxO, sIxS, sAugS, stoL, setW, iVar, iC, iNil, iCons, iTup, iLst, nLst, iFz, iB, gAdd, gI, gIC, gSub, gMul, gDiv, gMod, gPow, gLt, gLe, gGt, gGe, gEq, gNe, gIn, gIsN, isN, iNeg, tTru', gTru, tBl, iChain, tAnd', tOr', tNot', tYes', iIf, iAnd, iOr, iNot, iIx, gIx, atW, iIxO, ownL, oNone, oSome, iSl, gSl, iRevL, iCall, nCall, iFn, Sh.R.fz, SO.fz, Stt.put, Stt.puts, iMtO, gAppend, gInsert, gExtend, gLen, iLenO, gAbs, gInt, gMinMax, gList, gTuple, iListRg, gIsi, tyN, gRepr, flatW, eqW, okD, eqOk, cut_13, cut_1_2, cut_1_3, cut_m2, cut_m3, cut_m4, atI_m2, atI_m3, atI_m4, iOfT, tKdIn, iKdIx, atI_0, atI_1, atI_2, atI_3, ixN_4_0, ixN_4_1, ixN_4_2, ixN_4_3, Sto.put_same, Sto.put_put, toNat_2, List.map, List.replicate, List.length_cons, List.length_nil, List.getElem?_cons_zero, List.getElem?_cons_succ, List.getElem?_nil, List.set_cons_zero, List.set_cons_succ, List.set_nil, List.cons_append, List.nil_append, List.append_nil, if_true, if_false, Call.w]
    exact ⟨rfl, ifT (beq_iff_eq.mpr y) h⟩
  · refine seq_step _ (fun nx h => ?_) (fin (R + r) (by rw [if_neg y]))
    simp only [bodyI, start0, sSeq, sNext, sNever, sCont, sBreak, sDrop, sRet, sRetN, sRet0, sRetO, sIf, sSet, sSetN, sSetP, sPar, sParEN, sParNE, sPar3, sAsg, gNm, gsNil, gsCons, gTp, sAugI, sIxO, sIxS, sAugS, stoL, setW, iVar, iC, iNil, iCons, iTup, iLst, nLst, iFz, iB, gAdd, gI, gIC, gSub, gMul, gDiv, gMod, gPow, gLt, gLe, gGt, gGe, gEq, gNe, gIn, gIsN, isN, iNeg, tTru', gTru, tBl, iChain, tAnd', tOr', tNot', tYes', iIf, iAnd, iOr, iNot, iIx, gIx, atW, iIxO, ownL, oNone, oSome, iSl, gSl, iRevL, iCall, nCall, iFn, Sh.R.fz, SO.fz, Stt.put, Stt.puts, iMtO, gAppend, gInsert, gExtend, gLen, iLenO, gAbs, gInt, gMinMax, gList, gTuple, iListRg, gIsi, tyN, gRepr, flatW, eqW, okD, eqOk, cut_13, cut_1_2, cut_1_3, cut_m2, cut_m3, cut_m4, atI_m2, atI_m3, atI_m4, iOfT, tKdIn, iKdIx, atI_0, atI_1, atI_2, atI_3, ixN_4_0, ixN_4_1, ixN_4_2, ixN_4_3, Sto.put_same, Sto.put_put, toNat_2, List.map, List.replicate, List.length_cons, List.length_nil, List.getElem?_cons_zero, List.getElem?_cons_succ, List.getElem?_nil, List.set_cons_zero, List.set_cons_succ, List.set_nil, List.cons_append, List.nil_append, List.append_nil, if_true, if_false, Call.w]
    exact ⟨rfl, ifF (beq_eq_false_iff_ne.mpr y) h⟩
def ib_p_on_open : IS := (sSeq (sAsg (iVar 3) (gTp 2 (gsCons (gNm 4) (gsCons (gNm 5) gsNil))))
  (sSeq (sIf (tBl (iB gEq (iIx (iVar 0) (iC (.int 0))) (iC (.str "halve")))) (sSeq (sSet 6 (iB gAdd (iB gMul (iVar 4) (iVar 1)) (iVar 5)))
    (sRet (iTup (iCons (iB gMod (iVar 6) (iVar 2)) (iCons (iB gDiv (iVar 6) (iVar 2)) iNil))))) sNext)
  (sSeq (sIf (tBl (iB gEq (iIx (iVar 0) (iC (.int 0))) (iC (.str "pair")))) (sSeq (sSet 6 (iB gAdd (iB gMul (iVar 5) (iVar 2)) (iVar 4)))
    (sRet (iTup (iCons (iB gDiv (iVar 6) (iVar 1)) (iCons (iB gMod (iVar 6) (iVar 1)) iNil))))) sNext)
  (sSeq (sSet 7 (iB gDiv (iB gAdd (iVar 2) (iC (.int 1))) (iC (.int 2))))
  (sSeq (sIf (tBl (iB gEq (iIx (iVar 0) (iC (.int 0))) (iC (.str "others")))) (sRet (iIf (tBl (iB gEq (iB gMod (iVar 4) (iC (.int 2))) (iC (.int 0)))) (iTup (iCons (iB gDiv (iVar 4) (iC (.int 2))) (iCons (iVar 5) iNil))) (iTup (iCons (iB gAdd (iVar 7) (iB gDiv (iVar 4) (iC (.int 2)))) (iCons (iVar 5) iNil))))) sNext)
  (sRet (iIf (tBl (iB gLt (iVar 4) (iVar 7))) (iTup (iCons (iB gMul (iC (.int 2)) (iVar 4)) (iCons (iVar 5) iNil))) (iTup (iCons (iB gAdd (iB gMul (iC (.int 2)) (iB gSub (iVar 4) (iVar 7))) (iC (.int 1))) (iCons (iVar 5) iNil))))))))))
def Call.opn : Call → Bool
  | .halve => true
  | .pair => true
  | .others => true
  | .fill => true
  | _ => false
def sp_p_on_open : ISp := fun ws S Q E => ∃ (c : Call) (F R r f : Int), ws = [c.w, .int F, .int R, pairW (r, f)] ∧ c.opn = true ∧ Ln F R ∧ At F R (r, f) ∧ Q (.val (pairW (mv F R c (r, f)))) S
theorem ok_p_on_open (ws : List W) (S : Sto) (Q : R → Sto → Prop) (E : Exn → Sto → Prop) (h : sp_p_on_open ws S Q E) : bodyI 8 ib_p_on_open ws S Q E := by
  obtain ⟨c, F, R, r, f, rfl, ho, ⟨l1, l2, l3, l4⟩, ⟨r0, r1, f0, f1⟩, q⟩ := h
  simp only at r0 r1 f0 f1
  have bR : Bd R := by unfold Bd lim; omega
  have bF : Bd F := by unfold Bd lim; omega
  have b2 : Bd 2 := by unfold Bd lim; omega
  unfold ib_p_on_open
  refine seq_step ⟨[.val c.w, .val (.int F), .val (.int R), .val (pairW (r, f)), .val (.int r), .val (.int f), .none, .none], S⟩ (fun nx h => ⟨rfl, h⟩) ?_
  have half : ∀ (s : IS), s (fun x st => E x st.S) { nx := fun st => Q (.val .non) st.S, rt := Q } ⟨[.val c.w, .val (.int F), .val (.int R), .val (pairW (r, f)), .val (.int r), .val (.int f), .none, .val (.int ((R + 1) / 2))], S⟩ →
      sSeq (sSet 7 (iB gDiv (iB gAdd (iVar 2) (iC (.int 1))) (iC (.int 2)))) s (fun x st => E x st.S) { nx := fun st => Q (.val .non) st.S, rt := Q } ⟨[.val c.w, .val (.int F), .val (.int R), .val (pairW (r, f)), .val (.int r), .val (.int f), .none, .none], S⟩ := fun s h => ⟨⟨by omega, b2⟩, h⟩
  cases c with
  | halve =>
    refine seq_end fun nx => ?_
    simp only [bodyI, start0, sSeq, sNext, sNever, sCont, sBreak, sDrop, sRet, sRetN, sRet0, sRetO, sIf, sSet, sSetN, sSetP, sPar, sParEN, sParNE, sPar3, sAsg, gNm, gsNil, gsCons, gTp, sAugI, sIxO, sIxS, sAugS, stoL, setW, iVar, iC, iNil, iCons, iTup, iLst, nLst, iFz, iB, gAdd, gI, gIC, gSub, gMul, gDiv, gMod, gPow, gLt, gLe, gGt, gGe, gEq, gNe, gIn, gIsN, isN, iNeg, tTru', gTru, tBl, iChain, tAnd', tOr', tNot', tYes', iIf, iAnd, iOr, iNot, iIx, gIx, atW, iIxO, ownL, oNone, oSome, iSl, gSl, iRevL, iCall, nCall, iFn, Sh.R.fz, SO.fz, Stt.put, Stt.puts, iMtO, gAppend, gInsert, gExtend, gLen, iLenO, gAbs, gInt, gMinMax, gList, gTuple, iListRg, gIsi, tyN, gRepr, flatW, eqW, okD, eqOk, cut_13, cut_1_2, cut_1_3, cut_m2, cut_m3, cut_m4, atI_m2, atI_m3, atI_m4, iOfT, tKdIn, iKdIx, atI_0, atI_1, atI_2, atI_3, ixN_4_0, ixN_4_1, ixN_4_2, ixN_4_3, Sto.put_same, Sto.put_put, toNat_2, List.map, List.replicate, List.length_cons, List.length_nil, List.getElem?_cons_zero, List.getElem?_cons_succ, List.getElem?_nil, List.set_cons_zero, List.set_cons_succ, List.set_nil, List.cons_append, List.nil_append, List.append_nil, if_true, if_false, Call.w]
    exact ⟨trivial, ifT (by decide) ⟨small_r (by omega) (by omega), by omega, ⟨by omega, bR⟩, q⟩⟩
  | pair =>
    refine seq_same (fun nx h => ?_) (seq_end fun nx => ?_)
    · simp only [bodyI, start0, sSeq, sNext, sNever, sCont, sBreak, sDrop, sRet, sRetN, sRet0, sRetO, sIf, sSet, sSetN, sSetP, sPar, sParEN, sParNE, sPar3, sAsg, gNm, gsNil, gsCons, gTp, sAugI, sIxO, sIxS, sAugS, stoL, setW, iVar, iC, iNil, iCons, iTup, iLst, nLst, iFz, iB, gAdd, gI, gIC, gSub, gMul, gDiv, gMod, gPow, gLt, gLe, gGt, gGe, gEq, gNe, gIn, gIsN, isN, iNeg, tTru', gTru, tBl, iChain, tAnd', tOr', tNot', tYes', iIf, iAnd, iOr, iNot, iIx, gIx, atW, iIxO, ownL, oNone, oSome, iSl, gSl, iRevL, iCall, nCall, iFn, Sh.R.fz, SO.fz, Stt.put, Stt.puts, iMtO, gAppend, gInsert, gExtend, gLen, iLenO, gAbs, gInt, gMinMax, gList, gTuple, iListRg, gIsi, tyN, gRepr, flatW, eqW, okD, eqOk, cut_13, cut_1_2, cut_1_3, cut_m2, cut_m3, cut_m4, atI_m2, atI_m3, atI_m4, iOfT, tKdIn, iKdIx, atI_0, atI_1, atI_2, atI_3, ixN_4_0, ixN_4_1, ixN_4_2, ixN_4_3, Sto.put_same, Sto.put_put, toNat_2, List.map, List.replicate, List.length_cons, List.length_nil, List.getElem?_cons_zero, List.getElem?_cons_succ, List.getElem?_nil, List.set_cons_zero, List.set_cons_succ, List.set_nil, List.cons_append, List.nil_append, List.append_nil, if_true, if_false, Call.w]
      exact ⟨trivial, ifF (by decide) h⟩
    · simp only [bodyI, start0, sSeq, sNext, sNever, sCont, sBreak, sDrop, sRet, sRetN, sRet0, sRetO, sIf, sSet, sSetN, sSetP, sPar, sParEN, sParNE, sPar3, sAsg, gNm, gsNil, gsCons, gTp, sAugI, sIxO, sIxS, sAugS, stoL, setW, iVar, iC, iNil, iCons, iTup, iLst, nLst, iFz, iB, gAdd, gI, gIC, gSub, gMul, gDiv, gMod, gPow, gLt, gLe, gGt, gGe, gEq, gNe, gIn, gIsN, isN, iNeg, tTru', gTru, tBl, iChain, tAnd', tOr', tNot', tYes', iIf, iAnd, iOr, iNot, iIx, gIx, atW, iIxO, ownL, oNone, oSome, iSl, gSl, iRevL, iCall, nCall, iFn, Sh.R.fz, SO.fz, Stt.put, Stt.puts, iMtO, gAppend, gInsert, gExtend, gLen, iLenO, gAbs, gInt, gMinMax, gList, gTuple, iListRg, gIsi, tyN, gRepr, flatW, eqW, okD, eqOk, cut_13, cut_1_2, cut_1_3, cut_m2, cut_m3, cut_m4, atI_m2, atI_m3, atI_m4, iOfT, tKdIn, iKdIx, atI_0, atI_1, atI_2, atI_3, ixN_4_0, ixN_4_1, ixN_4_2, ixN_4_3, Sto.put_same, Sto.put_put, toNat_2, List.map, List.replicate, List.length_cons, List.length_nil, List.getElem?_cons_zero, List.getElem?_cons_succ, List.getElem?_nil, List.set_cons_zero, List.set_cons_succ, List.set_nil, List.cons_append, List.nil_append, List.append_nil, if_true, if_false, Call.w]
      exact ⟨trivial, ifT (by decide) ⟨small_l (by omega) (by omega), ⟨by omega, bF⟩, by omega, q⟩⟩
  | others =>
    refine seq_same (fun nx h => ?_) (seq_same (fun nx h => ?_) (half _ (seq_end fun nx => ?_)))
    · simp only [bodyI, start0, sSeq, sNext, sNever, sCont, sBreak, sDrop, sRet, sRetN, sRet0, sRetO, sIf, sSet, sSetN, sSetP, sPar, sParEN, sParNE, sPar3, sAsg, gNm, gsNil, gsCons, gTp, sAugI, sIxO, sIxS, sAugS, stoL, setW, iVar, iC, iNil, iCons, iTup, iLst, nLst, iFz, iB, gAdd, gI, gIC, gSub, gMul, gDiv, gMod, gPow, gLt, gLe, gGt, gGe, gEq, gNe, gIn, gIsN, isN, iNeg, tTru', gTru, tBl, iChain, tAnd', tOr', tNot', tYes', iIf, iAnd, iOr, iNot, iIx, gIx, atW, iIxO, ownL, oNone, oSome, iSl, gSl, iRevL, iCall, nCall, iFn, Sh.R.fz, SO.fz, Stt.put, Stt.puts, iMtO, gAppend, gInsert, gExtend, gLen, iLenO, gAbs, gInt, gMinMax, gList, gTuple, iListRg, gIsi, tyN, gRepr, flatW, eqW, okD, eqOk, cut_13, cut_1_2, cut_1_3, cut_m2, cut_m3, cut_m4, atI_m2, atI_m3, atI_m4, iOfT, tKdIn, iKdIx, atI_0, atI_1, atI_2, atI_3, ixN_4_0, ixN_4_1, ixN_4_2, ixN_4_3, Sto.put_same, Sto.put_put, toNat_2, List.map, List.replicate, List.length_cons, List.length_nil, List.getElem?_cons_zero, List.getElem?_cons_succ, List.getElem?_nil, List.set_cons_zero, List.set_cons_succ, List.set_nil, List.cons_append, List.nil_append, List.append_nil, if_true, if_false, Call.w]
      exact ⟨trivial, ifF (by decide) h⟩
    · simp only [bodyI, start0, sSeq, sNext, sNever, sCont, sBreak, sDrop, sRet, sRetN, sRet0, sRetO, sIf, sSet, sSetN, sSetP, sPar, sParEN, sParNE, sPar3, sAsg, gNm, gsNil, gsCons, gTp, sAugI, sIxO, sIxS, sAugS, stoL, setW, iVar, iC, iNil, iCons, iTup, iLst, nLst, iFz, iB, gAdd, gI, gIC, gSub, gMul, gDiv, gMod, gPow, gLt, gLe, gGt, gGe, gEq, gNe, gIn, gIsN, isN, iNeg, tTru', gTru, tBl, iChain, tAnd', tOr', tNot', tYes', iIf, iAnd, iOr, iNot, iIx, gIx, atW, iIxO, ownL, oNone, oSome, iSl, gSl, iRevL, iCall, nCall, iFn, Sh.R.fz, SO.fz, Stt.put, Stt.puts, iMtO, gAppend, gInsert, gExtend, gLen, iLenO, gAbs, gInt, gMinMax, gList, gTuple, iListRg, gIsi, tyN, gRepr, flatW, eqW, okD, eqOk, cut_13, cut_1_2, cut_1_3, cut_m2, cut_m3, cut_m4, atI_m2, atI_m3, atI_m4, iOfT, tKdIn, iKdIx, atI_0, atI_1, atI_2, atI_3, ixN_4_0, ixN_4_1, ixN_4_2, ixN_4_3, Sto.put_same, Sto.put_put, toNat_2, List.map, List.replicate, List.length_cons, List.length_nil, List.getElem?_cons_zero, List.getElem?_cons_succ, List.getElem?_nil, List.set_cons_zero, List.set_cons_succ, List.set_nil, List.cons_append, List.nil_append, List.append_nil, if_true, if_false, Call.w]
      exact ⟨trivial, ifF (by decide) h⟩
    · simp only [bodyI, start0, sSeq, sNext, sNever, sCont, sBreak, sDrop, sRet, sRetN, sRet0, sRetO, sIf, sSet, sSetN, sSetP, sPar, sParEN, sParNE, sPar3, sAsg, gNm, gsNil, gsCons, gTp, sAugI, sIxO, sIxS, sAugS, stoL, setW, iVar, iC, iNil, iCons, iTup, iLst, nLst, iFz, iB, gAdd, gI, gIC, gSub, gMul, gDiv, gMod, gPow, gLt, gLe, gGt, gGe, gEq, gNe, gIn, gIsN, isN, iNeg, tTru', gTru, tBl, iChain, tAnd', tOr', tNot', tYes', iIf, iAnd, iOr, iNot, iIx, gIx, atW, iIxO, ownL, oNone, oSome, iSl, gSl, iRevL, iCall, nCall, iFn, Sh.R.fz, SO.fz, Stt.put, Stt.puts, iMtO, gAppend, gInsert, gExtend, gLen, iLenO, gAbs, gInt, gMinMax, gList, gTuple, iListRg, gIsi, tyN, gRepr, flatW, eqW, okD, eqOk, cut_13, cut_1_2, cut_1_3, cut_m2, cut_m3, cut_m4, atI_m2, atI_m3, atI_m4, iOfT, tKdIn, iKdIx, atI_0, atI_1, atI_2, atI_3, ixN_4_0, ixN_4_1, ixN_4_2, ixN_4_3, Sto.put_same, Sto.put_put, toNat_2, List.map, List.replicate, List.length_cons, List.length_nil, List.getElem?_cons_zero, List.getElem?_cons_succ, List.getElem?_nil, List.set_cons_zero, List.set_cons_succ, List.set_nil, List.cons_append, List.nil_append, List.append_nil, if_true, if_false, Call.w]
      refine ⟨trivial, ifT (by decide) ⟨by omega, rfl, ifb (fun y => ?_) (fun y => ?_)⟩⟩
      · have : r % 2 = 0 := by simpa using y
        rw [show mv F R .others (r, f) = (r / 2, f) from if_pos this] at q
        exact ⟨⟨by omega, b2⟩, q⟩
      · have : ¬ r % 2 = 0 := by simpa using y
        rw [show mv F R .others (r, f) = ((R + 1) / 2 + r / 2, f) from if_neg this] at q
        exact ⟨⟨by omega, b2⟩, q⟩
  | fill =>
    refine seq_same (fun nx h => ?_) (seq_same (fun nx h => ?_) (half _ (seq_same (fun nx h => ?_) ?_)))
    · simp only [bodyI, start0, sSeq, sNext, sNever, sCont, sBreak, sDrop, sRet, sRetN, sRet0, sRetO, sIf, sSet, sSetN, sSetP, sPar, sParEN, sParNE, sPar3, sAsg, gNm, gsNil, gsCons, gTp, sAugI, sIxO, sIxS, sAugS, stoL, setW, iVar, iC, iNil, iCons, iTup, iLst, nLst, iFz, iB, gAdd, gI, gIC, gSub, gMul, gDiv, gMod, gPow, gLt, gLe, gGt, gGe, gEq, gNe, gIn, gIsN, isN, iNeg, tTru', gTru, tBl, iChain, tAnd', tOr', tNot', tYes', iIf, iAnd, iOr, iNot, iIx, gIx, atW, iIxO, ownL, oNone, oSome, iSl, gSl, iRevL, iCall, nCall, iFn, Sh.R.fz, SO.fz, Stt.put, Stt.puts, iMtO, gAppend, gInsert, gExtend, gLen, iLenO, gAbs, gInt, gMinMax, gList, gTuple, iListRg, gIsi, tyN, gRepr, flatW, eqW, okD, eqOk, cut_13, cut_1_2, cut_1_3, cut_m2, cut_m3, cut_m4, atI_m2, atI_m3, atI_m4, iOfT, tKdIn, iKdIx, atI_0, atI_1, atI_2, atI_3, ixN_4_0, ixN_4_1, ixN_4_2, ixN_4_3, Sto.put_same, Sto.put_put, toNat_2, List.map, List.replicate, List.length_cons, List.length_nil, List.getElem?_cons_zero, List.getElem?_cons_succ, List.getElem?_nil, List.set_cons_zero, List.set_cons_succ, List.set_nil, List.cons_append, List.nil_append, List.append_nil, if_true, if_false, Call.w]
      exact ⟨trivial, ifF (by decide) h⟩
    · simp only [bodyI, start0, sSeq, sNext, sNever, sCont, sBreak, sDrop, sRet, sRetN, sRet0, sRetO, sIf, sSet, sSetN, sSetP, sPar, sParEN, sParNE, sPar3, sAsg, gNm, gsNil, gsCons, gTp, sAugI, sIxO, sIxS, sAugS, stoL, setW, iVar, iC, iNil, iCons, iTup, iLst, nLst, iFz, iB, gAdd, gI, gIC, gSub, gMul, gDiv, gMod, gPow, gLt, gLe, gGt, gGe, gEq, gNe, gIn, gIsN, isN, iNeg, tTru', gTru, tBl, iChain, tAnd', tOr', tNot', tYes', iIf, iAnd, iOr, iNot, iIx, gIx, atW, iIxO, ownL, oNone, oSome, iSl, gSl, iRevL, iCall, nCall, iFn, Sh.R.fz, SO.fz, Stt.put, Stt.puts, iMtO, gAppend, gInsert, gExtend, gLen, iLenO, gAbs, gInt, gMinMax, gList, gTuple, iListRg, gIsi, tyN, gRepr, flatW, eqW, okD, eqOk, cut_13, cut_1_2, cut_1_3, cut_m2, cut_m3, cut_m4, atI_m2, atI_m3, atI_m4, iOfT, tKdIn, iKdIx, atI_0, atI_1, atI_2, atI_3, ixN_4_0, ixN_4_1, ixN_4_2, ixN_4_3, Sto.put_same, Sto.put_put, toNat_2, List.map, List.replicate, List.length_cons, List.length_nil, List.getElem?_cons_zero, List.getElem?_cons_succ, List.getElem?_nil, List.set_cons_zero, List.set_cons_succ, List.set_nil, List.cons_append, List.nil_append, List.append_nil, if_true, if_false, Call.w]
      exact ⟨trivial, ifF (by decide) h⟩
    · simp only [bodyI, start0, sSeq, sNext, sNever, sCont, sBreak, sDrop, sRet, sRetN, sRet0, sRetO, sIf, sSet, sSetN, sSetP, sPar, sParEN, sParNE, sPar3, sAsg, gNm, gsNil, gsCons, gTp, sAugI, sIxO, sIxS, sAugS, stoL, setW, iVar, iC, iNil, iCons, iTup, iLst, nLst, iFz, iB, gAdd, gI, gIC, gSub, gMul, gDiv, gMod, gPow, gLt, gLe, gGt, gGe, gEq, gNe, gIn, gIsN, isN, iNeg, tTru', gTru, tBl, iChain, tAnd', tOr', tNot', tYes', iIf, iAnd, iOr, iNot, iIx, gIx, atW, iIxO, ownL, oNone, oSome, iSl, gSl, iRevL, iCall, nCall, iFn, Sh.R.fz, SO.fz, Stt.put, Stt.puts, iMtO, gAppend, gInsert, gExtend, gLen, iLenO, gAbs, gInt, gMinMax, gList, gTuple, iListRg, gIsi, tyN, gRepr, flatW, eqW, okD, eqOk, cut_13, cut_1_2, cut_1_3, cut_m2, cut_m3, cut_m4, atI_m2, atI_m3, atI_m4, iOfT, tKdIn, iKdIx, atI_0, atI_1, atI_2, atI_3, ixN_4_0, ixN_4_1, ixN_4_2, ixN_4_3, Sto.put_same, Sto.put_put, toNat_2, List.map, List.replicate, List.length_cons, List.length_nil, List.getElem?_cons_zero, List.getElem?_cons_succ, List.getElem?_nil, List.set_cons_zero, List.set_cons_succ, List.set_nil, List.cons_append, List.nil_append, List.append_nil, if_true, if_false, Call.w]
      exact ⟨trivial, ifF (by decide) h⟩
    · simp only [bodyI, start0, sSeq, sNext, sNever, sCont, sBreak, sDrop, sRet, sRetN, sRet0, sRetO, sIf, sSet, sSetN, sSetP, sPar, sParEN, sParNE, sPar3, sAsg, gNm, gsNil, gsCons, gTp, sAugI, sIxO, sIxS, sAugS, stoL, setW, iVar, iC, iNil, iCons, iTup, iLst, nLst, iFz, iB, gAdd, gI, gIC, gSub, gMul, gDiv, gMod, gPow, gLt, gLe, gGt, gGe, gEq, gNe, gIn, gIsN, isN, iNeg, tTru', gTru, tBl, iChain, tAnd', tOr', tNot', tYes', iIf, iAnd, iOr, iNot, iIx, gIx, atW, iIxO, ownL, oNone, oSome, iSl, gSl, iRevL, iCall, nCall, iFn, Sh.R.fz, SO.fz, Stt.put, Stt.puts, iMtO, gAppend, gInsert, gExtend, gLen, iLenO, gAbs, gInt, gMinMax, gList, gTuple, iListRg, gIsi, tyN, gRepr, flatW, eqW, okD, eqOk, cut_13, cut_1_2, cut_1_3, cut_m2, cut_m3, cut_m4, atI_m2, atI_m3, atI_m4, iOfT, tKdIn, iKdIx, atI_0, atI_1, atI_2, atI_3, ixN_4_0, ixN_4_1, ixN_4_2, ixN_4_3, Sto.put_same, Sto.put_put, toNat_2, List.map, List.replicate, List.length_cons, List.length_nil, List.getElem?_cons_zero, List.getElem?_cons_succ, List.getElem?_nil, List.set_cons_zero, List.set_cons_succ, List.set_nil, List.cons_append, List.nil_append, List.append_nil, if_true, if_false, Call.w]
      refine ifb (fun y => ?_) (fun y => ?_)
      · rw [show mv F R .fill (r, f) = (2 * r, f) from if_pos (of_decide_eq_true y)] at q
        exact ⟨small_l (by omega) (by omega), q⟩
      · rw [show mv F R .fill (r, f) = (2 * (r - (R + 1) / 2) + 1, f) from if_neg (of_decide_eq_false y)] at q
        exact ⟨small_l (by omega) (by omega), q⟩
  | _ => cases ho
def ib_p_moved_by : IS := (sSeq (sAsg (iVar 3) (gTp 2 (gsCons (gNm 4) (gsCons (gNm 5) gsNil))))
  (sSeq (sIf (tBl (iB gEq (iIx (iVar 0) (iC (.int 0))) (iC (.str "all")))) (sRet (iTup (iCons (iB gMod (iB gSub (iVar 4) (iIx (iVar 0) (iC (.int 1)))) (iVar 2)) (iCons (iVar 5) iNil)))) sNext)
  (sSeq (sIf (tBl (iB gEq (iIx (iVar 0) (iC (.int 0))) (iC (.str "up")))) (sRet (iIf (tBl (iB gEq (iVar 5) (iIx (iVar 0) (iC (.int 1))))) (iTup (iCons (iB gMod (iB gSub (iVar 4) (iIx (iVar 0) (iC (.int 2)))) (iVar 2)) (iCons (iVar 5) iNil))) (iVar 3))) sNext)
  (sSeq (sIf (tBl (iB gEq (iIx (iVar 0) (iC (.int 0))) (iC (.str "about")))) (sRet (iTup (iCons (iB gSub (iB gSub (iVar 2) (iC (.int 1))) (iVar 4)) (iCons (iB gSub (iB gSub (iVar 1) (iC (.int 1))) (iVar 5)) iNil)))) sNext)
  (sSeq (sIf (tBl (iB gEq (iIx (iVar 0) (iC (.int 0))) (iC (.str "wheel")))) (sRet (iCall sp_p_on_wheel (iCons (iVar 0) (iCons (iVar 2) (iCons (iVar 3) iNil))))) sNext)
  (sSeq (sIf (tBl (iB (gIn false) (iIx (iVar 0) (iC (.int 0))) (iTup (iCons (iC (.str "swap")) (iCons (iC (.str "front")) iNil))))) (sSeq (sIf (tOr' (tBl (iB (gIn true) (iVar 5) (iSl (iVar 0) (oSome (iC (.int 1))) oNone))) (tAnd' (tBl (iB gEq (iIx (iVar 0) (iC (.int 0))) (iC (.str "front")))) (tBl (iB gGt (iVar 4) (iC (.int 0)))))) (sRet (iVar 3)) sNext)
    (sRet (iTup (iCons (iVar 4) (iCons (iIf (tBl (iB gEq (iVar 5) (iIx (iVar 0) (iC (.int 1))))) (iIx (iVar 0) (iC (.int 2))) (iIx (iVar 0) (iC (.int 1)))) iNil))))) sNext)
  (sRet (iCall sp_p_on_open (iCons (iVar 0) (iCons (iVar 1) (iCons (iVar 2) (iCons (iVar 3) iNil))))))))))))
def sp_p_moved_by : ISp := fun ws S Q E => ∃ (c : Call) (F R : Int) (p : Int × Int), ws = [c.w, .int F, .int R, pairW p] ∧ Ln F R ∧ At F R p ∧ Q (.val (pairW (mv F R c p))) S
/-- a call's word -/
def Call.word : Call → Str
  | .all _ => "all"
  | .up _ _ => "up"
  | .swap _ _ => "swap"
  | .wheel _ _ _ => "wheel"
  | .about => "about"
  | .front _ _ => "front"
  | .halve => "halve"
  | .pair => "pair"
  | .others => "others"
  | .fill => "fill"
theorem inW_sf (w : Str) : inW (.str w) [.str "swap", .str "front"] = (("swap" == w) || ("front" == w)) := by
  unfold inW
  simp only [List.any_cons, List.any_nil, eqW, Bool.or_false]
theorem ok_p_moved_by (ws : List W) (S : Sto) (Q : R → Sto → Prop) (E : Exn → Sto → Prop) (h : sp_p_moved_by ws S Q E) : bodyI 6 ib_p_moved_by ws S Q E := by
  obtain ⟨c, F, R, ⟨r, f⟩, rfl, hl, hp, q⟩ := h
  have hl' := hl
  have hp' := hp
  obtain ⟨l1, l2, l3, l4⟩ := hl'
  obtain ⟨r0, r1, f0, f1⟩ := hp'
  simp only at r0 r1 f0 f1
  unfold ib_p_moved_by
  refine seq_step ⟨[.val c.w, .val (.int F), .val (.int R), .val (pairW (r, f)), .val (.int r), .val (.int f)], S⟩ (fun nx h => ⟨rfl, h⟩) ?_
  have fin : ∀ (w : Str) (g h : Int), c.w = .tup [.str w, .int g, .int h] → Q (.val (pairW (r, if f = g then h else g))) S →
        (sRet (iTup (iCons (iVar 4) (iCons (iIf (tBl (iB gEq (iVar 5) (iIx (iVar 0) (iC (.int 1))))) (iIx (iVar 0) (iC (.int 2))) (iIx (iVar 0) (iC (.int 1)))) iNil)))) (fun x st => E x st.S) { nx := fun st => Q (.val .non) st.S, rt := Q } ⟨[.val c.w, .val (.int F), .val (.int R), .val (pairW (r, f)), .val (.int r), .val (.int f)], S⟩ := fun w g h ec q => by
    rw [ec]
    simp only [bodyI, start0, sSeq, sNext, sNever, sCont, sBreak, sDrop, sRet, sRetN, sRet0, sRetO, sIf, sSet, sSetN, sSetP, sPar, sParEN, sParNE, sPar3, sAsg, gNm, gsNil, gsCons, gTp, sAugI, sIxO, sIxS, sAugS, stoL, setW, iVar, iC, iNil, iCons, iTup, iLst, nLst, iFz, iB, gAdd, gI, gIC, gSub, gMul, gDiv, gMod, gPow, gLt, gLe, gGt, gGe, gEq, gNe, gIn, gIsN, isN, iNeg, tTru', gTru, tBl, iChain, tAnd', tOr', tNot', tYes', iIf, iAnd, iOr, iNot, iIx, gIx, atW, iIxO, ownL, oNone, oSome, iSl, gSl, iRevL, iCall, nCall, iFn, Sh.R.fz, SO.fz, Stt.put, Stt.puts, iMtO, gAppend, gInsert, gExtend, gLen, iLenO, gAbs, gInt, gMinMax, gList, gTuple, iListRg, gIsi, tyN, gRepr, flatW, eqW, okD, eqOk, cut_13, cut_1_2, cut_1_3, cut_m2, cut_m3, cut_m4, atI_m2, atI_m3, atI_m4, iOfT, tKdIn, iKdIx, atI_0, atI_1, atI_2, atI_3, ixN_4_0, ixN_4_1, ixN_4_2, ixN_4_3, Sto.put_same, Sto.put_put, toNat_2, List.map, List.replicate, List.length_cons, List.length_nil, List.getElem?_cons_zero, List.getElem?_cons_succ, List.getElem?_nil, List.set_cons_zero, List.set_cons_succ, List.set_nil, List.cons_append, List.nil_append, List.append_nil, if_true, if_false]
    refine ⟨rfl, ifb (fun y => ?_) (fun y => ?_)⟩
    · rw [if_pos (beq_iff_eq.mp y)] at q; exact q
    · rw [if_neg (beq_eq_false_iff_ne.mp y)] at q; exact q
  have skip : ∀ (x : Str) (s s' : IS) (nx : Stt → Prop), (x == c.word) = false → nx ⟨[.val c.w, .val (.int F), .val (.int R), .val (pairW (r, f)), .val (.int r), .val (.int f)], S⟩ →
      sIf (tBl (iB gEq (iIx (iVar 0) (iC (.int 0))) (iC (.str x)))) s sNext (fun x st => E x st.S) { nx := nx, rt := Q } ⟨[.val c.w, .val (.int F), .val (.int R), .val (pairW (r, f)), .val (.int r), .val (.int f)], S⟩ := fun x s s' nx e h => by
    have e2 : (c.word == x) = false := by rw [beq_eq_false_iff_ne] at e ⊢; exact fun z => e z.symm
    cases c <;> (simp only [bodyI, start0, sSeq, sNext, sNever, sCont, sBreak, sDrop, sRet, sRetN, sRet0, sRetO, sIf, sSet, sSetN, sSetP, sPar, sParEN, sParNE, sPar3, sAsg, gNm, gsNil, gsCons, gTp, sAugI, sIxO, sIxS, sAugS, stoL, setW, iVar, iC, iNil, iCons, iTup, iLst, nLst, iFz, iB, gAdd, gI, gIC, gSub, gMul, gDiv, gMod, gPow, gLt, gLe, gGt, gGe, gEq, gNe, gIn, gIsN, isN, iNeg, tTru', gTru, tBl, iChain, tAnd', tOr', tNot', tYes', iIf, iAnd, iOr, iNot, iIx, gIx, atW, iIxO, ownL, oNone, oSome, iSl, gSl, iRevL, iCall, nCall, iFn, Sh.R.fz, SO.fz, Stt.put, Stt.puts, iMtO, gAppend, gInsert, gExtend, gLen, iLenO, gAbs, gInt, gMinMax, gList, gTuple, iListRg, gIsi, tyN, gRepr, flatW, eqW, okD, eqOk, cut_13, cut_1_2, cut_1_3, cut_m2, cut_m3, cut_m4, atI_m2, atI_m3, atI_m4, iOfT, tKdIn, iKdIx, atI_0, atI_1, atI_2, atI_3, ixN_4_0, ixN_4_1, ixN_4_2, ixN_4_3, Sto.put_same, Sto.put_put, toNat_2, List.map, List.replicate, List.length_cons, List.length_nil, List.getElem?_cons_zero, List.getElem?_cons_succ, List.getElem?_nil, List.set_cons_zero, List.set_cons_succ, List.set_nil, List.cons_append, List.nil_append, List.append_nil, if_true, if_false, Call.w]; exact ⟨trivial, ifF e2 h⟩)
  have skip2 : ∀ (s s' : IS) (nx : Stt → Prop), ("swap" == c.word) = false → ("front" == c.word) = false → nx ⟨[.val c.w, .val (.int F), .val (.int R), .val (pairW (r, f)), .val (.int r), .val (.int f)], S⟩ →
      sIf (tBl (iB (gIn false) (iIx (iVar 0) (iC (.int 0))) (iTup (iCons (iC (.str "swap")) (iCons (iC (.str "front")) iNil))))) s sNext (fun x st => E x st.S) { nx := nx, rt := Q } ⟨[.val c.w, .val (.int F), .val (.int R), .val (pairW (r, f)), .val (.int r), .val (.int f)], S⟩ := fun s s' nx e e' h => by
    have key : inW (.str c.word) [.str "swap", .str "front"] = false := by rw [inW_sf, e, e']; rfl
    cases c <;> (simp only [bodyI, start0, sSeq, sNext, sNever, sCont, sBreak, sDrop, sRet, sRetN, sRet0, sRetO, sIf, sSet, sSetN, sSetP, sPar, sParEN, sParNE, sPar3, sAsg, gNm, gsNil, gsCons, gTp, sAugI, sIxO, sIxS, sAugS, stoL, setW, iVar, iC, iNil, iCons, iTup, iLst, nLst, iFz, iB, gAdd, gI, gIC, gSub, gMul, gDiv, gMod, gPow, gLt, gLe, gGt, gGe, gEq, gNe, gIn, gIsN, isN, iNeg, tTru', gTru, tBl, iChain, tAnd', tOr', tNot', tYes', iIf, iAnd, iOr, iNot, iIx, gIx, atW, iIxO, ownL, oNone, oSome, iSl, gSl, iRevL, iCall, nCall, iFn, Sh.R.fz, SO.fz, Stt.put, Stt.puts, iMtO, gAppend, gInsert, gExtend, gLen, iLenO, gAbs, gInt, gMinMax, gList, gTuple, iListRg, gIsi, tyN, gRepr, flatW, eqW, okD, eqOk, cut_13, cut_1_2, cut_1_3, cut_m2, cut_m3, cut_m4, atI_m2, atI_m3, atI_m4, iOfT, tKdIn, iKdIx, atI_0, atI_1, atI_2, atI_3, ixN_4_0, ixN_4_1, ixN_4_2, ixN_4_3, Sto.put_same, Sto.put_put, toNat_2, List.map, List.replicate, List.length_cons, List.length_nil, List.getElem?_cons_zero, List.getElem?_cons_succ, List.getElem?_nil, List.set_cons_zero, List.set_cons_succ, List.set_nil, List.cons_append, List.nil_append, List.append_nil, if_true, if_false, Call.w]; exact ⟨trivial, rfl, ifF key h⟩)
  have opn : c.opn = true → sRet (iCall sp_p_on_open (iCons (iVar 0) (iCons (iVar 1) (iCons (iVar 2) (iCons (iVar 3) iNil))))) (fun x st => E x st.S) { nx := fun st => Q (.val .non) st.S, rt := Q } ⟨[.val c.w, .val (.int F), .val (.int R), .val (pairW (r, f)), .val (.int r), .val (.int f)], S⟩ := fun ho => ⟨c, F, R, r, f, rfl, ho, hl, hp, q⟩
  cases c with
  | all k =>
    refine seq_end fun nx => ?_
    simp only [bodyI, start0, sSeq, sNext, sNever, sCont, sBreak, sDrop, sRet, sRetN, sRet0, sRetO, sIf, sSet, sSetN, sSetP, sPar, sParEN, sParNE, sPar3, sAsg, gNm, gsNil, gsCons, gTp, sAugI, sIxO, sIxS, sAugS, stoL, setW, iVar, iC, iNil, iCons, iTup, iLst, nLst, iFz, iB, gAdd, gI, gIC, gSub, gMul, gDiv, gMod, gPow, gLt, gLe, gGt, gGe, gEq, gNe, gIn, gIsN, isN, iNeg, tTru', gTru, tBl, iChain, tAnd', tOr', tNot', tYes', iIf, iAnd, iOr, iNot, iIx, gIx, atW, iIxO, ownL, oNone, oSome, iSl, gSl, iRevL, iCall, nCall, iFn, Sh.R.fz, SO.fz, Stt.put, Stt.puts, iMtO, gAppend, gInsert, gExtend, gLen, iLenO, gAbs, gInt, gMinMax, gList, gTuple, iListRg, gIsi, tyN, gRepr, flatW, eqW, okD, eqOk, cut_13, cut_1_2, cut_1_3, cut_m2, cut_m3, cut_m4, atI_m2, atI_m3, atI_m4, iOfT, tKdIn, iKdIx, atI_0, atI_1, atI_2, atI_3, ixN_4_0, ixN_4_1, ixN_4_2, ixN_4_3, Sto.put_same, Sto.put_put, toNat_2, List.map, List.replicate, List.length_cons, List.length_nil, List.getElem?_cons_zero, List.getElem?_cons_succ, List.getElem?_nil, List.set_cons_zero, List.set_cons_succ, List.set_nil, List.cons_append, List.nil_append, List.append_nil, if_true, if_false, Call.w]
    exact ⟨trivial, ifT (by decide) ⟨by omega, q⟩⟩
  | up g k =>
    refine seq_same (fun nx h => skip _ _ sNext nx (by simp only [Call.word]; decide) h) (seq_end fun nx => ?_)
    simp only [bodyI, start0, sSeq, sNext, sNever, sCont, sBreak, sDrop, sRet, sRetN, sRet0, sRetO, sIf, sSet, sSetN, sSetP, sPar, sParEN, sParNE, sPar3, sAsg, gNm, gsNil, gsCons, gTp, sAugI, sIxO, sIxS, sAugS, stoL, setW, iVar, iC, iNil, iCons, iTup, iLst, nLst, iFz, iB, gAdd, gI, gIC, gSub, gMul, gDiv, gMod, gPow, gLt, gLe, gGt, gGe, gEq, gNe, gIn, gIsN, isN, iNeg, tTru', gTru, tBl, iChain, tAnd', tOr', tNot', tYes', iIf, iAnd, iOr, iNot, iIx, gIx, atW, iIxO, ownL, oNone, oSome, iSl, gSl, iRevL, iCall, nCall, iFn, Sh.R.fz, SO.fz, Stt.put, Stt.puts, iMtO, gAppend, gInsert, gExtend, gLen, iLenO, gAbs, gInt, gMinMax, gList, gTuple, iListRg, gIsi, tyN, gRepr, flatW, eqW, okD, eqOk, cut_13, cut_1_2, cut_1_3, cut_m2, cut_m3, cut_m4, atI_m2, atI_m3, atI_m4, iOfT, tKdIn, iKdIx, atI_0, atI_1, atI_2, atI_3, ixN_4_0, ixN_4_1, ixN_4_2, ixN_4_3, Sto.put_same, Sto.put_put, toNat_2, List.map, List.replicate, List.length_cons, List.length_nil, List.getElem?_cons_zero, List.getElem?_cons_succ, List.getElem?_nil, List.set_cons_zero, List.set_cons_succ, List.set_nil, List.cons_append, List.nil_append, List.append_nil, if_true, if_false, Call.w]
    refine ⟨trivial, ifT (by decide) ⟨rfl, ifb (fun y => ?_) (fun y => ?_)⟩⟩
    · rw [show mv F R (.up g k) (r, f) = ((r - k) % R, f) from if_pos (beq_iff_eq.mp y)] at q
      exact ⟨by omega, q⟩
    · rw [show mv F R (.up g k) (r, f) = (r, f) from if_neg (beq_eq_false_iff_ne.mp y)] at q
      exact q
  | about =>
    refine seq_same (fun nx h => skip _ _ sNext nx (by simp only [Call.word]; decide) h) (seq_same (fun nx h => skip _ _ sNext nx (by simp only [Call.word]; decide) h) (seq_end fun nx => ?_))
    simp only [bodyI, start0, sSeq, sNext, sNever, sCont, sBreak, sDrop, sRet, sRetN, sRet0, sRetO, sIf, sSet, sSetN, sSetP, sPar, sParEN, sParNE, sPar3, sAsg, gNm, gsNil, gsCons, gTp, sAugI, sIxO, sIxS, sAugS, stoL, setW, iVar, iC, iNil, iCons, iTup, iLst, nLst, iFz, iB, gAdd, gI, gIC, gSub, gMul, gDiv, gMod, gPow, gLt, gLe, gGt, gGe, gEq, gNe, gIn, gIsN, isN, iNeg, tTru', gTru, tBl, iChain, tAnd', tOr', tNot', tYes', iIf, iAnd, iOr, iNot, iIx, gIx, atW, iIxO, ownL, oNone, oSome, iSl, gSl, iRevL, iCall, nCall, iFn, Sh.R.fz, SO.fz, Stt.put, Stt.puts, iMtO, gAppend, gInsert, gExtend, gLen, iLenO, gAbs, gInt, gMinMax, gList, gTuple, iListRg, gIsi, tyN, gRepr, flatW, eqW, okD, eqOk, cut_13, cut_1_2, cut_1_3, cut_m2, cut_m3, cut_m4, atI_m2, atI_m3, atI_m4, iOfT, tKdIn, iKdIx, atI_0, atI_1, atI_2, atI_3, ixN_4_0, ixN_4_1, ixN_4_2, ixN_4_3, Sto.put_same, Sto.put_put, toNat_2, List.map, List.replicate, List.length_cons, List.length_nil, List.getElem?_cons_zero, List.getElem?_cons_succ, List.getElem?_nil, List.set_cons_zero, List.set_cons_succ, List.set_nil, List.cons_append, List.nil_append, List.append_nil, if_true, if_false, Call.w]
    exact ⟨trivial, ifT (by decide) q⟩
  | wheel g h k =>
    refine seq_same (fun nx h => skip _ _ sNext nx (by simp only [Call.word]; decide) h) (seq_same (fun nx h => skip _ _ sNext nx (by simp only [Call.word]; decide) h) (seq_same (fun nx h => skip _ _ sNext nx (by simp only [Call.word]; decide) h) (seq_end fun nx => ?_)))
    simp only [bodyI, start0, sSeq, sNext, sNever, sCont, sBreak, sDrop, sRet, sRetN, sRet0, sRetO, sIf, sSet, sSetN, sSetP, sPar, sParEN, sParNE, sPar3, sAsg, gNm, gsNil, gsCons, gTp, sAugI, sIxO, sIxS, sAugS, stoL, setW, iVar, iC, iNil, iCons, iTup, iLst, nLst, iFz, iB, gAdd, gI, gIC, gSub, gMul, gDiv, gMod, gPow, gLt, gLe, gGt, gGe, gEq, gNe, gIn, gIsN, isN, iNeg, tTru', gTru, tBl, iChain, tAnd', tOr', tNot', tYes', iIf, iAnd, iOr, iNot, iIx, gIx, atW, iIxO, ownL, oNone, oSome, iSl, gSl, iRevL, iCall, nCall, iFn, Sh.R.fz, SO.fz, Stt.put, Stt.puts, iMtO, gAppend, gInsert, gExtend, gLen, iLenO, gAbs, gInt, gMinMax, gList, gTuple, iListRg, gIsi, tyN, gRepr, flatW, eqW, okD, eqOk, cut_13, cut_1_2, cut_1_3, cut_m2, cut_m3, cut_m4, atI_m2, atI_m3, atI_m4, iOfT, tKdIn, iKdIx, atI_0, atI_1, atI_2, atI_3, ixN_4_0, ixN_4_1, ixN_4_2, ixN_4_3, Sto.put_same, Sto.put_put, toNat_2, List.map, List.replicate, List.length_cons, List.length_nil, List.getElem?_cons_zero, List.getElem?_cons_succ, List.getElem?_nil, List.set_cons_zero, List.set_cons_succ, List.set_nil, List.cons_append, List.nil_append, List.append_nil, if_true, if_false, Call.w]
    exact ⟨trivial, ifT (by decide) ⟨g, h, k, R, r, f, rfl, by omega, q⟩⟩
  | swap g h =>
    refine seq_same (fun nx h => skip _ _ sNext nx (by simp only [Call.word]; decide) h) (seq_same (fun nx h => skip _ _ sNext nx (by simp only [Call.word]; decide) h) (seq_same (fun nx h => skip _ _ sNext nx (by simp only [Call.word]; decide) h) (seq_same (fun nx h => skip _ _ sNext nx (by simp only [Call.word]; decide) h) (seq_end fun nx => ?_))))
    refine ⟨rfl, rfl, ifT (by decide) ?_⟩
    by_cases a : f ≠ g ∧ f ≠ h
    · rw [show mv F R (.swap g h) (r, f) = (r, f) from if_pos a] at q
      refine seq_end fun nx => ?_
      simp only [bodyI, start0, sSeq, sNext, sNever, sCont, sBreak, sDrop, sRet, sRetN, sRet0, sRetO, sIf, sSet, sSetN, sSetP, sPar, sParEN, sParNE, sPar3, sAsg, gNm, gsNil, gsCons, gTp, sAugI, sIxO, sIxS, sAugS, stoL, setW, iVar, iC, iNil, iCons, iTup, iLst, nLst, iFz, iB, gAdd, gI, gIC, gSub, gMul, gDiv, gMod, gPow, gLt, gLe, gGt, gGe, gEq, gNe, gIn, gIsN, isN, iNeg, tTru', gTru, tBl, iChain, tAnd', tOr', tNot', tYes', iIf, iAnd, iOr, iNot, iIx, gIx, atW, iIxO, ownL, oNone, oSome, iSl, gSl, iRevL, iCall, nCall, iFn, Sh.R.fz, SO.fz, Stt.put, Stt.puts, iMtO, gAppend, gInsert, gExtend, gLen, iLenO, gAbs, gInt, gMinMax, gList, gTuple, iListRg, gIsi, tyN, gRepr, flatW, eqW, okD, eqOk, cut_13, cut_1_2, cut_1_3, cut_m2, cut_m3, cut_m4, atI_m2, atI_m3, atI_m4, iOfT, tKdIn, iKdIx, atI_0, atI_1, atI_2, atI_3, ixN_4_0, ixN_4_1, ixN_4_2, ixN_4_3, Sto.put_same, Sto.put_put, toNat_2, List.map, List.replicate, List.length_cons, List.length_nil, List.getElem?_cons_zero, List.getElem?_cons_succ, List.getElem?_nil, List.set_cons_zero, List.set_cons_succ, List.set_nil, List.cons_append, List.nil_append, List.append_nil, if_true, if_false, Call.w]
      refine ⟨trivial, rfl, ifT ?_ q⟩
      rw [inW_two, decide_eq_false (by omega)]
      rfl
    · rw [show mv F R (.swap g h) (r, f) = _ from if_neg a] at q
      refine seq_same (fun nx hn => ?_) (fin "swap" g h rfl q)
      simp only [bodyI, start0, sSeq, sNext, sNever, sCont, sBreak, sDrop, sRet, sRetN, sRet0, sRetO, sIf, sSet, sSetN, sSetP, sPar, sParEN, sParNE, sPar3, sAsg, gNm, gsNil, gsCons, gTp, sAugI, sIxO, sIxS, sAugS, stoL, setW, iVar, iC, iNil, iCons, iTup, iLst, nLst, iFz, iB, gAdd, gI, gIC, gSub, gMul, gDiv, gMod, gPow, gLt, gLe, gGt, gGe, gEq, gNe, gIn, gIsN, isN, iNeg, tTru', gTru, tBl, iChain, tAnd', tOr', tNot', tYes', iIf, iAnd, iOr, iNot, iIx, gIx, atW, iIxO, ownL, oNone, oSome, iSl, gSl, iRevL, iCall, nCall, iFn, Sh.R.fz, SO.fz, Stt.put, Stt.puts, iMtO, gAppend, gInsert, gExtend, gLen, iLenO, gAbs, gInt, gMinMax, gList, gTuple, iListRg, gIsi, tyN, gRepr, flatW, eqW, okD, eqOk, cut_13, cut_1_2, cut_1_3, cut_m2, cut_m3, cut_m4, atI_m2, atI_m3, atI_m4, iOfT, tKdIn, iKdIx, atI_0, atI_1, atI_2, atI_3, ixN_4_0, ixN_4_1, ixN_4_2, ixN_4_3, Sto.put_same, Sto.put_put, toNat_2, List.map, List.replicate, List.length_cons, List.length_nil, List.getElem?_cons_zero, List.getElem?_cons_succ, List.getElem?_nil, List.set_cons_zero, List.set_cons_succ, List.set_nil, List.cons_append, List.nil_append, List.append_nil, if_true, if_false, Call.w]
      refine ⟨trivial, rfl, ifF ?_ ⟨trivial, ifF (by decide) hn⟩⟩
      rw [inW_two, decide_eq_true (by omega)]
      rfl
  | front g h =>
    refine seq_same (fun nx h => skip _ _ sNext nx (by simp only [Call.word]; decide) h) (seq_same (fun nx h => skip _ _ sNext nx (by simp only [Call.word]; decide) h) (seq_same (fun nx h => skip _ _ sNext nx (by simp only [Call.word]; decide) h) (seq_same (fun nx h => skip _ _ sNext nx (by simp only [Call.word]; decide) h) (seq_end fun nx => ?_))))
    refine ⟨rfl, rfl, ifT (by decide) ?_⟩
    by_cases a : f ≠ g ∧ f ≠ h
    · rw [show mv F R (.front g h) (r, f) = (r, f) from if_pos (.inl a)] at q
      refine seq_end fun nx => ?_
      simp only [bodyI, start0, sSeq, sNext, sNever, sCont, sBreak, sDrop, sRet, sRetN, sRet0, sRetO, sIf, sSet, sSetN, sSetP, sPar, sParEN, sParNE, sPar3, sAsg, gNm, gsNil, gsCons, gTp, sAugI, sIxO, sIxS, sAugS, stoL, setW, iVar, iC, iNil, iCons, iTup, iLst, nLst, iFz, iB, gAdd, gI, gIC, gSub, gMul, gDiv, gMod, gPow, gLt, gLe, gGt, gGe, gEq, gNe, gIn, gIsN, isN, iNeg, tTru', gTru, tBl, iChain, tAnd', tOr', tNot', tYes', iIf, iAnd, iOr, iNot, iIx, gIx, atW, iIxO, ownL, oNone, oSome, iSl, gSl, iRevL, iCall, nCall, iFn, Sh.R.fz, SO.fz, Stt.put, Stt.puts, iMtO, gAppend, gInsert, gExtend, gLen, iLenO, gAbs, gInt, gMinMax, gList, gTuple, iListRg, gIsi, tyN, gRepr, flatW, eqW, okD, eqOk, cut_13, cut_1_2, cut_1_3, cut_m2, cut_m3, cut_m4, atI_m2, atI_m3, atI_m4, iOfT, tKdIn, iKdIx, atI_0, atI_1, atI_2, atI_3, ixN_4_0, ixN_4_1, ixN_4_2, ixN_4_3, Sto.put_same, Sto.put_put, toNat_2, List.map, List.replicate, List.length_cons, List.length_nil, List.getElem?_cons_zero, List.getElem?_cons_succ, List.getElem?_nil, List.set_cons_zero, List.set_cons_succ, List.set_nil, List.cons_append, List.nil_append, List.append_nil, if_true, if_false, Call.w]
      refine ⟨trivial, rfl, ifT ?_ q⟩
      rw [inW_two, decide_eq_false (by omega)]
      rfl
    · have key : inW (.int f) [.int g, .int h] = true := by rw [inW_two, decide_eq_true (by omega)]
      by_cases b : 0 < r
      · rw [show mv F R (.front g h) (r, f) = (r, f) from if_pos (.inr b)] at q
        refine seq_end fun nx => ?_
        simp only [bodyI, start0, sSeq, sNext, sNever, sCont, sBreak, sDrop, sRet, sRetN, sRet0, sRetO, sIf, sSet, sSetN, sSetP, sPar, sParEN, sParNE, sPar3, sAsg, gNm, gsNil, gsCons, gTp, sAugI, sIxO, sIxS, sAugS, stoL, setW, iVar, iC, iNil, iCons, iTup, iLst, nLst, iFz, iB, gAdd, gI, gIC, gSub, gMul, gDiv, gMod, gPow, gLt, gLe, gGt, gGe, gEq, gNe, gIn, gIsN, isN, iNeg, tTru', gTru, tBl, iChain, tAnd', tOr', tNot', tYes', iIf, iAnd, iOr, iNot, iIx, gIx, atW, iIxO, ownL, oNone, oSome, iSl, gSl, iRevL, iCall, nCall, iFn, Sh.R.fz, SO.fz, Stt.put, Stt.puts, iMtO, gAppend, gInsert, gExtend, gLen, iLenO, gAbs, gInt, gMinMax, gList, gTuple, iListRg, gIsi, tyN, gRepr, flatW, eqW, okD, eqOk, cut_13, cut_1_2, cut_1_3, cut_m2, cut_m3, cut_m4, atI_m2, atI_m3, atI_m4, iOfT, tKdIn, iKdIx, atI_0, atI_1, atI_2, atI_3, ixN_4_0, ixN_4_1, ixN_4_2, ixN_4_3, Sto.put_same, Sto.put_put, toNat_2, List.map, List.replicate, List.length_cons, List.length_nil, List.getElem?_cons_zero, List.getElem?_cons_succ, List.getElem?_nil, List.set_cons_zero, List.set_cons_succ, List.set_nil, List.cons_append, List.nil_append, List.append_nil, if_true, if_false, Call.w]
        refine ⟨trivial, rfl, ifF (by rw [key]; rfl) ⟨trivial, ifT (by decide) (ifT (decide_eq_true b) q)⟩⟩
      · rw [show mv F R (.front g h) (r, f) = _ from if_neg (fun z => z.elim a b)] at q
        refine seq_same (fun nx hn => ?_) (fin "front" g h rfl q)
        simp only [bodyI, start0, sSeq, sNext, sNever, sCont, sBreak, sDrop, sRet, sRetN, sRet0, sRetO, sIf, sSet, sSetN, sSetP, sPar, sParEN, sParNE, sPar3, sAsg, gNm, gsNil, gsCons, gTp, sAugI, sIxO, sIxS, sAugS, stoL, setW, iVar, iC, iNil, iCons, iTup, iLst, nLst, iFz, iB, gAdd, gI, gIC, gSub, gMul, gDiv, gMod, gPow, gLt, gLe, gGt, gGe, gEq, gNe, gIn, gIsN, isN, iNeg, tTru', gTru, tBl, iChain, tAnd', tOr', tNot', tYes', iIf, iAnd, iOr, iNot, iIx, gIx, atW, iIxO, ownL, oNone, oSome, iSl, gSl, iRevL, iCall, nCall, iFn, Sh.R.fz, SO.fz, Stt.put, Stt.puts, iMtO, gAppend, gInsert, gExtend, gLen, iLenO, gAbs, gInt, gMinMax, gList, gTuple, iListRg, gIsi, tyN, gRepr, flatW, eqW, okD, eqOk, cut_13, cut_1_2, cut_1_3, cut_m2, cut_m3, cut_m4, atI_m2, atI_m3, atI_m4, iOfT, tKdIn, iKdIx, atI_0, atI_1, atI_2, atI_3, ixN_4_0, ixN_4_1, ixN_4_2, ixN_4_3, Sto.put_same, Sto.put_put, toNat_2, List.map, List.replicate, List.length_cons, List.length_nil, List.getElem?_cons_zero, List.getElem?_cons_succ, List.getElem?_nil, List.set_cons_zero, List.set_cons_succ, List.set_nil, List.cons_append, List.nil_append, List.append_nil, if_true, if_false, Call.w]
        exact ⟨trivial, rfl, ifF (by rw [key]; rfl) ⟨trivial, ifT (by decide) (ifF (decide_eq_false b) hn)⟩⟩
  | halve => exact seq_same (fun nx h => skip _ _ sNext nx (by simp only [Call.word]; decide) h) (seq_same (fun nx h => skip _ _ sNext nx (by simp only [Call.word]; decide) h) (seq_same (fun nx h => skip _ _ sNext nx (by simp only [Call.word]; decide) h) (seq_same (fun nx h => skip _ _ sNext nx (by simp only [Call.word]; decide) h) (seq_same (fun nx h => skip2 _ sNext nx (by decide) (by decide) h) (opn rfl)))))
  | pair => exact seq_same (fun nx h => skip _ _ sNext nx (by simp only [Call.word]; decide) h) (seq_same (fun nx h => skip _ _ sNext nx (by simp only [Call.word]; decide) h) (seq_same (fun nx h => skip _ _ sNext nx (by simp only [Call.word]; decide) h) (seq_same (fun nx h => skip _ _ sNext nx (by simp only [Call.word]; decide) h) (seq_same (fun nx h => skip2 _ sNext nx (by decide) (by decide) h) (opn rfl)))))
  | others => exact seq_same (fun nx h => skip _ _ sNext nx (by simp only [Call.word]; decide) h) (seq_same (fun nx h => skip _ _ sNext nx (by simp only [Call.word]; decide) h) (seq_same (fun nx h => skip _ _ sNext nx (by simp only [Call.word]; decide) h) (seq_same (fun nx h => skip _ _ sNext nx (by simp only [Call.word]; decide) h) (seq_same (fun nx h => skip2 _ sNext nx (by decide) (by decide) h) (opn rfl)))))
  | fill => exact seq_same (fun nx h => skip _ _ sNext nx (by simp only [Call.word]; decide) h) (seq_same (fun nx h => skip _ _ sNext nx (by simp only [Call.word]; decide) h) (seq_same (fun nx h => skip _ _ sNext nx (by simp only [Call.word]; decide) h) (seq_same (fun nx h => skip _ _ sNext nx (by simp only [Call.word]; decide) h) (seq_same (fun nx h => skip2 _ sNext nx (by decide) (by decide) h) (opn rfl)))))
end Sh
namespace Sh
open PySem L2
open PyProof.Rows hiding St
def kC_BY_NUMBER : W := .tup [.str "all", .str "up", .str "wheel"]
def kT_OPEN_CALLS : List (Str × W) := [("halve", .str "pair"), ("pair", .str "halve"), ("others", .str "fill"), ("fill", .str "others")]
def Call.tn : Call → Call
  | .all k => .all (-k)
  | .up f k => .up f (-k)
  | .wheel f g k => .wheel f g (-k)
  | .halve => .pair
  | .pair => .halve
  | .others => .fill
  | .fill => .others
  | c => c
theorem Call.tn_tn (c : Call) : c.tn.tn = c := by cases c <;> simp [Call.tn]
def ib_p_turned : IS := (sSeq (sIf (tBl (iB (gIn false) (iIx (iVar 0) (iC (.int 0))) (iC kC_BY_NUMBER))) (sRet (iB gAdd (iSl (iVar 0) oNone (oSome (iNeg (iC (.int 1))))) (iTup (iCons (iNeg (iIx (iVar 0) (iNeg (iC (.int 1))))) iNil)))) sNext)
  (sRet (iIf (tKdIn false kT_OPEN_CALLS (iIx (iVar 0) (iC (.int 0)))) (iTup (iCons (iKdIx kT_OPEN_CALLS (iIx (iVar 0) (iC (.int 0)))) iNil)) (iVar 0))))
def sp_p_turned : ISp := fun ws S Q E => ∃ c : Call, ws = [c.w] ∧ Q (.val c.tn.w) S
theorem ok_p_turned (ws : List W) (S : Sto) (Q : R → Sto → Prop) (E : Exn → Sto → Prop) (h : sp_p_turned ws S Q E) : bodyI 1 ib_p_turned ws S Q E := by
  obtain ⟨c, rfl, q⟩ := h
  unfold ib_p_turned
  have num : (c.word = "all" ∨ c.word = "up" ∨ c.word = "wheel") → inW (.str c.word) [.str "all", .str "up", .str "wheel"] = true := by
    rintro (h | h | h) <;> (rw [h]; decide)
  cases c with
  | all k =>
    refine seq_end fun nx => ?_
    simp only [bodyI, start0, sSeq, sNext, sNever, sCont, sBreak, sDrop, sRet, sRetN, sRet0, sRetO, sIf, sSet, sSetN, sSetP, sPar, sParEN, sParNE, sPar3, sAsg, gNm, gsNil, gsCons, gTp, sAugI, sIxO, sIxS, sAugS, stoL, setW, iVar, iC, iNil, iCons, iTup, iLst, nLst, iFz, iB, gAdd, gI, gIC, gSub, gMul, gDiv, gMod, gPow, gLt, gLe, gGt, gGe, gEq, gNe, gIn, gIsN, isN, iNeg, tTru', gTru, tBl, iChain, tAnd', tOr', tNot', tYes', iIf, iAnd, iOr, iNot, iIx, gIx, atW, iIxO, ownL, oNone, oSome, iSl, gSl, iRevL, iCall, nCall, iFn, Sh.R.fz, SO.fz, Stt.put, Stt.puts, iMtO, gAppend, gInsert, gExtend, gLen, iLenO, gAbs, gInt, gMinMax, gList, gTuple, iListRg, gIsi, tyN, gRepr, flatW, eqW, okD, eqOk, cut_13, cut_1_2, cut_1_3, cut_m2, cut_m3, cut_m4, atI_m2, atI_m3, atI_m4, iOfT, tKdIn, iKdIx, atI_0, atI_1, atI_2, atI_3, ixN_4_0, ixN_4_1, ixN_4_2, ixN_4_3, Sto.put_same, Sto.put_put, toNat_2, List.map, List.replicate, List.length_cons, List.length_nil, List.getElem?_cons_zero, List.getElem?_cons_succ, List.getElem?_nil, List.set_cons_zero, List.set_cons_succ, List.set_nil, List.cons_append, List.nil_append, List.append_nil, if_true, if_false, Call.w, kC_BY_NUMBER]
    exact ⟨trivial, rfl, ifT (by decide) ⟨by decide, q⟩⟩
  | up f k =>
    refine seq_end fun nx => ?_
    simp only [bodyI, start0, sSeq, sNext, sNever, sCont, sBreak, sDrop, sRet, sRetN, sRet0, sRetO, sIf, sSet, sSetN, sSetP, sPar, sParEN, sParNE, sPar3, sAsg, gNm, gsNil, gsCons, gTp, sAugI, sIxO, sIxS, sAugS, stoL, setW, iVar, iC, iNil, iCons, iTup, iLst, nLst, iFz, iB, gAdd, gI, gIC, gSub, gMul, gDiv, gMod, gPow, gLt, gLe, gGt, gGe, gEq, gNe, gIn, gIsN, isN, iNeg, tTru', gTru, tBl, iChain, tAnd', tOr', tNot', tYes', iIf, iAnd, iOr, iNot, iIx, gIx, atW, iIxO, ownL, oNone, oSome, iSl, gSl, iRevL, iCall, nCall, iFn, Sh.R.fz, SO.fz, Stt.put, Stt.puts, iMtO, gAppend, gInsert, gExtend, gLen, iLenO, gAbs, gInt, gMinMax, gList, gTuple, iListRg, gIsi, tyN, gRepr, flatW, eqW, okD, eqOk, cut_13, cut_1_2, cut_1_3, cut_m2, cut_m3, cut_m4, atI_m2, atI_m3, atI_m4, iOfT, tKdIn, iKdIx, atI_0, atI_1, atI_2, atI_3, ixN_4_0, ixN_4_1, ixN_4_2, ixN_4_3, Sto.put_same, Sto.put_put, toNat_2, List.map, List.replicate, List.length_cons, List.length_nil, List.getElem?_cons_zero, List.getElem?_cons_succ, List.getElem?_nil, List.set_cons_zero, List.set_cons_succ, List.set_nil, List.cons_append, List.nil_append, List.append_nil, if_true, if_false, Call.w, kC_BY_NUMBER]
    exact ⟨trivial, rfl, ifT (by decide) ⟨by decide, q⟩⟩
  | wheel f g k =>
    refine seq_end fun nx => ?_
    simp only [bodyI, start0, sSeq, sNext, sNever, sCont, sBreak, sDrop, sRet, sRetN, sRet0, sRetO, sIf, sSet, sSetN, sSetP, sPar, sParEN, sParNE, sPar3, sAsg, gNm, gsNil, gsCons, gTp, sAugI, sIxO, sIxS, sAugS, stoL, setW, iVar, iC, iNil, iCons, iTup, iLst, nLst, iFz, iB, gAdd, gI, gIC, gSub, gMul, gDiv, gMod, gPow, gLt, gLe, gGt, gGe, gEq, gNe, gIn, gIsN, isN, iNeg, tTru', gTru, tBl, iChain, tAnd', tOr', tNot', tYes', iIf, iAnd, iOr, iNot, iIx, gIx, atW, iIxO, ownL, oNone, oSome, iSl, gSl, iRevL, iCall, nCall, iFn, Sh.R.fz, SO.fz, Stt.put, Stt.puts, iMtO, gAppend, gInsert, gExtend, gLen, iLenO, gAbs, gInt, gMinMax, gList, gTuple, iListRg, gIsi, tyN, gRepr, flatW, eqW, okD, eqOk, cut_13, cut_1_2, cut_1_3, cut_m2, cut_m3, cut_m4, atI_m2, atI_m3, atI_m4, iOfT, tKdIn, iKdIx, atI_0, atI_1, atI_2, atI_3, ixN_4_0, ixN_4_1, ixN_4_2, ixN_4_3, Sto.put_same, Sto.put_put, toNat_2, List.map, List.replicate, List.length_cons, List.length_nil, List.getElem?_cons_zero, List.getElem?_cons_succ, List.getElem?_nil, List.set_cons_zero, List.set_cons_succ, List.set_nil, List.cons_append, List.nil_append, List.append_nil, if_true, if_false, Call.w, kC_BY_NUMBER]
    exact ⟨trivial, rfl, ifT (by decide) ⟨by decide, q⟩⟩
  | swap f g =>
    refine seq_same (fun nx h => ?_) ?_
    · simp only [bodyI, start0, sSeq, sNext, sNever, sCont, sBreak, sDrop, sRet, sRetN, sRet0, sRetO, sIf, sSet, sSetN, sSetP, sPar, sParEN, sParNE, sPar3, sAsg, gNm, gsNil, gsCons, gTp, sAugI, sIxO, sIxS, sAugS, stoL, setW, iVar, iC, iNil, iCons, iTup, iLst, nLst, iFz, iB, gAdd, gI, gIC, gSub, gMul, gDiv, gMod, gPow, gLt, gLe, gGt, gGe, gEq, gNe, gIn, gIsN, isN, iNeg, tTru', gTru, tBl, iChain, tAnd', tOr', tNot', tYes', iIf, iAnd, iOr, iNot, iIx, gIx, atW, iIxO, ownL, oNone, oSome, iSl, gSl, iRevL, iCall, nCall, iFn, Sh.R.fz, SO.fz, Stt.put, Stt.puts, iMtO, gAppend, gInsert, gExtend, gLen, iLenO, gAbs, gInt, gMinMax, gList, gTuple, iListRg, gIsi, tyN, gRepr, flatW, eqW, okD, eqOk, cut_13, cut_1_2, cut_1_3, cut_m2, cut_m3, cut_m4, atI_m2, atI_m3, atI_m4, iOfT, tKdIn, iKdIx, atI_0, atI_1, atI_2, atI_3, ixN_4_0, ixN_4_1, ixN_4_2, ixN_4_3, Sto.put_same, Sto.put_put, toNat_2, List.map, List.replicate, List.length_cons, List.length_nil, List.getElem?_cons_zero, List.getElem?_cons_succ, List.getElem?_nil, List.set_cons_zero, List.set_cons_succ, List.set_nil, List.cons_append, List.nil_append, List.append_nil, if_true, if_false, Call.w, kC_BY_NUMBER]
      exact ⟨trivial, rfl, ifF (by decide) h⟩
    · simp only [bodyI, start0, sSeq, sNext, sNever, sCont, sBreak, sDrop, sRet, sRetN, sRet0, sRetO, sIf, sSet, sSetN, sSetP, sPar, sParEN, sParNE, sPar3, sAsg, gNm, gsNil, gsCons, gTp, sAugI, sIxO, sIxS, sAugS, stoL, setW, iVar, iC, iNil, iCons, iTup, iLst, nLst, iFz, iB, gAdd, gI, gIC, gSub, gMul, gDiv, gMod, gPow, gLt, gLe, gGt, gGe, gEq, gNe, gIn, gIsN, isN, iNeg, tTru', gTru, tBl, iChain, tAnd', tOr', tNot', tYes', iIf, iAnd, iOr, iNot, iIx, gIx, atW, iIxO, ownL, oNone, oSome, iSl, gSl, iRevL, iCall, nCall, iFn, Sh.R.fz, SO.fz, Stt.put, Stt.puts, iMtO, gAppend, gInsert, gExtend, gLen, iLenO, gAbs, gInt, gMinMax, gList, gTuple, iListRg, gIsi, tyN, gRepr, flatW, eqW, okD, eqOk, cut_13, cut_1_2, cut_1_3, cut_m2, cut_m3, cut_m4, atI_m2, atI_m3, atI_m4, iOfT, tKdIn, iKdIx, atI_0, atI_1, atI_2, atI_3, ixN_4_0, ixN_4_1, ixN_4_2, ixN_4_3, Sto.put_same, Sto.put_put, toNat_2, List.map, List.replicate, List.length_cons, List.length_nil, List.getElem?_cons_zero, List.getElem?_cons_succ, List.getElem?_nil, List.set_cons_zero, List.set_cons_succ, List.set_nil, List.cons_append, List.nil_append, List.append_nil, if_true, if_false, Call.w]
      exact ifF (by decide) q
  | front f g =>
    refine seq_same (fun nx h => ?_) ?_
    · simp only [bodyI, start0, sSeq, sNext, sNever, sCont, sBreak, sDrop, sRet, sRetN, sRet0, sRetO, sIf, sSet, sSetN, sSetP, sPar, sParEN, sParNE, sPar3, sAsg, gNm, gsNil, gsCons, gTp, sAugI, sIxO, sIxS, sAugS, stoL, setW, iVar, iC, iNil, iCons, iTup, iLst, nLst, iFz, iB, gAdd, gI, gIC, gSub, gMul, gDiv, gMod, gPow, gLt, gLe, gGt, gGe, gEq, gNe, gIn, gIsN, isN, iNeg, tTru', gTru, tBl, iChain, tAnd', tOr', tNot', tYes', iIf, iAnd, iOr, iNot, iIx, gIx, atW, iIxO, ownL, oNone, oSome, iSl, gSl, iRevL, iCall, nCall, iFn, Sh.R.fz, SO.fz, Stt.put, Stt.puts, iMtO, gAppend, gInsert, gExtend, gLen, iLenO, gAbs, gInt, gMinMax, gList, gTuple, iListRg, gIsi, tyN, gRepr, flatW, eqW, okD, eqOk, cut_13, cut_1_2, cut_1_3, cut_m2, cut_m3, cut_m4, atI_m2, atI_m3, atI_m4, iOfT, tKdIn, iKdIx, atI_0, atI_1, atI_2, atI_3, ixN_4_0, ixN_4_1, ixN_4_2, ixN_4_3, Sto.put_same, Sto.put_put, toNat_2, List.map, List.replicate, List.length_cons, List.length_nil, List.getElem?_cons_zero, List.getElem?_cons_succ, List.getElem?_nil, List.set_cons_zero, List.set_cons_succ, List.set_nil, List.cons_append, List.nil_append, List.append_nil, if_true, if_false, Call.w, kC_BY_NUMBER]
      exact ⟨trivial, rfl, ifF (by decide) h⟩
    · simp only [bodyI, start0, sSeq, sNext, sNever, sCont, sBreak, sDrop, sRet, sRetN, sRet0, sRetO, sIf, sSet, sSetN, sSetP, sPar, sParEN, sParNE, sPar3, sAsg, gNm, gsNil, gsCons, gTp, sAugI, sIxO, sIxS, sAugS, stoL, setW, iVar, iC, iNil, iCons, iTup, iLst, nLst, iFz, iB, gAdd, gI, gIC, gSub, gMul, gDiv, gMod, gPow, gLt, gLe, gGt, gGe, gEq, gNe, gIn, gIsN, isN, iNeg, tTru', gTru, tBl, iChain, tAnd', tOr', tNot', tYes', iIf, iAnd, iOr, iNot, iIx, gIx, atW, iIxO, ownL, oNone, oSome, iSl, gSl, iRevL, iCall, nCall, iFn, Sh.R.fz, SO.fz, Stt.put, Stt.puts, iMtO, gAppend, gInsert, gExtend, gLen, iLenO, gAbs, gInt, gMinMax, gList, gTuple, iListRg, gIsi, tyN, gRepr, flatW, eqW, okD, eqOk, cut_13, cut_1_2, cut_1_3, cut_m2, cut_m3, cut_m4, atI_m2, atI_m3, atI_m4, iOfT, tKdIn, iKdIx, atI_0, atI_1, atI_2, atI_3, ixN_4_0, ixN_4_1, ixN_4_2, ixN_4_3, Sto.put_same, Sto.put_put, toNat_2, List.map, List.replicate, List.length_cons, List.length_nil, List.getElem?_cons_zero, List.getElem?_cons_succ, List.getElem?_nil, List.set_cons_zero, List.set_cons_succ, List.set_nil, List.cons_append, List.nil_append, List.append_nil, if_true, if_false, Call.w]
      exact ifF (by decide) q
  | about =>
    refine seq_same (fun nx h => ?_) ?_
    · simp only [bodyI, start0, sSeq, sNext, sNever, sCont, sBreak, sDrop, sRet, sRetN, sRet0, sRetO, sIf, sSet, sSetN, sSetP, sPar, sParEN, sParNE, sPar3, sAsg, gNm, gsNil, gsCons, gTp, sAugI, sIxO, sIxS, sAugS, stoL, setW, iVar, iC, iNil, iCons, iTup, iLst, nLst, iFz, iB, gAdd, gI, gIC, gSub, gMul, gDiv, gMod, gPow, gLt, gLe, gGt, gGe, gEq, gNe, gIn, gIsN, isN, iNeg, tTru', gTru, tBl, iChain, tAnd', tOr', tNot', tYes', iIf, iAnd, iOr, iNot, iIx, gIx, atW, iIxO, ownL, oNone, oSome, iSl, gSl, iRevL, iCall, nCall, iFn, Sh.R.fz, SO.fz, Stt.put, Stt.puts, iMtO, gAppend, gInsert, gExtend, gLen, iLenO, gAbs, gInt, gMinMax, gList, gTuple, iListRg, gIsi, tyN, gRepr, flatW, eqW, okD, eqOk, cut_13, cut_1_2, cut_1_3, cut_m2, cut_m3, cut_m4, atI_m2, atI_m3, atI_m4, iOfT, tKdIn, iKdIx, atI_0, atI_1, atI_2, atI_3, ixN_4_0, ixN_4_1, ixN_4_2, ixN_4_3, Sto.put_same, Sto.put_put, toNat_2, List.map, List.replicate, List.length_cons, List.length_nil, List.getElem?_cons_zero, List.getElem?_cons_succ, List.getElem?_nil, List.set_cons_zero, List.set_cons_succ, List.set_nil, List.cons_append, List.nil_append, List.append_nil, if_true, if_false, Call.w, kC_BY_NUMBER]
      exact ⟨trivial, rfl, ifF (by decide) h⟩
    · simp only [bodyI, start0, sSeq, sNext, sNever, sCont, sBreak, sDrop, sRet, sRetN, sRet0, sRetO, sIf, sSet, sSetN, sSetP, sPar, sParEN, sParNE, sPar3, sAsg, gNm, gsNil, gsCons, gTp, sAugI, sIxO, sIxS, sAugS, stoL, setW, iVar, iC, iNil, iCons, iTup, iLst, nLst, iFz, iB, gAdd, gI, gIC, gSub, gMul, gDiv, gMod, gPow, gLt, gLe, gGt, gGe, gEq, gNe, gIn, gIsN, isN, iNeg, tTru', gTru, tBl, iChain, tAnd', tOr', tNot', tYes', iIf, iAnd, iOr, iNot, iIx, gIx, atW, iIxO, ownL, oNone, oSome, iSl, gSl, iRevL, iCall, nCall, iFn, Sh.R.fz, SO.fz, Stt.put, Stt.puts, iMtO, gAppend, gInsert, gExtend, gLen, iLenO, gAbs, gInt, gMinMax, gList, gTuple, iListRg, gIsi, tyN, gRepr, flatW, eqW, okD, eqOk, cut_13, cut_1_2, cut_1_3, cut_m2, cut_m3, cut_m4, atI_m2, atI_m3, atI_m4, iOfT, tKdIn, iKdIx, atI_0, atI_1, atI_2, atI_3, ixN_4_0, ixN_4_1, ixN_4_2, ixN_4_3, Sto.put_same, Sto.put_put, toNat_2, List.map, List.replicate, List.length_cons, List.length_nil, List.getElem?_cons_zero, List.getElem?_cons_succ, List.getElem?_nil, List.set_cons_zero, List.set_cons_succ, List.set_nil, List.cons_append, List.nil_append, List.append_nil, if_true, if_false, Call.w]
      exact ifF (by decide) q
  | halve =>
    refine seq_same (fun nx h => ?_) ?_
    · simp only [bodyI, start0, sSeq, sNext, sNever, sCont, sBreak, sDrop, sRet, sRetN, sRet0, sRetO, sIf, sSet, sSetN, sSetP, sPar, sParEN, sParNE, sPar3, sAsg, gNm, gsNil, gsCons, gTp, sAugI, sIxO, sIxS, sAugS, stoL, setW, iVar, iC, iNil, iCons, iTup, iLst, nLst, iFz, iB, gAdd, gI, gIC, gSub, gMul, gDiv, gMod, gPow, gLt, gLe, gGt, gGe, gEq, gNe, gIn, gIsN, isN, iNeg, tTru', gTru, tBl, iChain, tAnd', tOr', tNot', tYes', iIf, iAnd, iOr, iNot, iIx, gIx, atW, iIxO, ownL, oNone, oSome, iSl, gSl, iRevL, iCall, nCall, iFn, Sh.R.fz, SO.fz, Stt.put, Stt.puts, iMtO, gAppend, gInsert, gExtend, gLen, iLenO, gAbs, gInt, gMinMax, gList, gTuple, iListRg, gIsi, tyN, gRepr, flatW, eqW, okD, eqOk, cut_13, cut_1_2, cut_1_3, cut_m2, cut_m3, cut_m4, atI_m2, atI_m3, atI_m4, iOfT, tKdIn, iKdIx, atI_0, atI_1, atI_2, atI_3, ixN_4_0, ixN_4_1, ixN_4_2, ixN_4_3, Sto.put_same, Sto.put_put, toNat_2, List.map, List.replicate, List.length_cons, List.length_nil, List.getElem?_cons_zero, List.getElem?_cons_succ, List.getElem?_nil, List.set_cons_zero, List.set_cons_succ, List.set_nil, List.cons_append, List.nil_append, List.append_nil, if_true, if_false, Call.w, kC_BY_NUMBER]
      exact ⟨trivial, rfl, ifF (by decide) h⟩
    · simp only [bodyI, start0, sSeq, sNext, sNever, sCont, sBreak, sDrop, sRet, sRetN, sRet0, sRetO, sIf, sSet, sSetN, sSetP, sPar, sParEN, sParNE, sPar3, sAsg, gNm, gsNil, gsCons, gTp, sAugI, sIxO, sIxS, sAugS, stoL, setW, iVar, iC, iNil, iCons, iTup, iLst, nLst, iFz, iB, gAdd, gI, gIC, gSub, gMul, gDiv, gMod, gPow, gLt, gLe, gGt, gGe, gEq, gNe, gIn, gIsN, isN, iNeg, tTru', gTru, tBl, iChain, tAnd', tOr', tNot', tYes', iIf, iAnd, iOr, iNot, iIx, gIx, atW, iIxO, ownL, oNone, oSome, iSl, gSl, iRevL, iCall, nCall, iFn, Sh.R.fz, SO.fz, Stt.put, Stt.puts, iMtO, gAppend, gInsert, gExtend, gLen, iLenO, gAbs, gInt, gMinMax, gList, gTuple, iListRg, gIsi, tyN, gRepr, flatW, eqW, okD, eqOk, cut_13, cut_1_2, cut_1_3, cut_m2, cut_m3, cut_m4, atI_m2, atI_m3, atI_m4, iOfT, tKdIn, iKdIx, atI_0, atI_1, atI_2, atI_3, ixN_4_0, ixN_4_1, ixN_4_2, ixN_4_3, Sto.put_same, Sto.put_put, toNat_2, List.map, List.replicate, List.length_cons, List.length_nil, List.getElem?_cons_zero, List.getElem?_cons_succ, List.getElem?_nil, List.set_cons_zero, List.set_cons_succ, List.set_nil, List.cons_append, List.nil_append, List.append_nil, if_true, if_false, Call.w]
      exact ifT (by decide) (by rw [show kT_OPEN_CALLS.lookup (Str.ofString "halve") = some (.str "pair") from rfl]; exact q)
  | pair =>
    refine seq_same (fun nx h => ?_) ?_
    · simp only [bodyI, start0, sSeq, sNext, sNever, sCont, sBreak, sDrop, sRet, sRetN, sRet0, sRetO, sIf, sSet, sSetN, sSetP, sPar, sParEN, sParNE, sPar3, sAsg, gNm, gsNil, gsCons, gTp, sAugI, sIxO, sIxS, sAugS, stoL, setW, iVar, iC, iNil, iCons, iTup, iLst, nLst, iFz, iB, gAdd, gI, gIC, gSub, gMul, gDiv, gMod, gPow, gLt, gLe, gGt, gGe, gEq, gNe, gIn, gIsN, isN, iNeg, tTru', gTru, tBl, iChain, tAnd', tOr', tNot', tYes', iIf, iAnd, iOr, iNot, iIx, gIx, atW, iIxO, ownL, oNone, oSome, iSl, gSl, iRevL, iCall, nCall, iFn, Sh.R.fz, SO.fz, Stt.put, Stt.puts, iMtO, gAppend, gInsert, gExtend, gLen, iLenO, gAbs, gInt, gMinMax, gList, gTuple, iListRg, gIsi, tyN, gRepr, flatW, eqW, okD, eqOk, cut_13, cut_1_2, cut_1_3, cut_m2, cut_m3, cut_m4, atI_m2, atI_m3, atI_m4, iOfT, tKdIn, iKdIx, atI_0, atI_1, atI_2, atI_3, ixN_4_0, ixN_4_1, ixN_4_2, ixN_4_3, Sto.put_same, Sto.put_put, toNat_2, List.map, List.replicate, List.length_cons, List.length_nil, List.getElem?_cons_zero, List.getElem?_cons_succ, List.getElem?_nil, List.set_cons_zero, List.set_cons_succ, List.set_nil, List.cons_append, List.nil_append, List.append_nil, if_true, if_false, Call.w, kC_BY_NUMBER]
      exact ⟨trivial, rfl, ifF (by decide) h⟩
    · simp only [bodyI, start0, sSeq, sNext, sNever, sCont, sBreak, sDrop, sRet, sRetN, sRet0, sRetO, sIf, sSet, sSetN, sSetP, sPar, sParEN, sParNE, sPar3, sAsg, gNm, gsNil, gsCons, gTp, sAugI, sIxO, sIxS, sAugS, stoL, setW, iVar, iC, iNil, iCons, iTup, iLst, nLst, iFz, iB, gAdd, gI, gIC, gSub, gMul, gDiv, gMod, gPow, gLt, gLe, gGt, gGe, gEq, gNe, gIn, gIsN, isN, iNeg, tTru', gTru, tBl, iChain, tAnd', tOr', tNot', tYes', iIf, iAnd, iOr, iNot, iIx, gIx, atW, iIxO, ownL, oNone, oSome, iSl, gSl, iRevL, iCall, nCall, iFn, Sh.R.fz, SO.fz, Stt.put, Stt.puts, iMtO, gAppend, gInsert, gExtend, gLen, iLenO, gAbs, gInt, gMinMax, gList, gTuple, iListRg, gIsi, tyN, gRepr, flatW, eqW, okD, eqOk, cut_13, cut_1_2, cut_1_3, cut_m2, cut_m3, cut_m4, atI_m2, atI_m3, atI_m4, iOfT, tKdIn, iKdIx, atI_0, atI_1, atI_2, atI_3, ixN_4_0, ixN_4_1, ixN_4_2, ixN_4_3, Sto.put_same, Sto.put_put, toNat_2, List.map, List.replicate, List.length_cons, List.length_nil, List.getElem?_cons_zero, List.getElem?_cons_succ, List.getElem?_nil, List.set_cons_zero, List.set_cons_succ, List.set_nil, List.cons_append, List.nil_append, List.append_nil, if_true, if_false, Call.w]
      exact ifT (by decide) (by rw [show kT_OPEN_CALLS.lookup (Str.ofString "pair") = some (.str "halve") from rfl]; exact q)
  | others =>
    refine seq_same (fun nx h => ?_) ?_
    · simp only [bodyI, start0, sSeq, sNext, sNever, sCont, sBreak, sDrop, sRet, sRetN, sRet0, sRetO, sIf, sSet, sSetN, sSetP, sPar, sParEN, sParNE, sPar3, sAsg, gNm, gsNil, gsCons, gTp, sAugI, sIxO, sIxS, sAugS, stoL, setW, iVar, iC, iNil, iCons, iTup, iLst, nLst, iFz, iB, gAdd, gI, gIC, gSub, gMul, gDiv, gMod, gPow, gLt, gLe, gGt, gGe, gEq, gNe, gIn, gIsN, isN, iNeg, tTru', gTru, tBl, iChain, tAnd', tOr', tNot', tYes', iIf, iAnd, iOr, iNot, iIx, gIx, atW, iIxO, ownL, oNone, oSome, iSl, gSl, iRevL, iCall, nCall, iFn, Sh.R.fz, SO.fz, Stt.put, Stt.puts, iMtO, gAppend, gInsert, gExtend, gLen, iLenO, gAbs, gInt, gMinMax, gList, gTuple, iListRg, gIsi, tyN, gRepr, flatW, eqW, okD, eqOk, cut_13, cut_1_2, cut_1_3, cut_m2, cut_m3, cut_m4, atI_m2, atI_m3, atI_m4, iOfT, tKdIn, iKdIx, atI_0, atI_1, atI_2, atI_3, ixN_4_0, ixN_4_1, ixN_4_2, ixN_4_3, Sto.put_same, Sto.put_put, toNat_2, List.map, List.replicate, List.length_cons, List.length_nil, List.getElem?_cons_zero, List.getElem?_cons_succ, List.getElem?_nil, List.set_cons_zero, List.set_cons_succ, List.set_nil, List.cons_append, List.nil_append, List.append_nil, if_true, if_false, Call.w, kC_BY_NUMBER]
      exact ⟨trivial, rfl, ifF (by decide) h⟩
    · simp only [bodyI, start0, sSeq, sNext, sNever, sCont, sBreak, sDrop, sRet, sRetN, sRet0, sRetO, sIf, sSet, sSetN, sSetP, sPar, sParEN, sParNE, sPar3, sAsg, gNm, gsNil, gsCons, gTp, sAugI, sIxO, sIxS, sAugS, stoL, setW, iVar, iC, iNil, iCons, iTup, iLst, nLst, iFz, iB, gAdd, gI, gIC, gSub, gMul, gDiv, gMod, gPow, gLt, gLe, gGt, gGe, gEq, gNe, gIn, gIsN, isN, iNeg, tTru', gTru, tBl, iChain, tAnd', tOr', tNot', tYes', iIf, iAnd, iOr, iNot, iIx, gIx, atW, iIxO, ownL, oNone, oSome, iSl, gSl, iRevL, iCall, nCall, iFn, Sh.R.fz, SO.fz, Stt.put, Stt.puts, iMtO, gAppend, gInsert, gExtend, gLen, iLenO, gAbs, gInt, gMinMax, gList, gTuple, iListRg, gIsi, tyN, gRepr, flatW, eqW, okD, eqOk, cut_13, cut_1_2, cut_1_3, cut_m2, cut_m3, cut_m4, atI_m2, atI_m3, atI_m4, iOfT, tKdIn, iKdIx, atI_0, atI_1, atI_2, atI_3, ixN_4_0, ixN_4_1, ixN_4_2, ixN_4_3, Sto.put_same, Sto.put_put, toNat_2, List.map, List.replicate, List.length_cons, List.length_nil, List.getElem?_cons_zero, List.getElem?_cons_succ, List.getElem?_nil, List.set_cons_zero, List.set_cons_succ, List.set_nil, List.cons_append, List.nil_append, List.append_nil, if_true, if_false, Call.w]
      exact ifT (by decide) (by rw [show kT_OPEN_CALLS.lookup (Str.ofString "others") = some (.str "fill") from rfl]; exact q)
  | fill =>
    refine seq_same (fun nx h => ?_) ?_
    · simp only [bodyI, start0, sSeq, sNext, sNever, sCont, sBreak, sDrop, sRet, sRetN, sRet0, sRetO, sIf, sSet, sSetN, sSetP, sPar, sParEN, sParNE, sPar3, sAsg, gNm, gsNil, gsCons, gTp, sAugI, sIxO, sIxS, sAugS, stoL, setW, iVar, iC, iNil, iCons, iTup, iLst, nLst, iFz, iB, gAdd, gI, gIC, gSub, gMul, gDiv, gMod, gPow, gLt, gLe, gGt, gGe, gEq, gNe, gIn, gIsN, isN, iNeg, tTru', gTru, tBl, iChain, tAnd', tOr', tNot', tYes', iIf, iAnd, iOr, iNot, iIx, gIx, atW, iIxO, ownL, oNone, oSome, iSl, gSl, iRevL, iCall, nCall, iFn, Sh.R.fz, SO.fz, Stt.put, Stt.puts, iMtO, gAppend, gInsert, gExtend, gLen, iLenO, gAbs, gInt, gMinMax, gList, gTuple, iListRg, gIsi, tyN, gRepr, flatW, eqW, okD, eqOk, cut_13, cut_1_2, cut_1_3, cut_m2, cut_m3, cut_m4, atI_m2, atI_m3, atI_m4, iOfT, tKdIn, iKdIx, atI_0, atI_1, atI_2, atI_3, ixN_4_0, ixN_4_1, ixN_4_2, ixN_4_3, Sto.put_same, Sto.put_put, toNat_2, List.map, List.replicate, List.length_cons, List.length_nil, List.getElem?_cons_zero, List.getElem?_cons_succ, List.getElem?_nil, List.set_cons_zero, List.set_cons_succ, List.set_nil, List.cons_append, List.nil_append, List.append_nil, if_true, if_false, Call.w, kC_BY_NUMBER]
      exact ⟨trivial, rfl, ifF (by decide) h⟩
    · simp only [bodyI, start0, sSeq, sNext, sNever, sCont, sBreak, sDrop, sRet, sRetN, sRet0, sRetO, sIf, sSet, sSetN, sSetP, sPar, sParEN, sParNE, sPar3, sAsg, gNm, gsNil, gsCons, gTp, sAugI, sIxO, sIxS, sAugS, stoL, setW, iVar, iC, iNil, iCons, iTup, iLst, nLst, iFz, iB, gAdd, gI, gIC, gSub, gMul, gDiv, gMod, gPow, gLt, gLe, gGt, gGe, gEq, gNe, gIn, gIsN, isN, iNeg, tTru', gTru, tBl, iChain, tAnd', tOr', tNot', tYes', iIf, iAnd, iOr, iNot, iIx, gIx, atW, iIxO, ownL, oNone, oSome, iSl, gSl, iRevL, iCall, nCall, iFn, Sh.R.fz, SO.fz, Stt.put, Stt.puts, iMtO, gAppend, gInsert, gExtend, gLen, iLenO, gAbs, gInt, gMinMax, gList, gTuple, iListRg, gIsi, tyN, gRepr, flatW, eqW, okD, eqOk, cut_13, cut_1_2, cut_1_3, cut_m2, cut_m3, cut_m4, atI_m2, atI_m3, atI_m4, iOfT, tKdIn, iKdIx, atI_0, atI_1, atI_2, atI_3, ixN_4_0, ixN_4_1, ixN_4_2, ixN_4_3, Sto.put_same, Sto.put_put, toNat_2, List.map, List.replicate, List.length_cons, List.length_nil, List.getElem?_cons_zero, List.getElem?_cons_succ, List.getElem?_nil, List.set_cons_zero, List.set_cons_succ, List.set_nil, List.cons_append, List.nil_append, List.append_nil, if_true, if_false, Call.w]
      exact ifT (by decide) (by rw [show kT_OPEN_CALLS.lookup (Str.ofString "fill") = some (.str "others") from rfl]; exact q)
def ib_p_is_straight : IS := (sRet (iOfT (tKdIn true kT_OPEN_CALLS (iIx (iVar 0) (iC (.int 0))))))
def sp_p_is_straight : ISp := fun ws S Q E => ∃ c : Call, ws = [c.w] ∧ Q (.val (.bl (!c.opn))) S
theorem ok_p_is_straight (ws : List W) (S : Sto) (Q : R → Sto → Prop) (E : Exn → Sto → Prop) (h : sp_p_is_straight ws S Q E) : bodyI 1 ib_p_is_straight ws S Q E := by
  obtain ⟨c, rfl, q⟩ := h
  unfold ib_p_is_straight
  cases c <;> exact q
section
variable {F R : Int}
theorem ring_back {a k m : Int} (h0 : 0 ≤ a) (h1 : a < m) : ((a + k) % m + -k) % m = a := by
  have c : Cg m ((a + k) % m + -k) a := ((cg_mod m (a + k)).add (.refl (-k))).trans ⟨0, by grind⟩
  exact ((cg_mod m _).trans c).eq (Int.emod_nonneg _ (by omega)) (Int.emod_lt_of_pos _ (by omega)) h0 h1
theorem ring_back' {a k m : Int} (h0 : 0 ≤ a) (h1 : a < m) : ((a - k) % m - -k) % m = a := by
  have c : Cg m ((a - k) % m - -k) a := by
    have := (cg_mod m (a - k)).add (.refl k)
    rw [Int.sub_neg]
    exact this.trans ⟨0, by grind⟩
  exact ((cg_mod m _).trans c).eq (Int.emod_nonneg _ (by omega)) (Int.emod_lt_of_pos _ (by omega)) h0 h1
theorem num_in {r f : Int} (h : At F R (r, f)) : 0 ≤ r * F + f ∧ r * F + f < F * R := by
  obtain ⟨r0, r1, f0, f1⟩ := h
  simp only at r0 r1 f0 f1
  have a := Int.mul_nonneg r0 (show 0 ≤ F by omega)
  have b : r * F ≤ (R - 1) * F := Int.mul_le_mul_of_nonneg_right (by omega) (by omega)
  have e : (R - 1) * F = F * R - F := by grind
  omega
theorem at_swap {r f : Int} (h : At F R (r, f)) : At R F (f, r) := ⟨h.2.2.1, h.2.2.2, h.1, h.2.1⟩
theorem divmod_of {r f m : Int} (f0 : 0 ≤ f) (f1 : f < m) : (r * m + f) / m = r ∧ (r * m + f) % m = f := by
  constructor
  · rw [Int.add_comm, Int.add_mul_ediv_right _ _ (by omega), Int.ediv_eq_zero_of_lt f0 f1]; omega
  · rw [Int.add_comm, Int.add_mul_emod_self_right, Int.emod_eq_of_lt f0 f1]
theorem whl_seat {g h k s : Int} (hR : 0 < R) (hgh : g ≠ h) (s0 : 0 ≤ s) (s1 : s < 2 * R) : whl R g h k (if s < R then (R - 1 - s, g) else (s - R, h)) = (let t := (s + k) % (2 * R); if t < R then (R - 1 - t, g) else (t - R, h)) := by
  unfold whl
  by_cases z : s < R
  · rw [if_pos z]
    have e : (if (R - 1 - s, g).2 = g then R - 1 - (R - 1 - s, g).1 else R + (R - 1 - s, g).1) = s := by
      rw [if_pos rfl]
      show R - 1 - (R - 1 - s) = s
      omega
    rw [if_neg (fun y => y.1 rfl), e]
  · rw [if_neg z]
    have e : (if (s - R, h).2 = g then R - 1 - (s - R, h).1 else R + (s - R, h).1) = s := by
      rw [if_neg (show ¬ h = g from fun y => hgh y.symm)]
      show R + (s - R) = s
      omega
    rw [if_neg (fun y => y.2 rfl), e]
theorem whl_of {g h : Int} {p : Int × Int} (hR : 0 < R) (hgh : g ≠ h) (p0 : 0 ≤ p.1) (p1 : p.1 < R) (hp : ¬ (p.2 ≠ g ∧ p.2 ≠ h)) : ∃ s, 0 ≤ s ∧ s < 2 * R ∧ p = (if s < R then (R - 1 - s, g) else (s - R, h)) := by
  by_cases z : p.2 = g
  · refine ⟨R - 1 - p.1, by omega, by omega, ?_⟩
    rw [if_pos (by omega)]
    exact Prod.ext (by simp only; omega) z
  · refine ⟨R + p.1, by omega, by omega, ?_⟩
    rw [if_neg (by omega)]
    exact Prod.ext (by simp only; omega) (by simp only; omega)
theorem mv_in {c : Call} {p : Int × Int} (hF : 0 < F) (hR : 0 < R) (hc : c.ok F) (h : At F R p) : At F R (mv F R c p) := by
  obtain ⟨r, f⟩ := p
  have h' := h
  obtain ⟨r0, r1, f0, f1⟩ := h'
  simp only at r0 r1 f0 f1
  cases c with
  | all k => exact ⟨Int.emod_nonneg _ (by omega), Int.emod_lt_of_pos _ hR, f0, f1⟩
  | up g k =>
    show At F R (if f = g then ((r - k) % R, f) else (r, f))
    split
    · exact ⟨Int.emod_nonneg _ (by omega), Int.emod_lt_of_pos _ hR, f0, f1⟩
    · exact h
  | about =>
    refine ⟨?_, ?_, ?_, ?_⟩
    · show 0 ≤ R - 1 - r
      omega
    · show R - 1 - r < R
      omega
    · show 0 ≤ F - 1 - f
      omega
    · show F - 1 - f < F
      omega
  | wheel g h2 k =>
    obtain ⟨g0, g1, h0, h1, gh⟩ := hc
    show At F R (whl R g h2 k (r, f))
    unfold whl
    split
    · exact h
    · have s0 := Int.emod_nonneg ((if f = g then R - 1 - r else R + r) + k) (show (2 * R) ≠ 0 by omega)
      have s1 := Int.emod_lt_of_pos ((if f = g then R - 1 - r else R + r) + k) (show 0 < 2 * R by omega)
      simp only
      generalize ((if f = g then R - 1 - r else R + r) + k) % (2 * R) = s at *
      split
      · exact ⟨by simp only; omega, by simp only; omega, g0, g1⟩
      · exact ⟨by simp only; omega, by simp only; omega, h0, h1⟩
  | swap g h2 =>
    obtain ⟨g0, g1, h0, h1, gh⟩ := hc
    show At F R (if f ≠ g ∧ f ≠ h2 then (r, f) else (r, if f = g then h2 else g))
    split
    · exact h
    · split
      · exact ⟨r0, r1, h0, h1⟩
      · exact ⟨r0, r1, g0, g1⟩
  | front g h2 =>
    obtain ⟨g0, g1, h0, h1, gh⟩ := hc
    show At F R (if (f ≠ g ∧ f ≠ h2) ∨ 0 < r then (r, f) else (r, if f = g then h2 else g))
    split
    · exact h
    · split
      · exact ⟨r0, r1, h0, h1⟩
      · exact ⟨r0, r1, g0, g1⟩
  | halve =>
    obtain ⟨n0, n1⟩ := num_in h
    exact ⟨Int.emod_nonneg _ (by omega), Int.emod_lt_of_pos _ hR, Int.ediv_nonneg n0 (by omega), Int.ediv_lt_of_lt_mul hR n1⟩
  | pair =>
    obtain ⟨n0, n1⟩ := num_in (at_swap h)
    exact ⟨Int.ediv_nonneg n0 (by omega), Int.ediv_lt_of_lt_mul hF n1, Int.emod_nonneg _ (by omega), Int.emod_lt_of_pos _ hF⟩
  | others =>
    show At F R (if r % 2 = 0 then (r / 2, f) else ((R + 1) / 2 + r / 2, f))
    split
    · exact ⟨by simp only; omega, by simp only; omega, f0, f1⟩
    · exact ⟨by simp only; omega, by simp only; omega, f0, f1⟩
  | fill =>
    show At F R (if r < (R + 1) / 2 then (2 * r, f) else (2 * (r - (R + 1) / 2) + 1, f))
    split
    · exact ⟨by simp only; omega, by simp only; omega, f0, f1⟩
    · exact ⟨by simp only; omega, by simp only; omega, f0, f1⟩
theorem Call.tn_ok {c : Call} (h : c.ok F) : c.tn.ok F := by cases c <;> exact h
theorem mv_tn {c : Call} {p : Int × Int} (hF : 0 < F) (hR : 0 < R) (hc : c.ok F) (h : At F R p) : mv F R c.tn (mv F R c p) = p := by
  obtain ⟨r, f⟩ := p
  have h' := h
  obtain ⟨r0, r1, f0, f1⟩ := h'
  simp only at r0 r1 f0 f1
  cases c with
  | all k => exact Prod.ext (ring_back' r0 r1) rfl
  | up g k =>
    show mv F R (.up g (-k)) (if f = g then ((r - k) % R, f) else (r, f)) = (r, f)
    by_cases z : f = g
    · rw [if_pos z]
      show (if f = g then (((r - k) % R - -k) % R, f) else ((r - k) % R, f)) = (r, f)
      rw [if_pos z, ring_back' r0 r1]
    · rw [if_neg z]
      exact if_neg z
  | about =>
    refine Prod.ext ?_ ?_
    · show R - 1 - (R - 1 - r) = r
      omega
    · show F - 1 - (F - 1 - f) = f
      omega
  | wheel g h2 k =>
    obtain ⟨g0, g1, h0, h1, gh⟩ := hc
    show whl R g h2 (-k) (whl R g h2 k (r, f)) = (r, f)
    by_cases z : f ≠ g ∧ f ≠ h2
    · rw [show whl R g h2 k (r, f) = (r, f) from if_pos z]
      exact if_pos z
    · obtain ⟨s, s0, s1, e⟩ := whl_of (p := (r, f)) hR gh r0 r1 z
      rw [e, whl_seat hR gh s0 s1]
      simp only
      rw [whl_seat hR gh (Int.emod_nonneg _ (by omega)) (Int.emod_lt_of_pos _ (by omega)), ring_back s0 s1]
  | swap g h2 =>
    obtain ⟨g0, g1, h0, h1, gh⟩ := hc
    show mv F R (.swap g h2) (if f ≠ g ∧ f ≠ h2 then (r, f) else (r, if f = g then h2 else g)) = (r, f)
    by_cases z : f ≠ g ∧ f ≠ h2
    · rw [if_pos z]
      exact if_pos z
    · rw [if_neg z]
      by_cases y : f = g
      · rw [if_pos y]
        show (if h2 ≠ g ∧ h2 ≠ h2 then (r, h2) else (r, if h2 = g then h2 else g)) = (r, f)
        rw [if_neg (by omega), if_neg (fun e => gh e.symm), y]
      · rw [if_neg y]
        show (if g ≠ g ∧ g ≠ h2 then (r, g) else (r, if g = g then h2 else g)) = (r, f)
        rw [if_neg (by omega), if_pos rfl]
        exact Prod.ext rfl (by simp only; omega)
  | front g h2 =>
    obtain ⟨g0, g1, h0, h1, gh⟩ := hc
    show mv F R (.front g h2) (if (f ≠ g ∧ f ≠ h2) ∨ 0 < r then (r, f) else (r, if f = g then h2 else g)) = (r, f)
    by_cases z : (f ≠ g ∧ f ≠ h2) ∨ 0 < r
    · rw [if_pos z]
      exact if_pos z
    · rw [if_neg z]
      by_cases y : f = g
      · rw [if_pos y]
        show (if (h2 ≠ g ∧ h2 ≠ h2) ∨ 0 < r then (r, h2) else (r, if h2 = g then h2 else g)) = (r, f)
        rw [if_neg (by omega), if_neg (fun e => gh e.symm), y]
      · rw [if_neg y]
        show (if (g ≠ g ∧ g ≠ h2) ∨ 0 < r then (r, g) else (r, if g = g then h2 else g)) = (r, f)
        rw [if_neg (by omega), if_pos rfl]
        exact Prod.ext rfl (by simp only; omega)
  | halve =>
    have e := Int.mul_ediv_add_emod (r * F + f) R
    show (((r * F + f) / R * R + (r * F + f) % R) / F, ((r * F + f) / R * R + (r * F + f) % R) % F) = (r, f)
    rw [Int.mul_comm, e, (divmod_of f0 f1).1, (divmod_of f0 f1).2]
  | pair =>
    have e := Int.mul_ediv_add_emod (f * R + r) F
    show (((f * R + r) / F * F + (f * R + r) % F) % R, ((f * R + r) / F * F + (f * R + r) % F) / R) = (r, f)
    rw [Int.mul_comm, e, (divmod_of r0 r1).1, (divmod_of r0 r1).2]
  | others =>
    show mv F R .fill (if r % 2 = 0 then (r / 2, f) else ((R + 1) / 2 + r / 2, f)) = (r, f)
    by_cases z : r % 2 = 0
    · rw [if_pos z]
      show (if r / 2 < (R + 1) / 2 then (2 * (r / 2), f) else (2 * (r / 2 - (R + 1) / 2) + 1, f)) = (r, f)
      rw [if_pos (by omega)]
      exact Prod.ext (by simp only; omega) rfl
    · rw [if_neg z]
      show (if (R + 1) / 2 + r / 2 < (R + 1) / 2 then (2 * ((R + 1) / 2 + r / 2), f) else (2 * ((R + 1) / 2 + r / 2 - (R + 1) / 2) + 1, f)) = (r, f)
      rw [if_neg (by omega)]
      exact Prod.ext (by simp only; omega) rfl
  | fill =>
    show mv F R .others (if r < (R + 1) / 2 then (2 * r, f) else (2 * (r - (R + 1) / 2) + 1, f)) = (r, f)
    by_cases z : r < (R + 1) / 2
    · rw [if_pos z]
      show (if 2 * r % 2 = 0 then (2 * r / 2, f) else ((R + 1) / 2 + 2 * r / 2, f)) = (r, f)
      rw [if_pos (by omega)]
      exact Prod.ext (by simp only; omega) rfl
    · rw [if_neg z]
      show (if (2 * (r - (R + 1) / 2) + 1) % 2 = 0 then ((2 * (r - (R + 1) / 2) + 1) / 2, f) else ((R + 1) / 2 + (2 * (r - (R + 1) / 2) + 1) / 2, f)) = (r, f)
      rw [if_neg (by omega)]
      exact Prod.ext (by simp only; omega) rfl
theorem mv_tn' {c : Call} {p : Int × Int} (hF : 0 < F) (hR : 0 < R) (hc : c.ok F) (h : At F R p) : mv F R c (mv F R c.tn p) = p := by
  have := mv_tn (c := c.tn) hF hR (Call.tn_ok hc) h
  rw [Call.tn_tn] at this
  exact this
end
end Sh
namespace Sh
open PySem L2
open PyProof.Rows hiding St
def Bg (S : Sto) (a : Addr) : Prop := ∃ o, S a = some o ∧ IsBag o
structure Bx (a : Addr) (S S' : Sto) : Prop where
  bg : Bg S' a
  fr : ∀ b, b ≠ a → S' b = S b
theorem Bx.refl {a : Addr} {S : Sto} (h : Bg S a) : Bx a S S := ⟨h, fun _ _ => rfl⟩
theorem Bx.trans {a : Addr} {S S1 S2 : Sto} (h : Bx a S S1) (k : Bx a S1 S2) : Bx a S S2 := ⟨k.bg, fun b n => (k.fr b n).trans (h.fr b n)⟩
theorem Bx.put {a : Addr} {S : Sto} {o : SO} (h : IsBag o) : Bx a S (S.put a o) := ⟨⟨o, Sto.put_same, h⟩, fun _ n => Sto.put_ne n⟩
theorem bd_of {n : Int} (h0 : -1000000000000 ≤ n) (h1 : n ≤ 1000000000000) : Bd n := by unfold Bd lim; omega
section
variable {a : Addr} {S : Sto} {Q : R → Sto → Prop} {E : Exn → Sto → Prop}
theorem cl_take {n : Int} (hn : 0 < n) (bn : Bd n) (hb : Bg S a) (k : ∀ r S', 0 ≤ r → r < n → Bx a S S' → Q (.val (.int r)) S') : sp_l_take [.ref a, .int n] S Q E := by
  obtain ⟨o, ho, hb⟩ := hb
  exact ⟨a, n, o, rfl, hn, bn, ho, hb, fun r o' r0 r1 hb' => k r _ r0 r1 (.put hb')⟩
theorem cl_one {xs : List W} (hx : xs ≠ []) (hl : xs.length < 1000000000) (hb : Bg S a) (k : ∀ x S', x ∈ xs → Bx a S S' → Q (.val x) S') : sp_l_one [.ref a, .lst xs] S Q E := by
  obtain ⟨o, ho, hb⟩ := hb
  exact ⟨a, xs, o, rfl, hx, hl, ho, hb, fun x o' hx' hb' => k x _ hx' (.put hb')⟩
end
def ib_l_number : IS := (sSeq (sSet 2 (iB gAdd (iC (.int 1)) (iCall sp_l_take (iCons (iVar 0) (iCons (iIx (iLst (iCons (iC (.int 2)) (iCons (iC (.int 4)) (iCons (iC (.int 4)) (iCons (iVar 1) iNil))))) (iCall sp_l_take (iCons (iVar 0) (iCons (iC (.int 4)) iNil)))) iNil)))))
  (sRet (iIf (tBl (iB gEq (iCall sp_l_take (iCons (iVar 0) (iCons (iC (.int 2)) iNil))) (iC (.int 0)))) (iVar 2) (iNeg (iVar 2)))))
def ib_l_mixed_1 : IS := (sDrop (iMtO 2 gInsert (iCons (iCall sp_l_take (iCons (iVar 0) (iCons (iB gAdd (iLenO 2) (iC (.int 1))) iNil))) (iCons (iVar 3) iNil))))
def ib_l_mixed : IS := (sSeq (sSetN 2 (nLst iNil))
  (sSeq (sFor (lSeq (iVar 1)) (gNm 3) ib_l_mixed_1)
  (sRetO 2)))
def ib_l_all_kinds : IS := (sRet (iLst (iCons (iC (.str "all")) (iCons (iC (.str "up")) (iCons (iC (.str "swap")) (iCons (iC (.str "wheel")) (iCons (iC (.str "about")) (iCons (iC (.str "front")) (iCons (iC (.str "halve")) (iCons (iC (.str "pair")) (iCons (iC (.str "others")) (iCons (iC (.str "fill")) iNil))))))))))))
def sp_l_number : ISp := fun ws S Q E => ∃ (a : Addr) (m : Int), ws = [.ref a, .int m] ∧ 0 < m ∧ Bd m ∧ Bg S a ∧ ∀ r S', r ≠ 0 → -(m + 4) ≤ r → r ≤ m + 4 → Bx a S S' → Q (.val (.int r)) S'
theorem ok_l_number (ws : List W) (S : Sto) (Q : R → Sto → Prop) (E : Exn → Sto → Prop) (h : sp_l_number ws S Q E) : bodyI 3 ib_l_number ws S Q E := by
  obtain ⟨a, m, rfl, hm, bm, hb, q⟩ := h
  unfold ib_l_number
  refine seq_go fun nx e => ?_
  simp (decide := true) only [bodyI, start0, sSeq, sNext, sNever, sCont, sBreak, sDrop, sRet, sRetN, sRet0, sRetO, sIf, sSet, sSetN, sSetP, sPar, sParEN, sParNE, sPar3, sAsg, gNm, gsNil, gsCons, gTp, sAugI, sIxO, sIxS, sAugS, stoL, setW, iVar, iC, iNil, iCons, iTup, iLst, nLst, iFz, iB, gAdd, gI, gIC, gSub, gMul, gDiv, gMod, gPow, gLt, gLe, gGt, gGe, gEq, gNe, gIn, gIsN, isN, iNeg, tTru', gTru, tBl, iChain, tAnd', tOr', tNot', tYes', iIf, iAnd, iOr, iNot, iIx, gIx, atW, iIxO, ownL, oNone, oSome, iSl, gSl, iRevL, iCall, nCall, iFn, Stt.put, Stt.puts, iMtO, gAppend, gInsert, gExtend, gLen, iLenO, gAbs, gInt, gMinMax, gList, gTuple, iListRg, gIsi, tyN, gRepr, cut_13, cut_1_2, cut_1_3, cut_m2, cut_m3, cut_m4, atI_m2, atI_m3, atI_m4, iOfT, tKdIn, iKdIx, atI_0, atI_1, atI_2, atI_3, ixN_4_0, ixN_4_1, ixN_4_2, ixN_4_3, Sto.put_same, Sto.put_put, toNat_2, List.map, List.replicate, List.length_cons, List.length_nil, List.getElem?_cons_zero, List.getElem?_cons_succ, List.getElem?_nil, List.set_cons_zero, List.set_cons_succ, List.set_nil, List.cons_append, List.nil_append, List.append_nil, if_true, if_false, fz_val, fz_new, so_lst, so_dct, so_ins, eqW_ii, eqW_ss, eqW_tt, eqW_ll, eqW_nn, eqW_bb, eqW_ni, eqW_in, eqW_nt, eqW_tn, eqW_nl, eqW_ln, eqW_is, eqW_si, eqWs_nil, eqWs_cons, eqWs_nc, eqWs_cn, okD_int, okD_str, okD_bl, okD_non, okD_tup, okD_lst, eqOk_ii, eqOk_ss, eqOk_nn, eqOk_bb, eqOk_in, eqOk_ni, eqOk_tt, eqOk_ll, flatW_int, flatW_str, flatW_bl, flatW_non, inW, List.any_cons, List.any_nil, List.all_cons, List.all_nil, Bool.or_false, Bool.or_true, Bool.true_or, Bool.false_or, Bool.and_true, Bool.true_and, Bool.and_false, Bool.false_and, Bool.not_true, Bool.not_false, Bool.false_eq_true, true_and, and_true, beq_self_eq_true, List.isEmpty_cons, List.isEmpty_nil, Int.reduceNeg, eq_self, forall_const]
  refine cl_take (by omega) (bd_of (by omega) (by omega)) hb fun i S1 i0 i1 b1 => ?_
  have hi : i = 0 ∨ i = 1 ∨ i = 2 ∨ i = 3 := by omega
  rcases hi with rfl | rfl | rfl | rfl
  all_goals
    simp (decide := true) only [bodyI, start0, sSeq, sNext, sNever, sCont, sBreak, sDrop, sRet, sRetN, sRet0, sRetO, sIf, sSet, sSetN, sSetP, sPar, sParEN, sParNE, sPar3, sAsg, gNm, gsNil, gsCons, gTp, sAugI, sIxO, sIxS, sAugS, stoL, setW, iVar, iC, iNil, iCons, iTup, iLst, nLst, iFz, iB, gAdd, gI, gIC, gSub, gMul, gDiv, gMod, gPow, gLt, gLe, gGt, gGe, gEq, gNe, gIn, gIsN, isN, iNeg, tTru', gTru, tBl, iChain, tAnd', tOr', tNot', tYes', iIf, iAnd, iOr, iNot, iIx, gIx, atW, iIxO, ownL, oNone, oSome, iSl, gSl, iRevL, iCall, nCall, iFn, Stt.put, Stt.puts, iMtO, gAppend, gInsert, gExtend, gLen, iLenO, gAbs, gInt, gMinMax, gList, gTuple, iListRg, gIsi, tyN, gRepr, cut_13, cut_1_2, cut_1_3, cut_m2, cut_m3, cut_m4, atI_m2, atI_m3, atI_m4, iOfT, tKdIn, iKdIx, atI_0, atI_1, atI_2, atI_3, ixN_4_0, ixN_4_1, ixN_4_2, ixN_4_3, Sto.put_same, Sto.put_put, toNat_2, List.map, List.replicate, List.length_cons, List.length_nil, List.getElem?_cons_zero, List.getElem?_cons_succ, List.getElem?_nil, List.set_cons_zero, List.set_cons_succ, List.set_nil, List.cons_append, List.nil_append, List.append_nil, if_true, if_false, fz_val, fz_new, so_lst, so_dct, so_ins, eqW_ii, eqW_ss, eqW_tt, eqW_ll, eqW_nn, eqW_bb, eqW_ni, eqW_in, eqW_nt, eqW_tn, eqW_nl, eqW_ln, eqW_is, eqW_si, eqWs_nil, eqWs_cons, eqWs_nc, eqWs_cn, okD_int, okD_str, okD_bl, okD_non, okD_tup, okD_lst, eqOk_ii, eqOk_ss, eqOk_nn, eqOk_bb, eqOk_in, eqOk_ni, eqOk_tt, eqOk_ll, flatW_int, flatW_str, flatW_bl, flatW_non, inW, List.any_cons, List.any_nil, List.all_cons, List.all_nil, Bool.or_false, Bool.or_true, Bool.true_or, Bool.false_or, Bool.and_true, Bool.true_and, Bool.and_false, Bool.false_and, Bool.not_true, Bool.not_false, Bool.false_eq_true, true_and, and_true, beq_self_eq_true, List.isEmpty_cons, List.isEmpty_nil, Int.reduceNeg, eq_self, forall_const]
    refine cl_take (by omega) (by first | exact bm | exact bd_of (by omega) (by omega)) b1.bg fun r S2 r0 r1 b2 => ?_
    subst e
    simp (decide := true) only [bodyI, start0, sSeq, sNext, sNever, sCont, sBreak, sDrop, sRet, sRetN, sRet0, sRetO, sIf, sSet, sSetN, sSetP, sPar, sParEN, sParNE, sPar3, sAsg, gNm, gsNil, gsCons, gTp, sAugI, sIxO, sIxS, sAugS, stoL, setW, iVar, iC, iNil, iCons, iTup, iLst, nLst, iFz, iB, gAdd, gI, gIC, gSub, gMul, gDiv, gMod, gPow, gLt, gLe, gGt, gGe, gEq, gNe, gIn, gIsN, isN, iNeg, tTru', gTru, tBl, iChain, tAnd', tOr', tNot', tYes', iIf, iAnd, iOr, iNot, iIx, gIx, atW, iIxO, ownL, oNone, oSome, iSl, gSl, iRevL, iCall, nCall, iFn, Stt.put, Stt.puts, iMtO, gAppend, gInsert, gExtend, gLen, iLenO, gAbs, gInt, gMinMax, gList, gTuple, iListRg, gIsi, tyN, gRepr, cut_13, cut_1_2, cut_1_3, cut_m2, cut_m3, cut_m4, atI_m2, atI_m3, atI_m4, iOfT, tKdIn, iKdIx, atI_0, atI_1, atI_2, atI_3, ixN_4_0, ixN_4_1, ixN_4_2, ixN_4_3, Sto.put_same, Sto.put_put, toNat_2, List.map, List.replicate, List.length_cons, List.length_nil, List.getElem?_cons_zero, List.getElem?_cons_succ, List.getElem?_nil, List.set_cons_zero, List.set_cons_succ, List.set_nil, List.cons_append, List.nil_append, List.append_nil, if_true, if_false, fz_val, fz_new, so_lst, so_dct, so_ins, eqW_ii, eqW_ss, eqW_tt, eqW_ll, eqW_nn, eqW_bb, eqW_ni, eqW_in, eqW_nt, eqW_tn, eqW_nl, eqW_ln, eqW_is, eqW_si, eqWs_nil, eqWs_cons, eqWs_nc, eqWs_cn, okD_int, okD_str, okD_bl, okD_non, okD_tup, okD_lst, eqOk_ii, eqOk_ss, eqOk_nn, eqOk_bb, eqOk_in, eqOk_ni, eqOk_tt, eqOk_ll, flatW_int, flatW_str, flatW_bl, flatW_non, inW, List.any_cons, List.any_nil, List.all_cons, List.all_nil, Bool.or_false, Bool.or_true, Bool.true_or, Bool.false_or, Bool.and_true, Bool.true_and, Bool.and_false, Bool.false_and, Bool.not_true, Bool.not_false, Bool.false_eq_true, true_and, and_true, beq_self_eq_true, List.isEmpty_cons, List.isEmpty_nil, Int.reduceNeg, eq_self, forall_const]
    refine cl_take (by omega) (bd_of (by omega) (by omega)) b2.bg fun j S3 j0 j1 b3 => ?_
    simp (decide := true) only [bodyI, start0, sSeq, sNext, sNever, sCont, sBreak, sDrop, sRet, sRetN, sRet0, sRetO, sIf, sSet, sSetN, sSetP, sPar, sParEN, sParNE, sPar3, sAsg, gNm, gsNil, gsCons, gTp, sAugI, sIxO, sIxS, sAugS, stoL, setW, iVar, iC, iNil, iCons, iTup, iLst, nLst, iFz, iB, gAdd, gI, gIC, gSub, gMul, gDiv, gMod, gPow, gLt, gLe, gGt, gGe, gEq, gNe, gIn, gIsN, isN, iNeg, tTru', gTru, tBl, iChain, tAnd', tOr', tNot', tYes', iIf, iAnd, iOr, iNot, iIx, gIx, atW, iIxO, ownL, oNone, oSome, iSl, gSl, iRevL, iCall, nCall, iFn, Stt.put, Stt.puts, iMtO, gAppend, gInsert, gExtend, gLen, iLenO, gAbs, gInt, gMinMax, gList, gTuple, iListRg, gIsi, tyN, gRepr, cut_13, cut_1_2, cut_1_3, cut_m2, cut_m3, cut_m4, atI_m2, atI_m3, atI_m4, iOfT, tKdIn, iKdIx, atI_0, atI_1, atI_2, atI_3, ixN_4_0, ixN_4_1, ixN_4_2, ixN_4_3, Sto.put_same, Sto.put_put, toNat_2, List.map, List.replicate, List.length_cons, List.length_nil, List.getElem?_cons_zero, List.getElem?_cons_succ, List.getElem?_nil, List.set_cons_zero, List.set_cons_succ, List.set_nil, List.cons_append, List.nil_append, List.append_nil, if_true, if_false, fz_val, fz_new, so_lst, so_dct, so_ins, eqW_ii, eqW_ss, eqW_tt, eqW_ll, eqW_nn, eqW_bb, eqW_ni, eqW_in, eqW_nt, eqW_tn, eqW_nl, eqW_ln, eqW_is, eqW_si, eqWs_nil, eqWs_cons, eqWs_nc, eqWs_cn, okD_int, okD_str, okD_bl, okD_non, okD_tup, okD_lst, eqOk_ii, eqOk_ss, eqOk_nn, eqOk_bb, eqOk_in, eqOk_ni, eqOk_tt, eqOk_ll, flatW_int, flatW_str, flatW_bl, flatW_non, inW, List.any_cons, List.any_nil, List.all_cons, List.all_nil, Bool.or_false, Bool.or_true, Bool.true_or, Bool.false_or, Bool.and_true, Bool.true_and, Bool.and_false, Bool.false_and, Bool.not_true, Bool.not_false, Bool.false_eq_true, true_and, and_true, beq_self_eq_true, List.isEmpty_cons, List.isEmpty_nil, Int.reduceNeg, eq_self, forall_const]
    exact ifb (fun _ => q _ _ (by omega) (by omega) (by omega) ((b1.trans b2).trans b3)) (fun _ => q _ _ (by omega) (by omega) (by omega) ((b1.trans b2).trans b3))
def sp_l_mixed : ISp := fun ws S Q E => ∃ (a : Addr) (xs : List W), ws = [.ref a, .lst xs] ∧ xs.length < 1000000 ∧ Bg S a ∧ ∀ ys S', ys.Perm xs → Bx a S S' → Q (.new (.lst ys)) S'
theorem insert_perm {α : Type} (x : α) : ∀ (l : List α) (i : Nat), (l.take i ++ x :: l.drop i).Perm (x :: l) := fun l i => by
  have := List.perm_middle (a := x) (l₁ := l.take i) (l₂ := l.drop i)
  rw [List.take_append_drop] at this
  exact this
theorem ok_l_mixed (ws : List W) (S : Sto) (Q : R → Sto → Prop) (E : Exn → Sto → Prop) (h : sp_l_mixed ws S Q E) : bodyI 4 ib_l_mixed ws S Q E := by
  obtain ⟨a, xs, rfl, hl, hb, q⟩ := h
  unfold ib_l_mixed
  refine seq_go fun nx e => ?_
  simp (decide := true) only [bodyI, start0, sSeq, sNext, sNever, sCont, sBreak, sDrop, sRet, sRetN, sRet0, sRetO, sIf, sSet, sSetN, sSetP, sPar, sParEN, sParNE, sPar3, sAsg, gNm, gsNil, gsCons, gTp, sAugI, sIxO, sIxS, sAugS, stoL, setW, iVar, iC, iNil, iCons, iTup, iLst, nLst, iFz, iB, gAdd, gI, gIC, gSub, gMul, gDiv, gMod, gPow, gLt, gLe, gGt, gGe, gEq, gNe, gIn, gIsN, isN, iNeg, tTru', gTru, tBl, iChain, tAnd', tOr', tNot', tYes', iIf, iAnd, iOr, iNot, iIx, gIx, atW, iIxO, ownL, oNone, oSome, iSl, gSl, iRevL, iCall, nCall, iFn, Stt.put, Stt.puts, iMtO, gAppend, gInsert, gExtend, gLen, iLenO, gAbs, gInt, gMinMax, gList, gTuple, iListRg, gIsi, tyN, gRepr, cut_13, cut_1_2, cut_1_3, cut_m2, cut_m3, cut_m4, atI_m2, atI_m3, atI_m4, iOfT, tKdIn, iKdIx, atI_0, atI_1, atI_2, atI_3, ixN_4_0, ixN_4_1, ixN_4_2, ixN_4_3, Sto.put_same, Sto.put_put, toNat_2, List.map, List.replicate, List.length_cons, List.length_nil, List.getElem?_cons_zero, List.getElem?_cons_succ, List.getElem?_nil, List.set_cons_zero, List.set_cons_succ, List.set_nil, List.cons_append, List.nil_append, List.append_nil, if_true, if_false, fz_val, fz_new, so_lst, so_dct, so_ins, eqW_ii, eqW_ss, eqW_tt, eqW_ll, eqW_nn, eqW_bb, eqW_ni, eqW_in, eqW_nt, eqW_tn, eqW_nl, eqW_ln, eqW_is, eqW_si, eqWs_nil, eqWs_cons, eqWs_nc, eqWs_cn, okD_int, okD_str, okD_bl, okD_non, okD_tup, okD_lst, eqOk_ii, eqOk_ss, eqOk_nn, eqOk_bb, eqOk_in, eqOk_ni, eqOk_tt, eqOk_ll, flatW_int, flatW_str, flatW_bl, flatW_non, inW, List.any_cons, List.any_nil, List.all_cons, List.all_nil, Bool.or_false, Bool.or_true, Bool.true_or, Bool.false_or, Bool.and_true, Bool.true_and, Bool.and_false, Bool.false_and, Bool.not_true, Bool.not_false, Bool.false_eq_true, true_and, and_true, beq_self_eq_true, List.isEmpty_cons, List.isEmpty_nil, Int.reduceNeg, eq_self, forall_const]
  subst e
  refine seq_cut (fun st => ∃ (x3 : Slot) (ys : List W) (S' : Sto), ys.Perm xs ∧ Bx a S S' ∧ st = ⟨[.val (.ref a), .val (.lst xs), .own (.lst ys), x3], S'⟩) (fun nx h => ?_) (fun st ⟨x3, ys, S', hp, hb', es⟩ => ?_)
  · simp (decide := true) only [bodyI, start0, sSeq, sNext, sNever, sCont, sBreak, sDrop, sRet, sRetN, sRet0, sRetO, sIf, sSet, sSetN, sSetP, sPar, sParEN, sParNE, sPar3, sAsg, gNm, gsNil, gsCons, gTp, sAugI, sIxO, sIxS, sAugS, stoL, setW, iVar, iC, iNil, iCons, iTup, iLst, nLst, iFz, iB, gAdd, gI, gIC, gSub, gMul, gDiv, gMod, gPow, gLt, gLe, gGt, gGe, gEq, gNe, gIn, gIsN, isN, iNeg, tTru', gTru, tBl, iChain, tAnd', tOr', tNot', tYes', iIf, iAnd, iOr, iNot, iIx, gIx, atW, iIxO, ownL, oNone, oSome, iSl, gSl, iRevL, iCall, nCall, iFn, Stt.put, Stt.puts, iMtO, gAppend, gInsert, gExtend, gLen, iLenO, gAbs, gInt, gMinMax, gList, gTuple, iListRg, gIsi, tyN, gRepr, cut_13, cut_1_2, cut_1_3, cut_m2, cut_m3, cut_m4, atI_m2, atI_m3, atI_m4, iOfT, tKdIn, iKdIx, atI_0, atI_1, atI_2, atI_3, ixN_4_0, ixN_4_1, ixN_4_2, ixN_4_3, Sto.put_same, Sto.put_put, toNat_2, List.map, List.replicate, List.length_cons, List.length_nil, List.getElem?_cons_zero, List.getElem?_cons_succ, List.getElem?_nil, List.set_cons_zero, List.set_cons_succ, List.set_nil, List.cons_append, List.nil_append, List.append_nil, if_true, if_false, fz_val, fz_new, so_lst, so_dct, so_ins, eqW_ii, eqW_ss, eqW_tt, eqW_ll, eqW_nn, eqW_bb, eqW_ni, eqW_in, eqW_nt, eqW_tn, eqW_nl, eqW_ln, eqW_is, eqW_si, eqWs_nil, eqWs_cons, eqWs_nc, eqWs_cn, okD_int, okD_str, okD_bl, okD_non, okD_tup, okD_lst, eqOk_ii, eqOk_ss, eqOk_nn, eqOk_bb, eqOk_in, eqOk_ni, eqOk_tt, eqOk_ll, flatW_int, flatW_str, flatW_bl, flatW_non, inW, List.any_cons, List.any_nil, List.all_cons, List.all_nil, Bool.or_false, Bool.or_true, Bool.true_or, Bool.false_or, Bool.and_true, Bool.true_and, Bool.and_false, Bool.false_and, Bool.not_true, Bool.not_false, Bool.false_eq_true, true_and, and_true, beq_self_eq_true, List.isEmpty_cons, List.isEmpty_nil, Int.reduceNeg, eq_self, forall_const,  sFor, lSeq, gItems]
    refine for_inv (fun zs st => ∃ (x3 : Slot) (ys : List W) (S' : Sto), (ys ++ zs).Perm xs ∧ Bx a S S' ∧ st = ⟨[.val (.ref a), .val (.lst xs), .own (.lst ys), x3], S'⟩) _ _ ⟨_, [], S, .refl _, .refl hb, rfl⟩ (fun st ⟨x3, ys, S', hp, hb', es⟩ => h _ ⟨x3, ys, S', by rw [List.append_nil] at hp; exact hp, hb', es⟩) fun z zs st nx ⟨x3, ys, S', hp, hb', es⟩ hn => ?_
    subst es
    unfold ib_l_mixed_1
    have hll := hp.length_eq
    rw [List.length_append, List.length_cons] at hll
    simp (decide := true) only [bodyI, start0, sSeq, sNext, sNever, sCont, sBreak, sDrop, sRet, sRetN, sRet0, sRetO, sIf, sSet, sSetN, sSetP, sPar, sParEN, sParNE, sPar3, sAsg, gNm, gsNil, gsCons, gTp, sAugI, sIxO, sIxS, sAugS, stoL, setW, iVar, iC, iNil, iCons, iTup, iLst, nLst, iFz, iB, gAdd, gI, gIC, gSub, gMul, gDiv, gMod, gPow, gLt, gLe, gGt, gGe, gEq, gNe, gIn, gIsN, isN, iNeg, tTru', gTru, tBl, iChain, tAnd', tOr', tNot', tYes', iIf, iAnd, iOr, iNot, iIx, gIx, atW, iIxO, ownL, oNone, oSome, iSl, gSl, iRevL, iCall, nCall, iFn, Stt.put, Stt.puts, iMtO, gAppend, gInsert, gExtend, gLen, iLenO, gAbs, gInt, gMinMax, gList, gTuple, iListRg, gIsi, tyN, gRepr, cut_13, cut_1_2, cut_1_3, cut_m2, cut_m3, cut_m4, atI_m2, atI_m3, atI_m4, iOfT, tKdIn, iKdIx, atI_0, atI_1, atI_2, atI_3, ixN_4_0, ixN_4_1, ixN_4_2, ixN_4_3, Sto.put_same, Sto.put_put, toNat_2, List.map, List.replicate, List.length_cons, List.length_nil, List.getElem?_cons_zero, List.getElem?_cons_succ, List.getElem?_nil, List.set_cons_zero, List.set_cons_succ, List.set_nil, List.cons_append, List.nil_append, List.append_nil, if_true, if_false, fz_val, fz_new, so_lst, so_dct, so_ins, eqW_ii, eqW_ss, eqW_tt, eqW_ll, eqW_nn, eqW_bb, eqW_ni, eqW_in, eqW_nt, eqW_tn, eqW_nl, eqW_ln, eqW_is, eqW_si, eqWs_nil, eqWs_cons, eqWs_nc, eqWs_cn, okD_int, okD_str, okD_bl, okD_non, okD_tup, okD_lst, eqOk_ii, eqOk_ss, eqOk_nn, eqOk_bb, eqOk_in, eqOk_ni, eqOk_tt, eqOk_ll, flatW_int, flatW_str, flatW_bl, flatW_non, inW, List.any_cons, List.any_nil, List.all_cons, List.all_nil, Bool.or_false, Bool.or_true, Bool.true_or, Bool.false_or, Bool.and_true, Bool.true_and, Bool.and_false, Bool.false_and, Bool.not_true, Bool.not_false, Bool.false_eq_true, true_and, and_true, beq_self_eq_true, List.isEmpty_cons, List.isEmpty_nil, Int.reduceNeg, eq_self, forall_const]
    refine cl_take (by omega) (bd_of (by omega) (by omega)) hb'.bg fun i S1 i0 i1 b1 => ?_
    simp (decide := true) only [bodyI, start0, sSeq, sNext, sNever, sCont, sBreak, sDrop, sRet, sRetN, sRet0, sRetO, sIf, sSet, sSetN, sSetP, sPar, sParEN, sParNE, sPar3, sAsg, gNm, gsNil, gsCons, gTp, sAugI, sIxO, sIxS, sAugS, stoL, setW, iVar, iC, iNil, iCons, iTup, iLst, nLst, iFz, iB, gAdd, gI, gIC, gSub, gMul, gDiv, gMod, gPow, gLt, gLe, gGt, gGe, gEq, gNe, gIn, gIsN, isN, iNeg, tTru', gTru, tBl, iChain, tAnd', tOr', tNot', tYes', iIf, iAnd, iOr, iNot, iIx, gIx, atW, iIxO, ownL, oNone, oSome, iSl, gSl, iRevL, iCall, nCall, iFn, Stt.put, Stt.puts, iMtO, gAppend, gInsert, gExtend, gLen, iLenO, gAbs, gInt, gMinMax, gList, gTuple, iListRg, gIsi, tyN, gRepr, cut_13, cut_1_2, cut_1_3, cut_m2, cut_m3, cut_m4, atI_m2, atI_m3, atI_m4, iOfT, tKdIn, iKdIx, atI_0, atI_1, atI_2, atI_3, ixN_4_0, ixN_4_1, ixN_4_2, ixN_4_3, Sto.put_same, Sto.put_put, toNat_2, List.map, List.replicate, List.length_cons, List.length_nil, List.getElem?_cons_zero, List.getElem?_cons_succ, List.getElem?_nil, List.set_cons_zero, List.set_cons_succ, List.set_nil, List.cons_append, List.nil_append, List.append_nil, if_true, if_false, fz_val, fz_new, so_lst, so_dct, so_ins, eqW_ii, eqW_ss, eqW_tt, eqW_ll, eqW_nn, eqW_bb, eqW_ni, eqW_in, eqW_nt, eqW_tn, eqW_nl, eqW_ln, eqW_is, eqW_si, eqWs_nil, eqWs_cons, eqWs_nc, eqWs_cn, okD_int, okD_str, okD_bl, okD_non, okD_tup, okD_lst, eqOk_ii, eqOk_ss, eqOk_nn, eqOk_bb, eqOk_in, eqOk_ni, eqOk_tt, eqOk_ll, flatW_int, flatW_str, flatW_bl, flatW_non, inW, List.any_cons, List.any_nil, List.all_cons, List.all_nil, Bool.or_false, Bool.or_true, Bool.true_or, Bool.false_or, Bool.and_true, Bool.true_and, Bool.and_false, Bool.false_and, Bool.not_true, Bool.not_false, Bool.false_eq_true, true_and, and_true, beq_self_eq_true, List.isEmpty_cons, List.isEmpty_nil, Int.reduceNeg, eq_self, forall_const]
    refine ⟨by rw [sizeLine_eq]; omega, i0, by omega, hn _ ⟨_, _, S1, ?_, hb'.trans b1, rfl⟩⟩
    refine List.Perm.trans ?_ hp
    rw [List.append_assoc (List.take i.toNat ys), List.singleton_append]
    refine ((insert_perm z ys i.toNat).append_right zs).trans ?_
    exact (List.perm_middle (a := z) (l₁ := ys) (l₂ := zs)).symm
  · subst es
    exact q _ _ hp hb'
theorem rng_nodup (lo : Int) (n : Nat) : (rng lo n).Nodup := by
  unfold rng
  refine List.pairwise_map.mpr (List.Pairwise.imp (fun {x y} h => fun z => h ?_) List.nodup_range)
  injection z with z
  omega
theorem rng_mem' {lo : Int} {n : Nat} {w : W} (h : w ∈ rng lo n) : ∃ i : Int, w = .int i ∧ lo ≤ i ∧ i < lo + n := by
  unfold rng at h
  obtain ⟨i, hi, e⟩ := List.mem_map.mp h
  have := List.mem_range.mp hi
  exact ⟨lo + i, e.symm, by omega, by omega⟩
def ib_l_two : IS := (sSeq (sSet 2 (iCall sp_l_mixed (iCons (iVar 0) (iCons (iListRg (iVar 1)) iNil))))
  (sRet (iTup (iCons (iIx (iVar 2) (iC (.int 0))) (iCons (iIx (iVar 2) (iC (.int 1))) iNil)))))
def sp_l_two : ISp := fun ws S Q E => ∃ (a : Addr) (F : Int), ws = [.ref a, .int F] ∧ 2 ≤ F ∧ F ≤ 3 ∧ Bg S a ∧ ∀ f g S', Two F f g → Bx a S S' → Q (.val (.tup [.int f, .int g])) S'
theorem ok_l_two (ws : List W) (S : Sto) (Q : R → Sto → Prop) (E : Exn → Sto → Prop) (h : sp_l_two ws S Q E) : bodyI 3 ib_l_two ws S Q E := by
  obtain ⟨a, F, rfl, h2, h3, hb, q⟩ := h
  unfold ib_l_two
  refine seq_go fun nx e => ?_
  simp (decide := true) only [bodyI, start0, sSeq, sNext, sNever, sCont, sBreak, sDrop, sRet, sRetN, sRet0, sRetO, sIf, sSet, sSetN, sSetP, sPar, sParEN, sParNE, sPar3, sAsg, gNm, gsNil, gsCons, gTp, sAugI, sIxO, sIxS, sAugS, stoL, setW, iVar, iC, iNil, iCons, iTup, iLst, nLst, iFz, iB, gAdd, gI, gIC, gSub, gMul, gDiv, gMod, gPow, gLt, gLe, gGt, gGe, gEq, gNe, gIn, gIsN, isN, iNeg, tTru', gTru, tBl, iChain, tAnd', tOr', tNot', tYes', iIf, iAnd, iOr, iNot, iIx, gIx, atW, iIxO, ownL, oNone, oSome, iSl, gSl, iRevL, iCall, nCall, iFn, Stt.put, Stt.puts, iMtO, gAppend, gInsert, gExtend, gLen, iLenO, gAbs, gInt, gMinMax, gList, gTuple, iListRg, gIsi, tyN, gRepr, cut_13, cut_1_2, cut_1_3, cut_m2, cut_m3, cut_m4, atI_m2, atI_m3, atI_m4, iOfT, tKdIn, iKdIx, atI_0, atI_1, atI_2, atI_3, ixN_4_0, ixN_4_1, ixN_4_2, ixN_4_3, Sto.put_same, Sto.put_put, toNat_2, List.map, List.replicate, List.length_cons, List.length_nil, List.getElem?_cons_zero, List.getElem?_cons_succ, List.getElem?_nil, List.set_cons_zero, List.set_cons_succ, List.set_nil, List.cons_append, List.nil_append, List.append_nil, if_true, if_false, fz_val, fz_new, so_lst, so_dct, so_ins, eqW_ii, eqW_ss, eqW_tt, eqW_ll, eqW_nn, eqW_bb, eqW_ni, eqW_in, eqW_nt, eqW_tn, eqW_nl, eqW_ln, eqW_is, eqW_si, eqWs_nil, eqWs_cons, eqWs_nc, eqWs_cn, okD_int, okD_str, okD_bl, okD_non, okD_tup, okD_lst, eqOk_ii, eqOk_ss, eqOk_nn, eqOk_bb, eqOk_in, eqOk_ni, eqOk_tt, eqOk_ll, flatW_int, flatW_str, flatW_bl, flatW_non, inW, List.any_cons, List.any_nil, List.all_cons, List.all_nil, Bool.or_false, Bool.or_true, Bool.true_or, Bool.false_or, Bool.and_true, Bool.true_and, Bool.and_false, Bool.false_and, Bool.not_true, Bool.not_false, Bool.false_eq_true, true_and, and_true, beq_self_eq_true, List.isEmpty_cons, List.isEmpty_nil, Int.reduceNeg, eq_self, forall_const]
  refine ⟨by omega, by omega, a, _, rfl, by rw [rng_length]; omega, hb, fun ys S' hp b => ?_⟩
  have hl := hp.length_eq
  rw [rng_length] at hl
  have hn := hp.nodup_iff.mpr (rng_nodup 0 F.toNat)
  match ys, hp, hl, hn with
  | [], _, hl, _ => simp only [List.length_nil] at hl; omega
  | [_], _, hl, _ => simp only [List.length_cons, List.length_nil] at hl; omega
  | y :: z :: rest, hp, hl, hn =>
    obtain ⟨f, rfl, f0, f1⟩ := rng_mem' (hp.mem_iff.mp (List.mem_cons_self ..))
    obtain ⟨g, rfl, g0, g1⟩ := rng_mem' (hp.mem_iff.mp (List.mem_cons_of_mem _ (List.mem_cons_self ..)))
    have ne : f ≠ g := fun z => by subst z; exact (List.nodup_cons.mp hn).1 (List.mem_cons_self ..)
    subst e
    simp (decide := true) only [bodyI, start0, sSeq, sNext, sNever, sCont, sBreak, sDrop, sRet, sRetN, sRet0, sRetO, sIf, sSet, sSetN, sSetP, sPar, sParEN, sParNE, sPar3, sAsg, gNm, gsNil, gsCons, gTp, sAugI, sIxO, sIxS, sAugS, stoL, setW, iVar, iC, iNil, iCons, iTup, iLst, nLst, iFz, iB, gAdd, gI, gIC, gSub, gMul, gDiv, gMod, gPow, gLt, gLe, gGt, gGe, gEq, gNe, gIn, gIsN, isN, iNeg, tTru', gTru, tBl, iChain, tAnd', tOr', tNot', tYes', iIf, iAnd, iOr, iNot, iIx, gIx, atW, iIxO, ownL, oNone, oSome, iSl, gSl, iRevL, iCall, nCall, iFn, Stt.put, Stt.puts, iMtO, gAppend, gInsert, gExtend, gLen, iLenO, gAbs, gInt, gMinMax, gList, gTuple, iListRg, gIsi, tyN, gRepr, cut_13, cut_1_2, cut_1_3, cut_m2, cut_m3, cut_m4, atI_m2, atI_m3, atI_m4, iOfT, tKdIn, iKdIx, atI_0, atI_1, atI_2, atI_3, ixN_4_0, ixN_4_1, ixN_4_2, ixN_4_3, Sto.put_same, Sto.put_put, toNat_2, List.map, List.replicate, List.length_cons, List.length_nil, List.getElem?_cons_zero, List.getElem?_cons_succ, List.getElem?_nil, List.set_cons_zero, List.set_cons_succ, List.set_nil, List.cons_append, List.nil_append, List.append_nil, if_true, if_false, fz_val, fz_new, so_lst, so_dct, so_ins, eqW_ii, eqW_ss, eqW_tt, eqW_ll, eqW_nn, eqW_bb, eqW_ni, eqW_in, eqW_nt, eqW_tn, eqW_nl, eqW_ln, eqW_is, eqW_si, eqWs_nil, eqWs_cons, eqWs_nc, eqWs_cn, okD_int, okD_str, okD_bl, okD_non, okD_tup, okD_lst, eqOk_ii, eqOk_ss, eqOk_nn, eqOk_bb, eqOk_in, eqOk_ni, eqOk_tt, eqOk_ll, flatW_int, flatW_str, flatW_bl, flatW_non, inW, List.any_cons, List.any_nil, List.all_cons, List.all_nil, Bool.or_false, Bool.or_true, Bool.true_or, Bool.false_or, Bool.and_true, Bool.true_and, Bool.and_false, Bool.false_and, Bool.not_true, Bool.not_false, Bool.false_eq_true, true_and, and_true, beq_self_eq_true, List.isEmpty_cons, List.isEmpty_nil, Int.reduceNeg, eq_self, forall_const]
    exact q f g S' ⟨f0, by omega, g0, by omega, ne⟩ b
def tenW : List Str := ["all", "up", "swap", "wheel", "about", "front", "halve", "pair", "others", "fill"]
/-- what is drawn for k -/
def Call.lt (m : Int) : Call → Prop
  | .all k => k ≠ 0 ∧ -m ≤ k ∧ k ≤ m
  | .up _ k => k ≠ 0 ∧ -m ≤ k ∧ k ≤ m
  | .wheel _ _ k => k ≠ 0 ∧ -m ≤ k ∧ k ≤ m
  | _ => True
def ib_l_call : IS := (sSeq (sSet 4 (iCall sp_l_one (iCons (iVar 0) (iCons (iVar 2) iNil))))
  (sSeq (sIf (tBl (iB gEq (iVar 4) (iC (.str "all")))) (sRet (iTup (iCons (iC (.str "all")) (iCons (iCall sp_l_number (iCons (iVar 0) (iCons (iVar 3) iNil))) iNil)))) sNext)
  (sSeq (sIf (tBl (iB gEq (iVar 4) (iC (.str "up")))) (sRet (iTup (iCons (iC (.str "up")) (iCons (iCall sp_l_take (iCons (iVar 0) (iCons (iVar 1) iNil))) (iCons (iCall sp_l_number (iCons (iVar 0) (iCons (iVar 3) iNil))) iNil))))) sNext)
  (sSeq (sIf (tBl (iB (gIn false) (iVar 4) (iTup (iCons (iC (.str "swap")) (iCons (iC (.str "front")) iNil))))) (sRet (iB gAdd (iTup (iCons (iVar 4) iNil)) (iCall sp_l_two (iCons (iVar 0) (iCons (iVar 1) iNil))))) sNext)
  (sSeq (sIf (tBl (iB gEq (iVar 4) (iC (.str "wheel")))) (sRet (iB gAdd (iB gAdd (iTup (iCons (iC (.str "wheel")) iNil)) (iCall sp_l_two (iCons (iVar 0) (iCons (iVar 1) iNil)))) (iTup (iCons (iCall sp_l_number (iCons (iVar 0) (iCons (iVar 3) iNil))) iNil)))) sNext)
  (sRet (iTup (iCons (iVar 4) iNil))))))))
def sp_l_call : ISp := fun ws S Q E => ∃ (a : Addr) (F m : Int) (ks : List Str), ws = [.ref a, .int F, .lst (ks.map .str), .int m] ∧ 2 ≤ F ∧ F ≤ 3 ∧ 0 < m ∧ Bd m ∧ ks ≠ [] ∧ ks.length < 100 ∧ (∀ k ∈ ks, k ∈ tenW) ∧ Bg S a ∧
  ∀ (c : Call) S', c.ok F → c.lt (m + 4) → c.word ∈ ks → Bx a S S' → Q (.val c.w) S'
theorem ok_l_call (ws : List W) (S : Sto) (Q : R → Sto → Prop) (E : Exn → Sto → Prop) (h : sp_l_call ws S Q E) : bodyI 5 ib_l_call ws S Q E := by
  obtain ⟨a, F, m, ks, rfl, h2, h3, hm, bm, hk, hkl, hks, hb, q⟩ := h
  unfold ib_l_call
  refine seq_go fun nx e => ?_
  simp (decide := true) only [bodyI, start0, sSeq, sNext, sNever, sCont, sBreak, sDrop, sRet, sRetN, sRet0, sRetO, sIf, sSet, sSetN, sSetP, sPar, sParEN, sParNE, sPar3, sAsg, gNm, gsNil, gsCons, gTp, sAugI, sIxO, sIxS, sAugS, stoL, setW, iVar, iC, iNil, iCons, iTup, iLst, nLst, iFz, iB, gAdd, gI, gIC, gSub, gMul, gDiv, gMod, gPow, gLt, gLe, gGt, gGe, gEq, gNe, gIn, gIsN, isN, iNeg, tTru', gTru, tBl, iChain, tAnd', tOr', tNot', tYes', iIf, iAnd, iOr, iNot, iIx, gIx, atW, iIxO, ownL, oNone, oSome, iSl, gSl, iRevL, iCall, nCall, iFn, Stt.put, Stt.puts, iMtO, gAppend, gInsert, gExtend, gLen, iLenO, gAbs, gInt, gMinMax, gList, gTuple, iListRg, gIsi, tyN, gRepr, cut_13, cut_1_2, cut_1_3, cut_m2, cut_m3, cut_m4, atI_m2, atI_m3, atI_m4, iOfT, tKdIn, iKdIx, atI_0, atI_1, atI_2, atI_3, ixN_4_0, ixN_4_1, ixN_4_2, ixN_4_3, Sto.put_same, Sto.put_put, toNat_2, List.map, List.replicate, List.length_cons, List.length_nil, List.getElem?_cons_zero, List.getElem?_cons_succ, List.getElem?_nil, List.set_cons_zero, List.set_cons_succ, List.set_nil, List.cons_append, List.nil_append, List.append_nil, if_true, if_false, fz_val, fz_new, so_lst, so_dct, so_ins, eqW_ii, eqW_ss, eqW_tt, eqW_ll, eqW_nn, eqW_bb, eqW_ni, eqW_in, eqW_nt, eqW_tn, eqW_nl, eqW_ln, eqW_is, eqW_si, eqWs_nil, eqWs_cons, eqWs_nc, eqWs_cn, okD_int, okD_str, okD_bl, okD_non, okD_tup, okD_lst, eqOk_ii, eqOk_ss, eqOk_nn, eqOk_bb, eqOk_in, eqOk_ni, eqOk_tt, eqOk_ll, flatW_int, flatW_str, flatW_bl, flatW_non, inW, List.any_cons, List.any_nil, List.all_cons, List.all_nil, Bool.or_false, Bool.or_true, Bool.true_or, Bool.false_or, Bool.and_true, Bool.true_and, Bool.and_false, Bool.false_and, Bool.not_true, Bool.not_false, Bool.false_eq_true, true_and, and_true, beq_self_eq_true, List.isEmpty_cons, List.isEmpty_nil, Int.reduceNeg, eq_self, forall_const]
  refine cl_one (fun z => hk (List.map_eq_nil_iff.mp z)) (by rw [List.length_map]; omega) hb fun x S1 hx b1 => ?_
  obtain ⟨k, hk1, rfl⟩ := List.mem_map.mp hx
  have hw := hks k hk1
  subst e
  simp only [tenW, List.mem_cons, List.not_mem_nil, or_false] at hw
  rcases hw with rfl | rfl | rfl | rfl | rfl | rfl | rfl | rfl | rfl | rfl
  all_goals simp (decide := true) only [bodyI, start0, sSeq, sNext, sNever, sCont, sBreak, sDrop, sRet, sRetN, sRet0, sRetO, sIf, sSet, sSetN, sSetP, sPar, sParEN, sParNE, sPar3, sAsg, gNm, gsNil, gsCons, gTp, sAugI, sIxO, sIxS, sAugS, stoL, setW, iVar, iC, iNil, iCons, iTup, iLst, nLst, iFz, iB, gAdd, gI, gIC, gSub, gMul, gDiv, gMod, gPow, gLt, gLe, gGt, gGe, gEq, gNe, gIn, gIsN, isN, iNeg, tTru', gTru, tBl, iChain, tAnd', tOr', tNot', tYes', iIf, iAnd, iOr, iNot, iIx, gIx, atW, iIxO, ownL, oNone, oSome, iSl, gSl, iRevL, iCall, nCall, iFn, Stt.put, Stt.puts, iMtO, gAppend, gInsert, gExtend, gLen, iLenO, gAbs, gInt, gMinMax, gList, gTuple, iListRg, gIsi, tyN, gRepr, cut_13, cut_1_2, cut_1_3, cut_m2, cut_m3, cut_m4, atI_m2, atI_m3, atI_m4, iOfT, tKdIn, iKdIx, atI_0, atI_1, atI_2, atI_3, ixN_4_0, ixN_4_1, ixN_4_2, ixN_4_3, Sto.put_same, Sto.put_put, toNat_2, List.map, List.replicate, List.length_cons, List.length_nil, List.getElem?_cons_zero, List.getElem?_cons_succ, List.getElem?_nil, List.set_cons_zero, List.set_cons_succ, List.set_nil, List.cons_append, List.nil_append, List.append_nil, if_true, if_false, fz_val, fz_new, so_lst, so_dct, so_ins, eqW_ii, eqW_ss, eqW_tt, eqW_ll, eqW_nn, eqW_bb, eqW_ni, eqW_in, eqW_nt, eqW_tn, eqW_nl, eqW_ln, eqW_is, eqW_si, eqWs_nil, eqWs_cons, eqWs_nc, eqWs_cn, okD_int, okD_str, okD_bl, okD_non, okD_tup, okD_lst, eqOk_ii, eqOk_ss, eqOk_nn, eqOk_bb, eqOk_in, eqOk_ni, eqOk_tt, eqOk_ll, flatW_int, flatW_str, flatW_bl, flatW_non, inW, List.any_cons, List.any_nil, List.all_cons, List.all_nil, Bool.or_false, Bool.or_true, Bool.true_or, Bool.false_or, Bool.and_true, Bool.true_and, Bool.and_false, Bool.false_and, Bool.not_true, Bool.not_false, Bool.false_eq_true, true_and, and_true, beq_self_eq_true, List.isEmpty_cons, List.isEmpty_nil, Int.reduceNeg, eq_self, forall_const]
  · exact ⟨a, m, rfl, hm, bm, b1.bg, fun r S2 r0 r1 r2 b2 => q (.all r) S2 trivial ⟨r0, r1, r2⟩ hk1 (b1.trans b2)⟩
  · refine cl_take (by omega) (bd_of (by omega) (by omega)) b1.bg fun f S2 f0 f1 b2 => ⟨a, m, rfl, hm, bm, b2.bg, fun r S3 r0 r1 r2 b3 => q (.up f r) S3 ⟨f0, f1⟩ ⟨r0, r1, r2⟩ hk1 ((b1.trans b2).trans b3)⟩
  · refine ⟨a, F, rfl, h2, h3, b1.bg, fun f g S2 fg b2 => ⟨by simp only [R.fz, gAdd, List.length_cons, List.length_nil]; decide, q (.swap f g) S2 fg trivial hk1 (b1.trans b2)⟩⟩
  · refine ⟨a, F, rfl, h2, h3, b1.bg, fun f g S2 fg b2 => ⟨by simp only [List.length_cons, List.length_nil]; decide, a, m, rfl, hm, bm, b2.bg, fun r S3 r0 r1 r2 b3 => ⟨by simp only [List.length_append, List.length_cons, List.length_nil]; decide, q (.wheel f g r) S3 fg ⟨r0, r1, r2⟩ hk1 ((b1.trans b2).trans b3)⟩⟩⟩
  · exact q .about S1 trivial trivial hk1 b1
  · refine ⟨a, F, rfl, h2, h3, b1.bg, fun f g S2 fg b2 => ⟨by simp only [R.fz, gAdd, List.length_cons, List.length_nil]; decide, q (.front f g) S2 fg trivial hk1 (b1.trans b2)⟩⟩
  · exact q .halve S1 trivial trivial hk1 b1
  · exact q .pair S1 trivial trivial hk1 b1
  · exact q .others S1 trivial trivial hk1 b1
  · exact q .fill S1 trivial trivial hk1 b1
def sp_l_all_kinds : ISp := fun ws S Q E => ws = [] ∧ Q (.val (.lst (tenW.map .str))) S
theorem ok_l_all_kinds (ws : List W) (S : Sto) (Q : R → Sto → Prop) (E : Exn → Sto → Prop) (h : sp_l_all_kinds ws S Q E) : bodyI 0 ib_l_all_kinds ws S Q E := by
  obtain ⟨rfl, q⟩ := h
  exact q
theorem for_rng {g : IG} {body : IS} {EI : XI} {D : IEnds} {lo : Int} (I : Nat → Stt → Prop) (n : Nat) (st : Stt) (h0 : I 0 st) (hd : ∀ st, I n st → D.nx st)
    (hs : ∀ i, i < n → ∀ st (nx : Stt → Prop), I i st → (∀ st', I (i + 1) st' → nx st') → g (.int (lo + i)) st fun st1 => body EI { nx := nx, ct := nx, bk := D.nx, rt := D.rt } st1) : forGo g body EI D (rng lo n) st := by
  have key : ∀ (m i : Nat) (st : Stt), i + m = n → I i st → forGo g body EI D ((List.range' i m).map fun (j : Nat) => W.int (lo + (j : Int))) st := by
    intro m
    induction m with
    | zero => intro i st e hi; exact hd st (by have : i = n := by omega
                                               rw [← this]; exact hi)
    | succ m ih =>
      intro i st e hi
      rw [List.range'_succ, List.map_cons]
      exact hs i (by omega) st _ hi fun st' h' => ih (i + 1) st' (by omega) h'
  have := key n 0 st (by omega) h0
  rw [← List.range_eq_range'] at this
  exact this
theorem lc_fn {g : IG} {ie : IE} {vs : List Nat} {Q : SO → Stt → Prop} {α : Type} (st0 : Stt) (enc f : α → W) (as : List α) (st : Stt) (h : ∀ a ∈ as, ∀ Y : W → Stt → Prop, (∀ st', st'.wipe vs = st0 → Y (f a) st') → g (enc a) st0 fun st1 => ie noX st1 Y)
    (e : st.wipe vs = st0) (hl : as.length ≤ sizeLine) (q : ∀ st', st'.wipe vs = st0 → Q (.lst (as.map f)) st') : lcGo g tYes' ie vs Q (as.map enc) [] st := by
  have key : ∀ (as' : List α) (acc : List W) (st : Stt), (∀ a ∈ as', a ∈ as) → st.wipe vs = st0 → acc.length + as'.length ≤ sizeLine → (∀ st', st'.wipe vs = st0 → Q (.lst (acc ++ as'.map f)) st') → lcGo g tYes' ie vs Q (as'.map enc) acc st := by
    intro as'
    induction as' with
    | nil =>
      intro acc st _ e _ q
      have := q st e
      rw [List.map_nil, List.append_nil] at this
      exact this
    | cons a as' ih =>
      intro acc st hm e hl q
      rw [List.length_cons] at hl
      show g (enc a) (st.wipe vs) fun st1 => if true = true then ie noX st1 fun y st3 => acc.length < sizeLine ∧ lcGo g tYes' ie vs Q (as'.map enc) (acc ++ [y]) st3 else lcGo g tYes' ie vs Q (as'.map enc) acc st1
      rw [e]
      simp only [if_true]
      refine h a (hm a (List.mem_cons_self ..)) _ fun st' es => ⟨by omega, ih _ _ (fun b hb => hm b (List.mem_cons_of_mem _ hb)) es (by rw [List.length_append, List.length_singleton]; omega) fun st2 e2 => ?_⟩
      have := q st2 e2
      rw [List.map_cons] at this
      rw [List.append_assoc]
      exact this
  exact key as [] st (fun _ h => h) e (by rw [List.length_nil]; omega) fun st' e => by rw [List.nil_append]; exact q st' e
def plcs (F R : Int) : List (Int × Int) := (List.range R.toNat).flatMap fun (r : Nat) => (List.range F.toNat).map fun (f : Nat) => ((r : Int), (f : Int))
def ib_l_places_1 : IS := (sSet 2 (iB gAdd (iVar 2) (iFz (nLc (lRange1 (iVar 0)) (gNm 4) tYes' (iTup (iCons (iVar 3) (iCons (iVar 4) iNil))) [4]))))
def ib_l_places : IS := (sSeq (sSet 2 (iLst iNil))
  (sSeq (sFor (lRange1 (iVar 1)) (gNm 3) ib_l_places_1)
  (sRet (iVar 2))))
def sp_l_places : ISp := fun ws S Q E => ∃ F R : Int, ws = [.int F, .int R] ∧ 2 ≤ F ∧ F ≤ 3 ∧ 1 ≤ R ∧ R ≤ 100000 ∧ Q (.val (.lst ((plcs F R).map pairW))) S
theorem plcs_len {F R : Int} (hF : 0 ≤ F) (hR : 0 ≤ R) : ((plcs F R).length : Int) = R * F := by
  have key : ∀ n : Nat, (((List.range n).flatMap fun (r : Nat) => (List.range F.toNat).map fun (f : Nat) => ((r : Int), (f : Int))).length : Int) = n * F := by
    intro n
    induction n with
    | zero => simp
    | succ n ih =>
      rw [List.range_succ, List.flatMap_append, List.length_append, Int.natCast_add, ih, List.flatMap_singleton, List.length_map, List.length_range, Int.toNat_of_nonneg hF]
      rw [Int.natCast_add, Int.add_mul]
      omega
  have := key R.toNat
  rw [Int.toNat_of_nonneg hR] at this
  exact this
theorem plcs_mem {F R : Int} {p : Int × Int} : p ∈ plcs F R ↔ At F R p := by
  unfold plcs At
  rw [List.mem_flatMap]
  constructor
  · rintro ⟨r, hr, h⟩
    obtain ⟨f, hf, rfl⟩ := List.mem_map.mp h
    have := List.mem_range.mp hr
    have := List.mem_range.mp hf
    simp only
    omega
  · rintro ⟨h0, h1, h2, h3⟩
    refine ⟨p.1.toNat, List.mem_range.mpr (by omega), List.mem_map.mpr ⟨p.2.toNat, List.mem_range.mpr (by omega), ?_⟩⟩
    exact Prod.ext (by simp only; omega) (by simp only; omega)
def lexLt (p q : Int × Int) : Prop := p.1 < q.1 ∨ (p.1 = q.1 ∧ p.2 < q.2)
theorem plcs_lt {F R : Int} : (plcs F R).Pairwise lexLt := by
  unfold plcs
  refine List.pairwise_flatMap.mpr ⟨fun r _ => ?_, ?_⟩
  · exact List.pairwise_map.mpr (List.Pairwise.imp (fun {x y} h => .inr ⟨rfl, by simp only; omega⟩) List.pairwise_lt_range)
  · refine List.Pairwise.imp (fun {x y} h p hp q hq => .inl ?_) List.pairwise_lt_range
    obtain ⟨f, _, rfl⟩ := List.mem_map.mp hp
    obtain ⟨g, _, rfl⟩ := List.mem_map.mp hq
    simp only
    omega
theorem plcs_nodup {F R : Int} : (plcs F R).Nodup := List.Pairwise.imp (fun {x y} h e => by subst e; unfold lexLt at h; omega) plcs_lt
theorem plcs_le {F R : Int} : (plcs F R).Pairwise lexLe := List.Pairwise.imp (fun {x y} h => by unfold lexLt at h; unfold lexLe; omega) plcs_lt
theorem ok_l_places (ws : List W) (S : Sto) (Q : R → Sto → Prop) (E : Exn → Sto → Prop) (h : sp_l_places ws S Q E) : bodyI 5 ib_l_places ws S Q E := by
  obtain ⟨F, R, rfl, h2, h3, h4, h5, q⟩ := h
  unfold ib_l_places
  refine seq_go fun nx e => ?_
  simp (decide := true) only [bodyI, start0, sSeq, sNext, sNever, sCont, sBreak, sDrop, sRet, sRetN, sRet0, sRetO, sIf, sSet, sSetN, sSetP, sPar, sParEN, sParNE, sPar3, sAsg, gNm, gsNil, gsCons, gTp, sAugI, sIxO, sIxS, sAugS, stoL, setW, iVar, iC, iNil, iCons, iTup, iLst, nLst, iFz, iB, gAdd, gI, gIC, gSub, gMul, gDiv, gMod, gPow, gLt, gLe, gGt, gGe, gEq, gNe, gIn, gIsN, isN, iNeg, tTru', gTru, tBl, iChain, tAnd', tOr', tNot', tYes', iIf, iAnd, iOr, iNot, iIx, gIx, atW, iIxO, ownL, oNone, oSome, iSl, gSl, iRevL, iCall, nCall, iFn, Stt.put, Stt.puts, iMtO, gAppend, gInsert, gExtend, gLen, iLenO, gAbs, gInt, gMinMax, gList, gTuple, iListRg, gIsi, tyN, gRepr, cut_13, cut_1_2, cut_1_3, cut_m2, cut_m3, cut_m4, atI_m2, atI_m3, atI_m4, iOfT, tKdIn, iKdIx, atI_0, atI_1, atI_2, atI_3, ixN_4_0, ixN_4_1, ixN_4_2, ixN_4_3, Sto.put_same, Sto.put_put, toNat_2, List.map, List.replicate, List.length_cons, List.length_nil, List.getElem?_cons_zero, List.getElem?_cons_succ, List.getElem?_nil, List.set_cons_zero, List.set_cons_succ, List.set_nil, List.cons_append, List.nil_append, List.append_nil, if_true, if_false, fz_val, fz_new, so_lst, so_dct, so_ins, eqW_ii, eqW_ss, eqW_tt, eqW_ll, eqW_nn, eqW_bb, eqW_ni, eqW_in, eqW_nt, eqW_tn, eqW_nl, eqW_ln, eqW_is, eqW_si, eqWs_nil, eqWs_cons, eqWs_nc, eqWs_cn, okD_int, okD_str, okD_bl, okD_non, okD_tup, okD_lst, eqOk_ii, eqOk_ss, eqOk_nn, eqOk_bb, eqOk_in, eqOk_ni, eqOk_tt, eqOk_ll, flatW_int, flatW_str, flatW_bl, flatW_non, inW, List.any_cons, List.any_nil, List.all_cons, List.all_nil, Bool.or_false, Bool.or_true, Bool.true_or, Bool.false_or, Bool.and_true, Bool.true_and, Bool.and_false, Bool.false_and, Bool.not_true, Bool.not_false, Bool.false_eq_true, true_and, and_true, beq_self_eq_true, List.isEmpty_cons, List.isEmpty_nil, Int.reduceNeg, eq_self, forall_const]
  subst e
  refine seq_cut (fun st => ∃ x3 x4 : Slot, st = ⟨[.val (.int F), .val (.int R), .val (.lst ((plcs F R).map pairW)), x3, x4], S⟩) (fun nx h => ?_) (fun st ⟨x3, x4, es⟩ => ?_)
  · simp (decide := true) only [bodyI, start0, sSeq, sNext, sNever, sCont, sBreak, sDrop, sRet, sRetN, sRet0, sRetO, sIf, sSet, sSetN, sSetP, sPar, sParEN, sParNE, sPar3, sAsg, gNm, gsNil, gsCons, gTp, sAugI, sIxO, sIxS, sAugS, stoL, setW, iVar, iC, iNil, iCons, iTup, iLst, nLst, iFz, iB, gAdd, gI, gIC, gSub, gMul, gDiv, gMod, gPow, gLt, gLe, gGt, gGe, gEq, gNe, gIn, gIsN, isN, iNeg, tTru', gTru, tBl, iChain, tAnd', tOr', tNot', tYes', iIf, iAnd, iOr, iNot, iIx, gIx, atW, iIxO, ownL, oNone, oSome, iSl, gSl, iRevL, iCall, nCall, iFn, Stt.put, Stt.puts, iMtO, gAppend, gInsert, gExtend, gLen, iLenO, gAbs, gInt, gMinMax, gList, gTuple, iListRg, gIsi, tyN, gRepr, cut_13, cut_1_2, cut_1_3, cut_m2, cut_m3, cut_m4, atI_m2, atI_m3, atI_m4, iOfT, tKdIn, iKdIx, atI_0, atI_1, atI_2, atI_3, ixN_4_0, ixN_4_1, ixN_4_2, ixN_4_3, Sto.put_same, Sto.put_put, toNat_2, List.map, List.replicate, List.length_cons, List.length_nil, List.getElem?_cons_zero, List.getElem?_cons_succ, List.getElem?_nil, List.set_cons_zero, List.set_cons_succ, List.set_nil, List.cons_append, List.nil_append, List.append_nil, if_true, if_false, fz_val, fz_new, so_lst, so_dct, so_ins, eqW_ii, eqW_ss, eqW_tt, eqW_ll, eqW_nn, eqW_bb, eqW_ni, eqW_in, eqW_nt, eqW_tn, eqW_nl, eqW_ln, eqW_is, eqW_si, eqWs_nil, eqWs_cons, eqWs_nc, eqWs_cn, okD_int, okD_str, okD_bl, okD_non, okD_tup, okD_lst, eqOk_ii, eqOk_ss, eqOk_nn, eqOk_bb, eqOk_in, eqOk_ni, eqOk_tt, eqOk_ll, flatW_int, flatW_str, flatW_bl, flatW_non, inW, List.any_cons, List.any_nil, List.all_cons, List.all_nil, Bool.or_false, Bool.or_true, Bool.true_or, Bool.false_or, Bool.and_true, Bool.true_and, Bool.and_false, Bool.false_and, Bool.not_true, Bool.not_false, Bool.false_eq_true, true_and, and_true, beq_self_eq_true, List.isEmpty_cons, List.isEmpty_nil, Int.reduceNeg, eq_self, forall_const,  sFor, lRange1]
    refine ⟨by unfold i62; omega, for_rng (fun i st => ∃ x3 x4 : Slot, st = ⟨[.val (.int F), .val (.int R), .val (.lst ((plcs F i).map pairW)), x3, x4], S⟩) _ _ ⟨_, _, rfl⟩ (fun st ⟨x3, x4, es⟩ => h _ ⟨x3, x4, by rw [es, Int.toNat_of_nonneg (by omega)]⟩) fun i hi st nx ⟨x3, x4, es⟩ hn => ?_⟩
    subst es
    unfold ib_l_places_1
    simp (decide := true) only [bodyI, start0, sSeq, sNext, sNever, sCont, sBreak, sDrop, sRet, sRetN, sRet0, sRetO, sIf, sSet, sSetN, sSetP, sPar, sParEN, sParNE, sPar3, sAsg, gNm, gsNil, gsCons, gTp, sAugI, sIxO, sIxS, sAugS, stoL, setW, iVar, iC, iNil, iCons, iTup, iLst, nLst, iFz, iB, gAdd, gI, gIC, gSub, gMul, gDiv, gMod, gPow, gLt, gLe, gGt, gGe, gEq, gNe, gIn, gIsN, isN, iNeg, tTru', gTru, tBl, iChain, tAnd', tOr', tNot', tYes', iIf, iAnd, iOr, iNot, iIx, gIx, atW, iIxO, ownL, oNone, oSome, iSl, gSl, iRevL, iCall, nCall, iFn, Stt.put, Stt.puts, iMtO, gAppend, gInsert, gExtend, gLen, iLenO, gAbs, gInt, gMinMax, gList, gTuple, iListRg, gIsi, tyN, gRepr, cut_13, cut_1_2, cut_1_3, cut_m2, cut_m3, cut_m4, atI_m2, atI_m3, atI_m4, iOfT, tKdIn, iKdIx, atI_0, atI_1, atI_2, atI_3, ixN_4_0, ixN_4_1, ixN_4_2, ixN_4_3, Sto.put_same, Sto.put_put, toNat_2, List.map, List.replicate, List.length_cons, List.length_nil, List.getElem?_cons_zero, List.getElem?_cons_succ, List.getElem?_nil, List.set_cons_zero, List.set_cons_succ, List.set_nil, List.cons_append, List.nil_append, List.append_nil, if_true, if_false, fz_val, fz_new, so_lst, so_dct, so_ins, eqW_ii, eqW_ss, eqW_tt, eqW_ll, eqW_nn, eqW_bb, eqW_ni, eqW_in, eqW_nt, eqW_tn, eqW_nl, eqW_ln, eqW_is, eqW_si, eqWs_nil, eqWs_cons, eqWs_nc, eqWs_cn, okD_int, okD_str, okD_bl, okD_non, okD_tup, okD_lst, eqOk_ii, eqOk_ss, eqOk_nn, eqOk_bb, eqOk_in, eqOk_ni, eqOk_tt, eqOk_ll, flatW_int, flatW_str, flatW_bl, flatW_non, inW, List.any_cons, List.any_nil, List.all_cons, List.all_nil, Bool.or_false, Bool.or_true, Bool.true_or, Bool.false_or, Bool.and_true, Bool.true_and, Bool.and_false, Bool.false_and, Bool.not_true, Bool.not_false, Bool.false_eq_true, true_and, and_true, beq_self_eq_true, List.isEmpty_cons, List.isEmpty_nil, Int.reduceNeg, eq_self, forall_const,  nLc, lRange1]
    refine ⟨by unfold i62; omega, lc_fn ⟨[.val (.int F), .val (.int R), .val (.lst ((plcs F i).map pairW)), .val (.int (0 + i)), .none], S⟩ (fun f : Nat => .int (0 + f)) (fun f : Nat => pairW ((i : Int), (f : Int))) (List.range F.toNat) _ (fun f hf Y hY => ?_) rfl (by rw [List.length_range, sizeLine_eq]; omega) fun st' es => ?_⟩
    · simp (decide := true) only [bodyI, start0, sSeq, sNext, sNever, sCont, sBreak, sDrop, sRet, sRetN, sRet0, sRetO, sIf, sSet, sSetN, sSetP, sPar, sParEN, sParNE, sPar3, sAsg, gNm, gsNil, gsCons, gTp, sAugI, sIxO, sIxS, sAugS, stoL, setW, iVar, iC, iNil, iCons, iTup, iLst, nLst, iFz, iB, gAdd, gI, gIC, gSub, gMul, gDiv, gMod, gPow, gLt, gLe, gGt, gGe, gEq, gNe, gIn, gIsN, isN, iNeg, tTru', gTru, tBl, iChain, tAnd', tOr', tNot', tYes', iIf, iAnd, iOr, iNot, iIx, gIx, atW, iIxO, ownL, oNone, oSome, iSl, gSl, iRevL, iCall, nCall, iFn, Stt.put, Stt.puts, iMtO, gAppend, gInsert, gExtend, gLen, iLenO, gAbs, gInt, gMinMax, gList, gTuple, iListRg, gIsi, tyN, gRepr, cut_13, cut_1_2, cut_1_3, cut_m2, cut_m3, cut_m4, atI_m2, atI_m3, atI_m4, iOfT, tKdIn, iKdIx, atI_0, atI_1, atI_2, atI_3, ixN_4_0, ixN_4_1, ixN_4_2, ixN_4_3, Sto.put_same, Sto.put_put, toNat_2, List.map, List.replicate, List.length_cons, List.length_nil, List.getElem?_cons_zero, List.getElem?_cons_succ, List.getElem?_nil, List.set_cons_zero, List.set_cons_succ, List.set_nil, List.cons_append, List.nil_append, List.append_nil, if_true, if_false, fz_val, fz_new, so_lst, so_dct, so_ins, eqW_ii, eqW_ss, eqW_tt, eqW_ll, eqW_nn, eqW_bb, eqW_ni, eqW_in, eqW_nt, eqW_tn, eqW_nl, eqW_ln, eqW_is, eqW_si, eqWs_nil, eqWs_cons, eqWs_nc, eqWs_cn, okD_int, okD_str, okD_bl, okD_non, okD_tup, okD_lst, eqOk_ii, eqOk_ss, eqOk_nn, eqOk_bb, eqOk_in, eqOk_ni, eqOk_tt, eqOk_ll, flatW_int, flatW_str, flatW_bl, flatW_non, inW, List.any_cons, List.any_nil, List.all_cons, List.all_nil, Bool.or_false, Bool.or_true, Bool.true_or, Bool.false_or, Bool.and_true, Bool.true_and, Bool.and_false, Bool.false_and, Bool.not_true, Bool.not_false, Bool.false_eq_true, true_and, and_true, beq_self_eq_true, List.isEmpty_cons, List.isEmpty_nil, Int.reduceNeg, eq_self, forall_const]
      have := hY ⟨[.val (.int F), .val (.int R), .val (.lst ((plcs F i).map pairW)), .val (.int (0 + i)), .val (.int (0 + f))], S⟩ rfl
      simp only [Int.zero_add] at this ⊢
      exact this
    · rw [es]
      have l1 := plcs_len (F := F) (R := i) (by omega) (by omega)
      have l2 : ((i : Int)) * F ≤ 100000 * 3 := Int.mul_le_mul (by omega) h3 (by omega) (by omega)
      simp (decide := true) only [bodyI, start0, sSeq, sNext, sNever, sCont, sBreak, sDrop, sRet, sRetN, sRet0, sRetO, sIf, sSet, sSetN, sSetP, sPar, sParEN, sParNE, sPar3, sAsg, gNm, gsNil, gsCons, gTp, sAugI, sIxO, sIxS, sAugS, stoL, setW, iVar, iC, iNil, iCons, iTup, iLst, nLst, iFz, iB, gAdd, gI, gIC, gSub, gMul, gDiv, gMod, gPow, gLt, gLe, gGt, gGe, gEq, gNe, gIn, gIsN, isN, iNeg, tTru', gTru, tBl, iChain, tAnd', tOr', tNot', tYes', iIf, iAnd, iOr, iNot, iIx, gIx, atW, iIxO, ownL, oNone, oSome, iSl, gSl, iRevL, iCall, nCall, iFn, Stt.put, Stt.puts, iMtO, gAppend, gInsert, gExtend, gLen, iLenO, gAbs, gInt, gMinMax, gList, gTuple, iListRg, gIsi, tyN, gRepr, cut_13, cut_1_2, cut_1_3, cut_m2, cut_m3, cut_m4, atI_m2, atI_m3, atI_m4, iOfT, tKdIn, iKdIx, atI_0, atI_1, atI_2, atI_3, ixN_4_0, ixN_4_1, ixN_4_2, ixN_4_3, Sto.put_same, Sto.put_put, toNat_2, List.map, List.replicate, List.length_cons, List.length_nil, List.getElem?_cons_zero, List.getElem?_cons_succ, List.getElem?_nil, List.set_cons_zero, List.set_cons_succ, List.set_nil, List.cons_append, List.nil_append, List.append_nil, if_true, if_false, fz_val, fz_new, so_lst, so_dct, so_ins, eqW_ii, eqW_ss, eqW_tt, eqW_ll, eqW_nn, eqW_bb, eqW_ni, eqW_in, eqW_nt, eqW_tn, eqW_nl, eqW_ln, eqW_is, eqW_si, eqWs_nil, eqWs_cons, eqWs_nc, eqWs_cn, okD_int, okD_str, okD_bl, okD_non, okD_tup, okD_lst, eqOk_ii, eqOk_ss, eqOk_nn, eqOk_bb, eqOk_in, eqOk_ni, eqOk_tt, eqOk_ll, flatW_int, flatW_str, flatW_bl, flatW_non, inW, List.any_cons, List.any_nil, List.all_cons, List.all_nil, Bool.or_false, Bool.or_true, Bool.true_or, Bool.false_or, Bool.and_true, Bool.true_and, Bool.and_false, Bool.false_and, Bool.not_true, Bool.not_false, Bool.false_eq_true, true_and, and_true, beq_self_eq_true, List.isEmpty_cons, List.isEmpty_nil, Int.reduceNeg, eq_self, forall_const]
      refine ⟨by rw [List.length_map, List.length_map, List.length_range, sizeLine_eq]; omega, hn _ ⟨.val (.int (0 + i)), .none, ?_⟩⟩
      have e2 : plcs F (i + 1 : Nat) = plcs F i ++ (List.range F.toNat).map fun (f : Nat) => ((i : Int), (f : Int)) := by
        unfold plcs
        rw [Int.toNat_natCast, Int.toNat_natCast, List.range_succ, List.flatMap_append, List.flatMap_singleton]
      rw [e2, List.map_append, List.map_map]
      rfl
  · subst es
    exact q
end Sh
namespace Sh
open PySem L2
open PyProof.Rows hiding St
def ib_l_ring : IS := (sRet (iIf (tBl (iB gEq (iIx (iVar 0) (iC (.int 0))) (iC (.str "wheel")))) (iB gMul (iC (.int 2)) (iVar 1)) (iVar 1)))
def sp_l_ring : ISp := fun ws S Q E => ∃ (c : Call) (R : Int), ws = [c.w, .int R] ∧ Q (.val (.int (if c.word = "wheel" then 2 * R else R))) S
theorem ok_l_ring (ws : List W) (S : Sto) (Q : R → Sto → Prop) (E : Exn → Sto → Prop) (h : sp_l_ring ws S Q E) : bodyI 2 ib_l_ring ws S Q E := by
  obtain ⟨c, R, rfl, q⟩ := h
  unfold ib_l_ring
  cases c <;> simp (decide := true) only [Call.w, Call.word, if_true, if_false] at q ⊢ <;> simp (decide := true) only [bodyI, start0, sSeq, sNext, sNever, sCont, sBreak, sDrop, sRet, sRetN, sRet0, sRetO, sIf, sSet, sSetN, sSetP, sPar, sParEN, sParNE, sPar3, sAsg, gNm, gsNil, gsCons, gTp, sAugI, sIxO, sIxS, sAugS, stoL, setW, iVar, iC, iNil, iCons, iTup, iLst, nLst, iFz, iB, gAdd, gI, gIC, gSub, gMul, gDiv, gMod, gPow, gLt, gLe, gGt, gGe, gEq, gNe, gIn, gIsN, isN, iNeg, tTru', gTru, tBl, iChain, tAnd', tOr', tNot', tYes', iIf, iAnd, iOr, iNot, iIx, gIx, atW, iIxO, ownL, oNone, oSome, iSl, gSl, iRevL, iCall, nCall, iFn, Stt.put, Stt.puts, iMtO, gAppend, gInsert, gExtend, gLen, iLenO, gAbs, gInt, gMinMax, gList, gTuple, iListRg, gIsi, tyN, gRepr, cut_13, cut_1_2, cut_1_3, cut_m2, cut_m3, cut_m4, atI_m2, atI_m3, atI_m4, iOfT, tKdIn, iKdIx, atI_0, atI_1, atI_2, atI_3, ixN_4_0, ixN_4_1, ixN_4_2, ixN_4_3, Sto.put_same, Sto.put_put, toNat_2, List.map, List.replicate, List.length_cons, List.length_nil, List.getElem?_cons_zero, List.getElem?_cons_succ, List.getElem?_nil, List.set_cons_zero, List.set_cons_succ, List.set_nil, List.cons_append, List.nil_append, List.append_nil, if_true, if_false, fz_val, fz_new, so_lst, so_dct, so_ins, eqW_ii, eqW_ss, eqW_tt, eqW_ll, eqW_nn, eqW_bb, eqW_ni, eqW_in, eqW_nt, eqW_tn, eqW_nl, eqW_ln, eqW_is, eqW_si, eqWs_nil, eqWs_cons, eqWs_nc, eqWs_cn, okD_int, okD_str, okD_bl, okD_non, okD_tup, okD_lst, eqOk_ii, eqOk_ss, eqOk_nn, eqOk_bb, eqOk_in, eqOk_ni, eqOk_tt, eqOk_ll, flatW_int, flatW_str, flatW_bl, flatW_non, inW, List.any_cons, List.any_nil, List.all_cons, List.all_nil, Bool.or_false, Bool.or_true, Bool.true_or, Bool.false_or, Bool.and_true, Bool.true_and, Bool.and_false, Bool.false_and, Bool.not_true, Bool.not_false, Bool.false_eq_true, true_and, and_true, beq_self_eq_true, List.isEmpty_cons, List.isEmpty_nil, Int.reduceNeg, eq_self, forall_const] <;> first | exact q | exact ⟨small_l (by omega) (by omega), q⟩
section
variable {F R : Int} {c : Call}
theorem goals_perm (hF : 0 < F) (hR : 0 < R) (hc : c.ok F) : ((plcs F R).map (mv F R c)).Perm (plcs F R) := by
  refine (List.perm_ext_iff_of_nodup ?_ plcs_nodup).mpr fun p => ?_
  · refine List.pairwise_map.mpr (List.Pairwise.imp_of_mem (fun {x y} hx hy h e => h ?_) plcs_nodup)
    rw [← mv_tn hF hR hc (plcs_mem.mp hx), e, mv_tn hF hR hc (plcs_mem.mp hy)]
  · constructor
    · intro h
      obtain ⟨q, hq, rfl⟩ := List.mem_map.mp h
      exact plcs_mem.mpr (mv_in hF hR hc (plcs_mem.mp hq))
    · intro h
      have hp := plcs_mem.mp h
      exact List.mem_map.mpr ⟨_, plcs_mem.mpr (mv_in (c := c.tn) hF hR (Call.tn_ok hc) hp), mv_tn' hF hR hc hp⟩
theorem goals_back (hF : 0 < F) (hR : 0 < R) (hc : c.ok F) : ((plcs F R).map (mv F R c)).map (mv F R c.tn) = plcs F R := by
  rw [List.map_map]
  conv => rhs; rw [← List.map_id (plcs F R)]
  exact List.map_congr_left fun p hp => mv_tn hF hR hc (plcs_mem.mp hp)
theorem lex_eq {p q : Int × Int} (h : lexLe p q) (k : lexLe q p) : p = q := by
  unfold lexLe at *
  exact Prod.ext (by omega) (by omega)
theorem sorted_goals {ps : List (Int × Int)} (hF : 0 < F) (hR : 0 < R) (hc : c.ok F) (hp : ps.Perm ((plcs F R).map (mv F R c))) (hs : ps.Pairwise lexLe) : ps = plcs F R :=
  (hp.trans (goals_perm hF hR hc)).eq_of_pairwise (fun _ _ _ _ => lex_eq) hs plcs_le
/-- k and k + the ring's length -/
def Call.plus (c : Call) (j : Int) : Call := match c with
  | .all k => .all (k + j)
  | .up f k => .up f (k + j)
  | .wheel f g k => .wheel f g (k + j)
  | c => c
theorem mod_plus {a m j : Int} : (a + m * j) % m = a % m := by rw [Int.add_mul_emod_self_left]
theorem mv_plus {j : Int} {p : Int × Int} : mv F R (c.plus ((if c.word = "wheel" then 2 * R else R) * j)) p = mv F R c p := by
  cases c with
  | all k =>
    show ((p.1 - (k + R * j)) % R, p.2) = ((p.1 - k) % R, p.2)
    rw [show p.1 - (k + R * j) = p.1 - k + R * (-j) by grind, mod_plus]
  | up f k =>
    show (if p.2 = f then ((p.1 - (k + R * j)) % R, p.2) else p) = (if p.2 = f then ((p.1 - k) % R, p.2) else p)
    rw [show p.1 - (k + R * j) = p.1 - k + R * (-j) by grind, mod_plus]
  | wheel f g k =>
    show whl R f g (k + 2 * R * j) p = whl R f g k p
    unfold whl
    rw [← Int.add_assoc, mod_plus]
  | _ => rfl
/-- neighbours stay neighbours -/
def Near (F R : Int) (c : Call) (f k : Int) : Prop := (mv F R c (k, f)).2 = (mv F R c (k + 1, f)).2 ∧ ((mv F R c (k, f)).1 - (mv F R c (k + 1, f)).1 = 1 ∨ (mv F R c (k + 1, f)).1 - (mv F R c (k, f)).1 = 1)
theorem mod_next {x m : Int} (hm : 0 < m) (h : x % m ≠ m - 1) : (x + 1) % m = x % m + 1 := by
  have a := Int.emod_nonneg x (show m ≠ 0 by omega)
  have b := Int.emod_lt_of_pos x hm
  exact ((cg_mod m (x + 1)).trans ((cg_mod m x).symm.add (.refl 1))).eq (Int.emod_nonneg _ (by omega)) (Int.emod_lt_of_pos _ hm) (by omega) (by omega)
theorem mod_prev {x m : Int} (hm : 0 < m) (h : x % m ≠ 0) : (x - 1) % m = x % m - 1 := by
  have a := Int.emod_nonneg x (show m ≠ 0 by omega)
  have b := Int.emod_lt_of_pos x hm
  have c : Cg m (x - 1) (x % m - 1) := (cg_mod m x).symm.add (.refl (-1))
  exact ((cg_mod m (x - 1)).trans c).eq (Int.emod_nonneg _ (by omega)) (Int.emod_lt_of_pos _ hm) (by omega) (by omega)
theorem mod_same {x y m : Int} (hm : 0 < m) (h : x % m = y % m) (d0 : -m < x - y) (d1 : x - y < m) : x = y := by
  have c : Cg m x y := (cg_mod m x).symm.trans (h ▸ cg_mod m y)
  obtain ⟨t, ht⟩ := c
  have : t = 0 := by
    by_cases z : t = 0
    · exact z
    · exfalso
      rcases Int.lt_or_gt_of_ne z with z | z
      · have := Int.mul_le_mul_of_nonneg_left (show t ≤ -1 by omega) (show 0 ≤ m by omega)
        omega
      · have := Int.mul_le_mul_of_nonneg_left (show 1 ≤ t by omega) (show 0 ≤ m by omega)
        omega
  subst this
  omega
theorem near_one {f k l : Int} (hF : 0 < F) (hR : 0 < R) (hc : c.ok F) (ho : c.opn = false) (f0 : 0 ≤ f) (f1 : f < F) (k0 : 0 ≤ k) (k1 : k < R - 1) (l0 : 0 ≤ l) (l1 : l < R - 1) (hk : ¬ Near F R c f k) (hl : ¬ Near F R c f l) : k = l := by
  have up : ∀ d k : Int, (k - d) % R ≠ R - 1 → (k + 1 - d) % R - (k - d) % R = 1 := fun d k h => by
    rw [show k + 1 - d = k - d + 1 by omega, mod_next hR h]; omega
  cases c with
  | all d =>
    have a : ∀ k, ¬ Near F R (.all d) f k → (k - d) % R = R - 1 := fun k h => Classical.byContradiction fun z => h ⟨rfl, .inr (up d k z)⟩
    have := mod_same hR ((a k hk).trans (a l hl).symm) (by omega) (by omega)
    omega
  | up g d =>
    by_cases z : f = g
    · have a : ∀ k, ¬ Near F R (.up g d) f k → (k - d) % R = R - 1 := fun k h => Classical.byContradiction fun y => h (by
        unfold Near
        simp only [mv, if_pos z]
        exact ⟨trivial, .inr (up d k y)⟩)
      have := mod_same hR ((a k hk).trans (a l hl).symm) (by omega) (by omega)
      omega
    · exact absurd (by unfold Near; simp only [mv, if_neg z]; exact ⟨trivial, .inr (by omega)⟩) hk
  | swap g h =>
    refine absurd ?_ hk
    unfold Near
    simp only [mv]
    by_cases z : f ≠ g ∧ f ≠ h
    · simp only [if_pos z]; exact ⟨trivial, .inr (by omega)⟩
    · simp only [if_neg z]; exact ⟨trivial, .inr (by omega)⟩
  | about =>
    refine absurd ?_ hk
    unfold Near
    simp only [mv]
    exact ⟨trivial, .inl (by omega)⟩
  | front g h =>
    have a : ∀ k, 0 ≤ k → ¬ Near F R (.front g h) f k → k = 0 := fun k k0 hk => Classical.byContradiction fun y => hk (by
      unfold Near
      simp only [mv]
      rw [if_pos (.inr (by omega)), if_pos (.inr (by omega))]
      exact ⟨rfl, .inr (by simp only; omega)⟩)
    rw [a k k0 hk, a l l0 hl]
  | wheel g h d =>
    obtain ⟨g0, g1, h0, h1, gh⟩ := hc
    by_cases z : f ≠ g ∧ f ≠ h
    · refine absurd ?_ hk
      unfold Near
      simp only [mv, whl, if_pos z]
      exact ⟨trivial, .inr (by omega)⟩
    · have st : ∀ (s t : Int), 0 ≤ s → s < 2 * R → 0 ≤ t → t < 2 * R → (t = s + 1 ∨ s = t + 1) → ¬ (s = R - 1 ∧ t = R) → ¬ (t = R - 1 ∧ s = R) →
          (if s < R then (R - 1 - s, g) else (s - R, h)).2 = (if t < R then (R - 1 - t, g) else (t - R, h)).2 ∧ ((if s < R then (R - 1 - s, g) else (s - R, h)).1 - (if t < R then (R - 1 - t, g) else (t - R, h)).1 = 1 ∨ (if t < R then (R - 1 - t, g) else (t - R, h)).1 - (if s < R then (R - 1 - s, g) else (s - R, h)).1 = 1) := fun s t s0 s1 t0 t1 d1 n1 n2 => by
        by_cases x : s < R
        · by_cases y : t < R
          · rw [if_pos x, if_pos y]; exact ⟨rfl, by simp only; omega⟩
          · omega
        · by_cases y : t < R
          · omega
          · rw [if_neg x, if_neg y]; exact ⟨rfl, by simp only; omega⟩
      have R2 : 0 < 2 * R := by omega
      by_cases y : f = g
      · have a : ∀ k, ¬ Near F R (.wheel g h d) f k → (R - 1 - k + d) % (2 * R) = 0 ∨ (R - 1 - k + d) % (2 * R) = R := fun k hk => Classical.byContradiction fun w => hk (by
          unfold Near
          simp only [mv, whl, if_neg z, if_pos y]
          have e : (R - 1 - (k + 1) + d) % (2 * R) = (R - 1 - k + d) % (2 * R) - 1 := by
            rw [show R - 1 - (k + 1) + d = R - 1 - k + d - 1 by omega]
            exact mod_prev R2 fun v => w (.inl v)
          have b0 := Int.emod_nonneg (R - 1 - k + d) (show 2 * R ≠ 0 by omega)
          have b1 := Int.emod_lt_of_pos (R - 1 - k + d) R2
          have c0 := Int.emod_nonneg (R - 1 - (k + 1) + d) (show 2 * R ≠ 0 by omega)
          have c1 := Int.emod_lt_of_pos (R - 1 - (k + 1) + d) R2
          exact st _ _ b0 b1 c0 c1 (.inr (by omega)) (by omega) (by omega))
        have same : ∀ u v : Int, 0 ≤ u → u < R - 1 → 0 ≤ v → v < R - 1 → (R - 1 - u + d) % (2 * R) = 0 → (R - 1 - v + d) % (2 * R) = R → False := fun u v u0 u1 v0 v1 hu hv => by
          have : (R - 1 - u + d + R) % (2 * R) = (R - 1 - v + d) % (2 * R) := by
            rw [hv]
            have c : Cg (2 * R) (R - 1 - u + d + R) (0 + R) := ((hu ▸ cg_mod (2 * R) (R - 1 - u + d)).symm).add (.refl R)
            exact ((cg_mod _ _).trans c).eq (Int.emod_nonneg _ (by omega)) (Int.emod_lt_of_pos _ R2) (by omega) (by omega) |>.trans (by omega)
          have := mod_same R2 this (by omega) (by omega)
          omega
        rcases a k hk with p | p <;> rcases a l hl with q | q
        · have := mod_same R2 (p.trans q.symm) (by omega) (by omega); omega
        · exact (same k l k0 k1 l0 l1 p q).elim
        · exact (same l k l0 l1 k0 k1 q p).elim
        · have := mod_same R2 (p.trans q.symm) (by omega) (by omega); omega
      · have a : ∀ k, ¬ Near F R (.wheel g h d) f k → (R + k + d) % (2 * R) = 2 * R - 1 ∨ (R + k + d) % (2 * R) = R - 1 := fun k hk => Classical.byContradiction fun w => hk (by
          unfold Near
          simp only [mv, whl, if_neg z, if_neg y]
          have e : (R + (k + 1) + d) % (2 * R) = (R + k + d) % (2 * R) + 1 := by
            rw [show R + (k + 1) + d = R + k + d + 1 by omega]
            exact mod_next R2 fun v => w (.inl v)
          have b0 := Int.emod_nonneg (R + k + d) (show 2 * R ≠ 0 by omega)
          have b1 := Int.emod_lt_of_pos (R + k + d) R2
          have c0 := Int.emod_nonneg (R + (k + 1) + d) (show 2 * R ≠ 0 by omega)
          have c1 := Int.emod_lt_of_pos (R + (k + 1) + d) R2
          exact st _ _ b0 b1 c0 c1 (.inl (by omega)) (by omega) (by omega))
        have same : ∀ u v : Int, 0 ≤ u → u < R - 1 → 0 ≤ v → v < R - 1 → (R + u + d) % (2 * R) = 2 * R - 1 → (R + v + d) % (2 * R) = R - 1 → False := fun u v u0 u1 v0 v1 hu hv => by
          have : (R + v + d + R) % (2 * R) = (R + u + d) % (2 * R) := by
            rw [hu]
            have c : Cg (2 * R) (R + v + d + R) (R - 1 + R) := ((hv ▸ cg_mod (2 * R) (R + v + d)).symm).add (.refl R)
            exact ((cg_mod _ _).trans c).eq (Int.emod_nonneg _ (by omega)) (Int.emod_lt_of_pos _ R2) (by omega) (by omega) |>.trans (by omega)
          have := mod_same R2 this (by omega) (by omega)
          omega
        rcases a k hk with p | p <;> rcases a l hl with q | q
        · have := mod_same R2 (p.trans q.symm) (by omega) (by omega); omega
        · exact (same k l k0 k1 l0 l1 p q).elim
        · exact (same l k l0 l1 k0 k1 q p).elim
        · have := mod_same R2 (p.trans q.symm) (by omega) (by omega); omega
  | _ => cases ho
end
def ib_law_1 : IS := (sSeq (sSet 13 (iAnd (iB gEq (iIx (iIx (iVar 11) (iVar 12)) (iC (.int 1))) (iIx (iIx (iVar 11) (iB gAdd (iVar 12) (iC (.int 1)))) (iC (.int 1)))) (iB gEq (iFn gAbs (iCons (iB gSub (iIx (iIx (iVar 11) (iVar 12)) (iC (.int 0))) (iIx (iIx (iVar 11) (iB gAdd (iVar 12) (iC (.int 1)))) (iC (.int 0)))) iNil)) (iC (.int 1)))))
          (sAugI 10 (· + ·) (iFn gInt (iCons (iNot (iVar 13)) iNil))))
def ib_law_2 : IS := (sSeq (sSet 10 (iC (.int 0)))
        (sSeq (sSetN 11 (nLc (lRange1 (iVar 4)) (gNm 16) tYes' (iCall sp_p_moved_by (iCons (iVar 5) (iCons (iVar 3) (iCons (iVar 4) (iCons (iTup (iCons (iVar 16) (iCons (iVar 9) iNil))) iNil))))) [16]))
        (sSeq (sFor (lRange1 (iB gSub (iVar 4) (iC (.int 1)))) (gNm 12) ib_law_1)
        (sIf (tBl (iB gGt (iVar 10) (iC (.int 1)))) (sRet (iC (.bl false))) sNext))))
def ib_law_3 : IS := (sSeq (sAsg (iTup (iCons (iB gAdd (iC (.int 2)) (iCall sp_l_take (iCons (iVar 1) (iCons (iC (.int 2)) iNil)))) (iCons (iB gAdd (iC (.int 1)) (iCall sp_l_take (iCons (iVar 1) (iCons (iC (.int 14)) iNil)))) iNil))) (gTp 2 (gsCons (gNm 3) (gsCons (gNm 4) gsNil))))
    (sSeq (sAsg (iTup (iCons (iCall sp_l_call (iCons (iVar 1) (iCons (iVar 3) (iCons (iCall sp_l_all_kinds iNil) (iCons (iC (.int 16)) iNil))))) (iCons (iCall sp_l_places (iCons (iVar 3) (iCons (iVar 4) iNil))) iNil))) (gTp 2 (gsCons (gNm 5) (gsCons (gNm 6) gsNil))))
    (sSeq (sSetN 7 (nLc (lSeq (iVar 6)) (gNm 14) tYes' (iCall sp_p_moved_by (iCons (iVar 5) (iCons (iVar 3) (iCons (iVar 4) (iCons (iVar 14) iNil))))) [14]))
    (sSeq (sIf (tBl (iB gNe (iFn gSorted (iCons (iVar 7) iNil)) (iVar 6))) (sRet (iC (.bl false))) sNext)
    (sSeq (sIf (tBl (iB gNe (iFz (nLc (lSeq (iVar 7)) (gNm 15) tYes' (iCall sp_p_moved_by (iCons (iCall sp_p_turned (iCons (iVar 5) iNil)) (iCons (iVar 3) (iCons (iVar 4) (iCons (iVar 15) iNil))))) [15])) (iVar 6))) (sRet (iC (.bl false))) sNext)
    (sSeq (sIf (tBl (iB (gIn false) (iIx (iVar 5) (iC (.int 0))) (iTup (iCons (iC (.str "all")) (iCons (iC (.str "up")) (iCons (iC (.str "wheel")) iNil)))))) (sSeq (sSet 8 (iB gAdd (iSl (iVar 5) oNone (oSome (iNeg (iC (.int 1))))) (iTup (iCons (iB gAdd (iIx (iVar 5) (iNeg (iC (.int 1)))) (iB gMul (iCall sp_l_ring (iCons (iVar 5) (iCons (iVar 4) iNil))) (iB gAdd (iC (.int 1)) (iCall sp_l_take (iCons (iVar 1) (iCons (iC (.int 5)) iNil)))))) iNil))))
      (sIf (tAnd' (tBl (iB gNe (iIx (iVar 8) (iNeg (iC (.int 1)))) (iC (.int 0)))) (tBl (iB gNe (iFz (nLc (lSeq (iVar 6)) (gNm 14) tYes' (iCall sp_p_moved_by (iCons (iVar 8) (iCons (iVar 3) (iCons (iVar 4) (iCons (iVar 14) iNil))))) [14])) (iVar 7)))) (sRet (iC (.bl false))) sNext)) sNext)
    (sSeq (sIf (tBl (iB (gIn false) (iIx (iVar 5) (iC (.int 0))) (iTup (iCons (iC (.str "about")) (iCons (iC (.str "swap")) (iCons (iC (.str "front")) iNil)))))) (sIf (tBl (iB gNe (iFz (nLc (lSeq (iVar 7)) (gNm 15) tYes' (iCall sp_p_moved_by (iCons (iVar 5) (iCons (iVar 3) (iCons (iVar 4) (iCons (iVar 15) iNil))))) [15])) (iVar 6))) (sRet (iC (.bl false))) sNext) sNext)
    (sIf (tTru' (iCall sp_p_is_straight (iCons (iVar 5) iNil))) (sFor (lRange1 (iVar 3)) (gNm 9) ib_law_2) sNext))))))))
def ib_law : IS := (sSeq (sSetP 1 (nCall sp_l_bag (iCons (iVar 0) iNil)))
  (sSeq (sFor (lRange1 (iC (.int 8))) (gNm 2) ib_law_3)
  (sRet (iC (.bl true)))))
theorem atI_map {α : Type} {f : α → W} {l : List α} {k : Int} (h0 : 0 ≤ k) (h1 : k < l.length) : atI (l.map f) k = some (f (l[k.toNat]'(by omega))) := by
  rw [atI_pos h0 (by rw [List.length_map]; exact h1)]
  simp
theorem atI_rng {R k : Int} {f : Nat → W} (h0 : 0 ≤ k) (h1 : k < R) : atI ((List.range R.toNat).map f) k = some (f k.toNat) := by
  rw [atI_map h0 (by rw [List.length_range]; omega)]
  simp
abbrev oneL (F R : Int) (c : Call) (f : Int) : W := .lst ((List.range R.toNat).map fun (r : Nat) => pairW (mv F R c ((r : Int), f)))
/-- one turn of the innermost loop -/
def OneH (F R : Int) (c : Call) (f : Int) (x : Slot) : Prop := x = .val (oneL F R c f) ∨ x = .own (.lst ((List.range R.toNat).map fun (r : Nat) => pairW (mv F R c ((r : Int), f))))
theorem law_1 {EI : XI} {D : IEnds} {F R f k b : Int} {c : Call} {S : Sto} {x_script x_bag_here x_turn x_files x_rows x_call_here x_every x_goals x_more x_file x_one_here x_near x_place x_goal x_row : Slot} (k0 : 0 ≤ k) (k1 : k < R - 1) (hx : OneH F R c f x_one_here)
    (q : ∀ (x_near : Slot) (b' : Int), (Near F R c f k → b' = b) → b ≤ b' → b' ≤ b + 1 → D.nx ⟨[x_script, x_bag_here, x_turn, x_files, x_rows, x_call_here, x_every, x_goals, x_more, x_file, .val (.int b'), .val (oneL F R c f), .val (.int k), x_near, x_place, x_goal, x_row], S⟩) :
    ib_law_1 EI D ⟨[x_script, x_bag_here, x_turn, x_files, x_rows, x_call_here, x_every, x_goals, x_more, x_file, .val (.int b), x_one_here, .val (.int k), x_near, x_place, x_goal, x_row], S⟩ := by
  unfold ib_law_1
  rcases hx with rfl | rfl
  all_goals
    refine seq_go fun nx e => ?_
    simp (decide := true) only [bodyI, start0, sSeq, sNext, sNever, sCont, sBreak, sDrop, sRet, sRetN, sRet0, sRetO, sIf, sSet, sSetN, sSetP, sPar, sParEN, sParNE, sPar3, sAsg, gNm, gsNil, gsCons, gTp, sAugI, sIxO, sIxS, sAugS, stoL, setW, iVar, iC, iNil, iCons, iTup, iLst, nLst, iFz, iB, gAdd, gI, gIC, gSub, gMul, gDiv, gMod, gPow, gLt, gLe, gGt, gGe, gEq, gNe, gIn, gIsN, isN, iNeg, tTru', gTru, tBl, iChain, tAnd', tOr', tNot', tYes', iIf, iAnd, iOr, iNot, iIx, gIx, atW, iIxO, ownL, oNone, oSome, iSl, gSl, iRevL, iCall, nCall, iFn, Stt.put, Stt.puts, iMtO, gAppend, gInsert, gExtend, gLen, iLenO, gAbs, gInt, gMinMax, gList, gTuple, iListRg, gIsi, tyN, gRepr, cut_13, cut_1_2, cut_1_3, cut_m2, cut_m3, cut_m4, atI_m2, atI_m3, atI_m4, iOfT, tKdIn, iKdIx, atI_0, atI_1, atI_2, atI_3, ixN_4_0, ixN_4_1, ixN_4_2, ixN_4_3, Sto.put_same, Sto.put_put, toNat_2, List.map, List.replicate, List.length_cons, List.length_nil, List.getElem?_cons_zero, List.getElem?_cons_succ, List.getElem?_nil, List.set_cons_zero, List.set_cons_succ, List.set_nil, List.cons_append, List.nil_append, List.append_nil, if_true, if_false, fz_val, fz_new, so_lst, so_dct, so_ins, eqW_ii, eqW_ss, eqW_tt, eqW_ll, eqW_nn, eqW_bb, eqW_ni, eqW_in, eqW_nt, eqW_tn, eqW_nl, eqW_ln, eqW_is, eqW_si, eqWs_nil, eqWs_cons, eqWs_nc, eqWs_cn, okD_int, okD_str, okD_bl, okD_non, okD_tup, okD_lst, eqOk_ii, eqOk_ss, eqOk_nn, eqOk_bb, eqOk_in, eqOk_ni, eqOk_tt, eqOk_ll, flatW_int, flatW_str, flatW_bl, flatW_non, inW, List.any_cons, List.any_nil, List.all_cons, List.all_nil, Bool.or_false, Bool.or_true, Bool.true_or, Bool.false_or, Bool.and_true, Bool.true_and, Bool.and_false, Bool.false_and, Bool.not_true, Bool.not_false, Bool.false_eq_true, true_and, and_true, beq_self_eq_true, List.isEmpty_cons, List.isEmpty_nil, Int.reduceNeg, eq_self, forall_const,  atI_rng k0 (show k < R by omega), atI_rng (show 0 ≤ k + 1 by omega) (show k + 1 < R by omega)]
    rw [Int.toNat_of_nonneg k0, Int.toNat_of_nonneg (show 0 ≤ k + 1 by omega)]
    unfold Near at q
    generalize mv F R c (k, f) = p at *
    generalize mv F R c (k + 1, f) = p' at *
    subst e
    refine ifb (fun h1 => ?_) (fun h1 => ?_)
    · simp (decide := true) only [bodyI, start0, sSeq, sNext, sNever, sCont, sBreak, sDrop, sRet, sRetN, sRet0, sRetO, sIf, sSet, sSetN, sSetP, sPar, sParEN, sParNE, sPar3, sAsg, gNm, gsNil, gsCons, gTp, sAugI, sIxO, sIxS, sAugS, stoL, setW, iVar, iC, iNil, iCons, iTup, iLst, nLst, iFz, iB, gAdd, gI, gIC, gSub, gMul, gDiv, gMod, gPow, gLt, gLe, gGt, gGe, gEq, gNe, gIn, gIsN, isN, iNeg, tTru', gTru, tBl, iChain, tAnd', tOr', tNot', tYes', iIf, iAnd, iOr, iNot, iIx, gIx, atW, iIxO, ownL, oNone, oSome, iSl, gSl, iRevL, iCall, nCall, iFn, Stt.put, Stt.puts, iMtO, gAppend, gInsert, gExtend, gLen, iLenO, gAbs, gInt, gMinMax, gList, gTuple, iListRg, gIsi, tyN, gRepr, cut_13, cut_1_2, cut_1_3, cut_m2, cut_m3, cut_m4, atI_m2, atI_m3, atI_m4, iOfT, tKdIn, iKdIx, atI_0, atI_1, atI_2, atI_3, ixN_4_0, ixN_4_1, ixN_4_2, ixN_4_3, Sto.put_same, Sto.put_put, toNat_2, List.map, List.replicate, List.length_cons, List.length_nil, List.getElem?_cons_zero, List.getElem?_cons_succ, List.getElem?_nil, List.set_cons_zero, List.set_cons_succ, List.set_nil, List.cons_append, List.nil_append, List.append_nil, if_true, if_false, fz_val, fz_new, so_lst, so_dct, so_ins, eqW_ii, eqW_ss, eqW_tt, eqW_ll, eqW_nn, eqW_bb, eqW_ni, eqW_in, eqW_nt, eqW_tn, eqW_nl, eqW_ln, eqW_is, eqW_si, eqWs_nil, eqWs_cons, eqWs_nc, eqWs_cn, okD_int, okD_str, okD_bl, okD_non, okD_tup, okD_lst, eqOk_ii, eqOk_ss, eqOk_nn, eqOk_bb, eqOk_in, eqOk_ni, eqOk_tt, eqOk_ll, flatW_int, flatW_str, flatW_bl, flatW_non, inW, List.any_cons, List.any_nil, List.all_cons, List.all_nil, Bool.or_false, Bool.or_true, Bool.true_or, Bool.false_or, Bool.and_true, Bool.true_and, Bool.and_false, Bool.false_and, Bool.not_true, Bool.not_false, Bool.false_eq_true, true_and, and_true, beq_self_eq_true, List.isEmpty_cons, List.isEmpty_nil, Int.reduceNeg, eq_self, forall_const]
      refine q _ _ (fun hn => ?_) ?_ ?_
      · have e2 : ((if p.1 - p'.1 < 0 then -(p.1 - p'.1) else p.1 - p'.1) == 1) = true := by
          rw [beq_iff_eq]; split <;> omega
        rw [e2]; simp
      · split <;> omega
      · split <;> omega
    · simp (decide := true) only [bodyI, start0, sSeq, sNext, sNever, sCont, sBreak, sDrop, sRet, sRetN, sRet0, sRetO, sIf, sSet, sSetN, sSetP, sPar, sParEN, sParNE, sPar3, sAsg, gNm, gsNil, gsCons, gTp, sAugI, sIxO, sIxS, sAugS, stoL, setW, iVar, iC, iNil, iCons, iTup, iLst, nLst, iFz, iB, gAdd, gI, gIC, gSub, gMul, gDiv, gMod, gPow, gLt, gLe, gGt, gGe, gEq, gNe, gIn, gIsN, isN, iNeg, tTru', gTru, tBl, iChain, tAnd', tOr', tNot', tYes', iIf, iAnd, iOr, iNot, iIx, gIx, atW, iIxO, ownL, oNone, oSome, iSl, gSl, iRevL, iCall, nCall, iFn, Stt.put, Stt.puts, iMtO, gAppend, gInsert, gExtend, gLen, iLenO, gAbs, gInt, gMinMax, gList, gTuple, iListRg, gIsi, tyN, gRepr, cut_13, cut_1_2, cut_1_3, cut_m2, cut_m3, cut_m4, atI_m2, atI_m3, atI_m4, iOfT, tKdIn, iKdIx, atI_0, atI_1, atI_2, atI_3, ixN_4_0, ixN_4_1, ixN_4_2, ixN_4_3, Sto.put_same, Sto.put_put, toNat_2, List.map, List.replicate, List.length_cons, List.length_nil, List.getElem?_cons_zero, List.getElem?_cons_succ, List.getElem?_nil, List.set_cons_zero, List.set_cons_succ, List.set_nil, List.cons_append, List.nil_append, List.append_nil, if_true, if_false, fz_val, fz_new, so_lst, so_dct, so_ins, eqW_ii, eqW_ss, eqW_tt, eqW_ll, eqW_nn, eqW_bb, eqW_ni, eqW_in, eqW_nt, eqW_tn, eqW_nl, eqW_ln, eqW_is, eqW_si, eqWs_nil, eqWs_cons, eqWs_nc, eqWs_cn, okD_int, okD_str, okD_bl, okD_non, okD_tup, okD_lst, eqOk_ii, eqOk_ss, eqOk_nn, eqOk_bb, eqOk_in, eqOk_ni, eqOk_tt, eqOk_ll, flatW_int, flatW_str, flatW_bl, flatW_non, inW, List.any_cons, List.any_nil, List.all_cons, List.all_nil, Bool.or_false, Bool.or_true, Bool.true_or, Bool.false_or, Bool.and_true, Bool.true_and, Bool.and_false, Bool.false_and, Bool.not_true, Bool.not_false, Bool.false_eq_true, true_and, and_true, beq_self_eq_true, List.isEmpty_cons, List.isEmpty_nil, Int.reduceNeg, eq_self, forall_const]
      rw [h1]
      exact q _ _ (fun hn => absurd (beq_iff_eq.mpr hn.1) (by rw [h1]; decide)) (by simp; omega) (by simp)
theorem law_2 {EI : XI} {D : IEnds} {F R f : Int} {c : Call} {S : Sto} {x_script x_bag_here x_turn x_every x_goals x_more x_breaks x_one_here x_k x_near x_place x_goal x_row : Slot} (hl : Ln F R) (hc : c.ok F) (ho : c.opn = false) (f0 : 0 ≤ f) (f1 : f < F) (hR : R ≤ 100)
    (q : ∀ (x_breaks x_one_here x_k x_near x_row : Slot), D.nx ⟨[x_script, x_bag_here, x_turn, .val (.int F), .val (.int R), .val (c.w), x_every, x_goals, x_more, .val (.int f), x_breaks, x_one_here, x_k, x_near, x_place, x_goal, x_row], S⟩) :
    ib_law_2 EI D ⟨[x_script, x_bag_here, x_turn, .val (.int F), .val (.int R), .val (c.w), x_every, x_goals, x_more, .val (.int f), x_breaks, x_one_here, x_k, x_near, x_place, x_goal, x_row], S⟩ := by
  have hl' := hl
  obtain ⟨l1, l2, l3, l4⟩ := hl'
  unfold ib_law_2
  refine seq_go fun nx e => ?_
  simp (decide := true) only [bodyI, start0, sSeq, sNext, sNever, sCont, sBreak, sDrop, sRet, sRetN, sRet0, sRetO, sIf, sSet, sSetN, sSetP, sPar, sParEN, sParNE, sPar3, sAsg, gNm, gsNil, gsCons, gTp, sAugI, sIxO, sIxS, sAugS, stoL, setW, iVar, iC, iNil, iCons, iTup, iLst, nLst, iFz, iB, gAdd, gI, gIC, gSub, gMul, gDiv, gMod, gPow, gLt, gLe, gGt, gGe, gEq, gNe, gIn, gIsN, isN, iNeg, tTru', gTru, tBl, iChain, tAnd', tOr', tNot', tYes', iIf, iAnd, iOr, iNot, iIx, gIx, atW, iIxO, ownL, oNone, oSome, iSl, gSl, iRevL, iCall, nCall, iFn, Stt.put, Stt.puts, iMtO, gAppend, gInsert, gExtend, gLen, iLenO, gAbs, gInt, gMinMax, gList, gTuple, iListRg, gIsi, tyN, gRepr, cut_13, cut_1_2, cut_1_3, cut_m2, cut_m3, cut_m4, atI_m2, atI_m3, atI_m4, iOfT, tKdIn, iKdIx, atI_0, atI_1, atI_2, atI_3, ixN_4_0, ixN_4_1, ixN_4_2, ixN_4_3, Sto.put_same, Sto.put_put, toNat_2, List.map, List.replicate, List.length_cons, List.length_nil, List.getElem?_cons_zero, List.getElem?_cons_succ, List.getElem?_nil, List.set_cons_zero, List.set_cons_succ, List.set_nil, List.cons_append, List.nil_append, List.append_nil, if_true, if_false, fz_val, fz_new, so_lst, so_dct, so_ins, eqW_ii, eqW_ss, eqW_tt, eqW_ll, eqW_nn, eqW_bb, eqW_ni, eqW_in, eqW_nt, eqW_tn, eqW_nl, eqW_ln, eqW_is, eqW_si, eqWs_nil, eqWs_cons, eqWs_nc, eqWs_cn, okD_int, okD_str, okD_bl, okD_non, okD_tup, okD_lst, eqOk_ii, eqOk_ss, eqOk_nn, eqOk_bb, eqOk_in, eqOk_ni, eqOk_tt, eqOk_ll, flatW_int, flatW_str, flatW_bl, flatW_non, inW, List.any_cons, List.any_nil, List.all_cons, List.all_nil, Bool.or_false, Bool.or_true, Bool.true_or, Bool.false_or, Bool.and_true, Bool.true_and, Bool.and_false, Bool.false_and, Bool.not_true, Bool.not_false, Bool.false_eq_true, true_and, and_true, beq_self_eq_true, List.isEmpty_cons, List.isEmpty_nil, Int.reduceNeg, eq_self, forall_const]
  subst e
  refine seq_go fun nx e => ?_
  simp (decide := true) only [bodyI, start0, sSeq, sNext, sNever, sCont, sBreak, sDrop, sRet, sRetN, sRet0, sRetO, sIf, sSet, sSetN, sSetP, sPar, sParEN, sParNE, sPar3, sAsg, gNm, gsNil, gsCons, gTp, sAugI, sIxO, sIxS, sAugS, stoL, setW, iVar, iC, iNil, iCons, iTup, iLst, nLst, iFz, iB, gAdd, gI, gIC, gSub, gMul, gDiv, gMod, gPow, gLt, gLe, gGt, gGe, gEq, gNe, gIn, gIsN, isN, iNeg, tTru', gTru, tBl, iChain, tAnd', tOr', tNot', tYes', iIf, iAnd, iOr, iNot, iIx, gIx, atW, iIxO, ownL, oNone, oSome, iSl, gSl, iRevL, iCall, nCall, iFn, Stt.put, Stt.puts, iMtO, gAppend, gInsert, gExtend, gLen, iLenO, gAbs, gInt, gMinMax, gList, gTuple, iListRg, gIsi, tyN, gRepr, cut_13, cut_1_2, cut_1_3, cut_m2, cut_m3, cut_m4, atI_m2, atI_m3, atI_m4, iOfT, tKdIn, iKdIx, atI_0, atI_1, atI_2, atI_3, ixN_4_0, ixN_4_1, ixN_4_2, ixN_4_3, Sto.put_same, Sto.put_put, toNat_2, List.map, List.replicate, List.length_cons, List.length_nil, List.getElem?_cons_zero, List.getElem?_cons_succ, List.getElem?_nil, List.set_cons_zero, List.set_cons_succ, List.set_nil, List.cons_append, List.nil_append, List.append_nil, if_true, if_false, fz_val, fz_new, so_lst, so_dct, so_ins, eqW_ii, eqW_ss, eqW_tt, eqW_ll, eqW_nn, eqW_bb, eqW_ni, eqW_in, eqW_nt, eqW_tn, eqW_nl, eqW_ln, eqW_is, eqW_si, eqWs_nil, eqWs_cons, eqWs_nc, eqWs_cn, okD_int, okD_str, okD_bl, okD_non, okD_tup, okD_lst, eqOk_ii, eqOk_ss, eqOk_nn, eqOk_bb, eqOk_in, eqOk_ni, eqOk_tt, eqOk_ll, flatW_int, flatW_str, flatW_bl, flatW_non, inW, List.any_cons, List.any_nil, List.all_cons, List.all_nil, Bool.or_false, Bool.or_true, Bool.true_or, Bool.false_or, Bool.and_true, Bool.true_and, Bool.and_false, Bool.false_and, Bool.not_true, Bool.not_false, Bool.false_eq_true, true_and, and_true, beq_self_eq_true, List.isEmpty_cons, List.isEmpty_nil, Int.reduceNeg, eq_self, forall_const,  nLc, lRange1]
  refine ⟨by unfold i62; omega, lc_fn ⟨[x_script, x_bag_here, x_turn, .val (.int F), .val (.int R), .val (c.w), x_every, x_goals, x_more, .val (.int f), .val (.int 0), x_one_here, x_k, x_near, x_place, x_goal, .none], S⟩ (fun r : Nat => .int (0 + (r : Int))) (fun r : Nat => pairW (mv F R c ((r : Int), f))) (List.range R.toNat) _ (fun r hr Y hY => ?_) rfl (by rw [List.length_range, sizeLine_eq]; omega) fun st' es => ?_⟩
  · simp (decide := true) only [bodyI, start0, sSeq, sNext, sNever, sCont, sBreak, sDrop, sRet, sRetN, sRet0, sRetO, sIf, sSet, sSetN, sSetP, sPar, sParEN, sParNE, sPar3, sAsg, gNm, gsNil, gsCons, gTp, sAugI, sIxO, sIxS, sAugS, stoL, setW, iVar, iC, iNil, iCons, iTup, iLst, nLst, iFz, iB, gAdd, gI, gIC, gSub, gMul, gDiv, gMod, gPow, gLt, gLe, gGt, gGe, gEq, gNe, gIn, gIsN, isN, iNeg, tTru', gTru, tBl, iChain, tAnd', tOr', tNot', tYes', iIf, iAnd, iOr, iNot, iIx, gIx, atW, iIxO, ownL, oNone, oSome, iSl, gSl, iRevL, iCall, nCall, iFn, Stt.put, Stt.puts, iMtO, gAppend, gInsert, gExtend, gLen, iLenO, gAbs, gInt, gMinMax, gList, gTuple, iListRg, gIsi, tyN, gRepr, cut_13, cut_1_2, cut_1_3, cut_m2, cut_m3, cut_m4, atI_m2, atI_m3, atI_m4, iOfT, tKdIn, iKdIx, atI_0, atI_1, atI_2, atI_3, ixN_4_0, ixN_4_1, ixN_4_2, ixN_4_3, Sto.put_same, Sto.put_put, toNat_2, List.map, List.replicate, List.length_cons, List.length_nil, List.getElem?_cons_zero, List.getElem?_cons_succ, List.getElem?_nil, List.set_cons_zero, List.set_cons_succ, List.set_nil, List.cons_append, List.nil_append, List.append_nil, if_true, if_false, fz_val, fz_new, so_lst, so_dct, so_ins, eqW_ii, eqW_ss, eqW_tt, eqW_ll, eqW_nn, eqW_bb, eqW_ni, eqW_in, eqW_nt, eqW_tn, eqW_nl, eqW_ln, eqW_is, eqW_si, eqWs_nil, eqWs_cons, eqWs_nc, eqWs_cn, okD_int, okD_str, okD_bl, okD_non, okD_tup, okD_lst, eqOk_ii, eqOk_ss, eqOk_nn, eqOk_bb, eqOk_in, eqOk_ni, eqOk_tt, eqOk_ll, flatW_int, flatW_str, flatW_bl, flatW_non, inW, List.any_cons, List.any_nil, List.all_cons, List.all_nil, Bool.or_false, Bool.or_true, Bool.true_or, Bool.false_or, Bool.and_true, Bool.true_and, Bool.and_false, Bool.false_and, Bool.not_true, Bool.not_false, Bool.false_eq_true, true_and, and_true, beq_self_eq_true, List.isEmpty_cons, List.isEmpty_nil, Int.reduceNeg, eq_self, forall_const]
    have := List.mem_range.mp hr
    refine ⟨c, F, R, (0 + (r : Int), f), rfl, hl, ⟨by simp only; omega, by simp only; omega, f0, f1⟩, ?_⟩
    simp only [Int.zero_add, fz_val]
    exact hY _ rfl
  · rw [es]
    simp (decide := true) only [bodyI, start0, sSeq, sNext, sNever, sCont, sBreak, sDrop, sRet, sRetN, sRet0, sRetO, sIf, sSet, sSetN, sSetP, sPar, sParEN, sParNE, sPar3, sAsg, gNm, gsNil, gsCons, gTp, sAugI, sIxO, sIxS, sAugS, stoL, setW, iVar, iC, iNil, iCons, iTup, iLst, nLst, iFz, iB, gAdd, gI, gIC, gSub, gMul, gDiv, gMod, gPow, gLt, gLe, gGt, gGe, gEq, gNe, gIn, gIsN, isN, iNeg, tTru', gTru, tBl, iChain, tAnd', tOr', tNot', tYes', iIf, iAnd, iOr, iNot, iIx, gIx, atW, iIxO, ownL, oNone, oSome, iSl, gSl, iRevL, iCall, nCall, iFn, Stt.put, Stt.puts, iMtO, gAppend, gInsert, gExtend, gLen, iLenO, gAbs, gInt, gMinMax, gList, gTuple, iListRg, gIsi, tyN, gRepr, cut_13, cut_1_2, cut_1_3, cut_m2, cut_m3, cut_m4, atI_m2, atI_m3, atI_m4, iOfT, tKdIn, iKdIx, atI_0, atI_1, atI_2, atI_3, ixN_4_0, ixN_4_1, ixN_4_2, ixN_4_3, Sto.put_same, Sto.put_put, toNat_2, List.map, List.replicate, List.length_cons, List.length_nil, List.getElem?_cons_zero, List.getElem?_cons_succ, List.getElem?_nil, List.set_cons_zero, List.set_cons_succ, List.set_nil, List.cons_append, List.nil_append, List.append_nil, if_true, if_false, fz_val, fz_new, so_lst, so_dct, so_ins, eqW_ii, eqW_ss, eqW_tt, eqW_ll, eqW_nn, eqW_bb, eqW_ni, eqW_in, eqW_nt, eqW_tn, eqW_nl, eqW_ln, eqW_is, eqW_si, eqWs_nil, eqWs_cons, eqWs_nc, eqWs_cn, okD_int, okD_str, okD_bl, okD_non, okD_tup, okD_lst, eqOk_ii, eqOk_ss, eqOk_nn, eqOk_bb, eqOk_in, eqOk_ni, eqOk_tt, eqOk_ll, flatW_int, flatW_str, flatW_bl, flatW_non, inW, List.any_cons, List.any_nil, List.all_cons, List.all_nil, Bool.or_false, Bool.or_true, Bool.true_or, Bool.false_or, Bool.and_true, Bool.true_and, Bool.and_false, Bool.false_and, Bool.not_true, Bool.not_false, Bool.false_eq_true, true_and, and_true, beq_self_eq_true, List.isEmpty_cons, List.isEmpty_nil, Int.reduceNeg, eq_self, forall_const]
    subst e
    have hB : ∃ B : Int, ∀ k, 0 ≤ k → k < R - 1 → k ≠ B → Near F R c f k := by
      by_cases z : ∃ k, 0 ≤ k ∧ k < R - 1 ∧ ¬ Near F R c f k
      · obtain ⟨k, k0, k1, hk⟩ := z
        exact ⟨k, fun l l0 l1 hn => Classical.byContradiction fun y => hn (near_one (by omega) (by omega) hc ho f0 f1 l0 l1 k0 k1 y hk)⟩
      · exact ⟨-1, fun l l0 l1 _ => Classical.byContradiction fun y => z ⟨l, l0, l1, y⟩⟩
    obtain ⟨B, hB⟩ := hB
    refine seq_cut (fun st => ∃ (x_one_here x_k x_near x_row : Slot) (b : Int), b ≤ 1 ∧ st = ⟨[x_script, x_bag_here, x_turn, .val (.int F), .val (.int R), .val (c.w), x_every, x_goals, x_more, .val (.int f), .val (.int b), x_one_here, x_k, x_near, x_place, x_goal, x_row], S⟩) (fun nx h => ?_) (fun st ⟨x_one_here, x_k, x_near, x_row, b, b1, es⟩ => ?_)
    · simp (decide := true) only [bodyI, start0, sSeq, sNext, sNever, sCont, sBreak, sDrop, sRet, sRetN, sRet0, sRetO, sIf, sSet, sSetN, sSetP, sPar, sParEN, sParNE, sPar3, sAsg, gNm, gsNil, gsCons, gTp, sAugI, sIxO, sIxS, sAugS, stoL, setW, iVar, iC, iNil, iCons, iTup, iLst, nLst, iFz, iB, gAdd, gI, gIC, gSub, gMul, gDiv, gMod, gPow, gLt, gLe, gGt, gGe, gEq, gNe, gIn, gIsN, isN, iNeg, tTru', gTru, tBl, iChain, tAnd', tOr', tNot', tYes', iIf, iAnd, iOr, iNot, iIx, gIx, atW, iIxO, ownL, oNone, oSome, iSl, gSl, iRevL, iCall, nCall, iFn, Stt.put, Stt.puts, iMtO, gAppend, gInsert, gExtend, gLen, iLenO, gAbs, gInt, gMinMax, gList, gTuple, iListRg, gIsi, tyN, gRepr, cut_13, cut_1_2, cut_1_3, cut_m2, cut_m3, cut_m4, atI_m2, atI_m3, atI_m4, iOfT, tKdIn, iKdIx, atI_0, atI_1, atI_2, atI_3, ixN_4_0, ixN_4_1, ixN_4_2, ixN_4_3, Sto.put_same, Sto.put_put, toNat_2, List.map, List.replicate, List.length_cons, List.length_nil, List.getElem?_cons_zero, List.getElem?_cons_succ, List.getElem?_nil, List.set_cons_zero, List.set_cons_succ, List.set_nil, List.cons_append, List.nil_append, List.append_nil, if_true, if_false, fz_val, fz_new, so_lst, so_dct, so_ins, eqW_ii, eqW_ss, eqW_tt, eqW_ll, eqW_nn, eqW_bb, eqW_ni, eqW_in, eqW_nt, eqW_tn, eqW_nl, eqW_ln, eqW_is, eqW_si, eqWs_nil, eqWs_cons, eqWs_nc, eqWs_cn, okD_int, okD_str, okD_bl, okD_non, okD_tup, okD_lst, eqOk_ii, eqOk_ss, eqOk_nn, eqOk_bb, eqOk_in, eqOk_ni, eqOk_tt, eqOk_ll, flatW_int, flatW_str, flatW_bl, flatW_non, inW, List.any_cons, List.any_nil, List.all_cons, List.all_nil, Bool.or_false, Bool.or_true, Bool.true_or, Bool.false_or, Bool.and_true, Bool.true_and, Bool.and_false, Bool.false_and, Bool.not_true, Bool.not_false, Bool.false_eq_true, true_and, and_true, beq_self_eq_true, List.isEmpty_cons, List.isEmpty_nil, Int.reduceNeg, eq_self, forall_const,  sFor, lRange1]
      refine ⟨by unfold i62; omega, for_rng (fun i st => ∃ (x_one_here x_k x_near x_row : Slot) (b : Int), OneH F R c f x_one_here ∧ 0 ≤ b ∧ b ≤ (if B < i then 1 else 0) ∧ st = ⟨[x_script, x_bag_here, x_turn, .val (.int F), .val (.int R), .val (c.w), x_every, x_goals, x_more, .val (.int f), .val (.int b), x_one_here, x_k, x_near, x_place, x_goal, x_row], S⟩) _ _ ⟨_, _, _, _, 0, .inr rfl, by omega, by split <;> omega, rfl⟩ (fun st ⟨x_one_here, x_k, x_near, x_row, b, _, b0, b1, es⟩ => h _ ⟨_, _, _, _, b, by split at b1 <;> omega, es⟩) fun i hi st nx ⟨x_one_here, x_k, x_near, x_row, b, hx, b0, b1, es⟩ hn => ?_⟩
      subst es
      simp (decide := true) only [bodyI, start0, sSeq, sNext, sNever, sCont, sBreak, sDrop, sRet, sRetN, sRet0, sRetO, sIf, sSet, sSetN, sSetP, sPar, sParEN, sParNE, sPar3, sAsg, gNm, gsNil, gsCons, gTp, sAugI, sIxO, sIxS, sAugS, stoL, setW, iVar, iC, iNil, iCons, iTup, iLst, nLst, iFz, iB, gAdd, gI, gIC, gSub, gMul, gDiv, gMod, gPow, gLt, gLe, gGt, gGe, gEq, gNe, gIn, gIsN, isN, iNeg, tTru', gTru, tBl, iChain, tAnd', tOr', tNot', tYes', iIf, iAnd, iOr, iNot, iIx, gIx, atW, iIxO, ownL, oNone, oSome, iSl, gSl, iRevL, iCall, nCall, iFn, Stt.put, Stt.puts, iMtO, gAppend, gInsert, gExtend, gLen, iLenO, gAbs, gInt, gMinMax, gList, gTuple, iListRg, gIsi, tyN, gRepr, cut_13, cut_1_2, cut_1_3, cut_m2, cut_m3, cut_m4, atI_m2, atI_m3, atI_m4, iOfT, tKdIn, iKdIx, atI_0, atI_1, atI_2, atI_3, ixN_4_0, ixN_4_1, ixN_4_2, ixN_4_3, Sto.put_same, Sto.put_put, toNat_2, List.map, List.replicate, List.length_cons, List.length_nil, List.getElem?_cons_zero, List.getElem?_cons_succ, List.getElem?_nil, List.set_cons_zero, List.set_cons_succ, List.set_nil, List.cons_append, List.nil_append, List.append_nil, if_true, if_false, fz_val, fz_new, so_lst, so_dct, so_ins, eqW_ii, eqW_ss, eqW_tt, eqW_ll, eqW_nn, eqW_bb, eqW_ni, eqW_in, eqW_nt, eqW_tn, eqW_nl, eqW_ln, eqW_is, eqW_si, eqWs_nil, eqWs_cons, eqWs_nc, eqWs_cn, okD_int, okD_str, okD_bl, okD_non, okD_tup, okD_lst, eqOk_ii, eqOk_ss, eqOk_nn, eqOk_bb, eqOk_in, eqOk_ni, eqOk_tt, eqOk_ll, flatW_int, flatW_str, flatW_bl, flatW_non, inW, List.any_cons, List.any_nil, List.all_cons, List.all_nil, Bool.or_false, Bool.or_true, Bool.true_or, Bool.false_or, Bool.and_true, Bool.true_and, Bool.and_false, Bool.false_and, Bool.not_true, Bool.not_false, Bool.false_eq_true, true_and, and_true, beq_self_eq_true, List.isEmpty_cons, List.isEmpty_nil, Int.reduceNeg, eq_self, forall_const]
      rw [Int.zero_add]
      refine law_1 (by omega) (by omega) hx fun x_near b' h1 h2 h3 => hn _ ⟨_, _, _, _, b', .inl rfl, by omega, ?_, rfl⟩
      by_cases z : (i : Int) = B
      · subst z
        rw [if_neg (by omega)] at b1
        rw [if_pos (by omega)]
        omega
      · rw [h1 (hB i (by omega) (by omega) z)]
        refine Int.le_trans b1 ?_
        split <;> split <;> omega
    · subst es
      simp (decide := true) only [bodyI, start0, sSeq, sNext, sNever, sCont, sBreak, sDrop, sRet, sRetN, sRet0, sRetO, sIf, sSet, sSetN, sSetP, sPar, sParEN, sParNE, sPar3, sAsg, gNm, gsNil, gsCons, gTp, sAugI, sIxO, sIxS, sAugS, stoL, setW, iVar, iC, iNil, iCons, iTup, iLst, nLst, iFz, iB, gAdd, gI, gIC, gSub, gMul, gDiv, gMod, gPow, gLt, gLe, gGt, gGe, gEq, gNe, gIn, gIsN, isN, iNeg, tTru', gTru, tBl, iChain, tAnd', tOr', tNot', tYes', iIf, iAnd, iOr, iNot, iIx, gIx, atW, iIxO, ownL, oNone, oSome, iSl, gSl, iRevL, iCall, nCall, iFn, Stt.put, Stt.puts, iMtO, gAppend, gInsert, gExtend, gLen, iLenO, gAbs, gInt, gMinMax, gList, gTuple, iListRg, gIsi, tyN, gRepr, cut_13, cut_1_2, cut_1_3, cut_m2, cut_m3, cut_m4, atI_m2, atI_m3, atI_m4, iOfT, tKdIn, iKdIx, atI_0, atI_1, atI_2, atI_3, ixN_4_0, ixN_4_1, ixN_4_2, ixN_4_3, Sto.put_same, Sto.put_put, toNat_2, List.map, List.replicate, List.length_cons, List.length_nil, List.getElem?_cons_zero, List.getElem?_cons_succ, List.getElem?_nil, List.set_cons_zero, List.set_cons_succ, List.set_nil, List.cons_append, List.nil_append, List.append_nil, if_true, if_false, fz_val, fz_new, so_lst, so_dct, so_ins, eqW_ii, eqW_ss, eqW_tt, eqW_ll, eqW_nn, eqW_bb, eqW_ni, eqW_in, eqW_nt, eqW_tn, eqW_nl, eqW_ln, eqW_is, eqW_si, eqWs_nil, eqWs_cons, eqWs_nc, eqWs_cn, okD_int, okD_str, okD_bl, okD_non, okD_tup, okD_lst, eqOk_ii, eqOk_ss, eqOk_nn, eqOk_bb, eqOk_in, eqOk_ni, eqOk_tt, eqOk_ll, flatW_int, flatW_str, flatW_bl, flatW_non, inW, List.any_cons, List.any_nil, List.all_cons, List.all_nil, Bool.or_false, Bool.or_true, Bool.true_or, Bool.false_or, Bool.and_true, Bool.true_and, Bool.and_false, Bool.false_and, Bool.not_true, Bool.not_false, Bool.false_eq_true, true_and, and_true, beq_self_eq_true, List.isEmpty_cons, List.isEmpty_nil, Int.reduceNeg, eq_self, forall_const]
      exact ifF (by simpa using b1) (q _ _ _ _ _)
theorem lc_mv {F R : Int} {c : Call} {S : Sto} {g : IG} {ie : IE} {vs : List Nat} {Q : SO → Stt → Prop} (ps : List (Int × Int)) (st0 st : Stt) (hl : ps.length ≤ 1000) (e : st.wipe vs = st0)
    (h : ∀ p ∈ ps, ∀ Y : W → Stt → Prop, (∀ st', st'.wipe vs = st0 → Y (pairW (mv F R c p)) st') → g (pairW p) st0 fun st1 => ie noX st1 Y) (q : ∀ st', st'.wipe vs = st0 → Q (.lst ((ps.map (mv F R c)).map pairW)) st') : lcGo g tYes' ie vs Q (ps.map pairW) [] st := by
  refine lc_fn st0 pairW (fun p => pairW (mv F R c p)) ps st h e (by rw [sizeLine_eq]; omega) fun st' es => ?_
  have := q st' es
  rw [List.map_map] at this
  exact this
theorem okD_pairs (ps : List (Int × Int)) : okD 64 (.lst (ps.map pairW)) = true := by
  refine List.all_eq_true.mpr fun w hw => ?_
  obtain ⟨p, _, rfl⟩ := List.mem_map.mp hw
  rfl
theorem eq_pairs (ps : List (Int × Int)) : eqOk (.lst (ps.map pairW)) (.lst (ps.map pairW)) = true ∧ (!eqW (.lst (ps.map pairW)) (.lst (ps.map pairW))) = false :=
  ⟨eqOk_of (okD_pairs ps) (okD_pairs ps), by rw [eqW_refl 64 _ (okD_pairs ps)]; rfl⟩
theorem law_3 {EI : XI} {D : IEnds} {S : Sto} {sc : W} {ad : Addr} {x_turn x_files x_rows x_call_here x_every x_goals x_more x_file x_breaks x_one_here x_k x_near x_place x_goal x_row : Slot} (hb : Bg S ad)
    (q : ∀ (x_turn x_files x_rows x_call_here x_every x_goals x_more x_file x_breaks x_one_here x_k x_near x_place x_goal x_row : Slot) (S : Sto), Bg S ad → D.nx ⟨[.val (sc), .val (.ref ad), x_turn, x_files, x_rows, x_call_here, x_every, x_goals, x_more, x_file, x_breaks, x_one_here, x_k, x_near, x_place, x_goal, x_row], S⟩) :
    ib_law_3 EI D ⟨[.val (sc), .val (.ref ad), x_turn, x_files, x_rows, x_call_here, x_every, x_goals, x_more, x_file, x_breaks, x_one_here, x_k, x_near, x_place, x_goal, x_row], S⟩ := by
  unfold ib_law_3
  refine seq_go fun nx e => ?_
  simp (decide := true) only [bodyI, start0, sSeq, sNext, sNever, sCont, sBreak, sDrop, sRet, sRetN, sRet0, sRetO, sIf, sSet, sSetN, sSetP, sPar, sParEN, sParNE, sPar3, sAsg, gNm, gsNil, gsCons, gTp, sAugI, sIxO, sIxS, sAugS, stoL, setW, iVar, iC, iNil, iCons, iTup, iLst, nLst, iFz, iB, gAdd, gI, gIC, gSub, gMul, gDiv, gMod, gPow, gLt, gLe, gGt, gGe, gEq, gNe, gIn, gIsN, isN, iNeg, tTru', gTru, tBl, iChain, tAnd', tOr', tNot', tYes', iIf, iAnd, iOr, iNot, iIx, gIx, atW, iIxO, ownL, oNone, oSome, iSl, gSl, iRevL, iCall, nCall, iFn, Stt.put, Stt.puts, iMtO, gAppend, gInsert, gExtend, gLen, iLenO, gAbs, gInt, gMinMax, gList, gTuple, iListRg, gIsi, tyN, gRepr, cut_13, cut_1_2, cut_1_3, cut_m2, cut_m3, cut_m4, atI_m2, atI_m3, atI_m4, iOfT, tKdIn, iKdIx, atI_0, atI_1, atI_2, atI_3, ixN_4_0, ixN_4_1, ixN_4_2, ixN_4_3, Sto.put_same, Sto.put_put, toNat_2, List.map, List.replicate, List.length_cons, List.length_nil, List.getElem?_cons_zero, List.getElem?_cons_succ, List.getElem?_nil, List.set_cons_zero, List.set_cons_succ, List.set_nil, List.cons_append, List.nil_append, List.append_nil, if_true, if_false, fz_val, fz_new, so_lst, so_dct, so_ins, eqW_ii, eqW_ss, eqW_tt, eqW_ll, eqW_nn, eqW_bb, eqW_ni, eqW_in, eqW_nt, eqW_tn, eqW_nl, eqW_ln, eqW_is, eqW_si, eqWs_nil, eqWs_cons, eqWs_nc, eqWs_cn, okD_int, okD_str, okD_bl, okD_non, okD_tup, okD_lst, eqOk_ii, eqOk_ss, eqOk_nn, eqOk_bb, eqOk_in, eqOk_ni, eqOk_tt, eqOk_ll, flatW_int, flatW_str, flatW_bl, flatW_non, inW, List.any_cons, List.any_nil, List.all_cons, List.all_nil, Bool.or_false, Bool.or_true, Bool.true_or, Bool.false_or, Bool.and_true, Bool.true_and, Bool.and_false, Bool.false_and, Bool.not_true, Bool.not_false, Bool.false_eq_true, true_and, and_true, beq_self_eq_true, List.isEmpty_cons, List.isEmpty_nil, Int.reduceNeg, eq_self, forall_const]
  refine cl_take (by omega) (bd_of (by omega) (by omega)) hb fun f S1 f0 f1 b1 => ?_
  simp (decide := true) only [bodyI, start0, sSeq, sNext, sNever, sCont, sBreak, sDrop, sRet, sRetN, sRet0, sRetO, sIf, sSet, sSetN, sSetP, sPar, sParEN, sParNE, sPar3, sAsg, gNm, gsNil, gsCons, gTp, sAugI, sIxO, sIxS, sAugS, stoL, setW, iVar, iC, iNil, iCons, iTup, iLst, nLst, iFz, iB, gAdd, gI, gIC, gSub, gMul, gDiv, gMod, gPow, gLt, gLe, gGt, gGe, gEq, gNe, gIn, gIsN, isN, iNeg, tTru', gTru, tBl, iChain, tAnd', tOr', tNot', tYes', iIf, iAnd, iOr, iNot, iIx, gIx, atW, iIxO, ownL, oNone, oSome, iSl, gSl, iRevL, iCall, nCall, iFn, Stt.put, Stt.puts, iMtO, gAppend, gInsert, gExtend, gLen, iLenO, gAbs, gInt, gMinMax, gList, gTuple, iListRg, gIsi, tyN, gRepr, cut_13, cut_1_2, cut_1_3, cut_m2, cut_m3, cut_m4, atI_m2, atI_m3, atI_m4, iOfT, tKdIn, iKdIx, atI_0, atI_1, atI_2, atI_3, ixN_4_0, ixN_4_1, ixN_4_2, ixN_4_3, Sto.put_same, Sto.put_put, toNat_2, List.map, List.replicate, List.length_cons, List.length_nil, List.getElem?_cons_zero, List.getElem?_cons_succ, List.getElem?_nil, List.set_cons_zero, List.set_cons_succ, List.set_nil, List.cons_append, List.nil_append, List.append_nil, if_true, if_false, fz_val, fz_new, so_lst, so_dct, so_ins, eqW_ii, eqW_ss, eqW_tt, eqW_ll, eqW_nn, eqW_bb, eqW_ni, eqW_in, eqW_nt, eqW_tn, eqW_nl, eqW_ln, eqW_is, eqW_si, eqWs_nil, eqWs_cons, eqWs_nc, eqWs_cn, okD_int, okD_str, okD_bl, okD_non, okD_tup, okD_lst, eqOk_ii, eqOk_ss, eqOk_nn, eqOk_bb, eqOk_in, eqOk_ni, eqOk_tt, eqOk_ll, flatW_int, flatW_str, flatW_bl, flatW_non, inW, List.any_cons, List.any_nil, List.all_cons, List.all_nil, Bool.or_false, Bool.or_true, Bool.true_or, Bool.false_or, Bool.and_true, Bool.true_and, Bool.and_false, Bool.false_and, Bool.not_true, Bool.not_false, Bool.false_eq_true, true_and, and_true, beq_self_eq_true, List.isEmpty_cons, List.isEmpty_nil, Int.reduceNeg, eq_self, forall_const]
  refine cl_take (by omega) (bd_of (by omega) (by omega)) b1.bg fun r S2 r0 r1 b2 => ?_
  simp (decide := true) only [bodyI, start0, sSeq, sNext, sNever, sCont, sBreak, sDrop, sRet, sRetN, sRet0, sRetO, sIf, sSet, sSetN, sSetP, sPar, sParEN, sParNE, sPar3, sAsg, gNm, gsNil, gsCons, gTp, sAugI, sIxO, sIxS, sAugS, stoL, setW, iVar, iC, iNil, iCons, iTup, iLst, nLst, iFz, iB, gAdd, gI, gIC, gSub, gMul, gDiv, gMod, gPow, gLt, gLe, gGt, gGe, gEq, gNe, gIn, gIsN, isN, iNeg, tTru', gTru, tBl, iChain, tAnd', tOr', tNot', tYes', iIf, iAnd, iOr, iNot, iIx, gIx, atW, iIxO, ownL, oNone, oSome, iSl, gSl, iRevL, iCall, nCall, iFn, Stt.put, Stt.puts, iMtO, gAppend, gInsert, gExtend, gLen, iLenO, gAbs, gInt, gMinMax, gList, gTuple, iListRg, gIsi, tyN, gRepr, cut_13, cut_1_2, cut_1_3, cut_m2, cut_m3, cut_m4, atI_m2, atI_m3, atI_m4, iOfT, tKdIn, iKdIx, atI_0, atI_1, atI_2, atI_3, ixN_4_0, ixN_4_1, ixN_4_2, ixN_4_3, Sto.put_same, Sto.put_put, toNat_2, List.map, List.replicate, List.length_cons, List.length_nil, List.getElem?_cons_zero, List.getElem?_cons_succ, List.getElem?_nil, List.set_cons_zero, List.set_cons_succ, List.set_nil, List.cons_append, List.nil_append, List.append_nil, if_true, if_false, fz_val, fz_new, so_lst, so_dct, so_ins, eqW_ii, eqW_ss, eqW_tt, eqW_ll, eqW_nn, eqW_bb, eqW_ni, eqW_in, eqW_nt, eqW_tn, eqW_nl, eqW_ln, eqW_is, eqW_si, eqWs_nil, eqWs_cons, eqWs_nc, eqWs_cn, okD_int, okD_str, okD_bl, okD_non, okD_tup, okD_lst, eqOk_ii, eqOk_ss, eqOk_nn, eqOk_bb, eqOk_in, eqOk_ni, eqOk_tt, eqOk_ll, flatW_int, flatW_str, flatW_bl, flatW_non, inW, List.any_cons, List.any_nil, List.all_cons, List.all_nil, Bool.or_false, Bool.or_true, Bool.true_or, Bool.false_or, Bool.and_true, Bool.true_and, Bool.and_false, Bool.false_and, Bool.not_true, Bool.not_false, Bool.false_eq_true, true_and, and_true, beq_self_eq_true, List.isEmpty_cons, List.isEmpty_nil, Int.reduceNeg, eq_self, forall_const]
  subst e
  generalize hF : 2 + f = F
  generalize hRR : 1 + r = R
  have hl : Ln F R := ⟨by omega, by omega, by omega, by omega⟩
  refine seq_go fun nx e => ?_
  simp (decide := true) only [bodyI, start0, sSeq, sNext, sNever, sCont, sBreak, sDrop, sRet, sRetN, sRet0, sRetO, sIf, sSet, sSetN, sSetP, sPar, sParEN, sParNE, sPar3, sAsg, gNm, gsNil, gsCons, gTp, sAugI, sIxO, sIxS, sAugS, stoL, setW, iVar, iC, iNil, iCons, iTup, iLst, nLst, iFz, iB, gAdd, gI, gIC, gSub, gMul, gDiv, gMod, gPow, gLt, gLe, gGt, gGe, gEq, gNe, gIn, gIsN, isN, iNeg, tTru', gTru, tBl, iChain, tAnd', tOr', tNot', tYes', iIf, iAnd, iOr, iNot, iIx, gIx, atW, iIxO, ownL, oNone, oSome, iSl, gSl, iRevL, iCall, nCall, iFn, Stt.put, Stt.puts, iMtO, gAppend, gInsert, gExtend, gLen, iLenO, gAbs, gInt, gMinMax, gList, gTuple, iListRg, gIsi, tyN, gRepr, cut_13, cut_1_2, cut_1_3, cut_m2, cut_m3, cut_m4, atI_m2, atI_m3, atI_m4, iOfT, tKdIn, iKdIx, atI_0, atI_1, atI_2, atI_3, ixN_4_0, ixN_4_1, ixN_4_2, ixN_4_3, Sto.put_same, Sto.put_put, toNat_2, List.map, List.replicate, List.length_cons, List.length_nil, List.getElem?_cons_zero, List.getElem?_cons_succ, List.getElem?_nil, List.set_cons_zero, List.set_cons_succ, List.set_nil, List.cons_append, List.nil_append, List.append_nil, if_true, if_false, fz_val, fz_new, so_lst, so_dct, so_ins, eqW_ii, eqW_ss, eqW_tt, eqW_ll, eqW_nn, eqW_bb, eqW_ni, eqW_in, eqW_nt, eqW_tn, eqW_nl, eqW_ln, eqW_is, eqW_si, eqWs_nil, eqWs_cons, eqWs_nc, eqWs_cn, okD_int, okD_str, okD_bl, okD_non, okD_tup, okD_lst, eqOk_ii, eqOk_ss, eqOk_nn, eqOk_bb, eqOk_in, eqOk_ni, eqOk_tt, eqOk_ll, flatW_int, flatW_str, flatW_bl, flatW_non, inW, List.any_cons, List.any_nil, List.all_cons, List.all_nil, Bool.or_false, Bool.or_true, Bool.true_or, Bool.false_or, Bool.and_true, Bool.true_and, Bool.and_false, Bool.false_and, Bool.not_true, Bool.not_false, Bool.false_eq_true, true_and, and_true, beq_self_eq_true, List.isEmpty_cons, List.isEmpty_nil, Int.reduceNeg, eq_self, forall_const]
  refine ⟨rfl, ?_⟩
  simp (decide := true) only [bodyI, start0, sSeq, sNext, sNever, sCont, sBreak, sDrop, sRet, sRetN, sRet0, sRetO, sIf, sSet, sSetN, sSetP, sPar, sParEN, sParNE, sPar3, sAsg, gNm, gsNil, gsCons, gTp, sAugI, sIxO, sIxS, sAugS, stoL, setW, iVar, iC, iNil, iCons, iTup, iLst, nLst, iFz, iB, gAdd, gI, gIC, gSub, gMul, gDiv, gMod, gPow, gLt, gLe, gGt, gGe, gEq, gNe, gIn, gIsN, isN, iNeg, tTru', gTru, tBl, iChain, tAnd', tOr', tNot', tYes', iIf, iAnd, iOr, iNot, iIx, gIx, atW, iIxO, ownL, oNone, oSome, iSl, gSl, iRevL, iCall, nCall, iFn, Stt.put, Stt.puts, iMtO, gAppend, gInsert, gExtend, gLen, iLenO, gAbs, gInt, gMinMax, gList, gTuple, iListRg, gIsi, tyN, gRepr, cut_13, cut_1_2, cut_1_3, cut_m2, cut_m3, cut_m4, atI_m2, atI_m3, atI_m4, iOfT, tKdIn, iKdIx, atI_0, atI_1, atI_2, atI_3, ixN_4_0, ixN_4_1, ixN_4_2, ixN_4_3, Sto.put_same, Sto.put_put, toNat_2, List.map, List.replicate, List.length_cons, List.length_nil, List.getElem?_cons_zero, List.getElem?_cons_succ, List.getElem?_nil, List.set_cons_zero, List.set_cons_succ, List.set_nil, List.cons_append, List.nil_append, List.append_nil, if_true, if_false, fz_val, fz_new, so_lst, so_dct, so_ins, eqW_ii, eqW_ss, eqW_tt, eqW_ll, eqW_nn, eqW_bb, eqW_ni, eqW_in, eqW_nt, eqW_tn, eqW_nl, eqW_ln, eqW_is, eqW_si, eqWs_nil, eqWs_cons, eqWs_nc, eqWs_cn, okD_int, okD_str, okD_bl, okD_non, okD_tup, okD_lst, eqOk_ii, eqOk_ss, eqOk_nn, eqOk_bb, eqOk_in, eqOk_ni, eqOk_tt, eqOk_ll, flatW_int, flatW_str, flatW_bl, flatW_non, inW, List.any_cons, List.any_nil, List.all_cons, List.all_nil, Bool.or_false, Bool.or_true, Bool.true_or, Bool.false_or, Bool.and_true, Bool.true_and, Bool.and_false, Bool.false_and, Bool.not_true, Bool.not_false, Bool.false_eq_true, true_and, and_true, beq_self_eq_true, List.isEmpty_cons, List.isEmpty_nil, Int.reduceNeg, eq_self, forall_const]
  refine ⟨ad, F, 16, tenW, rfl, by omega, by omega, by omega, bd_of (by omega) (by omega), by decide, by decide, fun _ h => h, b2.bg, fun c S3 hc hlt hw b3 => ?_⟩
  simp (decide := true) only [bodyI, start0, sSeq, sNext, sNever, sCont, sBreak, sDrop, sRet, sRetN, sRet0, sRetO, sIf, sSet, sSetN, sSetP, sPar, sParEN, sParNE, sPar3, sAsg, gNm, gsNil, gsCons, gTp, sAugI, sIxO, sIxS, sAugS, stoL, setW, iVar, iC, iNil, iCons, iTup, iLst, nLst, iFz, iB, gAdd, gI, gIC, gSub, gMul, gDiv, gMod, gPow, gLt, gLe, gGt, gGe, gEq, gNe, gIn, gIsN, isN, iNeg, tTru', gTru, tBl, iChain, tAnd', tOr', tNot', tYes', iIf, iAnd, iOr, iNot, iIx, gIx, atW, iIxO, ownL, oNone, oSome, iSl, gSl, iRevL, iCall, nCall, iFn, Stt.put, Stt.puts, iMtO, gAppend, gInsert, gExtend, gLen, iLenO, gAbs, gInt, gMinMax, gList, gTuple, iListRg, gIsi, tyN, gRepr, cut_13, cut_1_2, cut_1_3, cut_m2, cut_m3, cut_m4, atI_m2, atI_m3, atI_m4, iOfT, tKdIn, iKdIx, atI_0, atI_1, atI_2, atI_3, ixN_4_0, ixN_4_1, ixN_4_2, ixN_4_3, Sto.put_same, Sto.put_put, toNat_2, List.map, List.replicate, List.length_cons, List.length_nil, List.getElem?_cons_zero, List.getElem?_cons_succ, List.getElem?_nil, List.set_cons_zero, List.set_cons_succ, List.set_nil, List.cons_append, List.nil_append, List.append_nil, if_true, if_false, fz_val, fz_new, so_lst, so_dct, so_ins, eqW_ii, eqW_ss, eqW_tt, eqW_ll, eqW_nn, eqW_bb, eqW_ni, eqW_in, eqW_nt, eqW_tn, eqW_nl, eqW_ln, eqW_is, eqW_si, eqWs_nil, eqWs_cons, eqWs_nc, eqWs_cn, okD_int, okD_str, okD_bl, okD_non, okD_tup, okD_lst, eqOk_ii, eqOk_ss, eqOk_nn, eqOk_bb, eqOk_in, eqOk_ni, eqOk_tt, eqOk_ll, flatW_int, flatW_str, flatW_bl, flatW_non, inW, List.any_cons, List.any_nil, List.all_cons, List.all_nil, Bool.or_false, Bool.or_true, Bool.true_or, Bool.false_or, Bool.and_true, Bool.true_and, Bool.and_false, Bool.false_and, Bool.not_true, Bool.not_false, Bool.false_eq_true, true_and, and_true, beq_self_eq_true, List.isEmpty_cons, List.isEmpty_nil, Int.reduceNeg, eq_self, forall_const]
  refine ⟨F, R, rfl, by omega, by omega, by omega, by omega, ?_⟩
  simp (decide := true) only [bodyI, start0, sSeq, sNext, sNever, sCont, sBreak, sDrop, sRet, sRetN, sRet0, sRetO, sIf, sSet, sSetN, sSetP, sPar, sParEN, sParNE, sPar3, sAsg, gNm, gsNil, gsCons, gTp, sAugI, sIxO, sIxS, sAugS, stoL, setW, iVar, iC, iNil, iCons, iTup, iLst, nLst, iFz, iB, gAdd, gI, gIC, gSub, gMul, gDiv, gMod, gPow, gLt, gLe, gGt, gGe, gEq, gNe, gIn, gIsN, isN, iNeg, tTru', gTru, tBl, iChain, tAnd', tOr', tNot', tYes', iIf, iAnd, iOr, iNot, iIx, gIx, atW, iIxO, ownL, oNone, oSome, iSl, gSl, iRevL, iCall, nCall, iFn, Stt.put, Stt.puts, iMtO, gAppend, gInsert, gExtend, gLen, iLenO, gAbs, gInt, gMinMax, gList, gTuple, iListRg, gIsi, tyN, gRepr, cut_13, cut_1_2, cut_1_3, cut_m2, cut_m3, cut_m4, atI_m2, atI_m3, atI_m4, iOfT, tKdIn, iKdIx, atI_0, atI_1, atI_2, atI_3, ixN_4_0, ixN_4_1, ixN_4_2, ixN_4_3, Sto.put_same, Sto.put_put, toNat_2, List.map, List.replicate, List.length_cons, List.length_nil, List.getElem?_cons_zero, List.getElem?_cons_succ, List.getElem?_nil, List.set_cons_zero, List.set_cons_succ, List.set_nil, List.cons_append, List.nil_append, List.append_nil, if_true, if_false, fz_val, fz_new, so_lst, so_dct, so_ins, eqW_ii, eqW_ss, eqW_tt, eqW_ll, eqW_nn, eqW_bb, eqW_ni, eqW_in, eqW_nt, eqW_tn, eqW_nl, eqW_ln, eqW_is, eqW_si, eqWs_nil, eqWs_cons, eqWs_nc, eqWs_cn, okD_int, okD_str, okD_bl, okD_non, okD_tup, okD_lst, eqOk_ii, eqOk_ss, eqOk_nn, eqOk_bb, eqOk_in, eqOk_ni, eqOk_tt, eqOk_ll, flatW_int, flatW_str, flatW_bl, flatW_non, inW, List.any_cons, List.any_nil, List.all_cons, List.all_nil, Bool.or_false, Bool.or_true, Bool.true_or, Bool.false_or, Bool.and_true, Bool.true_and, Bool.and_false, Bool.false_and, Bool.not_true, Bool.not_false, Bool.false_eq_true, true_and, and_true, beq_self_eq_true, List.isEmpty_cons, List.isEmpty_nil, Int.reduceNeg, eq_self, forall_const]
  subst e
  have pl : (plcs F R).length ≤ 1000 := by
    have l1 := plcs_len (F := F) (R := R) (by omega) (by omega)
    have l2 : R * F ≤ 14 * 3 := Int.mul_le_mul (by omega) (by omega) (by omega) (by omega)
    omega
  refine seq_go fun nx e => ?_
  simp (decide := true) only [bodyI, start0, sSeq, sNext, sNever, sCont, sBreak, sDrop, sRet, sRetN, sRet0, sRetO, sIf, sSet, sSetN, sSetP, sPar, sParEN, sParNE, sPar3, sAsg, gNm, gsNil, gsCons, gTp, sAugI, sIxO, sIxS, sAugS, stoL, setW, iVar, iC, iNil, iCons, iTup, iLst, nLst, iFz, iB, gAdd, gI, gIC, gSub, gMul, gDiv, gMod, gPow, gLt, gLe, gGt, gGe, gEq, gNe, gIn, gIsN, isN, iNeg, tTru', gTru, tBl, iChain, tAnd', tOr', tNot', tYes', iIf, iAnd, iOr, iNot, iIx, gIx, atW, iIxO, ownL, oNone, oSome, iSl, gSl, iRevL, iCall, nCall, iFn, Stt.put, Stt.puts, iMtO, gAppend, gInsert, gExtend, gLen, iLenO, gAbs, gInt, gMinMax, gList, gTuple, iListRg, gIsi, tyN, gRepr, cut_13, cut_1_2, cut_1_3, cut_m2, cut_m3, cut_m4, atI_m2, atI_m3, atI_m4, iOfT, tKdIn, iKdIx, atI_0, atI_1, atI_2, atI_3, ixN_4_0, ixN_4_1, ixN_4_2, ixN_4_3, Sto.put_same, Sto.put_put, toNat_2, List.map, List.replicate, List.length_cons, List.length_nil, List.getElem?_cons_zero, List.getElem?_cons_succ, List.getElem?_nil, List.set_cons_zero, List.set_cons_succ, List.set_nil, List.cons_append, List.nil_append, List.append_nil, if_true, if_false, fz_val, fz_new, so_lst, so_dct, so_ins, eqW_ii, eqW_ss, eqW_tt, eqW_ll, eqW_nn, eqW_bb, eqW_ni, eqW_in, eqW_nt, eqW_tn, eqW_nl, eqW_ln, eqW_is, eqW_si, eqWs_nil, eqWs_cons, eqWs_nc, eqWs_cn, okD_int, okD_str, okD_bl, okD_non, okD_tup, okD_lst, eqOk_ii, eqOk_ss, eqOk_nn, eqOk_bb, eqOk_in, eqOk_ni, eqOk_tt, eqOk_ll, flatW_int, flatW_str, flatW_bl, flatW_non, inW, List.any_cons, List.any_nil, List.all_cons, List.all_nil, Bool.or_false, Bool.or_true, Bool.true_or, Bool.false_or, Bool.and_true, Bool.true_and, Bool.and_false, Bool.false_and, Bool.not_true, Bool.not_false, Bool.false_eq_true, true_and, and_true, beq_self_eq_true, List.isEmpty_cons, List.isEmpty_nil, Int.reduceNeg, eq_self, forall_const,  nLc, lSeq, gItems]
  refine lc_mv (F := F) (R := R) (c := c) (S := S3) (plcs F R) ⟨[.val (sc), .val (.ref ad), x_turn, .val (.int F), .val (.int R), .val (c.w), .val (.lst ((plcs F R).map pairW)), x_goals, x_more, x_file, x_breaks, x_one_here, x_k, x_near, .none, x_goal, x_row], S3⟩ _ pl rfl (fun p hp Y hY => ?_) fun st' es => ?_
  · simp (decide := true) only [bodyI, start0, sSeq, sNext, sNever, sCont, sBreak, sDrop, sRet, sRetN, sRet0, sRetO, sIf, sSet, sSetN, sSetP, sPar, sParEN, sParNE, sPar3, sAsg, gNm, gsNil, gsCons, gTp, sAugI, sIxO, sIxS, sAugS, stoL, setW, iVar, iC, iNil, iCons, iTup, iLst, nLst, iFz, iB, gAdd, gI, gIC, gSub, gMul, gDiv, gMod, gPow, gLt, gLe, gGt, gGe, gEq, gNe, gIn, gIsN, isN, iNeg, tTru', gTru, tBl, iChain, tAnd', tOr', tNot', tYes', iIf, iAnd, iOr, iNot, iIx, gIx, atW, iIxO, ownL, oNone, oSome, iSl, gSl, iRevL, iCall, nCall, iFn, Stt.put, Stt.puts, iMtO, gAppend, gInsert, gExtend, gLen, iLenO, gAbs, gInt, gMinMax, gList, gTuple, iListRg, gIsi, tyN, gRepr, cut_13, cut_1_2, cut_1_3, cut_m2, cut_m3, cut_m4, atI_m2, atI_m3, atI_m4, iOfT, tKdIn, iKdIx, atI_0, atI_1, atI_2, atI_3, ixN_4_0, ixN_4_1, ixN_4_2, ixN_4_3, Sto.put_same, Sto.put_put, toNat_2, List.map, List.replicate, List.length_cons, List.length_nil, List.getElem?_cons_zero, List.getElem?_cons_succ, List.getElem?_nil, List.set_cons_zero, List.set_cons_succ, List.set_nil, List.cons_append, List.nil_append, List.append_nil, if_true, if_false, fz_val, fz_new, so_lst, so_dct, so_ins, eqW_ii, eqW_ss, eqW_tt, eqW_ll, eqW_nn, eqW_bb, eqW_ni, eqW_in, eqW_nt, eqW_tn, eqW_nl, eqW_ln, eqW_is, eqW_si, eqWs_nil, eqWs_cons, eqWs_nc, eqWs_cn, okD_int, okD_str, okD_bl, okD_non, okD_tup, okD_lst, eqOk_ii, eqOk_ss, eqOk_nn, eqOk_bb, eqOk_in, eqOk_ni, eqOk_tt, eqOk_ll, flatW_int, flatW_str, flatW_bl, flatW_non, inW, List.any_cons, List.any_nil, List.all_cons, List.all_nil, Bool.or_false, Bool.or_true, Bool.true_or, Bool.false_or, Bool.and_true, Bool.true_and, Bool.and_false, Bool.false_and, Bool.not_true, Bool.not_false, Bool.false_eq_true, true_and, and_true, beq_self_eq_true, List.isEmpty_cons, List.isEmpty_nil, Int.reduceNeg, eq_self, forall_const]
    exact ⟨c, F, R, p, rfl, hl, plcs_mem.mp hp, hY _ rfl⟩
  rw [es]
  simp (decide := true) only [bodyI, start0, sSeq, sNext, sNever, sCont, sBreak, sDrop, sRet, sRetN, sRet0, sRetO, sIf, sSet, sSetN, sSetP, sPar, sParEN, sParNE, sPar3, sAsg, gNm, gsNil, gsCons, gTp, sAugI, sIxO, sIxS, sAugS, stoL, setW, iVar, iC, iNil, iCons, iTup, iLst, nLst, iFz, iB, gAdd, gI, gIC, gSub, gMul, gDiv, gMod, gPow, gLt, gLe, gGt, gGe, gEq, gNe, gIn, gIsN, isN, iNeg, tTru', gTru, tBl, iChain, tAnd', tOr', tNot', tYes', iIf, iAnd, iOr, iNot, iIx, gIx, atW, iIxO, ownL, oNone, oSome, iSl, gSl, iRevL, iCall, nCall, iFn, Stt.put, Stt.puts, iMtO, gAppend, gInsert, gExtend, gLen, iLenO, gAbs, gInt, gMinMax, gList, gTuple, iListRg, gIsi, tyN, gRepr, cut_13, cut_1_2, cut_1_3, cut_m2, cut_m3, cut_m4, atI_m2, atI_m3, atI_m4, iOfT, tKdIn, iKdIx, atI_0, atI_1, atI_2, atI_3, ixN_4_0, ixN_4_1, ixN_4_2, ixN_4_3, Sto.put_same, Sto.put_put, toNat_2, List.map, List.replicate, List.length_cons, List.length_nil, List.getElem?_cons_zero, List.getElem?_cons_succ, List.getElem?_nil, List.set_cons_zero, List.set_cons_succ, List.set_nil, List.cons_append, List.nil_append, List.append_nil, if_true, if_false, fz_val, fz_new, so_lst, so_dct, so_ins, eqW_ii, eqW_ss, eqW_tt, eqW_ll, eqW_nn, eqW_bb, eqW_ni, eqW_in, eqW_nt, eqW_tn, eqW_nl, eqW_ln, eqW_is, eqW_si, eqWs_nil, eqWs_cons, eqWs_nc, eqWs_cn, okD_int, okD_str, okD_bl, okD_non, okD_tup, okD_lst, eqOk_ii, eqOk_ss, eqOk_nn, eqOk_bb, eqOk_in, eqOk_ni, eqOk_tt, eqOk_ll, flatW_int, flatW_str, flatW_bl, flatW_non, inW, List.any_cons, List.any_nil, List.all_cons, List.all_nil, Bool.or_false, Bool.or_true, Bool.true_or, Bool.false_or, Bool.and_true, Bool.true_and, Bool.and_false, Bool.false_and, Bool.not_true, Bool.not_false, Bool.false_eq_true, true_and, and_true, beq_self_eq_true, List.isEmpty_cons, List.isEmpty_nil, Int.reduceNeg, eq_self, forall_const]
  subst e
  refine seq_go fun nx e => ?_
  simp (decide := true) only [bodyI, start0, sSeq, sNext, sNever, sCont, sBreak, sDrop, sRet, sRetN, sRet0, sRetO, sIf, sSet, sSetN, sSetP, sPar, sParEN, sParNE, sPar3, sAsg, gNm, gsNil, gsCons, gTp, sAugI, sIxO, sIxS, sAugS, stoL, setW, iVar, iC, iNil, iCons, iTup, iLst, nLst, iFz, iB, gAdd, gI, gIC, gSub, gMul, gDiv, gMod, gPow, gLt, gLe, gGt, gGe, gEq, gNe, gIn, gIsN, isN, iNeg, tTru', gTru, tBl, iChain, tAnd', tOr', tNot', tYes', iIf, iAnd, iOr, iNot, iIx, gIx, atW, iIxO, ownL, oNone, oSome, iSl, gSl, iRevL, iCall, nCall, iFn, Stt.put, Stt.puts, iMtO, gAppend, gInsert, gExtend, gLen, iLenO, gAbs, gInt, gMinMax, gList, gTuple, iListRg, gIsi, tyN, gRepr, cut_13, cut_1_2, cut_1_3, cut_m2, cut_m3, cut_m4, atI_m2, atI_m3, atI_m4, iOfT, tKdIn, iKdIx, atI_0, atI_1, atI_2, atI_3, ixN_4_0, ixN_4_1, ixN_4_2, ixN_4_3, Sto.put_same, Sto.put_put, toNat_2, List.map, List.replicate, List.length_cons, List.length_nil, List.getElem?_cons_zero, List.getElem?_cons_succ, List.getElem?_nil, List.set_cons_zero, List.set_cons_succ, List.set_nil, List.cons_append, List.nil_append, List.append_nil, if_true, if_false, fz_val, fz_new, so_lst, so_dct, so_ins, eqW_ii, eqW_ss, eqW_tt, eqW_ll, eqW_nn, eqW_bb, eqW_ni, eqW_in, eqW_nt, eqW_tn, eqW_nl, eqW_ln, eqW_is, eqW_si, eqWs_nil, eqWs_cons, eqWs_nc, eqWs_cn, okD_int, okD_str, okD_bl, okD_non, okD_tup, okD_lst, eqOk_ii, eqOk_ss, eqOk_nn, eqOk_bb, eqOk_in, eqOk_ni, eqOk_tt, eqOk_ll, flatW_int, flatW_str, flatW_bl, flatW_non, inW, List.any_cons, List.any_nil, List.all_cons, List.all_nil, Bool.or_false, Bool.or_true, Bool.true_or, Bool.false_or, Bool.and_true, Bool.true_and, Bool.and_false, Bool.false_and, Bool.not_true, Bool.not_false, Bool.false_eq_true, true_and, and_true, beq_self_eq_true, List.isEmpty_cons, List.isEmpty_nil, Int.reduceNeg, eq_self, forall_const,  gSorted]
  refine .inr ⟨_, rfl, fun ps hp hs => ?_⟩
  rw [sorted_goals (by omega) (by omega) hc hp hs]
  refine ⟨(eq_pairs _).1, ifF (eq_pairs _).2 ?_⟩
  subst e
  refine seq_go fun nx e => ?_
  simp (decide := true) only [bodyI, start0, sSeq, sNext, sNever, sCont, sBreak, sDrop, sRet, sRetN, sRet0, sRetO, sIf, sSet, sSetN, sSetP, sPar, sParEN, sParNE, sPar3, sAsg, gNm, gsNil, gsCons, gTp, sAugI, sIxO, sIxS, sAugS, stoL, setW, iVar, iC, iNil, iCons, iTup, iLst, nLst, iFz, iB, gAdd, gI, gIC, gSub, gMul, gDiv, gMod, gPow, gLt, gLe, gGt, gGe, gEq, gNe, gIn, gIsN, isN, iNeg, tTru', gTru, tBl, iChain, tAnd', tOr', tNot', tYes', iIf, iAnd, iOr, iNot, iIx, gIx, atW, iIxO, ownL, oNone, oSome, iSl, gSl, iRevL, iCall, nCall, iFn, Stt.put, Stt.puts, iMtO, gAppend, gInsert, gExtend, gLen, iLenO, gAbs, gInt, gMinMax, gList, gTuple, iListRg, gIsi, tyN, gRepr, cut_13, cut_1_2, cut_1_3, cut_m2, cut_m3, cut_m4, atI_m2, atI_m3, atI_m4, iOfT, tKdIn, iKdIx, atI_0, atI_1, atI_2, atI_3, ixN_4_0, ixN_4_1, ixN_4_2, ixN_4_3, Sto.put_same, Sto.put_put, toNat_2, List.map, List.replicate, List.length_cons, List.length_nil, List.getElem?_cons_zero, List.getElem?_cons_succ, List.getElem?_nil, List.set_cons_zero, List.set_cons_succ, List.set_nil, List.cons_append, List.nil_append, List.append_nil, if_true, if_false, fz_val, fz_new, so_lst, so_dct, so_ins, eqW_ii, eqW_ss, eqW_tt, eqW_ll, eqW_nn, eqW_bb, eqW_ni, eqW_in, eqW_nt, eqW_tn, eqW_nl, eqW_ln, eqW_is, eqW_si, eqWs_nil, eqWs_cons, eqWs_nc, eqWs_cn, okD_int, okD_str, okD_bl, okD_non, okD_tup, okD_lst, eqOk_ii, eqOk_ss, eqOk_nn, eqOk_bb, eqOk_in, eqOk_ni, eqOk_tt, eqOk_ll, flatW_int, flatW_str, flatW_bl, flatW_non, inW, List.any_cons, List.any_nil, List.all_cons, List.all_nil, Bool.or_false, Bool.or_true, Bool.true_or, Bool.false_or, Bool.and_true, Bool.true_and, Bool.and_false, Bool.false_and, Bool.not_true, Bool.not_false, Bool.false_eq_true, true_and, and_true, beq_self_eq_true, List.isEmpty_cons, List.isEmpty_nil, Int.reduceNeg, eq_self, forall_const,  nLc, lSeq, gItems]
  refine lc_mv (F := F) (R := R) (c := c.tn) (S := S3) ((plcs F R).map (mv F R c)) ⟨[.val (sc), .val (.ref ad), x_turn, .val (.int F), .val (.int R), .val (c.w), .val (.lst ((plcs F R).map pairW)), .val (.lst (((plcs F R).map (mv F R c)).map pairW)), x_more, x_file, x_breaks, x_one_here, x_k, x_near, .none, .none, x_row], S3⟩ _ (by rw [List.length_map]; exact pl) rfl (fun p hp Y hY => ?_) fun st' es => ?_
  · simp (decide := true) only [bodyI, start0, sSeq, sNext, sNever, sCont, sBreak, sDrop, sRet, sRetN, sRet0, sRetO, sIf, sSet, sSetN, sSetP, sPar, sParEN, sParNE, sPar3, sAsg, gNm, gsNil, gsCons, gTp, sAugI, sIxO, sIxS, sAugS, stoL, setW, iVar, iC, iNil, iCons, iTup, iLst, nLst, iFz, iB, gAdd, gI, gIC, gSub, gMul, gDiv, gMod, gPow, gLt, gLe, gGt, gGe, gEq, gNe, gIn, gIsN, isN, iNeg, tTru', gTru, tBl, iChain, tAnd', tOr', tNot', tYes', iIf, iAnd, iOr, iNot, iIx, gIx, atW, iIxO, ownL, oNone, oSome, iSl, gSl, iRevL, iCall, nCall, iFn, Stt.put, Stt.puts, iMtO, gAppend, gInsert, gExtend, gLen, iLenO, gAbs, gInt, gMinMax, gList, gTuple, iListRg, gIsi, tyN, gRepr, cut_13, cut_1_2, cut_1_3, cut_m2, cut_m3, cut_m4, atI_m2, atI_m3, atI_m4, iOfT, tKdIn, iKdIx, atI_0, atI_1, atI_2, atI_3, ixN_4_0, ixN_4_1, ixN_4_2, ixN_4_3, Sto.put_same, Sto.put_put, toNat_2, List.map, List.replicate, List.length_cons, List.length_nil, List.getElem?_cons_zero, List.getElem?_cons_succ, List.getElem?_nil, List.set_cons_zero, List.set_cons_succ, List.set_nil, List.cons_append, List.nil_append, List.append_nil, if_true, if_false, fz_val, fz_new, so_lst, so_dct, so_ins, eqW_ii, eqW_ss, eqW_tt, eqW_ll, eqW_nn, eqW_bb, eqW_ni, eqW_in, eqW_nt, eqW_tn, eqW_nl, eqW_ln, eqW_is, eqW_si, eqWs_nil, eqWs_cons, eqWs_nc, eqWs_cn, okD_int, okD_str, okD_bl, okD_non, okD_tup, okD_lst, eqOk_ii, eqOk_ss, eqOk_nn, eqOk_bb, eqOk_in, eqOk_ni, eqOk_tt, eqOk_ll, flatW_int, flatW_str, flatW_bl, flatW_non, inW, List.any_cons, List.any_nil, List.all_cons, List.all_nil, Bool.or_false, Bool.or_true, Bool.true_or, Bool.false_or, Bool.and_true, Bool.true_and, Bool.and_false, Bool.false_and, Bool.not_true, Bool.not_false, Bool.false_eq_true, true_and, and_true, beq_self_eq_true, List.isEmpty_cons, List.isEmpty_nil, Int.reduceNeg, eq_self, forall_const]
    obtain ⟨p', hp', rfl⟩ := List.mem_map.mp hp
    exact ⟨c, rfl, c.tn, F, R, _, rfl, hl, mv_in (by omega) (by omega) hc (plcs_mem.mp hp'), hY _ rfl⟩
  rw [es, goals_back (by omega) (by omega) hc]
  simp (decide := true) only [bodyI, start0, sSeq, sNext, sNever, sCont, sBreak, sDrop, sRet, sRetN, sRet0, sRetO, sIf, sSet, sSetN, sSetP, sPar, sParEN, sParNE, sPar3, sAsg, gNm, gsNil, gsCons, gTp, sAugI, sIxO, sIxS, sAugS, stoL, setW, iVar, iC, iNil, iCons, iTup, iLst, nLst, iFz, iB, gAdd, gI, gIC, gSub, gMul, gDiv, gMod, gPow, gLt, gLe, gGt, gGe, gEq, gNe, gIn, gIsN, isN, iNeg, tTru', gTru, tBl, iChain, tAnd', tOr', tNot', tYes', iIf, iAnd, iOr, iNot, iIx, gIx, atW, iIxO, ownL, oNone, oSome, iSl, gSl, iRevL, iCall, nCall, iFn, Stt.put, Stt.puts, iMtO, gAppend, gInsert, gExtend, gLen, iLenO, gAbs, gInt, gMinMax, gList, gTuple, iListRg, gIsi, tyN, gRepr, cut_13, cut_1_2, cut_1_3, cut_m2, cut_m3, cut_m4, atI_m2, atI_m3, atI_m4, iOfT, tKdIn, iKdIx, atI_0, atI_1, atI_2, atI_3, ixN_4_0, ixN_4_1, ixN_4_2, ixN_4_3, Sto.put_same, Sto.put_put, toNat_2, List.map, List.replicate, List.length_cons, List.length_nil, List.getElem?_cons_zero, List.getElem?_cons_succ, List.getElem?_nil, List.set_cons_zero, List.set_cons_succ, List.set_nil, List.cons_append, List.nil_append, List.append_nil, if_true, if_false, fz_val, fz_new, so_lst, so_dct, so_ins, eqW_ii, eqW_ss, eqW_tt, eqW_ll, eqW_nn, eqW_bb, eqW_ni, eqW_in, eqW_nt, eqW_tn, eqW_nl, eqW_ln, eqW_is, eqW_si, eqWs_nil, eqWs_cons, eqWs_nc, eqWs_cn, okD_int, okD_str, okD_bl, okD_non, okD_tup, okD_lst, eqOk_ii, eqOk_ss, eqOk_nn, eqOk_bb, eqOk_in, eqOk_ni, eqOk_tt, eqOk_ll, flatW_int, flatW_str, flatW_bl, flatW_non, inW, List.any_cons, List.any_nil, List.all_cons, List.all_nil, Bool.or_false, Bool.or_true, Bool.true_or, Bool.false_or, Bool.and_true, Bool.true_and, Bool.and_false, Bool.false_and, Bool.not_true, Bool.not_false, Bool.false_eq_true, true_and, and_true, beq_self_eq_true, List.isEmpty_cons, List.isEmpty_nil, Int.reduceNeg, eq_self, forall_const]
  refine ⟨(eq_pairs _).1, ifF (eq_pairs _).2 ?_⟩
  subst e
  refine seq_cut (fun st => ∃ (x_more x_place x_goal : Slot) (S : Sto), Bg S ad ∧ st = ⟨[.val (sc), .val (.ref ad), x_turn, .val (.int F), .val (.int R), .val (c.w), .val (.lst ((plcs F R).map pairW)), .val (.lst (((plcs F R).map (mv F R c)).map pairW)), x_more, x_file, x_breaks, x_one_here, x_k, x_near, x_place, x_goal, x_row], S⟩) (fun nx h => ?_) (fun st ⟨x_more, x_place, x_goal, S4, b4, es⟩ => ?_)
  · have fin : ∀ (cm : Call) (j : Int), cm = c.plus ((if c.word = "wheel" then 2 * R else R) * j) → ∀ (kk : Int) (S4 : Sto), Bg S4 ad → atI (match cm.w with | .tup ws => ws | _ => []) (-1) = some (.int kk) → sIf (tAnd' (tBl (iB gNe (iIx (iVar 8) (iNeg (iC (.int 1)))) (iC (.int 0)))) (tBl (iB gNe (iFz (nLc (lSeq (iVar 6)) (gNm 14) tYes' (iCall sp_p_moved_by (iCons (iVar 8) (iCons (iVar 3) (iCons (iVar 4) (iCons (iVar 14) iNil))))) [14])) (iVar 7)))) (sRet (iC (.bl false))) sNext EI { D with nx := nx } ⟨[.val (sc), .val (.ref ad), x_turn, .val (.int F), .val (.int R), .val (c.w), .val (.lst ((plcs F R).map pairW)), .val (.lst (((plcs F R).map (mv F R c)).map pairW)), .val (cm.w), x_file, x_breaks, x_one_here, x_k, x_near, .none, .none, x_row], S4⟩ := fun cm j ec kk S4 b4 ek => by
      have ew : ∃ ws, cm.w = .tup ws := by cases cm <;> exact ⟨_, rfl⟩
      obtain ⟨ws, ew⟩ := ew
      rw [ew] at ek
      simp only at ek
      simp only [sIf, tAnd', tBl, iB, iIx, iVar, iNeg, iC, ew, gIx, List.getElem?_cons_succ, List.getElem?_cons_zero, gNe, atW, ek, eqOk_ii, eqW_ii, true_and]
      refine ifb (fun z => ?_) (fun z => h _ ⟨_, _, _, S4, b4, by rw [← ew]⟩)
      simp (decide := true) only [bodyI, start0, sSeq, sNext, sNever, sCont, sBreak, sDrop, sRet, sRetN, sRet0, sRetO, sIf, sSet, sSetN, sSetP, sPar, sParEN, sParNE, sPar3, sAsg, gNm, gsNil, gsCons, gTp, sAugI, sIxO, sIxS, sAugS, stoL, setW, iVar, iC, iNil, iCons, iTup, iLst, nLst, iFz, iB, gAdd, gI, gIC, gSub, gMul, gDiv, gMod, gPow, gLt, gLe, gGt, gGe, gEq, gNe, gIn, gIsN, isN, iNeg, tTru', gTru, tBl, iChain, tAnd', tOr', tNot', tYes', iIf, iAnd, iOr, iNot, iIx, gIx, atW, iIxO, ownL, oNone, oSome, iSl, gSl, iRevL, iCall, nCall, iFn, Stt.put, Stt.puts, iMtO, gAppend, gInsert, gExtend, gLen, iLenO, gAbs, gInt, gMinMax, gList, gTuple, iListRg, gIsi, tyN, gRepr, cut_13, cut_1_2, cut_1_3, cut_m2, cut_m3, cut_m4, atI_m2, atI_m3, atI_m4, iOfT, tKdIn, iKdIx, atI_0, atI_1, atI_2, atI_3, ixN_4_0, ixN_4_1, ixN_4_2, ixN_4_3, Sto.put_same, Sto.put_put, toNat_2, List.map, List.replicate, List.length_cons, List.length_nil, List.getElem?_cons_zero, List.getElem?_cons_succ, List.getElem?_nil, List.set_cons_zero, List.set_cons_succ, List.set_nil, List.cons_append, List.nil_append, List.append_nil, if_true, if_false, fz_val, fz_new, so_lst, so_dct, so_ins, eqW_ii, eqW_ss, eqW_tt, eqW_ll, eqW_nn, eqW_bb, eqW_ni, eqW_in, eqW_nt, eqW_tn, eqW_nl, eqW_ln, eqW_is, eqW_si, eqWs_nil, eqWs_cons, eqWs_nc, eqWs_cn, okD_int, okD_str, okD_bl, okD_non, okD_tup, okD_lst, eqOk_ii, eqOk_ss, eqOk_nn, eqOk_bb, eqOk_in, eqOk_ni, eqOk_tt, eqOk_ll, flatW_int, flatW_str, flatW_bl, flatW_non, inW, List.any_cons, List.any_nil, List.all_cons, List.all_nil, Bool.or_false, Bool.or_true, Bool.true_or, Bool.false_or, Bool.and_true, Bool.true_and, Bool.and_false, Bool.false_and, Bool.not_true, Bool.not_false, Bool.false_eq_true, true_and, and_true, beq_self_eq_true, List.isEmpty_cons, List.isEmpty_nil, Int.reduceNeg, eq_self, forall_const,  nLc, lSeq, gItems]
      refine lc_mv (F := F) (R := R) (c := cm) (S := S4) (plcs F R) ⟨[.val (sc), .val (.ref ad), x_turn, .val (.int F), .val (.int R), .val (c.w), .val (.lst ((plcs F R).map pairW)), .val (.lst (((plcs F R).map (mv F R c)).map pairW)), .val (cm.w), x_file, x_breaks, x_one_here, x_k, x_near, .none, .none, x_row], S4⟩ _ pl (by rw [ew]; rfl) (fun p hp Y hY => ?_) fun st' es => ?_
      · simp (decide := true) only [bodyI, start0, sSeq, sNext, sNever, sCont, sBreak, sDrop, sRet, sRetN, sRet0, sRetO, sIf, sSet, sSetN, sSetP, sPar, sParEN, sParNE, sPar3, sAsg, gNm, gsNil, gsCons, gTp, sAugI, sIxO, sIxS, sAugS, stoL, setW, iVar, iC, iNil, iCons, iTup, iLst, nLst, iFz, iB, gAdd, gI, gIC, gSub, gMul, gDiv, gMod, gPow, gLt, gLe, gGt, gGe, gEq, gNe, gIn, gIsN, isN, iNeg, tTru', gTru, tBl, iChain, tAnd', tOr', tNot', tYes', iIf, iAnd, iOr, iNot, iIx, gIx, atW, iIxO, ownL, oNone, oSome, iSl, gSl, iRevL, iCall, nCall, iFn, Stt.put, Stt.puts, iMtO, gAppend, gInsert, gExtend, gLen, iLenO, gAbs, gInt, gMinMax, gList, gTuple, iListRg, gIsi, tyN, gRepr, cut_13, cut_1_2, cut_1_3, cut_m2, cut_m3, cut_m4, atI_m2, atI_m3, atI_m4, iOfT, tKdIn, iKdIx, atI_0, atI_1, atI_2, atI_3, ixN_4_0, ixN_4_1, ixN_4_2, ixN_4_3, Sto.put_same, Sto.put_put, toNat_2, List.map, List.replicate, List.length_cons, List.length_nil, List.getElem?_cons_zero, List.getElem?_cons_succ, List.getElem?_nil, List.set_cons_zero, List.set_cons_succ, List.set_nil, List.cons_append, List.nil_append, List.append_nil, if_true, if_false, fz_val, fz_new, so_lst, so_dct, so_ins, eqW_ii, eqW_ss, eqW_tt, eqW_ll, eqW_nn, eqW_bb, eqW_ni, eqW_in, eqW_nt, eqW_tn, eqW_nl, eqW_ln, eqW_is, eqW_si, eqWs_nil, eqWs_cons, eqWs_nc, eqWs_cn, okD_int, okD_str, okD_bl, okD_non, okD_tup, okD_lst, eqOk_ii, eqOk_ss, eqOk_nn, eqOk_bb, eqOk_in, eqOk_ni, eqOk_tt, eqOk_ll, flatW_int, flatW_str, flatW_bl, flatW_non, inW, List.any_cons, List.any_nil, List.all_cons, List.all_nil, Bool.or_false, Bool.or_true, Bool.true_or, Bool.false_or, Bool.and_true, Bool.true_and, Bool.and_false, Bool.false_and, Bool.not_true, Bool.not_false, Bool.false_eq_true, true_and, and_true, beq_self_eq_true, List.isEmpty_cons, List.isEmpty_nil, Int.reduceNeg, eq_self, forall_const]
        exact ⟨cm, F, R, p, rfl, hl, plcs_mem.mp hp, hY _ rfl⟩
      · rw [es]
        simp (decide := true) only [bodyI, start0, sSeq, sNext, sNever, sCont, sBreak, sDrop, sRet, sRetN, sRet0, sRetO, sIf, sSet, sSetN, sSetP, sPar, sParEN, sParNE, sPar3, sAsg, gNm, gsNil, gsCons, gTp, sAugI, sIxO, sIxS, sAugS, stoL, setW, iVar, iC, iNil, iCons, iTup, iLst, nLst, iFz, iB, gAdd, gI, gIC, gSub, gMul, gDiv, gMod, gPow, gLt, gLe, gGt, gGe, gEq, gNe, gIn, gIsN, isN, iNeg, tTru', gTru, tBl, iChain, tAnd', tOr', tNot', tYes', iIf, iAnd, iOr, iNot, iIx, gIx, atW, iIxO, ownL, oNone, oSome, iSl, gSl, iRevL, iCall, nCall, iFn, Stt.put, Stt.puts, iMtO, gAppend, gInsert, gExtend, gLen, iLenO, gAbs, gInt, gMinMax, gList, gTuple, iListRg, gIsi, tyN, gRepr, cut_13, cut_1_2, cut_1_3, cut_m2, cut_m3, cut_m4, atI_m2, atI_m3, atI_m4, iOfT, tKdIn, iKdIx, atI_0, atI_1, atI_2, atI_3, ixN_4_0, ixN_4_1, ixN_4_2, ixN_4_3, Sto.put_same, Sto.put_put, toNat_2, List.map, List.replicate, List.length_cons, List.length_nil, List.getElem?_cons_zero, List.getElem?_cons_succ, List.getElem?_nil, List.set_cons_zero, List.set_cons_succ, List.set_nil, List.cons_append, List.nil_append, List.append_nil, if_true, if_false, fz_val, fz_new, so_lst, so_dct, so_ins, eqW_ii, eqW_ss, eqW_tt, eqW_ll, eqW_nn, eqW_bb, eqW_ni, eqW_in, eqW_nt, eqW_tn, eqW_nl, eqW_ln, eqW_is, eqW_si, eqWs_nil, eqWs_cons, eqWs_nc, eqWs_cn, okD_int, okD_str, okD_bl, okD_non, okD_tup, okD_lst, eqOk_ii, eqOk_ss, eqOk_nn, eqOk_bb, eqOk_in, eqOk_ni, eqOk_tt, eqOk_ll, flatW_int, flatW_str, flatW_bl, flatW_non, inW, List.any_cons, List.any_nil, List.all_cons, List.all_nil, Bool.or_false, Bool.or_true, Bool.true_or, Bool.false_or, Bool.and_true, Bool.true_and, Bool.and_false, Bool.false_and, Bool.not_true, Bool.not_false, Bool.false_eq_true, true_and, and_true, beq_self_eq_true, List.isEmpty_cons, List.isEmpty_nil, Int.reduceNeg, eq_self, forall_const]
        have e2 : (plcs F R).map (mv F R cm) = (plcs F R).map (mv F R c) := List.map_congr_left fun p _ => by rw [ec]; exact mv_plus
        rw [e2]
        exact ⟨(eq_pairs _).1, ifF (eq_pairs _).2 (h _ ⟨_, _, _, S4, b4, rfl⟩)⟩
    cases c with
    | all k =>
      refine ⟨rfl, rfl, ifT (by decide) (seq_go fun nx2 e2 => ?_)⟩
      simp (decide := true) only [bodyI, start0, sSeq, sNext, sNever, sCont, sBreak, sDrop, sRet, sRetN, sRet0, sRetO, sIf, sSet, sSetN, sSetP, sPar, sParEN, sParNE, sPar3, sAsg, gNm, gsNil, gsCons, gTp, sAugI, sIxO, sIxS, sAugS, stoL, setW, iVar, iC, iNil, iCons, iTup, iLst, nLst, iFz, iB, gAdd, gI, gIC, gSub, gMul, gDiv, gMod, gPow, gLt, gLe, gGt, gGe, gEq, gNe, gIn, gIsN, isN, iNeg, tTru', gTru, tBl, iChain, tAnd', tOr', tNot', tYes', iIf, iAnd, iOr, iNot, iIx, gIx, atW, iIxO, ownL, oNone, oSome, iSl, gSl, iRevL, iCall, nCall, iFn, Stt.put, Stt.puts, iMtO, gAppend, gInsert, gExtend, gLen, iLenO, gAbs, gInt, gMinMax, gList, gTuple, iListRg, gIsi, tyN, gRepr, cut_13, cut_1_2, cut_1_3, cut_m2, cut_m3, cut_m4, atI_m2, atI_m3, atI_m4, iOfT, tKdIn, iKdIx, atI_0, atI_1, atI_2, atI_3, ixN_4_0, ixN_4_1, ixN_4_2, ixN_4_3, Sto.put_same, Sto.put_put, toNat_2, List.map, List.replicate, List.length_cons, List.length_nil, List.getElem?_cons_zero, List.getElem?_cons_succ, List.getElem?_nil, List.set_cons_zero, List.set_cons_succ, List.set_nil, List.cons_append, List.nil_append, List.append_nil, if_true, if_false, fz_val, fz_new, so_lst, so_dct, so_ins, eqW_ii, eqW_ss, eqW_tt, eqW_ll, eqW_nn, eqW_bb, eqW_ni, eqW_in, eqW_nt, eqW_tn, eqW_nl, eqW_ln, eqW_is, eqW_si, eqWs_nil, eqWs_cons, eqWs_nc, eqWs_cn, okD_int, okD_str, okD_bl, okD_non, okD_tup, okD_lst, eqOk_ii, eqOk_ss, eqOk_nn, eqOk_bb, eqOk_in, eqOk_ni, eqOk_tt, eqOk_ll, flatW_int, flatW_str, flatW_bl, flatW_non, inW, List.any_cons, List.any_nil, List.all_cons, List.all_nil, Bool.or_false, Bool.or_true, Bool.true_or, Bool.false_or, Bool.and_true, Bool.true_and, Bool.and_false, Bool.false_and, Bool.not_true, Bool.not_false, Bool.false_eq_true, true_and, and_true, beq_self_eq_true, List.isEmpty_cons, List.isEmpty_nil, Int.reduceNeg, eq_self, forall_const,  Call.w]
      refine ⟨.all k, R, rfl, ?_⟩
      simp (decide := true) only [bodyI, start0, sSeq, sNext, sNever, sCont, sBreak, sDrop, sRet, sRetN, sRet0, sRetO, sIf, sSet, sSetN, sSetP, sPar, sParEN, sParNE, sPar3, sAsg, gNm, gsNil, gsCons, gTp, sAugI, sIxO, sIxS, sAugS, stoL, setW, iVar, iC, iNil, iCons, iTup, iLst, nLst, iFz, iB, gAdd, gI, gIC, gSub, gMul, gDiv, gMod, gPow, gLt, gLe, gGt, gGe, gEq, gNe, gIn, gIsN, isN, iNeg, tTru', gTru, tBl, iChain, tAnd', tOr', tNot', tYes', iIf, iAnd, iOr, iNot, iIx, gIx, atW, iIxO, ownL, oNone, oSome, iSl, gSl, iRevL, iCall, nCall, iFn, Stt.put, Stt.puts, iMtO, gAppend, gInsert, gExtend, gLen, iLenO, gAbs, gInt, gMinMax, gList, gTuple, iListRg, gIsi, tyN, gRepr, cut_13, cut_1_2, cut_1_3, cut_m2, cut_m3, cut_m4, atI_m2, atI_m3, atI_m4, iOfT, tKdIn, iKdIx, atI_0, atI_1, atI_2, atI_3, ixN_4_0, ixN_4_1, ixN_4_2, ixN_4_3, Sto.put_same, Sto.put_put, toNat_2, List.map, List.replicate, List.length_cons, List.length_nil, List.getElem?_cons_zero, List.getElem?_cons_succ, List.getElem?_nil, List.set_cons_zero, List.set_cons_succ, List.set_nil, List.cons_append, List.nil_append, List.append_nil, if_true, if_false, fz_val, fz_new, so_lst, so_dct, so_ins, eqW_ii, eqW_ss, eqW_tt, eqW_ll, eqW_nn, eqW_bb, eqW_ni, eqW_in, eqW_nt, eqW_tn, eqW_nl, eqW_ln, eqW_is, eqW_si, eqWs_nil, eqWs_cons, eqWs_nc, eqWs_cn, okD_int, okD_str, okD_bl, okD_non, okD_tup, okD_lst, eqOk_ii, eqOk_ss, eqOk_nn, eqOk_bb, eqOk_in, eqOk_ni, eqOk_tt, eqOk_ll, flatW_int, flatW_str, flatW_bl, flatW_non, inW, List.any_cons, List.any_nil, List.all_cons, List.all_nil, Bool.or_false, Bool.or_true, Bool.true_or, Bool.false_or, Bool.and_true, Bool.true_and, Bool.and_false, Bool.false_and, Bool.not_true, Bool.not_false, Bool.false_eq_true, true_and, and_true, beq_self_eq_true, List.isEmpty_cons, List.isEmpty_nil, Int.reduceNeg, eq_self, forall_const]
      refine cl_take (by omega) (bd_of (by omega) (by omega)) b3.bg fun t S4 t0 t1 b4 => ?_
      simp (decide := true) only [bodyI, start0, sSeq, sNext, sNever, sCont, sBreak, sDrop, sRet, sRetN, sRet0, sRetO, sIf, sSet, sSetN, sSetP, sPar, sParEN, sParNE, sPar3, sAsg, gNm, gsNil, gsCons, gTp, sAugI, sIxO, sIxS, sAugS, stoL, setW, iVar, iC, iNil, iCons, iTup, iLst, nLst, iFz, iB, gAdd, gI, gIC, gSub, gMul, gDiv, gMod, gPow, gLt, gLe, gGt, gGe, gEq, gNe, gIn, gIsN, isN, iNeg, tTru', gTru, tBl, iChain, tAnd', tOr', tNot', tYes', iIf, iAnd, iOr, iNot, iIx, gIx, atW, iIxO, ownL, oNone, oSome, iSl, gSl, iRevL, iCall, nCall, iFn, Stt.put, Stt.puts, iMtO, gAppend, gInsert, gExtend, gLen, iLenO, gAbs, gInt, gMinMax, gList, gTuple, iListRg, gIsi, tyN, gRepr, cut_13, cut_1_2, cut_1_3, cut_m2, cut_m3, cut_m4, atI_m2, atI_m3, atI_m4, iOfT, tKdIn, iKdIx, atI_0, atI_1, atI_2, atI_3, ixN_4_0, ixN_4_1, ixN_4_2, ixN_4_3, Sto.put_same, Sto.put_put, toNat_2, List.map, List.replicate, List.length_cons, List.length_nil, List.getElem?_cons_zero, List.getElem?_cons_succ, List.getElem?_nil, List.set_cons_zero, List.set_cons_succ, List.set_nil, List.cons_append, List.nil_append, List.append_nil, if_true, if_false, fz_val, fz_new, so_lst, so_dct, so_ins, eqW_ii, eqW_ss, eqW_tt, eqW_ll, eqW_nn, eqW_bb, eqW_ni, eqW_in, eqW_nt, eqW_tn, eqW_nl, eqW_ln, eqW_is, eqW_si, eqWs_nil, eqWs_cons, eqWs_nc, eqWs_cn, okD_int, okD_str, okD_bl, okD_non, okD_tup, okD_lst, eqOk_ii, eqOk_ss, eqOk_nn, eqOk_bb, eqOk_in, eqOk_ni, eqOk_tt, eqOk_ll, flatW_int, flatW_str, flatW_bl, flatW_non, inW, List.any_cons, List.any_nil, List.all_cons, List.all_nil, Bool.or_false, Bool.or_true, Bool.true_or, Bool.false_or, Bool.and_true, Bool.true_and, Bool.and_false, Bool.false_and, Bool.not_true, Bool.not_false, Bool.false_eq_true, true_and, and_true, beq_self_eq_true, List.isEmpty_cons, List.isEmpty_nil, Int.reduceNeg, eq_self, forall_const]
      subst e2
      exact ⟨small_r (by omega) (by omega), fin (.all (k + (if (Call.all k).word = "wheel" then 2 * R else R) * (1 + t))) (1 + t) rfl _ S4 b4.bg rfl⟩
    | up g k =>
      refine ⟨rfl, rfl, ifT (by decide) (seq_go fun nx2 e2 => ?_)⟩
      simp (decide := true) only [bodyI, start0, sSeq, sNext, sNever, sCont, sBreak, sDrop, sRet, sRetN, sRet0, sRetO, sIf, sSet, sSetN, sSetP, sPar, sParEN, sParNE, sPar3, sAsg, gNm, gsNil, gsCons, gTp, sAugI, sIxO, sIxS, sAugS, stoL, setW, iVar, iC, iNil, iCons, iTup, iLst, nLst, iFz, iB, gAdd, gI, gIC, gSub, gMul, gDiv, gMod, gPow, gLt, gLe, gGt, gGe, gEq, gNe, gIn, gIsN, isN, iNeg, tTru', gTru, tBl, iChain, tAnd', tOr', tNot', tYes', iIf, iAnd, iOr, iNot, iIx, gIx, atW, iIxO, ownL, oNone, oSome, iSl, gSl, iRevL, iCall, nCall, iFn, Stt.put, Stt.puts, iMtO, gAppend, gInsert, gExtend, gLen, iLenO, gAbs, gInt, gMinMax, gList, gTuple, iListRg, gIsi, tyN, gRepr, cut_13, cut_1_2, cut_1_3, cut_m2, cut_m3, cut_m4, atI_m2, atI_m3, atI_m4, iOfT, tKdIn, iKdIx, atI_0, atI_1, atI_2, atI_3, ixN_4_0, ixN_4_1, ixN_4_2, ixN_4_3, Sto.put_same, Sto.put_put, toNat_2, List.map, List.replicate, List.length_cons, List.length_nil, List.getElem?_cons_zero, List.getElem?_cons_succ, List.getElem?_nil, List.set_cons_zero, List.set_cons_succ, List.set_nil, List.cons_append, List.nil_append, List.append_nil, if_true, if_false, fz_val, fz_new, so_lst, so_dct, so_ins, eqW_ii, eqW_ss, eqW_tt, eqW_ll, eqW_nn, eqW_bb, eqW_ni, eqW_in, eqW_nt, eqW_tn, eqW_nl, eqW_ln, eqW_is, eqW_si, eqWs_nil, eqWs_cons, eqWs_nc, eqWs_cn, okD_int, okD_str, okD_bl, okD_non, okD_tup, okD_lst, eqOk_ii, eqOk_ss, eqOk_nn, eqOk_bb, eqOk_in, eqOk_ni, eqOk_tt, eqOk_ll, flatW_int, flatW_str, flatW_bl, flatW_non, inW, List.any_cons, List.any_nil, List.all_cons, List.all_nil, Bool.or_false, Bool.or_true, Bool.true_or, Bool.false_or, Bool.and_true, Bool.true_and, Bool.and_false, Bool.false_and, Bool.not_true, Bool.not_false, Bool.false_eq_true, true_and, and_true, beq_self_eq_true, List.isEmpty_cons, List.isEmpty_nil, Int.reduceNeg, eq_self, forall_const,  Call.w]
      refine ⟨.up g k, R, rfl, ?_⟩
      simp (decide := true) only [bodyI, start0, sSeq, sNext, sNever, sCont, sBreak, sDrop, sRet, sRetN, sRet0, sRetO, sIf, sSet, sSetN, sSetP, sPar, sParEN, sParNE, sPar3, sAsg, gNm, gsNil, gsCons, gTp, sAugI, sIxO, sIxS, sAugS, stoL, setW, iVar, iC, iNil, iCons, iTup, iLst, nLst, iFz, iB, gAdd, gI, gIC, gSub, gMul, gDiv, gMod, gPow, gLt, gLe, gGt, gGe, gEq, gNe, gIn, gIsN, isN, iNeg, tTru', gTru, tBl, iChain, tAnd', tOr', tNot', tYes', iIf, iAnd, iOr, iNot, iIx, gIx, atW, iIxO, ownL, oNone, oSome, iSl, gSl, iRevL, iCall, nCall, iFn, Stt.put, Stt.puts, iMtO, gAppend, gInsert, gExtend, gLen, iLenO, gAbs, gInt, gMinMax, gList, gTuple, iListRg, gIsi, tyN, gRepr, cut_13, cut_1_2, cut_1_3, cut_m2, cut_m3, cut_m4, atI_m2, atI_m3, atI_m4, iOfT, tKdIn, iKdIx, atI_0, atI_1, atI_2, atI_3, ixN_4_0, ixN_4_1, ixN_4_2, ixN_4_3, Sto.put_same, Sto.put_put, toNat_2, List.map, List.replicate, List.length_cons, List.length_nil, List.getElem?_cons_zero, List.getElem?_cons_succ, List.getElem?_nil, List.set_cons_zero, List.set_cons_succ, List.set_nil, List.cons_append, List.nil_append, List.append_nil, if_true, if_false, fz_val, fz_new, so_lst, so_dct, so_ins, eqW_ii, eqW_ss, eqW_tt, eqW_ll, eqW_nn, eqW_bb, eqW_ni, eqW_in, eqW_nt, eqW_tn, eqW_nl, eqW_ln, eqW_is, eqW_si, eqWs_nil, eqWs_cons, eqWs_nc, eqWs_cn, okD_int, okD_str, okD_bl, okD_non, okD_tup, okD_lst, eqOk_ii, eqOk_ss, eqOk_nn, eqOk_bb, eqOk_in, eqOk_ni, eqOk_tt, eqOk_ll, flatW_int, flatW_str, flatW_bl, flatW_non, inW, List.any_cons, List.any_nil, List.all_cons, List.all_nil, Bool.or_false, Bool.or_true, Bool.true_or, Bool.false_or, Bool.and_true, Bool.true_and, Bool.and_false, Bool.false_and, Bool.not_true, Bool.not_false, Bool.false_eq_true, true_and, and_true, beq_self_eq_true, List.isEmpty_cons, List.isEmpty_nil, Int.reduceNeg, eq_self, forall_const]
      refine cl_take (by omega) (bd_of (by omega) (by omega)) b3.bg fun t S4 t0 t1 b4 => ?_
      simp (decide := true) only [bodyI, start0, sSeq, sNext, sNever, sCont, sBreak, sDrop, sRet, sRetN, sRet0, sRetO, sIf, sSet, sSetN, sSetP, sPar, sParEN, sParNE, sPar3, sAsg, gNm, gsNil, gsCons, gTp, sAugI, sIxO, sIxS, sAugS, stoL, setW, iVar, iC, iNil, iCons, iTup, iLst, nLst, iFz, iB, gAdd, gI, gIC, gSub, gMul, gDiv, gMod, gPow, gLt, gLe, gGt, gGe, gEq, gNe, gIn, gIsN, isN, iNeg, tTru', gTru, tBl, iChain, tAnd', tOr', tNot', tYes', iIf, iAnd, iOr, iNot, iIx, gIx, atW, iIxO, ownL, oNone, oSome, iSl, gSl, iRevL, iCall, nCall, iFn, Stt.put, Stt.puts, iMtO, gAppend, gInsert, gExtend, gLen, iLenO, gAbs, gInt, gMinMax, gList, gTuple, iListRg, gIsi, tyN, gRepr, cut_13, cut_1_2, cut_1_3, cut_m2, cut_m3, cut_m4, atI_m2, atI_m3, atI_m4, iOfT, tKdIn, iKdIx, atI_0, atI_1, atI_2, atI_3, ixN_4_0, ixN_4_1, ixN_4_2, ixN_4_3, Sto.put_same, Sto.put_put, toNat_2, List.map, List.replicate, List.length_cons, List.length_nil, List.getElem?_cons_zero, List.getElem?_cons_succ, List.getElem?_nil, List.set_cons_zero, List.set_cons_succ, List.set_nil, List.cons_append, List.nil_append, List.append_nil, if_true, if_false, fz_val, fz_new, so_lst, so_dct, so_ins, eqW_ii, eqW_ss, eqW_tt, eqW_ll, eqW_nn, eqW_bb, eqW_ni, eqW_in, eqW_nt, eqW_tn, eqW_nl, eqW_ln, eqW_is, eqW_si, eqWs_nil, eqWs_cons, eqWs_nc, eqWs_cn, okD_int, okD_str, okD_bl, okD_non, okD_tup, okD_lst, eqOk_ii, eqOk_ss, eqOk_nn, eqOk_bb, eqOk_in, eqOk_ni, eqOk_tt, eqOk_ll, flatW_int, flatW_str, flatW_bl, flatW_non, inW, List.any_cons, List.any_nil, List.all_cons, List.all_nil, Bool.or_false, Bool.or_true, Bool.true_or, Bool.false_or, Bool.and_true, Bool.true_and, Bool.and_false, Bool.false_and, Bool.not_true, Bool.not_false, Bool.false_eq_true, true_and, and_true, beq_self_eq_true, List.isEmpty_cons, List.isEmpty_nil, Int.reduceNeg, eq_self, forall_const]
      subst e2
      exact ⟨small_r (by omega) (by omega), fin (.up g (k + (if (Call.up g k).word = "wheel" then 2 * R else R) * (1 + t))) (1 + t) rfl _ S4 b4.bg rfl⟩
    | wheel g g' k =>
      refine ⟨rfl, rfl, ifT (by decide) (seq_go fun nx2 e2 => ?_)⟩
      simp (decide := true) only [bodyI, start0, sSeq, sNext, sNever, sCont, sBreak, sDrop, sRet, sRetN, sRet0, sRetO, sIf, sSet, sSetN, sSetP, sPar, sParEN, sParNE, sPar3, sAsg, gNm, gsNil, gsCons, gTp, sAugI, sIxO, sIxS, sAugS, stoL, setW, iVar, iC, iNil, iCons, iTup, iLst, nLst, iFz, iB, gAdd, gI, gIC, gSub, gMul, gDiv, gMod, gPow, gLt, gLe, gGt, gGe, gEq, gNe, gIn, gIsN, isN, iNeg, tTru', gTru, tBl, iChain, tAnd', tOr', tNot', tYes', iIf, iAnd, iOr, iNot, iIx, gIx, atW, iIxO, ownL, oNone, oSome, iSl, gSl, iRevL, iCall, nCall, iFn, Stt.put, Stt.puts, iMtO, gAppend, gInsert, gExtend, gLen, iLenO, gAbs, gInt, gMinMax, gList, gTuple, iListRg, gIsi, tyN, gRepr, cut_13, cut_1_2, cut_1_3, cut_m2, cut_m3, cut_m4, atI_m2, atI_m3, atI_m4, iOfT, tKdIn, iKdIx, atI_0, atI_1, atI_2, atI_3, ixN_4_0, ixN_4_1, ixN_4_2, ixN_4_3, Sto.put_same, Sto.put_put, toNat_2, List.map, List.replicate, List.length_cons, List.length_nil, List.getElem?_cons_zero, List.getElem?_cons_succ, List.getElem?_nil, List.set_cons_zero, List.set_cons_succ, List.set_nil, List.cons_append, List.nil_append, List.append_nil, if_true, if_false, fz_val, fz_new, so_lst, so_dct, so_ins, eqW_ii, eqW_ss, eqW_tt, eqW_ll, eqW_nn, eqW_bb, eqW_ni, eqW_in, eqW_nt, eqW_tn, eqW_nl, eqW_ln, eqW_is, eqW_si, eqWs_nil, eqWs_cons, eqWs_nc, eqWs_cn, okD_int, okD_str, okD_bl, okD_non, okD_tup, okD_lst, eqOk_ii, eqOk_ss, eqOk_nn, eqOk_bb, eqOk_in, eqOk_ni, eqOk_tt, eqOk_ll, flatW_int, flatW_str, flatW_bl, flatW_non, inW, List.any_cons, List.any_nil, List.all_cons, List.all_nil, Bool.or_false, Bool.or_true, Bool.true_or, Bool.false_or, Bool.and_true, Bool.true_and, Bool.and_false, Bool.false_and, Bool.not_true, Bool.not_false, Bool.false_eq_true, true_and, and_true, beq_self_eq_true, List.isEmpty_cons, List.isEmpty_nil, Int.reduceNeg, eq_self, forall_const,  Call.w]
      refine ⟨Call.wheel g g' k, R, rfl, ?_⟩
      simp (decide := true) only [bodyI, start0, sSeq, sNext, sNever, sCont, sBreak, sDrop, sRet, sRetN, sRet0, sRetO, sIf, sSet, sSetN, sSetP, sPar, sParEN, sParNE, sPar3, sAsg, gNm, gsNil, gsCons, gTp, sAugI, sIxO, sIxS, sAugS, stoL, setW, iVar, iC, iNil, iCons, iTup, iLst, nLst, iFz, iB, gAdd, gI, gIC, gSub, gMul, gDiv, gMod, gPow, gLt, gLe, gGt, gGe, gEq, gNe, gIn, gIsN, isN, iNeg, tTru', gTru, tBl, iChain, tAnd', tOr', tNot', tYes', iIf, iAnd, iOr, iNot, iIx, gIx, atW, iIxO, ownL, oNone, oSome, iSl, gSl, iRevL, iCall, nCall, iFn, Stt.put, Stt.puts, iMtO, gAppend, gInsert, gExtend, gLen, iLenO, gAbs, gInt, gMinMax, gList, gTuple, iListRg, gIsi, tyN, gRepr, cut_13, cut_1_2, cut_1_3, cut_m2, cut_m3, cut_m4, atI_m2, atI_m3, atI_m4, iOfT, tKdIn, iKdIx, atI_0, atI_1, atI_2, atI_3, ixN_4_0, ixN_4_1, ixN_4_2, ixN_4_3, Sto.put_same, Sto.put_put, toNat_2, List.map, List.replicate, List.length_cons, List.length_nil, List.getElem?_cons_zero, List.getElem?_cons_succ, List.getElem?_nil, List.set_cons_zero, List.set_cons_succ, List.set_nil, List.cons_append, List.nil_append, List.append_nil, if_true, if_false, fz_val, fz_new, so_lst, so_dct, so_ins, eqW_ii, eqW_ss, eqW_tt, eqW_ll, eqW_nn, eqW_bb, eqW_ni, eqW_in, eqW_nt, eqW_tn, eqW_nl, eqW_ln, eqW_is, eqW_si, eqWs_nil, eqWs_cons, eqWs_nc, eqWs_cn, okD_int, okD_str, okD_bl, okD_non, okD_tup, okD_lst, eqOk_ii, eqOk_ss, eqOk_nn, eqOk_bb, eqOk_in, eqOk_ni, eqOk_tt, eqOk_ll, flatW_int, flatW_str, flatW_bl, flatW_non, inW, List.any_cons, List.any_nil, List.all_cons, List.all_nil, Bool.or_false, Bool.or_true, Bool.true_or, Bool.false_or, Bool.and_true, Bool.true_and, Bool.and_false, Bool.false_and, Bool.not_true, Bool.not_false, Bool.false_eq_true, true_and, and_true, beq_self_eq_true, List.isEmpty_cons, List.isEmpty_nil, Int.reduceNeg, eq_self, forall_const]
      refine cl_take (by omega) (bd_of (by omega) (by omega)) b3.bg fun t S4 t0 t1 b4 => ?_
      simp (decide := true) only [bodyI, start0, sSeq, sNext, sNever, sCont, sBreak, sDrop, sRet, sRetN, sRet0, sRetO, sIf, sSet, sSetN, sSetP, sPar, sParEN, sParNE, sPar3, sAsg, gNm, gsNil, gsCons, gTp, sAugI, sIxO, sIxS, sAugS, stoL, setW, iVar, iC, iNil, iCons, iTup, iLst, nLst, iFz, iB, gAdd, gI, gIC, gSub, gMul, gDiv, gMod, gPow, gLt, gLe, gGt, gGe, gEq, gNe, gIn, gIsN, isN, iNeg, tTru', gTru, tBl, iChain, tAnd', tOr', tNot', tYes', iIf, iAnd, iOr, iNot, iIx, gIx, atW, iIxO, ownL, oNone, oSome, iSl, gSl, iRevL, iCall, nCall, iFn, Stt.put, Stt.puts, iMtO, gAppend, gInsert, gExtend, gLen, iLenO, gAbs, gInt, gMinMax, gList, gTuple, iListRg, gIsi, tyN, gRepr, cut_13, cut_1_2, cut_1_3, cut_m2, cut_m3, cut_m4, atI_m2, atI_m3, atI_m4, iOfT, tKdIn, iKdIx, atI_0, atI_1, atI_2, atI_3, ixN_4_0, ixN_4_1, ixN_4_2, ixN_4_3, Sto.put_same, Sto.put_put, toNat_2, List.map, List.replicate, List.length_cons, List.length_nil, List.getElem?_cons_zero, List.getElem?_cons_succ, List.getElem?_nil, List.set_cons_zero, List.set_cons_succ, List.set_nil, List.cons_append, List.nil_append, List.append_nil, if_true, if_false, fz_val, fz_new, so_lst, so_dct, so_ins, eqW_ii, eqW_ss, eqW_tt, eqW_ll, eqW_nn, eqW_bb, eqW_ni, eqW_in, eqW_nt, eqW_tn, eqW_nl, eqW_ln, eqW_is, eqW_si, eqWs_nil, eqWs_cons, eqWs_nc, eqWs_cn, okD_int, okD_str, okD_bl, okD_non, okD_tup, okD_lst, eqOk_ii, eqOk_ss, eqOk_nn, eqOk_bb, eqOk_in, eqOk_ni, eqOk_tt, eqOk_ll, flatW_int, flatW_str, flatW_bl, flatW_non, inW, List.any_cons, List.any_nil, List.all_cons, List.all_nil, Bool.or_false, Bool.or_true, Bool.true_or, Bool.false_or, Bool.and_true, Bool.true_and, Bool.and_false, Bool.false_and, Bool.not_true, Bool.not_false, Bool.false_eq_true, true_and, and_true, beq_self_eq_true, List.isEmpty_cons, List.isEmpty_nil, Int.reduceNeg, eq_self, forall_const]
      subst e2
      exact ⟨small_r (by omega) (by omega), fin (Call.wheel g g' (k + (if (Call.wheel g g' k).word = "wheel" then 2 * R else R) * (1 + t))) (1 + t) rfl _ S4 b4.bg rfl⟩
    | _ => exact ⟨rfl, rfl, ifF (by decide) (h _ ⟨_, _, _, S3, b3.bg, rfl⟩)⟩
  subst es
  refine seq_cut (fun st => ∃ (x_more x_place x_goal : Slot) (S : Sto), Bg S ad ∧ st = ⟨[.val (sc), .val (.ref ad), x_turn, .val (.int F), .val (.int R), .val (c.w), .val (.lst ((plcs F R).map pairW)), .val (.lst (((plcs F R).map (mv F R c)).map pairW)), x_more, x_file, x_breaks, x_one_here, x_k, x_near, x_place, x_goal, x_row], S⟩) (fun nx h => ?_) (fun st ⟨x_more, x_place, x_goal, S5, b5, es⟩ => ?_)
  · have fin : c.tn = c → sIf (tBl (iB gNe (iFz (nLc (lSeq (iVar 7)) (gNm 15) tYes' (iCall sp_p_moved_by (iCons (iVar 5) (iCons (iVar 3) (iCons (iVar 4) (iCons (iVar 15) iNil))))) [15])) (iVar 6))) (sRet (iC (.bl false))) sNext EI { D with nx := nx } ⟨[.val (sc), .val (.ref ad), x_turn, .val (.int F), .val (.int R), .val (c.w), .val (.lst ((plcs F R).map pairW)), .val (.lst (((plcs F R).map (mv F R c)).map pairW)), x_more, x_file, x_breaks, x_one_here, x_k, x_near, x_place, x_goal, x_row], S4⟩ := fun ec => by
      simp (decide := true) only [bodyI, start0, sSeq, sNext, sNever, sCont, sBreak, sDrop, sRet, sRetN, sRet0, sRetO, sIf, sSet, sSetN, sSetP, sPar, sParEN, sParNE, sPar3, sAsg, gNm, gsNil, gsCons, gTp, sAugI, sIxO, sIxS, sAugS, stoL, setW, iVar, iC, iNil, iCons, iTup, iLst, nLst, iFz, iB, gAdd, gI, gIC, gSub, gMul, gDiv, gMod, gPow, gLt, gLe, gGt, gGe, gEq, gNe, gIn, gIsN, isN, iNeg, tTru', gTru, tBl, iChain, tAnd', tOr', tNot', tYes', iIf, iAnd, iOr, iNot, iIx, gIx, atW, iIxO, ownL, oNone, oSome, iSl, gSl, iRevL, iCall, nCall, iFn, Stt.put, Stt.puts, iMtO, gAppend, gInsert, gExtend, gLen, iLenO, gAbs, gInt, gMinMax, gList, gTuple, iListRg, gIsi, tyN, gRepr, cut_13, cut_1_2, cut_1_3, cut_m2, cut_m3, cut_m4, atI_m2, atI_m3, atI_m4, iOfT, tKdIn, iKdIx, atI_0, atI_1, atI_2, atI_3, ixN_4_0, ixN_4_1, ixN_4_2, ixN_4_3, Sto.put_same, Sto.put_put, toNat_2, List.map, List.replicate, List.length_cons, List.length_nil, List.getElem?_cons_zero, List.getElem?_cons_succ, List.getElem?_nil, List.set_cons_zero, List.set_cons_succ, List.set_nil, List.cons_append, List.nil_append, List.append_nil, if_true, if_false, fz_val, fz_new, so_lst, so_dct, so_ins, eqW_ii, eqW_ss, eqW_tt, eqW_ll, eqW_nn, eqW_bb, eqW_ni, eqW_in, eqW_nt, eqW_tn, eqW_nl, eqW_ln, eqW_is, eqW_si, eqWs_nil, eqWs_cons, eqWs_nc, eqWs_cn, okD_int, okD_str, okD_bl, okD_non, okD_tup, okD_lst, eqOk_ii, eqOk_ss, eqOk_nn, eqOk_bb, eqOk_in, eqOk_ni, eqOk_tt, eqOk_ll, flatW_int, flatW_str, flatW_bl, flatW_non, inW, List.any_cons, List.any_nil, List.all_cons, List.all_nil, Bool.or_false, Bool.or_true, Bool.true_or, Bool.false_or, Bool.and_true, Bool.true_and, Bool.and_false, Bool.false_and, Bool.not_true, Bool.not_false, Bool.false_eq_true, true_and, and_true, beq_self_eq_true, List.isEmpty_cons, List.isEmpty_nil, Int.reduceNeg, eq_self, forall_const,  nLc, lSeq, gItems]
      refine lc_mv (F := F) (R := R) (c := c) (S := S4) ((plcs F R).map (mv F R c)) ⟨[.val (sc), .val (.ref ad), x_turn, .val (.int F), .val (.int R), .val (c.w), .val (.lst ((plcs F R).map pairW)), .val (.lst (((plcs F R).map (mv F R c)).map pairW)), x_more, x_file, x_breaks, x_one_here, x_k, x_near, x_place, .none, x_row], S4⟩ _ (by rw [List.length_map]; exact pl) rfl (fun p hp Y hY => ?_) fun st' es => ?_
      · simp (decide := true) only [bodyI, start0, sSeq, sNext, sNever, sCont, sBreak, sDrop, sRet, sRetN, sRet0, sRetO, sIf, sSet, sSetN, sSetP, sPar, sParEN, sParNE, sPar3, sAsg, gNm, gsNil, gsCons, gTp, sAugI, sIxO, sIxS, sAugS, stoL, setW, iVar, iC, iNil, iCons, iTup, iLst, nLst, iFz, iB, gAdd, gI, gIC, gSub, gMul, gDiv, gMod, gPow, gLt, gLe, gGt, gGe, gEq, gNe, gIn, gIsN, isN, iNeg, tTru', gTru, tBl, iChain, tAnd', tOr', tNot', tYes', iIf, iAnd, iOr, iNot, iIx, gIx, atW, iIxO, ownL, oNone, oSome, iSl, gSl, iRevL, iCall, nCall, iFn, Stt.put, Stt.puts, iMtO, gAppend, gInsert, gExtend, gLen, iLenO, gAbs, gInt, gMinMax, gList, gTuple, iListRg, gIsi, tyN, gRepr, cut_13, cut_1_2, cut_1_3, cut_m2, cut_m3, cut_m4, atI_m2, atI_m3, atI_m4, iOfT, tKdIn, iKdIx, atI_0, atI_1, atI_2, atI_3, ixN_4_0, ixN_4_1, ixN_4_2, ixN_4_3, Sto.put_same, Sto.put_put, toNat_2, List.map, List.replicate, List.length_cons, List.length_nil, List.getElem?_cons_zero, List.getElem?_cons_succ, List.getElem?_nil, List.set_cons_zero, List.set_cons_succ, List.set_nil, List.cons_append, List.nil_append, List.append_nil, if_true, if_false, fz_val, fz_new, so_lst, so_dct, so_ins, eqW_ii, eqW_ss, eqW_tt, eqW_ll, eqW_nn, eqW_bb, eqW_ni, eqW_in, eqW_nt, eqW_tn, eqW_nl, eqW_ln, eqW_is, eqW_si, eqWs_nil, eqWs_cons, eqWs_nc, eqWs_cn, okD_int, okD_str, okD_bl, okD_non, okD_tup, okD_lst, eqOk_ii, eqOk_ss, eqOk_nn, eqOk_bb, eqOk_in, eqOk_ni, eqOk_tt, eqOk_ll, flatW_int, flatW_str, flatW_bl, flatW_non, inW, List.any_cons, List.any_nil, List.all_cons, List.all_nil, Bool.or_false, Bool.or_true, Bool.true_or, Bool.false_or, Bool.and_true, Bool.true_and, Bool.and_false, Bool.false_and, Bool.not_true, Bool.not_false, Bool.false_eq_true, true_and, and_true, beq_self_eq_true, List.isEmpty_cons, List.isEmpty_nil, Int.reduceNeg, eq_self, forall_const]
        obtain ⟨p', hp', rfl⟩ := List.mem_map.mp hp
        exact ⟨c, F, R, _, rfl, hl, mv_in (by omega) (by omega) hc (plcs_mem.mp hp'), hY _ rfl⟩
      · rw [es]
        have e2 := goals_back (F := F) (R := R) (by omega) (by omega) hc
        rw [ec] at e2
        simp (decide := true) only [bodyI, start0, sSeq, sNext, sNever, sCont, sBreak, sDrop, sRet, sRetN, sRet0, sRetO, sIf, sSet, sSetN, sSetP, sPar, sParEN, sParNE, sPar3, sAsg, gNm, gsNil, gsCons, gTp, sAugI, sIxO, sIxS, sAugS, stoL, setW, iVar, iC, iNil, iCons, iTup, iLst, nLst, iFz, iB, gAdd, gI, gIC, gSub, gMul, gDiv, gMod, gPow, gLt, gLe, gGt, gGe, gEq, gNe, gIn, gIsN, isN, iNeg, tTru', gTru, tBl, iChain, tAnd', tOr', tNot', tYes', iIf, iAnd, iOr, iNot, iIx, gIx, atW, iIxO, ownL, oNone, oSome, iSl, gSl, iRevL, iCall, nCall, iFn, Stt.put, Stt.puts, iMtO, gAppend, gInsert, gExtend, gLen, iLenO, gAbs, gInt, gMinMax, gList, gTuple, iListRg, gIsi, tyN, gRepr, cut_13, cut_1_2, cut_1_3, cut_m2, cut_m3, cut_m4, atI_m2, atI_m3, atI_m4, iOfT, tKdIn, iKdIx, atI_0, atI_1, atI_2, atI_3, ixN_4_0, ixN_4_1, ixN_4_2, ixN_4_3, Sto.put_same, Sto.put_put, toNat_2, List.map, List.replicate, List.length_cons, List.length_nil, List.getElem?_cons_zero, List.getElem?_cons_succ, List.getElem?_nil, List.set_cons_zero, List.set_cons_succ, List.set_nil, List.cons_append, List.nil_append, List.append_nil, if_true, if_false, fz_val, fz_new, so_lst, so_dct, so_ins, eqW_ii, eqW_ss, eqW_tt, eqW_ll, eqW_nn, eqW_bb, eqW_ni, eqW_in, eqW_nt, eqW_tn, eqW_nl, eqW_ln, eqW_is, eqW_si, eqWs_nil, eqWs_cons, eqWs_nc, eqWs_cn, okD_int, okD_str, okD_bl, okD_non, okD_tup, okD_lst, eqOk_ii, eqOk_ss, eqOk_nn, eqOk_bb, eqOk_in, eqOk_ni, eqOk_tt, eqOk_ll, flatW_int, flatW_str, flatW_bl, flatW_non, inW, List.any_cons, List.any_nil, List.all_cons, List.all_nil, Bool.or_false, Bool.or_true, Bool.true_or, Bool.false_or, Bool.and_true, Bool.true_and, Bool.and_false, Bool.false_and, Bool.not_true, Bool.not_false, Bool.false_eq_true, true_and, and_true, beq_self_eq_true, List.isEmpty_cons, List.isEmpty_nil, Int.reduceNeg, eq_self, forall_const]
        rw [e2]
        exact ⟨(eq_pairs _).1, ifF (eq_pairs _).2 (h _ ⟨_, _, _, S4, b4, rfl⟩)⟩
    cases c with
    | about => exact ⟨rfl, rfl, ifT (by decide) (fin rfl)⟩
    | swap g k => exact ⟨rfl, rfl, ifT (by decide) (fin rfl)⟩
    | front g k => exact ⟨rfl, rfl, ifT (by decide) (fin rfl)⟩
    | _ => exact ⟨rfl, rfl, ifF (by decide) (h _ ⟨_, _, _, S4, b4, rfl⟩)⟩
  subst es
  simp (decide := true) only [bodyI, start0, sSeq, sNext, sNever, sCont, sBreak, sDrop, sRet, sRetN, sRet0, sRetO, sIf, sSet, sSetN, sSetP, sPar, sParEN, sParNE, sPar3, sAsg, gNm, gsNil, gsCons, gTp, sAugI, sIxO, sIxS, sAugS, stoL, setW, iVar, iC, iNil, iCons, iTup, iLst, nLst, iFz, iB, gAdd, gI, gIC, gSub, gMul, gDiv, gMod, gPow, gLt, gLe, gGt, gGe, gEq, gNe, gIn, gIsN, isN, iNeg, tTru', gTru, tBl, iChain, tAnd', tOr', tNot', tYes', iIf, iAnd, iOr, iNot, iIx, gIx, atW, iIxO, ownL, oNone, oSome, iSl, gSl, iRevL, iCall, nCall, iFn, Stt.put, Stt.puts, iMtO, gAppend, gInsert, gExtend, gLen, iLenO, gAbs, gInt, gMinMax, gList, gTuple, iListRg, gIsi, tyN, gRepr, cut_13, cut_1_2, cut_1_3, cut_m2, cut_m3, cut_m4, atI_m2, atI_m3, atI_m4, iOfT, tKdIn, iKdIx, atI_0, atI_1, atI_2, atI_3, ixN_4_0, ixN_4_1, ixN_4_2, ixN_4_3, Sto.put_same, Sto.put_put, toNat_2, List.map, List.replicate, List.length_cons, List.length_nil, List.getElem?_cons_zero, List.getElem?_cons_succ, List.getElem?_nil, List.set_cons_zero, List.set_cons_succ, List.set_nil, List.cons_append, List.nil_append, List.append_nil, if_true, if_false, fz_val, fz_new, so_lst, so_dct, so_ins, eqW_ii, eqW_ss, eqW_tt, eqW_ll, eqW_nn, eqW_bb, eqW_ni, eqW_in, eqW_nt, eqW_tn, eqW_nl, eqW_ln, eqW_is, eqW_si, eqWs_nil, eqWs_cons, eqWs_nc, eqWs_cn, okD_int, okD_str, okD_bl, okD_non, okD_tup, okD_lst, eqOk_ii, eqOk_ss, eqOk_nn, eqOk_bb, eqOk_in, eqOk_ni, eqOk_tt, eqOk_ll, flatW_int, flatW_str, flatW_bl, flatW_non, inW, List.any_cons, List.any_nil, List.all_cons, List.all_nil, Bool.or_false, Bool.or_true, Bool.true_or, Bool.false_or, Bool.and_true, Bool.true_and, Bool.and_false, Bool.false_and, Bool.not_true, Bool.not_false, Bool.false_eq_true, true_and, and_true, beq_self_eq_true, List.isEmpty_cons, List.isEmpty_nil, Int.reduceNeg, eq_self, forall_const]
  refine ⟨c, rfl, ifb (fun z => ?_) (fun z => q _ _ _ _ _ _ _ _ _ _ _ _ _ _ _ _ b5)⟩
  simp (decide := true) only [bodyI, start0, sSeq, sNext, sNever, sCont, sBreak, sDrop, sRet, sRetN, sRet0, sRetO, sIf, sSet, sSetN, sSetP, sPar, sParEN, sParNE, sPar3, sAsg, gNm, gsNil, gsCons, gTp, sAugI, sIxO, sIxS, sAugS, stoL, setW, iVar, iC, iNil, iCons, iTup, iLst, nLst, iFz, iB, gAdd, gI, gIC, gSub, gMul, gDiv, gMod, gPow, gLt, gLe, gGt, gGe, gEq, gNe, gIn, gIsN, isN, iNeg, tTru', gTru, tBl, iChain, tAnd', tOr', tNot', tYes', iIf, iAnd, iOr, iNot, iIx, gIx, atW, iIxO, ownL, oNone, oSome, iSl, gSl, iRevL, iCall, nCall, iFn, Stt.put, Stt.puts, iMtO, gAppend, gInsert, gExtend, gLen, iLenO, gAbs, gInt, gMinMax, gList, gTuple, iListRg, gIsi, tyN, gRepr, cut_13, cut_1_2, cut_1_3, cut_m2, cut_m3, cut_m4, atI_m2, atI_m3, atI_m4, iOfT, tKdIn, iKdIx, atI_0, atI_1, atI_2, atI_3, ixN_4_0, ixN_4_1, ixN_4_2, ixN_4_3, Sto.put_same, Sto.put_put, toNat_2, List.map, List.replicate, List.length_cons, List.length_nil, List.getElem?_cons_zero, List.getElem?_cons_succ, List.getElem?_nil, List.set_cons_zero, List.set_cons_succ, List.set_nil, List.cons_append, List.nil_append, List.append_nil, if_true, if_false, fz_val, fz_new, so_lst, so_dct, so_ins, eqW_ii, eqW_ss, eqW_tt, eqW_ll, eqW_nn, eqW_bb, eqW_ni, eqW_in, eqW_nt, eqW_tn, eqW_nl, eqW_ln, eqW_is, eqW_si, eqWs_nil, eqWs_cons, eqWs_nc, eqWs_cn, okD_int, okD_str, okD_bl, okD_non, okD_tup, okD_lst, eqOk_ii, eqOk_ss, eqOk_nn, eqOk_bb, eqOk_in, eqOk_ni, eqOk_tt, eqOk_ll, flatW_int, flatW_str, flatW_bl, flatW_non, inW, List.any_cons, List.any_nil, List.all_cons, List.all_nil, Bool.or_false, Bool.or_true, Bool.true_or, Bool.false_or, Bool.and_true, Bool.true_and, Bool.and_false, Bool.false_and, Bool.not_true, Bool.not_false, Bool.false_eq_true, true_and, and_true, beq_self_eq_true, List.isEmpty_cons, List.isEmpty_nil, Int.reduceNeg, eq_self, forall_const,  sFor, lRange1]
  refine ⟨by unfold i62; omega, for_rng (fun i st => ∃ (x_more x_place x_goal x_file x_breaks x_one_here x_k x_near x_row : Slot) (S : Sto), Bg S ad ∧ st = ⟨[.val (sc), .val (.ref ad), x_turn, .val (.int F), .val (.int R), .val (c.w), .val (.lst ((plcs F R).map pairW)), .val (.lst (((plcs F R).map (mv F R c)).map pairW)), x_more, x_file, x_breaks, x_one_here, x_k, x_near, x_place, x_goal, x_row], S⟩) _ _ ⟨_, _, _, _, _, _, _, _, _, _, b5, rfl⟩ (fun st ⟨_, _, _, _, _, _, _, _, _, S6, b6, es⟩ => by subst es; exact q _ _ _ _ _ _ _ _ _ _ _ _ _ _ _ _ b6) fun i hi st nx ⟨_, _, _, _, _, _, _, _, _, S6, b6, es⟩ hn => ?_⟩
  subst es
  simp (decide := true) only [bodyI, start0, sSeq, sNext, sNever, sCont, sBreak, sDrop, sRet, sRetN, sRet0, sRetO, sIf, sSet, sSetN, sSetP, sPar, sParEN, sParNE, sPar3, sAsg, gNm, gsNil, gsCons, gTp, sAugI, sIxO, sIxS, sAugS, stoL, setW, iVar, iC, iNil, iCons, iTup, iLst, nLst, iFz, iB, gAdd, gI, gIC, gSub, gMul, gDiv, gMod, gPow, gLt, gLe, gGt, gGe, gEq, gNe, gIn, gIsN, isN, iNeg, tTru', gTru, tBl, iChain, tAnd', tOr', tNot', tYes', iIf, iAnd, iOr, iNot, iIx, gIx, atW, iIxO, ownL, oNone, oSome, iSl, gSl, iRevL, iCall, nCall, iFn, Stt.put, Stt.puts, iMtO, gAppend, gInsert, gExtend, gLen, iLenO, gAbs, gInt, gMinMax, gList, gTuple, iListRg, gIsi, tyN, gRepr, cut_13, cut_1_2, cut_1_3, cut_m2, cut_m3, cut_m4, atI_m2, atI_m3, atI_m4, iOfT, tKdIn, iKdIx, atI_0, atI_1, atI_2, atI_3, ixN_4_0, ixN_4_1, ixN_4_2, ixN_4_3, Sto.put_same, Sto.put_put, toNat_2, List.map, List.replicate, List.length_cons, List.length_nil, List.getElem?_cons_zero, List.getElem?_cons_succ, List.getElem?_nil, List.set_cons_zero, List.set_cons_succ, List.set_nil, List.cons_append, List.nil_append, List.append_nil, if_true, if_false, fz_val, fz_new, so_lst, so_dct, so_ins, eqW_ii, eqW_ss, eqW_tt, eqW_ll, eqW_nn, eqW_bb, eqW_ni, eqW_in, eqW_nt, eqW_tn, eqW_nl, eqW_ln, eqW_is, eqW_si, eqWs_nil, eqWs_cons, eqWs_nc, eqWs_cn, okD_int, okD_str, okD_bl, okD_non, okD_tup, okD_lst, eqOk_ii, eqOk_ss, eqOk_nn, eqOk_bb, eqOk_in, eqOk_ni, eqOk_tt, eqOk_ll, flatW_int, flatW_str, flatW_bl, flatW_non, inW, List.any_cons, List.any_nil, List.all_cons, List.all_nil, Bool.or_false, Bool.or_true, Bool.true_or, Bool.false_or, Bool.and_true, Bool.true_and, Bool.and_false, Bool.false_and, Bool.not_true, Bool.not_false, Bool.false_eq_true, true_and, and_true, beq_self_eq_true, List.isEmpty_cons, List.isEmpty_nil, Int.reduceNeg, eq_self, forall_const]
  have zo : c.opn = false := by simpa using z
  exact law_2 hl hc zo (by omega) (by omega) (by omega) fun x_breaks x_one_here x_k x_near x_row => hn _ ⟨_, _, _, _, _, _, _, _, _, _, b6, rfl⟩
theorem pure_law (ns : List Int) (hn : ns.length ≤ 63) : bodyI 17 ib_law [.scr ns] S0 (fun r _ => r = .val (.bl true)) fun _ _ => False := by
  unfold ib_law
  refine seq_go fun nx e => ?_
  simp (decide := true) only [bodyI, start0, sSeq, sNext, sNever, sCont, sBreak, sDrop, sRet, sRetN, sRet0, sRetO, sIf, sSet, sSetN, sSetP, sPar, sParEN, sParNE, sPar3, sAsg, gNm, gsNil, gsCons, gTp, sAugI, sIxO, sIxS, sAugS, stoL, setW, iVar, iC, iNil, iCons, iTup, iLst, nLst, iFz, iB, gAdd, gI, gIC, gSub, gMul, gDiv, gMod, gPow, gLt, gLe, gGt, gGe, gEq, gNe, gIn, gIsN, isN, iNeg, tTru', gTru, tBl, iChain, tAnd', tOr', tNot', tYes', iIf, iAnd, iOr, iNot, iIx, gIx, atW, iIxO, ownL, oNone, oSome, iSl, gSl, iRevL, iCall, nCall, iFn, Stt.put, Stt.puts, iMtO, gAppend, gInsert, gExtend, gLen, iLenO, gAbs, gInt, gMinMax, gList, gTuple, iListRg, gIsi, tyN, gRepr, cut_13, cut_1_2, cut_1_3, cut_m2, cut_m3, cut_m4, atI_m2, atI_m3, atI_m4, iOfT, tKdIn, iKdIx, atI_0, atI_1, atI_2, atI_3, ixN_4_0, ixN_4_1, ixN_4_2, ixN_4_3, Sto.put_same, Sto.put_put, toNat_2, List.map, List.replicate, List.length_cons, List.length_nil, List.getElem?_cons_zero, List.getElem?_cons_succ, List.getElem?_nil, List.set_cons_zero, List.set_cons_succ, List.set_nil, List.cons_append, List.nil_append, List.append_nil, if_true, if_false, fz_val, fz_new, so_lst, so_dct, so_ins, eqW_ii, eqW_ss, eqW_tt, eqW_ll, eqW_nn, eqW_bb, eqW_ni, eqW_in, eqW_nt, eqW_tn, eqW_nl, eqW_ln, eqW_is, eqW_si, eqWs_nil, eqWs_cons, eqWs_nc, eqWs_cn, okD_int, okD_str, okD_bl, okD_non, okD_tup, okD_lst, eqOk_ii, eqOk_ss, eqOk_nn, eqOk_bb, eqOk_in, eqOk_ni, eqOk_tt, eqOk_ll, flatW_int, flatW_str, flatW_bl, flatW_non, inW, List.any_cons, List.any_nil, List.all_cons, List.all_nil, Bool.or_false, Bool.or_true, Bool.true_or, Bool.false_or, Bool.and_true, Bool.true_and, Bool.and_false, Bool.false_and, Bool.not_true, Bool.not_false, Bool.false_eq_true, true_and, and_true, beq_self_eq_true, List.isEmpty_cons, List.isEmpty_nil, Int.reduceNeg, eq_self, forall_const]
  refine ⟨ns, rfl, hn, fun o hb a _ => ?_⟩
  subst e
  refine seq_cut (fun _ => True) (fun nx h => ?_) (fun st _ => rfl)
  simp (decide := true) only [bodyI, start0, sSeq, sNext, sNever, sCont, sBreak, sDrop, sRet, sRetN, sRet0, sRetO, sIf, sSet, sSetN, sSetP, sPar, sParEN, sParNE, sPar3, sAsg, gNm, gsNil, gsCons, gTp, sAugI, sIxO, sIxS, sAugS, stoL, setW, iVar, iC, iNil, iCons, iTup, iLst, nLst, iFz, iB, gAdd, gI, gIC, gSub, gMul, gDiv, gMod, gPow, gLt, gLe, gGt, gGe, gEq, gNe, gIn, gIsN, isN, iNeg, tTru', gTru, tBl, iChain, tAnd', tOr', tNot', tYes', iIf, iAnd, iOr, iNot, iIx, gIx, atW, iIxO, ownL, oNone, oSome, iSl, gSl, iRevL, iCall, nCall, iFn, Stt.put, Stt.puts, iMtO, gAppend, gInsert, gExtend, gLen, iLenO, gAbs, gInt, gMinMax, gList, gTuple, iListRg, gIsi, tyN, gRepr, cut_13, cut_1_2, cut_1_3, cut_m2, cut_m3, cut_m4, atI_m2, atI_m3, atI_m4, iOfT, tKdIn, iKdIx, atI_0, atI_1, atI_2, atI_3, ixN_4_0, ixN_4_1, ixN_4_2, ixN_4_3, Sto.put_same, Sto.put_put, toNat_2, List.map, List.replicate, List.length_cons, List.length_nil, List.getElem?_cons_zero, List.getElem?_cons_succ, List.getElem?_nil, List.set_cons_zero, List.set_cons_succ, List.set_nil, List.cons_append, List.nil_append, List.append_nil, if_true, if_false, fz_val, fz_new, so_lst, so_dct, so_ins, eqW_ii, eqW_ss, eqW_tt, eqW_ll, eqW_nn, eqW_bb, eqW_ni, eqW_in, eqW_nt, eqW_tn, eqW_nl, eqW_ln, eqW_is, eqW_si, eqWs_nil, eqWs_cons, eqWs_nc, eqWs_cn, okD_int, okD_str, okD_bl, okD_non, okD_tup, okD_lst, eqOk_ii, eqOk_ss, eqOk_nn, eqOk_bb, eqOk_in, eqOk_ni, eqOk_tt, eqOk_ll, flatW_int, flatW_str, flatW_bl, flatW_non, inW, List.any_cons, List.any_nil, List.all_cons, List.all_nil, Bool.or_false, Bool.or_true, Bool.true_or, Bool.false_or, Bool.and_true, Bool.true_and, Bool.and_false, Bool.false_and, Bool.not_true, Bool.not_false, Bool.false_eq_true, true_and, and_true, beq_self_eq_true, List.isEmpty_cons, List.isEmpty_nil, Int.reduceNeg, eq_self, forall_const,  sFor, lRange1]
  refine ⟨by unfold i62; omega, for_rng (fun i st => ∃ (x_turn x_files x_rows x_call_here x_every x_goals x_more x_file x_breaks x_one_here x_k x_near x_place x_goal x_row : Slot) (S : Sto), Bg S a ∧ st = ⟨[.val (.scr ns), .val (.ref a), x_turn, x_files, x_rows, x_call_here, x_every, x_goals, x_more, x_file, x_breaks, x_one_here, x_k, x_near, x_place, x_goal, x_row], S⟩) _ _ ⟨_, _, _, _, _, _, _, _, _, _, _, _, _, _, _, _, ⟨o, Sto.put_same, hb⟩, rfl⟩ (fun st _ => h st trivial) fun i hi st nx ⟨x_turn, x_files, x_rows, x_call_here, x_every, x_goals, x_more, x_file, x_breaks, x_one_here, x_k, x_near, x_place, x_goal, x_row, S, hb, es⟩ hn => ?_⟩
  subst es
  simp (decide := true) only [bodyI, start0, sSeq, sNext, sNever, sCont, sBreak, sDrop, sRet, sRetN, sRet0, sRetO, sIf, sSet, sSetN, sSetP, sPar, sParEN, sParNE, sPar3, sAsg, gNm, gsNil, gsCons, gTp, sAugI, sIxO, sIxS, sAugS, stoL, setW, iVar, iC, iNil, iCons, iTup, iLst, nLst, iFz, iB, gAdd, gI, gIC, gSub, gMul, gDiv, gMod, gPow, gLt, gLe, gGt, gGe, gEq, gNe, gIn, gIsN, isN, iNeg, tTru', gTru, tBl, iChain, tAnd', tOr', tNot', tYes', iIf, iAnd, iOr, iNot, iIx, gIx, atW, iIxO, ownL, oNone, oSome, iSl, gSl, iRevL, iCall, nCall, iFn, Stt.put, Stt.puts, iMtO, gAppend, gInsert, gExtend, gLen, iLenO, gAbs, gInt, gMinMax, gList, gTuple, iListRg, gIsi, tyN, gRepr, cut_13, cut_1_2, cut_1_3, cut_m2, cut_m3, cut_m4, atI_m2, atI_m3, atI_m4, iOfT, tKdIn, iKdIx, atI_0, atI_1, atI_2, atI_3, ixN_4_0, ixN_4_1, ixN_4_2, ixN_4_3, Sto.put_same, Sto.put_put, toNat_2, List.map, List.replicate, List.length_cons, List.length_nil, List.getElem?_cons_zero, List.getElem?_cons_succ, List.getElem?_nil, List.set_cons_zero, List.set_cons_succ, List.set_nil, List.cons_append, List.nil_append, List.append_nil, if_true, if_false, fz_val, fz_new, so_lst, so_dct, so_ins, eqW_ii, eqW_ss, eqW_tt, eqW_ll, eqW_nn, eqW_bb, eqW_ni, eqW_in, eqW_nt, eqW_tn, eqW_nl, eqW_ln, eqW_is, eqW_si, eqWs_nil, eqWs_cons, eqWs_nc, eqWs_cn, okD_int, okD_str, okD_bl, okD_non, okD_tup, okD_lst, eqOk_ii, eqOk_ss, eqOk_nn, eqOk_bb, eqOk_in, eqOk_ni, eqOk_tt, eqOk_ll, flatW_int, flatW_str, flatW_bl, flatW_non, inW, List.any_cons, List.any_nil, List.all_cons, List.all_nil, Bool.or_false, Bool.or_true, Bool.true_or, Bool.false_or, Bool.and_true, Bool.true_and, Bool.and_false, Bool.false_and, Bool.not_true, Bool.not_false, Bool.false_eq_true, true_and, and_true, beq_self_eq_true, List.isEmpty_cons, List.isEmpty_nil, Int.reduceNeg, eq_self, forall_const]
  exact law_3 hb fun x_turn x_files x_rows x_call_here x_every x_goals x_more x_file x_breaks x_one_here x_k x_near x_place x_goal x_row S hb => hn _ ⟨x_turn, x_files, x_rows, x_call_here, x_every, x_goals, x_more, x_file, x_breaks, x_one_here, x_k, x_near, x_place, x_goal, x_row, S, hb, rfl⟩
end Sh
namespace Law
open PySem PySem.Spec L2 Sh
open PyProof.Rows hiding St
def top (i : Nat) : Stmt := PySem.Challenge.pw_pupilpairs_k17_whole_calls_one_to_one.main.body.getD i (.Pass ⟨0, 0, 0, 0⟩)
section
variable {P : Program} {w : World} {K : PySem.W.Frag} {mg : Str → Option Value} {base : Heap}
abbrev s_l_bag : Stmt := top 9
theorem sc_l_bag : FnScope ["_law_script", "_law_cell"] ["_law_script"] (defScope s_l_bag) := ⟨rfl, rfl, rfl, by decide +kernel, rfl, by decide +kernel, by decide +kernel⟩
theorem d_l_bag (D : Df K mg "_law_bag" s_l_bag) (b_abs : mg "abs" = none) : Cal P w K mg base "_law_bag" 1 1 (bodyI 2 ib_l_bag) := by
  refine calI (k := 0) (ps := ["_law_script"]) (N := ["_law_script", "_law_cell"]) D sc_l_bag (fun _ _ _ _ _ _ us hl => match us, hl with | [_], _ => rfl) fun f cdv A outer s H E hr gu F Wx tk => ?_
  have hN := sc_l_bag.nd
  have hu := hr.units
  exact (s_one (s_retN (n_lst (ia_cons i_int (ia_cons i_int (ia_cons i_int (ia_cons (i_fz (n_lc [("_law_cell", 1)] hN (l_seq (i_sl (i_var 0) o_none (o_some i_int))) (blkOk_by rfl) (fun s H C cl fp F => (g_name (vs := [1]) 1 hN)) (fun s H C cl fp => ti_nil) (fun s H C cl fp F => (i_abs b_abs (ia_cons (i_var 1) ia_nil))))) ia_nil)))))))
abbrev s_p_is_straight : Stmt := top 3
theorem sc_p_is_straight : FnScope ["call"] ["call"] (defScope s_p_is_straight) := ⟨rfl, rfl, rfl, by decide +kernel, rfl, by decide +kernel, by decide +kernel⟩
theorem d_p_is_straight (D : Df K mg "is_straight" s_p_is_straight) (k_OPEN_CALLS : Kd K w mg "OPEN_CALLS" kT_OPEN_CALLS) : Cal P w K mg base "is_straight" 1 1 (bodyI 1 ib_p_is_straight) := by
  refine calI (k := 0) (ps := ["call"]) (N := ["call"]) D sc_p_is_straight (fun _ _ _ _ _ _ us hl => match us, hl with | [_], _ => rfl) fun f cdv A outer s H E hr gu F Wx tk => ?_
  have hN := sc_p_is_straight.nd
  have hu := hr.units
  exact (s_one (s_ret (i_kdnotin k_OPEN_CALLS (i_ix (i_var 0) i_int))))
abbrev s_l_take : Stmt := top 10
theorem sc_l_take : FnScope ["_law_bag_here", "_law_many", "_law_cell", "_law_mixed_here", "_law_drawn", "_law_begin", "_law_second"] ["_law_bag_here", "_law_many"] (defScope s_l_take) := ⟨rfl, rfl, rfl, by decide +kernel, rfl, by decide +kernel, by decide +kernel⟩
theorem d_l_take (D : Df K mg "_law_take" s_l_take) (b_len : mg "len" = none) (b_int : mg "int" = none) : Cal P w K mg base "_law_take" 1 2 (bodyI 7 ib_l_take) := by
  refine calI (k := 0) (ps := ["_law_bag_here", "_law_many"]) (N := ["_law_bag_here", "_law_many", "_law_cell", "_law_mixed_here", "_law_drawn", "_law_begin", "_law_second"]) D sc_l_take (fun _ _ _ _ _ _ us hl => match us, hl with | [_, _], _ => rfl) fun f cdv A outer s H E hr gu F Wx tk => ?_
  have hN := sc_l_take.nd
  have hu := hr.units
  exact (s_cons (s_if (t_eq hu (i_ix (i_var 0) i_int) i_int) (s_cons (s_set 2 hN i_int)
    (s_cons (s_if (t_lt (i_ix (i_var 0) i_int) (i_len b_len (ia_cons (i_ix (i_var 0) i_int) ia_nil))) (s_one (s_set 2 hN (i_ix (i_ix (i_var 0) i_int) (i_ix (i_var 0) i_int)))) s_nil)
    (s_cons (s_augS 0 ip_add i_int i_int)
    (s_cons (s_if (t_ge (i_var 2) i_int) (s_one (s_ixS 0 (i_var 2) i_int)) s_nil)
    (s_cons (s_set 3 hN (i_add (i_add (i_mul (i_ix (i_var 0) i_int) i_int) (i_mod (i_toint b_int (ia_cons (i_var 2) ia_nil)) i_int)) (i_mul i_int (i_ix (i_var 0) i_int))))
    (s_one (s_ixS 0 (i_mod (i_toint b_int (ia_cons (i_var 3) ia_nil)) i_int) i_int))))))) s_nil)
  (s_cons (s_if (t_gt (i_ix (i_var 0) i_int) i_int) (s_cons (s_set 4 hN (i_mod (i_toint b_int (ia_cons (i_ix (i_var 0) i_int) ia_nil)) (i_var 1)))
    (s_cons (s_ixS 0 (i_div (i_toint b_int (ia_cons (i_ix (i_var 0) i_int) ia_nil)) (i_var 1)) i_int)
    (s_one (s_ret (i_var 4))))) s_nil)
  (s_cons (s_set 5 hN (i_mod (i_toint b_int (ia_cons (i_mul (i_add (i_ix (i_var 0) i_int) i_int) i_int) ia_nil)) i_int))
  (s_cons (s_set 6 hN (i_mod (i_toint b_int (ia_cons (i_mul (i_mod (i_toint b_int (ia_cons (i_mul (i_var 5) (i_var 5)) ia_nil)) i_int) i_int) ia_nil)) i_int))
  (s_one (s_ret (i_mod (i_toint b_int (ia_cons (i_div (i_var 6) i_int) ia_nil)) (i_var 1))))))))
abbrev s_l_one : Stmt := top 11
theorem sc_l_one : FnScope ["_law_bag_here", "_law_some"] ["_law_bag_here", "_law_some"] (defScope s_l_one) := ⟨rfl, rfl, rfl, by decide +kernel, rfl, by decide +kernel, by decide +kernel⟩
theorem d_l_one (D : Df K mg "_law_one" s_l_one) (b_len : mg "len" = none) (c_l_take : Cal P w K mg base "_law_take" 1 2 sp_l_take) : Cal P w K mg base "_law_one" 2 2 (bodyI 2 ib_l_one) := by
  refine calI (k := 1) (ps := ["_law_bag_here", "_law_some"]) (N := ["_law_bag_here", "_law_some"]) D sc_l_one (fun _ _ _ _ _ _ us hl => match us, hl with | [_, _], _ => rfl) fun f cdv A outer s H E hr gu F Wx tk => ?_
  have hN := sc_l_one.nd
  have hu := hr.units
  exact (s_one (s_ret (i_ix (i_var 1) (i_cal c_l_take (hr.mono (by decide)) gu tk (ia_cons (i_var 0) (ia_cons (i_len b_len (ia_cons (i_var 1) ia_nil)) ia_nil))))))
abbrev s_l_number : Stmt := top 13
theorem sc_l_number : FnScope ["_law_bag_here", "_law_most", "_law_number_here"] ["_law_bag_here", "_law_most"] (defScope s_l_number) := ⟨rfl, rfl, rfl, by decide +kernel, rfl, by decide +kernel, by decide +kernel⟩
theorem d_l_number (D : Df K mg "_law_number" s_l_number) (c_l_take : Cal P w K mg base "_law_take" 1 2 sp_l_take) : Cal P w K mg base "_law_number" 2 2 (bodyI 3 ib_l_number) := by
  refine calI (k := 1) (ps := ["_law_bag_here", "_law_most"]) (N := ["_law_bag_here", "_law_most", "_law_number_here"]) D sc_l_number (fun _ _ _ _ _ _ us hl => match us, hl with | [_, _], _ => rfl) fun f cdv A outer s H E hr gu F Wx tk => ?_
  have hN := sc_l_number.nd
  have hu := hr.units
  exact (s_cons (s_set 2 hN (i_add i_int (i_cal c_l_take (hr.mono (by decide)) gu tk (ia_cons (i_var 0) (ia_cons (i_ix (i_lst (ia_cons i_int (ia_cons i_int (ia_cons i_int (ia_cons (i_var 1) ia_nil))))) (i_cal c_l_take (hr.mono (by decide)) gu tk (ia_cons (i_var 0) (ia_cons i_int ia_nil)))) ia_nil)))))
  (s_one (s_ret (i_if (t_eq hu (i_cal c_l_take (hr.mono (by decide)) gu tk (ia_cons (i_var 0) (ia_cons i_int ia_nil))) i_int) (i_var 2) (i_neg (i_var 2))))))
abbrev s_l_mixed : Stmt := top 12
theorem sc_l_mixed : FnScope ["_law_bag_here", "_law_things", "_law_found", "_law_thing"] ["_law_bag_here", "_law_things"] (defScope s_l_mixed) := ⟨rfl, rfl, rfl, by decide +kernel, rfl, by decide +kernel, by decide +kernel⟩
theorem d_l_mixed (D : Df K mg "_law_mixed" s_l_mixed) (b_len : mg "len" = none) (c_l_take : Cal P w K mg base "_law_take" 1 2 sp_l_take) : Cal P w K mg base "_law_mixed" 2 2 (bodyI 4 ib_l_mixed) := by
  refine calI (k := 1) (ps := ["_law_bag_here", "_law_things"]) (N := ["_law_bag_here", "_law_things", "_law_found", "_law_thing"]) D sc_l_mixed (fun _ _ _ _ _ _ us hl => match us, hl with | [_, _], _ => rfl) fun f cdv A outer s H E hr gu F Wx tk => ?_
  have hN := sc_l_mixed.nd
  have hu := hr.units
  exact (s_cons (s_setN 2 hN (n_lst ia_nil))
  (s_cons (s_for (passes_of rfl) (l_seq (i_var 1)) (g_name (vs := [3]) 3 hN) (s_one (s_expr (i_mtO 2 mg_insert mt_insert PySem.F.slot_list_insert PySem.F.type_list_insert (ia_cons (i_cal c_l_take (hr.mono (by decide)) gu tk (ia_cons (i_var 0) (ia_cons (i_add (i_lenO 2 b_len) i_int) ia_nil))) (ia_cons (i_var 3) ia_nil))))))
  (s_one (s_retO (i := 2)))))
abbrev s_l_two : Stmt := top 14
theorem sc_l_two : FnScope ["_law_bag_here", "_law_files", "_law_some"] ["_law_bag_here", "_law_files"] (defScope s_l_two) := ⟨rfl, rfl, rfl, by decide +kernel, rfl, by decide +kernel, by decide +kernel⟩
theorem d_l_two (D : Df K mg "_law_two" s_l_two) (b_list : mg "list" = none) (b_range : mg "range" = none) (c_l_mixed : Cal P w K mg base "_law_mixed" 2 2 sp_l_mixed) : Cal P w K mg base "_law_two" 3 2 (bodyI 3 ib_l_two) := by
  refine calI (k := 2) (ps := ["_law_bag_here", "_law_files"]) (N := ["_law_bag_here", "_law_files", "_law_some"]) D sc_l_two (fun _ _ _ _ _ _ us hl => match us, hl with | [_, _], _ => rfl) fun f cdv A outer s H E hr gu F Wx tk => ?_
  have hN := sc_l_two.nd
  have hu := hr.units
  exact (s_cons (s_set 2 hN (i_cal c_l_mixed (hr.mono (by decide)) gu tk (ia_cons (i_var 0) (ia_cons (i_listRg b_list b_range (i_var 1)) ia_nil))))
  (s_one (s_ret (i_tup (ia_cons (i_ix (i_var 2) i_int) (ia_cons (i_ix (i_var 2) i_int) ia_nil))))))
abbrev s_l_call : Stmt := top 15
theorem sc_l_call : FnScope ["_law_bag_here", "_law_files", "_law_kinds", "_law_most", "_law_kind"] ["_law_bag_here", "_law_files", "_law_kinds", "_law_most"] (defScope s_l_call) := ⟨rfl, rfl, rfl, by decide +kernel, rfl, by decide +kernel, by decide +kernel⟩
theorem d_l_call (D : Df K mg "_law_call" s_l_call) (c_l_one : Cal P w K mg base "_law_one" 2 2 sp_l_one) (c_l_number : Cal P w K mg base "_law_number" 2 2 sp_l_number) (c_l_take : Cal P w K mg base "_law_take" 1 2 sp_l_take) (c_l_two : Cal P w K mg base "_law_two" 3 2 sp_l_two) : Cal P w K mg base "_law_call" 4 4 (bodyI 5 ib_l_call) := by
  refine calI (k := 3) (ps := ["_law_bag_here", "_law_files", "_law_kinds", "_law_most"]) (N := ["_law_bag_here", "_law_files", "_law_kinds", "_law_most", "_law_kind"]) D sc_l_call (fun _ _ _ _ _ _ us hl => match us, hl with | [_, _, _, _], _ => rfl) fun f cdv A outer s H E hr gu F Wx tk => ?_
  have hN := sc_l_call.nd
  have hu := hr.units
  exact (s_cons (s_set 4 hN (i_cal c_l_one (hr.mono (by decide)) gu tk (ia_cons (i_var 0) (ia_cons (i_var 2) ia_nil))))
  (s_cons (s_if (t_eq hu (i_var 4) i_str) (s_one (s_ret (i_tup (ia_cons i_str (ia_cons (i_cal c_l_number (hr.mono (by decide)) gu tk (ia_cons (i_var 0) (ia_cons (i_var 3) ia_nil))) ia_nil))))) s_nil)
  (s_cons (s_if (t_eq hu (i_var 4) i_str) (s_one (s_ret (i_tup (ia_cons i_str (ia_cons (i_cal c_l_take (hr.mono (by decide)) gu tk (ia_cons (i_var 0) (ia_cons (i_var 1) ia_nil))) (ia_cons (i_cal c_l_number (hr.mono (by decide)) gu tk (ia_cons (i_var 0) (ia_cons (i_var 3) ia_nil))) ia_nil)))))) s_nil)
  (s_cons (s_if (t_in (i_var 4) (i_tup (ia_cons i_str (ia_cons i_str ia_nil)))) (s_one (s_ret (i_add (i_tup (ia_cons (i_var 4) ia_nil)) (i_cal c_l_two (hr.mono (by decide)) gu tk (ia_cons (i_var 0) (ia_cons (i_var 1) ia_nil)))))) s_nil)
  (s_cons (s_if (t_eq hu (i_var 4) i_str) (s_one (s_ret (i_add (i_add (i_tup (ia_cons i_str ia_nil)) (i_cal c_l_two (hr.mono (by decide)) gu tk (ia_cons (i_var 0) (ia_cons (i_var 1) ia_nil)))) (i_tup (ia_cons (i_cal c_l_number (hr.mono (by decide)) gu tk (ia_cons (i_var 0) (ia_cons (i_var 3) ia_nil))) ia_nil))))) s_nil)
  (s_one (s_ret (i_tup (ia_cons (i_var 4) ia_nil)))))))))
abbrev s_l_places : Stmt := top 17
theorem sc_l_places : FnScope ["_law_files", "_law_rows", "_law_found", "_law_row", "_law_file"] ["_law_files", "_law_rows"] (defScope s_l_places) := ⟨rfl, rfl, rfl, by decide +kernel, rfl, by decide +kernel, by decide +kernel⟩
theorem d_l_places (D : Df K mg "_law_places" s_l_places) (b_range : mg "range" = none) : Cal P w K mg base "_law_places" 1 2 (bodyI 5 ib_l_places) := by
  refine calI (k := 0) (ps := ["_law_files", "_law_rows"]) (N := ["_law_files", "_law_rows", "_law_found", "_law_row", "_law_file"]) D sc_l_places (fun _ _ _ _ _ _ us hl => match us, hl with | [_, _], _ => rfl) fun f cdv A outer s H E hr gu F Wx tk => ?_
  have hN := sc_l_places.nd
  have hu := hr.units
  exact (s_cons (s_set 2 hN (i_lst ia_nil))
  (s_cons (s_for (passes_of rfl) (l_range1 b_range (i_var 1)) (g_name (vs := [3]) 3 hN) (s_one (s_set 2 hN (i_add (i_var 2) (i_fz (n_lc [("_law_file", 4)] hN (l_range1 b_range (i_var 0)) (blkOk_by rfl) (fun s H C cl fp F => (g_name (vs := [4]) 4 hN)) (fun s H C cl fp => ti_nil) (fun s H C cl fp F => (i_tup (ia_cons (i_var 3) (ia_cons (i_var 4) ia_nil))))))))))
  (s_one (s_ret (i_var 2)))))
abbrev s_p_on_open : Stmt := top 6
theorem sc_p_on_open : FnScope ["call", "files", "rows", "place", "row", "file", "number", "half"] ["call", "files", "rows", "place"] (defScope s_p_on_open) := ⟨rfl, rfl, rfl, by decide +kernel, rfl, by decide +kernel, by decide +kernel⟩
theorem d_p_on_open (D : Df K mg "on_open" s_p_on_open) : Cal P w K mg base "on_open" 1 4 (bodyI 8 ib_p_on_open) := by
  refine calI (k := 0) (ps := ["call", "files", "rows", "place"]) (N := ["call", "files", "rows", "place", "row", "file", "number", "half"]) D sc_p_on_open (fun _ _ _ _ _ _ us hl => match us, hl with | [_, _, _, _], _ => rfl) fun f cdv A outer s H E hr gu F Wx tk => ?_
  have hN := sc_p_on_open.nd
  have hu := hr.units
  exact (s_cons (s_asg (i_var 3) (g_tup (gs_cons (g_name (vs := [4, 5]) 4 hN) (gs_cons (g_name (vs := [4, 5]) 5 hN) gs_nil))))
  (s_cons (s_if (t_eq hu (i_ix (i_var 0) i_int) i_str) (s_cons (s_set 6 hN (i_add (i_mul (i_var 4) (i_var 1)) (i_var 5)))
    (s_one (s_ret (i_tup (ia_cons (i_mod (i_var 6) (i_var 2)) (ia_cons (i_div (i_var 6) (i_var 2)) ia_nil)))))) s_nil)
  (s_cons (s_if (t_eq hu (i_ix (i_var 0) i_int) i_str) (s_cons (s_set 6 hN (i_add (i_mul (i_var 5) (i_var 2)) (i_var 4)))
    (s_one (s_ret (i_tup (ia_cons (i_div (i_var 6) (i_var 1)) (ia_cons (i_mod (i_var 6) (i_var 1)) ia_nil)))))) s_nil)
  (s_cons (s_set 7 hN (i_div (i_add (i_var 2) i_int) i_int))
  (s_cons (s_if (t_eq hu (i_ix (i_var 0) i_int) i_str) (s_one (s_ret (i_if (t_eq hu (i_mod (i_var 4) i_int) i_int) (i_tup (ia_cons (i_div (i_var 4) i_int) (ia_cons (i_var 5) ia_nil))) (i_tup (ia_cons (i_add (i_var 7) (i_div (i_var 4) i_int)) (ia_cons (i_var 5) ia_nil)))))) s_nil)
  (s_one (s_ret (i_if (t_lt (i_var 4) (i_var 7)) (i_tup (ia_cons (i_mul i_int (i_var 4)) (ia_cons (i_var 5) ia_nil))) (i_tup (ia_cons (i_add (i_mul i_int (i_sub (i_var 4) (i_var 7))) i_int) (ia_cons (i_var 5) ia_nil)))))))))))
abbrev s_p_on_wheel : Stmt := top 5
theorem sc_p_on_wheel : FnScope ["call", "rows", "place", "row", "file", "seat"] ["call", "rows", "place"] (defScope s_p_on_wheel) := ⟨rfl, rfl, rfl, by decide +kernel, rfl, by decide +kernel, by decide +kernel⟩
theorem d_p_on_wheel (D : Df K mg "on_wheel" s_p_on_wheel) : Cal P w K mg base "on_wheel" 1 3 (bodyI 6 ib_p_on_wheel) := by
  refine calI (k := 0) (ps := ["call", "rows", "place"]) (N := ["call", "rows", "place", "row", "file", "seat"]) D sc_p_on_wheel (fun _ _ _ _ _ _ us hl => match us, hl with | [_, _, _], _ => rfl) fun f cdv A outer s H E hr gu F Wx tk => ?_
  have hN := sc_p_on_wheel.nd
  have hu := hr.units
  exact (s_cons (s_asg (i_var 2) (g_tup (gs_cons (g_name (vs := [3, 4]) 3 hN) (gs_cons (g_name (vs := [3, 4]) 4 hN) gs_nil))))
  (s_cons (s_if (t_notin (i_var 4) (i_sl (i_var 0) (o_some i_int) (o_some i_int))) (s_one (s_ret (i_var 2))) s_nil)
  (s_cons (s_set 5 hN (i_if (t_eq hu (i_var 4) (i_ix (i_var 0) i_int)) (i_sub (i_sub (i_var 1) i_int) (i_var 3)) (i_add (i_var 1) (i_var 3))))
  (s_cons (s_set 5 hN (i_mod (i_add (i_var 5) (i_ix (i_var 0) i_int)) (i_mul i_int (i_var 1))))
  (s_one (s_ret (i_if (t_lt (i_var 5) (i_var 1)) (i_tup (ia_cons (i_sub (i_sub (i_var 1) i_int) (i_var 5)) (ia_cons (i_ix (i_var 0) i_int) ia_nil))) (i_tup (ia_cons (i_sub (i_var 5) (i_var 1)) (ia_cons (i_ix (i_var 0) i_int) ia_nil))))))))))
abbrev s_p_moved_by : Stmt := top 7
theorem sc_p_moved_by : FnScope ["call", "files", "rows", "place", "row", "file"] ["call", "files", "rows", "place"] (defScope s_p_moved_by) := ⟨rfl, rfl, rfl, by decide +kernel, rfl, by decide +kernel, by decide +kernel⟩
theorem d_p_moved_by (D : Df K mg "moved_by" s_p_moved_by) (c_p_on_wheel : Cal P w K mg base "on_wheel" 1 3 sp_p_on_wheel) (c_p_on_open : Cal P w K mg base "on_open" 1 4 sp_p_on_open) : Cal P w K mg base "moved_by" 2 4 (bodyI 6 ib_p_moved_by) := by
  refine calI (k := 1) (ps := ["call", "files", "rows", "place"]) (N := ["call", "files", "rows", "place", "row", "file"]) D sc_p_moved_by (fun _ _ _ _ _ _ us hl => match us, hl with | [_, _, _, _], _ => rfl) fun f cdv A outer s H E hr gu F Wx tk => ?_
  have hN := sc_p_moved_by.nd
  have hu := hr.units
  exact (s_cons (s_asg (i_var 3) (g_tup (gs_cons (g_name (vs := [4, 5]) 4 hN) (gs_cons (g_name (vs := [4, 5]) 5 hN) gs_nil))))
  (s_cons (s_if (t_eq hu (i_ix (i_var 0) i_int) i_str) (s_one (s_ret (i_tup (ia_cons (i_mod (i_sub (i_var 4) (i_ix (i_var 0) i_int)) (i_var 2)) (ia_cons (i_var 5) ia_nil))))) s_nil)
  (s_cons (s_if (t_eq hu (i_ix (i_var 0) i_int) i_str) (s_one (s_ret (i_if (t_eq hu (i_var 5) (i_ix (i_var 0) i_int)) (i_tup (ia_cons (i_mod (i_sub (i_var 4) (i_ix (i_var 0) i_int)) (i_var 2)) (ia_cons (i_var 5) ia_nil))) (i_var 3)))) s_nil)
  (s_cons (s_if (t_eq hu (i_ix (i_var 0) i_int) i_str) (s_one (s_ret (i_tup (ia_cons (i_sub (i_sub (i_var 2) i_int) (i_var 4)) (ia_cons (i_sub (i_sub (i_var 1) i_int) (i_var 5)) ia_nil))))) s_nil)
  (s_cons (s_if (t_eq hu (i_ix (i_var 0) i_int) i_str) (s_one (s_ret (i_cal c_p_on_wheel (hr.mono (by decide)) gu tk (ia_cons (i_var 0) (ia_cons (i_var 2) (ia_cons (i_var 3) ia_nil)))))) s_nil)
  (s_cons (s_if (t_in (i_ix (i_var 0) i_int) (i_tup (ia_cons i_str (ia_cons i_str ia_nil)))) (s_cons (s_if (w_or (t_notin (i_var 5) (i_sl (i_var 0) (o_some i_int) o_none)) (w_or1 (w_and (t_eq hu (i_ix (i_var 0) i_int) i_str) (w_and1 (t_gt (i_var 4) i_int))).pt)).pt (s_one (s_ret (i_var 3))) s_nil)
    (s_one (s_ret (i_tup (ia_cons (i_var 4) (ia_cons (i_if (t_eq hu (i_var 5) (i_ix (i_var 0) i_int)) (i_ix (i_var 0) i_int) (i_ix (i_var 0) i_int)) ia_nil)))))) s_nil)
  (s_one (s_ret (i_cal c_p_on_open (hr.mono (by decide)) gu tk (ia_cons (i_var 0) (ia_cons (i_var 1) (ia_cons (i_var 2) (ia_cons (i_var 3) ia_nil)))))))))))))
abbrev s_l_all_kinds : Stmt := top 16
theorem sc_l_all_kinds : FnScope [] [] (defScope s_l_all_kinds) := ⟨rfl, rfl, rfl, by decide +kernel, rfl, by decide +kernel, by decide +kernel⟩
theorem d_l_all_kinds (D : Df K mg "_law_all_kinds" s_l_all_kinds) : Cal P w K mg base "_law_all_kinds" 1 0 (bodyI 0 ib_l_all_kinds) := by
  refine calI (k := 0) (ps := []) (N := []) D sc_l_all_kinds (fun _ _ _ _ _ _ us hl => match us, hl with | [], _ => rfl) fun f cdv A outer s H E hr gu F Wx tk => ?_
  have hN := sc_l_all_kinds.nd
  have hu := hr.units
  exact (s_one (s_ret (i_lst (ia_cons i_str (ia_cons i_str (ia_cons i_str (ia_cons i_str (ia_cons i_str (ia_cons i_str (ia_cons i_str (ia_cons i_str (ia_cons i_str (ia_cons i_str ia_nil)))))))))))))
abbrev s_p_turned : Stmt := top 4
theorem sc_p_turned : FnScope ["call"] ["call"] (defScope s_p_turned) := ⟨rfl, rfl, rfl, by decide +kernel, rfl, by decide +kernel, by decide +kernel⟩
theorem d_p_turned (D : Df K mg "turned" s_p_turned) (k_BY_NUMBER : Kc K mg "BY_NUMBER" kC_BY_NUMBER) (k_OPEN_CALLS : Kd K w mg "OPEN_CALLS" kT_OPEN_CALLS) : Cal P w K mg base "turned" 1 1 (bodyI 1 ib_p_turned) := by
  refine calI (k := 0) (ps := ["call"]) (N := ["call"]) D sc_p_turned (fun _ _ _ _ _ _ us hl => match us, hl with | [_], _ => rfl) fun f cdv A outer s H E hr gu F Wx tk => ?_
  have hN := sc_p_turned.nd
  have hu := hr.units
  exact (s_cons (s_if (t_in (i_ix (i_var 0) i_int) (i_k k_BY_NUMBER)) (s_one (s_ret (i_add (i_sl (i_var 0) o_none (o_some (i_neg i_int))) (i_tup (ia_cons (i_neg (i_ix (i_var 0) (i_neg i_int))) ia_nil))))) s_nil)
  (s_one (s_ret (i_if (t_kdin k_OPEN_CALLS (i_ix (i_var 0) i_int)) (i_tup (ia_cons (i_kdix k_OPEN_CALLS (i_ix (i_var 0) i_int)) ia_nil)) (i_var 0)))))
abbrev s_l_ring : Stmt := top 18
theorem sc_l_ring : FnScope ["_law_call_here", "_law_rows"] ["_law_call_here", "_law_rows"] (defScope s_l_ring) := ⟨rfl, rfl, rfl, by decide +kernel, rfl, by decide +kernel, by decide +kernel⟩
theorem d_l_ring (D : Df K mg "_law_ring" s_l_ring) : Cal P w K mg base "_law_ring" 1 2 (bodyI 2 ib_l_ring) := by
  refine calI (k := 0) (ps := ["_law_call_here", "_law_rows"]) (N := ["_law_call_here", "_law_rows"]) D sc_l_ring (fun _ _ _ _ _ _ us hl => match us, hl with | [_, _], _ => rfl) fun f cdv A outer s H E hr gu F Wx tk => ?_
  have hN := sc_l_ring.nd
  have hu := hr.units
  exact (s_one (s_ret (i_if (t_eq hu (i_ix (i_var 0) i_int) i_str) (i_mul i_int (i_var 1)) (i_var 1))))
abbrev s_law : Stmt := top 19
theorem sc_law : FnScope ["_law_script", "_law_bag_here", "_law_turn", "_law_files", "_law_rows", "_law_call_here", "_law_every", "_law_goals", "_law_more", "_law_file", "_law_breaks", "_law_one_here", "_law_k", "_law_near", "_law_place", "_law_goal", "_law_row"] ["_law_script"] (defScope s_law) := ⟨rfl, rfl, rfl, by decide +kernel, rfl, by decide +kernel, by decide +kernel⟩
theorem g_law {f : Addr} {fd : FuncData} (Fd : FunD K "law" "law" (defArgs s_law) (defBody s_law) (defScope s_law) [] [] f fd) (b_range : mg "range" = none) (b_sorted : mg "sorted" = none) (b_abs : mg "abs" = none) (b_int : mg "int" = none) (c_l_bag : Cal P w K mg base "_law_bag" 1 1 sp_l_bag) (c_l_take : Cal P w K mg base "_law_take" 1 2 sp_l_take) (c_l_places : Cal P w K mg base "_law_places" 1 2 sp_l_places) (c_l_call : Cal P w K mg base "_law_call" 4 4 sp_l_call) (c_l_all_kinds : Cal P w K mg base "_law_all_kinds" 1 0 sp_l_all_kinds) (c_p_moved_by : Cal P w K mg base "moved_by" 2 4 sp_p_moved_by) (c_p_turned : Cal P w K mg base "turned" 1 1 sp_p_turned) (c_l_ring : Cal P w K mg base "_law_ring" 1 2 sp_l_ring) (c_p_is_straight : Cal P w K mg base "is_straight" 1 1 sp_p_is_straight) : FnG P w K mg base 5 f fd ["_law_script"] (spI K 1 (bodyI 17 ib_law)) := by
  refine fnI (k := 4) (ps := ["_law_script"]) (N := ["_law_script", "_law_bag_here", "_law_turn", "_law_files", "_law_rows", "_law_call_here", "_law_every", "_law_goals", "_law_more", "_law_file", "_law_breaks", "_law_one_here", "_law_k", "_law_near", "_law_place", "_law_goal", "_law_row"]) Fd sc_law fun cdv A outer s H E hr gu F Wx tk => ?_
  have hN := sc_law.nd
  have hu := hr.units
  exact (s_cons (s_setP 1 hN (n_cal c_l_bag (hr.mono (by decide)) gu tk (ia_cons (i_var 0) ia_nil)))
  (s_cons (s_for (passes_of rfl) (l_range1 b_range i_int) (g_name (vs := [2]) 2 hN) (s_cons (s_asg (i_tup (ia_cons (i_add i_int (i_cal c_l_take (hr.mono (by decide)) gu tk (ia_cons (i_var 1) (ia_cons i_int ia_nil)))) (ia_cons (i_add i_int (i_cal c_l_take (hr.mono (by decide)) gu tk (ia_cons (i_var 1) (ia_cons i_int ia_nil)))) ia_nil))) (g_tup (gs_cons (g_name (vs := [3, 4]) 3 hN) (gs_cons (g_name (vs := [3, 4]) 4 hN) gs_nil))))
    (s_cons (s_asg (i_tup (ia_cons (i_cal c_l_call (hr.mono (by decide)) gu tk (ia_cons (i_var 1) (ia_cons (i_var 3) (ia_cons (i_cal0 c_l_all_kinds (hr.mono (by decide)) gu tk) (ia_cons i_int ia_nil))))) (ia_cons (i_cal c_l_places (hr.mono (by decide)) gu tk (ia_cons (i_var 3) (ia_cons (i_var 4) ia_nil))) ia_nil))) (g_tup (gs_cons (g_name (vs := [5, 6]) 5 hN) (gs_cons (g_name (vs := [5, 6]) 6 hN) gs_nil))))
    (s_cons (s_setLc 7 [("_law_place", 14)] hN (l_seq (i_var 6)) (blkOk_by rfl) (fun s H C cl fp F => (g_name (vs := [14]) 14 hN)) (fun s H C cl fp => ti_nil) (fun s H C cl fp F => (i_cal c_p_moved_by (hr.mono (by decide)) gu takes0 (ia_cons (i_var 5) (ia_cons (i_var 3) (ia_cons (i_var 4) (ia_cons (i_var 14) ia_nil)))))) (sw_true rfl rfl rfl (by decide +kernel)))
    (s_cons (s_if (t_ne hu (i_sorted b_sorted (ia_cons (i_var 7) ia_nil)) (i_var 6)) (s_one (s_ret i_bl)) s_nil)
    (s_cons (s_if (t_ne hu (i_fz (n_lc [("_law_goal", 15)] hN (l_seq (i_var 7)) (blkOk_by rfl) (fun s H C cl fp F => (g_name (vs := [15]) 15 hN)) (fun s H C cl fp => ti_nil) (fun s H C cl fp F => (i_cal c_p_moved_by (hr.mono (by decide)) gu takes0 (ia_cons (i_cal c_p_turned (hr.mono (by decide)) gu takes0 (ia_cons (i_var 5) ia_nil)) (ia_cons (i_var 3) (ia_cons (i_var 4) (ia_cons (i_var 15) ia_nil)))))))) (i_var 6)) (s_one (s_ret i_bl)) s_nil)
    (s_cons (s_if (t_in (i_ix (i_var 5) i_int) (i_tup (ia_cons i_str (ia_cons i_str (ia_cons i_str ia_nil))))) (s_cons (s_set 8 hN (i_add (i_sl (i_var 5) o_none (o_some (i_neg i_int))) (i_tup (ia_cons (i_add (i_ix (i_var 5) (i_neg i_int)) (i_mul (i_cal c_l_ring (hr.mono (by decide)) gu tk (ia_cons (i_var 5) (ia_cons (i_var 4) ia_nil))) (i_add i_int (i_cal c_l_take (hr.mono (by decide)) gu tk (ia_cons (i_var 1) (ia_cons i_int ia_nil)))))) ia_nil))))
      (s_one (s_if (w_and (t_ne hu (i_ix (i_var 8) (i_neg i_int)) i_int) (w_and1 (t_ne hu (i_fz (n_lc [("_law_place", 14)] hN (l_seq (i_var 6)) (blkOk_by rfl) (fun s H C cl fp F => (g_name (vs := [14]) 14 hN)) (fun s H C cl fp => ti_nil) (fun s H C cl fp F => (i_cal c_p_moved_by (hr.mono (by decide)) gu takes0 (ia_cons (i_var 8) (ia_cons (i_var 3) (ia_cons (i_var 4) (ia_cons (i_var 14) ia_nil)))))))) (i_var 7)))).pt (s_one (s_ret i_bl)) s_nil))) s_nil)
    (s_cons (s_if (t_in (i_ix (i_var 5) i_int) (i_tup (ia_cons i_str (ia_cons i_str (ia_cons i_str ia_nil))))) (s_one (s_if (t_ne hu (i_fz (n_lc [("_law_goal", 15)] hN (l_seq (i_var 7)) (blkOk_by rfl) (fun s H C cl fp F => (g_name (vs := [15]) 15 hN)) (fun s H C cl fp => ti_nil) (fun s H C cl fp F => (i_cal c_p_moved_by (hr.mono (by decide)) gu takes0 (ia_cons (i_var 5) (ia_cons (i_var 3) (ia_cons (i_var 4) (ia_cons (i_var 15) ia_nil)))))))) (i_var 6)) (s_one (s_ret i_bl)) s_nil)) s_nil)
    (s_one (s_if (t_tru (i_cal c_p_is_straight (hr.mono (by decide)) gu tk (ia_cons (i_var 5) ia_nil))) (s_one (s_for (passes_of rfl) (l_range1 b_range (i_var 3)) (g_name (vs := [9]) 9 hN) (s_cons (s_set 10 hN i_int)
        (s_cons (s_setLc 11 [("_law_row", 16)] hN (l_range1 b_range (i_var 4)) (blkOk_by rfl) (fun s H C cl fp F => (g_name (vs := [16]) 16 hN)) (fun s H C cl fp => ti_nil) (fun s H C cl fp F => (i_cal c_p_moved_by (hr.mono (by decide)) gu takes0 (ia_cons (i_var 5) (ia_cons (i_var 3) (ia_cons (i_var 4) (ia_cons (i_tup (ia_cons (i_var 16) (ia_cons (i_var 9) ia_nil))) ia_nil)))))) (sw_true rfl rfl rfl (by decide +kernel)))
        (s_cons (s_for (passes_of rfl) (l_range1 b_range (i_sub (i_var 4) i_int)) (g_name (vs := [12]) 12 hN) (s_cons (s_set 13 hN (i_and (i_eq hu (i_ix (i_ix (i_var 11) (i_var 12)) i_int) (i_ix (i_ix (i_var 11) (i_add (i_var 12) i_int)) i_int)) (i_one (i_eq hu (i_abs b_abs (ia_cons (i_sub (i_ix (i_ix (i_var 11) (i_var 12)) i_int) (i_ix (i_ix (i_var 11) (i_add (i_var 12) i_int)) i_int)) ia_nil)) i_int))))
          (s_one (s_augI 10 ip_add hN (i_toint b_int (ia_cons (i_not (i_var 13)) ia_nil))))))
        (s_one (s_if (t_gt (i_var 10) i_int) (s_one (s_ret i_bl)) s_nil))))))) s_nil))))))))))
  (s_one (s_ret i_bl))))
end
abbrev R : PySem.W.OpenRow := PySem.W.OpenLaw.row PySem.Challenge.rw_pupilpairs_k17_whole_calls_one_to_one
def dd_l_bag : He.DefD := ⟨("_law_bag", none), "_law_bag", "_law_bag", defArgs s_l_bag, defBody s_l_bag, defScope s_l_bag, [], []⟩
def dd_p_is_straight : He.DefD := ⟨("is_straight", none), "is_straight", "is_straight", defArgs s_p_is_straight, defBody s_p_is_straight, defScope s_p_is_straight, [], []⟩
def dd_l_take : He.DefD := ⟨("_law_take", none), "_law_take", "_law_take", defArgs s_l_take, defBody s_l_take, defScope s_l_take, [], []⟩
def dd_l_one : He.DefD := ⟨("_law_one", none), "_law_one", "_law_one", defArgs s_l_one, defBody s_l_one, defScope s_l_one, [], []⟩
def dd_l_number : He.DefD := ⟨("_law_number", none), "_law_number", "_law_number", defArgs s_l_number, defBody s_l_number, defScope s_l_number, [], []⟩
def dd_l_mixed : He.DefD := ⟨("_law_mixed", none), "_law_mixed", "_law_mixed", defArgs s_l_mixed, defBody s_l_mixed, defScope s_l_mixed, [], []⟩
def dd_l_two : He.DefD := ⟨("_law_two", none), "_law_two", "_law_two", defArgs s_l_two, defBody s_l_two, defScope s_l_two, [], []⟩
def dd_l_call : He.DefD := ⟨("_law_call", none), "_law_call", "_law_call", defArgs s_l_call, defBody s_l_call, defScope s_l_call, [], []⟩
def dd_l_places : He.DefD := ⟨("_law_places", none), "_law_places", "_law_places", defArgs s_l_places, defBody s_l_places, defScope s_l_places, [], []⟩
def dd_p_on_open : He.DefD := ⟨("on_open", none), "on_open", "on_open", defArgs s_p_on_open, defBody s_p_on_open, defScope s_p_on_open, [], []⟩
def dd_p_on_wheel : He.DefD := ⟨("on_wheel", none), "on_wheel", "on_wheel", defArgs s_p_on_wheel, defBody s_p_on_wheel, defScope s_p_on_wheel, [], []⟩
def dd_p_moved_by : He.DefD := ⟨("moved_by", none), "moved_by", "moved_by", defArgs s_p_moved_by, defBody s_p_moved_by, defScope s_p_moved_by, [], []⟩
def dd_l_all_kinds : He.DefD := ⟨("_law_all_kinds", none), "_law_all_kinds", "_law_all_kinds", defArgs s_l_all_kinds, defBody s_l_all_kinds, defScope s_l_all_kinds, [], []⟩
def dd_p_turned : He.DefD := ⟨("turned", none), "turned", "turned", defArgs s_p_turned, defBody s_p_turned, defScope s_p_turned, [], []⟩
def dd_l_ring : He.DefD := ⟨("_law_ring", none), "_law_ring", "_law_ring", defArgs s_l_ring, defBody s_l_ring, defScope s_l_ring, [], []⟩
def dd_law : He.DefD := ⟨("law", none), "law", "law", defArgs s_law, defBody s_law, defScope s_law, [], []⟩
def fn : List He.DefD := [dd_l_bag, dd_p_is_straight, dd_l_take, dd_l_one, dd_l_number, dd_l_mixed, dd_l_two, dd_l_call, dd_l_places, dd_p_on_open, dd_p_on_wheel, dd_p_moved_by, dd_l_all_kinds, dd_p_turned, dd_l_ring, dd_law]
def fa : List He.Fa := [.glo "_law_bag", .glo "is_straight", .glo "_law_take", .glo "_law_one", .glo "_law_number", .glo "_law_mixed", .glo "_law_two", .glo "_law_call", .glo "_law_places", .glo "on_open", .glo "on_wheel", .glo "moved_by", .glo "_law_all_kinds", .glo "turned", .glo "_law_ring", .glo "law", .free "abs", .free "len", .free "int", .free "list", .free "range", .free "sorted"]
def lo0 : List Str := ["__name__", "BY_NUMBER", "OPEN_CALLS", "is_straight", "turned", "on_wheel", "on_open", "moved_by", "_law_bag", "_law_take", "_law_one", "_law_mixed", "_law_number", "_law_two", "_law_call", "_law_all_kinds", "_law_places", "_law_ring"]
def loose : List Str := lo0
def tsL : List He.Tab := [(fun K => He.ga K "OPEN_CALLS", ["halve", "pair", "others", "fill"])]
def exL (K : PySem.W.Frag) : Bool := kdB K "OPEN_CALLS" kT_OPEN_CALLS && kcB K "BY_NUMBER" kC_BY_NUMBER && true
abbrev hkL : PySem.W.Hook := He.hookX 4 fa fn tsL [] exL
def obL (s : PySem.W.SharedT) : He.AlX := He.obsX 4 fa fn tsL [] exL (HandSHeadRun.getT s)
theorem obL_eq (s : PySem.W.SharedT) : obL s = hkL.obs s.abs := He.obsX_eq (HandSHeadRun.getT_eq s)
theorem run (w : World) : HandSHeadRun.RunEq R (PySem.W.view R.prog [19]) hkL obL 2000 loose w :=
  PySem.W.byRow2 "special-get-raises" (P := fun w => HandSHeadRun.RunEq R (PySem.W.view R.prog [19]) hkL obL 2000 loose w) (fun w => by
    intro os
    kernel_rfl) (fun w => by
    intro os
    kernel_rfl) w
theorem facts {P : Program} {w : World} {K : PySem.W.Frag} {h : Heap} {mg : Str → Option Value} {f : Addr} (X : K.In h) (G : h.Ns mainGlobals mg) (hfa : mg ("law" : Str) = some (.ref f)) (cX : He.SaysX fa fn tsL [] exL w h K) :
    ∃ fd : FuncData, (∀ (s : Shared) (v : Value), BindsTo s fd ⟨[v], []⟩ [("_law_script", v)]) ∧ ∀ base : Heap, K.In base → base.Ns mainGlobals mg → FnG P w K mg base 5 f fd ["_law_script"] (spI K 1 (bodyI 17 ib_law)) := by
  have c := cX.t.d
  have ex := cX.more
  simp only [exL, Bool.and_eq_true] at ex
  have k_OPEN_CALLS : Kd K w mg "OPEN_CALLS" kT_OPEN_CALLS := kdB_ok X G ex.1.1 (cX.t.tab 0)
  have k_BY_NUMBER : Kc K mg "BY_NUMBER" kC_BY_NUMBER := kcB_ok X G ex.1.2
  have b_abs : mg "abs" = none := He.free_ok X G (c.fact 16 (f := .free "abs") rfl)
  have b_len : mg "len" = none := He.free_ok X G (c.fact 17 (f := .free "len") rfl)
  have b_int : mg "int" = none := He.free_ok X G (c.fact 18 (f := .free "int") rfl)
  have b_list : mg "list" = none := He.free_ok X G (c.fact 19 (f := .free "list") rfl)
  have b_range : mg "range" = none := He.free_ok X G (c.fact 20 (f := .free "range") rfl)
  have b_sorted : mg "sorted" = none := He.free_ok X G (c.fact 21 (f := .free "sorted") rfl)
  have D_l_bag : Df K mg "_law_bag" s_l_bag := by
    obtain ⟨fd, F⟩ := c.def_ 0 (d := dd_l_bag) rfl
    exact ⟨_, fd, F, He.glo_ok X G (c.fact 0 (f := .glo "_law_bag") rfl)⟩
  have D_p_is_straight : Df K mg "is_straight" s_p_is_straight := by
    obtain ⟨fd, F⟩ := c.def_ 1 (d := dd_p_is_straight) rfl
    exact ⟨_, fd, F, He.glo_ok X G (c.fact 1 (f := .glo "is_straight") rfl)⟩
  have D_l_take : Df K mg "_law_take" s_l_take := by
    obtain ⟨fd, F⟩ := c.def_ 2 (d := dd_l_take) rfl
    exact ⟨_, fd, F, He.glo_ok X G (c.fact 2 (f := .glo "_law_take") rfl)⟩
  have D_l_one : Df K mg "_law_one" s_l_one := by
    obtain ⟨fd, F⟩ := c.def_ 3 (d := dd_l_one) rfl
    exact ⟨_, fd, F, He.glo_ok X G (c.fact 3 (f := .glo "_law_one") rfl)⟩
  have D_l_number : Df K mg "_law_number" s_l_number := by
    obtain ⟨fd, F⟩ := c.def_ 4 (d := dd_l_number) rfl
    exact ⟨_, fd, F, He.glo_ok X G (c.fact 4 (f := .glo "_law_number") rfl)⟩
  have D_l_mixed : Df K mg "_law_mixed" s_l_mixed := by
    obtain ⟨fd, F⟩ := c.def_ 5 (d := dd_l_mixed) rfl
    exact ⟨_, fd, F, He.glo_ok X G (c.fact 5 (f := .glo "_law_mixed") rfl)⟩
  have D_l_two : Df K mg "_law_two" s_l_two := by
    obtain ⟨fd, F⟩ := c.def_ 6 (d := dd_l_two) rfl
    exact ⟨_, fd, F, He.glo_ok X G (c.fact 6 (f := .glo "_law_two") rfl)⟩
  have D_l_call : Df K mg "_law_call" s_l_call := by
    obtain ⟨fd, F⟩ := c.def_ 7 (d := dd_l_call) rfl
    exact ⟨_, fd, F, He.glo_ok X G (c.fact 7 (f := .glo "_law_call") rfl)⟩
  have D_l_places : Df K mg "_law_places" s_l_places := by
    obtain ⟨fd, F⟩ := c.def_ 8 (d := dd_l_places) rfl
    exact ⟨_, fd, F, He.glo_ok X G (c.fact 8 (f := .glo "_law_places") rfl)⟩
  have D_p_on_open : Df K mg "on_open" s_p_on_open := by
    obtain ⟨fd, F⟩ := c.def_ 9 (d := dd_p_on_open) rfl
    exact ⟨_, fd, F, He.glo_ok X G (c.fact 9 (f := .glo "on_open") rfl)⟩
  have D_p_on_wheel : Df K mg "on_wheel" s_p_on_wheel := by
    obtain ⟨fd, F⟩ := c.def_ 10 (d := dd_p_on_wheel) rfl
    exact ⟨_, fd, F, He.glo_ok X G (c.fact 10 (f := .glo "on_wheel") rfl)⟩
  have D_p_moved_by : Df K mg "moved_by" s_p_moved_by := by
    obtain ⟨fd, F⟩ := c.def_ 11 (d := dd_p_moved_by) rfl
    exact ⟨_, fd, F, He.glo_ok X G (c.fact 11 (f := .glo "moved_by") rfl)⟩
  have D_l_all_kinds : Df K mg "_law_all_kinds" s_l_all_kinds := by
    obtain ⟨fd, F⟩ := c.def_ 12 (d := dd_l_all_kinds) rfl
    exact ⟨_, fd, F, He.glo_ok X G (c.fact 12 (f := .glo "_law_all_kinds") rfl)⟩
  have D_p_turned : Df K mg "turned" s_p_turned := by
    obtain ⟨fd, F⟩ := c.def_ 13 (d := dd_p_turned) rfl
    exact ⟨_, fd, F, He.glo_ok X G (c.fact 13 (f := .glo "turned") rfl)⟩
  have D_l_ring : Df K mg "_law_ring" s_l_ring := by
    obtain ⟨fd, F⟩ := c.def_ 14 (d := dd_l_ring) rfl
    exact ⟨_, fd, F, He.glo_ok X G (c.fact 14 (f := .glo "_law_ring") rfl)⟩
  obtain ⟨fd, Fl⟩ := c.def_ 15 (d := dd_law) rfl
  have e := hfa.symm.trans (He.glo_ok X G (c.fact 15 (f := .glo "law") rfl))
  cases e
  have bd := FunD.bindsA (ps := ["_law_script"]) Fl fun _ _ _ _ _ _ us hl => match us, hl with | [_], _ => rfl
  refine ⟨fd, fun s v => bd s [v] rfl, fun base _ _ => ?_⟩
  have c_l_bag : Cal P w K mg base "_law_bag" 1 1 sp_l_bag := (d_l_bag D_l_bag b_abs).spec ok_l_bag
  have c_p_is_straight : Cal P w K mg base "is_straight" 1 1 sp_p_is_straight := (d_p_is_straight D_p_is_straight k_OPEN_CALLS).spec ok_p_is_straight
  have c_l_take : Cal P w K mg base "_law_take" 1 2 sp_l_take := (d_l_take D_l_take b_len b_int).spec ok_l_take
  have c_l_one : Cal P w K mg base "_law_one" 2 2 sp_l_one := (d_l_one D_l_one b_len c_l_take).spec ok_l_one
  have c_l_number : Cal P w K mg base "_law_number" 2 2 sp_l_number := (d_l_number D_l_number c_l_take).spec ok_l_number
  have c_l_mixed : Cal P w K mg base "_law_mixed" 2 2 sp_l_mixed := (d_l_mixed D_l_mixed b_len c_l_take).spec ok_l_mixed
  have c_l_two : Cal P w K mg base "_law_two" 3 2 sp_l_two := (d_l_two D_l_two b_list b_range c_l_mixed).spec ok_l_two
  have c_l_call : Cal P w K mg base "_law_call" 4 4 sp_l_call := (d_l_call D_l_call c_l_one c_l_number c_l_take c_l_two).spec ok_l_call
  have c_l_places : Cal P w K mg base "_law_places" 1 2 sp_l_places := (d_l_places D_l_places b_range).spec ok_l_places
  have c_p_on_open : Cal P w K mg base "on_open" 1 4 sp_p_on_open := (d_p_on_open D_p_on_open).spec ok_p_on_open
  have c_p_on_wheel : Cal P w K mg base "on_wheel" 1 3 sp_p_on_wheel := (d_p_on_wheel D_p_on_wheel).spec ok_p_on_wheel
  have c_p_moved_by : Cal P w K mg base "moved_by" 2 4 sp_p_moved_by := (d_p_moved_by D_p_moved_by c_p_on_wheel c_p_on_open).spec ok_p_moved_by
  have c_l_all_kinds : Cal P w K mg base "_law_all_kinds" 1 0 sp_l_all_kinds := (d_l_all_kinds D_l_all_kinds).spec ok_l_all_kinds
  have c_p_turned : Cal P w K mg base "turned" 1 1 sp_p_turned := (d_p_turned D_p_turned k_BY_NUMBER k_OPEN_CALLS).spec ok_p_turned
  have c_l_ring : Cal P w K mg base "_law_ring" 1 2 sp_l_ring := (d_l_ring D_l_ring).spec ok_l_ring
  exact g_law Fl b_range b_sorted b_abs b_int c_l_bag c_l_take c_l_places c_l_call c_l_all_kinds c_p_moved_by c_p_turned c_l_ring c_p_is_straight
end Law
open PyProof.Rows PySem.Calls PySem.W PySem
theorem PySem.Challenge.cw_pupilpairs_k17_whole_calls_one_to_one_holds : PySem.Challenge.rw_pupilpairs_k17_whole_calls_one_to_one.Holds := by
  w_on; o_law
  refine HandSHeadRun.head_any (r := OpenLaw.row PySem.Challenge.rw_pupilpairs_k17_whole_calls_one_to_one) (q := view (OpenLaw.row PySem.Challenge.rw_pupilpairs_k17_whole_calls_one_to_one).prog [19]) (H := Law.hkL) (ob := Law.obL) (M := 2000) (loose := Law.loose) (d := HandSHeadRun.topDef (OpenLaw.row PySem.Challenge.rw_pupilpairs_k17_whole_calls_one_to_one).prog 19) (kwd := []) Law.obL_eq
    (by kernel_rfl) (fun s => by kernel_rfl) Law.run (by kernel_rfl) (by kernel_rfl) (by kernel_rfl) (by rfl) (by first | assumption | decide +kernel) (by decide +kernel) ⟨rfl, rfl, rfl, rfl, rfl, by decide +kernel⟩ ?hw ?hc
  case hw => w_witness2
  case hc =>
    refine Sh.walkG (l := PySem.Challenge.rw_pupilpairs_k17_whole_calls_one_to_one) (n := 63) (k := 5) (x := "_law_script") rfl (by decide) (by kernel_rfl) ⟨rfl, by decide, by decide⟩ ?T
    intro w mg fa h Y G hmg0
    obtain ⟨K, KX, c⟩ := Y
    have hmg : mg ("law" : PySem.Str) = some (.ref fa) := by
      have e : (HandSHeadRun.topDef (OpenLaw.row PySem.Challenge.rw_pupilpairs_k17_whole_calls_one_to_one).prog 19).name = ("law" : PySem.Str) := by kernel_rfl
      rw [← e]
      exact hmg0
    obtain ⟨fd, hb, hF⟩ := Law.facts (P := (PySem.Challenge.rw_pupilpairs_k17_whole_calls_one_to_one).prog) (w := w) KX G hmg c
    exact ⟨K, fd, Sh.bodyI 17 Sh.ib_law, KX, hb, fun ns hl => Sh.pure_law ns hl, hF⟩
