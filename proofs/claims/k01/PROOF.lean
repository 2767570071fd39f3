import PyProof.Rows.All
import Wide.All
import OpenK.AllK
import Wide.FinOn
import PyProof.EqAt
import PyProof.EqKinds
import PyProof.TupleCall
import KE.KStateDown
import KE.KEqNest
import HandS.Base
import HandS.Call
import HandS.List
import HandS.Comp
import HandS.Ends
import HandS.Dict
import HandS.Iter
import HandS.Text
import HandS.More
import HandS.Words
import HandS.WordsList
import HandS.WordsDict
import HandS.WordsExc
import HandS.Exc
import HandS.ExcOwn
import HandS.ExcInit
import HandS.ExcSuper
import HandS.TryOnly
import HandS.TryMany
import HandS.Conv
import HandS.Flow
import HandS.Style
import HandS.Defaults
import HandS.Star
import HandS.Zip
import HandS.Rev
import HandS.TupAny
import HandS.TupLe
import HandS.Wide
import HandS.SetKeys
import HandS.Strs
import HandS.SortOrd
import HandS.SortKw
import HandS.SortRule
import HandS.FStr
import HandS.FStrTup
import HandS.DictTup
import HandS.DictComp
import HandS.TupLen
import HandS.DeepEq
import HandS.EndBits
import HandS.Head0
import HandS.Head1
import HandS.Head2
import HandS.HeadEnd
import HandS.HeadHook1
import HandS.HeadHook2
import HandS.Small
import KE.SortData
import KE.SortKeyHeap
import KE.GoesMore
import HandS.ExcField
import KE.KSortKey
import KE.KExcIs
import HandS.ExcIs
import HandS.HeadHook4
import HandS.Nested
import KE.KSuper
import PySem.Challenge.RW_honestlists_k01_errors_by_class
set_option Elab.async false
set_option linter.all false
set_option maxRecDepth 100000
set_option maxHeartbeats 4000000
namespace HM
open PySem PySem.Spec L2
inductive D where
  | non | bl (b : Bool) | int (i : Int) | str (s : Str)
  | tup (ds : List D) | lst (ds : List D) | dct (t : Bool) (kvs : List (D × D)) | obj (c : Str) (fs : List (Str × D))
  | ref (n : Nat) | cls (c : Str) | scr (ns : List Int) | lck (c : D) | exn (c : Str) (fs : List (Str × D))

inductive Role where | frz | cell (n : Nat) | slot (i : Nat) | out
  deriving DecidableEq
structure Wd where
  role : Addr → Option Role
  addr : Nat → Addr
def keyOf : Key → D
  | .inl i => .int i
  | .inr s => .str s
/-- a tuple stands for good -/
def TupAt (K : PySem.W.Frag) (w : Wd) (H : Hp) (a : Addr) (xs : List V) : Prop := H a = some (.tup xs)
mutual
def RelD (K : PySem.W.Frag) (w : Wd) (H : Hp) : D → V → Prop
  | .non, v => v = .non
  | .bl b, v => v = .bl b
  | .int i, v => v = .int i
  | .str s, v => v = .str s
  | .tup ds, v => ∃ a xs, v = .ref a ∧ TupAt K w H a xs ∧ RelDs K w H ds xs
  | .lst ds, v => ∃ a xs, v = .ref a ∧ w.role a = some .frz ∧ H a = some (.lst xs) ∧ RelDs K w H ds xs
  | .dct false kvs, v => ∃ a gs, v = .ref a ∧ w.role a = some .frz ∧ Rd H a (.dK gs) ∧ RelK K w H kvs gs
  | .dct true kvs, v => ∃ a gs, v = .ref a ∧ w.role a = some .frz ∧ Rd H a (.dT gs) ∧ RelT K w H kvs gs
  | .lck _, _ => False
  | .exn c fs, v => ∃ a dx gs gs', v = .ref a ∧ w.role a = some .frz ∧ H a = some (exo a (He.ga K c) dx) ∧ ((dx = none ∧ gs = []) ∨ ∃ d, dx = some d ∧ w.role d = some .frz ∧ H d = some (exd d gs)) ∧ RelF K w H fs gs' ∧ ∀ f : Str, gs.lookup f = gs'.lookup f
  | .obj c fs, v => ∃ a dx gs, v = .ref a ∧ w.role a = some .frz ∧ H a = some (.ins (He.ga K c) dx gs) ∧ RelF K w H fs gs
  | .ref n, v => v = .ref (w.addr n) ∧ w.role (w.addr n) = some (.cell n)
  | .cls c, v => v = .ref (He.ga K c)
  | .scr ns, v => ∃ a, v = .ref a ∧ ((w.role a = some .frz ∧ Rd H a (.lst (ns.map V.int))) ∨ ∃ (o : Obj) (its : Array Value) (n : Nat), K.lookup a = some o ∧ o.cls = .type "list" ∧ o.dict = none ∧ o.data = .seq its n ∧ its.size ≤ sizeLine ∧ Vals (ns.map V.int) its.toList)
def RelDs (K : PySem.W.Frag) (w : Wd) (H : Hp) : List D → List V → Prop
  | [], xs => xs = []
  | d :: ds, xs => ∃ v vs, xs = v :: vs ∧ RelD K w H d v ∧ RelDs K w H ds vs
def RelF (K : PySem.W.Frag) (w : Wd) (H : Hp) : List (Str × D) → List (Str × V) → Prop
  | [], xs => xs = []
  | (f, d) :: ds, xs => ∃ v vs, xs = (f, v) :: vs ∧ RelD K w H d v ∧ RelF K w H ds vs
def RelK (K : PySem.W.Frag) (w : Wd) (H : Hp) : List (D × D) → List (Key × V) → Prop
  | [], xs => xs = []
  | (k, d) :: ds, xs => ∃ q v vs, xs = (q, v) :: vs ∧ k = keyOf q ∧ RelD K w H d v ∧ RelK K w H ds vs
def RelT (K : PySem.W.Frag) (w : Wd) (H : Hp) : List (D × D) → List (List Key × V) → Prop
  | [], xs => xs = []
  | (k, d) :: ds, xs => ∃ q v vs, xs = (q, v) :: vs ∧ k = .tup (q.map keyOf) ∧ RelD K w H d v ∧ RelT K w H ds vs
end
example (K w H i v) : RelD K w H (.int i) v = (v = .int i) := by rfl
example (K w H ds v) : RelD K w H (.tup ds) v = (∃ a xs, v = .ref a ∧ TupAt K w H a xs ∧ RelDs K w H ds xs) := by rfl
example (K w H ds v f d) : RelF K w H ((f, d) :: ds) v = (∃ v1 vs, v = (f, v1) :: vs ∧ RelD K w H d v1 ∧ RelF K w H ds vs) := by rfl
end HM

set_option Elab.async false
set_option linter.all false
set_option maxRecDepth 100000
set_option maxHeartbeats 4000000
namespace HM
open PySem PySem.Spec L2
/-- it stays as it is; a dict may be locked -/
def Lkd (o o' : Option HO) : Prop := o' = o ∨ ∃ ob, (∃ gs, o = some (.dK gs) ∧ o' = some (.frz ob (.dK gs))) ∨ ∃ gs, o = some (.dT gs) ∧ o' = some (.frz ob (.dT gs))
theorem Lkd.trans {o o1 o2 : Option HO} (a : Lkd o o1) (b : Lkd o1 o2) : Lkd o o2 := by
  rcases a with rfl | ⟨ob, a⟩
  · exact b
  · rcases b with rfl | ⟨ob2, b⟩
    · exact .inr ⟨ob, a⟩
    · rcases a with ⟨gs, _, a2⟩ | ⟨gs, _, a2⟩ <;> rcases b with ⟨gs2, b1, _⟩ | ⟨gs2, b1, _⟩ <;> (rw [a2] at b1; cases b1)
theorem Lkd.lst {o o' : Option HO} {xs : List V} (a : Lkd o o') (h : o = some (.lst xs)) : o' = some (.lst xs) := by
  rcases a with rfl | ⟨ob, ⟨gs, a1, _⟩ | ⟨gs, a1, _⟩⟩
  · exact h
  · rw [h] at a1; cases a1
  · rw [h] at a1; cases a1
theorem Lkd.ins {o o' : Option HO} {C dx : Addr} {gs : List (Str × V)} (a : Lkd o o') (h : o = some (.ins C dx gs)) : o' = some (.ins C dx gs) := by
  rcases a with rfl | ⟨ob, ⟨gs, a1, _⟩ | ⟨gs, a1, _⟩⟩
  · exact h
  · rw [h] at a1; cases a1
  · rw [h] at a1; cases a1
theorem Lkd.xd {o o' : Option HO} {gs : List (Str × V)} (a : Lkd o o') (h : o = some (.xd gs)) : o' = some (.xd gs) := by
  rcases a with rfl | ⟨ob, ⟨gs, a1, _⟩ | ⟨gs, a1, _⟩⟩
  · exact h
  · rw [h] at a1; cases a1
  · rw [h] at a1; cases a1
theorem Lkd.ext {o o' : Option HO} {φ : Heap → Prop} (a : Lkd o o') (h : o = some (.ext φ)) : o' = some (.ext φ) := by
  rcases a with rfl | ⟨ob, ⟨gs, a1, _⟩ | ⟨gs, a1, _⟩⟩
  · exact h
  · rw [h] at a1; cases a1
  · rw [h] at a1; cases a1
theorem Lkd.frz {o o' : Option HO} {ob : Obj} {u : HO} (a : Lkd o o') (h : o = some (.frz ob u)) : o' = some (.frz ob u) := by
  rcases a with rfl | ⟨ob, ⟨gs, a1, _⟩ | ⟨gs, a1, _⟩⟩
  · exact h
  · rw [h] at a1; cases a1
  · rw [h] at a1; cases a1
theorem Lkd.rdK {o o' : Option HO} {gs : List (Key × V)} (a : Lkd o o') (h : o = some (.dK gs)) : o' = some (.dK gs) ∨ ∃ ob, o' = some (.frz ob (.dK gs)) := by
  rcases a with rfl | ⟨ob, ⟨gs', a1, a2⟩ | ⟨gs', a1, a2⟩⟩
  · exact .inl h
  · rw [h] at a1; cases a1; exact .inr ⟨ob, a2⟩
  · rw [h] at a1; cases a1
theorem Lkd.rdT {o o' : Option HO} {gs : List (List Key × V)} (a : Lkd o o') (h : o = some (.dT gs)) : o' = some (.dT gs) ∨ ∃ ob, o' = some (.frz ob (.dT gs)) := by
  rcases a with rfl | ⟨ob, ⟨gs', a1, a2⟩ | ⟨gs', a1, a2⟩⟩
  · exact .inl h
  · rw [h] at a1; cases a1
  · rw [h] at a1; cases a1; exact .inr ⟨ob, a2⟩
/-- what stands from (w, H) on to (w', H') -/
structure Ext0 (w : Wd) (H : Hp) (w' : Wd) (H' : Hp) : Prop where
  frz : ∀ a, w.role a = some .frz → w'.role a = some .frz ∧ Lkd (H a) (H' a)
  cell : ∀ n, w.role (w.addr n) = some (.cell n) → w'.addr n = w.addr n ∧ w'.role (w.addr n) = some (.cell n)
  tup : ∀ a xs, H a = some (.tup xs) → H' a = some (.tup xs)
structure Ext (w : Wd) (H : Hp) (w' : Wd) (H' : Hp) : Prop extends Ext0 w H w' H' where
  out : ∀ a, w.role a = some .out → w'.role a = some .out ∧ H' a = H a
  lok : ∀ a o u, H a = some (.frz o u) → H' a = some (.frz o u)
theorem Ext.refl (w : Wd) (H : Hp) : Ext w H w H := ⟨⟨fun _ h => ⟨h, .inl rfl⟩, fun _ h => ⟨rfl, h⟩, fun _ _ h => h⟩, fun _ h => ⟨h, rfl⟩, fun _ _ _ h => h⟩
theorem Ext0.trans {w w1 w2 : Wd} {H H1 H2 : Hp} (a : Ext0 w H w1 H1) (b : Ext0 w1 H1 w2 H2) : Ext0 w H w2 H2 :=
  ⟨fun x h => by
    obtain ⟨h1, e1⟩ := a.frz x h
    obtain ⟨h2, e2⟩ := b.frz x h1
    exact ⟨h2, e1.trans e2⟩, fun n h => by
    obtain ⟨e1, h1⟩ := a.cell n h
    have h1' : w1.role (w1.addr n) = some (.cell n) := by rw [e1]; exact h1
    obtain ⟨e2, h2⟩ := b.cell n h1'
    rw [e1] at e2 h2
    exact ⟨e2, h2⟩, fun x xs h => b.tup x xs (a.tup x xs h)⟩
theorem Ext.trans {w w1 w2 : Wd} {H H1 H2 : Hp} (a : Ext w H w1 H1) (b : Ext w1 H1 w2 H2) : Ext w H w2 H2 :=
  ⟨a.toExt0.trans b.toExt0, fun x h => by
    obtain ⟨h1, e1⟩ := a.out x h
    obtain ⟨h2, e2⟩ := b.out x h1
    exact ⟨h2, e2.trans e1⟩, fun x o u h => b.lok x o u (a.lok x o u h)⟩
section
variable {K : PySem.W.Frag} {w w' : Wd} {H H' : Hp}
theorem TupAt.mono0 (e : Ext0 w H w' H') {a : Addr} {xs : List V} (h : TupAt K w H a xs) : TupAt K w' H' a xs := e.tup a xs h
theorem rd_monoL (e : Ext0 w H w' H') {a : Addr} {xs : List V} (r : w.role a = some .frz) (h : Rd H a (.lst xs)) : Rd H' a (.lst xs) := by
  obtain ⟨_, h4⟩ := e.frz a r
  rcases h with h | ⟨ob, h⟩
  · exact .inl (h4.lst h)
  · exact .inr ⟨ob, h4.frz h⟩
theorem rd_monoK (e : Ext0 w H w' H') {a : Addr} {gs : List (Key × V)} (r : w.role a = some .frz) (h : Rd H a (.dK gs)) : Rd H' a (.dK gs) := by
  obtain ⟨_, h4⟩ := e.frz a r
  rcases h with h | ⟨ob, h⟩
  · exact h4.rdK h
  · exact .inr ⟨ob, h4.frz h⟩
theorem rd_monoT (e : Ext0 w H w' H') {a : Addr} {gs : List (List Key × V)} (r : w.role a = some .frz) (h : Rd H a (.dT gs)) : Rd H' a (.dT gs) := by
  obtain ⟨_, h4⟩ := e.frz a r
  rcases h with h | ⟨ob, h⟩
  · exact h4.rdT h
  · exact .inr ⟨ob, h4.frz h⟩
mutual
theorem RelD.mono0 (e : Ext0 w H w' H') : ∀ (d : D) (v : V), RelD K w H d v → RelD K w' H' d v
  | .non, v, h => h
  | .bl b, v, h => h
  | .int i, v, h => h
  | .str s, v, h => h
  | .cls c, v, h => h
  | .scr ns, v, h => by
    obtain ⟨a, h1, h2⟩ := h
    refine ⟨a, h1, ?_⟩
    rcases h2 with ⟨h2, h3⟩ | h2
    · exact .inl ⟨(e.frz a h2).1, rd_monoL e h2 h3⟩
    · exact .inr h2
  | .tup ds, v, h => by
    obtain ⟨a, xs, h1, h2, h3⟩ := h
    exact ⟨a, xs, h1, h2.mono0 e, RelDs.mono0 e ds xs h3⟩
  | .lst ds, v, h => by
    obtain ⟨a, xs, h1, h2, h3, h4⟩ := h
    exact ⟨a, xs, h1, (e.frz a h2).1, (e.frz a h2).2.lst h3, RelDs.mono0 e ds xs h4⟩
  | .dct false kvs, v, h => by
    obtain ⟨a, gs, h1, h2, h3, h4⟩ := h
    exact ⟨a, gs, h1, (e.frz a h2).1, rd_monoK e h2 h3, RelK.mono0 e kvs gs h4⟩
  | .dct true kvs, v, h => by
    obtain ⟨a, gs, h1, h2, h3, h4⟩ := h
    exact ⟨a, gs, h1, (e.frz a h2).1, rd_monoT e h2 h3, RelT.mono0 e kvs gs h4⟩
  | .lck _, _, h => h.elim
  | .exn c fs, v, h => by
    obtain ⟨a, dx, gs, gs', h1, h2, h3, h4, h5, h6⟩ := h
    refine ⟨a, dx, gs, gs', h1, (e.frz a h2).1, (e.frz a h2).2.ext h3, ?_, RelF.mono0 e fs gs' h5, h6⟩
    rcases h4 with h4 | ⟨d, k1, k2, k3⟩
    · exact .inl h4
    · exact .inr ⟨d, k1, (e.frz d k2).1, (e.frz d k2).2.ext k3⟩
  | .obj c fs, v, h => by
    obtain ⟨a, dx, gs, h1, h2, h3, h4⟩ := h
    exact ⟨a, dx, gs, h1, (e.frz a h2).1, (e.frz a h2).2.ins h3, RelF.mono0 e fs gs h4⟩
  | .ref n, v, h => by
    obtain ⟨h1, h2⟩ := h
    obtain ⟨e1, h3⟩ := e.cell n h2
    exact ⟨by rw [e1]; exact h1, by rw [e1]; exact h3⟩
theorem RelDs.mono0 (e : Ext0 w H w' H') : ∀ (ds : List D) (xs : List V), RelDs K w H ds xs → RelDs K w' H' ds xs
  | [], xs, h => h
  | d :: ds, xs, h => by
    obtain ⟨v, vs, h1, h2, h3⟩ := h
    exact ⟨v, vs, h1, RelD.mono0 e d v h2, RelDs.mono0 e ds vs h3⟩
theorem RelF.mono0 (e : Ext0 w H w' H') : ∀ (ds : List (Str × D)) (xs : List (Str × V)), RelF K w H ds xs → RelF K w' H' ds xs
  | [], xs, h => h
  | (f, d) :: ds, xs, h => by
    obtain ⟨v, vs, h1, h2, h3⟩ := h
    exact ⟨v, vs, h1, RelD.mono0 e d v h2, RelF.mono0 e ds vs h3⟩
theorem RelK.mono0 (e : Ext0 w H w' H') : ∀ (ds : List (D × D)) (xs : List (Key × V)), RelK K w H ds xs → RelK K w' H' ds xs
  | [], xs, h => h
  | (f, d) :: ds, xs, h => by
    obtain ⟨q, v, vs, h1, h2, h3, h4⟩ := h
    exact ⟨q, v, vs, h1, h2, RelD.mono0 e d v h3, RelK.mono0 e ds vs h4⟩
theorem RelT.mono0 (e : Ext0 w H w' H') : ∀ (ds : List (D × D)) (xs : List (List Key × V)), RelT K w H ds xs → RelT K w' H' ds xs
  | [], xs, h => h
  | (f, d) :: ds, xs, h => by
    obtain ⟨q, v, vs, h1, h2, h3, h4⟩ := h
    exact ⟨q, v, vs, h1, h2, RelD.mono0 e d v h3, RelT.mono0 e ds vs h4⟩
end
theorem TupAt.mono (e : Ext w H w' H') {a : Addr} {xs : List V} (h : TupAt K w H a xs) : TupAt K w' H' a xs := h.mono0 e.toExt0
theorem RelD.mono (e : Ext w H w' H') (d : D) (v : V) (h : RelD K w H d v) : RelD K w' H' d v := RelD.mono0 e.toExt0 d v h
theorem RelDs.mono (e : Ext w H w' H') (d : List D) (v : List V) (h : RelDs K w H d v) : RelDs K w' H' d v := RelDs.mono0 e.toExt0 d v h
theorem RelF.mono (e : Ext w H w' H') (d : List (Str × D)) (v : List (Str × V)) (h : RelF K w H d v) : RelF K w' H' d v := RelF.mono0 e.toExt0 d v h
theorem RelK.mono (e : Ext w H w' H') (d : List (D × D)) (v : List (Key × V)) (h : RelK K w H d v) : RelK K w' H' d v := RelK.mono0 e.toExt0 d v h
theorem RelT.mono (e : Ext w H w' H') (d : List (D × D)) (v : List (List Key × V)) (h : RelT K w H d v) : RelT K w' H' d v := RelT.mono0 e.toExt0 d v h
end
end HM

set_option Elab.async false
set_option linter.all false
set_option maxRecDepth 100000
set_option maxHeartbeats 4000000
namespace HM
open PySem PySem.Spec L2
inductive Slot where
  | none | val (d : D) | own (c : D)
structure Mem where
  env : List Slot
  st : List D
/-- what stands in a thing that may still be changed -/
def Cont (K : PySem.W.Frag) (w : Wd) (H : Hp) (a : Addr) : D → Prop
  | .lst ds => ∃ xs, H a = some (.lst xs) ∧ RelDs K w H ds xs
  | .dct false kvs => ∃ gs, H a = some (.dK gs) ∧ RelK K w H kvs gs
  | .dct true kvs => ∃ gs, H a = some (.dT gs) ∧ RelT K w H kvs gs
  | .obj c fs => ∃ dx gs, H a = some (.ins (He.ga K c) dx gs) ∧ RelF K w H fs gs
  | _ => False
/-- a dict that is locked while it is walked -/
def LCont (K : PySem.W.Frag) (w : Wd) (H : Hp) (a : Addr) : D → Prop
  | .dct false kvs => ∃ o gs, H a = some (.frz o (.dK gs)) ∧ RelK K w H kvs gs
  | .dct true kvs => ∃ o gs, H a = some (.frz o (.dT gs)) ∧ RelT K w H kvs gs
  | _ => False
def ContL (K : PySem.W.Frag) (w : Wd) (H : Hp) (a : Addr) : D → Prop
  | .lck c => LCont K w H a c
  | c => Cont K w H a c
/-- what is not locked -/
def nl : D → Option D
  | .lck _ => none
  | c => some c
def unl : D → D
  | .lck c => c
  | c => c
def SlotR (K : PySem.W.Frag) (w : Wd) (H : Hp) (i : Nat) (ov : Option V) : Slot → Prop
  | .none => True
  | .val d => ∃ v, ov = some v ∧ RelD K w H d v
  | .own c => ∃ a, ov = some (.ref a) ∧ w.role a = some (.slot i) ∧ ContL K w H a c
structure Rel (K : PySem.W.Frag) (w : Wd) (H : Hp) (σ : St) (S : Mem) : Prop where
  len : σ.length = S.env.length
  slots : ∀ (i : Nat) sl, S.env[i]? = some sl → ∃ ov, σ[i]? = some ov ∧ SlotR K w H i ov sl
  cells : ∀ (n : Nat) c, S.st[n]? = some c → w.role (w.addr n) = some (.cell n) ∧ ContL K w H (w.addr n) c
  live : ∀ n, w.role (w.addr n) = some (.cell n) → n < S.st.length
  trk : ∀ a r, w.role a = some r → H a ≠ none
@[simp] theorem nl_lst {ds : List D} : nl (.lst ds) = some (.lst ds) := rfl
@[simp] theorem nl_dct {t : Bool} {kvs : List (D × D)} : nl (.dct t kvs) = some (.dct t kvs) := rfl
@[simp] theorem nl_obj {c : Str} {fs : List (Str × D)} : nl (.obj c fs) = some (.obj c fs) := rfl
@[simp] theorem nl_lck {c : D} : nl (.lck c) = none := rfl
@[simp] theorem unl_lst {ds : List D} : unl (.lst ds) = .lst ds := rfl
@[simp] theorem unl_dct {t : Bool} {kvs : List (D × D)} : unl (.dct t kvs) = .dct t kvs := rfl
@[simp] theorem unl_obj {c : Str} {fs : List (Str × D)} : unl (.obj c fs) = .obj c fs := rfl
@[simp] theorem unl_lck {c : D} : unl (.lck c) = c := rfl
theorem nl_self : ∀ {c c' : D}, nl c = some c' → c' = c
  | .lck _, _, e => nomatch e
  | .exn _ _, _, e => (Option.some.inj e).symm
  | .lst _, _, e => (Option.some.inj e).symm
  | .dct _ _, _, e => (Option.some.inj e).symm
  | .obj _ _, _, e => (Option.some.inj e).symm
  | .non, _, e => (Option.some.inj e).symm
  | .bl _, _, e => (Option.some.inj e).symm
  | .int _, _, e => (Option.some.inj e).symm
  | .str _, _, e => (Option.some.inj e).symm
  | .tup _, _, e => (Option.some.inj e).symm
  | .ref _, _, e => (Option.some.inj e).symm
  | .cls _, _, e => (Option.some.inj e).symm
  | .scr _, _, e => (Option.some.inj e).symm
section
variable {K : PySem.W.Frag} {w w' : Wd} {H H' : Hp} {σ : St} {S : Mem}
theorem Cont.mono0 (e : Ext0 w H w' H') {a : Addr} (ha : H' a = H a) : ∀ {c : D}, Cont K w H a c → Cont K w' H' a c
  | .lst ds, ⟨xs, h1, h2⟩ => ⟨xs, ha.trans h1, RelDs.mono0 e _ _ h2⟩
  | .dct false kvs, ⟨gs, h4, h5⟩ => ⟨gs, ha.trans h4, RelK.mono0 e kvs gs h5⟩
  | .dct true kvs, ⟨gs, h4, h5⟩ => ⟨gs, ha.trans h4, RelT.mono0 e kvs gs h5⟩
  | .obj c fs, ⟨dx, gs, h1, h2⟩ => ⟨dx, gs, ha.trans h1, RelF.mono0 e _ _ h2⟩
  | .non, h => h.elim
  | .bl _, h => h.elim
  | .int _, h => h.elim
  | .str _, h => h.elim
  | .tup _, h => h.elim
  | .ref _, h => h.elim
  | .cls _, h => h.elim
  | .scr _, h => h.elim
  | .lck _, h => h.elim
  | .exn _ _, h => h.elim
theorem Cont.mono (e : Ext w H w' H') {a : Addr} (ha : H' a = H a) {c : D} (h : Cont K w H a c) : Cont K w' H' a c := h.mono0 e.toExt0 ha
theorem Cont.there {a : Addr} : ∀ {c : D}, Cont K w H a c → H a ≠ none
  | .lst ds, ⟨xs, h1, h2⟩ => by rw [h1]; simp
  | .dct false kvs, ⟨gs, h4, h5⟩ => by rw [h4]; simp
  | .dct true kvs, ⟨gs, h4, h5⟩ => by rw [h4]; simp
  | .obj c fs, ⟨dx, gs, h1, h2⟩ => by rw [h1]; simp
  | .non, h => h.elim
  | .bl _, h => h.elim
  | .int _, h => h.elim
  | .str _, h => h.elim
  | .tup _, h => h.elim
  | .ref _, h => h.elim
  | .cls _, h => h.elim
  | .scr _, h => h.elim
  | .lck _, h => h.elim
  | .exn _ _, h => h.elim
theorem Cont.mut {a : Addr} : ∀ {c : D}, Cont K w H a c → Mut (H a)
  | .lst ds, ⟨xs, h1, h2⟩ => by rw [h1]; trivial
  | .dct false kvs, ⟨gs, h4, h5⟩ => by rw [h4]; trivial
  | .dct true kvs, ⟨gs, h4, h5⟩ => by rw [h4]; trivial
  | .obj c fs, ⟨dx, gs, h1, h2⟩ => by rw [h1]; trivial
  | .non, h => h.elim
  | .bl _, h => h.elim
  | .int _, h => h.elim
  | .str _, h => h.elim
  | .tup _, h => h.elim
  | .ref _, h => h.elim
  | .cls _, h => h.elim
  | .scr _, h => h.elim
  | .lck _, h => h.elim
  | .exn _ _, h => h.elim
theorem ContL.of {a : Addr} : ∀ {c : D}, Cont K w H a c → ContL K w H a c
  | .lck _, h => h.elim
  | .exn _ _, h => h.elim
  | .lst _, h => h
  | .dct false _, h => h
  | .dct true _, h => h
  | .obj _ _, h => h
  | .non, h => h
  | .bl _, h => h
  | .int _, h => h
  | .str _, h => h
  | .tup _, h => h
  | .ref _, h => h
  | .cls _, h => h
  | .scr _, h => h
theorem ContL.nl {a : Addr} : ∀ {c c' : D}, ContL K w H a c → HM.nl c = some c' → c' = c ∧ Cont K w H a c
  | .lck _, _, _, e => nomatch e
  | .exn _ _, _, h, _ => False.elim h
  | .lst _, _, h, e => by cases e; exact ⟨rfl, h⟩
  | .dct false _, _, h, e => by cases e; exact ⟨rfl, h⟩
  | .dct true _, _, h, e => by cases e; exact ⟨rfl, h⟩
  | .obj _ _, _, h, e => by cases e; exact ⟨rfl, h⟩
  | .non, _, h, _ => False.elim h
  | .bl _, _, h, _ => False.elim h
  | .int _, _, h, _ => False.elim h
  | .str _, _, h, _ => False.elim h
  | .tup _, _, h, _ => False.elim h
  | .ref _, _, h, _ => False.elim h
  | .cls _, _, h, _ => False.elim h
  | .scr _, _, h, _ => False.elim h
theorem LCont.mono0 (e : Ext0 w H w' H') {a : Addr} (ha : H' a = H a) : ∀ {c : D}, LCont K w H a c → LCont K w' H' a c
  | .dct false kvs, ⟨o, gs, h4, h5⟩ => ⟨o, gs, ha.trans h4, RelK.mono0 e kvs gs h5⟩
  | .dct true kvs, ⟨o, gs, h4, h5⟩ => ⟨o, gs, ha.trans h4, RelT.mono0 e kvs gs h5⟩
  | .lst _, h => h.elim
  | .obj _ _, h => h.elim
  | .non, h => h.elim
  | .bl _, h => h.elim
  | .int _, h => h.elim
  | .str _, h => h.elim
  | .tup _, h => h.elim
  | .ref _, h => h.elim
  | .cls _, h => h.elim
  | .scr _, h => h.elim
  | .lck _, h => h.elim
  | .exn _ _, h => h.elim
theorem LCont.there {a : Addr} : ∀ {c : D}, LCont K w H a c → H a ≠ none
  | .dct false kvs, ⟨o, gs, h4, h5⟩ => by rw [h4]; simp
  | .dct true kvs, ⟨o, gs, h4, h5⟩ => by rw [h4]; simp
  | .lst _, h => h.elim
  | .obj _ _, h => h.elim
  | .non, h => h.elim
  | .bl _, h => h.elim
  | .int _, h => h.elim
  | .str _, h => h.elim
  | .tup _, h => h.elim
  | .ref _, h => h.elim
  | .cls _, h => h.elim
  | .scr _, h => h.elim
  | .lck _, h => h.elim
  | .exn _ _, h => h.elim
theorem ContL.cases {a : Addr} : ∀ {c : D}, ContL K w H a c → (∃ c', c = .lck c' ∧ LCont K w H a c') ∨ (HM.nl c = some c ∧ unl c = c ∧ Cont K w H a c)
  | .lck c, h => .inl ⟨c, rfl, h⟩
  | .lst _, h => .inr ⟨rfl, rfl, h⟩
  | .dct false _, h => .inr ⟨rfl, rfl, h⟩
  | .dct true _, h => .inr ⟨rfl, rfl, h⟩
  | .obj _ _, h => .inr ⟨rfl, rfl, h⟩
  | .non, h => False.elim h
  | .bl _, h => False.elim h
  | .int _, h => False.elim h
  | .str _, h => False.elim h
  | .tup _, h => False.elim h
  | .ref _, h => False.elim h
  | .cls _, h => False.elim h
  | .scr _, h => False.elim h
theorem ContL.mono0 (e : Ext0 w H w' H') {a : Addr} (ha : H' a = H a) {c : D} (h : ContL K w H a c) : ContL K w' H' a c := by
  rcases h.cases with ⟨c', rfl, q⟩ | ⟨_, _, q⟩
  · exact q.mono0 e ha
  · exact .of (q.mono0 e ha)
theorem ContL.mono (e : Ext w H w' H') {a : Addr} (ha : H' a = H a) {c : D} (h : ContL K w H a c) : ContL K w' H' a c := h.mono0 e.toExt0 ha
theorem ContL.there {a : Addr} {c : D} (h : ContL K w H a c) : H a ≠ none := by
  rcases h.cases with ⟨c', rfl, q⟩ | ⟨_, _, q⟩
  · exact q.there
  · exact q.there
theorem Cont.noFrz {a : Addr} {c : D} (h : Cont K w H a c) : ∀ ob u, H a ≠ some (.frz ob u) := fun ob u e => by
  have := h.mut
  rw [e] at this
  exact this
theorem Cont.noTup {a : Addr} {c : D} (h : Cont K w H a c) : ∀ xs, H a ≠ some (.tup xs) := fun xs e => by
  have := h.mut
  rw [e] at this
  exact this
theorem ContL.noTup {a : Addr} {c : D} (h : ContL K w H a c) : ∀ xs, H a ≠ some (.tup xs) := fun xs e => by
  rcases h.cases with ⟨c', rfl, q⟩ | ⟨_, _, q⟩
  · cases c' with
    | dct t kvs =>
      cases t with
      | false => obtain ⟨o, gs, h1, h2⟩ := q; rw [h1] at e; cases e
      | true => obtain ⟨o, gs, h1, h2⟩ := q; rw [h1] at e; cases e
    | _ => exact False.elim q
  · have := q.mut
    rw [e] at this
    exact this
theorem SlotR.mono0 (e : Ext0 w H w' H') {i : Nat} {ov : Option V} {sl : Slot} (h : SlotR K w H i ov sl)
    (hs : ∀ a c, sl = .own c → ov = some (.ref a) → w.role a = some (.slot i) → w'.role a = some (.slot i) ∧ H' a = H a) : SlotR K w' H' i ov sl := by
  cases sl with
  | none => trivial
  | val d =>
    obtain ⟨v, h1, h2⟩ := h
    exact ⟨v, h1, RelD.mono0 e d v h2⟩
  | own c =>
    obtain ⟨a, h1, h2, h3⟩ := h
    obtain ⟨k1, k2⟩ := hs a c rfl h1 h2
    exact ⟨a, h1, k1, h3.mono0 e k2⟩
theorem SlotR.mono (e : Ext w H w' H') {i : Nat} {ov : Option V} {sl : Slot} (h : SlotR K w H i ov sl)
    (hs : ∀ a c, sl = .own c → ov = some (.ref a) → w.role a = some (.slot i) → w'.role a = some (.slot i) ∧ H' a = H a) : SlotR K w' H' i ov sl := h.mono0 e.toExt0 hs
/-- only things without a role are new or changed; roles may come to things that had none -/
structure Grow (w : Wd) (H : Hp) (w' : Wd) (H' : Hp) : Prop where
  role : ∀ a r, w.role a = some r → w'.role a = some r ∧ H' a = H a
  addr : ∀ n, w.role (w.addr n) = some (.cell n) → w'.addr n = w.addr n
  tup : ∀ a xs, H a = some (.tup xs) → H' a = some (.tup xs)
  lok : ∀ a o u, H a = some (.frz o u) → H' a = some (.frz o u)
theorem Grow.ext (g : Grow w H w' H') : Ext w H w' H' := ⟨⟨fun a h => ⟨(g.role a _ h).1, .inl (g.role a _ h).2⟩, fun n h => ⟨g.addr n h, (g.role _ _ h).1⟩, g.tup⟩, fun a h => g.role a _ h, g.lok⟩
theorem Rel.grow (R : Rel K w H σ S) (g : Grow w H w' H') (hl : ∀ n, w'.role (w'.addr n) = some (.cell n) → n < S.st.length) (ht : ∀ a r, w'.role a = some r → H' a ≠ none) : Rel K w' H' σ S where
  len := R.len
  slots := fun i sl h => by
    obtain ⟨ov, h1, h2⟩ := R.slots i sl h
    exact ⟨ov, h1, h2.mono g.ext fun a c _ _ hr => g.role a _ hr⟩
  cells := fun n c h => by
    obtain ⟨h1, h2⟩ := R.cells n c h
    obtain ⟨k1, k2⟩ := g.role _ _ h1
    rw [g.addr n h1]
    exact ⟨k1, h2.mono g.ext k2⟩
  live := hl
  trk := ht
/-- a new object that nobody knows -/
theorem Rel.fresh_role (R : Rel K w H σ S) {p : Addr} (hp : H p = none) : w.role p = none := by
  cases e : w.role p with
  | none => rfl
  | some r => exact absurd hp (R.trk p r e)
theorem tup_upd {p : Addr} {o : HO} (hn : ∀ xs, H p ≠ some (.tup xs)) : ∀ a xs, H a = some (.tup xs) → upd H p o a = some (.tup xs) := fun a xs h => by
  rw [upd_ne fun z => by rw [z] at h; exact hn xs h]
  exact h
theorem lok_upd {p : Addr} {o : HO} (hn : ∀ ob u, H p ≠ some (.frz ob u)) : ∀ a ob u, H a = some (.frz ob u) → upd H p o a = some (.frz ob u) := fun a ob u h => by
  rw [upd_ne fun z => by rw [z] at h; exact hn ob u h]
  exact h
theorem Grow.upd {p : Addr} {o : HO} (hp : w.role p = none) (hn : H p = none) : Grow w H w (upd H p o) :=
  ⟨fun a r h => ⟨h, upd_ne (fun z => by rw [z, hp] at h; cases h)⟩, fun _ _ => rfl, tup_upd (fun xs e => by rw [hn] at e; cases e), lok_upd fun ob u e => by rw [hn] at e; cases e⟩
theorem Rel.alloc (R : Rel K w H σ S) {p : Addr} {o : HO} (hp : H p = none) : Rel K w (upd H p o) σ S ∧ Grow w H w (upd H p o) := by
  have hr := R.fresh_role hp
  refine ⟨R.grow (.upd hr hp) R.live fun a r h => ?_, .upd hr hp⟩
  rw [upd_ne (fun z => by rw [z, hr] at h; cases h)]
  exact R.trk a r h
/-- a role for a thing without one -/
def Wd.put (w : Wd) (p : Addr) (r : Role) : Wd := ⟨fun a => if a = p then some r else w.role a, w.addr⟩
theorem put_same {p : Addr} {r : Role} : (w.put p r).role p = some r := if_pos rfl
theorem put_ne {p a : Addr} {r : Role} (h : a ≠ p) : (w.put p r).role a = w.role a := if_neg h
theorem Grow.put {p : Addr} {r : Role} (hp : w.role p = none) : Grow w H (w.put p r) H :=
  ⟨fun a r h => ⟨by rw [put_ne (fun z => by rw [z, hp] at h; cases h)]; exact h, rfl⟩, fun _ _ => rfl, fun _ _ h => h, fun _ _ _ h => h⟩
/-- it becomes frozen (or a slot's own): no cell -/
theorem Rel.put (R : Rel K w H σ S) {p : Addr} {r : Role} (hp : w.role p = none) (ht : H p ≠ none) (hr : ∀ n, r ≠ .cell n) : Rel K (w.put p r) H σ S := by
  refine R.grow (.put hp) (fun n h => ?_) fun a r' h => ?_
  · by_cases e : (w.put p r).addr n = p
    · rw [e, put_same] at h
      exact absurd (Option.some.inj h) (hr n)
    · rw [put_ne e] at h
      exact R.live n h
  · by_cases e : a = p
    · rw [e]; exact ht
    · rw [put_ne e] at h
      exact R.trk a r' h
theorem Grow.trans {w1 w2 : Wd} {H1 H2 : Hp} (a : Grow w H w1 H1) (b : Grow w1 H1 w2 H2) : Grow w H w2 H2 :=
  ⟨fun x r h => by
    obtain ⟨h1, e1⟩ := a.role x r h
    obtain ⟨h2, e2⟩ := b.role x r h1
    exact ⟨h2, e2.trans e1⟩, fun n h => by
    obtain ⟨h1, _⟩ := a.role _ _ h
    have e := a.addr n h
    rw [← e] at h1
    rw [b.addr n h1, e], fun x xs h => b.tup x xs (a.tup x xs h), fun x o u h => b.lok x o u (a.lok x o u h)⟩
/-- the same by values: what a thing that is read holds, whatever its role -/
def LookR (K : PySem.W.Frag) (w : Wd) (H : Hp) : D → V → Prop
  | .lst ds, v => ∃ a xs, v = .ref a ∧ H a = some (.lst xs) ∧ RelDs K w H ds xs
  | .dct false kvs, v => ∃ a gs, v = .ref a ∧ Rd H a (.dK gs) ∧ RelK K w H kvs gs
  | .dct true kvs, v => ∃ a gs, v = .ref a ∧ Rd H a (.dT gs) ∧ RelT K w H kvs gs
  | .obj c fs, v => ∃ a dx gs, v = .ref a ∧ H a = some (.ins (He.ga K c) dx gs) ∧ RelF K w H fs gs
  | .ref _, _ => False
  | d, v => RelD K w H d v
theorem TupAt.sq {a : Addr} {xs : List V} (h : TupAt K w H a xs) : SqT K H a xs := .inl (.inl h)
theorem Cont.look {a : Addr} : ∀ {c : D}, Cont K w H a c → LookR K w H c (.ref a)
  | .lst ds, ⟨xs, h1, h2⟩ => ⟨a, xs, rfl, h1, h2⟩
  | .dct false kvs, ⟨gs, h1, h2⟩ => ⟨a, gs, rfl, .inl h1, h2⟩
  | .dct true kvs, ⟨gs, h1, h2⟩ => ⟨a, gs, rfl, .inl h1, h2⟩
  | .obj c fs, ⟨dx, gs, h1, h2⟩ => ⟨a, dx, gs, rfl, h1, h2⟩
  | .non, h => h.elim
  | .bl _, h => h.elim
  | .int _, h => h.elim
  | .str _, h => h.elim
  | .tup _, h => h.elim
  | .ref _, h => h.elim
  | .cls _, h => h.elim
  | .scr _, h => h.elim
  | .lck _, h => h.elim
  | .exn _ _, h => h.elim
theorem ContL.look {a : Addr} {c : D} (h : ContL K w H a c) : LookR K w H (unl c) (.ref a) := by
  rcases h.cases with ⟨c', rfl, q⟩ | ⟨_, e, q⟩
  · show LookR K w H c' (.ref a)
    cases c' with
    | dct t kvs =>
      cases t with
      | false => obtain ⟨o, gs, h1, h2⟩ := q; exact ⟨a, gs, rfl, .inr ⟨o, h1⟩, h2⟩
      | true => obtain ⟨o, gs, h1, h2⟩ := q; exact ⟨a, gs, rfl, .inr ⟨o, h1⟩, h2⟩
    | _ => exact False.elim q
  · rw [e]
    exact q.look
/-- what a value shows -/
def look (st : List D) : D → Option D
  | .ref n => (st[n]?).map unl
  | d => some d
theorem RelD.look (R : Rel K w H σ S) : ∀ {d c : D} {v : V}, RelD K w H d v → HM.look S.st d = some c → LookR K w H c v
  | .non, c, v, h, e => by cases e; exact h
  | .bl b, c, v, h, e => by cases e; exact h
  | .int i, c, v, h, e => by cases e; exact h
  | .str s, c, v, h, e => by cases e; exact h
  | .cls s, c, v, h, e => by cases e; exact h
  | .scr ns, c, v, h, e => by cases e; exact h
  | .tup ds, c, v, h, e => by cases e; exact h
  | .lst ds, c, v, h, e => by
    cases e
    obtain ⟨a, xs, h1, _, h2, h3⟩ := h
    exact ⟨a, xs, h1, h2, h3⟩
  | .dct false kvs, c, v, h, e => by
    cases e
    obtain ⟨a, gs, h1, _, h2, h3⟩ := h
    exact ⟨a, gs, h1, h2, h3⟩
  | .dct true kvs, c, v, h, e => by
    cases e
    obtain ⟨a, gs, h1, _, h2, h3⟩ := h
    exact ⟨a, gs, h1, h2, h3⟩
  | .lck _, _, _, h, _ => h.elim
  | .exn c0 fs0, c, v, h, e => by cases e; exact h
  | .obj k fs, c, v, h, e => by
    cases e
    obtain ⟨a, dx, gs, h1, _, h2, h3⟩ := h
    exact ⟨a, dx, gs, h1, h2, h3⟩
  | .ref n, c, v, h, e => by
    obtain ⟨h1, h2⟩ := h
    obtain ⟨c', e', rfl⟩ := Option.map_eq_some_iff.mp e
    obtain ⟨_, h3⟩ := R.cells n c' e'
    rw [h1]
    exact h3.look
/-- what is mutable is frozen -/
theorem Cont.frz {a : Addr} (hr : w.role a = some .frz) : ∀ {c : D}, Cont K w H a c → RelD K w H c (.ref a)
  | .lst ds, ⟨xs, h1, h2⟩ => ⟨a, xs, rfl, hr, h1, h2⟩
  | .dct false kvs, ⟨gs, h1, h2⟩ => ⟨a, gs, rfl, hr, .inl h1, h2⟩
  | .dct true kvs, ⟨gs, h1, h2⟩ => ⟨a, gs, rfl, hr, .inl h1, h2⟩
  | .obj c fs, ⟨dx, gs, h1, h2⟩ => ⟨a, dx, gs, rfl, hr, h1, h2⟩
  | .non, h => h.elim
  | .bl _, h => h.elim
  | .int _, h => h.elim
  | .str _, h => h.elim
  | .tup _, h => h.elim
  | .ref _, h => h.elim
  | .cls _, h => h.elim
  | .scr _, h => h.elim
  | .lck _, h => h.elim
  | .exn _ _, h => h.elim
end
end HM

set_option Elab.async false
set_option linter.all false
set_option maxRecDepth 100000
set_option maxHeartbeats 4000000
namespace HM
open PySem PySem.Spec L2
inductive Res (t : Type) where
  | ok (a : t) (m : Mem) | exc (c : Str) (fs : List (Str × D)) (m : Mem) | bad
def Res.bind {a b : Type} (x : Res a) (k : a → Mem → Res b) : Res b := match x with
  | .ok v m => k v m
  | .exc c fs m => .exc c fs m
  | .bad => .bad
def Res.map {a b : Type} (x : Res a) (f : a → b) : Res b := x.bind fun v m => .ok (f v) m
/-- an answer, or nothing is said -/
def ofO {a : Type} (o : Option a) (m : Mem) : Res a := match o with
  | some v => .ok v m
  | none => .bad
/-- what an expression gives: a value, or a thing that nobody else holds -/
inductive RD where
  | val (d : D) | own (c : D)
def RD.frz : RD → D
  | .val d => d
  | .own c => c
def ResR (K : PySem.W.Frag) (w : Wd) (H : Hp) : RD → V → Prop
  | .val d, v => RelD K w H d v
  | .own c, v => ∃ a, v = .ref a ∧ w.role a = none ∧ Cont K w H a c
/-- an exception's fields -/
def ExcR (K : PySem.W.Frag) (w : Wd) (H : Hp) (fs : List (Str × D)) (dx : Option Addr) : Prop :=
  (fs = [] ∧ dx = none) ∨ ∃ d gs, dx = some d ∧ w.role d = some .frz ∧ H d = some (.xd gs) ∧ ∀ f, (fs.lookup f = none ∧ gs.lookup f = none) ∨ ∃ e v, fs.lookup f = some e ∧ gs.lookup f = some v ∧ RelD K w H e v
abbrev RR (a c : Type) := Wd → Hp → a → c → Prop
section
variable {K : PySem.W.Frag}
def postG {a c : Type} (K : PySem.W.Frag) (R : RR a c) (w : Wd) (H : Hp) (σ : L2.St) (W : WX) (Q : c → Hp → Prop) : Res a → Prop
  | .ok r m => ∀ w' H' v, Ext w H w' H' → Rel K w' H' σ m → R w' H' r v → Q v H'
  | .exc c fs m => ∀ w' H' dx, Ext w H w' H' → Rel K w' H' σ m → ExcR K w' H' fs dx → W (.ref (He.ga K c)) dx σ H'
  | .bad => False
def tG {a c : Type} (K : PySem.W.Frag) (R : RR a c) (m : Mem → Res a) (W : WX) : L2.St → Hp → (c → Hp → Prop) → Prop := fun σ H Q => ∃ w S, Rel K w H σ S ∧ postG K R w H σ W Q (m S)
theorem postG.ext {a c : Type} {R : RR a c} {w w1 : Wd} {H H1 : Hp} {σ : L2.St} {W : WX} {Q : c → Hp → Prop} (e : Ext w H w1 H1) : ∀ {x : Res a}, postG K R w H σ W Q x → postG K R w1 H1 σ W Q x
  | .ok r m, h => fun w' H' v e' r' q => h w' H' v (e.trans e') r' q
  | .exc c fs m, h => fun w' H' dx e' r' q => h w' H' dx (e.trans e') r' q
  | .bad, h => h
theorem tG_bind {a b c d : Type} {R : RR a c} {R2 : RR b d} {m : Mem → Res a} {k : a → Mem → Res b} {W : WX} {σ : L2.St} {H : Hp} {Q : d → Hp → Prop} {Q1 : c → Hp → Prop}
    (h : tG K R2 (fun S => (m S).bind k) W σ H Q) (hq : ∀ v H1 r S1 w1, Rel K w1 H1 σ S1 → R w1 H1 r v → postG K R2 w1 H1 σ W Q (k r S1) → Q1 v H1) : tG K R m W σ H Q1 := by
  obtain ⟨w, S, rel, p0⟩ := h
  have p : postG K R2 w H σ W Q ((m S).bind k) := p0
  refine ⟨w, S, rel, ?_⟩
  cases e : m S with
  | ok r S1 =>
    rw [e] at p
    exact fun w' H' v ex rl q => hq v H' r S1 w' rl q (postG.ext ex p)
  | exc c fs S1 =>
    rw [e] at p
    exact p
  | bad =>
    rw [e] at p
    exact p
/-- from the state as it stands -/
theorem tG_of {a b c d : Type} {R : RR a c} {R2 : RR b d} {m : Mem → Res a} {k : a → Mem → Res b} {W : WX} {σ : L2.St} {H : Hp} {Q : d → Hp → Prop} {Q1 : c → Hp → Prop} {w : Wd} {S : Mem} (rel : Rel K w H σ S)
    (h : postG K R2 w H σ W Q ((m S).bind k)) (hq : ∀ v H1 r S1 w1, Rel K w1 H1 σ S1 → R w1 H1 r v → Ext w H w1 H1 → postG K R2 w1 H1 σ W Q (k r S1) → Q1 v H1) : tG K R m W σ H Q1 := by
  refine ⟨w, S, rel, ?_⟩
  cases e : m S with
  | ok r S1 =>
    rw [e] at h
    exact fun w' H' v ex rl q => hq v H' r S1 w' rl q ex (postG.ext ex h)
  | exc c fs S1 =>
    rw [e] at h
    exact h
  | bad =>
    rw [e] at h
    exact h
end
/-- e gives what m says -/
def SG {a : Type} (X : Cx) (R : RR a V) (e : Expr) (m : Mem → Res a) : Prop := ∀ W, Takes X W → PE X e (tG X.K R m W)
abbrev SE (X : Cx) (e : Expr) (m : Mem → Res RD) : Prop := SG X (ResR X.K) e m
abbrev SV (X : Cx) (e : Expr) (m : Mem → Res D) : Prop := SG X (RelD X.K) e m
abbrev SL (X : Cx) (e : Expr) (m : Mem → Res D) : Prop := SG X (LookR X.K) e m
theorem PE.imp {X : Cx} {e : Expr} {t t' : TE} (h : PE X e t) (i : ∀ σ H Q, t' σ H Q → t σ H Q) : PE X e t' := ⟨fun pins s σ H Q I q => h.run pins s σ H Q I (i σ H Q q)⟩
section
variable {X : Cx} {ex : Expr}
/-- a thing that nobody holds is frozen -/
theorem ResR.freeze {K : PySem.W.Frag} {w : Wd} {H : Hp} {σ : L2.St} {S : Mem} {r : RD} {v : V} (rel : Rel K w H σ S) (h : ResR K w H r v) : ∃ w', Grow w H w' H ∧ Rel K w' H σ S ∧ RelD K w' H r.frz v := by
  cases r with
  | val d => exact ⟨w, ⟨fun a r h => ⟨h, rfl⟩, fun _ _ => rfl, fun _ _ h => h, fun _ _ _ h => h⟩, rel, h⟩
  | own c =>
    obtain ⟨a, rfl, h1, h2⟩ := h
    have g : Grow w H (w.put a .frz) H := .put h1
    exact ⟨w.put a .frz, g, rel.put h1 h2.there (fun n q => nomatch q), (h2.mono g.ext rfl).frz put_same⟩
/-- results by a weaker relation -/
theorem SG.weak {a b : Type} {R : RR a V} {R2 : RR b V} {m : Mem → Res a} {f : a → b} (h : SG X R ex m)
    (hr : ∀ w H σ S r v, Rel X.K w H σ S → R w H r v → ∃ w', Grow w H w' H ∧ Rel X.K w' H σ S ∧ R2 w' H (f r) v) : SG X R2 ex fun S => (m S).map f := fun W tk =>
  PE.imp (h W tk) fun σ H Q t => tG_bind t fun v H1 r S1 w1 rel q p => by
    obtain ⟨w', g, rel', q'⟩ := hr w1 H1 σ S1 r v rel q
    exact p w' H1 v g.ext rel' q'
theorem SE.v {m : Mem → Res RD} (h : SE X ex m) : SV X ex fun S => (m S).map RD.frz := h.weak fun _ _ _ _ _ _ rel q => q.freeze rel
theorem SV.e {m : Mem → Res D} (h : SV X ex m) : SE X ex fun S => (m S).map RD.val := h.weak fun w H _ _ _ _ rel q => ⟨w, ⟨fun _ _ h => ⟨h, rfl⟩, fun _ _ => rfl, fun _ _ h => h, fun _ _ _ h => h⟩, rel, q⟩
/-- a value is looked at -/
def lookM (m : Mem → Res D) : Mem → Res D := fun S => (m S).bind fun d S1 => ofO (look S1.st d) S1
theorem SV.l {m : Mem → Res D} (h : SV X ex m) : SL X ex (lookM m) := fun W tk =>
  PE.imp (h W tk) fun σ H Q t => tG_bind t fun v H1 r S1 w1 rel q p => by
    cases el : look S1.st r with
    | none => rw [el] at p; exact p.elim
    | some c =>
      rw [el] at p
      exact p w1 H1 v (Ext.refl _ _) rel (RelD.look rel q el)
/-! ### names, constants -/
/-- a name: what its slot holds; a thing of its own is frozen -/
def mVar (i : Nat) : Mem → Res RD := fun S => match S.env[i]? with
  | some (.val d) => .ok (.val d) S
  | some (.own c) => (match nl c with
    | some c => .ok (.val c) { S with env := S.env.set i (.val c) }
    | none => .bad)
  | _ => .bad
theorem Rel.freezeSlot {K : PySem.W.Frag} {w : Wd} {H : Hp} {σ : L2.St} {S : Mem} {i : Nat} {c : D} {v : V} (rel : Rel K w H σ S) (e : S.env[i]? = some (.own c)) (hn : nl c = some c) (hv : σ[i]? = some (some v)) :
    ∃ w', Ext w H w' H ∧ Rel K w' H σ { S with env := S.env.set i (.val c) } ∧ RelD K w' H c v := by
  obtain ⟨ov, h1, a, h2, h3, h4⟩ := rel.slots i _ e
  replace h4 := (h4.nl hn).2
  rw [hv] at h1
  cases h1
  cases h2
  -- the role of a
  refine ⟨⟨fun b => if b = a then some .frz else w.role b, w.addr⟩, ?_⟩
  have ne : ∀ b r, w.role b = some r → r ≠ .slot i → b ≠ a := fun b r h n z => by
    rw [z, h3] at h
    exact n (Option.some.inj h).symm
  have ex : Ext w H ⟨fun b => if b = a then some .frz else w.role b, w.addr⟩ H :=
    ⟨⟨fun b h => ⟨by show (if b = a then _ else _) = _; rw [if_neg (ne b _ h (fun q => nomatch q))]; exact h, .inl rfl⟩, fun n h => ⟨rfl, by show (if _ = a then _ else _) = _; rw [if_neg (ne _ _ h (fun q => nomatch q))]; exact h⟩, fun _ _ h => h⟩, fun b h => ⟨by show (if b = a then _ else _) = _; rw [if_neg (ne b _ h (fun q => nomatch q))]; exact h, rfl⟩, fun _ _ _ h => h⟩
  have hr : RelD K ⟨fun b => if b = a then some .frz else w.role b, w.addr⟩ H c (.ref a) := (h4.mono ex rfl).frz (if_pos rfl)
  refine ⟨ex, ⟨by rw [rel.len]; simp, fun j sl h => ?_, fun n c' h => ?_, fun n h => ?_, fun b r h => ?_⟩, hr⟩
  · have h' : (S.env.set i (.val c))[j]? = some sl := h
    by_cases ej : j = i
    · subst ej
      rw [List.getElem?_set_self (List.getElem?_eq_some_iff.mp e).1] at h'
      cases h'
      exact ⟨_, hv, .ref a, rfl, hr⟩
    · rw [List.getElem?_set_ne (Ne.symm ej)] at h'
      obtain ⟨ov, k1, k2⟩ := rel.slots j sl h'
      refine ⟨ov, k1, k2.mono ex fun b c _ _ hb => ⟨?_, rfl⟩⟩
      show (if b = a then _ else _) = _
      rw [if_neg (ne b _ hb (fun q => ej (by injection q)))]
      exact hb
  · obtain ⟨k1, k2⟩ := rel.cells n c' h
    refine ⟨(ex.cell n k1).2, k2.mono ex rfl⟩
  · have h' : (if w.addr n = a then some Role.frz else w.role (w.addr n)) = some (.cell n) := h
    by_cases q : w.addr n = a
    · rw [if_pos q] at h'; cases h'
    · rw [if_neg q] at h'
      exact rel.live n h'
  · have h' : (if b = a then some Role.frz else w.role b) = some r := h
    by_cases q : b = a
    · rw [q]; exact h4.there
    · rw [if_neg q] at h'
      exact rel.trk b r h'
theorem tVar_of {K : PySem.W.Frag} {w : Wd} {H : Hp} {σ : L2.St} {S : Mem} {i : Nat} {sl : Slot} (rel : Rel K w H σ S) (e : S.env[i]? = some sl) (hn : sl ≠ .none) : ∃ v, σ[i]? = some (some v) := by
  obtain ⟨ov, h1, h2⟩ := rel.slots i sl e
  cases sl with
  | none => exact absurd rfl hn
  | val d =>
    obtain ⟨v, rfl, _⟩ := h2
    exact ⟨v, h1⟩
  | own c =>
    obtain ⟨a, rfl, _⟩ := h2
    exact ⟨_, h1⟩
theorem se_var {i : Nat} {x : Str} {pos : Pos} (hN : X.N[i]? = some x) (hv : Vis X.env.scope x) (hd : (x == ("__debug__" : Str)) = false) (hcd : (x == ("__classdict__" : Str)) = false) : SE X (.Name x pos) (mVar i) := fun W tk =>
  PE.imp (pe_var hN hv hd hcd) fun σ H Q t => by
    obtain ⟨w, S, rel, p⟩ := t
    unfold mVar at p
    cases e : S.env[i]? with
    | none => rw [e] at p; exact p.elim
    | some sl =>
      rw [e] at p
      cases sl with
      | none => exact p.elim
      | val d =>
        obtain ⟨ov, h1, v, rfl, h2⟩ := rel.slots i _ e
        exact ⟨v, h1, p w H v (Ext.refl _ _) rel h2⟩
      | own c =>
        obtain ⟨v, hv⟩ := tVar_of rel e (fun q => nomatch q)
        cases en : nl c with
        | none =>
          have p' : postG X.K (ResR X.K) w H σ W Q (match nl c with
            | some c => Res.ok (.val c) { S with env := S.env.set i (.val c) }
            | none => .bad) := p
          rw [en] at p'
          exact p'.elim
        | some c' =>
          have p' : postG X.K (ResR X.K) w H σ W Q (match nl c with
            | some c => Res.ok (.val c) { S with env := S.env.set i (.val c) }
            | none => .bad) := p
          rw [en] at p'
          have := nl_self en
          subst this
          obtain ⟨w', ex, rel', hr⟩ := rel.freezeSlot e en hv
          exact ⟨v, hv, p' w' H v ex rel' hr⟩
/-- a name that is only looked at -/
def mPeek (i : Nat) : Mem → Res D := fun S => match S.env[i]? with
  | some (.val d) => ofO (look S.st d) S
  | some (.own c) => .ok (unl c) S
  | _ => .bad
theorem peek_rel {K : PySem.W.Frag} {w : Wd} {H : Hp} {σ : L2.St} {S S' : Mem} {i : Nat} {c : D} (rel : Rel K w H σ S) (e : mPeek i S = .ok c S') : S' = S ∧ ∃ v, σ[i]? = some (some v) ∧ LookR K w H c v := by
  unfold mPeek at e
  cases es : S.env[i]? with
  | none => rw [es] at e; cases e
  | some sl =>
    rw [es] at e
    cases sl with
    | none => cases e
    | val d =>
      obtain ⟨ov, h1, v, rfl, h2⟩ := rel.slots i _ es
      have e' : ofO (look S.st d) S = .ok c S' := e
      cases el : look S.st d with
      | none => rw [el] at e'; cases e'
      | some c' =>
        rw [el] at e'
        cases e'
        exact ⟨rfl, v, h1, RelD.look rel h2 el⟩
    | own c' =>
      obtain ⟨ov, h1, a, rfl, _, h3⟩ := rel.slots i _ es
      cases e
      exact ⟨rfl, _, h1, h3.look⟩
theorem sl_var {i : Nat} {x : Str} {pos : Pos} (hN : X.N[i]? = some x) (hv : Vis X.env.scope x) (hd : (x == ("__debug__" : Str)) = false) (hcd : (x == ("__classdict__" : Str)) = false) : SL X (.Name x pos) (mPeek i) := fun W tk =>
  PE.imp (pe_var hN hv hd hcd) fun σ H Q t => by
    obtain ⟨w, S, rel, p⟩ := t
    cases e : mPeek i S with
    | ok c S' =>
      rw [e] at p
      obtain ⟨rfl, v, h1, h2⟩ := peek_rel rel e
      exact ⟨v, h1, p w H v (Ext.refl _ _) rel h2⟩
    | exc c fs S' =>
      unfold mPeek at e
      cases es : S.env[i]? with
      | none => rw [es] at e; cases e
      | some sl =>
        rw [es] at e
        cases sl with
        | none => cases e
        | val d =>
          have e' : ofO (look S.st d) S = .exc c fs S' := e
          cases el : look S.st d with
          | none => rw [el] at e'; cases e'
          | some c' => rw [el] at e'; cases e'
        | own c' => cases e
    | bad => rw [e] at p; exact p.elim
/-- a value that is at hand -/
def mC (d : D) : Mem → Res RD := fun S => .ok (.val d) S
theorem se_const {t : TE} {d : D} {v : V} (h : PE X ex t) (ht : ∀ σ H Q, Q v H → t σ H Q) (hr : ∀ w H, RelD X.K w H d v) : SE X ex (mC d) := fun W tk =>
  PE.imp h fun σ H Q t => by
    obtain ⟨w, S, rel, p⟩ := t
    exact ht σ H Q (p w H v (Ext.refl _ _) rel (hr w H))
end
end HM

set_option Elab.async false
set_option linter.all false
set_option maxRecDepth 100000
set_option maxHeartbeats 4000000
namespace HM
open PySem PySem.Spec L2
section
variable {K : PySem.W.Frag} {w w' : Wd} {H H' : Hp}
theorem RelDs.length : ∀ {ds : List D} {xs : List V}, RelDs K w H ds xs → ds.length = xs.length
  | [], _, h => by rw [show _ = ([] : List V) from h]; rfl
  | d :: ds, _, h => by
    obtain ⟨v, vs, rfl, _, h3⟩ := h
    rw [List.length_cons, List.length_cons, RelDs.length h3]
theorem RelDs.append : ∀ {ds es : List D} {xs ys : List V}, RelDs K w H ds xs → RelDs K w H es ys → RelDs K w H (ds ++ es) (xs ++ ys)
  | [], _, _, _, h, h' => by rw [show _ = ([] : List V) from h]; exact h'
  | d :: ds, _, _, _, h, h' => by
    obtain ⟨v, vs, rfl, h2, h3⟩ := h
    exact ⟨v, vs ++ _, rfl, h2, RelDs.append h3 h'⟩
theorem RelDs.get : ∀ {ds : List D} {xs : List V} {i : Nat} {d : D}, RelDs K w H ds xs → ds[i]? = some d → ∃ v, xs[i]? = some v ∧ RelD K w H d v
  | [], _, _, _, _, e => by simp at e
  | d :: ds, _, 0, _, h, e => by
    obtain ⟨v, vs, rfl, h2, h3⟩ := h
    simp at e
    subst e
    exact ⟨v, rfl, h2⟩
  | d :: ds, _, i + 1, _, h, e => by
    obtain ⟨v, vs, rfl, h2, h3⟩ := h
    obtain ⟨u, e1, e2⟩ := RelDs.get (i := i) h3 (by simpa using e)
    exact ⟨u, by simpa using e1, e2⟩
theorem RelDs.getV : ∀ {ds : List D} {xs : List V} {i : Nat} {v : V}, RelDs K w H ds xs → xs[i]? = some v → ∃ d, ds[i]? = some d ∧ RelD K w H d v
  | [], _, _, _, h, e => by rw [show _ = ([] : List V) from h] at e; simp at e
  | d :: ds, _, 0, _, h, e => by
    obtain ⟨v, vs, rfl, h2, h3⟩ := h
    simp at e
    subst e
    exact ⟨d, rfl, h2⟩
  | d :: ds, _, i + 1, _, h, e => by
    obtain ⟨v, vs, rfl, h2, h3⟩ := h
    obtain ⟨u, e1, e2⟩ := RelDs.getV (i := i) h3 (by simpa using e)
    exact ⟨u, by simpa using e1, e2⟩
theorem RelDs.take : ∀ (n : Nat) {ds : List D} {xs : List V}, RelDs K w H ds xs → RelDs K w H (ds.take n) (xs.take n)
  | 0, _, _, _ => rfl
  | n + 1, [], _, h => by rw [show _ = ([] : List V) from h]; rfl
  | n + 1, d :: ds, _, h => by
    obtain ⟨v, vs, rfl, h2, h3⟩ := h
    exact ⟨v, _, rfl, h2, RelDs.take n h3⟩
theorem RelDs.drop : ∀ (n : Nat) {ds : List D} {xs : List V}, RelDs K w H ds xs → RelDs K w H (ds.drop n) (xs.drop n)
  | 0, _, _, h => h
  | n + 1, [], _, h => by rw [show _ = ([] : List V) from h]; rfl
  | n + 1, d :: ds, _, h => by
    obtain ⟨v, vs, rfl, h2, h3⟩ := h
    exact RelDs.drop n h3
theorem RelDs.set : ∀ (n : Nat) {ds : List D} {xs : List V} {d : D} {v : V}, RelDs K w H ds xs → RelD K w H d v → RelDs K w H (ds.set n d) (xs.set n v)
  | _, [], _, _, _, h, _ => by rw [show _ = ([] : List V) from h]; rfl
  | 0, d :: ds, _, _, _, h, hd => by
    obtain ⟨v, vs, rfl, h2, h3⟩ := h
    exact ⟨_, _, rfl, hd, h3⟩
  | n + 1, d :: ds, _, _, _, h, hd => by
    obtain ⟨v, vs, rfl, h2, h3⟩ := h
    exact ⟨v, _, rfl, h2, RelDs.set n h3 hd⟩
theorem RelDs.erase : ∀ (n : Nat) {ds : List D} {xs : List V}, RelDs K w H ds xs → RelDs K w H (ds.eraseIdx n) (xs.eraseIdx n)
  | _, [], _, h => by rw [show _ = ([] : List V) from h]; rfl
  | 0, d :: ds, _, h => by
    obtain ⟨v, vs, rfl, h2, h3⟩ := h
    exact h3
  | n + 1, d :: ds, _, h => by
    obtain ⟨v, vs, rfl, h2, h3⟩ := h
    exact ⟨v, _, rfl, h2, RelDs.erase n h3⟩
theorem RelDs.reverse : ∀ {ds : List D} {xs : List V}, RelDs K w H ds xs → RelDs K w H ds.reverse xs.reverse
  | [], _, h => by rw [show _ = ([] : List V) from h]; rfl
  | d :: ds, _, h => by
    obtain ⟨v, vs, rfl, h2, h3⟩ := h
    rw [List.reverse_cons, List.reverse_cons]
    exact (RelDs.reverse h3).append ⟨v, [], rfl, h2, rfl⟩
theorem RelDs.rep {ds : List D} {xs : List V} (h : RelDs K w H ds xs) : ∀ n : Nat, RelDs K w H (List.replicate n ds).flatten (List.replicate n xs).flatten
  | 0 => rfl
  | n + 1 => by
    rw [List.replicate_succ, List.replicate_succ, List.flatten_cons, List.flatten_cons]
    exact h.append (RelDs.rep h n)
theorem RelDs.one {d : D} {v : V} (h : RelD K w H d v) : RelDs K w H [d] [v] := ⟨v, [], rfl, h, rfl⟩
theorem RelDs.nil_iff {ds : List D} {xs : List V} (h : RelDs K w H ds xs) : ds = [] ↔ xs = [] := by
  have := h.length
  constructor
  · intro e; subst e; exact List.length_eq_zero_iff.mp this.symm
  · intro e; subst e; exact List.length_eq_zero_iff.mp this
/-- a new tuple stands -/
theorem Rel.newTup {σ : L2.St} {S : Mem} (rel : Rel K w H σ S) {p : Addr} (hp : H p = none) {ds : List D} {xs : List V} (h : RelDs K w H ds xs) :
    ∃ w', Ext w H w' (upd H p (.tup xs)) ∧ Rel K w' (upd H p (.tup xs)) σ S ∧ RelD K w' (upd H p (.tup xs)) (.tup ds) (.ref p) := by
  obtain ⟨r1, g1⟩ := rel.alloc (o := .tup xs) hp
  have hr := rel.fresh_role hp
  have g2 : Grow w (upd H p (.tup xs)) (w.put p .frz) (upd H p (.tup xs)) := .put hr
  have g := g1.trans g2
  refine ⟨w.put p .frz, g.ext, r1.put hr (by rw [upd_same]; simp) (fun n q => nomatch q), p, xs, rfl, upd_same, RelDs.mono g.ext _ _ h⟩
/-- a new thing that nobody holds -/
theorem Rel.newOwn {σ : L2.St} {S : Mem} (rel : Rel K w H σ S) {p : Addr} (hp : H p = none) {ds : List D} {xs : List V} (h : RelDs K w H ds xs) :
    Ext w H w (upd H p (.lst xs)) ∧ Rel K w (upd H p (.lst xs)) σ S ∧ ResR K w (upd H p (.lst xs)) (.own (.lst ds)) (.ref p) := by
  obtain ⟨r1, g1⟩ := rel.alloc (o := .lst xs) hp
  exact ⟨g1.ext, r1, p, rfl, rel.fresh_role hp, xs, upd_same, RelDs.mono g1.ext _ _ h⟩
theorem TupAt.rel {ds : List D} {v : V} (h : RelD K w H (.tup ds) v) : ∃ a xs, v = .ref a ∧ SqT K H a xs ∧ RelDs K w H ds xs := by
  obtain ⟨a, xs, h1, h2, h3⟩ := h
  exact ⟨a, xs, h1, h2.sq, h3⟩
end
/-- an operation of two values that are looked at -/
def OpS (X : Cx) (r : R2) (g : D → D → Option RD) : Prop := ∀ (w : Wd) (H : Hp) (σ : L2.St) (S : Mem) (a b : D) (c : RD) (x y : V) (Q : VK), Rel X.K w H σ S → LookR X.K w H a x → LookR X.K w H b y → g a b = some c →
  (∀ w' H' v, Ext w H w' H' → Rel X.K w' H' σ S → ResR X.K w' H' c v → Q v H') → r x y H Q
def mBin (g : D → D → Option RD) (ma mb : Mem → Res D) : Mem → Res RD := fun S => (ma S).bind fun a S1 => (mb S1).bind fun b S2 => ofO ((look S2.st a).bind fun a' => g a' b) S2
section
variable {X : Cx} {a b : Expr} {ma mb : Mem → Res D} {g : D → D → Option RD} {r : R2} {pos : Pos}
theorem tOp_of {W : WX} (ho : OpS X r g) {σ : L2.St} {H : Hp} {Q : VK} (h : tG X.K (ResR X.K) (mBin g ma mb) W σ H Q) : tOp r (tG X.K (RelD X.K) ma W) (tG X.K (LookR X.K) mb W) σ H Q :=
  tG_bind h fun x H1 a S1 w1 rel1 q1 p1 => tG_of rel1 p1 fun y H2 b S2 w2 rel2 q2 ex p2 => by
    cases e : (look S2.st a).bind fun a' => g a' b with
    | none => rw [e] at p2; exact p2.elim
    | some c =>
      rw [e] at p2
      obtain ⟨a', ea, eg⟩ := Option.bind_eq_some_iff.mp e
      exact ho w2 H2 σ S2 a' b c x y Q rel2 (RelD.look rel2 (RelD.mono ex _ _ q1) ea) q2 eg p2
theorem se_bin {op : Operator} (hr : OpR X (binaryOp op) r) (ho : OpS X r g) (ha : SV X a ma) (hb : SL X b mb) : SE X (.BinOp a op b pos) (mBin g ma mb) := fun W tk =>
  PE.imp (pe_op hr (ha W tk) (hb W tk)) fun _ _ _ t => tOp_of ho t
theorem se_cmp {op : CmpOp} (hr : OpR X (compareOp op) r) (ho : OpS X r g) (ha : SV X a ma) (hb : SL X b mb) (hm : behindInMarks op b = false) : SE X (.Compare a [op] [b] pos) (mBin g ma mb) := fun W tk =>
  PE.imp (pe_cmpR hr (ha W tk) (hb W tk) hm) fun _ _ _ t => tOp_of ho t
end
/-! ### the operators -/
def len_ok (n : Nat) : Bool := decide (n ≤ sizeLine)
def addD : D → D → Option RD
  | .int i, .int j => some (.val (.int (i + j)))
  | .str i, .str j => if i.length + j.length ≤ sizeLine then some (.val (.str (i ++ j))) else none
  | .lst a, .lst b => if a.length + b.length ≤ sizeLine then some (.own (.lst (a ++ b))) else none
  | .tup a, .tup b => if a.length + b.length ≤ sizeLine then some (.val (.tup (a ++ b))) else none
  | _, _ => none
def subD : D → D → Option RD
  | .int i, .int j => some (.val (.int (i - j)))
  | _, _ => none
def mulD : D → D → Option RD
  | .int i, .int j => if (-(2 ^ 64) < i ∧ i < 2 ^ 64) ∨ (-(2 ^ 64) < j ∧ j < 2 ^ 64) then some (.val (.int (i * j))) else none
  | .lst a, .int k => if 0 ≤ k ∧ k < 2 ^ 63 ∧ a.length * k.toNat ≤ sizeLine then some (.own (.lst (List.replicate k.toNat a).flatten)) else none
  | .str a, .int k => if 1 ≤ k ∧ k ≤ 1000 ∧ a.length * k.toNat ≤ 1000 then some (.val (.str (Txt.mul a k))) else none
  | _, _ => none
def modD : D → D → Option RD
  | .int i, .int j => if 0 < j then some (.val (.int (i % j))) else none
  | _, _ => none
def fdivD : D → D → Option RD
  | .int i, .int j => if 0 < j ∧ j < 1073741824 then some (.val (.int (i / j))) else none
  | _, _ => none
def powD : D → D → Option RD
  | .int i, .int j => if 0 ≤ j ∧ j ≤ 1000000 ∧ i.natAbs < 2 ^ 64 then some (.val (.int (i ^ j.toNat))) else none
  | _, _ => none
section
variable {X : Cx}
theorem look_int {K : PySem.W.Frag} {w : Wd} {H : Hp} {i : Int} {x : V} (h : LookR K w H (.int i) x) : x = .int i := h
theorem look_str {K : PySem.W.Frag} {w : Wd} {H : Hp} {i : Str} {x : V} (h : LookR K w H (.str i) x) : x = .str i := h
theorem ext_self {K : PySem.W.Frag} {w : Wd} {H : Hp} {σ : L2.St} {S : Mem} {d : D} {v : V} {Q : VK} (rel : Rel K w H σ S) (h : ∀ w' H' v, Ext w H w' H' → Rel K w' H' σ S → ResR K w' H' (.val d) v → Q v H') (hd : RelD K w H d v) : Q v H :=
  h w H v (Ext.refl _ _) rel hd
def rAddD (K : PySem.W.Frag) : R2 := fun x y H Q => (∃ i j, x = .int i ∧ y = .int j ∧ Q (.int (i + j)) H) ∨ ((∃ i j, x = .str i ∧ y = .str j ∧ i.length + j.length ≤ sizeLine ∧ Q (.str (i ++ j)) H) ∨ (rCat x y H Q ∨ rCatA K x y H Q))
theorem opr_add : OpR X (binaryOp .Add) (rAddD X.K) := op_add.or (op_add_str.or (op_cat.or op_catA))
theorem ops_add : OpS X (rAddD X.K) addD := by
  intro w H σ S a b c x y Q rel ha hb e h
  cases a <;> cases b <;> try (exact nomatch (show (none : Option RD) = some c from e))
  case int.int i j =>
    cases e
    exact .inl ⟨i, j, ha, hb, h w H _ (Ext.refl _ _) rel rfl⟩
  case str.str i j =>
    have e' : (if i.length + j.length ≤ sizeLine then some (RD.val (.str (i ++ j))) else none) = some c := e
    by_cases hz : i.length + j.length ≤ sizeLine
    · rw [if_pos hz] at e'
      cases e'
      exact .inr (.inl ⟨i, j, ha, hb, hz, h w H _ (Ext.refl _ _) rel rfl⟩)
    · rw [if_neg hz] at e'; cases e'
  case lst.lst i j =>
    have e' : (if i.length + j.length ≤ sizeLine then some (RD.own (.lst (i ++ j))) else none) = some c := e
    by_cases hz : i.length + j.length ≤ sizeLine
    · rw [if_pos hz] at e'
      cases e'
      obtain ⟨p, xs, rfl, h1, h2⟩ := ha
      obtain ⟨q, ys, rfl, k1, k2⟩ := hb
      refine .inr (.inr (.inl ⟨p, q, xs, ys, rfl, rfl, h1, k1, by rw [← h2.length, ← k2.length]; exact hz, fun t ht => ?_⟩))
      obtain ⟨e1, e2, e3⟩ := rel.newOwn ht (h2.append k2)
      exact h _ _ _ e1 e2 e3
    · rw [if_neg hz] at e'; cases e'
  case tup.tup i j =>
    have e' : (if i.length + j.length ≤ sizeLine then some (RD.val (.tup (i ++ j))) else none) = some c := e
    by_cases hz : i.length + j.length ≤ sizeLine
    · rw [if_pos hz] at e'
      cases e'
      have ha' : RelD X.K w H (.tup i) x := ha
      have hb' : RelD X.K w H (.tup j) y := hb
      obtain ⟨p, xs, rfl, h1, h2⟩ := TupAt.rel ha'
      obtain ⟨q, ys, rfl, k1, k2⟩ := TupAt.rel hb'
      refine .inr (.inr (.inr ⟨p, q, xs, ys, rfl, rfl, h1, k1, by rw [← h2.length, ← k2.length]; exact hz, fun ex => ?_, fun _ ey => ?_, fun _ _ t ht => ?_⟩))
      · have ei : i = [] := h2.nil_iff.mpr ex
        subst ei
        exact h w H _ (Ext.refl _ _) rel hb'
      · have ej : j = [] := k2.nil_iff.mpr ey
        subst ej
        refine h w H _ (Ext.refl _ _) rel ?_
        show RelD X.K w H (.tup (i ++ [])) _
        rw [List.append_nil]
        exact ha'
      · obtain ⟨w', e1, e2, e3⟩ := rel.newTup ht (h2.append k2)
        exact h _ _ _ e1 e2 e3
    · rw [if_neg hz] at e'; cases e'
theorem ops_int {op : Operator} {C : Int → Int → Prop} {f : Int → Int → Int} {g : D → D → Option RD} (hg : ∀ a b c, g a b = some c → ∃ i j, a = .int i ∧ b = .int j ∧ C i j ∧ c = .val (.int (f i j))) : OpS X (rI C fun i j => .int (f i j)) g := by
  intro w H σ S a b c x y Q rel ha hb e h
  obtain ⟨i, j, rfl, rfl, hc, rfl⟩ := hg a b c e
  exact ⟨i, j, ha, hb, hc, h w H _ (Ext.refl _ _) rel rfl⟩
theorem ops_sub : OpS X (rI0 fun i j => .int (i - j)) subD := by
  intro w H σ S a b c x y Q rel ha hb e h
  cases a <;> cases b <;> try (exact nomatch (show (none : Option RD) = some c from e))
  case int.int i j =>
    cases e
    exact ⟨i, j, ha, hb, h w H _ (Ext.refl _ _) rel rfl⟩
theorem ops_mod : OpS X (rI (fun _ j => 0 < j) fun i j => .int (i % j)) modD := ops_int (op := .Mod) fun a b c e => by
  cases a <;> cases b <;> try (exact nomatch (show (none : Option RD) = some c from e))
  case int.int i j =>
    have e' : (if 0 < j then some (RD.val (.int (i % j))) else none) = some c := e
    by_cases hc : 0 < j
    · rw [if_pos hc] at e'; cases e'; exact ⟨i, j, rfl, rfl, hc, rfl⟩
    · rw [if_neg hc] at e'; cases e'
theorem ops_fdiv : OpS X (rI CDiv fun i j => .int (i / j)) fdivD := ops_int (op := .FloorDiv) fun a b c e => by
  cases a <;> cases b <;> try (exact nomatch (show (none : Option RD) = some c from e))
  case int.int i j =>
    have e' : (if 0 < j ∧ j < 1073741824 then some (RD.val (.int (i / j))) else none) = some c := e
    by_cases hc : 0 < j ∧ j < 1073741824
    · rw [if_pos hc] at e'; cases e'; exact ⟨i, j, rfl, rfl, hc, rfl⟩
    · rw [if_neg hc] at e'; cases e'
theorem ops_pow : OpS X (rI CPow fun i j => .int (i ^ j.toNat)) powD := ops_int (op := .Pow) fun a b c e => by
  cases a <;> cases b <;> try (exact nomatch (show (none : Option RD) = some c from e))
  case int.int i j =>
    have e' : (if 0 ≤ j ∧ j ≤ 1000000 ∧ i.natAbs < 2 ^ 64 then some (RD.val (.int (i ^ j.toNat))) else none) = some c := e
    by_cases hc : 0 ≤ j ∧ j ≤ 1000000 ∧ i.natAbs < 2 ^ 64
    · rw [if_pos hc] at e'; cases e'; exact ⟨i, j, rfl, rfl, hc, rfl⟩
    · rw [if_neg hc] at e'; cases e'
/-- a text times an int -/
def rMulS : R2 := fun x y H Q => ∃ a k, x = .str a ∧ y = .int k ∧ 1 ≤ k ∧ k ≤ 1000 ∧ a.length * k.toNat ≤ 1000 ∧ Q (.str (Txt.mul a k)) H
theorem op_mulS : OpR X (binaryOp .Mult) rMulS := by
  intro pins s σ H x y v u Q I rx ry h
  obtain ⟨a, k, rfl, rfl, h1, h2, hz, q⟩ := h
  obtain ⟨t, rfl⟩ := rx
  obtain ⟨t', rfl⟩ := ry
  refine PySem.SB.mul ⟨?_, fun _ _ => ?_, fun _ _ => ?_⟩ fun t2 k2 => ⟨.str _, H, I.tok _, ⟨_, rfl⟩, q⟩
  · rw [decide_eq_false (by omega : ¬ k < -(2 ^ 63 : Int)), decide_eq_false (by omega : ¬ k ≥ 2 ^ 63)]
    rfl
  · have e1 : (a.length : Int) ≤ 1000 := by
      have : 1 ≤ k.toNat := by omega
      have := Nat.le_mul_of_pos_right a.length this
      omega
    have e2 : (1000 : Int) ≤ (2 ^ 63 - 1) / k := by
      rw [Int.le_ediv_iff_mul_le (by omega)]
      omega
    omega
  · have : (1000 : Nat) ≤ sizeLine := by decide
    exact decide_eq_false (by omega : ¬ a.length * k.toNat > sizeLine)
def rMulD : R2 := fun x y H Q => rI CMul (fun i j => .int (i * j)) x y H Q ∨ (rRep x y H Q ∨ rMulS x y H Q)
theorem opr_mul : OpR X (binaryOp .Mult) rMulD := op_mul.or (op_rep.or op_mulS)
theorem ops_mul : OpS X rMulD mulD := by
  intro w H σ S a b c x y Q rel ha hb e h
  cases a <;> cases b <;> try (exact nomatch (show (none : Option RD) = some c from e))
  case int.int i j =>
    have e' : (if (-(2 ^ 64) < i ∧ i < 2 ^ 64) ∨ (-(2 ^ 64) < j ∧ j < 2 ^ 64) then some (RD.val (.int (i * j))) else none) = some c := e
    by_cases hc : (-(2 ^ 64) < i ∧ i < 2 ^ 64) ∨ (-(2 ^ 64) < j ∧ j < 2 ^ 64)
    · rw [if_pos hc] at e'; cases e'
      exact .inl ⟨i, j, ha, hb, hc, h w H _ (Ext.refl _ _) rel rfl⟩
    · rw [if_neg hc] at e'; cases e'
  case lst.int i k =>
    have e' : (if 0 ≤ k ∧ k < 2 ^ 63 ∧ i.length * k.toNat ≤ sizeLine then some (RD.own (.lst (List.replicate k.toNat i).flatten)) else none) = some c := e
    by_cases hc : 0 ≤ k ∧ k < 2 ^ 63 ∧ i.length * k.toNat ≤ sizeLine
    · rw [if_pos hc] at e'; cases e'
      obtain ⟨p, xs, rfl, h1, h2⟩ := ha
      refine .inr (.inl ⟨p, k, xs, rfl, hb, h1, by omega, hc.2.1, by rw [← h2.length]; exact hc.2.2, fun t ht => ?_⟩)
      obtain ⟨e1, e2, e3⟩ := rel.newOwn ht (h2.rep k.toNat)
      exact h _ _ _ e1 e2 e3
    · rw [if_neg hc] at e'; cases e'
  case str.int i k =>
    have e' : (if 1 ≤ k ∧ k ≤ 1000 ∧ i.length * k.toNat ≤ 1000 then some (RD.val (.str (Txt.mul i k))) else none) = some c := e
    by_cases hc : 1 ≤ k ∧ k ≤ 1000 ∧ i.length * k.toNat ≤ 1000
    · rw [if_pos hc] at e'; cases e'
      exact .inr (.inr ⟨i, k, ha, hb, hc.1, hc.2.1, hc.2.2, h w H _ (Ext.refl _ _) rel rfl⟩)
    · rw [if_neg hc] at e'; cases e'
end
end HM

set_option Elab.async false
set_option linter.all false
set_option maxRecDepth 100000
set_option maxHeartbeats 4000000
namespace HM
open PySem PySem.Spec L2
/-! ### == of data -/
mutual
def eqD : D → D → Bool
  | .non, .non => true
  | .bl a, .bl b => a == b
  | .bl a, .int j => (if a then 1 else 0) == j
  | .int i, .bl b => i == (if b then 1 else 0)
  | .int i, .int j => i == j
  | .str x, .str y => x == y
  | .lst xs, .lst ys => eqDs xs ys
  | .tup xs, .tup ys => eqDs xs ys
  | _, _ => false
def eqDs : List D → List D → Bool
  | [], [] => true
  | x :: xs, y :: ys => eqD x y && eqDs xs ys
  | _, _ => false
end
mutual
def plainD : D → Bool
  | .non | .bl _ | .int _ | .str _ => true
  | .lst xs | .tup xs => plainDs xs
  | _ => false
def plainDs : List D → Bool
  | [] => true
  | x :: xs => plainD x && plainDs xs
end
mutual
def depD : D → Nat
  | .lst xs | .tup xs => depDs xs + 1
  | _ => 0
def depDs : List D → Nat
  | [] => 0
  | x :: xs => max (depD x) (depDs xs)
end
mutual
def Sh (K : PySem.W.Frag) (H : Hp) : D → V → Prop
  | .non, v => v = .non
  | .bl b, v => v = .bl b
  | .int i, v => v = .int i
  | .str s, v => v = .str s
  | .tup ds, v => ∃ a xs, v = .ref a ∧ SqT K H a xs ∧ Shs K H ds xs
  | .lst ds, v => ∃ a xs, v = .ref a ∧ SqL K H a xs ∧ Shs K H ds xs
  | _, _ => False
def Shs (K : PySem.W.Frag) (H : Hp) : List D → List V → Prop
  | [], xs => xs = []
  | d :: ds, xs => ∃ v vs, xs = v :: vs ∧ Sh K H d v ∧ Shs K H ds vs
end
section
variable {K : PySem.W.Frag} {w : Wd} {H : Hp}
mutual
theorem RelD.sh : ∀ {d : D} {v : V}, plainD d = true → RelD K w H d v → Sh K H d v
  | .non, _, _, h => h
  | .bl _, _, _, h => h
  | .int _, _, _, h => h
  | .str _, _, _, h => h
  | .tup ds, _, p, h => by
    obtain ⟨a, xs, h1, h2, h3⟩ := h
    exact ⟨a, xs, h1, h2.sq, RelDs.sh p h3⟩
  | .lst ds, _, p, h => by
    obtain ⟨a, xs, h1, _, h2, h3⟩ := h
    exact ⟨a, xs, h1, .inl (.inl h2), RelDs.sh p h3⟩
  | .dct _ _, _, p, _ => nomatch (show false = true from p)
  | .obj _ _, _, p, _ => nomatch (show false = true from p)
  | .ref _, _, p, _ => nomatch (show false = true from p)
  | .cls _, _, p, _ => nomatch (show false = true from p)
  | .scr _, _, p, _ => nomatch (show false = true from p)
  | .lck _, _, p, _ => nomatch (show false = true from p)
  | .exn _ _, _, p, _ => nomatch (show false = true from p)
theorem RelDs.sh : ∀ {ds : List D} {xs : List V}, plainDs ds = true → RelDs K w H ds xs → Shs K H ds xs
  | [], _, _, h => h
  | d :: ds, _, p, h => by
    obtain ⟨v, vs, h1, h2, h3⟩ := h
    have p' : (plainD d && plainDs ds) = true := p
    rw [Bool.and_eq_true] at p'
    exact ⟨v, vs, h1, RelD.sh p'.1 h2, RelDs.sh p'.2 h3⟩
end
theorem LookR.sh : ∀ {d : D} {v : V}, plainD d = true → LookR K w H d v → Sh K H d v
  | .non, _, _, h => h
  | .bl _, _, _, h => h
  | .int _, _, _, h => h
  | .str _, _, _, h => h
  | .tup ds, _, p, h => RelD.sh (d := .tup ds) p h
  | .lst ds, _, p, h => by
    obtain ⟨a, xs, h1, h2, h3⟩ := h
    exact ⟨a, xs, h1, .inl (.inl h2), RelDs.sh p h3⟩
  | .dct _ _, _, p, _ => nomatch (show false = true from p)
  | .obj _ _, _, p, _ => nomatch (show false = true from p)
  | .ref _, _, p, _ => nomatch (show false = true from p)
  | .cls _, _, p, _ => nomatch (show false = true from p)
  | .scr _, _, p, _ => nomatch (show false = true from p)
  | .lck _, _, p, _ => nomatch (show false = true from p)
  | .exn _ _, _, p, _ => nomatch (show false = true from p)
theorem Shs.get : ∀ {ds : List D} {xs : List V} {i : Nat} {v : V}, Shs K H ds xs → xs[i]? = some v → ∃ d, ds[i]? = some d ∧ Sh K H d v
  | [], _, _, _, h, e => by rw [show _ = ([] : List V) from h] at e; simp at e
  | d :: ds, _, 0, _, h, e => by
    obtain ⟨v, vs, rfl, h2, h3⟩ := h
    simp at e
    subst e
    exact ⟨d, rfl, h2⟩
  | d :: ds, _, i + 1, _, h, e => by
    obtain ⟨v, vs, rfl, h2, h3⟩ := h
    obtain ⟨u, e1, e2⟩ := Shs.get (i := i) h3 (by simpa using e)
    exact ⟨u, by simpa using e1, e2⟩
theorem Shs.length : ∀ {ds : List D} {xs : List V}, Shs K H ds xs → ds.length = xs.length
  | [], _, h => by rw [show _ = ([] : List V) from h]; rfl
  | d :: ds, _, h => by
    obtain ⟨v, vs, rfl, _, h3⟩ := h
    rw [List.length_cons, List.length_cons, Shs.length h3]
end
mutual
theorem eqD_self : ∀ {d : D}, plainD d = true → eqD d d = true
  | .non, _ => rfl
  | .bl b, _ => by simp [eqD]
  | .int b, _ => by simp [eqD]
  | .str b, _ => by simp [eqD]
  | .tup ds, p => eqDs_self (ds := ds) p
  | .lst ds, p => eqDs_self (ds := ds) p
  | .dct _ _, p => nomatch (show false = true from p)
  | .obj _ _, p => nomatch (show false = true from p)
  | .ref _, p => nomatch (show false = true from p)
  | .cls _, p => nomatch (show false = true from p)
  | .scr _, p => nomatch (show false = true from p)
  | .lck _, p => nomatch (show false = true from p)
  | .exn _ _, p => nomatch (show false = true from p)
theorem eqDs_self : ∀ {ds : List D}, plainDs ds = true → eqDs ds ds = true
  | [], _ => rfl
  | d :: ds, p => by
    have p' : (plainD d && plainDs ds) = true := p
    rw [Bool.and_eq_true] at p'
    show (eqD d d && eqDs ds ds) = true
    rw [eqD_self p'.1, eqDs_self p'.2]; rfl
end
/-- a comparison of lists of equal length, by places -/
theorem eqDs_all : ∀ {ds es : List D}, ds.length = es.length → eqDs ds es = (List.range ds.length).all fun i => (match ds[i]?, es[i]? with | some d, some e => eqD d e | _, _ => false)
  | [], [], _ => rfl
  | [], _ :: _, h => by simp at h
  | _ :: _, [], h => by simp at h
  | d :: ds, e :: es, h => by
    have ih := eqDs_all (ds := ds) (es := es) (by simpa using h)
    rw [List.length_cons, List.range_succ_eq_map, List.all_cons, List.all_map]
    show (eqD d e && eqDs ds es) = _
    rw [ih]
    rfl
theorem eqDs_len : ∀ {ds es : List D}, ds.length ≠ es.length → eqDs ds es = false
  | [], [], h => absurd rfl h
  | [], _ :: _, _ => rfl
  | _ :: _, [], _ => rfl
  | d :: ds, e :: es, h => by
    show (eqD d e && eqDs ds es) = false
    rw [eqDs_len (ds := ds) (es := es) (fun q => h (by simp [q]))]
    simp
section
variable {X : Cx} {pins : List (Addr × Obj)} {σ : L2.St} {H : Hp} {s : Shared}
open PySem.W (EqTree)
theorem Sh.inj (I : Inv X pins σ H s) : ∀ (n : Nat) {d e : D} {v : V}, depD d ≤ n → Sh X.K H d v → Sh X.K H e v → d = e := by
  intro n
  have key : ∀ m, (∀ {d e : D} {v : V}, depD d < m → Sh X.K H d v → Sh X.K H e v → d = e) → ∀ {ds es : List D} {xs : List V}, depDs ds < m → Shs X.K H ds xs → Shs X.K H es xs → ds = es := by
    intro m ih ds
    induction ds with
    | nil =>
      intro es xs _ h1 h2
      have : xs = [] := h1
      subst this
      cases es with
      | nil => rfl
      | cons e es => obtain ⟨v, vs, q, _⟩ := h2; cases q
    | cons d ds ihd =>
      intro es xs hl h1 h2
      obtain ⟨v, vs, rfl, h3, h4⟩ := h1
      have hl' : max (depD d) (depDs ds) < m := hl
      cases es with
      | nil => exact nomatch (show v :: vs = [] from h2)
      | cons e es =>
        obtain ⟨v', vs', q, h5, h6⟩ := h2
        cases q
        rw [ih (by omega) h3 h5, ihd (by omega) h4 h6]
  induction n with
  | zero =>
    intro d e v hd h1 h2
    cases d with
    | tup ds => exact absurd hd (by simp [depD])
    | lst ds => exact absurd hd (by simp [depD])
    | non =>
      have h1 : v = _ := h1
      subst h1
      cases e <;> first | rfl | exact nomatch (show _ = _ from h2) | (obtain ⟨_, _, q, _⟩ := h2; cases q) | exact h2.elim
    | bl b =>
      have h1 : v = _ := h1
      subst h1
      cases e <;> first | (cases (show _ = _ from h2); rfl) | exact nomatch (show _ = _ from h2) | (obtain ⟨_, _, q, _⟩ := h2; cases q) | exact h2.elim
    | int b =>
      have h1 : v = _ := h1
      subst h1
      cases e <;> first | (cases (show _ = _ from h2); rfl) | exact nomatch (show _ = _ from h2) | (obtain ⟨_, _, q, _⟩ := h2; cases q) | exact h2.elim
    | str b =>
      have h1 : v = _ := h1
      subst h1
      cases e <;> first | (cases (show _ = _ from h2); rfl) | exact nomatch (show _ = _ from h2) | (obtain ⟨_, _, q, _⟩ := h2; cases q) | exact h2.elim
    | dct _ _ => exact h1.elim
    | obj _ _ => exact h1.elim
    | ref _ => exact h1.elim
    | cls _ => exact h1.elim
    | scr _ => exact h1.elim
    | lck _ => exact h1.elim
    | exn _ _ => exact h1.elim
  | succ n ih =>
    intro d e v hd h1 h2
    cases d with
    | tup ds =>
      obtain ⟨a, xs, rfl, h3, h4⟩ := h1
      cases e with
      | tup es =>
        obtain ⟨b, ys, q, h5, h6⟩ := h2
        cases q
        have exy := I.tuple_inj h3 h5
        subst exy
        have hd' : depDs ds + 1 ≤ n + 1 := hd
        rw [key (n + 1) (fun hl => ih (by omega)) (by omega) h4 h6]
      | lst es =>
        obtain ⟨b, ys, q, h5, h6⟩ := h2
        cases q
        obtain ⟨its, _, p1, _⟩ := I.tuple h3
        obtain ⟨its2, _, ⟨o, _, e1, e2, _⟩, _⟩ := I.list h5
        obtain ⟨o', e1', e2', _⟩ := p1
        rw [e1] at e1'; cases e1'
        rw [e2] at e2'; injection e2' with z; exact absurd z (by decide)
      | non => exact nomatch (show _ = _ from h2)
      | bl _ => exact nomatch (show _ = _ from h2)
      | int _ => exact nomatch (show _ = _ from h2)
      | str _ => exact nomatch (show _ = _ from h2)
      | dct _ _ => exact h2.elim
      | obj _ _ => exact h2.elim
      | ref _ => exact h2.elim
      | cls _ => exact h2.elim
      | scr _ => exact h2.elim
      | lck _ => exact h2.elim
      | exn _ _ => exact h2.elim
    | lst ds =>
      obtain ⟨a, xs, rfl, h3, h4⟩ := h1
      cases e with
      | lst es =>
        obtain ⟨b, ys, q, h5, h6⟩ := h2
        cases q
        have exy := I.list_inj h3 h5
        subst exy
        have hd' : depDs ds + 1 ≤ n + 1 := hd
        rw [key (n + 1) (fun hl => ih (by omega)) (by omega) h4 h6]
      | tup es =>
        obtain ⟨b, ys, q, h5, h6⟩ := h2
        cases q
        obtain ⟨its, _, p1, _⟩ := I.tuple h5
        obtain ⟨its2, _, ⟨o, _, e1, e2, _⟩, _⟩ := I.list h3
        obtain ⟨o', e1', e2', _⟩ := p1
        rw [e1] at e1'; cases e1'
        rw [e2] at e2'; injection e2' with z; exact absurd z (by decide)
      | non => exact nomatch (show _ = _ from h2)
      | bl _ => exact nomatch (show _ = _ from h2)
      | int _ => exact nomatch (show _ = _ from h2)
      | str _ => exact nomatch (show _ = _ from h2)
      | dct _ _ => exact h2.elim
      | obj _ _ => exact h2.elim
      | ref _ => exact h2.elim
      | cls _ => exact h2.elim
      | scr _ => exact h2.elim
      | lck _ => exact h2.elim
      | exn _ _ => exact h2.elim
    | non => exact ih (by show 0 ≤ n; omega) h1 h2
    | bl b => exact ih (by show 0 ≤ n; omega) h1 h2
    | int b => exact ih (by show 0 ≤ n; omega) h1 h2
    | str b => exact ih (by show 0 ≤ n; omega) h1 h2
    | dct _ _ => exact h1.elim
    | obj _ _ => exact h1.elim
    | ref _ => exact h1.elim
    | cls _ => exact h1.elim
    | scr _ => exact h1.elim
    | lck _ => exact h1.elim
    | exn _ _ => exact h1.elim
end
end HM

set_option Elab.async false
set_option linter.all false
set_option maxRecDepth 100000
set_option maxHeartbeats 4000000
namespace HM
open PySem PySem.Spec L2
section
variable {X : Cx} {pins : List (Addr × Obj)} {σ : L2.St} {H : Hp} {s : Shared}
theorem Shs.getD : ∀ {K : PySem.W.Frag} {ds : List D} {xs : List V} {i : Nat} {d : D}, Shs K H ds xs → ds[i]? = some d → ∃ v, xs[i]? = some v ∧ Sh K H d v
  | _, [], _, _, _, h, e => by simp at e
  | _, d :: ds, _, 0, _, h, e => by
    obtain ⟨v, vs, rfl, h2, h3⟩ := h
    simp at e
    subst e
    exact ⟨v, rfl, h2⟩
  | _, d :: ds, _, i + 1, _, h, e => by
    obtain ⟨v, vs, rfl, h2, h3⟩ := h
    obtain ⟨u, e1, e2⟩ := Shs.getD (i := i) h3 (by simpa using e)
    exact ⟨u, by simpa using e1, e2⟩
theorem depDs_get : ∀ {ds : List D} {i : Nat} {d : D}, ds[i]? = some d → depD d ≤ depDs ds
  | [], _, _, e => by simp at e
  | d :: ds, 0, _, e => by
    simp at e
    subst e
    exact Nat.le_max_left _ _
  | d :: ds, i + 1, _, e => Nat.le_trans (depDs_get (i := i) (by simpa using e)) (Nat.le_max_right _ _)
def eqAtI (ds es : List D) (i : Nat) : Bool := match ds[i]?, es[i]? with | some d, some e => eqD d e | _, _ => false
theorem all_range_min {ds es : List D} : ((List.range (min ds.length es.length)).all (eqAtI ds es) && ds.length == es.length) = eqDs ds es := by
  by_cases h : ds.length = es.length
  · rw [eqDs_all h, h, Nat.min_self]
    simp
    rfl
  · rw [eqDs_len h]
    have : (ds.length == es.length) = false := by simpa using h
    rw [this, Bool.and_false]
theorem plain_get : ∀ {ds : List D} {i : Nat} {d : D}, plainDs ds = true → ds[i]? = some d → plainD d = true
  | [], _, _, _, e => by simp at e
  | d :: ds, 0, _, p, e => by
    have p' : (plainD d && plainDs ds) = true := p
    rw [Bool.and_eq_true] at p'
    simp at e
    subst e
    exact p'.1
  | d :: ds, i + 1, _, p, e => by
    have p' : (plainD d && plainDs ds) = true := p
    rw [Bool.and_eq_true] at p'
    exact plain_get (i := i) p'.2 (by simpa using e)
def isSc : D → Bool
  | .non | .bl _ | .int _ | .str _ => true
  | _ => false
theorem sc_of_zero : ∀ {d : D} {K : PySem.W.Frag} {v : V}, Sh K H d v → depD d ≤ 0 → isSc d = true
  | .non, _, _, _, _ => rfl
  | .bl _, _, _, _, _ => rfl
  | .int _, _, _, _, _ => rfl
  | .str _, _, _, _, _ => rfl
  | .tup _, _, _, _, h => absurd h (by simp [depD])
  | .lst _, _, _, _, h => absurd h (by simp [depD])
  | .dct _ _, _, _, h, _ => h.elim
  | .obj _ _, _, _, h, _ => h.elim
  | .ref _, _, _, h, _ => h.elim
  | .cls _, _, _, h, _ => h.elim
  | .scr _, _, _, h, _ => h.elim
  | .lck _, _, _, h, _ => h.elim
  | .exn _ _, _, _, h, _ => h.elim
theorem scal_eq {A : Around} {K : PySem.W.Frag} {d e : D} {v1 v2 : V} {u1 u2 : Value} (sd : isSc d = true) (se : isSc e = true) (h1 : Sh K H d v1) (h2 : Sh K H e v2) (r1 : RelV v1 u1) (r2 : RelV v2 u2) : SeqAt.EqAt A s u1 u2 (eqD d e) := by
  cases d with
  | non =>
    have h1 : v1 = _ := h1; subst h1
    obtain rfl : u1 = Value.none := r1
    cases e with
    | non => have h2 : v2 = _ := h2; subst h2; obtain rfl : u2 = Value.none := r2; exact SeqAt.EqAt.same _
    | bl b => have h2 : v2 = _ := h2; subst h2; obtain rfl : u2 = Value.bool b := r2; exact SeqAt.EqAt.none_bool _
    | int b => have h2 : v2 = _ := h2; subst h2; obtain ⟨t', rfl⟩ := r2; exact SeqAt.EqAt.none_int _ _
    | str b => have h2 : v2 = _ := h2; subst h2; obtain ⟨t', rfl⟩ := r2; exact SeqAt.EqAt.none_str _ _
    | _ => exact nomatch (show false = true from se)
  | bl c =>
    have h1 : v1 = _ := h1; subst h1
    obtain rfl : u1 = Value.bool c := r1
    cases e with
    | non => have h2 : v2 = _ := h2; subst h2; obtain rfl : u2 = Value.none := r2; exact SeqAt.EqAt.bool_none _
    | bl b => have h2 : v2 = _ := h2; subst h2; obtain rfl : u2 = Value.bool b := r2; exact SeqAt.EqAt.bool_bool _ _
    | int b => have h2 : v2 = _ := h2; subst h2; obtain ⟨t', rfl⟩ := r2; exact SeqAt.EqAt.bool_int _ _ _
    | str b => have h2 : v2 = _ := h2; subst h2; obtain ⟨t', rfl⟩ := r2; exact SeqAt.EqAt.bool_str _ _ _
    | _ => exact nomatch (show false = true from se)
  | int c =>
    have h1 : v1 = _ := h1; subst h1
    obtain ⟨t, rfl⟩ := r1
    cases e with
    | non => have h2 : v2 = _ := h2; subst h2; obtain rfl : u2 = Value.none := r2; exact SeqAt.EqAt.int_none _ _
    | bl b => have h2 : v2 = _ := h2; subst h2; obtain rfl : u2 = Value.bool b := r2; exact SeqAt.EqAt.int_bool _ _ _
    | int b => have h2 : v2 = _ := h2; subst h2; obtain ⟨t', rfl⟩ := r2; exact SeqAt.EqAt.int_int _ _ _ _
    | str b => have h2 : v2 = _ := h2; subst h2; obtain ⟨t', rfl⟩ := r2; exact SeqAt.EqAt.int_str _ _ _ _
    | _ => exact nomatch (show false = true from se)
  | str c =>
    have h1 : v1 = _ := h1; subst h1
    obtain ⟨t, rfl⟩ := r1
    cases e with
    | non => have h2 : v2 = _ := h2; subst h2; obtain rfl : u2 = Value.none := r2; exact SeqAt.EqAt.str_none _ _
    | bl b => have h2 : v2 = _ := h2; subst h2; obtain rfl : u2 = Value.bool b := r2; exact SeqAt.EqAt.str_bool _ _ _
    | int b => have h2 : v2 = _ := h2; subst h2; obtain ⟨t', rfl⟩ := r2; exact SeqAt.EqAt.str_int _ _ _ _
    | str b => have h2 : v2 = _ := h2; subst h2; obtain ⟨t', rfl⟩ := r2; exact SeqAt.EqAt.str_str _ _ _ _
    | _ => exact nomatch (show false = true from se)
  | _ => exact nomatch (show false = true from sd)
theorem scal_rc {A : Around} {K : PySem.W.Frag} {d e : D} {v1 v2 : V} {u1 u2 : Value} (sd : isSc d = true) (se : isSc e = true) (h1 : Sh K H d v1) (h2 : Sh K H e v2) (r1 : RelV v1 u1) (r2 : RelV v2 u2) : SeqAt.RcAt A s u1 u2 (eqD d e) := by
  cases d with
  | non =>
    have h1 : v1 = _ := h1; subst h1
    obtain rfl : u1 = Value.none := r1
    cases e with
    | non => have h2 : v2 = _ := h2; subst h2; obtain rfl : u2 = Value.none := r2; exact SeqAt.RcAt.none_none
    | bl b => have h2 : v2 = _ := h2; subst h2; obtain rfl : u2 = Value.bool b := r2; exact SeqAt.RcAt.none_bool _
    | int b => have h2 : v2 = _ := h2; subst h2; obtain ⟨t', rfl⟩ := r2; exact SeqAt.RcAt.none_int _ _
    | str b => have h2 : v2 = _ := h2; subst h2; obtain ⟨t', rfl⟩ := r2; exact SeqAt.RcAt.none_str _ _
    | _ => exact nomatch (show false = true from se)
  | bl c =>
    have h1 : v1 = _ := h1; subst h1
    obtain rfl : u1 = Value.bool c := r1
    cases e with
    | non => have h2 : v2 = _ := h2; subst h2; obtain rfl : u2 = Value.none := r2; exact SeqAt.RcAt.bool_none _
    | bl b => have h2 : v2 = _ := h2; subst h2; obtain rfl : u2 = Value.bool b := r2; exact SeqAt.RcAt.bool_bool _ _
    | int b => have h2 : v2 = _ := h2; subst h2; obtain ⟨t', rfl⟩ := r2; exact SeqAt.RcAt.bool_int _ _ _
    | str b => have h2 : v2 = _ := h2; subst h2; obtain ⟨t', rfl⟩ := r2; exact SeqAt.RcAt.bool_str _ _ _
    | _ => exact nomatch (show false = true from se)
  | int c =>
    have h1 : v1 = _ := h1; subst h1
    obtain ⟨t, rfl⟩ := r1
    cases e with
    | non => have h2 : v2 = _ := h2; subst h2; obtain rfl : u2 = Value.none := r2; exact SeqAt.RcAt.int_none _ _
    | bl b => have h2 : v2 = _ := h2; subst h2; obtain rfl : u2 = Value.bool b := r2; exact SeqAt.RcAt.int_bool _ _ _
    | int b => have h2 : v2 = _ := h2; subst h2; obtain ⟨t', rfl⟩ := r2; exact SeqAt.RcAt.int_int _ _ _ _
    | str b => have h2 : v2 = _ := h2; subst h2; obtain ⟨t', rfl⟩ := r2; exact SeqAt.RcAt.int_str _ _ _ _
    | _ => exact nomatch (show false = true from se)
  | str c =>
    have h1 : v1 = _ := h1; subst h1
    obtain ⟨t, rfl⟩ := r1
    cases e with
    | non => have h2 : v2 = _ := h2; subst h2; obtain rfl : u2 = Value.none := r2; exact SeqAt.RcAt.str_none _ _
    | bl b => have h2 : v2 = _ := h2; subst h2; obtain rfl : u2 = Value.bool b := r2; exact SeqAt.RcAt.str_bool _ _ _
    | int b => have h2 : v2 = _ := h2; subst h2; obtain ⟨t', rfl⟩ := r2; exact SeqAt.RcAt.str_int _ _ _ _
    | str b => have h2 : v2 = _ := h2; subst h2; obtain ⟨t', rfl⟩ := r2; exact SeqAt.RcAt.str_str _ _ _ _
    | _ => exact nomatch (show false = true from se)
  | _ => exact nomatch (show false = true from sd)
theorem scal_ne {A : Around} {K : PySem.W.Frag} {d e : D} {v1 v2 : V} {u1 u2 : Value} (sd : isSc d = true) (se : isSc e = true) (h1 : Sh K H d v1) (h2 : Sh K H e v2) (r1 : RelV v1 u1) (r2 : RelV v2 u2) : SeqAt.RcNeAt A s u1 u2 (!eqD d e) := by
  cases d with
  | non =>
    have h1 : v1 = _ := h1; subst h1
    obtain rfl : u1 = Value.none := r1
    cases e with
    | non => have h2 : v2 = _ := h2; subst h2; obtain rfl : u2 = Value.none := r2; exact SeqAt.RcNeAt.none_none
    | bl b => have h2 : v2 = _ := h2; subst h2; obtain rfl : u2 = Value.bool b := r2; exact SeqAt.RcNeAt.none_bool _
    | int b => have h2 : v2 = _ := h2; subst h2; obtain ⟨t', rfl⟩ := r2; exact SeqAt.RcNeAt.none_int _ _
    | str b => have h2 : v2 = _ := h2; subst h2; obtain ⟨t', rfl⟩ := r2; exact SeqAt.RcNeAt.none_str _ _
    | _ => exact nomatch (show false = true from se)
  | bl c =>
    have h1 : v1 = _ := h1; subst h1
    obtain rfl : u1 = Value.bool c := r1
    cases e with
    | non => have h2 : v2 = _ := h2; subst h2; obtain rfl : u2 = Value.none := r2; exact SeqAt.RcNeAt.bool_none _
    | bl b => have h2 : v2 = _ := h2; subst h2; obtain rfl : u2 = Value.bool b := r2; exact SeqAt.RcNeAt.bool_bool _ _
    | int b => have h2 : v2 = _ := h2; subst h2; obtain ⟨t', rfl⟩ := r2; exact SeqAt.RcNeAt.bool_int _ _ _
    | str b => have h2 : v2 = _ := h2; subst h2; obtain ⟨t', rfl⟩ := r2; exact SeqAt.RcNeAt.bool_str _ _ _
    | _ => exact nomatch (show false = true from se)
  | int c =>
    have h1 : v1 = _ := h1; subst h1
    obtain ⟨t, rfl⟩ := r1
    cases e with
    | non => have h2 : v2 = _ := h2; subst h2; obtain rfl : u2 = Value.none := r2; exact SeqAt.RcNeAt.int_none _ _
    | bl b => have h2 : v2 = _ := h2; subst h2; obtain rfl : u2 = Value.bool b := r2; exact SeqAt.RcNeAt.int_bool _ _ _
    | int b => have h2 : v2 = _ := h2; subst h2; obtain ⟨t', rfl⟩ := r2; exact SeqAt.RcNeAt.int_int _ _ _ _
    | str b => have h2 : v2 = _ := h2; subst h2; obtain ⟨t', rfl⟩ := r2; exact SeqAt.RcNeAt.int_str _ _ _ _
    | _ => exact nomatch (show false = true from se)
  | str c =>
    have h1 : v1 = _ := h1; subst h1
    obtain ⟨t, rfl⟩ := r1
    cases e with
    | non => have h2 : v2 = _ := h2; subst h2; obtain rfl : u2 = Value.none := r2; exact SeqAt.RcNeAt.str_none _ _
    | bl b => have h2 : v2 = _ := h2; subst h2; obtain rfl : u2 = Value.bool b := r2; exact SeqAt.RcNeAt.str_bool _ _ _
    | int b => have h2 : v2 = _ := h2; subst h2; obtain ⟨t', rfl⟩ := r2; exact SeqAt.RcNeAt.str_int _ _ _ _
    | str b => have h2 : v2 = _ := h2; subst h2; obtain ⟨t', rfl⟩ := r2; exact SeqAt.RcNeAt.str_str _ _ _ _
    | _ => exact nomatch (show false = true from se)
  | _ => exact nomatch (show false = true from sd)
theorem items_of {n : Nat} (ih : ∀ {d e : D} {v1 v2 : V} {u1 u2 : Value} {A : Around}, A.units + n < cLine → depD d ≤ n → depD e ≤ n → plainD d = true → Sh X.K H d v1 → Sh X.K H e v2 → RelV v1 u1 → RelV v2 u2 → SeqAt.EqAt A s u1 u2 (eqD d e)) :
    ∀ {A : Around} {ds es : List D} {xs ys : List V} {us ws : List Value}, A.units + n < cLine → plainDs ds = true → Shs X.K H ds xs → Shs X.K H es ys → Vals xs us → Vals ys ws → depDs ds ≤ n → depDs es ≤ n →
        ∀ j (a1 : j < us.toArray.size) (a2 : j < ws.toArray.size), SeqAt.EqAt A s us.toArray[j] ws.toArray[j] (eqAtI ds es j) := fun {A ds es xs ys us ws} hu pd hs ht r1 r2 k1 k2 => by
  intro j a1 a2
  have b1 : j < us.length := by simpa using a1
  have b2 : j < ws.length := by simpa using a2
  have c1 : j < xs.length := by rw [r1.length]; exact b1
  have c2 : j < ys.length := by rw [r2.length]; exact b2
  obtain ⟨u1, e1, q1⟩ := r1.get (List.getElem?_eq_getElem c1)
  obtain ⟨u2, e2, q2⟩ := r2.get (List.getElem?_eq_getElem c2)
  obtain ⟨d, f1, g1⟩ := hs.get (List.getElem?_eq_getElem c1)
  obtain ⟨e, f2, g2⟩ := ht.get (List.getElem?_eq_getElem c2)
  have z1 : us.toArray[j] = u1 := by
    rw [List.getElem?_eq_getElem b1] at e1
    simpa using e1
  have z2 : ws.toArray[j] = u2 := by
    rw [List.getElem?_eq_getElem b2] at e2
    simpa using e2
  have z3 : eqAtI ds es j = eqD d e := by unfold eqAtI; rw [f1, f2]
  rw [z1, z2, z3]
  exact ih hu (Nat.le_trans (depDs_get f1) k1) (Nat.le_trans (depDs_get f2) k2) (plain_get pd f1) g1 g2 q1 q2
theorem eq_at (I : Inv X pins σ H s) : ∀ (n : Nat) {d e : D} {v1 v2 : V} {u1 u2 : Value} {A : Around}, A.units + n < cLine → depD d ≤ n → depD e ≤ n → plainD d = true → Sh X.K H d v1 → Sh X.K H e v2 → RelV v1 u1 → RelV v2 u2 → SeqAt.EqAt A s u1 u2 (eqD d e) := by
  intro n
  induction n with
  | zero =>
    intro d e v1 v2 u1 u2 A hu hd he pd h1 h2 r1 r2
    exact scal_eq (sc_of_zero h1 hd) (sc_of_zero h2 he) h1 h2 r1 r2
  | succ n ih =>
    intro d e v1 v2 u1 u2 A hu hd he pd h1 h2 r1 r2
    have items : ∀ {A : Around} {ds es : List D} {xs ys : List V} {us ws : List Value}, A.units + n < cLine → plainDs ds = true → Shs X.K H ds xs → Shs X.K H es ys → Vals xs us → Vals ys ws → depDs ds ≤ n → depDs es ≤ n →
        ∀ j (a1 : j < us.toArray.size) (a2 : j < ws.toArray.size), SeqAt.EqAt A s us.toArray[j] ws.toArray[j] (eqAtI ds es j) := items_of ih
    by_cases sd : isSc d = true
    · by_cases se : isSc e = true
      · exact scal_eq sd se h1 h2 r1 r2
      · cases e with
        | tup es =>
          obtain ⟨b, ys, rfl, h5, h6⟩ := h2
          obtain rfl : u2 = Value.ref b := r2
          obtain ⟨its, _, p1, _⟩ := I.tuple h5
          have p2 : s.heap.IsTuple b its.toArray := p1
          cases d with
          | non => have h1 : v1 = _ := h1; subst h1; obtain rfl : u1 = Value.none := r1; exact SeqAt.EqAt.none_tuple p2 (by omega)
          | bl c => have h1 : v1 = _ := h1; subst h1; obtain rfl : u1 = Value.bool c := r1; exact SeqAt.EqAt.bool_tuple _ p2 (by omega)
          | int c => have h1 : v1 = _ := h1; subst h1; obtain ⟨t, rfl⟩ := r1; exact SeqAt.EqAt.int_tuple _ _ p2 (by omega)
          | str c => have h1 : v1 = _ := h1; subst h1; obtain ⟨t, rfl⟩ := r1; exact SeqAt.EqAt.str_tuple _ _ p2 (by omega)
          | _ => exact nomatch (show false = true from sd)
        | lst es =>
          obtain ⟨b, ys, rfl, h5, h6⟩ := h2
          obtain rfl : u2 = Value.ref b := r2
          obtain ⟨its, _, p1, _⟩ := I.list h5
          have p2 : s.heap.IsList b its.toArray := p1.isList
          cases d with
          | non => have h1 : v1 = _ := h1; subst h1; obtain rfl : u1 = Value.none := r1; exact SeqAt.EqAt.none_list p2 (by omega)
          | bl c => have h1 : v1 = _ := h1; subst h1; obtain rfl : u1 = Value.bool c := r1; exact SeqAt.EqAt.bool_list _ p2 (by omega)
          | int c => have h1 : v1 = _ := h1; subst h1; obtain ⟨t, rfl⟩ := r1; exact SeqAt.EqAt.int_list _ _ p2 (by omega)
          | str c => have h1 : v1 = _ := h1; subst h1; obtain ⟨t, rfl⟩ := r1; exact SeqAt.EqAt.str_list _ _ p2 (by omega)
          | _ => exact nomatch (show false = true from sd)
        | non => exact absurd rfl se
        | bl _ => exact absurd rfl se
        | int _ => exact absurd rfl se
        | str _ => exact absurd rfl se
        | _ => exact h2.elim
    · cases d with
      | tup ds =>
        obtain ⟨a, xs, rfl, h3, h4⟩ := h1
        obtain rfl : u1 = Value.ref a := r1
        obtain ⟨us, ru, p0, _⟩ := I.tuple h3
        have p1 : s.heap.IsTuple a us.toArray := p0
        have hd' : depDs ds ≤ n := by have : depDs ds + 1 ≤ n + 1 := hd; omega
        cases e with
        | tup es =>
          obtain ⟨b, ys, rfl, h5, h6⟩ := h2
          obtain rfl : u2 = Value.ref b := r2
          have he' : depDs es ≤ n := by have : depDs es + 1 ≤ n + 1 := he; omega
          obtain ⟨ws, rw', q0, _⟩ := I.tuple h5
          have p2 : s.heap.IsTuple b ws.toArray := q0
          have l1 : us.toArray.size = ds.length := by rw [List.size_toArray, ← ru.length, h4.length]
          have l2 : ws.toArray.size = es.length := by rw [List.size_toArray, ← rw'.length, h6.length]
          have it := items (A := A.in1) (ds := ds) (es := es) (by show A.units + 1 + n < cLine; omega) pd h4 h6 ru rw' hd' he'
          by_cases hab : a = b
          · subst hab
            have exy := I.tuple_inj h3 h5
            subst exy
            have ede : D.tup ds = D.tup es := Sh.inj I (n + 1) hd (v := .ref a) ⟨a, xs, rfl, h3, h4⟩ ⟨a, xs, rfl, h5, h6⟩
            rw [← ede, eqD_self pd]
            exact SeqAt.EqAt.same _
          · refine SeqAt.EqAt.of_refs hab ?_
            have t := SeqAt.RcAt.tuples p1 p2 (by omega) it
            rw [l1, l2, all_range_min] at t
            exact t
        | lst es =>
          obtain ⟨b, ys, rfl, h5, h6⟩ := h2
          obtain rfl : u2 = Value.ref b := r2
          obtain ⟨its, _, q0, _⟩ := I.list h5
          exact SeqAt.EqAt.tuple_list p1 q0.isList (by omega)
        | non => have h2 : v2 = _ := h2; subst h2; obtain rfl : u2 = Value.none := r2; exact SeqAt.EqAt.tuple_none p1 (by omega)
        | bl c => have h2 : v2 = _ := h2; subst h2; obtain rfl : u2 = Value.bool c := r2; exact SeqAt.EqAt.tuple_bool _ p1 (by omega)
        | int c => have h2 : v2 = _ := h2; subst h2; obtain ⟨t, rfl⟩ := r2; exact SeqAt.EqAt.tuple_int _ _ p1 (by omega)
        | str c => have h2 : v2 = _ := h2; subst h2; obtain ⟨t, rfl⟩ := r2; exact SeqAt.EqAt.tuple_str _ _ p1 (by omega)
        | _ => exact h2.elim
      | lst ds =>
        obtain ⟨a, xs, rfl, h3, h4⟩ := h1
        obtain rfl : u1 = Value.ref a := r1
        obtain ⟨us, ru, p0, _⟩ := I.list h3
        have p1 : s.heap.IsList a us.toArray := p0.isList
        have hd' : depDs ds ≤ n := by have : depDs ds + 1 ≤ n + 1 := hd; omega
        cases e with
        | lst es =>
          obtain ⟨b, ys, rfl, h5, h6⟩ := h2
          obtain rfl : u2 = Value.ref b := r2
          have he' : depDs es ≤ n := by have : depDs es + 1 ≤ n + 1 := he; omega
          obtain ⟨ws, rw', q0, _⟩ := I.list h5
          have p2 : s.heap.IsList b ws.toArray := q0.isList
          have l1 : us.toArray.size = ds.length := by rw [List.size_toArray, ← ru.length, h4.length]
          have l2 : ws.toArray.size = es.length := by rw [List.size_toArray, ← rw'.length, h6.length]
          have it := items (A := A.in1) (ds := ds) (es := es) (by show A.units + 1 + n < cLine; omega) pd h4 h6 ru rw' hd' he'
          by_cases hab : a = b
          · subst hab
            have exy := I.list_inj h3 h5
            subst exy
            have ede : D.lst ds = D.lst es := Sh.inj I (n + 1) hd (v := .ref a) ⟨a, xs, rfl, h3, h4⟩ ⟨a, xs, rfl, h5, h6⟩
            rw [← ede, eqD_self pd]
            exact SeqAt.EqAt.same _
          · refine SeqAt.EqAt.of_refs hab ?_
            by_cases hl : ds.length = es.length
            · have t := SeqAt.RcAt.lists p1 p2 (by rw [l1, l2, hl]) (by omega) it
              rw [l1] at t
              have z : eqD (.lst ds) (.lst es) = (List.range ds.length).all (eqAtI ds es) := eqDs_all hl
              rw [z]
              exact t
            · have z : eqD (.lst ds) (.lst es) = false := eqDs_len hl
              rw [z]
              exact SeqAt.RcAt.lists_lengths p1 p2 (by rw [l1, l2]; simpa using hl) (by omega)
        | tup es =>
          obtain ⟨b, ys, rfl, h5, h6⟩ := h2
          obtain rfl : u2 = Value.ref b := r2
          obtain ⟨its, _, q0, _⟩ := I.tuple h5
          exact SeqAt.EqAt.list_tuple p1 q0 (by omega)
        | non => have h2 : v2 = _ := h2; subst h2; obtain rfl : u2 = Value.none := r2; exact SeqAt.EqAt.list_none p1 (by omega)
        | bl c => have h2 : v2 = _ := h2; subst h2; obtain rfl : u2 = Value.bool c := r2; exact SeqAt.EqAt.list_bool _ p1 (by omega)
        | int c => have h2 : v2 = _ := h2; subst h2; obtain ⟨t, rfl⟩ := r2; exact SeqAt.EqAt.list_int _ _ p1 (by omega)
        | str c => have h2 : v2 = _ := h2; subst h2; obtain ⟨t, rfl⟩ := r2; exact SeqAt.EqAt.list_str _ _ p1 (by omega)
        | _ => exact h2.elim
      | non => exact absurd rfl sd
      | bl _ => exact absurd rfl sd
      | int _ => exact absurd rfl sd
      | str _ => exact absurd rfl sd
      | _ => exact h1.elim
theorem rc_at (I : Inv X pins σ H s) (n : Nat) {d e : D} {v1 v2 : V} {u1 u2 : Value} {A : Around} (hu : A.units + (n + 1) < cLine) (hd : depD d ≤ n + 1) (he : depD e ≤ n + 1) (pd : plainD d = true) (h1 : Sh X.K H d v1) (h2 : Sh X.K H e v2) (r1 : RelV v1 u1) (r2 : RelV v2 u2) : SeqAt.RcAt A s u1 u2 (eqD d e) := by
    have items : ∀ {A : Around} {ds es : List D} {xs ys : List V} {us ws : List Value}, A.units + n < cLine → plainDs ds = true → Shs X.K H ds xs → Shs X.K H es ys → Vals xs us → Vals ys ws → depDs ds ≤ n → depDs es ≤ n →
        ∀ j (a1 : j < us.toArray.size) (a2 : j < ws.toArray.size), SeqAt.EqAt A s us.toArray[j] ws.toArray[j] (eqAtI ds es j) := items_of (eq_at I n)
    by_cases sd : isSc d = true
    · by_cases se : isSc e = true
      · exact scal_rc sd se h1 h2 r1 r2
      · cases e with
        | tup es =>
          obtain ⟨b, ys, rfl, h5, h6⟩ := h2
          obtain rfl : u2 = Value.ref b := r2
          obtain ⟨its, _, p1, _⟩ := I.tuple h5
          have p2 : s.heap.IsTuple b its.toArray := p1
          cases d with
          | non => have h1 : v1 = _ := h1; subst h1; obtain rfl : u1 = Value.none := r1; exact SeqAt.RcAt.none_tuple p2 (by omega)
          | bl c => have h1 : v1 = _ := h1; subst h1; obtain rfl : u1 = Value.bool c := r1; exact SeqAt.RcAt.bool_tuple _ p2 (by omega)
          | int c => have h1 : v1 = _ := h1; subst h1; obtain ⟨t, rfl⟩ := r1; exact SeqAt.RcAt.int_tuple _ _ p2 (by omega)
          | str c => have h1 : v1 = _ := h1; subst h1; obtain ⟨t, rfl⟩ := r1; exact SeqAt.RcAt.str_tuple _ _ p2 (by omega)
          | _ => exact nomatch (show false = true from sd)
        | lst es =>
          obtain ⟨b, ys, rfl, h5, h6⟩ := h2
          obtain rfl : u2 = Value.ref b := r2
          obtain ⟨its, _, p1, _⟩ := I.list h5
          have p2 : s.heap.IsList b its.toArray := p1.isList
          cases d with
          | non => have h1 : v1 = _ := h1; subst h1; obtain rfl : u1 = Value.none := r1; exact SeqAt.RcAt.none_list p2 (by omega)
          | bl c => have h1 : v1 = _ := h1; subst h1; obtain rfl : u1 = Value.bool c := r1; exact SeqAt.RcAt.bool_list _ p2 (by omega)
          | int c => have h1 : v1 = _ := h1; subst h1; obtain ⟨t, rfl⟩ := r1; exact SeqAt.RcAt.int_list _ _ p2 (by omega)
          | str c => have h1 : v1 = _ := h1; subst h1; obtain ⟨t, rfl⟩ := r1; exact SeqAt.RcAt.str_list _ _ p2 (by omega)
          | _ => exact nomatch (show false = true from sd)
        | non => exact absurd rfl se
        | bl _ => exact absurd rfl se
        | int _ => exact absurd rfl se
        | str _ => exact absurd rfl se
        | _ => exact h2.elim
    · cases d with
      | tup ds =>
        obtain ⟨a, xs, rfl, h3, h4⟩ := h1
        obtain rfl : u1 = Value.ref a := r1
        obtain ⟨us, ru, p0, _⟩ := I.tuple h3
        have p1 : s.heap.IsTuple a us.toArray := p0
        have hd' : depDs ds ≤ n := by have : depDs ds + 1 ≤ n + 1 := hd; omega
        cases e with
        | tup es =>
          obtain ⟨b, ys, rfl, h5, h6⟩ := h2
          obtain rfl : u2 = Value.ref b := r2
          have he' : depDs es ≤ n := by have : depDs es + 1 ≤ n + 1 := he; omega
          obtain ⟨ws, rw', q0, _⟩ := I.tuple h5
          have p2 : s.heap.IsTuple b ws.toArray := q0
          have l1 : us.toArray.size = ds.length := by rw [List.size_toArray, ← ru.length, h4.length]
          have l2 : ws.toArray.size = es.length := by rw [List.size_toArray, ← rw'.length, h6.length]
          have it := items (A := A.in1) (ds := ds) (es := es) (by show A.units + 1 + n < cLine; omega) pd h4 h6 ru rw' hd' he'
          have t := SeqAt.RcAt.tuples p1 p2 (by omega) it
          rw [l1, l2, all_range_min] at t
          exact t
        | lst es =>
          obtain ⟨b, ys, rfl, h5, h6⟩ := h2
          obtain rfl : u2 = Value.ref b := r2
          obtain ⟨its, _, q0, _⟩ := I.list h5
          exact SeqAt.RcAt.tuple_list p1 q0.isList (by omega)
        | non => have h2 : v2 = _ := h2; subst h2; obtain rfl : u2 = Value.none := r2; exact SeqAt.RcAt.tuple_none p1 (by omega)
        | bl c => have h2 : v2 = _ := h2; subst h2; obtain rfl : u2 = Value.bool c := r2; exact SeqAt.RcAt.tuple_bool _ p1 (by omega)
        | int c => have h2 : v2 = _ := h2; subst h2; obtain ⟨t, rfl⟩ := r2; exact SeqAt.RcAt.tuple_int _ _ p1 (by omega)
        | str c => have h2 : v2 = _ := h2; subst h2; obtain ⟨t, rfl⟩ := r2; exact SeqAt.RcAt.tuple_str _ _ p1 (by omega)
        | _ => exact h2.elim
      | lst ds =>
        obtain ⟨a, xs, rfl, h3, h4⟩ := h1
        obtain rfl : u1 = Value.ref a := r1
        obtain ⟨us, ru, p0, _⟩ := I.list h3
        have p1 : s.heap.IsList a us.toArray := p0.isList
        have hd' : depDs ds ≤ n := by have : depDs ds + 1 ≤ n + 1 := hd; omega
        cases e with
        | lst es =>
          obtain ⟨b, ys, rfl, h5, h6⟩ := h2
          obtain rfl : u2 = Value.ref b := r2
          have he' : depDs es ≤ n := by have : depDs es + 1 ≤ n + 1 := he; omega
          obtain ⟨ws, rw', q0, _⟩ := I.list h5
          have p2 : s.heap.IsList b ws.toArray := q0.isList
          have l1 : us.toArray.size = ds.length := by rw [List.size_toArray, ← ru.length, h4.length]
          have l2 : ws.toArray.size = es.length := by rw [List.size_toArray, ← rw'.length, h6.length]
          have it := items (A := A.in1) (ds := ds) (es := es) (by show A.units + 1 + n < cLine; omega) pd h4 h6 ru rw' hd' he'
          by_cases hl : ds.length = es.length
          · have t := SeqAt.RcAt.lists p1 p2 (by rw [l1, l2, hl]) (by omega) it
            rw [l1] at t
            have z : eqD (.lst ds) (.lst es) = (List.range ds.length).all (eqAtI ds es) := eqDs_all hl
            rw [z]
            exact t
          · have z : eqD (.lst ds) (.lst es) = false := eqDs_len hl
            rw [z]
            exact SeqAt.RcAt.lists_lengths p1 p2 (by rw [l1, l2]; simpa using hl) (by omega)
        | tup es =>
          obtain ⟨b, ys, rfl, h5, h6⟩ := h2
          obtain rfl : u2 = Value.ref b := r2
          obtain ⟨its, _, q0, _⟩ := I.tuple h5
          exact SeqAt.RcAt.list_tuple p1 q0 (by omega)
        | non => have h2 : v2 = _ := h2; subst h2; obtain rfl : u2 = Value.none := r2; exact SeqAt.RcAt.list_none p1 (by omega)
        | bl c => have h2 : v2 = _ := h2; subst h2; obtain rfl : u2 = Value.bool c := r2; exact SeqAt.RcAt.list_bool _ p1 (by omega)
        | int c => have h2 : v2 = _ := h2; subst h2; obtain ⟨t, rfl⟩ := r2; exact SeqAt.RcAt.list_int _ _ p1 (by omega)
        | str c => have h2 : v2 = _ := h2; subst h2; obtain ⟨t, rfl⟩ := r2; exact SeqAt.RcAt.list_str _ _ p1 (by omega)
        | _ => exact h2.elim
      | non => exact absurd rfl sd
      | bl _ => exact absurd rfl sd
      | int _ => exact absurd rfl sd
      | str _ => exact absurd rfl sd
      | _ => exact h1.elim
theorem ne_at (I : Inv X pins σ H s) (n : Nat) {d e : D} {v1 v2 : V} {u1 u2 : Value} {A : Around} (hu : A.units + (n + 1) < cLine) (hd : depD d ≤ n + 1) (he : depD e ≤ n + 1) (pd : plainD d = true) (h1 : Sh X.K H d v1) (h2 : Sh X.K H e v2) (r1 : RelV v1 u1) (r2 : RelV v2 u2) : SeqAt.RcNeAt A s u1 u2 (!eqD d e) := by
    have items : ∀ {A : Around} {ds es : List D} {xs ys : List V} {us ws : List Value}, A.units + n < cLine → plainDs ds = true → Shs X.K H ds xs → Shs X.K H es ys → Vals xs us → Vals ys ws → depDs ds ≤ n → depDs es ≤ n →
        ∀ j (a1 : j < us.toArray.size) (a2 : j < ws.toArray.size), SeqAt.EqAt A s us.toArray[j] ws.toArray[j] (eqAtI ds es j) := items_of (eq_at I n)
    by_cases sd : isSc d = true
    · by_cases se : isSc e = true
      · exact scal_ne sd se h1 h2 r1 r2
      · cases e with
        | tup es =>
          obtain ⟨b, ys, rfl, h5, h6⟩ := h2
          obtain rfl : u2 = Value.ref b := r2
          obtain ⟨its, _, p1, _⟩ := I.tuple h5
          have p2 : s.heap.IsTuple b its.toArray := p1
          cases d with
          | non => have h1 : v1 = _ := h1; subst h1; obtain rfl : u1 = Value.none := r1; exact SeqAt.RcNeAt.none_tuple p2 (by omega)
          | bl c => have h1 : v1 = _ := h1; subst h1; obtain rfl : u1 = Value.bool c := r1; exact SeqAt.RcNeAt.bool_tuple _ p2 (by omega)
          | int c => have h1 : v1 = _ := h1; subst h1; obtain ⟨t, rfl⟩ := r1; exact SeqAt.RcNeAt.int_tuple _ _ p2 (by omega)
          | str c => have h1 : v1 = _ := h1; subst h1; obtain ⟨t, rfl⟩ := r1; exact SeqAt.RcNeAt.str_tuple _ _ p2 (by omega)
          | _ => exact nomatch (show false = true from sd)
        | lst es =>
          obtain ⟨b, ys, rfl, h5, h6⟩ := h2
          obtain rfl : u2 = Value.ref b := r2
          obtain ⟨its, _, p1, _⟩ := I.list h5
          have p2 : s.heap.IsList b its.toArray := p1.isList
          cases d with
          | non => have h1 : v1 = _ := h1; subst h1; obtain rfl : u1 = Value.none := r1; exact SeqAt.RcNeAt.none_list p2 (by omega)
          | bl c => have h1 : v1 = _ := h1; subst h1; obtain rfl : u1 = Value.bool c := r1; exact SeqAt.RcNeAt.bool_list _ p2 (by omega)
          | int c => have h1 : v1 = _ := h1; subst h1; obtain ⟨t, rfl⟩ := r1; exact SeqAt.RcNeAt.int_list _ _ p2 (by omega)
          | str c => have h1 : v1 = _ := h1; subst h1; obtain ⟨t, rfl⟩ := r1; exact SeqAt.RcNeAt.str_list _ _ p2 (by omega)
          | _ => exact nomatch (show false = true from sd)
        | non => exact absurd rfl se
        | bl _ => exact absurd rfl se
        | int _ => exact absurd rfl se
        | str _ => exact absurd rfl se
        | _ => exact h2.elim
    · cases d with
      | tup ds =>
        obtain ⟨a, xs, rfl, h3, h4⟩ := h1
        obtain rfl : u1 = Value.ref a := r1
        obtain ⟨us, ru, p0, _⟩ := I.tuple h3
        have p1 : s.heap.IsTuple a us.toArray := p0
        have hd' : depDs ds ≤ n := by have : depDs ds + 1 ≤ n + 1 := hd; omega
        cases e with
        | tup es =>
          obtain ⟨b, ys, rfl, h5, h6⟩ := h2
          obtain rfl : u2 = Value.ref b := r2
          have he' : depDs es ≤ n := by have : depDs es + 1 ≤ n + 1 := he; omega
          obtain ⟨ws, rw', q0, _⟩ := I.tuple h5
          have p2 : s.heap.IsTuple b ws.toArray := q0
          have l1 : us.toArray.size = ds.length := by rw [List.size_toArray, ← ru.length, h4.length]
          have l2 : ws.toArray.size = es.length := by rw [List.size_toArray, ← rw'.length, h6.length]
          have it := items (A := A.in1) (ds := ds) (es := es) (by show A.units + 1 + n < cLine; omega) pd h4 h6 ru rw' hd' he'
          have t := SeqAt.RcNeAt.tuples p1 p2 (by omega) it
          rw [l1, l2, all_range_min] at t
          exact t
        | lst es =>
          obtain ⟨b, ys, rfl, h5, h6⟩ := h2
          obtain rfl : u2 = Value.ref b := r2
          obtain ⟨its, _, q0, _⟩ := I.list h5
          exact SeqAt.RcNeAt.tuple_list p1 q0.isList (by omega)
        | non => have h2 : v2 = _ := h2; subst h2; obtain rfl : u2 = Value.none := r2; exact SeqAt.RcNeAt.tuple_none p1 (by omega)
        | bl c => have h2 : v2 = _ := h2; subst h2; obtain rfl : u2 = Value.bool c := r2; exact SeqAt.RcNeAt.tuple_bool _ p1 (by omega)
        | int c => have h2 : v2 = _ := h2; subst h2; obtain ⟨t, rfl⟩ := r2; exact SeqAt.RcNeAt.tuple_int _ _ p1 (by omega)
        | str c => have h2 : v2 = _ := h2; subst h2; obtain ⟨t, rfl⟩ := r2; exact SeqAt.RcNeAt.tuple_str _ _ p1 (by omega)
        | _ => exact h2.elim
      | lst ds =>
        obtain ⟨a, xs, rfl, h3, h4⟩ := h1
        obtain rfl : u1 = Value.ref a := r1
        obtain ⟨us, ru, p0, _⟩ := I.list h3
        have p1 : s.heap.IsList a us.toArray := p0.isList
        have hd' : depDs ds ≤ n := by have : depDs ds + 1 ≤ n + 1 := hd; omega
        cases e with
        | lst es =>
          obtain ⟨b, ys, rfl, h5, h6⟩ := h2
          obtain rfl : u2 = Value.ref b := r2
          have he' : depDs es ≤ n := by have : depDs es + 1 ≤ n + 1 := he; omega
          obtain ⟨ws, rw', q0, _⟩ := I.list h5
          have p2 : s.heap.IsList b ws.toArray := q0.isList
          have l1 : us.toArray.size = ds.length := by rw [List.size_toArray, ← ru.length, h4.length]
          have l2 : ws.toArray.size = es.length := by rw [List.size_toArray, ← rw'.length, h6.length]
          have it := items (A := A.in1) (ds := ds) (es := es) (by show A.units + 1 + n < cLine; omega) pd h4 h6 ru rw' hd' he'
          by_cases hl : ds.length = es.length
          · have t := SeqAt.RcNeAt.lists p1 p2 (by rw [l1, l2, hl]) (by omega) it
            rw [l1] at t
            have z : eqD (.lst ds) (.lst es) = (List.range ds.length).all (eqAtI ds es) := eqDs_all hl
            rw [z]
            exact t
          · have z : eqD (.lst ds) (.lst es) = false := eqDs_len hl
            rw [z]
            exact SeqAt.RcNeAt.lists_lengths p1 p2 (by rw [l1, l2]; simpa using hl) (by omega)
        | tup es =>
          obtain ⟨b, ys, rfl, h5, h6⟩ := h2
          obtain rfl : u2 = Value.ref b := r2
          obtain ⟨its, _, q0, _⟩ := I.tuple h5
          exact SeqAt.RcNeAt.list_tuple p1 q0 (by omega)
        | non => have h2 : v2 = _ := h2; subst h2; obtain rfl : u2 = Value.none := r2; exact SeqAt.RcNeAt.list_none p1 (by omega)
        | bl c => have h2 : v2 = _ := h2; subst h2; obtain rfl : u2 = Value.bool c := r2; exact SeqAt.RcNeAt.list_bool _ p1 (by omega)
        | int c => have h2 : v2 = _ := h2; subst h2; obtain ⟨t, rfl⟩ := r2; exact SeqAt.RcNeAt.list_int _ _ p1 (by omega)
        | str c => have h2 : v2 = _ := h2; subst h2; obtain ⟨t, rfl⟩ := r2; exact SeqAt.RcNeAt.list_str _ _ p1 (by omega)
        | _ => exact h2.elim
      | non => exact absurd rfl sd
      | bl _ => exact absurd rfl sd
      | int _ => exact absurd rfl sd
      | str _ => exact absurd rfl sd
      | _ => exact h1.elim
end
end HM

set_option Elab.async false
set_option linter.all false
set_option maxRecDepth 100000
set_option maxHeartbeats 4000000
namespace HM
open PySem PySem.Spec L2
/-- data whose comparison is told -/
def cmpOk (d : D) : Bool := plainD d && decide (depD d ≤ 40)
def eqO (a b : D) : Option RD := if cmpOk a && cmpOk b then some (.val (.bl (eqD a b))) else none
def neO (a b : D) : Option RD := if cmpOk a && cmpOk b then some (.val (.bl (!eqD a b))) else none
section
variable {X : Cx}
def rEqH (K : PySem.W.Frag) : R2 := fun x y H Q => ∃ d e, Sh K H d x ∧ Sh K H e y ∧ plainD d = true ∧ depD d ≤ 40 ∧ depD e ≤ 40 ∧ Q (.bl (eqD d e)) H
def rNeH (K : PySem.W.Frag) : R2 := fun x y H Q => ∃ d e, Sh K H d x ∧ Sh K H e y ∧ plainD d = true ∧ depD d ≤ 40 ∧ depD e ≤ 40 ∧ Q (.bl (!eqD d e)) H
theorem opr_eqH (hu : X.A.units + 64 < cLine) : OpR X (compareOp .Eq) (rEqH X.K) := by
  intro pins s σ H x y v u Q I rx ry h
  obtain ⟨d, e, h1, h2, pd, hd, he, q⟩ := h
  exact rc_at I 40 (A := X.A) (by omega) (by omega) (by omega) pd h1 h2 rx ry X.prog X.w _ _ ⟨.bl _, H, I, rfl, q⟩
theorem opr_neH (hu : X.A.units + 64 < cLine) : OpR X (compareOp .NotEq) (rNeH X.K) := by
  intro pins s σ H x y v u Q I rx ry h
  obtain ⟨d, e, h1, h2, pd, hd, he, q⟩ := h
  exact ne_at I 40 (A := X.A) (by omega) (by omega) (by omega) pd h1 h2 rx ry X.prog X.w _ _ ⟨.bl _, H, I, rfl, q⟩
theorem cmpOk_of {d : D} (h : cmpOk d = true) : plainD d = true ∧ depD d ≤ 40 := by
  have h' : (plainD d && decide (depD d ≤ 40)) = true := h
  rw [Bool.and_eq_true] at h'
  exact ⟨h'.1, of_decide_eq_true h'.2⟩
theorem ops_eq : OpS X (rEqH X.K) eqO := by
  intro w H σ S a b c x y Q rel ha hb e h
  have e' : (if (cmpOk a && cmpOk b) = true then some (RD.val (.bl (eqD a b))) else none) = some c := e
  by_cases hc : (cmpOk a && cmpOk b) = true
  · rw [if_pos hc] at e'
    cases e'
    rw [Bool.and_eq_true] at hc
    obtain ⟨p1, d1⟩ := cmpOk_of hc.1
    obtain ⟨p2, d2⟩ := cmpOk_of hc.2
    exact ⟨a, b, ha.sh p1, hb.sh p2, p1, d1, d2, h w H _ (Ext.refl _ _) rel rfl⟩
  · rw [if_neg hc] at e'; cases e'
theorem ops_ne : OpS X (rNeH X.K) neO := by
  intro w H σ S a b c x y Q rel ha hb e h
  have e' : (if (cmpOk a && cmpOk b) = true then some (RD.val (.bl (!eqD a b))) else none) = some c := e
  by_cases hc : (cmpOk a && cmpOk b) = true
  · rw [if_pos hc] at e'
    cases e'
    rw [Bool.and_eq_true] at hc
    obtain ⟨p1, d1⟩ := cmpOk_of hc.1
    obtain ⟨p2, d2⟩ := cmpOk_of hc.2
    exact ⟨a, b, ha.sh p1, hb.sh p2, p1, d1, d2, h w H _ (Ext.refl _ _) rel rfl⟩
  · rw [if_neg hc] at e'; cases e'
/-! ### x in a list or tuple -/
open Classical in
noncomputable def eqB (K : PySem.W.Frag) (H : Hp) (x : D) (u : Value) : Bool := decide (∃ d v, Sh K H d v ∧ RelV v u ∧ eqD d x = true)
open Classical in
theorem eqB_of {pins : List (Addr × Obj)} {σ : L2.St} {H : Hp} {s : Shared} (I : Inv X pins σ H s) {x d : D} {v : V} {u : Value} (h : Sh X.K H d v) (r : RelV v u) : eqB X.K H x u = eqD d x := by
  unfold eqB
  cases e : eqD d x with
  | true => exact decide_eq_true ⟨d, v, h, r, e⟩
  | false =>
    refine decide_eq_false ?_
    rintro ⟨d', v', h', r', e'⟩
    have : v' = v := RelV.inj r' r
    subst this
    have : d' = d := Sh.inj I (depD d') (Nat.le_refl _) h' h
    subst this
    rw [e] at e'
    cases e'
theorem any_eqB {pins : List (Addr × Obj)} {σ : L2.St} {H : Hp} {s : Shared} (I : Inv X pins σ H s) {x : D} : ∀ {ds : List D} {xs : List V} {us : List Value}, Shs X.K H ds xs → Vals xs us → us.any (eqB X.K H x) = ds.any fun d => eqD d x
  | [], _, _, h, r => by
    have h : _ = ([] : List V) := h
    subst h
    cases r
    rfl
  | d :: ds, _, _, h, r => by
    obtain ⟨v, vs, rfl, h1, h2⟩ := h
    cases r with
    | cons r1 r2 => rw [List.any_cons, List.any_cons, eqB_of I h1 r1, any_eqB I h2 r2]
theorem at_eqB {pins : List (Addr × Obj)} {σ : L2.St} {H : Hp} {s : Shared} (I : Inv X pins σ H s) {x : D} {xv : V} {xu : Value} {A : Around} (hu : A.units + 40 < cLine) (hx : Sh X.K H x xv) (rx : RelV xv xu) (dx : depD x ≤ 40) :
    ∀ {ds : List D} {xs : List V} {us : List Value}, plainDs ds = true → depDs ds ≤ 40 → Shs X.K H ds xs → Vals xs us → ∀ u ∈ us, SeqAt.EqAt A s u xu (eqB X.K H x u)
  | [], _, _, _, _, h, r, u, hm => by
    have h : _ = ([] : List V) := h
    subst h
    cases r
    cases hm
  | d :: ds, _, _, p, hd, h, r, u, hm => by
    obtain ⟨v, vs, rfl, h1, h2⟩ := h
    have p' : (plainD d && plainDs ds) = true := p
    rw [Bool.and_eq_true] at p'
    have hd' : max (depD d) (depDs ds) ≤ 40 := hd
    cases r with
    | cons r1 r2 =>
      rcases List.mem_cons.mp hm with e | hm
      · subst e
        rw [eqB_of I h1 r1]
        exact eq_at I 40 hu (by omega) dx p'.1 h1 hx r1 rx
      · exact at_eqB I hu hx rx dx p'.2 (by omega) h2 r2 u hm
def rInH (K : PySem.W.Frag) (neg : Bool) : R2 := fun x y H Q => ∃ d ds p xs, y = .ref p ∧ (SqL K H p xs ∨ SqT K H p xs) ∧ Shs K H ds xs ∧ Sh K H d x ∧ plainDs ds = true ∧ depDs ds ≤ 40 ∧ depD d ≤ 40 ∧ Q (.bl (if neg then !ds.any (fun z => eqD z d) else ds.any fun z => eqD z d)) H
theorem opr_inH (hu : X.A.units + 64 < cLine) : OpR X (compareOp .In) (rInH X.K false) := by
  intro pins s σ H x y v u Q I rx ry h
  obtain ⟨d, ds, p, xs, rfl, hq, hs, hx, pd, hd, hd2, q⟩ := h
  cases ry
  have hu2 : X.A.in1.units + 40 < cLine := by show X.A.units + 1 + 40 < cLine; omega
  rcases hq with hq | hq
  · obtain ⟨its, r, pl, hz⟩ := I.list hq
    refine SeqAt.in_listAt (eqB X.K H d) pl.isList (fun w hw => at_eqB I hu2 hx rx hd2 pd hd hs r w (by simpa using hw)) ⟨.bl _, H, I, rfl, ?_⟩
    rw [show its.toArray.any (eqB X.K H d) = its.any (eqB X.K H d) by simp, any_eqB I hs r]
    exact q
  · obtain ⟨its, r, pl, hz⟩ := I.tuple hq
    refine SeqAt.in_tupleAt (eqB X.K H d) pl (fun w hw => at_eqB I hu2 hx rx hd2 pd hd hs r w (by simpa using hw)) ⟨.bl _, H, I, rfl, ?_⟩
    rw [show its.toArray.any (eqB X.K H d) = its.any (eqB X.K H d) by simp, any_eqB I hs r]
    exact q
theorem opr_ninH (hu : X.A.units + 64 < cLine) : OpR X (compareOp .NotIn) (rInH X.K true) := by
  intro pins s σ H x y v u Q I rx ry h
  obtain ⟨d, ds, p, xs, rfl, hq, hs, hx, pd, hd, hd2, q⟩ := h
  cases ry
  have hu2 : X.A.in1.units + 40 < cLine := by show X.A.units + 1 + 40 < cLine; omega
  rcases hq with hq | hq
  · obtain ⟨its, r, pl, hz⟩ := I.list hq
    refine SeqAt.notIn_listAt (eqB X.K H d) pl.isList (fun w hw => at_eqB I hu2 hx rx hd2 pd hd hs r w (by simpa using hw)) ⟨.bl _, H, I, rfl, ?_⟩
    rw [show its.toArray.any (eqB X.K H d) = its.any (eqB X.K H d) by simp, any_eqB I hs r]
    exact q
  · obtain ⟨its, r, pl, hz⟩ := I.tuple hq
    refine SeqAt.notIn_tupleAt (eqB X.K H d) pl (fun w hw => at_eqB I hu2 hx rx hd2 pd hd hs r w (by simpa using hw)) ⟨.bl _, H, I, rfl, ?_⟩
    rw [show its.toArray.any (eqB X.K H d) = its.any (eqB X.K H d) by simp, any_eqB I hs r]
    exact q
/-- one text in another -/
def strIn (i j : Str) : Bool := !(Builtin.Str.occurrences j i 0 j.length 1).isEmpty
def hasKey (kvs : List (D × D)) (k : D) : Bool := kvs.any fun p => eqD p.1 k
def inD : D → D → Option Bool
  | .str i, .str j => some (strIn i j)
  | a, .lst ds => if cmpOk a && (plainDs ds && decide (depDs ds ≤ 40)) then some (ds.any fun z => eqD z a) else none
  | a, .tup ds => if cmpOk a && (plainDs ds && decide (depDs ds ≤ 40)) then some (ds.any fun z => eqD z a) else none
  | _, _ => none
def inOs (a b : D) : Option RD := (inD a b).map fun c => .val (.bl c)
def ninOs (a b : D) : Option RD := (inD a b).map fun c => .val (.bl (!c))
def rInS (K : PySem.W.Frag) : R2 := fun x y H Q => (∃ i j, x = .str i ∧ y = .str j ∧ Q (.bl (strIn i j)) H) ∨ rInH K false x y H Q
def rNinS (K : PySem.W.Frag) : R2 := fun x y H Q => (∃ i j, x = .str i ∧ y = .str j ∧ Q (.bl (!strIn i j)) H) ∨ rInH K true x y H Q
theorem opr_ins (hu : X.A.units + 64 < cLine) : OpR X (compareOp .In) (rInS X.K) := op_in_str.or (opr_inH hu)
theorem opr_nins (hu : X.A.units + 64 < cLine) : OpR X (compareOp .NotIn) (rNinS X.K) := op_notin_str.or (opr_ninH hu)
theorem inD_seq {w : Wd} {H : Hp} {a b : D} {x y : V} {c neg : Bool} {Q : VK} (ha : LookR X.K w H a x) (hb : LookR X.K w H b y) (e : inD a b = some c) (q : Q (.bl (if neg then !c else c)) H) :
    (∃ i j, x = .str i ∧ y = .str j ∧ Q (.bl (if neg then !strIn i j else strIn i j)) H) ∨ rInH X.K neg x y H Q := by
  have seq : ∀ {ds : List D}, (if (cmpOk a && (plainDs ds && decide (depDs ds ≤ 40))) = true then some (ds.any fun z => eqD z a) else none) = some c → ∀ {p : Addr} {xs : List V}, y = .ref p → (SqL X.K H p xs ∨ SqT X.K H p xs) → RelDs X.K w H ds xs → rInH X.K neg x y H Q := fun {ds} e' {p xs} hy hq hr => by
    by_cases hc : (cmpOk a && (plainDs ds && decide (depDs ds ≤ 40))) = true
    · rw [if_pos hc] at e'
      cases e'
      rw [Bool.and_eq_true, Bool.and_eq_true] at hc
      obtain ⟨p1, d1⟩ := cmpOk_of hc.1
      exact ⟨a, ds, p, xs, hy, hq, RelDs.sh hc.2.1 hr, ha.sh p1, hc.2.1, of_decide_eq_true hc.2.2, d1, q⟩
    · rw [if_neg hc] at e'; cases e'
  cases b with
  | lst ds =>
    have e' : (if (cmpOk a && (plainDs ds && decide (depDs ds ≤ 40))) = true then some (ds.any fun z => eqD z a) else none) = some c := by
      cases a <;> exact e
    obtain ⟨p, xs, h1, h2, h3⟩ := hb
    exact .inr (seq e' h1 (.inl (.inl (.inl h2))) h3)
  | tup ds =>
    have e' : (if (cmpOk a && (plainDs ds && decide (depDs ds ≤ 40))) = true then some (ds.any fun z => eqD z a) else none) = some c := by
      cases a <;> exact e
    have hb' : RelD X.K w H (.tup ds) y := hb
    obtain ⟨p, xs, h1, h2, h3⟩ := TupAt.rel hb'
    exact .inr (seq e' h1 (.inr h2) h3)
  | str j =>
    cases a with
    | str i =>
      cases e
      exact .inl ⟨i, j, ha, hb, q⟩
    | _ => exact nomatch (show (none : Option Bool) = some c from e)
  | _ => cases a <;> exact nomatch (show (none : Option Bool) = some c from e)
theorem ops_ins : OpS X (rInS X.K) inOs := by
  intro w H σ S a b c x y Q rel ha hb e h
  obtain ⟨k, e1, rfl⟩ := Option.map_eq_some_iff.mp e
  exact inD_seq (neg := false) ha hb e1 (h w H _ (Ext.refl _ _) rel rfl)
theorem ops_nins : OpS X (rNinS X.K) ninOs := by
  intro w H σ S a b c x y Q rel ha hb e h
  obtain ⟨k, e1, rfl⟩ := Option.map_eq_some_iff.mp e
  exact inD_seq (neg := true) ha hb e1 (h w H _ (Ext.refl _ _) rel rfl)
/-! ### order of ints; is None -/
def ltO (f : Int → Int → Bool) : D → D → Option RD
  | .int i, .int j => some (.val (.bl (f i j)))
  | _, _ => none
theorem ops_cmpI {f : Int → Int → Bool} : OpS X (rI0 fun i j => .bl (f i j)) (ltO f) := by
  intro w H σ S a b c x y Q rel ha hb e h
  cases a <;> cases b <;> try (exact nomatch (show (none : Option RD) = some c from e))
  case int.int i j =>
    cases e
    exact ⟨i, j, ha, hb, h w H _ (Ext.refl _ _) rel rfl⟩
def isNone : D → Bool
  | .non => true
  | _ => false
def isO (a b : D) : Option RD := if isNone b = true then some (.val (.bl (isNone a))) else none
def isnO (a b : D) : Option RD := if isNone b = true then some (.val (.bl (!isNone a))) else none
theorem isNone_eq : ∀ {b : D}, isNone b = true → b = .non
  | .non, _ => rfl
theorem isNone_of {K : PySem.W.Frag} {w : Wd} {H : Hp} {a : D} {x : V} (ha : LookR K w H a x) : decide (x = .non) = isNone a := by
  cases a with
  | non => rw [show x = .non from ha]; rfl
  | bl _ => rw [show x = _ from ha]; rfl
  | int _ => rw [show x = _ from ha]; rfl
  | str _ => rw [show x = _ from ha]; rfl
  | cls _ => rw [show x = _ from ha]; rfl
  | tup _ => obtain ⟨_, _, e, _⟩ := ha; rw [e]; rfl
  | lst _ => obtain ⟨_, _, e, _⟩ := ha; rw [e]; rfl
  | dct t _ => cases t <;> (obtain ⟨_, _, e, _⟩ := ha; rw [e]; rfl)
  | obj _ _ => obtain ⟨_, _, _, e, _⟩ := ha; rw [e]; rfl
  | scr _ => obtain ⟨_, e, _⟩ := ha; rw [e]; rfl
  | lck _ => exact False.elim ha
  | exn _ _ => obtain ⟨_, _, _, _, e, _⟩ := ha; rw [e]; rfl
  | ref _ => exact ha.elim
theorem ops_is : OpS X (fun x y H Q => y = .non ∧ Q (.bl (decide (x = .non))) H) isO := by
  intro w H σ S a b c x y Q rel ha hb e h
  have e' : (if isNone b = true then some (RD.val (.bl (isNone a))) else none) = some c := e
  by_cases hn : isNone b = true
  · rw [if_pos hn] at e'
    cases e'
    rw [isNone_eq hn] at hb
    exact ⟨hb, by rw [isNone_of ha]; exact h w H _ (Ext.refl _ _) rel rfl⟩
  · rw [if_neg hn] at e'; cases e'
theorem ops_isn : OpS X (fun x y H Q => y = .non ∧ Q (.bl (!decide (x = .non))) H) isnO := by
  intro w H σ S a b c x y Q rel ha hb e h
  have e' : (if isNone b = true then some (RD.val (.bl (!isNone a))) else none) = some c := e
  by_cases hn : isNone b = true
  · rw [if_pos hn] at e'
    cases e'
    rw [isNone_eq hn] at hb
    exact ⟨hb, by rw [isNone_of ha]; exact h w H _ (Ext.refl _ _) rel rfl⟩
  · rw [if_neg hn] at e'; cases e'
end
end HM

set_option Elab.async false
set_option linter.all false
set_option maxRecDepth 100000
set_option maxHeartbeats 4000000
/-! dicts: keys, what is found, stored, dropped; d[k], k in d, len(d), d[k] = v by values -/
namespace HM
open PySem PySem.Spec L2
def key1 : D → Option Key
  | .int i => some (.inl i)
  | .str s => some (.inr s)
  | _ => none
def keyL : List D → Option (List Key)
  | [] => some []
  | d :: r => (key1 d).bind fun k => (keyL r).map (k :: ·)
theorem key1_eq : ∀ {d : D} {k : Key}, key1 d = some k → d = keyOf k
  | .int i, _, h => by cases h; rfl
  | .str s, _, h => by cases h; rfl
  | .non, _, h => nomatch h
  | .bl _, _, h => nomatch h
  | .tup _, _, h => nomatch h
  | .lst _, _, h => nomatch h
  | .dct _ _, _, h => nomatch h
  | .obj _ _, _, h => nomatch h
  | .ref _, _, h => nomatch h
  | .cls _, _, h => nomatch h
  | .scr _, _, h => nomatch h
  | .lck _, _, h => nomatch h
  | .exn _ _, _, h => nomatch h
theorem keyL_eq : ∀ {ds : List D} {q : List Key}, keyL ds = some q → ds = q.map keyOf
  | [], _, h => by cases h; rfl
  | d :: r, q, h => by
    obtain ⟨k, h1, h2⟩ := Option.bind_eq_some_iff.mp h
    obtain ⟨q', h3, rfl⟩ := Option.map_eq_some_iff.mp h2
    rw [key1_eq h1, keyL_eq h3]
    rfl
/-- a key of its kind of dict -/
def isKey : Bool → D → Bool
  | true, .tup ds => (keyL ds).isSome
  | false, d => (key1 d).isSome
  | _, _ => false
theorem isKey_t {k : D} (h : isKey true k = true) : ∃ q : List Key, k = .tup (q.map keyOf) := by
  cases k with
  | tup ds =>
    obtain ⟨q, hq⟩ := Option.isSome_iff_exists.mp (show (keyL ds).isSome = true from h)
    exact ⟨q, by rw [keyL_eq hq]⟩
  | _ => cases h
theorem isKey_k {k : D} (h : isKey false k = true) : ∃ q : Key, k = keyOf q := by
  have h' : (key1 k).isSome = true := by
    cases k <;> exact h
  obtain ⟨q, hq⟩ := Option.isSome_iff_exists.mp h'
  exact ⟨q, key1_eq hq⟩
theorem eq_key : ∀ a b : Key, eqD (keyOf a) (keyOf b) = decide (a = b)
  | .inl i, .inl j => by
    show (i == j) = _
    rw [show decide ((Sum.inl i : Key) = .inl j) = decide (i = j) from by simp]
    by_cases e : i = j
    · subst e; simp
    · simp [e]
  | .inr i, .inr j => by
    show (i == j) = _
    rw [show decide ((Sum.inr i : Key) = .inr j) = decide (i = j) from by simp]
    by_cases e : i = j
    · subst e; simp
    · simp [e]
  | .inl i, .inr j => by simp [keyOf, eqD]
  | .inr i, .inl j => by simp [keyOf, eqD]
theorem eq_keys : ∀ a b : List Key, eqD (.tup (a.map keyOf)) (.tup (b.map keyOf)) = decide (a = b)
  | [], [] => by simp [eqD, eqDs]
  | [], _ :: _ => by simp [eqD, eqDs]
  | _ :: _, [] => by simp [eqD, eqDs]
  | x :: a, y :: b => by
    have h := eq_keys a b
    have h' : eqDs (a.map keyOf) (b.map keyOf) = decide (a = b) := h
    show (eqD (keyOf x) (keyOf y) && eqDs (a.map keyOf) (b.map keyOf)) = _
    rw [eq_key, h']
    simp
/-! ### tables of data -/
def dfind (kvs : List (D × D)) (k : D) : Option D := (kvs.find? fun p => eqD p.1 k).map (·.2)
def dput (kvs : List (D × D)) (k d : D) : List (D × D) := if (kvs.any fun p => eqD p.1 k) = true then kvs.map (fun p => if eqD p.1 k = true then (p.1, d) else p) else kvs ++ [(k, d)]
def ddrop (kvs : List (D × D)) (k : D) : List (D × D) := kvs.filter fun p => !eqD p.1 k
section
variable {K : PySem.W.Frag} {w : Wd} {H : Hp}
theorem find_k (q : Key) : ∀ {kvs : List (D × D)} {gs : List (Key × V)}, RelK K w H kvs gs → (dfind kvs (keyOf q) = none ∧ valV gs q = none) ∨ ∃ d v, dfind kvs (keyOf q) = some d ∧ valV gs q = some v ∧ RelD K w H d v
  | [], _, h => by
    rw [show _ = ([] : List (Key × V)) from h]
    exact .inl ⟨rfl, rfl⟩
  | (k, d) :: kvs, _, h => by
    obtain ⟨p, v, gs, rfl, rfl, h1, h2⟩ := h
    by_cases e : p = q
    · refine .inr ⟨d, v, ?_, by rw [valV_pos e], h1⟩
      unfold dfind
      rw [List.find?_cons, eq_key, decide_eq_true e]
      rfl
    · rw [valV_neg e]
      have : dfind ((keyOf p, d) :: kvs) (keyOf q) = dfind kvs (keyOf q) := by
        unfold dfind
        rw [List.find?_cons, eq_key, decide_eq_false e]
      rw [this]
      exact find_k q h2
theorem find_t (q : List Key) : ∀ {kvs : List (D × D)} {gs : List (List Key × V)}, RelT K w H kvs gs → (dfind kvs (.tup (q.map keyOf)) = none ∧ valV gs q = none) ∨ ∃ d v, dfind kvs (.tup (q.map keyOf)) = some d ∧ valV gs q = some v ∧ RelD K w H d v
  | [], _, h => by
    rw [show _ = ([] : List (List Key × V)) from h]
    exact .inl ⟨rfl, rfl⟩
  | (k, d) :: kvs, _, h => by
    obtain ⟨p, v, gs, rfl, rfl, h1, h2⟩ := h
    by_cases e : p = q
    · refine .inr ⟨d, v, ?_, by rw [valV_pos e], h1⟩
      unfold dfind
      rw [List.find?_cons, eq_keys, decide_eq_true e]
      rfl
    · rw [valV_neg e]
      have : dfind ((.tup (p.map keyOf), d) :: kvs) (.tup (q.map keyOf)) = dfind kvs (.tup (q.map keyOf)) := by
        unfold dfind
        rw [List.find?_cons, eq_keys, decide_eq_false e]
      rw [this]
      exact find_t q h2
theorem RelK.len : ∀ {kvs : List (D × D)} {gs : List (Key × V)}, RelK K w H kvs gs → kvs.length = gs.length
  | [], _, h => by rw [show _ = ([] : List (Key × V)) from h]; rfl
  | (k, d) :: kvs, _, h => by
    obtain ⟨p, v, gs, rfl, _, _, h2⟩ := h
    rw [List.length_cons, List.length_cons, RelK.len h2]
theorem RelT.len : ∀ {kvs : List (D × D)} {gs : List (List Key × V)}, RelT K w H kvs gs → kvs.length = gs.length
  | [], _, h => by rw [show _ = ([] : List (List Key × V)) from h]; rfl
  | (k, d) :: kvs, _, h => by
    obtain ⟨p, v, gs, rfl, _, _, h2⟩ := h
    rw [List.length_cons, List.length_cons, RelT.len h2]
theorem any_k (q : Key) : ∀ {kvs : List (D × D)} {gs : List (Key × V)}, RelK K w H kvs gs → (kvs.any fun p => eqD p.1 (keyOf q)) = gs.any fun kv => decide (kv.1 = q)
  | [], _, h => by rw [show _ = ([] : List (Key × V)) from h]; rfl
  | (k, d) :: kvs, _, h => by
    obtain ⟨p, v, gs, rfl, rfl, _, h2⟩ := h
    rw [List.any_cons, List.any_cons, any_k q h2, eq_key]
theorem any_t (q : List Key) : ∀ {kvs : List (D × D)} {gs : List (List Key × V)}, RelT K w H kvs gs → (kvs.any fun p => eqD p.1 (.tup (q.map keyOf))) = gs.any fun kv => decide (kv.1 = q)
  | [], _, h => by rw [show _ = ([] : List (List Key × V)) from h]; rfl
  | (k, d) :: kvs, _, h => by
    obtain ⟨p, v, gs, rfl, rfl, _, h2⟩ := h
    rw [List.any_cons, List.any_cons, any_t q h2, eq_keys]
theorem RelK.app {q : Key} {d : D} {v : V} (hv : RelD K w H d v) : ∀ {kvs : List (D × D)} {gs : List (Key × V)}, RelK K w H kvs gs → RelK K w H (kvs ++ [(keyOf q, d)]) (gs ++ [(q, v)])
  | [], _, h => by
    rw [show _ = ([] : List (Key × V)) from h]
    exact ⟨q, v, [], rfl, rfl, hv, rfl⟩
  | (k, d') :: kvs, _, h => by
    obtain ⟨p, v', gs, rfl, e, h1, h2⟩ := h
    exact ⟨p, v', _, rfl, e, h1, RelK.app hv h2⟩
theorem RelT.app {q : List Key} {d : D} {v : V} (hv : RelD K w H d v) : ∀ {kvs : List (D × D)} {gs : List (List Key × V)}, RelT K w H kvs gs → RelT K w H (kvs ++ [(.tup (q.map keyOf), d)]) (gs ++ [(q, v)])
  | [], _, h => by
    rw [show _ = ([] : List (List Key × V)) from h]
    exact ⟨q, v, [], rfl, rfl, hv, rfl⟩
  | (k, d') :: kvs, _, h => by
    obtain ⟨p, v', gs, rfl, e, h1, h2⟩ := h
    exact ⟨p, v', _, rfl, e, h1, RelT.app hv h2⟩
theorem map_k {q : Key} {d : D} {v : V} (hv : RelD K w H d v) : ∀ {kvs : List (D × D)} {gs : List (Key × V)}, RelK K w H kvs gs → RelK K w H (kvs.map fun p => if eqD p.1 (keyOf q) = true then (p.1, d) else p) (gs.map fun kv => if kv.1 = q then (kv.1, v) else kv)
  | [], _, h => by
    rw [show _ = ([] : List (Key × V)) from h]
    rfl
  | (k, d') :: kvs, _, h => by
    obtain ⟨p, v', gs, rfl, rfl, h1, h2⟩ := h
    rw [List.map_cons, List.map_cons]
    simp only [eq_key]
    by_cases e : p = q
    · rw [if_pos (decide_eq_true e), if_pos e]
      exact ⟨p, v, _, rfl, rfl, hv, map_k hv h2⟩
    · rw [if_neg (by simp [e]), if_neg e]
      exact ⟨p, v', _, rfl, rfl, h1, map_k hv h2⟩
theorem map_t {q : List Key} {d : D} {v : V} (hv : RelD K w H d v) : ∀ {kvs : List (D × D)} {gs : List (List Key × V)}, RelT K w H kvs gs → RelT K w H (kvs.map fun p => if eqD p.1 (.tup (q.map keyOf)) = true then (p.1, d) else p) (gs.map fun kv => if kv.1 = q then (kv.1, v) else kv)
  | [], _, h => by
    rw [show _ = ([] : List (List Key × V)) from h]
    rfl
  | (k, d') :: kvs, _, h => by
    obtain ⟨p, v', gs, rfl, rfl, h1, h2⟩ := h
    rw [List.map_cons, List.map_cons]
    simp only [eq_keys]
    by_cases e : p = q
    · rw [if_pos (decide_eq_true e), if_pos e]
      exact ⟨p, v, _, rfl, rfl, hv, map_t hv h2⟩
    · rw [if_neg (by simp [e]), if_neg e]
      exact ⟨p, v', _, rfl, rfl, h1, map_t hv h2⟩
theorem put_k {q : Key} {d : D} {v : V} (hv : RelD K w H d v) {kvs : List (D × D)} {gs : List (Key × V)} (h : RelK K w H kvs gs) : RelK K w H (dput kvs (keyOf q) d) (putK gs q v) := by
  unfold dput putK
  rw [any_k q h]
  split
  · exact map_k hv h
  · exact RelK.app hv h
theorem put_t {q : List Key} {d : D} {v : V} (hv : RelD K w H d v) {kvs : List (D × D)} {gs : List (List Key × V)} (h : RelT K w H kvs gs) : RelT K w H (dput kvs (.tup (q.map keyOf)) d) (putK gs q v) := by
  unfold dput putK
  rw [any_t q h]
  split
  · exact map_t hv h
  · exact RelT.app hv h
theorem drop_t {q : List Key} : ∀ {kvs : List (D × D)} {gs : List (List Key × V)}, RelT K w H kvs gs → RelT K w H (ddrop kvs (.tup (q.map keyOf))) (dropK gs q)
  | [], _, h => by
    rw [show _ = ([] : List (List Key × V)) from h]
    rfl
  | (k, d') :: kvs, _, h => by
    obtain ⟨p, v', gs, rfl, rfl, h1, h2⟩ := h
    have ih := drop_t (q := q) h2
    unfold ddrop dropK at ih ⊢
    by_cases e : p = q
    · rw [List.filter_cons_of_neg (by simp [eq_keys, e]), List.filter_cons_of_neg (by simp [e])]
      exact ih
    · rw [List.filter_cons_of_pos (by simp [eq_keys, e]), List.filter_cons_of_pos (by simp [e])]
      exact ⟨p, v', _, rfl, rfl, h1, ih⟩
/-- a key's value: the tuple that stands for it -/
theorem RelDs.keys : ∀ {q : List Key} {xs : List V}, RelDs K w H (q.map keyOf) xs → xs = q.map kV
  | [], _, h => h
  | .inl i :: q, _, h => by
    obtain ⟨v, vs, rfl, h1, h2⟩ := h
    rw [show v = .int i from h1, RelDs.keys h2]
    rfl
  | .inr i :: q, _, h => by
    obtain ⟨v, vs, rfl, h1, h2⟩ := h
    rw [show v = .str i from h1, RelDs.keys h2]
    rfl
theorem rel_key {q : Key} {v : V} (h : RelD K w H (keyOf q) v) : v = kV q := by
  cases q <;> exact h
/-- what the dict holds at the key -/
theorem dget_of {t : Bool} {kvs : List (D × D)} {k : D} {x y : V} (hx : LookR K w H (.dct t kvs) x) (hk : isKey t k = true) (hy : RelD K w H k y) :
    ∃ a, x = .ref a ∧ ((dfind kvs k = none ∧ DGet H a y none) ∨ ∃ d v, dfind kvs k = some d ∧ DGet H a y (some v) ∧ RelD K w H d v) := by
  cases t with
  | false =>
    obtain ⟨a, gs, rfl, h1, h2⟩ := hx
    obtain ⟨q, rfl⟩ := isKey_k hk
    have e := rel_key hy
    subst e
    refine ⟨a, rfl, ?_⟩
    rcases find_k q h2 with ⟨e1, e2⟩ | ⟨d, v, e1, e2, e3⟩
    · exact .inl ⟨e1, .inl ⟨gs, q, h1, rfl, e2.symm⟩⟩
    · exact .inr ⟨d, v, e1, .inl ⟨gs, q, h1, rfl, e2.symm⟩, e3⟩
  | true =>
    obtain ⟨a, gs, rfl, h1, h2⟩ := hx
    obtain ⟨q, rfl⟩ := isKey_t hk
    obtain ⟨b, xs, rfl, h3, h4⟩ := (show ∃ b xs, y = .ref b ∧ TupAt K w H b xs ∧ RelDs K w H (q.map keyOf) xs from hy)
    have e := RelDs.keys h4
    subst e
    refine ⟨a, rfl, ?_⟩
    rcases find_t q h2 with ⟨e1, e2⟩ | ⟨d, v, e1, e2, e3⟩
    · exact .inl ⟨e1, .inr ⟨gs, q, b, h1, rfl, h3, e2.symm⟩⟩
    · exact .inr ⟨d, v, e1, .inr ⟨gs, q, b, h1, rfl, h3, e2.symm⟩, e3⟩
end
/-! ### by values -/
section
variable {X : Cx}
open PyProof.Rows in
/-- d[k] -/
def rIxG : R2 := fun x y H Q => ∃ a v, x = .ref a ∧ DGet H a y (some v) ∧ Q v H
open PyProof.Rows in
theorem ix_dictG (hu : X.A.units + 1 < cLine) : IxR X rIxG := by
  intro value slice pins s σ H x y v u Q I rx ry h hs
  obtain ⟨p, r, rfl, g, q⟩ := h
  obtain rfl : v = Value.ref p := rx
  exact tail_any (dict_typeIs I g) PySem.F.slot_dict_getitem.lookup (d_getItem hu I g ry fun w' s' I' rw' => ⟨r, H, I', rw', q⟩) hs
def ixDct : D → D → Option RD
  | .dct t kvs, k => if isKey t k = true then (dfind kvs k).map .val else none
  | _, _ => none
theorem look_key {K : PySem.W.Frag} {w : Wd} {H : Hp} {t : Bool} {k : D} {y : V} (hk : isKey t k = true) (h : LookR K w H k y) : RelD K w H k y := by
  cases k with
  | int _ => exact h
  | str _ => exact h
  | tup _ => exact h
  | _ => cases t <;> cases hk
theorem ops_ixDct : OpS X rIxG ixDct := by
  intro w H σ S a b c x y Q rel ha hb e h
  cases a with
  | dct t kvs =>
    have e' : (if isKey t b = true then (dfind kvs b).map RD.val else none) = some c := e
    by_cases hk : isKey t b = true
    · rw [if_pos hk] at e'
      obtain ⟨d, e1, rfl⟩ := Option.map_eq_some_iff.mp e'
      obtain ⟨p, rfl, g⟩ := dget_of ha hk (look_key hk hb)
      rcases g with ⟨g1, _⟩ | ⟨d', v, g1, g2, g3⟩
      · rw [g1] at e1; cases e1
      · rw [g1] at e1
        cases e1
        exact ⟨p, v, rfl, g2, h w H v (Ext.refl _ _) rel g3⟩
    · rw [if_neg hk] at e'; cases e'
  | _ => cases e
/-- k in d -/
def rInG (neg : Bool) : R2 := fun x y H Q => ∃ a o, y = .ref a ∧ DGet H a x o ∧ Q (.bl (if neg then !o.isSome else o.isSome)) H
theorem opr_inG (hu : X.A.units + 1 < cLine) : OpR X (compareOp .In) (rInG false) := by
  intro pins s σ H x y v u Q I rx ry h
  obtain ⟨p, o, rfl, g, q⟩ := h
  obtain rfl : u = Value.ref p := ry
  exact d_in hu I g rx fun s' I' => ⟨.bl o.isSome, H, I', rfl, q⟩
theorem opr_ninG (hu : X.A.units + 1 < cLine) : OpR X (compareOp .NotIn) (rInG true) := by
  intro pins s σ H x y v u Q I rx ry h
  obtain ⟨p, o, rfl, g, q⟩ := h
  obtain rfl : u = Value.ref p := ry
  exact d_notIn hu I g rx fun s' I' => ⟨.bl (!o.isSome), H, I', rfl, q⟩
def inDct (k : D) : D → Option Bool
  | .dct t kvs => if isKey t k = true then some (dfind kvs k).isSome else none
  | _ => none
theorem inDct_of {neg : Bool} {w : Wd} {H : Hp} {a b : D} {x y : V} {c : Bool} {Q : VK} (ha : LookR X.K w H a x) (hb : LookR X.K w H b y) (e : inDct a b = some c) (q : Q (.bl (if neg then !c else c)) H) : rInG neg x y H Q := by
  cases b with
  | dct t kvs =>
    have e' : (if isKey t a = true then some (dfind kvs a).isSome else none) = some c := e
    by_cases hk : isKey t a = true
    · rw [if_pos hk] at e'
      cases e'
      obtain ⟨p, rfl, g⟩ := dget_of hb hk (look_key hk ha)
      rcases g with ⟨g1, g2⟩ | ⟨d', v, g1, g2, g3⟩
      · rw [g1] at q
        exact ⟨p, none, rfl, g2, q⟩
      · rw [g1] at q
        exact ⟨p, some v, rfl, g2, q⟩
    · rw [if_neg hk] at e'; cases e'
  | _ => cases e
/-- d[k] = v -/
def setDct : D → D → D → Option D
  | .dct t kvs, k, d => if isKey t k = true ∧ kvs.length < sizeLine then some (.dct t (dput kvs k d)) else none
  | _, _, _ => none
theorem call_lenG : CallR X (.builtin "len") (fun xs H Q => ∃ p, xs = [.ref p] ∧ ((∃ gs : List (Key × V), Rd H p (.dK gs) ∧ Q (.int ((gs.length : Nat) : Int)) H) ∨ ∃ gs : List (List Key × V), Rd H p (.dT gs) ∧ Q (.int ((gs.length : Nat) : Int)) H)) := by
  intro pins s σ H xs us Q I r h
  obtain ⟨p, rfl, h⟩ := h
  obtain ⟨u, rfl, rx⟩ := vals1 r
  obtain rfl : u = .ref p := rx
  rcases h with ⟨gs, hp, q⟩ | ⟨gs, hp, q⟩
  · exact d_len I hp fun t s' I' => ⟨.int gs.length, H, I', ⟨t, rfl⟩, q⟩
  · obtain ⟨z, hd, ys, rel, dd⟩ := dt_rd I.hok hp
    have hl : gs.length = ys.length := Paired.length rel
    refine call_len_dictH hd dd (by rw [← hl]; rw [sizeLine_eq] at z; omega) ?_
    rw [← hl]
    exact ⟨.int ((gs.length : Nat) : Int), H, I.tok _, ⟨_, rfl⟩, q⟩
/-- k in a thing, k not in it -/
def inA (a b : D) : Option Bool := match b with
  | .dct t kvs => inDct a (.dct t kvs)
  | b => inD a b
def inO (a b : D) : Option RD := (inA a b).map fun c => .val (.bl c)
def ninO (a b : D) : Option RD := (inA a b).map fun c => .val (.bl (!c))
theorem inA_or {a b : D} {c : Bool} (h : inA a b = some c) : inD a b = some c ∨ inDct a b = some c := by
  cases b with
  | dct t kvs => exact .inr h
  | _ => exact .inl h
theorem opr_in (hu : X.A.units + 64 < cLine) : OpR X (compareOp .In) (fun x y H Q => rInS X.K x y H Q ∨ rInG false x y H Q) := (opr_ins hu).or (opr_inG (by omega))
theorem opr_nin (hu : X.A.units + 64 < cLine) : OpR X (compareOp .NotIn) (fun x y H Q => rNinS X.K x y H Q ∨ rInG true x y H Q) := (opr_nins hu).or (opr_ninG (by omega))
theorem ops_in : OpS X (fun x y H Q => rInS X.K x y H Q ∨ rInG false x y H Q) inO := by
  intro w H σ S a b c x y Q rel ha hb e h
  obtain ⟨k, e1, rfl⟩ := Option.map_eq_some_iff.mp e
  rcases inA_or e1 with e1 | e1
  · exact .inl (ops_ins w H σ S a b _ x y Q rel ha hb (show (inD a b).map _ = _ by rw [e1]; rfl) h)
  · exact .inr (inDct_of (neg := false) ha hb e1 (h w H _ (Ext.refl _ _) rel rfl))
theorem ops_nin : OpS X (fun x y H Q => rNinS X.K x y H Q ∨ rInG true x y H Q) ninO := by
  intro w H σ S a b c x y Q rel ha hb e h
  obtain ⟨k, e1, rfl⟩ := Option.map_eq_some_iff.mp e
  rcases inA_or e1 with e1 | e1
  · exact .inl (ops_nins w H σ S a b _ x y Q rel ha hb (show (inD a b).map _ = _ by rw [e1]; rfl) h)
  · exact .inr (inDct_of (neg := true) ha hb e1 (h w H _ (Ext.refl _ _) rel rfl))
end
end HM

set_option Elab.async false
set_option linter.all false
set_option maxRecDepth 100000
set_option maxHeartbeats 4000000
namespace HM
open PySem PySem.Spec L2
/-! ### tests -/
def RB (w : Wd) (H : Hp) (a b : Bool) : Prop := b = a
def RX (w : Wd) (H : Hp) (a : Unit) (b : V) : Prop := True
theorem PT.imp {X : Cx} {e : Expr} {t t' : TT} (h : PT X e t) (i : ∀ σ H Q, t' σ H Q → t σ H Q) : PT X e t' := ⟨fun pins s σ H Q I q => h.run pins s σ H Q I (i σ H Q q)⟩
theorem PW.imp {X : Cx} {e : Expr} {t t' : TT} (h : PW X e t) (i : ∀ σ H Q, t' σ H Q → t σ H Q) : PW X e t' := ⟨fun wh pins s σ H Q I q => h.run wh pins s σ H Q I (i σ H Q q)⟩
theorem PA.imp {X : Cx} {es : List Expr} {t t' : TA} (h : PA X es t) (i : ∀ σ H Q, t' σ H Q → t σ H Q) : PA X es t' := ⟨fun ps pins s σ H Q I q => h.run ps pins s σ H Q I (i σ H Q q)⟩
theorem PO.imp {X : Cx} {e : Option Expr} {t t' : TO} (h : PO X e t) (i : ∀ σ H Q, t' σ H Q → t σ H Q) : PO X e t' := ⟨fun pins s σ H Q I q => h.run pins s σ H Q I (i σ H Q q)⟩
def ST (X : Cx) (e : Expr) (m : Mem → Res Bool) : Prop := ∀ W, Takes X W → PT X e (tG X.K RB m W)
def SW (X : Cx) (e : Expr) (m : Mem → Res Bool) : Prop := ∀ W, Takes X W → PW X e (tG X.K RB m W)
def SA (X : Cx) (es : List Expr) (m : Mem → Res (List D)) : Prop := ∀ W, Takes X W → PA X es (tG X.K (RelDs X.K) m W)
def RO (w : Wd) (H : Hp) (a b : Option Int) : Prop := b = a
def SO (X : Cx) (e : Option Expr) (m : Mem → Res (Option Int)) : Prop := ∀ W, Takes X W → PO X e (tG X.K RO m W)
def truD : D → Option Bool
  | .non => some false
  | .bl b => some b
  | .int i => some (i != 0)
  | .str s => if s.length ≤ sizeLine then some ((s.length : Int) != 0) else none
  | .lst ds => some (!ds.isEmpty)
  | .tup ds => some (!ds.isEmpty)
  | _ => none
section
variable {X : Cx} {a b c e : Expr} {ma mb mc : Mem → Res D} {pos : Pos}
theorem RelDs.isEmpty {K : PySem.W.Frag} {w : Wd} {H : Hp} {ds : List D} {xs : List V} (h : RelDs K w H ds xs) : xs.isEmpty = ds.isEmpty := by
  have := h.length
  cases ds <;> cases xs <;> simp_all
theorem tru_of {K : PySem.W.Frag} {w : Wd} {H : Hp} {d : D} {v : V} {k : Bool} (h : LookR K w H d v) (e : truD d = some k) : TruV K v H k := by
  cases d with
  | non => cases e; rw [show v = _ from h]; rfl
  | bl b => cases e; rw [show v = _ from h]; rfl
  | int i => cases e; rw [show v = _ from h]; rfl
  | str s =>
    rw [show v = _ from h]
    have e' : (if s.length ≤ sizeLine then some ((s.length : Int) != 0) else none) = some k := e
    by_cases hz : s.length ≤ sizeLine
    · rw [if_pos hz] at e'; cases e'; exact ⟨hz, rfl⟩
    · rw [if_neg hz] at e'; cases e'
  | lst ds =>
    cases e
    obtain ⟨p, xs, rfl, h1, h2⟩ := h
    exact .inl ⟨xs, .of h1, by rw [h2.isEmpty]⟩
  | tup ds =>
    cases e
    have h' : RelD K w H (.tup ds) v := h
    obtain ⟨p, xs, rfl, h1, h2⟩ := TupAt.rel h'
    exact .inr (.inl ⟨xs, h1, by rw [h2.isEmpty]⟩)
  | dct _ _ => cases e
  | obj _ _ => cases e
  | ref _ => cases e
  | cls _ => cases e
  | scr _ => cases e
  | lck _ => cases e
  | exn _ _ => cases e
def truM (m : Mem → Res D) : Mem → Res Bool := fun S => (m S).bind fun d S1 => ofO (truD d) S1
theorem st_truth (ha : SL X a ma) (he : ∀ whole, isTrue a X.env whole = (do let v ← whole; standAt a.pos; holding [v] (truthy v))) : ST X a (truM ma) := fun W tk =>
  PT.imp (pt_truth (ha W tk) he) fun σ H Q t => tG_bind t fun v H1 d S1 w1 rel q p => by
    cases et : truD d with
    | none => rw [et] at p; exact p.elim
    | some k =>
      rw [et] at p
      exact ⟨k, tru_of q et, p w1 H1 k (Ext.refl _ _) rel rfl⟩
/-- a comparison's truth -/
def bM (m : Mem → Res RD) : Mem → Res Bool := fun S => (m S).bind fun d S1 => match d with
  | .val (.bl k) => .ok k S1
  | _ => .bad
theorem tTest_of {K : PySem.W.Frag} {m : Mem → Res RD} {t : TE} {W : WX} (hm : ∀ σ H Q, tG K (ResR K) m W σ H Q → t σ H Q) {σ : L2.St} {H : Hp} {Q : Bool → Hp → Prop} (h : tG K RB (bM m) W σ H Q) : tTest t σ H Q :=
  hm σ H _ (tG_bind h fun v H1 r S1 w1 rel q p => by
    cases r with
    | own c => exact False.elim p
    | val d =>
      cases d with
      | bl k => exact ⟨k, q, p w1 H1 k (Ext.refl _ _) rel rfl⟩
      | _ => exact False.elim p)
theorem st_cmp {op : CmpOp} {r : R2} {g : D → D → Option RD} (hr : OpR X (compareOp op) r) (ho : OpS X r g) (ha : SV X a ma) (hb : SL X b mb) (hm : behindInMarks op b = false) : ST X (.Compare a [op] [b] pos) (bM (mBin g ma mb)) := fun W tk =>
  PT.imp (pt_cmpR hr (ha W tk) (hb W tk) hm) fun _ _ _ t => tTest_of (fun _ _ _ q => tOp_of ho q) t
/-- a op b op' c -/
def mChain (g g' : D → D → Option RD) (ma mb mc : Mem → Res D) : Mem → Res RD := fun S => (ma S).bind fun a S1 => (mb S1).bind fun b S2 => match (look S2.st a).bind fun a' => (look S2.st b).bind fun b' => g a' b' with
  | some (.val (.bl true)) => (mc S2).bind fun c S3 => ofO ((look S3.st b).bind fun b' => g' b' c) S3
  | some (.val (.bl false)) => .ok (.val (.bl false)) S2
  | _ => .bad
theorem tChain_of {r r' : R2} {g g' : D → D → Option RD} (ho : OpS X r g) (ho' : OpS X r' g') {W : WX} {σ : L2.St} {H : Hp} {Q : VK} (h : tG X.K (ResR X.K) (mChain g g' ma mb mc) W σ H Q) : tChain r r' (tG X.K (RelD X.K) ma W) (tG X.K (RelD X.K) mb W) (tG X.K (LookR X.K) mc W) σ H Q :=
  tG_bind h fun x H1 a S1 w1 rel1 q1 p1 => tG_of rel1 p1 fun y H2 b S2 w2 rel2 q2 ex p2 => by
    cases e : (look S2.st a).bind fun a' => (look S2.st b).bind fun b' => g a' b' with
    | none => rw [e] at p2; exact p2.elim
    | some c =>
      rw [e] at p2
      obtain ⟨a', ea, e1⟩ := Option.bind_eq_some_iff.mp e
      obtain ⟨b', eb, eg⟩ := Option.bind_eq_some_iff.mp e1
      refine ho w2 H2 σ S2 a' b' c x y _ rel2 (RelD.look rel2 (RelD.mono ex _ _ q1) ea) (RelD.look rel2 q2 eb) eg fun w3 H3 v ex3 rel3 q3 => ?_
      cases c with
      | own _ => exact p2.elim
      | val d =>
        cases d with
        | bl k =>
          refine ⟨k, q3, ?_⟩
          cases k with
          | false => exact p2 w3 H3 _ ex3 rel3 rfl
          | true =>
            rw [if_pos rfl]
            refine tG_of rel3 (postG.ext ex3 p2) fun z H4 d S4 w4 rel4 q4 ex4 p4 => ?_
            cases e5 : (look S4.st b).bind fun b' => g' b' d with
            | none => rw [e5] at p4; exact p4.elim
            | some c2 =>
              rw [e5] at p4
              obtain ⟨b2, eb2, eg2⟩ := Option.bind_eq_some_iff.mp e5
              exact ho' w4 H4 σ S4 b2 d c2 y z Q rel4 (RelD.look rel4 (RelD.mono ex4 _ _ (RelD.mono ex3 _ _ q2)) eb2) q4 eg2 p4
        | _ => exact p2.elim
theorem se_chain {op op' : CmpOp} {r r' : R2} {g g' : D → D → Option RD} (hr : OpR X (compareOp op) r) (ho : OpS X r g) (hr' : OpR X (compareOp op') r') (ho' : OpS X r' g') (ha : SV X a ma) (hb : SV X b mb) (hc : SL X c mc) (hm : lastMarks [op, op'] [b, c] = false) :
    SE X (.Compare a [op, op'] [b, c] pos) (mChain g g' ma mb mc) := fun W tk =>
  PE.imp (pe_chain hr hr' (ha W tk) (hb W tk) (hc W tk) hm) fun _ _ _ t => tChain_of ho ho' t
theorem st_chain {op op' : CmpOp} {r r' : R2} {g g' : D → D → Option RD} (hr : OpR X (compareOp op) r) (ho : OpS X r g) (hr' : OpR X (compareOp op') r') (ho' : OpS X r' g') (ha : SV X a ma) (hb : SV X b mb) (hc : SL X c mc) (hm : lastMarks [op, op'] [b, c] = false) :
    ST X (.Compare a [op, op'] [b, c] pos) (bM (mChain g g' ma mb mc)) := fun W tk =>
  PT.imp (pt_chain hr hr' (ha W tk) (hb W tk) (hc W tk) hm) fun _ _ _ t => tTest_of (fun _ _ _ q => tChain_of ho ho' q) t
/-! ### and, or, not, if .. else -/
variable {na nb : Mem → Res Bool} {rest : List Expr}
def mAnd (na nb : Mem → Res Bool) : Mem → Res Bool := fun S => (na S).bind fun k S1 => if k = true then nb S1 else .ok false S1
def mOr (na nb : Mem → Res Bool) : Mem → Res Bool := fun S => (na S).bind fun k S1 => if k = true then .ok true S1 else nb S1
def mNot (na : Mem → Res Bool) : Mem → Res Bool := fun S => (na S).bind fun k S1 => .ok (!k) S1
theorem sw_and1 (ha : ST X a na) : SW X (.BoolOp .And [a] pos) na := fun W tk => pw_and1 (ha W tk)
theorem sw_or1 (ha : ST X a na) : SW X (.BoolOp .Or [a] pos) na := fun W tk => pw_or1 (ha W tk)
theorem sw_and (ha : ST X a na) (hb : SW X (.BoolOp .And (b :: rest) pos) nb) : SW X (.BoolOp .And (a :: b :: rest) pos) (mAnd na nb) := fun W tk =>
  PW.imp (pw_and (ha W tk) (hb W tk)) fun σ H Q t => tG_bind t fun v H1 k S1 w1 rel q p => by
    cases q
    cases v with
    | true => exact ⟨w1, S1, rel, p⟩
    | false => exact p w1 H1 false (Ext.refl _ _) rel rfl
theorem sw_or (ha : ST X a na) (hb : SW X (.BoolOp .Or (b :: rest) pos) nb) : SW X (.BoolOp .Or (a :: b :: rest) pos) (mOr na nb) := fun W tk =>
  PW.imp (pw_or (ha W tk) (hb W tk)) fun σ H Q t => tG_bind t fun v H1 k S1 w1 rel q p => by
    cases q
    cases v with
    | true => exact p w1 H1 true (Ext.refl _ _) rel rfl
    | false => exact ⟨w1, S1, rel, p⟩
theorem SW.st (h : SW X a na) : ST X a na := fun W tk => (h W tk).pt
theorem st_not (ha : ST X a na) : ST X (.UnaryOp .Not a pos) (mNot na) := fun W tk =>
  PT.imp (pt_not (ha W tk)) fun σ H Q t => tG_bind t fun v H1 k S1 w1 rel q p => by
    cases q
    exact p w1 H1 (!v) (Ext.refl _ _) rel rfl
/-- as values -/
def mAndV (ma : Mem → Res D) (mb : Mem → Res RD) : Mem → Res RD := fun S => (ma S).bind fun d S1 => match (look S1.st d).bind truD with
  | some true => mb S1
  | some false => .ok (.val d) S1
  | none => .bad
def mOrV (ma : Mem → Res D) (mb : Mem → Res RD) : Mem → Res RD := fun S => (ma S).bind fun d S1 => match (look S1.st d).bind truD with
  | some true => .ok (.val d) S1
  | some false => mb S1
  | none => .bad
def mNotV (ma : Mem → Res D) : Mem → Res RD := fun S => (ma S).bind fun d S1 => ofO ((truD d).map fun k => .val (.bl (!k))) S1
theorem se_one {op : BoolOp} {m : Mem → Res RD} (ha : SE X a m) : SE X (.BoolOp op [a] pos) m := fun W tk => pe_one (ha W tk)
theorem se_and {m : Mem → Res RD} (ha : SV X a ma) (hb : SE X (.BoolOp .And (b :: rest) pos) m) : SE X (.BoolOp .And (a :: b :: rest) pos) (mAndV ma m) := fun W tk =>
  PE.imp (pe_andT (ha W tk) (hb W tk)) fun σ H Q t => tG_bind t fun v H1 d S1 w1 rel q p => by
    cases et : (look S1.st d).bind truD with
    | none => rw [et] at p; exact p.elim
    | some k =>
      rw [et] at p
      obtain ⟨d', e1, e2⟩ := Option.bind_eq_some_iff.mp et
      refine ⟨k, tru_of (RelD.look rel q e1) e2, ?_⟩
      cases k with
      | true => exact ⟨w1, S1, rel, p⟩
      | false => exact p w1 H1 v (Ext.refl _ _) rel q
theorem se_or {m : Mem → Res RD} (ha : SV X a ma) (hb : SE X (.BoolOp .Or (b :: rest) pos) m) : SE X (.BoolOp .Or (a :: b :: rest) pos) (mOrV ma m) := fun W tk =>
  PE.imp (pe_orT (ha W tk) (hb W tk)) fun σ H Q t => tG_bind t fun v H1 d S1 w1 rel q p => by
    cases et : (look S1.st d).bind truD with
    | none => rw [et] at p; exact p.elim
    | some k =>
      rw [et] at p
      obtain ⟨d', e1, e2⟩ := Option.bind_eq_some_iff.mp et
      refine ⟨k, tru_of (RelD.look rel q e1) e2, ?_⟩
      cases k with
      | true => exact p w1 H1 v (Ext.refl _ _) rel q
      | false => exact ⟨w1, S1, rel, p⟩
theorem se_not (ha : SL X a ma) : SE X (.UnaryOp .Not a pos) (mNotV ma) := fun W tk =>
  PE.imp (pe_notT (ha W tk)) fun σ H Q t => tG_bind t fun v H1 d S1 w1 rel q p => by
    cases et : truD d with
    | none => rw [et] at p; exact p.elim
    | some k =>
      rw [et] at p
      exact ⟨k, tru_of q et, p w1 H1 _ (Ext.refl _ _) rel rfl⟩
def mIf {t : Type} (nc : Mem → Res Bool) (ma mb : Mem → Res t) : Mem → Res t := fun S => (nc S).bind fun k S1 => if k = true then ma S1 else mb S1
theorem se_if {R : RR RD V} {ma mb : Mem → Res RD} (hc : ST X c na) (ha : SG X R a ma) (hb : SG X R b mb) : SG X R (.IfExp c a b pos) (mIf na ma mb) := fun W tk =>
  PE.imp (pe_ifExp (hc W tk) (ha W tk) (hb W tk)) fun σ H Q t => tG_bind t fun v H1 k S1 w1 rel q p => by
    cases q
    cases v with
    | true => exact ⟨w1, S1, rel, p⟩
    | false => exact ⟨w1, S1, rel, p⟩
/-! ### argument lists, displays -/
variable {es : List Expr} {ms : Mem → Res (List D)}
def mNil : Mem → Res (List D) := fun S => .ok [] S
def mCons (ma : Mem → Res D) (ms : Mem → Res (List D)) : Mem → Res (List D) := fun S => (ma S).bind fun d S1 => (ms S1).bind fun ds S2 => .ok (d :: ds) S2
theorem sa_nil : SA X [] mNil := fun W tk => PA.imp pa_nil fun σ H Q t => by
  obtain ⟨w, S, rel, p⟩ := t
  exact p w H [] (Ext.refl _ _) rel rfl
theorem sa_cons (ha : SV X a ma) (hr : SA X es ms) (hs : starEach (a :: es) X.env = (false, eval a X.env) :: starEach es X.env) : SA X (a :: es) (mCons ma ms) := fun W tk =>
  PA.imp (pa_cons (ha W tk) (hr W tk) hs) fun σ H Q t => tG_bind t fun v H1 d S1 w1 rel q p => tG_of rel p fun vs H2 ds S2 w2 rel2 q2 ex p2 =>
    p2 w2 H2 _ (Ext.refl _ _) rel2 ⟨v, vs, rfl, RelD.mono ex _ _ q, q2⟩
/-- *a, .. -/
def itemsD : D → Option (List D)
  | .lst ds => some ds
  | .tup ds => some ds
  | _ => none
theorem itemsD_of {K : PySem.W.Frag} {w : Wd} {H : Hp} {d : D} {v : V} {ds : List D} (h : LookR K w H d v) (e : itemsD d = some ds) : ∃ a xs, v = .ref a ∧ (SqT K H a xs ∨ SqL K H a xs) ∧ RelDs K w H ds xs := by
  cases d with
  | lst es =>
    cases e
    obtain ⟨p, xs, rfl, h1, h2⟩ := h
    exact ⟨p, xs, rfl, .inr (.of h1), h2⟩
  | tup es =>
    cases e
    have h' : RelD K w H (.tup ds) v := h
    obtain ⟨p, xs, rfl, h1, h2⟩ := TupAt.rel h'
    exact ⟨p, xs, rfl, .inl h1, h2⟩
  | _ => cases e
def mStar (ma : Mem → Res D) (ms : Mem → Res (List D)) : Mem → Res (List D) := fun S => (ma S).bind fun d S1 => match itemsD d with
  | some ds => (ms S1).bind fun es S2 => .ok (ds ++ es) S2
  | none => .bad
theorem sa_star {p : Pos} (ha : SL X a ma) (hr : SA X es ms) (hs : starEach (.Starred a p :: es) X.env = (true, eval a X.env) :: starEach es X.env) : SA X (.Starred a p :: es) (mStar ma ms) := fun W tk =>
  PA.imp (StX.pa_star (ha W tk) (hr W tk) hs) fun σ H Q t => tG_bind t fun v H1 d S1 w1 rel q pp => by
    cases ei : itemsD d with
    | none => rw [ei] at pp; exact pp.elim
    | some ds =>
      rw [ei] at pp
      obtain ⟨a, xs, e, hx, hr⟩ := itemsD_of q ei
      exact ⟨a, xs, e, hx, tG_of rel pp fun vs H2 es S2 w2 rel2 q2 ex p2 => p2 w2 H2 _ (Ext.refl _ _) rel2 ((RelDs.mono ex _ _ hr).append q2)⟩
def mTup (ms : Mem → Res (List D)) : Mem → Res RD := fun S => (ms S).bind fun ds S1 => if ds.length ≤ sizeLine then .ok (.val (.tup ds)) S1 else .bad
def mLst (ms : Mem → Res (List D)) : Mem → Res RD := fun S => (ms S).bind fun ds S1 => if ds.length ≤ sizeLine then .ok (.own (.lst ds)) S1 else .bad
theorem se_tup {k : Nat} (h : SA X es ms) : SE X (.Tuple es k pos) (mTup ms) := fun W tk =>
  PE.imp (pe_tup (h W tk)) fun σ H Q t => tG_bind t fun vs H1 ds S1 w1 rel q p => by
    by_cases hz : ds.length ≤ sizeLine
    · rw [if_pos hz] at p
      refine ⟨by rw [← q.length]; exact hz, fun t ht => ?_⟩
      obtain ⟨w', e1, e2, e3⟩ := rel.newTup ht q
      exact p _ _ _ e1 e2 e3
    · rw [if_neg hz] at p; exact p.elim
theorem se_lst (h : SA X es ms) : SE X (.List es pos) (mLst ms) := fun W tk =>
  PE.imp (pe_lst (h W tk)) fun σ H Q t => tG_bind t fun vs H1 ds S1 w1 rel q p => by
    by_cases hz : ds.length ≤ sizeLine
    · rw [if_pos hz] at p
      refine ⟨by rw [← q.length]; exact hz, fun t ht => ?_⟩
      obtain ⟨e1, e2, e3⟩ := rel.newOwn ht q
      exact p _ _ _ e1 e2 e3
    · rw [if_neg hz] at p; exact p.elim
/-! ### subscripts, slices -/
def ixD : D → D → Option RD
  | .lst ds, .int i => (atI ds i).map .val
  | .tup ds, .int i => (atI ds i).map .val
  | .str s, .int i => if s.length ≤ sizeLine then (atI s.cps.toList i).map fun c => .val (.str ⟨#[c]⟩) else none
  | _, _ => none
theorem RelDs.atI {K : PySem.W.Frag} {w : Wd} {H : Hp} {ds : List D} {xs : List V} {i : Int} {d : D} (h : RelDs K w H ds xs) (e : L2.atI ds i = some d) : ∃ v, L2.atI xs i = some v ∧ RelD K w H d v := by
  unfold L2.atI at e ⊢
  rw [← h.length]
  obtain ⟨j, e1, e2⟩ := Option.bind_eq_some_iff.mp e
  obtain ⟨v, e3, e4⟩ := h.get e2
  exact ⟨v, by rw [e1]; exact e3, e4⟩
theorem ops_ix : OpS X (rIx X.K) ixD := by
  intro w H σ S a b c x y Q rel ha hb e h
  cases a <;> cases b <;> try (exact nomatch (show (none : Option RD) = some c from e))
  case lst.int ds i =>
    obtain ⟨d, e1, rfl⟩ := Option.map_eq_some_iff.mp (show (atI ds i).map RD.val = some c from e)
    obtain ⟨p, xs, rfl, h1, h2⟩ := ha
    obtain ⟨v, e2, e3⟩ := h2.atI e1
    exact .inl ⟨p, xs, i, v, rfl, hb, .of h1, e2, h w H v (Ext.refl _ _) rel e3⟩
  case tup.int ds i =>
    obtain ⟨d, e1, rfl⟩ := Option.map_eq_some_iff.mp (show (atI ds i).map RD.val = some c from e)
    have ha' : RelD X.K w H (.tup ds) x := ha
    obtain ⟨p, xs, rfl, h1, h2⟩ := TupAt.rel ha'
    obtain ⟨v, e2, e3⟩ := h2.atI e1
    exact .inr (.inl ⟨p, xs, i, v, rfl, hb, h1, e2, h w H v (Ext.refl _ _) rel e3⟩)
  case str.int s i =>
    have e' : (if s.length ≤ sizeLine then (atI s.cps.toList i).map fun c => RD.val (.str ⟨#[c]⟩) else none) = some c := e
    by_cases hz : s.length ≤ sizeLine
    · rw [if_pos hz] at e'
      obtain ⟨d, e1, rfl⟩ := Option.map_eq_some_iff.mp e'
      exact .inr (.inr ⟨s, i, d, ha, hb, hz, e1, h w H _ (Ext.refl _ _) rel rfl⟩)
    · rw [if_neg hz] at e'; cases e'
/-! ### a name whose thing is only looked at, behind the rest -/
def hasS (S : Mem) (i : Nat) : Bool := match S.env[i]? with
  | some (.val _) => true
  | some (.own _) => true
  | _ => false
theorem has_of {K : PySem.W.Frag} {w : Wd} {H : Hp} {σ : L2.St} {S : Mem} {i : Nat} (rel : Rel K w H σ S) (e : hasS S i = true) : ∃ v, σ[i]? = some (some v) := by
  unfold hasS at e
  cases es : S.env[i]? with
  | none => rw [es] at e; cases e
  | some sl =>
    rw [es] at e
    cases sl with
    | none => cases e
    | val d => exact tVar_of rel es (fun q => nomatch q)
    | own d => exact tVar_of rel es (fun q => nomatch q)
/-- mPeek as an option -/
def peekO (i : Nat) (S : Mem) : Option D := match S.env[i]? with
  | some (.val d) => look S.st d
  | some (.own c) => some (unl c)
  | _ => none
theorem peekO_of {K : PySem.W.Frag} {w : Wd} {H : Hp} {σ : L2.St} {S : Mem} {i : Nat} {c : D} {v : V} (rel : Rel K w H σ S) (e : peekO i S = some c) (hv : σ[i]? = some (some v)) : LookR K w H c v := by
  unfold peekO at e
  cases es : S.env[i]? with
  | none => rw [es] at e; cases e
  | some sl =>
    rw [es] at e
    obtain ⟨ov, h1, h2⟩ := rel.slots i _ es
    rw [hv] at h1
    cases h1
    cases sl with
    | none => cases e
    | val d =>
      obtain ⟨v', h3, h4⟩ := h2
      cases h3
      exact RelD.look rel h4 e
    | own c' =>
      obtain ⟨a, h3, _, h4⟩ := h2
      cases h3
      cases e
      exact h4.look
def mBinV (g : D → D → Option RD) (i : Nat) (mb : Mem → Res D) : Mem → Res RD := fun S => if hasS S i = true then (mb S).bind fun b S1 => ofO ((peekO i S1).bind fun a => g a b) S1 else .bad
theorem tOpV_of {g : D → D → Option RD} {r : R2} {i : Nat} {W : WX} (ho : OpS X r g) {σ : L2.St} {H : Hp} {Q : VK} (h : tG X.K (ResR X.K) (mBinV g i mb) W σ H Q) : tOp r (tVar i) (tG X.K (LookR X.K) mb W) σ H Q := by
  obtain ⟨w, S, rel, p⟩ := h
  by_cases hs : hasS S i = true
  · obtain ⟨v, hv⟩ := has_of rel hs
    have p' : postG X.K (ResR X.K) w H σ W Q ((mb S).bind fun b S1 => ofO ((peekO i S1).bind fun a => g a b) S1) := by
      have : mBinV g i mb S = _ := if_pos hs
      rw [this] at p
      exact p
    refine ⟨v, hv, tG_of rel p' fun y H2 b S2 w2 rel2 q2 ex p2 => ?_⟩
    cases e : (peekO i S2).bind fun a' => g a' b with
    | none => rw [e] at p2; exact p2.elim
    | some c =>
      rw [e] at p2
      obtain ⟨a', ea, eg⟩ := Option.bind_eq_some_iff.mp e
      exact ho w2 H2 σ S2 a' b c v y Q rel2 (peekO_of rel2 ea hv) q2 eg p2
  · have : mBinV g i mb S = .bad := if_neg hs
    rw [this] at p
    exact p.elim
/-- how a left operand stands: a name (held), or a value -/
inductive Lf where
  | nm (i : Nat) | ex (m : Mem → Res D)
def mBinL (g : D → D → Option RD) (l : Lf) (mb : Mem → Res D) : Mem → Res RD := match l with
  | .nm i => mBinV g i mb
  | .ex m => mBin g m mb
def LfR (X : Cx) (e : Expr) : Lf → Prop
  | .nm i => PE X e (tVar i)
  | .ex m => SV X e m
theorem lf_bin {g : D → D → Option RD} {r : R2} {l : Lf} (hl : LfR X a l) (ho : OpS X r g) (W : WX) (tk : Takes X W) : ∃ t, PE X a t ∧ ∀ σ H Q, tG X.K (ResR X.K) (mBinL g l mb) W σ H Q → tOp r t (tG X.K (LookR X.K) mb W) σ H Q := by
  cases l with
  | nm i => exact ⟨_, hl, fun _ _ _ q => tOpV_of ho q⟩
  | ex m => exact ⟨_, hl W tk, fun _ _ _ q => tOp_of ho q⟩
section
variable {g : D → D → Option RD} {r : R2} {l : Lf}
theorem sl_bin {op : Operator} (hr : OpR X (binaryOp op) r) (ho : OpS X r g) (hl : LfR X a l) (hb : SL X b mb) : SE X (.BinOp a op b pos) (mBinL g l mb) := fun W tk => by
  obtain ⟨t, h1, h2⟩ := lf_bin (mb := mb) hl ho W tk
  exact PE.imp (pe_op hr h1 (hb W tk)) h2
theorem sl_cmp {op : CmpOp} (hr : OpR X (compareOp op) r) (ho : OpS X r g) (hl : LfR X a l) (hb : SL X b mb) (hm : behindInMarks op b = false) : SE X (.Compare a [op] [b] pos) (mBinL g l mb) := fun W tk => by
  obtain ⟨t, h1, h2⟩ := lf_bin (mb := mb) hl ho W tk
  exact PE.imp (pe_cmpR hr h1 (hb W tk) hm) h2
theorem stl_cmp {op : CmpOp} (hr : OpR X (compareOp op) r) (ho : OpS X r g) (hl : LfR X a l) (hb : SL X b mb) (hm : behindInMarks op b = false) : ST X (.Compare a [op] [b] pos) (bM (mBinL g l mb)) := fun W tk => by
  obtain ⟨t, h1, h2⟩ := lf_bin (mb := mb) hl ho W tk
  exact PT.imp (pt_cmpR hr h1 (hb W tk) hm) fun _ _ _ t => tTest_of h2 t
theorem sl_ix (hr : IxR X r) (ho : OpS X r g) (hl : LfR X a l) (hb : SL X b mb) (hs : PlainIx b) : SE X (.Subscript a b pos) (mBinL g l mb) := fun W tk => by
  obtain ⟨t, h1, h2⟩ := lf_bin (mb := mb) hl ho W tk
  exact PE.imp (pe_ix hr h1 (hb W tk) hs) h2
end
/-! ### slices -/
def mNoPart : Mem → Res (Option Int) := fun S => .ok none S
def mPart (m : Mem → Res D) : Mem → Res (Option Int) := fun S => (m S).bind fun d S1 => match d with
  | .int i => .ok (some i) S1
  | _ => .bad
theorem so_none : SO X none mNoPart := fun W tk => PO.imp po_none fun σ H Q t => by
  obtain ⟨w, S, rel, p⟩ := t
  exact p w H none (Ext.refl _ _) rel rfl
theorem so_some (h : SL X e ma) : SO X (some e) (mPart ma) := fun W tk => PO.imp (po_some (h W tk)) fun σ H Q t => tG_bind t fun v H1 d S1 w1 rel q p => by
  cases d with
  | int i => exact ⟨i, q, p w1 H1 (some i) (Ext.refl _ _) rel rfl⟩
  | _ => exact p.elim
def cutD (xs : List D) (lo hi : Option Int) : List D := (xs.drop (HT.sIx xs.length 0 lo)).take (HT.sIx xs.length xs.length hi - HT.sIx xs.length 0 lo)
theorem RelDs.cut {K : PySem.W.Frag} {w : Wd} {H : Hp} {ds : List D} {xs : List V} (h : RelDs K w H ds xs) (lo hi : Option Int) : RelDs K w H (cutD ds lo hi) (cutV xs lo hi) := by
  unfold cutD cutV
  rw [h.length]
  exact (h.drop _).take _
def slD (lo hi : Option Int) : D → Option RD
  | .lst ds => some (.own (.lst (cutD ds lo hi)))
  | .scr ns => some (.own (.lst (cutD (ns.map .int) lo hi)))
  | .tup ds => some (.val (.tup (cutD ds lo hi)))
  | _ => none
def rSlD (K : PySem.W.Frag) : V → Option Int → Option Int → Hp → VK → Prop := fun x lo hi H Q => rSlT K x lo hi H Q ∨ rSlL K x lo hi H Q
theorem sl_d : SlR X (rSlD X.K) := sl_tup.or sl_list
theorem RelDs.ints {K : PySem.W.Frag} {w : Wd} {H : Hp} : ∀ ns : List Int, RelDs K w H (ns.map .int) (ns.map V.int)
  | [] => rfl
  | n :: ns => ⟨_, _, rfl, rfl, RelDs.ints ns⟩
theorem scr_seq {K : PySem.W.Frag} {w : Wd} {H : Hp} {ns : List Int} {x : V} (h : RelD K w H (.scr ns) x) : ∃ a, x = .ref a ∧ SqL K H a (ns.map V.int) := by
  obtain ⟨a, rfl, h | ⟨o, its, n, h1, h2, h3, h4, h5, h6⟩⟩ := h
  · exact ⟨a, rfl, .inl h.2⟩
  · exact ⟨a, rfl, .inr ⟨o, its, n, h1, h2, h3, h4, h5, h6⟩⟩
end
end HM

set_option Elab.async false
set_option linter.all false
set_option maxRecDepth 100000
set_option maxHeartbeats 4000000
namespace HM
open PySem PySem.Spec L2
/-! ### a thing that may be changed, by its name -/
def thing (i : Nat) (S : Mem) : Option D := match S.env[i]? with
  | some (.own c) => nl c
  | some (.val (.ref n)) => (S.st[n]?).bind nl
  | _ => none
def putThing (i : Nat) (c : D) (S : Mem) : Mem := match S.env[i]? with
  | some (.own _) => { S with env := S.env.set i (.own c) }
  | some (.val (.ref n)) => { S with st := S.st.set n c }
  | _ => S
section
variable {K : PySem.W.Frag} {w : Wd} {H : Hp} {σ : L2.St} {S : Mem}
theorem Ext.upd {a : Addr} {r : Role} (hr : w.role a = some r) (h1 : r ≠ .frz) (h2 : r ≠ .out) {c : D} (hc : Cont K w H a c) (o : HO) : Ext w H w (L2.upd H a o) :=
  ⟨⟨fun b h => ⟨h, .inl (upd_ne fun z => by rw [z, hr] at h; exact h1 (Option.some.inj h))⟩, fun n h => ⟨rfl, h⟩, tup_upd hc.noTup⟩, fun b h => ⟨h, upd_ne fun z => by rw [z, hr] at h; exact h2 (Option.some.inj h)⟩, lok_upd hc.noFrz⟩
theorem there_upd {a b : Addr} {o : HO} (h : H b ≠ none) : L2.upd H a o b ≠ none := by
  by_cases e : b = a
  · rw [e, upd_same]; simp
  · rw [upd_ne e]; exact h
theorem Rel.mutCell (rel : Rel K w H σ S) {n : Nat} {c : D} (e : S.st[n]? = some c) (hc0 : Cont K w H (w.addr n) c) (o' : HO) (c' : D) (hc : ContL K w (L2.upd H (w.addr n) o') (w.addr n) c') : Rel K w (L2.upd H (w.addr n) o') σ { S with st := S.st.set n c' } := by
  obtain ⟨hr, _⟩ := rel.cells n c e
  have ex := Ext.upd (w := w) (H := H) hr (by simp) (by simp) hc0 o'
  refine ⟨rel.len, fun j sl hj => ?_, fun m d hm => ?_, fun m hm => ?_, fun b r hb => there_upd (rel.trk b r hb)⟩
  · obtain ⟨ov, h1, h2⟩ := rel.slots j sl hj
    exact ⟨ov, h1, h2.mono ex fun a' _ _ _ hb => ⟨hb, upd_ne fun z => by rw [z, hr] at hb; cases hb⟩⟩
  · have hm' : (S.st.set n c')[m]? = some d := hm
    by_cases em : m = n
    · subst em
      rw [List.getElem?_set_self (List.getElem?_eq_some_iff.mp e).1] at hm'
      cases hm'
      exact ⟨hr, hc⟩
    · rw [List.getElem?_set_ne (Ne.symm em)] at hm'
      obtain ⟨k1, k2⟩ := rel.cells m d hm'
      refine ⟨k1, k2.mono ex (upd_ne fun z => ?_)⟩
      rw [z, hr] at k1
      cases k1
      exact em rfl
  · show m < (S.st.set n c').length
    rw [List.length_set]
    exact rel.live m hm
theorem Rel.mutSlot (rel : Rel K w H σ S) {i : Nat} {c : D} {a : Addr} (e : S.env[i]? = some (.own c)) (hv : σ[i]? = some (some (.ref a))) (hr : w.role a = some (.slot i)) (hc0 : Cont K w H a c) (o' : HO) (c' : D) (hc : ContL K w (L2.upd H a o') a c') : Rel K w (L2.upd H a o') σ { S with env := S.env.set i (.own c') } := by
  have ex := Ext.upd (w := w) (H := H) hr (by simp) (by simp) hc0 o'
  refine ⟨by show _ = (S.env.set i (.own c')).length; rw [List.length_set]; exact rel.len, fun j sl hj => ?_, fun m d hm => ?_, fun m hm => rel.live m hm, fun b r hb => there_upd (rel.trk b r hb)⟩
  · have hj' : (S.env.set i (.own c'))[j]? = some sl := hj
    by_cases ej : j = i
    · subst ej
      rw [List.getElem?_set_self (List.getElem?_eq_some_iff.mp e).1] at hj'
      cases hj'
      exact ⟨_, hv, a, rfl, hr, hc⟩
    · rw [List.getElem?_set_ne (Ne.symm ej)] at hj'
      obtain ⟨ov, h1, h2⟩ := rel.slots j sl hj'
      refine ⟨ov, h1, h2.mono ex fun a' _ _ _ hb => ⟨hb, upd_ne fun z => ?_⟩⟩
      rw [z, hr] at hb
      cases hb
      exact ej rfl
  · obtain ⟨k1, k2⟩ := rel.cells m d hm
    refine ⟨k1, k2.mono ex (upd_ne fun z => ?_)⟩
    rw [z, hr] at k1
    cases k1
theorem Rel.mut (rel : Rel K w H σ S) {i : Nat} {c : D} (e : thing i S = some c) : ∃ a, σ[i]? = some (some (.ref a)) ∧ Cont K w H a c ∧ (∀ o', Ext w H w (L2.upd H a o')) ∧ ∀ o' c', ContL K w (L2.upd H a o') a c' → Rel K w (L2.upd H a o') σ (putThing i c' S) := by
  unfold thing at e
  unfold putThing
  cases es : S.env[i]? with
  | none => rw [es] at e; cases e
  | some sl =>
    rw [es] at e
    obtain ⟨ov, h1, h2⟩ := rel.slots i _ es
    cases sl with
    | none => cases e
    | own c' =>
      obtain ⟨a, rfl, hr, hc⟩ := h2
      obtain ⟨rfl, hc⟩ := hc.nl (show nl c' = some c from e)
      exact ⟨a, h1, hc, fun o' => Ext.upd hr (by simp) (by simp) hc o', fun o' c' h => rel.mutSlot es h1 hr hc o' c' h⟩
    | val d =>
      cases d with
      | ref n =>
        obtain ⟨v, rfl, hv, hr⟩ := h2
        obtain ⟨c', e1, e2⟩ := Option.bind_eq_some_iff.mp (show (S.st[n]?).bind nl = some c from e)
        obtain ⟨k1, k2⟩ := rel.cells n c' e1
        obtain ⟨rfl, k2⟩ := k2.nl e2
        subst hv
        exact ⟨w.addr n, h1, k2, fun o' => Ext.upd k1 (by simp) (by simp) k2 o', fun o' c' h => rel.mutCell e1 k2 o' c' h⟩
      | _ => cases e
end
/-- a method that changes its receiver -/
def MutS (X : Cx) (r : V → List V → Hp → VK → Prop) (g : D → List D → Option (D × RD)) : Prop := ∀ (w : Wd) (H : Hp) (a : Addr) (c : D) (ds : List D) (vs : List V) (c' : D) (rd : RD) (Q : VK), Cont X.K w H a c → RelDs X.K w H ds vs → (∀ o', Ext w H w (upd H a o')) → g c ds = some (c', rd) →
  (∀ o' v, Cont X.K w (upd H a o') a c' → ResR X.K w (upd H a o') rd v → Q v (upd H a o')) → r (.ref a) vs H Q
def isL : D → Bool
  | .lst _ => true
  | _ => false
def isDc : D → Bool
  | .dct _ _ => true
  | _ => false
def tyOk (T : String) (d : D) : Bool := (T == "list" && isL d) || (T == "dict" && isDc d)
theorem tyV_cont {K : PySem.W.Frag} {w : Wd} {H : Hp} {a : Addr} {c : D} {T : String} (h : Cont K w H a c) (e : tyOk T c = true) : tyV K T (.ref a) H := by
  unfold tyOk at e
  cases c with
  | lst ds =>
    obtain ⟨xs, h1, h2⟩ := h
    refine .inl ⟨?_, xs, .of h1⟩
    simpa [isL, isDc] using e
  | dct t ds =>
    refine .inr (.inr (.inl ⟨by simpa [isL, isDc] using e, ?_⟩))
    cases t with
    | false => obtain ⟨gs, h1, _⟩ := h; exact .inl ⟨gs, h1⟩
    | true => obtain ⟨gs, h1, _⟩ := h; exact .inr ⟨gs, h1⟩
  | _ => exact absurd e (by simp [isL, isDc])
def mMut (T : String) (g : D → List D → Option (D × RD)) (i : Nat) (ms : Mem → Res (List D)) : Mem → Res RD := fun S => match thing i S with
  | some c => if tyOk T c = true then (ms S).bind fun ds S1 => (match (thing i S1).bind fun c1 => g c1 ds with
    | some (c2, rd) => .ok rd (putThing i c2 S1)
    | none => .bad) else .bad
  | none => .bad
section
variable {X : Cx} {e : Expr} {es : List Expr} {ms : Mem → Res (List D)} {ma : Mem → Res D} {pos : Pos}
theorem tMut_of {T : String} {r : V → List V → Hp → VK → Prop} {g : D → List D → Option (D × RD)} {i : Nat} {W : WX} (hg : MutS X r g) {t : TA} (ht : ∀ σ H Q, tG X.K (RelDs X.K) ms W σ H Q → t σ H Q)
    {σ : L2.St} {H : Hp} {Q : VK} (h : tG X.K (ResR X.K) (mMut T g i ms) W σ H Q) : tBM X.K T r (tVar i) t σ H Q := by
  obtain ⟨w, S, rel, p⟩ := h
  have p0 : postG X.K (ResR X.K) w H σ W Q (match thing i S with
    | some c => if tyOk T c = true then (ms S).bind fun ds S1 => (match (thing i S1).bind fun c1 => g c1 ds with
      | some (c2, rd) => .ok rd (putThing i c2 S1)
      | none => .bad) else .bad
    | none => .bad) := p
  cases et : thing i S with
  | none => rw [et] at p0; exact p0.elim
  | some c =>
    rw [et] at p0
    obtain ⟨a, hv, hc, _, _⟩ := rel.mut et
    have p1 : postG X.K (ResR X.K) w H σ W Q (if tyOk T c = true then (ms S).bind fun ds S1 => (match (thing i S1).bind fun c1 => g c1 ds with
      | some (c2, rd) => .ok rd (putThing i c2 S1)
      | none => .bad) else .bad) := p0
    by_cases hty : tyOk T c = true
    · rw [if_pos hty] at p1
      refine ⟨.ref a, hv, tyV_cont hc hty, ht σ H _ (tG_of rel p1 fun vs H1 ds S1 w1 rel1 q1 ex p2 => ?_)⟩
      cases eg : (thing i S1).bind fun c1 => g c1 ds with
      | none => rw [eg] at p2; exact p2.elim
      | some cr =>
        obtain ⟨c2, rd⟩ := cr
        rw [eg] at p2
        obtain ⟨c1, e1, e2⟩ := Option.bind_eq_some_iff.mp eg
        obtain ⟨a', hv', hc', hx', hr'⟩ := rel1.mut e1
        rw [hv] at hv'
        have ea : a = a' := by injection hv' with q; injection q with q; injection q
        subst ea
        exact hg w1 H1 a c1 ds vs c2 rd Q hc' q1 hx' e2 fun o' v k1 k2 => p2 w1 _ v (hx' o') (hr' o' c2 (.of k1)) k2
    · rw [if_neg hty] at p1; exact p1.elim
theorem sm_mut0 {T id : String} {name x : Str} {i : Nat} {apos cpos xp : Pos} {r : V → List V → Hp → VK → Prop} {g : D → List D → Option (D × RD)} (pa : PlainAttrs T) (slot : PySem.Slot T name id) (hty : typeOf (.builtin id) = pure (.type "method_descriptor")) (hm : MtR X id r) (hg : MutS X r g)
    (ho : PE X (.Name x xp) (tVar i)) (hbase : attributeBase (.Name x xp) name X.env (eval (.Name x xp) X.env) = eval (.Name x xp) X.env) (hline : (apos.endLine == cpos.line) = true) : SE X (.Call (.Attribute (.Name x xp) name apos) [] [] cpos) (mMut T g i mNil) := fun W tk =>
  PE.imp (pe_bm0 pa slot hty hm ho hbase hline) fun σ H Q t => by
    have h := tMut_of (T := T) (i := i) (t := tNil) hg (fun σ H Q q => by
      obtain ⟨w, S, rel, p⟩ := q
      exact p w H [] (Ext.refl _ _) rel rfl) t
    exact h
theorem sm_mut {T id : String} {name x : Str} {i : Nat} {apos cpos xp : Pos} {r : V → List V → Hp → VK → Prop} {g : D → List D → Option (D × RD)} (pa : PlainAttrs T) (slot : PySem.Slot T name id) (hty : typeOf (.builtin id) = pure (.type "method_descriptor")) (hm : MtR X id r) (hg : MutS X r g)
    (ho : PE X (.Name x xp) (tVar i)) (ha : SA X (e :: es) ms) (hbase : attributeBase (.Name x xp) name X.env (eval (.Name x xp) X.env) = eval (.Name x xp) X.env)
    (hfew : ((backTo cpos (starEach (e :: es) X.env)).all (fun x => !x.1) && (backToKw cpos (keywordEach [] X.env)).all (fun x => x.1.isSome)
      && decide ((e :: es).length + ([] : List Keyword).length + (if ([] : List Keyword).isEmpty then 0 else 1) < 30)) = true)
    (hline : (apos.endLine == cpos.line) = true) (hs : starEach (e :: es) X.env = (false, eval e X.env) :: starEach es X.env) (hplain : (backTo cpos (starEach es X.env)).any (·.1) = false) :
    SE X (.Call (.Attribute (.Name x xp) name apos) (e :: es) [] cpos) (mMut T g i ms) := fun W tk =>
  PE.imp (pe_bm pa slot hty hm ho (ha W tk) hbase hfew hline hs hplain) fun σ H Q t => tMut_of hg (fun _ _ _ q => q) t
end
/-! ### methods of lists -/
def appendD : D → List D → Option (D × RD)
  | .lst xs, [d] => if xs.length < sizeLine then some (.lst (xs ++ [d]), .val .non) else none
  | _, _ => none
def popAtD : D → List D → Option (D × RD)
  | .lst xs, [.int i] => match L2.ixN xs.length i with
    | some k => match xs[k]? with
      | some d => if -(2 ^ 63) ≤ i ∧ i < 2 ^ 63 then some (.lst (xs.eraseIdx k), .val d) else none
      | none => none
    | none => none
  | _, _ => none
def popD : D → List D → Option (D × RD)
  | .lst xs, [] => match xs[xs.length - 1]? with
    | some d => some (.lst xs.dropLast, .val d)
    | none => none
  | _, _ => none
def clearD : D → List D → Option (D × RD)
  | .lst xs, [] => some (.lst [], .val .non)
  | _, _ => none
def revD : D → List D → Option (D × RD)
  | .lst xs, [] => some (.lst xs.reverse, .val .non)
  | _, _ => none
def insertD : D → List D → Option (D × RD)
  | .lst xs, [.int i, d] => if xs.length < sizeLine ∧ 0 ≤ i ∧ i < 2 ^ 63 then some (.lst (xs.take i.toNat ++ [d] ++ xs.drop i.toNat), .val .non) else none
  | _, _ => none
theorem RelDs.inv1 {K : PySem.W.Frag} {w : Wd} {H : Hp} {d : D} {vs : List V} (h : RelDs K w H [d] vs) : ∃ v, vs = [v] ∧ RelD K w H d v := by
  obtain ⟨v, r, rfl, h1, h2⟩ := h
  rw [show r = [] from h2]
  exact ⟨v, rfl, h1⟩
theorem RelDs.inv2 {K : PySem.W.Frag} {w : Wd} {H : Hp} {d e : D} {vs : List V} (h : RelDs K w H [d, e] vs) : ∃ v u, vs = [v, u] ∧ RelD K w H d v ∧ RelD K w H e u := by
  obtain ⟨v, r, rfl, h1, h2⟩ := h
  obtain ⟨u, rfl, h3⟩ := RelDs.inv1 h2
  exact ⟨v, u, rfl, h1, h3⟩
theorem RelDs.dropLast {K : PySem.W.Frag} {w : Wd} {H : Hp} {ds : List D} {xs : List V} (h : RelDs K w H ds xs) : RelDs K w H ds.dropLast xs.dropLast := by
  rw [List.dropLast_eq_take, List.dropLast_eq_take, h.length]
  exact h.take _
theorem Cont.newL {K : PySem.W.Frag} {w : Wd} {H : Hp} {a : Addr} {ds : List D} {xs : List V} (ex : ∀ o', Ext w H w (upd H a o')) (h : RelDs K w H ds xs) : Cont K w (upd H a (.lst xs)) a (.lst ds) := ⟨xs, upd_same, RelDs.mono (ex _) _ _ h⟩
section
variable {X : Cx}
theorem mu_append : MutS X rAppend appendD := by
  intro w H a c ds vs c' rd Q hc hd ex e h
  unfold appendD at e
  split at e
  · rename_i xs d
    split at e
    · rename_i hz
      cases e
      obtain ⟨ys, h1, h2⟩ := hc
      obtain ⟨v, rfl, h3⟩ := hd.inv1
      exact ⟨a, ys, v, rfl, rfl, h1, by rw [← h2.length]; exact hz, h _ _ (Cont.newL ex (h2.append (.one h3))) rfl⟩
    · cases e
  · cases e
theorem mu_popAt : MutS X rPopAt popAtD := by
  intro w H a c ds vs c' rd Q hc hd ex e h
  unfold popAtD at e
  split at e
  · rename_i xs i
    split at e
    · rename_i k ek
      split at e
      · rename_i d ed
        split at e
        · rename_i hz
          cases e
          obtain ⟨ys, h1, h2⟩ := hc
          obtain ⟨v, rfl, h3⟩ := hd.inv1
          obtain ⟨u, e1, e2⟩ := h2.get ed
          rw [show v = .int i from h3]
          obtain ⟨k1, k2, k3, k4⟩ := L2.ixN_seq ek
          exact ⟨a, ys, i, k, u, rfl, rfl, h1, hz.1, hz.2, by rw [← h2.length]; exact k1, e1, h _ _ (Cont.newL ex (h2.erase k)) (RelD.mono (ex _) _ _ e2)⟩
        · cases e
      · cases e
    · cases e
  · cases e
theorem mu_pop : MutS X rPop popD := by
  intro w H a c ds vs c' rd Q hc hd ex e h
  unfold popD at e
  split at e
  · rename_i xs
    split at e
    · rename_i d ed
      cases e
      obtain ⟨ys, h1, h2⟩ := hc
      obtain ⟨u, e1, e2⟩ := h2.get ed
      rw [show vs = [] from hd]
      exact ⟨a, ys, u, rfl, rfl, h1, by rw [← h2.length]; exact e1, h _ _ (Cont.newL ex h2.dropLast) (RelD.mono (ex _) _ _ e2)⟩
    · cases e
  · cases e
theorem mu_clear : MutS X rClear clearD := by
  intro w H a c ds vs c' rd Q hc hd ex e h
  unfold clearD at e
  split at e
  · cases e
    obtain ⟨ys, h1, h2⟩ := hc
    rw [show vs = [] from hd]
    exact ⟨a, ys, rfl, rfl, h1, h _ _ (Cont.newL ex rfl) rfl⟩
  · cases e
theorem mu_rev : MutS X rReverse revD := by
  intro w H a c ds vs c' rd Q hc hd ex e h
  unfold revD at e
  split at e
  · cases e
    obtain ⟨ys, h1, h2⟩ := hc
    rw [show vs = [] from hd]
    exact ⟨a, ys, rfl, rfl, h1, h _ _ (Cont.newL ex h2.reverse) rfl⟩
  · cases e
def rInsert : V → List V → Hp → VK → Prop := fun x vs H Q => ∃ (l : Addr) (xs : List V) (i : Int) (y : V), x = .ref l ∧ vs = [.int i, y] ∧ H l = some (.lst xs) ∧ xs.length < sizeLine ∧ 0 ≤ i ∧ i < 2 ^ 63 ∧
    Q .non (upd H l (.lst (xs.take i.toNat ++ [y] ++ xs.drop i.toNat)))
theorem mu_insert : MutS X rInsert insertD := by
  intro w H a c ds vs c' rd Q hc hd ex e h
  unfold insertD at e
  split at e
  · rename_i xs i d
    split at e
    · rename_i hz
      cases e
      obtain ⟨ys, h1, h2⟩ := hc
      obtain ⟨v, u, rfl, h3, h4⟩ := hd.inv2
      rw [show v = .int i from h3]
      exact ⟨a, ys, i, u, rfl, rfl, h1, by rw [← h2.length]; exact hz.1, hz.2.1, hz.2.2, h _ _ (Cont.newL ex (((h2.take _).append (.one h4)).append (h2.drop _))) rfl⟩
    · cases e
  · cases e
/-! ### a thing's item is set -/
def SetS (X : Cx) (t : TSet) (g : D → D → D → Option D) : Prop := ∀ (w : Wd) (H : Hp) (a : Addr) (c i d c' : D) (y v : V) (Q : Hp → Prop), Cont X.K w H a c → RelD X.K w H i y → RelD X.K w H d v → (∀ o', Ext w H w (upd H a o')) → g c i d = some c' →
  (∀ o', Cont X.K w (upd H a o') a c' → Q (upd H a o')) → t (.ref a) y v H Q
def setLD : D → D → D → Option D
  | .lst xs, .int i, d => (L2.ixN xs.length i).map fun k => .lst (xs.set k d)
  | .dct t kvs, k, d => setDct (.dct t kvs) k d
  | _, _, _ => none
theorem PSet.or {t t' : TSet} (h : PSet X t) (h' : PSet X t') : PSet X fun o i v H Q => t o i v H Q ∨ t' o i v H Q := by
  intro pins s σ H o i v ov iv u Q I ro ri rv q
  rcases q with q | q
  · exact h pins s σ H o i v ov iv u Q I ro ri rv q
  · exact h' pins s σ H o i v ov iv u Q I ro ri rv q
theorem set_any (hu : X.A.units + 1 < cLine) : PSet X (fun o i v H Q => rSetL o i v H Q ∨ rSetD o i v H Q) := PSet.or set_list (set_dict hu)
theorem se_setL : SetS X (fun o i v H Q => rSetL o i v H Q ∨ rSetD o i v H Q) setLD := by
  intro w H a c i d c' y v Q hc hi hd ex e h
  unfold setLD at e
  split at e
  · rename_i xs k
    obtain ⟨j, ej, rfl⟩ := Option.map_eq_some_iff.mp e
    obtain ⟨ys, h1, h2⟩ := hc
    rw [show y = .int k from hi]
    exact .inl ⟨a, ys, k, j, rfl, rfl, h1, by rw [← h2.length]; exact ej, h _ (Cont.newL ex (h2.set j hd))⟩
  · rename_i t kvs
    unfold setDct at e
    by_cases hk : isKey t i = true ∧ kvs.length < sizeLine
    · simp only [if_pos hk] at e
      cases e
      cases t with
      | false =>
        obtain ⟨gs, h1, h2⟩ := hc
        obtain ⟨q, rfl⟩ := isKey_k hk.1
        rw [rel_key hi]
        exact .inr ⟨a, _, rfl, DPut.k h1 (by rw [← h2.len]; exact hk.2), h _ ⟨_, upd_same, RelK.mono (ex _) _ _ (put_k hd h2)⟩⟩
      | true =>
        obtain ⟨gs, h1, h2⟩ := hc
        obtain ⟨q, rfl⟩ := isKey_t hk.1
        obtain ⟨b, xs, rfl, h3, h4⟩ := (show ∃ b xs, y = .ref b ∧ TupAt X.K w H b xs ∧ RelDs X.K w H (q.map keyOf) xs from hi)
        have e := RelDs.keys h4
        subst e
        exact .inr ⟨a, _, rfl, DPut.t h1 h3 (by rw [← h2.len]; exact hk.2), h _ ⟨_, upd_same, RelT.mono (ex _) _ _ (put_t hd h2)⟩⟩
    · simp only [if_neg hk] at e
      cases e
  · cases e
end
end HM

set_option Elab.async false
set_option linter.all false
set_option maxRecDepth 100000
set_option maxHeartbeats 4000000
namespace HM
section
open PySem PySem.Calls PyProof.Rows PySem.W
variable {prog : Program} {w : World} {A : Around} {E : Value → Shared → Prop} {s : Shared} {β : Type} {R : Value → β → Prop} {enc : β → PyData} {vs : List Value} {bs : List β}
theorem collect_any {l : Addr} {T : String} {o : Obj} {n : Nat} {Q : List Value → Shared → Prop} (hT : T = "list" ∨ T = "tuple") (ho : s.heap.get? l = some o) (hc : o.cls = .type T) (hd : o.data = .seq vs.toArray n)
    (h : Q vs { s with heap := (s.heap.push (seqObj "list" #[] 0)).update s.heap.objs.size (Obj.mapSeq (· ++ vs.toArray)) }) (hsz : vs.length ≤ sizeLine) :
    wpAny (model prog w) A (collect (.ref l)) Q E s := by
  unfold collect
  refine wpAny_bind (wpAny_runValue (codeAny_builtin entry_proto_collect' ?_))
  show wpAny _ _ (do again (.builtin "list.__iadd__" ⟨[← newList [], .ref l], []⟩)) _ _ s
  refine wpAny_bind (wpAny_newList (wpAny_pure ⟨Code.quiet_builtin _ (by decide +kernel), codeAny_builtin entry_list_iadd' ?_⟩))
  show wpAny _ _ (Builtin.List.listExtendWith (.ref s.heap.objs.size) (.ref l) (.ref s.heap.objs.size)) _ _ { s with heap := s.heap.push (seqObj "list" #[] 0) }
  unfold Builtin.List.listExtendWith
  have ho' : (s.heap.push (seqObj "list" #[] 0)).get? l = some o := Heap.get?_push_of_some _ ho
  refine wpAny_bind (wpAny_typeOf (T := T) ⟨o, ho', hc⟩ ?_)
  have t1 : (Value.type "list" == Value.type "list") = true := by rfl
  have t2 : (Value.type "tuple" == Value.type "tuple") = true := by rfl
  rw [if_pos (by rcases hT with rfl | rfl; · rw [t1, Bool.or_true, Bool.true_or]
                 · rw [t2, Bool.or_true])]
  refine wpAny_bind (listItems_at ho' hd ?_)
  refine wpAny_bind (listItems_at (xs := #[]) (n := 0) (Heap.get?_push_size _ rfl) rfl ?_)
  rw [if_neg (by simp)]
  refine wpAny_bind (listUpdate_at (xs := #[]) (n := 0) (Heap.get?_push_size _ rfl) rfl ?_ (Nat.zero_le _) (by show (#[] ++ vs.toArray).size ≤ sizeLine + 1; simp only [Array.size_append, List.size_toArray, List.length_nil]; omega))
  refine wpAny_pure ?_
  show wpAny (model prog w) A (do
      let o ← load s.heap.objs.size
      match o.data with
      | .seq xs _ => pure xs.toList
      | _ => unsupported "internal:collect") Q E { s with heap := (s.heap.push (seqObj "list" #[] 0)).update s.heap.objs.size (Obj.mapSeq (· ++ vs.toArray)) }
  refine wpAny_bind (wpAny_load (get?_update_seq (Heap.get?_push_size _ rfl) _) ?_)
  show wpAny _ _ (pure ((#[] : Array Value) ++ vs.toArray).toList) Q E _
  rw [show ((#[] : Array Value) ++ vs.toArray).toList = vs by simp]
  exact wpAny_pure h
/-- sorted(xs), xs a list or a tuple -/
theorem sorted_seq_data {l : Addr} {T : String} {o : Obj} {n : Nat} {Q : Value → Shared → Prop} (hT : T = "list" ∨ T = "tuple") (ho : s.heap.get? l = some o) (hc : o.cls = .type T) (hd : o.data = .seq vs.toArray n)
    (e : EachIs R vs bs) (er : EachIs (fun v b => ∃ as, Reads s.heap v (enc b) as) vs bs) (hal : AllAlike (bs.map enc)) (hk : Sortable (bs.map enc)) (hL : bs.length ≤ sizeLine) (hu : ∀ b, b ∈ bs → A.units + 2 + (enc b).depth < cLine)
    (h : ∀ (h' : Heap) (d : Addr) (out : List Value) (n' : Nat), (∀ b o, s.heap.get? b = some o → h'.get? b = some o) → s.heap.objs.size ≤ d → h'.get? d = some (seqObj "list" out.toArray n') → out.length = bs.length → EachIs R out (bs.mergeSort (dataLe false enc)) → Q (.ref d) { s with heap := h' }) :
    wpAny (model prog w) A (call (.builtin "sorted") [.ref l]) Q E s := by
  have hvl : vs.length ≤ sizeLine := by rw [e.length]; exact hL
  refine call_function_entry_kw kind_sorted plain_sorted entry_sorted (args_sorted1 _) ?_
  unfold Builtin.«sorted»
  refine wpAny_bind (m := checkCount "sorted" 1 1 _) (wpAny_pure ?_)
  refine wpAny_bind (collect_any hT ho hc hd ?_ hvl)
  have hk1 : ∀ b o, s.heap.get? b = some o → ((s.heap.push (seqObj "list" #[] 0)).update s.heap.objs.size (Obj.mapSeq (· ++ vs.toArray))).get? b = some o := fun b o q => by
    rw [Heap.get?_update_ne _ _ _ _ (Nat.ne_of_lt (Heap.lt_size q))]
    exact Heap.get?_push_of_some _ q
  have hle : s.heap.objs.size ≤ ((s.heap.push (seqObj "list" #[] 0)).update s.heap.objs.size (Obj.mapSeq (· ++ vs.toArray))).objs.size := by
    rw [Heap.size_update, size_push']
    exact Nat.le_succ _
  revert hk1 hle
  generalize (s.heap.push (seqObj "list" #[] 0)).update s.heap.objs.size (Obj.mapSeq (· ++ vs.toArray)) = h1
  intro hk1 hle
  refine wpAny_bind (wpAny_newList ?_ hvl)
  have hat : (h1.push (seqObj "list" vs.toArray 0)).get? h1.objs.size = some (seqObj "list" vs.toArray 0) := Heap.get?_push_size _ rfl
  have old : ∀ b o, s.heap.get? b = some o → b ≠ h1.objs.size ∧ (h1.push (seqObj "list" vs.toArray 0)).get? b = some o := fun b o q =>
    ⟨Nat.ne_of_lt (Nat.lt_of_lt_of_le (Heap.lt_size q) hle), Heap.get?_push_of_some _ (hk1 b o q)⟩
  refine wpAny_bind (wpAny_holding (wpAny_call_entry_kw slot_list_sort ⟨_, hat, rfl⟩ entry_list_sort ?body (args_list_sort _)))
  case body =>
    have er' : EachIs (fun v b => ∃ as, Reads (sortingHeap (h1.push (seqObj "list" vs.toArray 0)) h1.objs.size vs) v (enc b) as) vs bs :=
      er.mono fun _ _ ⟨as, r⟩ => ⟨as, PyProof.Rows.Reads.keeps (fun b o q => sortingHeap_old (old b o q).1 (old b o q).2) r⟩
    show wpAny (model prog w) A.in1.in1 (Builtin.«list.sort» ⟨[.ref h1.objs.size], []⟩) _ _ { s with heap := h1.push (seqObj "list" vs.toArray 0) }
    refine list_sort_vals hat (SortsAt.data (s := { s with heap := sortingHeap (h1.push (seqObj "list" vs.toArray 0)) h1.objs.size vs }) (each_map (R := fun v d => ∃ as, Reads (sortingHeap (h1.push (seqObj "list" vs.toArray 0)) h1.objs.size vs) v d as) enc er') hal hk (bound_map (A := A.in1.in1) hu)) hvl ?_
    refine ⟨_, rfl, wpAny_pure ⟨_, rfl, ?_⟩⟩
    obtain ⟨n', hn⟩ := sortedHeap_at (out := (sortVals (dataKind (sortingHeap (h1.push (seqObj "list" vs.toArray 0)) h1.objs.size vs) (bs.map enc)) false vs vs).toArray) hat
    refine h _ h1.objs.size _ n' (fun b o q => ?_) hle hn (by rw [sortVals_length false rfl]; exact e.length) (sortVals_data false e er' hal)
    obtain ⟨q1, q2⟩ := old b o q
    rw [sortedHeap_old q1 (Heap.lt_size q2)]
    exact q2
end
open PySem PySem.Spec L2
/-! ### sorted of data -/
mutual
def pyD : D → PyData
  | .non => .none
  | .bl b => .bool b
  | .int i => .int i
  | .str s => .str s
  | .lst ds => .list (pyDs ds)
  | .tup ds => .tuple (pyDs ds)
  | _ => .none
def pyDs : List D → List PyData
  | [] => []
  | d :: ds => pyD d :: pyDs ds
end
mutual
theorem Sh.dp {K : PySem.W.Frag} {H : Hp} : ∀ {d : D} {v : V}, Sh K H d v → Dp K H v (pyD d)
  | .non, v, h => by rw [show v = _ from h]; exact .non
  | .bl _, v, h => by rw [show v = _ from h]; exact .bl _
  | .int _, v, h => by rw [show v = _ from h]; exact .int _
  | .str _, v, h => by rw [show v = _ from h]; exact .str _
  | .lst ds, v, h => by
    obtain ⟨a, xs, rfl, h1, h2⟩ := h
    exact .lst h1 (Shs.dp h2)
  | .tup ds, v, h => by
    obtain ⟨a, xs, rfl, h1, h2⟩ := h
    exact .tup h1 (Shs.dp h2)
  | .dct _ _, _, h => h.elim
  | .obj _ _, _, h => h.elim
  | .ref _, _, h => h.elim
  | .cls _, _, h => h.elim
  | .scr _, _, h => h.elim
  | .lck _, _, h => h.elim
  | .exn _ _, _, h => h.elim
theorem Shs.dp {K : PySem.W.Frag} {H : Hp} : ∀ {ds : List D} {vs : List V}, Shs K H ds vs → DpAll K H vs (pyDs ds)
  | [], vs, h => by rw [show vs = _ from h]; exact .nil
  | d :: ds, vs, h => by
    obtain ⟨v, r, rfl, h1, h2⟩ := h
    exact .cons (Sh.dp h1) (Shs.dp h2)
end
/-- the sorted list -/
def sortL (ds : List D) : List D := ds.mergeSort (PySem.W.dataLe false pyD)
def tup1 : D → Bool
  | .tup (_ :: _) => true
  | _ => false
def notTup : D → Bool
  | .tup _ => false
  | .non => false
  | _ => true
def sortOk (ds : List D) : Bool := plainDs ds && ds.all (fun a => ds.all fun b => PySem.W.alike (pyD a) (pyD b)) && (ds.all tup1 || ds.all notTup) && ds.all (fun d => decide ((pyD d).depth ≤ 40)) && decide (ds.length ≤ sizeLine)
theorem plainDs_mem {d : D} : ∀ {ds : List D}, plainDs ds = true → d ∈ ds → plainD d = true
  | e :: ds, h, hm => by
    have h' : (plainD e && plainDs ds) = true := h
    rw [Bool.and_eq_true] at h'
    rcases List.mem_cons.mp hm with q | q
    · rw [q]; exact h'.1
    · exact plainDs_mem h'.2 q
theorem notTup_py : ∀ {d : D}, plainD d = true → notTup d = true → pyD d ≠ .none ∧ ∀ xs, pyD d ≠ .tuple xs
  | .bl _, _, _ => ⟨(fun e => nomatch e), (fun _ e => nomatch e)⟩
  | .int _, _, _ => ⟨(fun e => nomatch e), (fun _ e => nomatch e)⟩
  | .str _, _, _ => ⟨(fun e => nomatch e), (fun _ e => nomatch e)⟩
  | .lst _, _, _ => ⟨(fun e => nomatch e), (fun _ e => nomatch e)⟩
  | .non, _, h => nomatch h
  | .tup _, _, h => nomatch h
  | .dct _ _, h, _ => nomatch h
  | .obj _ _, h, _ => nomatch h
  | .ref _, h, _ => nomatch h
  | .cls _, h, _ => nomatch h
  | .scr _, h, _ => nomatch h
  | .lck _, h, _ => nomatch h
  | .exn _ _, h, _ => nomatch h
theorem tup1_py : ∀ {d : D}, tup1 d = true → ∃ x r, pyD d = .tuple (x :: r)
  | .tup (x :: r), _ => ⟨pyD x, pyDs r, rfl⟩
theorem each_of {K : PySem.W.Frag} {w : Wd} {H : Hp} : ∀ {ds : List D} {xs : List V} {us : List Value}, RelDs K w H ds xs → Vals xs us → PySem.W.EachIs (fun u d => ∃ v, RelV v u ∧ RelD K w H d v) us ds
  | [], _, _, h, r => by
    rw [show _ = ([] : List V) from h] at r
    cases r
    exact .nil
  | d :: ds, _, _, h, r => by
    obtain ⟨v, vs, rfl, h1, h2⟩ := h
    cases r with
    | cons r1 r2 => exact .cons ⟨v, r1, h1⟩ (each_of h2 r2)
theorem of_each {K : PySem.W.Frag} {w : Wd} {H : Hp} : ∀ {ds : List D} {us : List Value}, PySem.W.EachIs (fun u d => ∃ v, RelV v u ∧ RelD K w H d v) us ds → ∃ xs, RelDs K w H ds xs ∧ Vals xs us
  | [], _, h => by
    cases h
    exact ⟨[], rfl, .nil⟩
  | d :: ds, _, h => by
    cases h with
    | cons h1 h2 =>
      obtain ⟨v, r, q⟩ := h1
      obtain ⟨xs, k1, k2⟩ := of_each h2
      exact ⟨v :: xs, ⟨v, xs, rfl, q, k1⟩, .cons r k2⟩
section
variable {X : Cx}
theorem each_reads {pins : List (Addr × Obj)} {σ : L2.St} {H : Hp} {s : Shared} {w : Wd} (I : Inv X pins σ H s) : ∀ {ds : List D} {xs : List V} {us : List Value}, plainDs ds = true → RelDs X.K w H ds xs → Vals xs us → PySem.W.EachIs (fun u d => ∃ as, Reads s.heap u (pyD d) as) us ds
  | [], _, _, _, h, r => by
    rw [show _ = ([] : List V) from h] at r
    cases r
    exact .nil
  | d :: ds, _, _, p, h, r => by
    obtain ⟨v, vs, rfl, h1, h2⟩ := h
    have p' : (plainD d && plainDs ds) = true := p
    rw [Bool.and_eq_true] at p'
    cases r with
    | cons r1 r2 => exact .cons (Dp.reads I _ _ _ (Sh.dp (h1.sh p'.1)) r1) (each_reads I p'.2 h2 r2)
theorem sortOk_of {ds : List D} (h : sortOk ds = true) : plainDs ds = true ∧ PySem.W.AllAlike (ds.map pyD) ∧ PySem.W.Sortable (ds.map pyD) ∧ (∀ d ∈ ds, (pyD d).depth ≤ 40) ∧ ds.length ≤ sizeLine := by
  unfold sortOk at h
  rw [Bool.and_eq_true, Bool.and_eq_true, Bool.and_eq_true, Bool.and_eq_true] at h
  obtain ⟨⟨⟨⟨h1, h2⟩, h3⟩, h4⟩, h5⟩ := h
  refine ⟨h1, fun d hd e he => ?_, ?_, fun d hd => of_decide_eq_true (List.all_eq_true.mp h4 d hd), of_decide_eq_true h5⟩
  · obtain ⟨a, ha, rfl⟩ := List.mem_map.mp hd
    obtain ⟨b, hb, rfl⟩ := List.mem_map.mp he
    exact List.all_eq_true.mp (List.all_eq_true.mp h2 a ha) b hb
  · rw [Bool.or_eq_true] at h3
    rcases h3 with h3 | h3
    · refine .inl fun d hd => ?_
      obtain ⟨a, ha, rfl⟩ := List.mem_map.mp hd
      exact tup1_py (List.all_eq_true.mp h3 a ha)
    · refine .inr fun d hd => ?_
      obtain ⟨a, ha, rfl⟩ := List.mem_map.mp hd
      exact notTup_py (plainDs_mem h1 ha) (List.all_eq_true.mp h3 a ha)
def rSortD (K : PySem.W.Frag) : List V → Hp → VK → Prop := fun vs H Q => ∃ (w : Wd) (a : Addr) (xs : List V) (ds : List D), vs = [V.ref a] ∧ (SqL K H a xs ∨ SqT K H a xs) ∧ RelDs K w H ds xs ∧ sortOk ds = true ∧
  ∀ p ys, H p = none → RelDs K w H (sortL ds) ys → Q (.ref p) (upd H p (.lst ys))
theorem cr_sortD (hu : X.A.units + 64 < cLine) : CallR X (.builtin "sorted") (rSortD X.K) := by
  intro pins s σ H vs us Q I r h
  obtain ⟨w, a, xs, ds, rfl, hs, hd, ok, q⟩ := h
  rw [Vals.ref1 r]
  obtain ⟨p1, p2, p3, p4, p5⟩ := sortOk_of ok
  obtain ⟨its, rv, T, o, n, hT, ho, hc, hdt⟩ : ∃ its : List Value, Vals xs its ∧ ∃ (T : String) (o : Obj) (n : Nat), (T = "list" ∨ T = "tuple") ∧ s.heap.get? a = some o ∧ o.cls = .type T ∧ o.data = .seq its.toArray n := by
    rcases hs with hs | hs
    · obtain ⟨its, rv, ⟨o, n, ho, hc, _, hd⟩, _⟩ := I.list hs
      exact ⟨its, rv, "list", o, n, .inl rfl, ho, hc, hd⟩
    · obtain ⟨its, rv, ⟨o, ho, hc, n, hd⟩, _⟩ := I.tuple hs
      exact ⟨its, rv, "tuple", o, n, .inr rfl, ho, hc, hd⟩
  refine sorted_seq_data hT ho hc hdt (each_of hd rv) (each_reads I p1 hd rv) p2 p3 p5 (fun d hm => by have := p4 d hm; omega) fun h' d out n' kp hle hn hl he => ?_
  obtain ⟨ys, k1, k2⟩ := of_each he
  refine ⟨.ref d, upd H d (.lst ys), I.laid (t' := s.toks) kp hle ⟨?_, out, n', k2, hn⟩, rfl, q d ys (I.hok.fresh hle) k1⟩
  rw [k2.length, hl]
  exact p5
end
end HM

set_option Elab.async false
set_option linter.all false
set_option maxRecDepth 100000
set_option maxHeartbeats 4000000
namespace HM
open PySem PySem.Spec L2
/-! ### slices -/
def sliceD (lo hi : Option Int) : D → Option RD
  | .lst ds => some (.own (.lst (cutD ds lo hi)))
  | .scr ns => some (.own (.lst (cutD (ns.map .int) lo hi)))
  | .tup ds => some (.val (.tup (cutD ds lo hi)))
  | .str s => if s.length ≤ sizeLine then some (.val (.str (cutS s lo hi))) else none
  | _ => none
def rSlAll (K : PySem.W.Frag) : V → Option Int → Option Int → Hp → VK → Prop := fun x lo hi H Q => rSlA K x lo hi H Q ∨ (rSlL K x lo hi H Q ∨ rSlS x lo hi H Q)
section
variable {X : Cx} {e a : Expr} {lo hi : Option Expr} {ma : Mem → Res D} {ml mh : Mem → Res (Option Int)} {pos p2 : Pos}
theorem sl_all : SlR X (rSlAll X.K) := sl_tupA.or (sl_list.or sl_str)
theorem whole_len {ds : List D} {lo hi : Option Int} (h : HT.sIx ds.length 0 lo = 0 ∧ HT.sIx ds.length ds.length hi = ds.length) : cutD ds lo hi = ds := by
  unfold cutD
  rw [h.1, h.2]
  simp
theorem slice_of {w : Wd} {H : Hp} {σ : L2.St} {S : Mem} {d : D} {c : RD} {x : V} {l h : Option Int} {Q : VK} (rel : Rel X.K w H σ S) (hd : LookR X.K w H d x) (e : sliceD l h d = some c)
    (q : ∀ w' H' v, Ext w H w' H' → Rel X.K w' H' σ S → ResR X.K w' H' c v → Q v H') : rSlAll X.K x l h H Q := by
  cases d with
  | lst ds =>
    cases e
    obtain ⟨p, xs, rfl, h1, h2⟩ := hd
    refine .inr (.inl ⟨p, xs, rfl, .of h1, fun t ht => ?_⟩)
    obtain ⟨e1, e2, e3⟩ := rel.newOwn ht (h2.cut l h)
    exact q _ _ _ e1 e2 e3
  | scr ns =>
    cases e
    obtain ⟨p, rfl, h1⟩ := scr_seq (show RelD X.K w H (.scr ns) x from hd)
    refine .inr (.inl ⟨p, _, rfl, h1, fun t ht => ?_⟩)
    obtain ⟨e1, e2, e3⟩ := rel.newOwn ht ((RelDs.ints (K := X.K) (w := w) (H := H) ns).cut l h)
    exact q _ _ _ e1 e2 e3
  | tup ds =>
    cases e
    have hd' : RelD X.K w H (.tup ds) x := hd
    obtain ⟨p, xs, rfl, h1, h2⟩ := TupAt.rel hd'
    refine .inl ⟨p, xs, rfl, h1, fun hw => ?_, fun hw t ht => ?_⟩
    · rw [← h2.length] at hw
      refine q w H _ (Ext.refl _ _) rel ?_
      rw [whole_len hw]
      exact hd'
    · obtain ⟨w', e1, e2, e3⟩ := rel.newTup ht (h2.cut l h)
      exact q _ _ _ e1 e2 e3
  | str s =>
    have e' : (if s.length ≤ sizeLine then some (RD.val (.str (cutS s l h))) else none) = some c := e
    by_cases hz : s.length ≤ sizeLine
    · rw [if_pos hz] at e'
      cases e'
      exact .inr (.inr ⟨s, hd, hz, q w H _ (Ext.refl _ _) rel rfl⟩)
    · rw [if_neg hz] at e'; cases e'
  | _ => cases e
def mSlice (l : Lf) (ml mh : Mem → Res (Option Int)) : Mem → Res RD := match l with
  | .nm i => fun S => if hasS S i = true then (ml S).bind fun lo S1 => (mh S1).bind fun hi S2 => ofO ((peekO i S2).bind (sliceD lo hi)) S2 else .bad
  | .ex m => fun S => (m S).bind fun d S0 => (ml S0).bind fun lo S1 => (mh S1).bind fun hi S2 => ofO ((look S2.st d).bind (sliceD lo hi)) S2
theorem se_slice {l : Lf} (hl : LfR X e l) (h1 : SO X lo ml) (h2 : SO X hi mh) : SE X (.Subscript e (.Slice lo hi none p2) pos) (mSlice l ml mh) := fun W tk => by
  cases l with
  | nm i =>
    refine PE.imp (pe_slice sl_all hl (h1 W tk) (h2 W tk)) fun σ H Q t => ?_
    obtain ⟨w, S, rel, p⟩ := t
    by_cases hs : hasS S i = true
    · obtain ⟨v, hv⟩ := has_of rel hs
      have p' : postG X.K (ResR X.K) w H σ W Q ((ml S).bind fun lo S1 => (mh S1).bind fun hi S2 => ofO ((peekO i S2).bind (sliceD lo hi)) S2) := by
        have : mSlice (.nm i) ml mh S = _ := if_pos hs
        rw [this] at p
        exact p
      refine ⟨v, hv, tG_of rel p' fun lo' H1 lo S1 w1 rel1 q1 ex1 p1 => ?_⟩
      cases q1
      refine tG_of rel1 p1 fun hi' H2 hi S2 w2 rel2 q2 ex2 p2 => ?_
      cases q2
      cases ee : (peekO i S2).bind (sliceD lo' hi') with
      | none => rw [ee] at p2; exact p2.elim
      | some c =>
        rw [ee] at p2
        obtain ⟨d, e1, e2⟩ := Option.bind_eq_some_iff.mp ee
        exact slice_of rel2 (peekO_of rel2 e1 hv) e2 p2
    · have : mSlice (.nm i) ml mh S = .bad := if_neg hs
      rw [this] at p
      exact p.elim
  | ex m =>
    refine PE.imp (pe_slice sl_all (hl W tk) (h1 W tk) (h2 W tk)) fun σ H Q t => tG_bind t fun v H0 d S0 w0 rel0 q0 p0 => tG_of rel0 p0 fun lo' H1 lo S1 w1 rel1 q1 ex1 p1 => ?_
    cases q1
    refine tG_of rel1 p1 fun hi' H2 hi S2 w2 rel2 q2 ex2 p2 => ?_
    cases q2
    cases ee : (look S2.st d).bind (sliceD lo' hi') with
    | none => rw [ee] at p2; exact p2.elim
    | some c =>
      rw [ee] at p2
      obtain ⟨d', e1, e2⟩ := Option.bind_eq_some_iff.mp ee
      exact slice_of rel2 (RelD.look rel2 (RelD.mono (ex1.trans ex2) _ _ q0) e1) e2 p2
/-! ### calls of built-ins with one argument that is only looked at -/
def CalS (X : Cx) (r : List V → Hp → VK → Prop) (g : D → Option RD) : Prop := ∀ (w : Wd) (H : Hp) (σ : L2.St) (S : Mem) (d : D) (c : RD) (v : V) (Q : VK), Rel X.K w H σ S → LookR X.K w H d v → g d = some c →
  (∀ w' H' v', Ext w H w' H' → Rel X.K w' H' σ S → ResR X.K w' H' c v' → Q v' H') → r [v] H Q
def mCall1 (g : D → Option RD) (ma : Mem → Res D) : Mem → Res RD := fun S => (ma S).bind fun d S1 => ofO (g d) S1
theorem tCall1_of {W : WX} {r : List V → Hp → VK → Prop} {g : D → Option RD} (hg : CalS X r g) {σ : L2.St} {H : Hp} {Q : VK} (h : tG X.K (ResR X.K) (mCall1 g ma) W σ H Q) : tCB r (tCons (tG X.K (LookR X.K) ma W) tNil) σ H Q :=
  tG_bind h fun v H1 d S1 w1 rel1 q1 p1 => by
    cases e : g d with
    | none => rw [e] at p1; exact p1.elim
    | some c =>
      rw [e] at p1
      exact hg w1 H1 σ S1 d c v Q rel1 q1 e p1
section
variable {id T : String} {x : Str} {p : Pos} {r : List V → Hp → VK → Prop} {g : D → Option RD}
theorem sc_fn (hc : CallR X (.builtin id) r) (hg : CalS X r g) (hgl : Gl X x) (hm : X.mg x = none) (hv : bootBuiltins x = some (.builtin id)) (ha : SL X a ma) (hn : x ≠ "__name__") (hdb : (x == ("__debug__" : Str)) = false)
    (he : starEach [a] X.env = (false, eval a X.env) :: starEach [] X.env) (hpl : (backTo pos (starEach [] X.env)).any (·.1) = false) : SE X (.Call (.Name x p) [a] [] pos) (mCall1 g ma) := fun W tk =>
  PE.imp (pe_callB hc hgl hm hv (pa_cons (ha W tk) pa_nil he) hn hdb he hpl) fun _ _ _ t => tCall1_of hg t
theorem sc_ty (hc : CallR X (.type T) r) (hg : CalS X r g) (hgl : Gl X x) (hm : X.mg x = none) (hv : bootBuiltins x = some (.type T)) (ha : SL X a ma) (hn : x ≠ "__name__") (hdb : (x == ("__debug__" : Str)) = false)
    (he : starEach [a] X.env = (false, eval a X.env) :: starEach [] X.env) (hpl : (backTo pos (starEach [] X.env)).any (·.1) = false) : SE X (.Call (.Name x p) [a] [] pos) (mCall1 g ma) := fun W tk =>
  PE.imp (pe_callTy hc hgl hm hv (pa_cons (ha W tk) pa_nil he) hn hdb he hpl) fun _ _ _ t => tCall1_of hg t
end
/-- a list or a tuple, or the script, that is looked at -/
def seqD : D → Option (List D)
  | .lst ds => some ds
  | .tup ds => some ds
  | .scr ns => some (ns.map .int)
  | _ => none
theorem seq_of {K : PySem.W.Frag} {w : Wd} {H : Hp} {d : D} {v : V} {ds : List D} (h : LookR K w H d v) (e : seqD d = some ds) : ∃ a xs, v = .ref a ∧ (SqL K H a xs ∨ SqT K H a xs) ∧ RelDs K w H ds xs := by
  cases d with
  | lst es =>
    cases e
    obtain ⟨p, xs, rfl, h1, h2⟩ := h
    exact ⟨p, xs, rfl, .inl (.of h1), h2⟩
  | tup es =>
    cases e
    have h' : RelD K w H (.tup ds) v := h
    obtain ⟨p, xs, rfl, h1, h2⟩ := TupAt.rel h'
    exact ⟨p, xs, rfl, .inr h1, h2⟩
  | scr ns =>
    cases e
    obtain ⟨p, rfl, h1⟩ := scr_seq (show RelD K w H (.scr ns) v from h)
    exact ⟨p, _, rfl, .inl h1, RelDs.ints ns⟩
  | _ => cases e
def lenD : D → Option RD
  | .str s => if s.length ≤ sizeLine then some (.val (.int s.length)) else none
  | .lst ds => some (.val (.int ds.length))
  | .tup ds => some (.val (.int ds.length))
  | .scr ns => some (.val (.int ns.length))
  | .dct _ kvs => some (.val (.int kvs.length))
  | _ => none
def rLenG : List V → Hp → VK → Prop := fun xs H Q => ∃ p, xs = [.ref p] ∧ ((∃ gs : List (Key × V), Rd H p (.dK gs) ∧ Q (.int ((gs.length : Nat) : Int)) H) ∨ ∃ gs : List (List Key × V), Rd H p (.dT gs) ∧ Q (.int ((gs.length : Nat) : Int)) H)
def rLen (K : PySem.W.Frag) : List V → Hp → VK → Prop := fun xs H Q => (∃ p ys, xs = [.ref p] ∧ (SqL K H p ys ∨ SqT K H p ys) ∧ Q (.int ys.length) H) ∨ ∃ z, xs = [.str z] ∧ z.length ≤ sizeLine ∧ Q (.int z.length) H
theorem ca_len : CallR X (.builtin "len") (fun xs H Q => rLen X.K xs H Q ∨ rLenG xs H Q) := CallR.or (CallR.or call_len_seq call_len_str) call_lenG
theorem cs_len : CalS X (fun xs H Q => rLen X.K xs H Q ∨ rLenG xs H Q) lenD := by
  intro w H σ S d c v Q rel hd e q
  have seq : ∀ {ds : List D}, seqD d = some ds → c = .val (.int ds.length) → rLen X.K [v] H Q ∨ rLenG [v] H Q := fun {ds} es ec => by
    obtain ⟨a, xs, rfl, h1, h2⟩ := seq_of hd es
    refine .inl (.inl ⟨a, xs, rfl, h1, q w H _ (Ext.refl _ _) rel ?_⟩)
    rw [ec]
    show V.int _ = V.int _
    rw [h2.length]
  cases d with
  | str s =>
    have e' : (if s.length ≤ sizeLine then some (RD.val (.int s.length)) else none) = some c := e
    by_cases hz : s.length ≤ sizeLine
    · rw [if_pos hz] at e'
      cases e'
      rw [look_str hd]
      exact .inl (.inr ⟨s, rfl, hz, q w H _ (Ext.refl _ _) rel rfl⟩)
    · rw [if_neg hz] at e'; cases e'
  | lst ds => cases e; exact seq rfl rfl
  | tup ds => cases e; exact seq rfl rfl
  | scr ns => cases e; exact seq rfl (by rw [List.length_map])
  | dct t kvs =>
    cases e
    cases t with
    | false =>
      obtain ⟨a, gs, rfl, h1, h2⟩ := hd
      exact .inr ⟨a, rfl, .inl ⟨gs, h1, q w H _ (Ext.refl _ _) rel (by rw [h2.len]; rfl)⟩⟩
    | true =>
      obtain ⟨a, gs, rfl, h1, h2⟩ := hd
      exact .inr ⟨a, rfl, .inr ⟨gs, h1, q w H _ (Ext.refl _ _) rel (by rw [h2.len]; rfl)⟩⟩
  | _ => cases e
def intD : D → Option RD
  | .int i => some (.val (.int i))
  | .bl k => some (.val (.int (if k then 1 else 0)))
  | _ => none
theorem cs_int : CalS X (fun xs H Q => (∃ i, xs = [.int i] ∧ Q (.int i) H) ∨ ∃ k, xs = [.bl k] ∧ Q (.int (if k then 1 else 0)) H) intD := by
  intro w H σ S d c v Q rel hd e q
  cases d with
  | int i =>
    cases e
    exact .inl ⟨i, by rw [show v = _ from hd], q w H _ (Ext.refl _ _) rel rfl⟩
  | bl k =>
    cases e
    exact .inr ⟨k, by rw [show v = _ from hd], q w H _ (Ext.refl _ _) rel rfl⟩
  | _ => cases e
def keysD : D → Option (List D)
  | .dct _ kvs => some (kvs.map (·.1))
  | d => seqD d
def listD (d : D) : Option RD := (keysD d).map fun ds => .own (.lst ds)
def rListS (K : PySem.W.Frag) : List V → Hp → VK → Prop := fun xs H Q => ∃ p ys, xs = [.ref p] ∧ (SqL K H p ys ∨ SqT K H p ys) ∧ ∀ l, H l = none → Q (.ref l) (upd H l (.lst ys))
def rListK : List V → Hp → VK → Prop := fun xs H Q => ∃ (a : Addr) (kvs : List (Key × V)), xs = [.ref a] ∧ Rd H a (.dK kvs) ∧ ∀ p, H p = none → Q (.ref p) (upd H p (.lst (kvs.map fun kv => kV kv.1)))
def rListT : List V → Hp → VK → Prop := fun xs H Q => ∃ d kvs, xs = [V.ref d] ∧ Rd H d (.dT kvs) ∧ ∀ p bs, H p = none → IsKeys H kvs bs → Q (.ref p) (upd H p (.lst (bs.map V.ref)))
theorem ca_list (hc : X.calm = true) : CallR X (.type "list") (fun xs H Q => rListS X.K xs H Q ∨ (rListK xs H Q ∨ rListT xs H Q)) := CallR.or call_list_of (CallR.or (call_listD hc) (call_list_dT hc))
theorem RelK.ks {K : PySem.W.Frag} {w : Wd} {H : Hp} : ∀ {kvs : List (D × D)} {gs : List (Key × V)}, RelK K w H kvs gs → RelDs K w H (kvs.map (·.1)) (gs.map fun kv => kV kv.1)
  | [], _, h => by rw [show _ = ([] : List (Key × V)) from h]; rfl
  | (k, d) :: kvs, _, h => by
    obtain ⟨q, v, gs, rfl, rfl, _, h2⟩ := h
    refine ⟨kV q, _, rfl, ?_, RelK.ks h2⟩
    cases q <;> rfl
theorem RelDs.of_keys {K : PySem.W.Frag} {w : Wd} {H : Hp} : ∀ q : List Key, RelDs K w H (q.map keyOf) (q.map kV)
  | [] => rfl
  | .inl i :: q => ⟨.int i, _, rfl, rfl, RelDs.of_keys q⟩
  | .inr i :: q => ⟨.str i, _, rfl, rfl, RelDs.of_keys q⟩
theorem RelT.ks {K : PySem.W.Frag} {w : Wd} {H : Hp} : ∀ {kvs : List (D × D)} {gs : List (List Key × V)} {bs : List Addr}, RelT K w H kvs gs → IsKeys H gs bs → RelDs K w H (kvs.map (·.1)) (bs.map V.ref)
  | [], _, bs, h, hb => by
    rw [show _ = ([] : List (List Key × V)) from h] at hb
    cases hb
    rfl
  | (k, d) :: kvs, _, bs, h, hb => by
    obtain ⟨q, v, gs, rfl, rfl, _, h2⟩ := h
    cases hb with
    | cons h3 h4 => exact ⟨.ref _, _, rfl, ⟨_, _, rfl, h3, RelDs.of_keys q⟩, RelT.ks h2 h4⟩
theorem cs_list : CalS X (fun xs H Q => rListS X.K xs H Q ∨ (rListK xs H Q ∨ rListT xs H Q)) listD := by
  intro w H σ S d c v Q rel hd e q
  obtain ⟨ds, e1, rfl⟩ := Option.map_eq_some_iff.mp e
  have seq : seqD d = some ds → rListS X.K [v] H Q := fun e1 => by
    obtain ⟨a, xs, rfl, h1, h2⟩ := seq_of hd e1
    refine ⟨a, xs, rfl, h1, fun l hl => ?_⟩
    obtain ⟨k1, k2, k3⟩ := rel.newOwn hl h2
    exact q _ _ _ k1 k2 k3
  cases d with
  | dct t kvs =>
    cases e1
    cases t with
    | false =>
      obtain ⟨a, gs, rfl, h1, h2⟩ := hd
      refine .inr (.inl ⟨a, gs, rfl, h1, fun l hl => ?_⟩)
      obtain ⟨k1, k2, k3⟩ := rel.newOwn hl h2.ks
      exact q _ _ _ k1 k2 k3
    | true =>
      obtain ⟨a, gs, rfl, h1, h2⟩ := hd
      refine .inr (.inr ⟨a, gs, rfl, h1, fun l bs hl hb => ?_⟩)
      obtain ⟨k1, k2, k3⟩ := rel.newOwn hl (h2.ks hb)
      exact q _ _ _ k1 k2 k3
  | _ => exact .inl (seq e1)
def tupleD : D → Option RD
  | .lst ds => some (.val (.tup ds))
  | .scr ns => some (.val (.tup (ns.map .int)))
  | .tup ds => some (.val (.tup ds))
  | _ => none
theorem cs_tuple : CalS X (fun xs H Q => ∃ p ys, xs = [.ref p] ∧ ((SqL X.K H p ys ∧ ∀ l, H l = none → Q (.ref l) (upd H l (.tup ys))) ∨ (SqT X.K H p ys ∧ Q (.ref p) H))) tupleD := by
  intro w H σ S d c v Q rel hd e q
  have new : ∀ {p : Addr} {xs : List V} {ds : List D}, SqL X.K H p xs → RelDs X.K w H ds xs → c = .val (.tup ds) → ∃ p' ys, [V.ref p] = [.ref p'] ∧ ((SqL X.K H p' ys ∧ ∀ l, H l = none → Q (.ref l) (upd H l (.tup ys))) ∨ (SqT X.K H p' ys ∧ Q (.ref p') H)) := fun {p xs ds} hp hr hc => by
    refine ⟨p, xs, rfl, .inl ⟨hp, fun l hl => ?_⟩⟩
    obtain ⟨w', k1, k2, k3⟩ := rel.newTup hl hr
    rw [hc] at q
    exact q _ _ _ k1 k2 k3
  cases d with
  | lst ds =>
    cases e
    obtain ⟨p, xs, rfl, h1, h2⟩ := hd
    exact new (.of h1) h2 rfl
  | scr ns =>
    cases e
    obtain ⟨p, rfl, h1⟩ := scr_seq (show RelD X.K w H (.scr ns) v from hd)
    exact new h1 (RelDs.ints ns) rfl
  | tup ds =>
    cases e
    have h' : RelD X.K w H (.tup ds) v := hd
    obtain ⟨p, xs, rfl, h1, h2⟩ := TupAt.rel h'
    exact ⟨p, xs, rfl, .inr ⟨h1, q w H _ (Ext.refl _ _) rel h'⟩⟩
  | _ => cases e
def blsD : List D → Option (List Bool)
  | [] => some []
  | .bl b :: r => (blsD r).map (b :: ·)
  | _ => none
def intsD : List D → Option (List Int)
  | [] => some []
  | .int b :: r => (intsD r).map (b :: ·)
  | _ => none
theorem bls_of {K : PySem.W.Frag} {w : Wd} {H : Hp} : ∀ {ds : List D} {xs : List V} {bs : List Bool}, RelDs K w H ds xs → blsD ds = some bs → xs = bs.map V.bl
  | [], xs, bs, h, e => by cases e; exact h
  | .bl b :: r, xs, bs, h, e => by
    obtain ⟨bs', e1, rfl⟩ := Option.map_eq_some_iff.mp (show (blsD r).map (b :: ·) = some bs from e)
    obtain ⟨v, vs, rfl, h1, h2⟩ := h
    rw [bls_of h2 e1, show v = _ from h1]
    rfl
  | .non :: _, _, _, _, e => nomatch e
  | .int _ :: _, _, _, _, e => nomatch e
  | .str _ :: _, _, _, _, e => nomatch e
  | .tup _ :: _, _, _, _, e => nomatch e
  | .lst _ :: _, _, _, _, e => nomatch e
  | .dct _ _ :: _, _, _, _, e => nomatch e
  | .obj _ _ :: _, _, _, _, e => nomatch e
  | .ref _ :: _, _, _, _, e => nomatch e
  | .cls _ :: _, _, _, _, e => nomatch e
  | .scr _ :: _, _, _, _, e => nomatch e
  | .lck _ :: _, _, _, _, e => nomatch e
  | .exn _ _ :: _, _, _, _, e => nomatch e
theorem ints_of {K : PySem.W.Frag} {w : Wd} {H : Hp} : ∀ {ds : List D} {xs : List V} {bs : List Int}, RelDs K w H ds xs → intsD ds = some bs → xs = bs.map V.int
  | [], xs, bs, h, e => by cases e; exact h
  | .int b :: r, xs, bs, h, e => by
    obtain ⟨bs', e1, rfl⟩ := Option.map_eq_some_iff.mp (show (intsD r).map (b :: ·) = some bs from e)
    obtain ⟨v, vs, rfl, h1, h2⟩ := h
    rw [ints_of h2 e1, show v = _ from h1]
    rfl
  | .non :: _, _, _, _, e => nomatch e
  | .bl _ :: _, _, _, _, e => nomatch e
  | .str _ :: _, _, _, _, e => nomatch e
  | .tup _ :: _, _, _, _, e => nomatch e
  | .lst _ :: _, _, _, _, e => nomatch e
  | .dct _ _ :: _, _, _, _, e => nomatch e
  | .obj _ _ :: _, _, _, _, e => nomatch e
  | .ref _ :: _, _, _, _, e => nomatch e
  | .cls _ :: _, _, _, _, e => nomatch e
  | .scr _ :: _, _, _, _, e => nomatch e
  | .lck _ :: _, _, _, _, e => nomatch e
  | .exn _ _ :: _, _, _, _, e => nomatch e
def allD : D → Option RD
  | .lst ds => (blsD ds).map fun bs => .val (.bl (bs.all id))
  | _ => none
def anyD : D → Option RD
  | .lst ds => (blsD ds).map fun bs => .val (.bl (bs.any id))
  | _ => none
def sumD : D → Option RD
  | .lst ds => (intsD ds).map fun bs => .val (.int bs.sum)
  | _ => none
theorem cs_all : CalS X (rAll X.K) allD := by
  intro w H σ S d c v Q rel hd e q
  cases d with
  | lst ds =>
    obtain ⟨bs, e1, rfl⟩ := Option.map_eq_some_iff.mp (show (blsD ds).map _ = some c from e)
    obtain ⟨p, xs, rfl, h1, h2⟩ := hd
    rw [bls_of h2 e1] at h1
    exact ⟨p, bs, rfl, .of h1, q w H _ (Ext.refl _ _) rel rfl⟩
  | _ => cases e
theorem cs_any : CalS X (rAny X.K) anyD := by
  intro w H σ S d c v Q rel hd e q
  cases d with
  | lst ds =>
    obtain ⟨bs, e1, rfl⟩ := Option.map_eq_some_iff.mp (show (blsD ds).map _ = some c from e)
    obtain ⟨p, xs, rfl, h1, h2⟩ := hd
    rw [bls_of h2 e1] at h1
    exact ⟨p, bs, rfl, .of h1, q w H _ (Ext.refl _ _) rel rfl⟩
  | _ => cases e
theorem cs_sum : CalS X (rSum X.K) sumD := by
  intro w H σ S d c v Q rel hd e q
  cases d with
  | lst ds =>
    obtain ⟨bs, e1, rfl⟩ := Option.map_eq_some_iff.mp (show (intsD ds).map _ = some c from e)
    obtain ⟨p, xs, rfl, h1, h2⟩ := hd
    rw [ints_of h2 e1] at h1
    exact ⟨p, bs, rfl, .of h1, q w H _ (Ext.refl _ _) rel rfl⟩
  | _ => cases e
def itemsLT : D → Option (List D)
  | .lst ds => some ds
  | .tup ds => some ds
  | _ => none
def sortD (d : D) : Option RD := (itemsLT d).bind fun ds => if sortOk ds = true then some (.own (.lst (sortL ds))) else none
theorem cs_sort : CalS X (rSortD X.K) sortD := by
  intro w H σ S d c v Q rel hd e q
  obtain ⟨ds, e1, e2⟩ := Option.bind_eq_some_iff.mp e
  have es : seqD d = some ds := by
    cases d with
    | lst _ => exact e1
    | tup _ => exact e1
    | _ => cases e1
  by_cases ok : sortOk ds = true
  · rw [if_pos ok] at e2
    cases e2
    obtain ⟨a, xs, rfl, h1, h2⟩ := seq_of hd es
    refine ⟨w, a, xs, ds, rfl, h1, h2, ok, fun p ys hp hy => ?_⟩
    obtain ⟨k1, k2, k3⟩ := rel.newOwn hp hy
    exact q _ _ _ k1 k2 k3
  · rw [if_neg ok] at e2; cases e2
/-! ### the script's items -/
def ixAll : D → D → Option RD
  | .scr ns, .int i => (atI ns i).map fun n => .val (.int n)
  | .dct t kvs, k => ixDct (.dct t kvs) k
  | a, b => ixD a b
theorem ix_any (hu : X.A.units + 1 < cLine) : IxR X (fun x y H Q => rIx X.K x y H Q ∨ rIxG x y H Q) := IxR.or ix_seq (ix_dictG hu)
theorem ops_ixAll : OpS X (fun x y H Q => rIx X.K x y H Q ∨ rIxG x y H Q) ixAll := by
  intro w H σ S a b c x y Q rel ha hb e h
  cases a with
  | scr ns =>
    cases b with
    | int i =>
      obtain ⟨n, e1, rfl⟩ := Option.map_eq_some_iff.mp (show (atI ns i).map _ = some c from e)
      obtain ⟨p, rfl, h1⟩ := scr_seq (show RelD X.K w H (.scr ns) x from ha)
      refine .inl (.inl ⟨p, _, i, .int n, rfl, hb, h1, ?_, h w H _ (Ext.refl _ _) rel rfl⟩)
      unfold atI at e1 ⊢
      rw [List.length_map]
      obtain ⟨j, e2, e3⟩ := Option.bind_eq_some_iff.mp e1
      rw [e2]
      show (ns.map V.int)[j]? = _
      rw [List.getElem?_map, e3]
      rfl
    | _ => cases e
  | dct t kvs => exact .inr (ops_ixDct w H σ S _ b c x y Q rel ha hb e h)
  | _ => exact .inl (ops_ix w H σ S _ b c x y Q rel ha hb e h)
end
end HM

set_option Elab.async false
set_option linter.all false
set_option maxRecDepth 100000
set_option maxHeartbeats 4000000
namespace HM
open PySem PySem.Spec L2
inductive Out where
  | nx (m : Mem) | rt (r : RD) (m : Mem) | bk (m : Mem) | ct (m : Mem) | exc (c : Str) (fs : List (Str × D)) (m : Mem) | bad
def Res.out {a : Type} (x : Res a) (k : a → Mem → Out) : Out := match x with
  | .ok v m => k v m
  | .exc c fs m => .exc c fs m
  | .bad => .bad
section
variable {K : PySem.W.Frag}
def postO (K : PySem.W.Frag) (w : Wd) (H : Hp) (W : WX) (D : Ends) : Out → Prop
  | .nx m => ∀ w' H' σ', Ext w H w' H' → Rel K w' H' σ' m → D.nx σ' H'
  | .rt r m => ∀ w' H' σ' v, Ext w H w' H' → Rel K w' H' σ' m → ResR K w' H' r v → D.rt v H'
  | .bk m => ∀ w' H' σ', Ext w H w' H' → Rel K w' H' σ' m → D.bk σ' H'
  | .ct m => ∀ w' H' σ', Ext w H w' H' → Rel K w' H' σ' m → D.ct σ' H'
  | .exc c fs m => ∀ w' H' σ' dx, Ext w H w' H' → Rel K w' H' σ' m → ExcR K w' H' fs dx → W (.ref (He.ga K c)) dx σ' H'
  | .bad => False
theorem postO.ext {w w1 : Wd} {H H1 : Hp} {W : WX} {D : Ends} (e : Ext w H w1 H1) : ∀ {x : Out}, postO K w H W D x → postO K w1 H1 W D x
  | .nx m, h => fun w' H' σ' ex r => h w' H' σ' (e.trans ex) r
  | .rt r m, h => fun w' H' σ' v ex r q => h w' H' σ' v (e.trans ex) r q
  | .bk m, h => fun w' H' σ' ex r => h w' H' σ' (e.trans ex) r
  | .ct m, h => fun w' H' σ' ex r => h w' H' σ' (e.trans ex) r
  | .exc c fs m, h => fun w' H' σ' dx ex r q => h w' H' σ' dx (e.trans ex) r q
  | .bad, h => h
def tO (K : PySem.W.Frag) (m : Mem → Out) (W : WX) : TS := fun D σ H => ∃ w S, Rel K w H σ S ∧ postO K w H W D (m S)
/-- an expression first -/
theorem tO_of {a c : Type} {R : RR a c} {m : Mem → Res a} {k : a → Mem → Out} {W : WX} {σ : L2.St} {H : Hp} {D : Ends} {Q1 : c → Hp → Prop} {w : Wd} {S : Mem} (rel : Rel K w H σ S)
    (h : postO K w H W D ((m S).out k)) (hq : ∀ v H1 r S1 w1, Rel K w1 H1 σ S1 → R w1 H1 r v → Ext w H w1 H1 → postO K w1 H1 W D (k r S1) → Q1 v H1) : tG K R m W σ H Q1 := by
  refine ⟨w, S, rel, ?_⟩
  cases e : m S with
  | ok r S1 =>
    rw [e] at h
    exact fun w' H' v ex rl q => hq v H' r S1 w' rl q ex (postO.ext ex h)
  | exc c fs S1 =>
    rw [e] at h
    exact fun w' H' dx ex rl q => h w' H' σ dx ex rl q
  | bad =>
    rw [e] at h
    exact h
theorem tO_bind {a c : Type} {R : RR a c} {m : Mem → Res a} {k : a → Mem → Out} {W : WX} {σ : L2.St} {H : Hp} {D : Ends} {Q1 : c → Hp → Prop}
    (h : tO K (fun S => (m S).out k) W D σ H) (hq : ∀ v H1 r S1 w1, Rel K w1 H1 σ S1 → R w1 H1 r v → postO K w1 H1 W D (k r S1) → Q1 v H1) : tG K R m W σ H Q1 := by
  obtain ⟨w, S, rel, p⟩ := h
  exact tO_of rel p fun v H1 r S1 w1 rl q _ p => hq v H1 r S1 w1 rl q p
end
def SS (X : Cx) (st : Stmt) (m : Mem → Out) : Prop := ∀ W, Takes X W → PassesOwn (model X.prog X.w) X.A X.env X.xe → PS X st (tO X.K m W)
def SSs (X : Cx) (st : List Stmt) (m : Mem → Out) : Prop := ∀ W, Takes X W → PassesOwn (model X.prog X.w) X.A X.env X.xe → PSs X st (tO X.K m W)
theorem PS.imp {X : Cx} {e : Stmt} {t t' : TS} (h : PS X e t) (i : ∀ D σ H, t' D σ H → t D σ H) : PS X e t' := ⟨fun pins s σ H D I q => h.run pins s σ H D I (i D σ H q)⟩
theorem PSs.imp {X : Cx} {e : List Stmt} {t t' : TS} (h : PSs X e t) (i : ∀ D σ H, t' D σ H → t D σ H) : PSs X e t' := ⟨fun pins s σ H D I q => h.run pins s σ H D I (i D σ H q)⟩
/-! ### a slot is set -/
def rdSlot : RD → Slot
  | .val d => .val d
  | .own c => .own c
def setS (i : Nat) (r : RD) (S : Mem) : Mem := { S with env := S.env.set i (rdSlot r) }
section
variable {K : PySem.W.Frag} {w : Wd} {H : Hp} {σ : L2.St} {S : Mem}
theorem Rel.set (rel : Rel K w H σ S) {i : Nat} {r : RD} {v : V} (hi : i < S.env.length) (hr : ResR K w H r v) : ∃ w', Ext w H w' H ∧ Rel K w' H (σ.set i (some v)) (setS i r S) := by
  have hl : i < σ.length := by rw [rel.len]; exact hi
  -- the new world
  obtain ⟨w', g, hs⟩ : ∃ w', Grow w H w' H ∧ (∀ n, w'.role (w'.addr n) = some (.cell n) → w.role (w.addr n) = some (.cell n)) ∧ (∀ a r', w'.role a = some r' → H a ≠ none) ∧ SlotR K w' H i (some v) (rdSlot r) := by
    cases r with
    | val d => exact ⟨w, ⟨fun a r h => ⟨h, rfl⟩, fun _ _ => rfl, fun _ _ h => h, fun _ _ _ h => h⟩, fun _ h => h, rel.trk, v, rfl, hr⟩
    | own c =>
      obtain ⟨a, rfl, h1, h2⟩ := hr
      have g : Grow w H (w.put a (.slot i)) H := .put h1
      refine ⟨w.put a (.slot i), g, fun n h => ?_, fun b r' h => ?_, a, rfl, put_same, .of (h2.mono g.ext rfl)⟩
      · by_cases e : (w.put a (.slot i)).addr n = a
        · rw [e, put_same] at h; cases h
        · rw [put_ne e] at h; exact h
      · by_cases e : b = a
        · rw [e]; exact h2.there
        · rw [put_ne e] at h; exact rel.trk b r' h
  obtain ⟨h1, h2, h3⟩ := hs
  refine ⟨w', g.ext, by simp [setS, rel.len], fun j sl hj => ?_, fun n c hn => ?_, fun n h => rel.live n (h1 n h), h2⟩
  · have hj' : (S.env.set i (rdSlot r))[j]? = some sl := hj
    by_cases ej : j = i
    · subst ej
      rw [List.getElem?_set_self hi] at hj'
      cases hj'
      exact ⟨some v, List.getElem?_set_self hl, h3⟩
    · rw [List.getElem?_set_ne (Ne.symm ej)] at hj'
      obtain ⟨ov, k1, k2⟩ := rel.slots j sl hj'
      exact ⟨ov, by rw [List.getElem?_set_ne (Ne.symm ej)]; exact k1, k2.mono g.ext fun a c _ _ hr => g.role a _ hr⟩
  · obtain ⟨k1, k2⟩ := rel.cells n c hn
    obtain ⟨q1, q2⟩ := g.role _ _ k1
    rw [g.addr n k1]
    exact ⟨q1, k2.mono g.ext q2⟩
/-- a slot's own thing leaves it -/
theorem Rel.take (rel : Rel K w H σ S) {i : Nat} {c : D} {v : V} (e : S.env[i]? = some (.own c)) (hn : nl c = some c) (hv : σ[i]? = some (some v)) : ∃ w', Ext w H w' H ∧ Rel K w' H σ { S with env := S.env.set i .none } ∧ ResR K w' H (.own c) v := by
  obtain ⟨ov, h1, a, h2, h3, h4⟩ := rel.slots i _ e
  rw [hv] at h1
  cases h1
  cases h2
  replace h4 := (h4.nl hn).2
  have ne : ∀ b r, w.role b = some r → r ≠ .slot i → b ≠ a := fun b r h n z => by
    rw [z, h3] at h
    exact n (Option.some.inj h).symm
  have ex : Ext w H ⟨fun b => if b = a then none else w.role b, w.addr⟩ H :=
    ⟨⟨fun b h => ⟨by show (if b = a then _ else _) = _; rw [if_neg (ne b _ h (fun q => nomatch q))]; exact h, .inl rfl⟩, fun n h => ⟨rfl, by show (if _ = a then _ else _) = _; rw [if_neg (ne _ _ h (fun q => nomatch q))]; exact h⟩, fun _ _ h => h⟩, fun b h => ⟨by show (if b = a then _ else _) = _; rw [if_neg (ne b _ h (fun q => nomatch q))]; exact h, rfl⟩, fun _ _ _ h => h⟩
  refine ⟨⟨fun b => if b = a then none else w.role b, w.addr⟩, ex, ⟨by rw [rel.len]; simp, fun j sl h => ?_, fun n c' h => ?_, fun n h => ?_, fun b r h => ?_⟩, a, rfl, if_pos rfl, h4.mono ex rfl⟩
  · have h' : (S.env.set i .none)[j]? = some sl := h
    by_cases ej : j = i
    · subst ej
      rw [List.getElem?_set_self (List.getElem?_eq_some_iff.mp e).1] at h'
      cases h'
      exact ⟨_, hv, trivial⟩
    · rw [List.getElem?_set_ne (Ne.symm ej)] at h'
      obtain ⟨ov, k1, k2⟩ := rel.slots j sl h'
      refine ⟨ov, k1, k2.mono ex fun b c _ _ hb => ⟨?_, rfl⟩⟩
      show (if b = a then _ else _) = _
      rw [if_neg (ne b _ hb (fun q => ej (by injection q)))]
      exact hb
  · obtain ⟨k1, k2⟩ := rel.cells n c' h
    refine ⟨(ex.cell n k1).2, k2.mono ex rfl⟩
  · have h' : (if w.addr n = a then none else w.role (w.addr n)) = some (.cell n) := h
    by_cases q : w.addr n = a
    · rw [if_pos q] at h'; cases h'
    · rw [if_neg q] at h'
      exact rel.live n h'
  · have h' : (if b = a then none else w.role b) = some r := h
    by_cases q : b = a
    · rw [q]; exact h4.there
    · rw [if_neg q] at h'
      exact rel.trk b r h'
end
/-! ### statements -/
def mSeq (m1 m2 : Mem → Out) : Mem → Out := fun S => match m1 S with
  | .nx S1 => m2 S1
  | o => o
def mNext : Mem → Out := .nx
def mDrop {a : Type} (m : Mem → Res a) : Mem → Out := fun S => (m S).out fun _ S1 => .nx S1
def mRet (m : Mem → Res RD) : Mem → Out := fun S => (m S).out fun r S1 => .rt r S1
def mIfS (nc : Mem → Res Bool) (a b : Mem → Out) : Mem → Out := fun S => (nc S).out fun k S1 => if k = true then a S1 else b S1
def mSet (i : Nat) (m : Mem → Res RD) : Mem → Out := fun S => (m S).out fun r S1 => if i < S1.env.length then .nx (setS i r S1) else .bad
/-- a name's thing is handed on, the name is no more needed -/
def mMove (i : Nat) : Mem → Res RD := fun S => match S.env[i]? with
  | some (.val d) => .ok (.val d) S
  | some (.own c) => (match nl c with
    | some c => .ok (.own c) { S with env := S.env.set i .none }
    | none => .bad)
  | _ => .bad
section
variable {X : Cx} {st : Stmt} {rest : List Stmt} {m m1 m2 : Mem → Out} {e : Expr} {pos : Pos}
theorem ss_nil : SSs X [] mNext := fun W tk hp => PSs.imp pss_nil fun D σ H t => by
  obtain ⟨w, S, rel, p⟩ := t
  exact p w H σ (Ext.refl _ _) rel
theorem ss_cons (h1 : SS X st m1) (h2 : SSs X rest m2) : SSs X (st :: rest) (mSeq m1 m2) := fun W tk hp =>
  PSs.imp (pss_cons (h1 W tk hp) (h2 W tk hp)) fun D σ H t => by
    obtain ⟨w, S, rel, p⟩ := t
    refine ⟨w, S, rel, ?_⟩
    have p' : postO X.K w H W D (match m1 S with
      | .nx S1 => m2 S1
      | o => o) := p
    cases e : m1 S with
    | nx S1 =>
      rw [e] at p'
      exact fun w' H' σ' ex rl => ⟨w', S1, rl, postO.ext ex p'⟩
    | rt _ _ => rw [e] at p'; exact p'
    | bk _ => rw [e] at p'; exact p'
    | ct _ => rw [e] at p'; exact p'
    | exc _ _ _ => rw [e] at p'; exact p'
    | bad => rw [e] at p'; exact p'
theorem s_pass : SS X (.Pass pos) .nx := fun W tk hp => PS.imp ps_pass fun D σ H t => by
  obtain ⟨w, S, rel, p⟩ := t
  exact p w H σ (Ext.refl _ _) rel
theorem s_break : SS X (.Break pos) .bk := fun W tk hp => PS.imp ps_break fun D σ H t => by
  obtain ⟨w, S, rel, p⟩ := t
  exact p w H σ (Ext.refl _ _) rel
theorem s_cont : SS X (.Continue pos) .ct := fun W tk hp => PS.imp ps_continue fun D σ H t => by
  obtain ⟨w, S, rel, p⟩ := t
  exact p w H σ (Ext.refl _ _) rel
theorem s_doc {x : Str} {j : Nat} {p2 : Pos} : SS X (.Expr (.Constant (.str x) j pos) p2) .nx := fun W tk hp => PS.imp ps_doc fun D σ H t => by
  obtain ⟨w, S, rel, p⟩ := t
  exact p w H σ (Ext.refl _ _) rel
theorem s_expr {me : Mem → Res RD} (h : SE X e me) (hs : swapsWith e none pos.line X.env = pure false) : SS X (.Expr e pos) (mDrop me) := fun W tk hp =>
  PS.imp (ps_expr (h W tk) hs) fun D σ H t => tO_bind t fun v H1 r S1 w1 rel q p => p w1 H1 σ (Ext.refl _ _) rel
theorem s_ret {me : Mem → Res RD} (h : SE X e me) : SS X (.Return (some e) pos) (mRet me) := fun W tk hp =>
  PS.imp (ps_ret (h W tk)) fun D σ H t => tO_bind t fun v H1 r S1 w1 rel q p => p w1 H1 σ v (Ext.refl _ _) rel q
theorem s_retN : SS X (.Return none pos) (fun S => .rt (.val .non) S) := fun W tk hp =>
  PS.imp ps_retN fun D σ H t => by
    obtain ⟨w, S, rel, p⟩ := t
    exact p w H σ .non (Ext.refl _ _) rel rfl
theorem s_if {c : Expr} {a b : List Stmt} {nc : Mem → Res Bool} (hc : ST X c nc) (ha : SSs X a m1) (hb : SSs X b m2) : SS X (.If c a b pos) (mIfS nc m1 m2) := fun W tk hp =>
  PS.imp (ps_if (hc W tk) (ha W tk hp) (hb W tk hp)) fun D σ H t => tO_bind t fun v H1 k S1 w1 rel q p => by
    cases q
    cases v with
    | true => exact ⟨w1, S1, rel, p⟩
    | false => exact ⟨w1, S1, rel, p⟩
theorem s_set {i : Nat} {x : Str} {p2 : Pos} {me : Mem → Res RD} (hN : X.N.Nodup) (hi : X.N[i]? = some x) (hx : Loc X.env.scope x) (he : SE X e me) (hs : swapsWith e (some (.Name x p2)) pos.line X.env = pure false) (hf : X.fn x = true ∨ X.env.scope.names.lookup x = some .local) :
    SS X (.Assign [.Name x p2] e pos) (mSet i me) := fun W tk hp =>
  PS.imp (ps_set hN hi hx (he W tk) hs hf) fun D σ H t => tO_bind t fun v H1 r S1 w1 rel q p => by
    by_cases hl : i < S1.env.length
    · rw [if_pos hl] at p
      obtain ⟨w', ex, rel'⟩ := rel.set hl q
      exact p w' H1 _ ex rel'
    · rw [if_neg hl] at p; exact p.elim
theorem se_move {i : Nat} {x : Str} {pos : Pos} (hN : X.N[i]? = some x) (hv : Vis X.env.scope x) (hd : (x == ("__debug__" : Str)) = false) (hcd : (x == ("__classdict__" : Str)) = false) : SE X (.Name x pos) (mMove i) := fun W tk =>
  PE.imp (pe_var hN hv hd hcd) fun σ H Q t => by
    obtain ⟨w, S, rel, p⟩ := t
    unfold mMove at p
    cases e : S.env[i]? with
    | none => rw [e] at p; exact p.elim
    | some sl =>
      rw [e] at p
      cases sl with
      | none => exact p.elim
      | val d =>
        obtain ⟨ov, h1, v, rfl, h2⟩ := rel.slots i _ e
        exact ⟨v, h1, p w H v (Ext.refl _ _) rel h2⟩
      | own c =>
        obtain ⟨v, hv⟩ := tVar_of rel e (fun q => nomatch q)
        have p' : postG X.K (ResR X.K) w H σ W Q (match nl c with
          | some c => Res.ok (.own c) { S with env := S.env.set i .none }
          | none => .bad) := p
        cases en : nl c with
        | none =>
          rw [en] at p'
          exact p'.elim
        | some c' =>
          rw [en] at p'
          have := nl_self en
          subst this
          obtain ⟨w', ex, rel', hr⟩ := rel.take e en hv
          exact ⟨v, hv, p' w' H v ex rel' hr⟩
/-- o[k] = e, o a name -/
def mSetIx (g : D → D → D → Option D) (i : Nat) (mk mv : Mem → Res D) : Mem → Out := fun S => (mv S).out fun d S1 => if hasS S1 i = true then (mk S1).out fun k S2 => (match (thing i S2).bind fun c => g c k d with
  | some c' => .nx (putThing i c' S2)
  | none => .bad) else .bad
def notSlice : Expr → Bool
  | .Slice _ _ _ _ => false
  | _ => true
theorem assign_sub {o k : Expr} {p : Pos} {env : Env} (h : notSlice k = true) (v : Value) : assign (.Subscript o k p) env v = (do
      let ov ← holding [v] (eval o env)
      let iv ← holding [v, ov] (eval k env)
      standAt p
      holding [v, ov, iv] (setItem ov iv v)
      release [v, ov, iv] []) := by
  cases k <;> first | rfl | exact nomatch h
theorem s_setIx {t : TSet} {g : D → D → D → Option D} {i : Nat} {x : Str} {k : Expr} {p1 p2 : Pos} {mk mv : Mem → Res D} (hs : PSet X t) (hg : SetS X t g) (ho : PE X (.Name x p1) (tVar i)) (hk : SV X k mk) (hv : SV X e mv) (hsl : notSlice k = true)
    (h1 : swapsWithSole [.Subscript (.Name x p1) k p2] e pos.line X.env = pure false) (h2 : swappedStores [.Subscript (.Name x p1) k p2] e X.env = pure none) : SS X (.Assign [.Subscript (.Name x p1) k p2] e pos) (mSetIx g i mk mv) := fun W tk hp =>
  PS.imp (ps_asg (hv W tk) (pg_sub ho (hk W tk) hs (assign_sub hsl)) h1 h2) fun D σ H t => tO_bind t fun v H1 d S1 w1 rel1 q1 p1 => by
    by_cases hh : hasS S1 i = true
    · rw [if_pos hh] at p1
      obtain ⟨o, ho⟩ := has_of rel1 hh
      refine ⟨o, ho, tO_of rel1 p1 fun y H2 kd S2 w2 rel2 q2 ex2 p2 => ?_⟩
      cases eg : (thing i S2).bind fun c => g c kd d with
      | none => rw [eg] at p2; exact p2.elim
      | some c' =>
        rw [eg] at p2
        obtain ⟨c, e1, e2⟩ := Option.bind_eq_some_iff.mp eg
        obtain ⟨a, hv', hc', hx', hr'⟩ := rel2.mut e1
        rw [ho] at hv'
        have ea : o = .ref a := by injection hv' with q; injection q
        subst ea
        exact hg w2 H2 a c kd d c' y v _ hc' q2 (RelD.mono ex2 _ _ q1) hx' e2 fun o' k1 => p2 w2 _ σ (hx' o') (hr' o' c' (.of k1))
    · rw [if_neg hh] at p1; exact p1.elim
/-! ### while -/
def mWhile (nc : Mem → Res Bool) (b : Mem → Out) : Nat → Mem → Out
  | 0, _ => .bad
  | n + 1, S => (nc S).out fun k S1 => if k = true then (match b S1 with
    | .nx S2 => mWhile nc b n S2
    | .ct S2 => mWhile nc b n S2
    | .bk S2 => .nx S2
    | o => o) else .nx S1
theorem s_while {c : Expr} {body : List Stmt} {nc : Mem → Res Bool} (n : Nat) (hc : ST X c nc) (hb : SSs X body m) : SS X (.While c body [] pos) (mWhile nc m n) := fun W tk hp =>
  PS.imp (ps_while hp (hc W tk) (hb W tk hp)) fun D σ H t => by
    refine ⟨fun k σ H => tO X.K (mWhile nc m k) W D σ H, ⟨n, t⟩, fun k σ H t => ?_⟩
    cases k with
    | zero =>
      obtain ⟨w, S, rel, p⟩ := t
      exact p.elim
    | succ k =>
      refine tO_bind t fun v H1 b S1 w1 rel q p => ?_
      cases q
      cases v with
      | false => exact p w1 H1 σ (Ext.refl _ _) rel
      | true =>
        rw [if_pos rfl]
        refine ⟨fun σ' H' => tO X.K (mWhile nc m k) W D σ' H', fun σ' H' h => ⟨k, Nat.lt_succ_self k, h⟩, w1, S1, rel, ?_⟩
        rw [if_pos rfl] at p
        cases eb : m S1 with
        | nx S2 =>
          rw [eb] at p
          exact fun w' H' σ' ex rl => ⟨w', S2, rl, postO.ext ex p⟩
        | ct S2 =>
          rw [eb] at p
          exact fun w' H' σ' ex rl => ⟨w', S2, rl, postO.ext ex p⟩
        | bk S2 => rw [eb] at p; exact p
        | rt _ _ => rw [eb] at p; exact p
        | exc _ _ _ => rw [eb] at p; exact p
        | bad => rw [eb] at p; exact p
end
end HM

set_option Elab.async false
set_option linter.all false
set_option maxRecDepth 100000
set_option maxHeartbeats 4000000
namespace HM
open PySem PySem.Spec L2
/-! ### targets -/
def Agree (is : List Nat) (σ σ' : L2.St) : Prop := σ'.length = σ.length ∧ ∀ j, j ∉ is → σ'[j]? = σ[j]?
theorem Agree.refl (is : List Nat) (σ : L2.St) : Agree is σ σ := ⟨rfl, fun _ _ => rfl⟩
theorem Agree.trans {is : List Nat} {a b c : L2.St} (h : Agree is a b) (k : Agree is b c) : Agree is a c := ⟨k.1.trans h.1, fun j hj => (k.2 j hj).trans (h.2 j hj)⟩
def tT (K : PySem.W.Frag) (is : List Nat) (mt : D → Mem → Option Mem) : TG := fun v σ H Q => ∃ w S d S', Rel K w H σ S ∧ RelD K w H d v ∧ mt d S = some S' ∧ ∀ w' H' σ', Ext w H w' H' → Rel K w' H' σ' S' → Agree is σ σ' → Q σ' H'
def tTs (K : PySem.W.Frag) (is : List Nat) (mt : List D → Mem → Option Mem) : TGs := fun vs σ H Q => ∃ w S ds S', Rel K w H σ S ∧ RelDs K w H ds vs ∧ mt ds S = some S' ∧ ∀ w' H' σ', Ext w H w' H' → Rel K w' H' σ' S' → Agree is σ σ' → Q σ' H'
theorem PG.imp {X : Cx} {e : Expr} {t t' : TG} (h : PG X e t) (i : ∀ v σ H Q, t' v σ H Q → t v σ H Q) : PG X e t' := ⟨fun pins s σ H v u Q I r q => h.run pins s σ H v u Q I r (i v σ H Q q)⟩
theorem PGs.imp {X : Cx} {e : List Expr} {t t' : TGs} (h : PGs X e t) (i : ∀ v σ H Q, t' v σ H Q → t v σ H Q) : PGs X e t' := ⟨fun pins s σ H v u Q I r q => h.run pins s σ H v u Q I r (i v σ H Q q)⟩
def SGt (X : Cx) (tg : Expr) (is : List Nat) (mt : D → Mem → Option Mem) : Prop := PG X tg (tT X.K is mt)
def SGts (X : Cx) (tg : List Expr) (is : List Nat) (mt : List D → Mem → Option Mem) : Prop := PGs X tg (tTs X.K is mt)
def mtName (i : Nat) : D → Mem → Option Mem := fun d S => if i < S.env.length then some (setS i (.val d) S) else none
def mtNil : List D → Mem → Option Mem
  | [], S => some S
  | _, _ => none
def mtCons (mt : D → Mem → Option Mem) (mts : List D → Mem → Option Mem) : List D → Mem → Option Mem
  | d :: ds, S => (mt d S).bind (mts ds)
  | [], _ => none
def mtTup (n : Nat) (mts : List D → Mem → Option Mem) : D → Mem → Option Mem
  | .tup ds, S => if ds.length = n then mts ds S else none
  | .lst ds, S => if ds.length = n then mts ds S else none
  | _, _ => none
/-- either reading -/
theorem pg_or {X : Cx} {e : Expr} {t t' : TG} (h : PG X e t) (h' : PG X e t') : PG X e fun v σ H Q => t v σ H Q ∨ t' v σ H Q := ⟨fun pins s σ H v u Q I r q => q.elim (h.run pins s σ H v u Q I r) (h'.run pins s σ H v u Q I r)⟩
section
variable {X : Cx} {pos : Pos} {is : List Nat}
theorem sg_name {i : Nat} {x : Str} (hN : X.N.Nodup) (hi : X.N[i]? = some x) (hx : Loc X.env.scope x) (hf : X.fn x = true ∨ X.env.scope.names.lookup x = some .local) (him : i ∈ is) : SGt X (.Name x pos) is (mtName i) :=
  PG.imp (pg_name hN hi hx hf) fun v σ H Q t => by
    obtain ⟨w, S, d, S', rel, hd, e, q⟩ := t
    unfold mtName at e
    split at e
    · rename_i hl
      cases e
      obtain ⟨w', ex, rel'⟩ := rel.set (r := .val d) hl hd
      exact q w' H _ ex rel' ⟨by simp, fun j hj => List.getElem?_set_ne (fun e => hj (by rw [← e]; exact him))⟩
    · cases e
theorem sgs_nil : SGts X [] is mtNil := PGs.imp pgs_nil fun v σ H Q t => by
  obtain ⟨w, S, ds, S', rel, hd, e, q⟩ := t
  cases ds with
  | cons _ _ => cases e
  | nil =>
    cases e
    exact ⟨hd, q w H σ (Ext.refl _ _) rel (Agree.refl _ _)⟩
def noStar : Expr → Bool
  | .Starred _ _ => false
  | _ => true
theorem assignEach_cons {e : Expr} {es : List Expr} {env : Env} (h : noStar e = true) : assignEach (e :: es) env = (false, assign e env) :: assignEach es env := by
  cases e <;> first | rfl | exact nomatch h
theorem assignEach_len {env : Env} : ∀ {es : List Expr}, es.all noStar = true → (assignEach es env).length = es.length
  | [], _ => rfl
  | e :: es, h => by
    rw [List.all_cons, Bool.and_eq_true] at h
    rw [assignEach_cons h.1, List.length_cons, List.length_cons, assignEach_len h.2]
theorem assignEach_star {env : Env} : ∀ {es : List Expr}, es.all noStar = true → (assignEach es env).findIdx? (·.1) = none
  | [], _ => rfl
  | e :: es, h => by
    rw [List.all_cons, Bool.and_eq_true] at h
    rw [assignEach_cons h.1, List.findIdx?_cons]
    simp [assignEach_star h.2]
theorem sgs_cons {e : Expr} {es : List Expr} {mt : D → Mem → Option Mem} {mts : List D → Mem → Option Mem} (h1 : SGt X e is mt) (h2 : SGts X es is mts) (hs : noStar e = true) : SGts X (e :: es) is (mtCons mt mts) :=
  PGs.imp (pgs_cons h1 h2 (by rw [assignEach_cons hs]; rfl)) fun v σ H Q t => by
    obtain ⟨w, S, ds, S', rel, hd, e, q⟩ := t
    cases ds with
    | nil => cases e
    | cons d ds =>
      obtain ⟨v, vs, rfl, h1, h2⟩ := hd
      obtain ⟨S1, e1, e2⟩ := Option.bind_eq_some_iff.mp (show (mt d S).bind (mts ds) = some S' from e)
      refine ⟨v, vs, rfl, w, S, d, S1, rel, h1, e1, fun w1 H1 σ1 ex1 rel1 ag1 => ?_⟩
      exact ⟨w1, S1, ds, S', rel1, RelDs.mono ex1 _ _ h2, e2, fun w2 H2 σ2 ex2 rel2 ag2 => q w2 H2 σ2 (ex1.trans ex2) rel2 (ag1.trans ag2)⟩
theorem sg_tup {es : List Expr} {k n : Nat} {mts : List D → Mem → Option Mem} (hc : X.calm = true) (h : SGts X es is mts) (hn : n = es.length) (ha : es.all noStar = true) : SGt X (.Tuple es k pos) is (mtTup n mts) := by
  have hl : (assignEach es X.env).length = n := by rw [hn]; exact assignEach_len ha
  exact PG.imp (pg_or (pg_tup (n := n) hc h hl (assignEach_star ha)) (pg_lst (n := n) hc h hl (assignEach_star ha))) fun v σ H Q t => by
    obtain ⟨w, S, d, S', rel, hd, e, q⟩ := t
    cases d with
    | tup ds =>
      have e' : (if ds.length = n then mts ds S else none) = some S' := e
      by_cases hl : ds.length = n
      · rw [if_pos hl] at e'
        obtain ⟨a, xs, rfl, h1, h2⟩ := TupAt.rel hd
        exact .inl ⟨a, xs, rfl, h1, by rw [← h2.length]; exact hl, w, S, ds, S', rel, h2, e', q⟩
      · rw [if_neg hl] at e'; cases e'
    | lst ds =>
      have e' : (if ds.length = n then mts ds S else none) = some S' := e
      by_cases hl : ds.length = n
      · rw [if_pos hl] at e'
        obtain ⟨a, xs, rfl, _, h1, h2⟩ := hd
        exact .inr ⟨a, xs, rfl, .inl (.inl h1), by rw [← h2.length]; exact hl, w, S, ds, S', rel, h2, e', q⟩
      · rw [if_neg hl] at e'; cases e'
    | _ => cases e
end
/-! ### what is walked -/
structure WalkR (K : PySem.W.Frag) (w : Wd) (H : Hp) (ds : List D) (J : It) : Prop where
  go : ∀ w' H', Ext w H w' H' → ∀ i, i < ds.length → J.go i H'
  stop : ∀ w' H', Ext w H w' H' → J.stop ds.length H'
  yld : ∀ w' H' i x H'', Ext w H w' H' → i < ds.length → J.yld i H' x H'' → ∃ d, ds[i]? = some d ∧ ∀ σ S, Rel K w' H' σ S → ∃ w'', Ext w' H' w'' H'' ∧ Rel K w'' H'' σ S ∧ RelD K w'' H'' d x
theorem PI.imp {X : Cx} {tg e : Expr} {t t' : TI} (h : PI X tg e t) (i : ∀ σ H R, t' σ H R → t σ H R) : PI X tg e t' := ⟨fun pins s σ H R I q => h.run pins s σ H R I (i σ H R q)⟩
def SI (X : Cx) (tg e : Expr) (m : Mem → Res (List D)) : Prop := ∀ W, Takes X W → PI X tg e (tG X.K (WalkR X.K) m W)
section
variable {K : PySem.W.Frag} {w w' : Wd} {H H' : Hp}
theorem walk_list {a : Addr} {ds : List D} {xs : List V} (hk : ∀ w' H', Ext w H w' H' → SqL K H' a xs) (hr : RelDs K w H ds xs) : WalkR K w H ds (Itl K a) where
  go := fun w' H' ex i hi => by
    obtain ⟨v, hv, _⟩ := hr.get (List.getElem?_eq_getElem hi)
    exact ⟨xs, v, hk _ _ ex, hv⟩
  stop := fun w' H' ex => ⟨xs, hk _ _ ex, by rw [hr.length]; exact Nat.le_refl _⟩
  yld := fun w' H' i x H'' ex _ ⟨e, hy⟩ => by
    obtain ⟨d, hd, hr'⟩ := hr.getV (hy xs (hk _ _ ex))
    exact ⟨d, hd, fun σ S rel => ⟨w', by rw [e]; exact Ext.refl _ _, by rw [e]; exact rel, by rw [e]; exact RelD.mono ex _ _ hr'⟩⟩
theorem walk_tup {a : Addr} {ds : List D} {xs : List V} (hk : ∀ w' H', Ext w H w' H' → SqT K H' a xs) (hr : RelDs K w H ds xs) : WalkR K w H ds (Itt K a) where
  go := fun w' H' ex i hi => by
    obtain ⟨v, hv, _⟩ := hr.get (List.getElem?_eq_getElem hi)
    exact ⟨xs, v, hk _ _ ex, hv⟩
  stop := fun w' H' ex => ⟨xs, hk _ _ ex, by rw [hr.length]; exact Nat.le_refl _⟩
  yld := fun w' H' i x H'' ex _ ⟨e, hy⟩ => by
    obtain ⟨d, hd, hr'⟩ := hr.getV (hy xs (hk _ _ ex))
    exact ⟨d, hd, fun σ S rel => ⟨w', by rw [e]; exact Ext.refl _ _, by rw [e]; exact rel, by rw [e]; exact RelD.mono ex _ _ hr'⟩⟩
def rangeDs (lo : Int) (n : Nat) : List D := (List.range n).map fun (i : Nat) => D.int (lo + i)
theorem walk_range (lo : Int) (n : Nat) : WalkR K w H (rangeDs lo n) (Itr lo n) where
  go := fun w' H' ex i hi => by
    show i < n
    simpa [rangeDs] using hi
  stop := fun w' H' ex => by
    show n ≤ _
    simp [rangeDs]
  yld := fun w' H' i x H'' ex hi ⟨e, hx⟩ => by
    have hi' : i < n := by simpa [rangeDs] using hi
    refine ⟨.int (lo + i), by simp [rangeDs, hi'], fun σ S rel => ⟨w', by rw [e]; exact Ext.refl _ _, by rw [e]; exact rel, hx⟩⟩
def charDs (s : Str) : List D := s.cps.toList.map fun c => D.str ⟨#[c]⟩
theorem walk_str (s : Str) : WalkR K w H (charDs s) (Its s) where
  go := fun w' H' ex i hi => by
    show i < s.cps.size
    simpa [charDs] using hi
  stop := fun w' H' ex => by
    show s.cps.size ≤ _
    simp [charDs]
  yld := fun w' H' i x H'' ex hi ⟨e, c, hc, hx⟩ => by
    refine ⟨.str ⟨#[c]⟩, by simp [charDs, hc], fun σ S rel => ⟨w', by rw [e]; exact Ext.refl _ _, by rw [e]; exact rel, hx⟩⟩
theorem SqL.of_frz {a : Addr} {xs : List V} (h : H a = some (.lst xs)) : SqL K H a xs := .inl (.inl h)
end
/-! ### a dict that is walked: it is locked -/
section
variable {K : PySem.W.Frag} {w w' : Wd} {H H' : Hp} {d : Addr} {o : Obj}
theorem RelK.get : ∀ {kvs : List (D × D)} {gs : List (Key × V)} {i : Nat} {k : Key} {v : V}, RelK K w H kvs gs → gs[i]? = some (k, v) → (kvs.map (·.1))[i]? = some (keyOf k)
  | [], _, i, k, v, h, e => by
    rw [show _ = ([] : List (Key × V)) from h] at e
    cases e
  | (k0, d) :: kvs, _, 0, k, v, h, e => by
    obtain ⟨q, v', gs, rfl, rfl, _, _⟩ := h
    cases e
    rfl
  | (k0, d) :: kvs, _, i + 1, k, v, h, e => by
    obtain ⟨q, v', gs, rfl, rfl, _, h2⟩ := h
    rw [List.getElem?_cons_succ] at e
    rw [List.map_cons, List.getElem?_cons_succ]
    exact RelK.get h2 e
theorem RelT.get : ∀ {kvs : List (D × D)} {gs : List (List Key × V)} {i : Nat} {k : List Key} {v : V}, RelT K w H kvs gs → gs[i]? = some (k, v) → (kvs.map (·.1))[i]? = some (.tup (k.map keyOf))
  | [], _, i, k, v, h, e => by
    rw [show _ = ([] : List (List Key × V)) from h] at e
    cases e
  | (k0, d) :: kvs, _, 0, k, v, h, e => by
    obtain ⟨q, v', gs, rfl, rfl, _, _⟩ := h
    cases e
    rfl
  | (k0, d) :: kvs, _, i + 1, k, v, h, e => by
    obtain ⟨q, v', gs, rfl, rfl, _, h2⟩ := h
    rw [List.getElem?_cons_succ] at e
    rw [List.map_cons, List.getElem?_cons_succ]
    exact RelT.get h2 e
theorem walk_dK {kvs : List (D × D)} {gs : List (Key × V)} (hd : H d = some (.frz o (.dK gs))) (hr : RelK K w H kvs gs) : WalkR K w H (kvs.map (·.1)) (Itk d o gs) where
  go := fun w' H' ex i hi => ⟨ex.lok _ _ _ hd, by rw [List.length_map, hr.len] at hi; exact hi⟩
  stop := fun w' H' ex => ⟨ex.lok _ _ _ hd, by rw [List.length_map, hr.len]; exact Nat.le_refl _⟩
  yld := fun w' H' i x H'' ex _ ⟨e, k, v, hk, hx⟩ =>
    ⟨keyOf k, hr.get hk, fun σ S rel => ⟨w', by rw [e]; exact Ext.refl _ _, by rw [e]; exact rel, by rw [hx]; cases k <;> rfl⟩⟩
theorem walk_dT {kvs : List (D × D)} {gs : List (List Key × V)} (hd : H d = some (.frz o (.dT gs))) (hr : RelT K w H kvs gs) : WalkR K w H (kvs.map (·.1)) (Itkt d o gs) where
  go := fun w' H' ex i hi => ⟨ex.lok _ _ _ hd, by rw [List.length_map, hr.len] at hi; exact hi⟩
  stop := fun w' H' ex => ⟨ex.lok _ _ _ hd, by rw [List.length_map, hr.len]; exact Nat.le_refl _⟩
  yld := fun w' H' i x H'' ex _ ⟨e, k, v, q, hk, hx, hq⟩ =>
    ⟨.tup (k.map keyOf), hr.get hk, fun σ S rel => ⟨w', by rw [e]; exact Ext.refl _ _, by rw [e]; exact rel, by
      rw [hx]
      exact ⟨q, k.map kV, rfl, by rw [e]; exact hq, RelDs.of_keys k⟩⟩⟩
theorem Rel.lockF {σ : L2.St} {S : Mem} {u ob : HO} (rel : Rel K w H σ S) (hr : w.role d = some .frz) (hl : Lkd (H d) (some ob)) (hd : H d = some u) (hu : Mut (some u)) : Ext w H w (L2.upd H d ob) ∧ Rel K w (L2.upd H d ob) σ S := by
  have ex : Ext w H w (L2.upd H d ob) := by
    refine ⟨⟨fun b h => ⟨h, ?_⟩, fun n h => ⟨rfl, h⟩, fun b xs h => ?_⟩, fun b h => ⟨h, upd_ne fun z => by rw [z, hr] at h; cases h⟩, fun b o' u' h => ?_⟩
    · by_cases e : b = d
      · rw [e, upd_same]; exact hl
      · exact .inl (upd_ne e)
    · rw [upd_ne fun z => by rw [z, hd] at h; cases h; exact hu]; exact h
    · rw [upd_ne fun z => by rw [z, hd] at h; cases h; exact hu]; exact h
  refine ⟨ex, rel.len, fun i sl h => ?_, fun n c h => ?_, rel.live, fun a r h => ?_⟩
  · obtain ⟨ov, h1, h2⟩ := rel.slots i sl h
    exact ⟨ov, h1, h2.mono ex fun a c _ _ ha => ⟨ha, upd_ne fun z => by rw [z, hr] at ha; cases ha⟩⟩
  · obtain ⟨h1, h2⟩ := rel.cells n c h
    exact ⟨h1, h2.mono ex (upd_ne fun z => by rw [z, hr] at h1; cases h1)⟩
  · by_cases e : a = d
    · rw [e, upd_same]; simp
    · rw [upd_ne e]; exact rel.trk a r h
end
section
variable {X : Cx} {tg e : Expr} {m : Mem → Res D} {pos : Pos}
/-- a value that is walked: an iterator comes -/
theorem it_dK {pins : List (Addr × Obj)} {σ : L2.St} {H : Hp} {s : Shared} {d : Addr} {o : Obj} {gs : List (Key × V)} {R : It → Hp → Prop} {E : Value → Shared → Prop} (I : Inv X pins σ H s) (hd : H d = some (.frz o (.dK gs))) (q : R (Itk d o gs) H) : wpAny (model X.prog X.w) X.A (pyIter (.ref d)) (PIE X pins σ tg R) E s := by
  obtain ⟨k1, k2, k3, es, ep, vs, k4, k5, _, _⟩ := I.frzK hd
  refine iter_keys k1 k2 k3 k4 (pi_one (tk := s.toks) I _ (turn_keys _ k4) ⟨_, Heap.get?_push_size _ rfl, rfl, ?_⟩ q)
  rw [k5] <;> rfl
theorem it_dT {pins : List (Addr × Obj)} {σ : L2.St} {H : Hp} {s : Shared} {d : Addr} {o : Obj} {gs : List (List Key × V)} {R : It → Hp → Prop} {E : Value → Shared → Prop} (I : Inv X pins σ H s) (hd : H d = some (.frz o (.dT gs))) (q : R (Itkt d o gs) H) : wpAny (model X.prog X.w) X.A (pyIter (.ref d)) (PIE X pins σ tg R) E s := by
  obtain ⟨k1, k2, k3, es, ep, k4, k5, _⟩ := I.frzT hd
  refine iter_keys k1 k2 k3 k4 (pi_one (tk := s.toks) I _ (turn_keysT _ k4) ⟨_, Heap.get?_push_size _ rfl, rfl, ?_⟩ q)
  rw [k5] <;> rfl
theorem it_list {pins : List (Addr × Obj)} {σ : L2.St} {H : Hp} {s : Shared} {a : Addr} {xs : List V} {R : It → Hp → Prop} {E : Value → Shared → Prop} (I : Inv X pins σ H s) (hq : SqL X.K H a xs) (q : R (Itl X.K a) H) : wpAny (model X.prog X.w) X.A (pyIter (.ref a)) (PIE X pins σ tg R) E s := by
  obtain ⟨its, rv, p, hz⟩ := I.list hq
  exact wpAny_pyIter_list p.isList (pi_one (tk := s.toks) I _ (turn_list a _) ⟨_, Heap.get?_push_size _ rfl, rfl, rfl⟩ q)
theorem it_tup {pins : List (Addr × Obj)} {σ : L2.St} {H : Hp} {s : Shared} {a : Addr} {xs : List V} {R : It → Hp → Prop} {E : Value → Shared → Prop} (I : Inv X pins σ H s) (hq : SqT X.K H a xs) (q : R (Itt X.K a) H) : wpAny (model X.prog X.w) X.A (pyIter (.ref a)) (PIE X pins σ tg R) E s := by
  obtain ⟨its, rv, p, hz⟩ := I.tuple hq
  exact wpAny_pyIter_tuple (show s.heap.IsTuple a its.toArray from p) (pi_one (tk := s.toks) I _ (turn_tuple a _) ⟨_, Heap.get?_push_size _ rfl, rfl, rfl⟩ q)
theorem it_str {pins : List (Addr × Obj)} {σ : L2.St} {H : Hp} {s : Shared} {x : Str} {t : Tok} {R : It → Hp → Prop} {E : Value → Shared → Prop} (I : Inv X pins σ H s) (q : R (Its x) H) : wpAny (model X.prog X.w) X.A (pyIter (.str x t)) (PIE X pins σ tg R) E s := by
  cases ha : x.cps.all (· < 128)
  · exact wpAny_pyIter_wide ha (pi_one (tk := s.toks) I _ (turn_str _ x t "str_iterator" (.inr rfl)) ⟨_, Heap.get?_push_size _ rfl, rfl, rfl⟩ q)
  · exact wpAny_pyIter_ascii ha (pi_one (tk := s.toks) I _ (turn_str _ x t "str_ascii_iterator" (.inl rfl)) ⟨_, Heap.get?_push_size _ rfl, rfl, rfl⟩ q)
def iAny (K : PySem.W.Frag) (te : TE) : TI := fun σ H R => te σ H fun x H1 => (∃ a xs, x = .ref a ∧ SqL K H1 a xs ∧ R (Itl K a) H1) ∨ (∃ a xs, x = .ref a ∧ SqT K H1 a xs ∧ R (Itt K a) H1) ∨ (∃ z, x = .str z ∧ R (Its z) H1) ∨ ∃ d, x = .ref d ∧ ((∃ gs, (∃ o, H1 d = some (.frz o (.dK gs)) ∧ R (Itk d o gs) H1) ∨ (H1 d = some (.dK gs) ∧ ∀ o, R (Itk d o gs) (L2.upd H1 d (.frz o (.dK gs))))) ∨ ∃ gs, (∃ o, H1 d = some (.frz o (.dT gs)) ∧ R (Itkt d o gs) H1) ∨ (H1 d = some (.dT gs) ∧ ∀ o, R (Itkt d o gs) (L2.upd H1 d (.frz o (.dT gs)))))
theorem pi_any {te : TE} (he : PE X e te) : PI X tg e (iAny X.K te) := by
  refine ⟨fun pins s σ H R I h => ?_⟩
  refine thn (he.run pins s σ H _ I h) fun v s1 ⟨x, H1, I1, r1, q1⟩ => ?_
  rcases q1 with ⟨a, xs, rfl, hq, q⟩ | ⟨a, xs, rfl, hq, q⟩ | ⟨z, rfl, q⟩ | ⟨d, rfl, q⟩
  · cases r1
    exact it_list I1 hq q
  · cases r1
    exact it_tup I1 hq q
  · obtain ⟨t, rfl⟩ := r1
    exact it_str I1 q
  · cases r1
    rcases q with ⟨gs, ⟨o, hd, q⟩ | ⟨hd, q⟩⟩ | ⟨gs, ⟨o, hd, q⟩ | ⟨hd, q⟩⟩
    · exact it_dK I1 hd q
    · obtain ⟨o, I2⟩ := I1.lock hd trivial
      exact it_dK I2 upd_same (q o)
    · exact it_dT I1 hd q
    · obtain ⟨o, I2⟩ := I1.lock hd trivial
      exact it_dT I2 upd_same (q o)
def walkD : D → Option (List D)
  | .lst ds => some ds
  | .tup ds => some ds
  | .scr ns => some (ns.map .int)
  | .str s => some (charDs s)
  | .dct _ kvs => some (kvs.map (·.1))
  | _ => none
def mWalk (m : Mem → Res D) : Mem → Res (List D) := fun S => (m S).bind fun d S1 => ofO (walkD d) S1
theorem si_any (he : SV X e m) : SI X tg e (mWalk m) := fun W tk =>
  PI.imp (pi_any (he W tk)) fun σ H R t => tG_bind t fun v H1 d S1 w1 rel q p => by
    cases ew : walkD d with
    | none => rw [ew] at p; exact p.elim
    | some ds =>
      rw [ew] at p
      have fin : ∀ J, WalkR X.K w1 H1 ds J → R J H1 := fun J hw => p w1 H1 J (Ext.refl _ _) rel hw
      cases d with
      | lst es =>
        cases ew
        obtain ⟨a, xs, rfl, h1, h2, h3⟩ := q
        refine .inl ⟨a, xs, rfl, .of h2, fin _ (walk_list (fun w' H' ex => .of ((ex.frz a h1).2.lst h2)) h3)⟩
      | tup es =>
        cases ew
        obtain ⟨a, xs, rfl, h1, h2⟩ := q
        exact .inr (.inl ⟨a, xs, rfl, h1.sq, fin _ (walk_tup (fun w' H' ex => (h1.mono ex).sq) h2)⟩)
      | scr ns =>
        cases ew
        obtain ⟨a, rfl, h1⟩ := q
        refine .inl ⟨a, ns.map V.int, rfl, ?_, fin _ ?_⟩
        · exact (scr_seq (K := X.K) (w := w1) (H := H1) (ns := ns) (x := .ref a) ⟨a, rfl, h1⟩).elim fun b hb => by cases hb.1; exact hb.2
        · refine walk_list (fun w' H' ex => ?_) (RelDs.ints ns)
          exact (scr_seq (K := X.K) (w := w') (H := H') (ns := ns) (x := .ref a) (RelD.mono ex (.scr ns) _ ⟨a, rfl, h1⟩)).elim fun b hb => by cases hb.1; exact hb.2
      | str z =>
        cases ew
        exact .inr (.inr (.inl ⟨z, q, fin _ (walk_str z)⟩))
      | dct t kvs =>
        cases ew
        cases t with
        | false =>
          obtain ⟨a, gs, rfl, h1, h2, h3⟩ := q
          rcases h2 with h2 | ⟨o, h2⟩
          · refine .inr (.inr (.inr ⟨a, rfl, .inl ⟨gs, .inr ⟨h2, fun o => ?_⟩⟩⟩))
            obtain ⟨ex, rel2⟩ := rel.lockF (ob := .frz o (.dK gs)) h1 (.inr ⟨o, .inl ⟨gs, h2, rfl⟩⟩) h2 trivial
            exact p w1 _ _ ex rel2 (walk_dK upd_same (RelK.mono ex _ _ h3))
          · exact .inr (.inr (.inr ⟨a, rfl, .inl ⟨gs, .inl ⟨o, h2, fin _ (walk_dK h2 h3)⟩⟩⟩))
        | true =>
          obtain ⟨a, gs, rfl, h1, h2, h3⟩ := q
          rcases h2 with h2 | ⟨o, h2⟩
          · refine .inr (.inr (.inr ⟨a, rfl, .inr ⟨gs, .inr ⟨h2, fun o => ?_⟩⟩⟩))
            obtain ⟨ex, rel2⟩ := rel.lockF (ob := .frz o (.dT gs)) h1 (.inr ⟨o, .inr ⟨gs, h2, rfl⟩⟩) h2 trivial
            exact p w1 _ _ ex rel2 (walk_dT upd_same (RelT.mono ex _ _ h3))
          · exact .inr (.inr (.inr ⟨a, rfl, .inr ⟨gs, .inl ⟨o, h2, fin _ (walk_dT h2 h3)⟩⟩⟩))
      | _ => cases ew
end
end HM

set_option Elab.async false
set_option linter.all false
set_option maxRecDepth 100000
set_option maxHeartbeats 4000000
namespace HM
open PySem PySem.Spec L2
section
variable {X : Cx} {tg e a b : Expr} {m ma mb : Mem → Res D} {pos p : Pos}
/-! ### range -/
def rangeOk (i : Int) : Bool := decide (-(2 ^ 62) ≤ i ∧ i < 2 ^ 62)
def mRange1 (m : Mem → Res D) : Mem → Res (List D) := fun S => (m S).bind fun d S1 => match d with
  | .int j => if rangeOk j = true then .ok (rangeDs 0 j.toNat) S1 else .bad
  | _ => .bad
def mRange2 (ma mb : Mem → Res D) : Mem → Res (List D) := fun S => (ma S).bind fun d S1 => (mb S1).bind fun d2 S2 => match d, d2 with
  | .int i, .int j => if (rangeOk i && rangeOk j) = true then .ok (rangeDs i (j - i).toNat) S2 else .bad
  | _, _ => .bad
theorem si_range1 (hg : Gl X "range") (hm : X.mg "range" = none) (ha : SV X a m) (hs : starEach [a] X.env = (false, eval a X.env) :: starEach [] X.env) : SI X tg (.Call (.Name "range" p) [a] [] pos) (mRange1 m) := fun W tk =>
  PI.imp (pi_range1 hg hm (pa_cons (ha W tk) pa_nil hs) hs) fun σ H R t => tG_bind t fun v H1 d S1 w1 rel q p => by
    cases d with
    | int j =>
      by_cases hj : rangeOk j = true
      · have p' : postG X.K (WalkR X.K) w1 H1 σ W R (if rangeOk j = true then .ok (rangeDs 0 j.toNat) S1 else .bad) := p
        rw [if_pos hj] at p'
        obtain ⟨h1, h2⟩ := of_decide_eq_true hj
        exact ⟨j, by rw [show v = _ from q], h1, h2, p' w1 H1 _ (Ext.refl _ _) rel (walk_range 0 j.toNat)⟩
      · have p' : postG X.K (WalkR X.K) w1 H1 σ W R (if rangeOk j = true then .ok (rangeDs 0 j.toNat) S1 else .bad) := p
        rw [if_neg hj] at p'
        exact p'.elim
    | _ => exact p.elim
theorem si_range2 (hg : Gl X "range") (hm : X.mg "range" = none) (ha : SV X a ma) (hb : SV X b mb) (hs : starEach [a, b] X.env = (false, eval a X.env) :: starEach [b] X.env) (hs2 : starEach [b] X.env = (false, eval b X.env) :: starEach [] X.env) : SI X tg (.Call (.Name "range" p) [a, b] [] pos) (mRange2 ma mb) := fun W tk =>
  PI.imp (pi_range2 hg hm (pa_cons (ha W tk) (pa_cons (hb W tk) pa_nil hs2) hs) (by rw [hs, hs2]; rfl) hs2) fun σ H R t => tG_bind t fun v H1 d S1 w1 rel q p => tG_of rel p fun v2 H2 d2 S2 w2 rel2 q2 ex2 p2 => by
    cases d with
    | int i =>
      cases d2 with
      | int j =>
        have p' : postG X.K (WalkR X.K) w2 H2 σ W R (if (rangeOk i && rangeOk j) = true then .ok (rangeDs i (j - i).toNat) S2 else .bad) := p2
        by_cases hj : (rangeOk i && rangeOk j) = true
        · rw [if_pos hj] at p'
          rw [Bool.and_eq_true] at hj
          obtain ⟨h1, h2⟩ := of_decide_eq_true hj.1
          obtain ⟨h3, h4⟩ := of_decide_eq_true hj.2
          exact ⟨i, j, by rw [show v = _ from q, show v2 = _ from q2], ⟨h1, h2, h3, h4⟩, p' w2 H2 _ (Ext.refl _ _) rel2 (walk_range i (j - i).toNat)⟩
        · rw [if_neg hj] at p'
          exact p'.elim
      | _ => exact p2.elim
    | _ => exact p2.elim
/-! ### for -/
def turnO (o : Out) (k : Mem → Out) : Out := match o with
  | .nx S2 => k S2
  | .ct S2 => k S2
  | .bk S2 => .nx S2
  | o => o
def forL (mt : D → Mem → Option Mem) (mb : Mem → Out) : List D → Mem → Out
  | [], S => .nx S
  | d :: ds, S => match mt d S with
    | none => .bad
    | some S1 => turnO (mb S1) (forL mt mb ds)
def mFor (mi : Mem → Res (List D)) (mt : D → Mem → Option Mem) (mb : Mem → Out) : Mem → Out := fun S => (mi S).out fun ds S1 => forL mt mb ds S1
theorem s_for {iter : Expr} {body : List Stmt} {is : List Nat} {mi : Mem → Res (List D)} {mt : D → Mem → Option Mem} {mbd : Mem → Out} (hc : X.calm = true) (hi : SI X tg iter mi) (hg : SGt X tg is mt) (hb : SSs X body mbd) (hs : ∀ x, foldedSetIterable iter X.env x = pure x) :
    SS X (.For tg iter body [] pos) (mFor mi mt mbd) := fun W tk hp =>
  PS.imp (ps_for hp hc (hi W tk) hg (hb W tk hp) hs) fun D σ H t => by
    obtain ⟨w, S, rel, p⟩ := t
    refine tO_of rel p fun J H1 ds S1 w1 rel1 hw ex1 p1 => ?_
    refine ⟨fun i n σ H => n = ds.length - i ∧ i ≤ ds.length ∧ ∃ w' S', Rel X.K w' H σ S' ∧ Ext w1 H1 w' H ∧ postO X.K w' H W D (forL mt mbd (ds.drop i) S'), ⟨_, rfl, Nat.zero_le _, w1, S1, rel1, Ext.refl _ _, p1⟩, ?_⟩
    rintro i n σ2 H2 ⟨rfl, hi2, w2, S2, rel2, ex2, p2⟩
    by_cases hlt : i < ds.length
    · refine .inr ⟨hw.go _ _ ex2 i hlt, fun σ' H' => ∃ w' S', Rel X.K w' H' σ' S' ∧ Ext w1 H1 w' H' ∧ postO X.K w' H' W D (forL mt mbd (ds.drop (i + 1)) S'), fun σ' H' ⟨w', S', r', e', q'⟩ => ⟨ds.length - (i + 1), by omega, rfl, hlt, w', S', r', e', q'⟩, fun x H' hy => ?_⟩
      obtain ⟨d, hd, hrel⟩ := hw.yld _ _ i x H' ex2 hlt hy
      obtain ⟨w3, ex3, rel3, hx⟩ := hrel σ2 S2 rel2
      have hdrop : ds.drop i = d :: ds.drop (i + 1) := by
        rw [List.drop_eq_getElem_cons hlt]
        have : ds[i] = d := by
          rw [List.getElem?_eq_getElem hlt] at hd
          exact Option.some.inj hd
        rw [this]
      rw [hdrop] at p2
      have p2' : postO X.K w2 H2 W D (match mt d S2 with
        | none => .bad
        | some S1 => turnO (mbd S1) (forL mt mbd (ds.drop (i + 1)))) := p2
      cases em : mt d S2 with
      | none => rw [em] at p2'; exact p2'.elim
      | some S3 =>
        rw [em] at p2'
        refine ⟨w3, S2, d, S3, rel3, hx, em, fun w4 H4 σ4 ex4 rel4 _ => ⟨w4, S3, rel4, ?_⟩⟩
        have p3 : postO X.K w2 H2 W D (turnO (mbd S3) (forL mt mbd (ds.drop (i + 1)))) := p2'
        have p4 := postO.ext (ex3.trans ex4) p3
        have base : Ext w1 H1 w4 H4 := (ex2.trans ex3).trans ex4
        cases eb : mbd S3 with
        | nx S5 =>
          rw [eb] at p4
          exact fun w' H' σ' ex rl => ⟨w', S5, rl, base.trans ex, postO.ext ex p4⟩
        | ct S5 =>
          rw [eb] at p4
          exact fun w' H' σ' ex rl => ⟨w', S5, rl, base.trans ex, postO.ext ex p4⟩
        | bk S5 => rw [eb] at p4; exact p4
        | rt _ _ => rw [eb] at p4; exact p4
        | exc _ _ _ => rw [eb] at p4; exact p4
        | bad => rw [eb] at p4; exact p4
    · have e : i = ds.length := by omega
      subst e
      rw [List.drop_length] at p2
      exact .inl ⟨hw.stop _ _ ex2, p2 w2 H2 σ2 (Ext.refl _ _) rel2⟩
end
/-! ### the turns of a comprehension -/
def wipeE : List Slot → List Nat → List Slot
  | env, [] => env
  | env, v :: vs => (wipeE env vs).set v .none
def wipeM (vs : List Nat) (S : Mem) : Mem := { S with env := wipeE S.env vs }
/-- what was wiped comes back -/
def backM (vs : List Nat) (S0 S : Mem) : Mem := { S with env := vs.foldl (fun env v => env.set v (S0.env.getD v .none)) S.env }
def notOwn : Slot → Bool
  | .own _ => false
  | _ => true
theorem wipeE_len (env : List Slot) : ∀ vs, (wipeE env vs).length = env.length
  | [] => rfl
  | v :: vs => by unfold wipeE; rw [List.length_set, wipeE_len env vs]
theorem wipeE_at {env : List Slot} {i : Nat} {sl : Slot} : ∀ {vs : List Nat}, (wipeE env vs)[i]? = some sl → (i ∈ vs ∧ sl = .none) ∨ (i ∉ vs ∧ env[i]? = some sl)
  | [], h => .inr ⟨by simp, h⟩
  | v :: vs, h => by
    unfold wipeE at h
    by_cases e : v = i
    · subst e
      by_cases hl : v < (wipeE env vs).length
      · rw [List.getElem?_set_self hl] at h
        cases h
        exact .inl ⟨by simp, rfl⟩
      · rw [List.getElem?_eq_none (by simpa using hl)] at h
        cases h
    · rw [List.getElem?_set_ne e] at h
      rcases wipeE_at h with ⟨h1, h2⟩ | ⟨h1, h2⟩
      · exact .inl ⟨List.mem_cons_of_mem _ h1, h2⟩
      · exact .inr ⟨by simp only [List.mem_cons, not_or]; exact ⟨fun q => e q.symm, h1⟩, h2⟩
theorem wipe_ne {σ : L2.St} {j : Nat} : ∀ {vs : List Nat}, j ∉ vs → (wipe σ vs)[j]? = σ[j]?
  | [], _ => rfl
  | v :: vs, h => by
    unfold wipe
    rw [List.getElem?_set_ne (fun e => h (by rw [e]; simp)), wipe_ne fun q => h (List.mem_cons_of_mem _ q)]
theorem wipe_agree {σ σ' : L2.St} {is : List Nat} (h : Agree is σ σ') : wipe σ' is = wipe σ is := by
  refine List.ext_getElem? fun j => ?_
  by_cases hj : j ∈ is
  · have key : ∀ (τ : L2.St) (vs : List Nat), j ∈ vs → (wipe τ vs)[j]? = if j < τ.length then some none else none := fun τ vs => by
      induction vs with
      | nil => intro q; cases q
      | cons v vs ih =>
        intro q
        unfold wipe
        by_cases e : v = j
        · subst e
          by_cases hl : v < τ.length
          · rw [List.getElem?_set_self (by rw [wipe_length]; exact hl), if_pos hl]
          · rw [if_neg hl, List.getElem?_eq_none (by rw [List.length_set, wipe_length]; omega)]
        · rw [List.getElem?_set_ne e]
          exact ih ((List.mem_cons.mp q).resolve_left fun z => e z.symm)
    rw [key _ _ hj, key _ _ hj, h.1]
  · rw [wipe_ne hj, wipe_ne hj, h.2 j hj]
theorem wipe_wipe (σ : L2.St) (vs : List Nat) : Agree vs (wipe σ vs) σ := ⟨(wipe_length σ vs).symm, fun j hj => (wipe_ne hj).symm⟩
section
variable {K : PySem.W.Frag} {w w' : Wd} {H H' : Hp} {σ σ' : L2.St} {S S0 : Mem}
/-- other slots, the wiped ones forgotten -/
theorem Rel.wiped (rel : Rel K w H σ S) {vs : List Nat} (ag : Agree vs σ σ') : Rel K w H σ' (wipeM vs S) where
  len := by rw [ag.1, rel.len]; exact (wipeE_len S.env vs).symm
  slots := fun i sl h => by
    rcases wipeE_at (show (wipeE S.env vs)[i]? = some sl from h) with ⟨h1, rfl⟩ | ⟨h1, h2⟩
    · have hl : i < σ'.length := by
        have := (List.getElem?_eq_some_iff.mp h).1
        rw [ag.1, rel.len, ← wipeE_len S.env vs]
        exact this
      exact ⟨_, List.getElem?_eq_getElem hl, trivial⟩
    · obtain ⟨ov, k1, k2⟩ := rel.slots i sl h2
      exact ⟨ov, by rw [ag.2 i h1]; exact k1, k2⟩
  cells := rel.cells
  live := rel.live
  trk := rel.trk
theorem back_at {vs : List Nat} {env0 : List Slot} : ∀ {env : List Slot} {i : Nat} {sl : Slot}, (vs.foldl (fun env v => env.set v (env0.getD v .none)) env)[i]? = some sl → (i ∈ vs ∧ sl = env0.getD i .none) ∨ (i ∉ vs ∧ env[i]? = some sl) := by
  induction vs with
  | nil => intro env i sl h; exact .inr ⟨by simp, h⟩
  | cons v vs ih =>
    intro env i sl h
    rcases ih (show (vs.foldl _ (env.set v (env0.getD v .none)))[i]? = some sl from h) with ⟨h1, h2⟩ | ⟨h1, h2⟩
    · exact .inl ⟨List.mem_cons_of_mem _ h1, h2⟩
    · by_cases e : v = i
      · subst e
        by_cases hl : v < env.length
        · rw [List.getElem?_set_self hl] at h2
          exact .inl ⟨by simp, (Option.some.inj h2).symm⟩
        · rw [List.getElem?_eq_none (by simpa using hl)] at h2
          cases h2
      · rw [List.getElem?_set_ne e] at h2
        exact .inr ⟨by simp only [List.mem_cons, not_or]; exact ⟨fun q => e q.symm, h1⟩, h2⟩
theorem back_len {vs : List Nat} {env0 : List Slot} : ∀ {env : List Slot}, (vs.foldl (fun env v => env.set v (env0.getD v .none)) env).length = env.length := by
  induction vs with
  | nil => intro env; rfl
  | cons v vs ih => intro env; rw [List.foldl_cons, ih, List.length_set]
theorem Rel.back {w0 : Wd} {H0 : Hp} (rel : Rel K w H (wipe σ vs) S) (rel0 : Rel K w0 H0 σ S0) (ex : Ext w0 H0 w H) (no : vs.all (fun v => notOwn (S0.env.getD v .none)) = true) : Rel K w H σ (backM vs S0 S) where
  len := by rw [← wipe_length σ vs, rel.len]; exact back_len.symm
  slots := fun i sl h => by
    rcases back_at (show (vs.foldl _ S.env)[i]? = some sl from h) with ⟨h1, rfl⟩ | ⟨h1, h2⟩
    · have hno := List.all_eq_true.mp no i h1
      have hl : i < σ.length := by
        have := (List.getElem?_eq_some_iff.mp h).1
        rw [show (backM vs S0 S).env.length = S.env.length from back_len, ← rel.len, wipe_length] at this
        exact this
      cases e : S0.env.getD i .none with
      | none => exact ⟨_, List.getElem?_eq_getElem hl, trivial⟩
      | own c => rw [e] at hno; cases hno
      | val d =>
        have e' : S0.env[i]? = some (.val d) := by
          rw [List.getD_eq_getElem?_getD] at e
          cases q : S0.env[i]? with
          | none => rw [q] at e; cases e
          | some z => rw [q] at e; exact congrArg some e
        obtain ⟨ov, k1, v, k2, k3⟩ := rel0.slots i _ e'
        exact ⟨ov, k1, v, k2, RelD.mono ex _ _ k3⟩
    · obtain ⟨ov, k1, k2⟩ := rel.slots i sl h2
      exact ⟨ov, by rw [← wipe_ne h1]; exact k1, k2⟩
  cells := rel.cells
  live := rel.live
  trk := rel.trk
end
end HM

set_option Elab.async false
set_option linter.all false
set_option maxRecDepth 100000
set_option maxHeartbeats 4000000
namespace HM
open PySem PySem.Spec L2
/-- an answer; no exception -/
def Res.cbind {a b : Type} (x : Res a) (k : a → Mem → Res b) : Res b := match x with
  | .ok v m => k v m
  | _ => .bad
abbrev WNo : WX := fun _ _ _ _ => False
theorem tC_of {K : PySem.W.Frag} {a b c : Type} {R : RR a c} {m : Mem → Res a} {k : a → Mem → Res b} {P : Res b → Prop} {σ : L2.St} {H : Hp} {Q1 : c → Hp → Prop} {w : Wd} {S : Mem} (rel : Rel K w H σ S)
    (h : P ((m S).cbind k)) (hb : ¬ P .bad) (hq : ∀ v H1 r S1 w1, Rel K w1 H1 σ S1 → R w1 H1 r v → Ext w H w1 H1 → P (k r S1) → Q1 v H1) : tG K R m WNo σ H Q1 := by
  refine ⟨w, S, rel, ?_⟩
  cases e : m S with
  | ok r S1 =>
    rw [e] at h
    exact fun w' H' v ex rl q => hq v H' r S1 w' rl q ex h
  | exc c fs S1 =>
    rw [e] at h
    exact absurd h hb
  | bad =>
    rw [e] at h
    exact absurd h hb
def STs (X : Cx) (ifs : List Expr) (m : Mem → Res Bool) : Prop := ∀ W, Takes X W → PTs X ifs (tG X.K RB m W)
theorem PTs.imp {X : Cx} {e : List Expr} {t t' : TT} (h : PTs X e t) (i : ∀ σ H Q, t' σ H Q → t σ H Q) : PTs X e t' := ⟨fun pins s σ H Q I q => h.run pins s σ H Q I (i σ H Q q)⟩
def mYes : Mem → Res Bool := fun S => .ok true S
theorem sts_nil {X : Cx} : STs X [] mYes := fun W tk => PTs.imp pts_nil fun σ H Q t => by
  obtain ⟨w, S, rel, p⟩ := t
  exact p w H true (Ext.refl _ _) rel rfl
theorem sts_one {X : Cx} {c : Expr} {m : Mem → Res Bool} (h : ST X c m) : STs X [c] m := fun W tk => pts_one (h W tk)
/-! ### list comprehensions -/
def lcL (vs : List Nat) (mt : D → Mem → Option Mem) (nt : Mem → Res Bool) (me : Mem → Res D) : List D → List D → Mem → Res RD
  | [], acc, S => .ok (.own (.lst acc)) S
  | d :: ds, acc, S => match mt d S with
    | none => .bad
    | some S1 => (nt S1).cbind fun b S2 => if b = true then (me S2).cbind fun r S3 => (if acc.length < sizeLine then lcL vs mt nt me ds (acc ++ [r]) (wipeM vs S3) else .bad) else lcL vs mt nt me ds acc (wipeM vs S2)
def mLc (vs : List Nat) (mi : Mem → Res (List D)) (mt : D → Mem → Option Mem) (nt : Mem → Res Bool) (me : Mem → Res D) : Mem → Res RD := fun S => (mi S).bind fun ds S1 =>
  if vs.all (fun v => notOwn (S1.env.getD v .none)) = true then (lcL vs mt nt me ds [] (wipeM vs S1)).cbind fun r S2 => .ok r (backM vs S1 S2) else .bad
section
variable {K : PySem.W.Frag} {w : Wd} {H : Hp} {σ : L2.St} {S : Mem} {a : Addr}
def Wd.rm (w : Wd) (a : Addr) : Wd := ⟨fun b => if b = a then none else w.role b, w.addr⟩
theorem Wd.rm_ne {w : Wd} {a b : Addr} (h : b ≠ a) : (w.rm a).role b = w.role b := if_neg h
theorem Ext0.rmOut (hr : w.role a = some .out) : Ext0 w H (w.rm a) H :=
  ⟨fun b h => ⟨by rw [Wd.rm_ne fun e => by rw [e, hr] at h; cases h]; exact h, .inl rfl⟩, fun n h => ⟨rfl, by rw [Wd.rm_ne fun e => by rw [e, hr] at h; cases h]; exact h⟩, fun _ _ h => h⟩
theorem Rel.rmOut (rel : Rel K w H σ S) (hr : w.role a = some .out) : Rel K (w.rm a) H σ S where
  len := rel.len
  slots := fun i sl h => by
    obtain ⟨ov, k1, k2⟩ := rel.slots i sl h
    exact ⟨ov, k1, k2.mono0 (Ext0.rmOut hr) fun b c _ _ hb => ⟨by rw [Wd.rm_ne fun e => by rw [e, hr] at hb; cases hb]; exact hb, rfl⟩⟩
  cells := fun n c h => by
    obtain ⟨k1, k2⟩ := rel.cells n c h
    exact ⟨by show (w.rm a).role (w.addr n) = _; rw [Wd.rm_ne fun e => by rw [e, hr] at k1; cases k1]; exact k1, k2.mono0 (Ext0.rmOut hr) rfl⟩
  live := fun n h => by
    have h' : (if w.addr n = a then none else w.role (w.addr n)) = some (.cell n) := h
    by_cases e : w.addr n = a
    · rw [if_pos e] at h'; cases h'
    · rw [if_neg e] at h'; exact rel.live n h'
  trk := fun b r h => by
    have h' : (if b = a then none else w.role b) = some r := h
    by_cases e : b = a
    · rw [if_pos e] at h'; cases h'
    · rw [if_neg e] at h'; exact rel.trk b r h'
theorem Ext0.updOut {o : HO} (hr : w.role a = some .out) (ht : (∀ xs, H a ≠ some (.tup xs)) ∧ ∀ ob u, H a ≠ some (.frz ob u)) : Ext0 w H w (L2.upd H a o) :=
  ⟨fun b h => ⟨h, .inl (upd_ne fun e => by rw [e, hr] at h; cases h)⟩, fun n h => ⟨rfl, h⟩, tup_upd ht.1⟩
theorem Rel.updOut {o : HO} (rel : Rel K w H σ S) (hr : w.role a = some .out) (ht : (∀ xs, H a ≠ some (.tup xs)) ∧ ∀ ob u, H a ≠ some (.frz ob u)) : Rel K w (L2.upd H a o) σ S where
  len := rel.len
  slots := fun i sl h => by
    obtain ⟨ov, k1, k2⟩ := rel.slots i sl h
    exact ⟨ov, k1, k2.mono0 (Ext0.updOut hr ht) fun b c _ _ hb => ⟨hb, upd_ne fun e => by rw [e, hr] at hb; cases hb⟩⟩
  cells := fun n c h => by
    obtain ⟨k1, k2⟩ := rel.cells n c h
    exact ⟨k1, k2.mono0 (Ext0.updOut hr ht) (upd_ne fun e => by rw [e, hr] at k1; cases k1)⟩
  live := rel.live
  trk := fun b r h => there_upd (rel.trk b r h)
/-- an object without a role on the ground: what happens to it does not matter there -/
theorem Ext.updFree {w1 : Wd} {H1 : Hp} {o : HO} (ex : Ext w1 H1 w H) (hn : w1.role a = none) (ht : (∀ xs, H a ≠ some (.tup xs)) ∧ ∀ ob u, H a ≠ some (.frz ob u)) : Ext w1 H1 w (L2.upd H a o) :=
  have ne : ∀ b r, w1.role b = some r → b ≠ a := fun b r h e => by rw [e, hn] at h; cases h
  ⟨⟨fun b h => ⟨(ex.frz b h).1, by rw [upd_ne (ne b _ h)]; exact (ex.frz b h).2⟩, fun n h => ex.cell n h, fun b xs h => tup_upd ht.1 b xs (ex.tup b xs h)⟩, fun b h => ⟨(ex.out b h).1, (upd_ne (ne b _ h)).trans (ex.out b h).2⟩, fun b ob u h => lok_upd ht.2 b ob u (ex.lok b ob u h)⟩
theorem Ext.rmFree {w1 : Wd} {H1 : Hp} (ex : Ext w1 H1 w H) (hn : w1.role a = none) : Ext w1 H1 (w.rm a) H :=
  have ne : ∀ b r, w1.role b = some r → b ≠ a := fun b r h e => by rw [e, hn] at h; cases h
  ⟨⟨fun b h => ⟨by rw [Wd.rm_ne (ne b _ h)]; exact (ex.frz b h).1, (ex.frz b h).2⟩, fun n h => ⟨(ex.cell n h).1, by rw [Wd.rm_ne (ne _ _ h)]; exact (ex.cell n h).2⟩, ex.tup⟩, fun b h => ⟨by rw [Wd.rm_ne (ne b _ h)]; exact (ex.out b h).1, (ex.out b h).2⟩, ex.lok⟩
end
section
variable {X : Cx} {elt tg iter : Expr} {ifs : List Expr} {scope : Scope} {own : List (Str × Nat)} {pos spos : Pos} {mi : Mem → Res (List D)} {mt : D → Mem → Option Mem} {nt : Mem → Res Bool} {me : Mem → Res D} {W : WX} {vs : List Nat}
theorem tLc_of {σ : L2.St} {H : Hp} {Q : VK} (h : tG X.K (ResR X.K) (mLc vs mi mt nt me) W σ H Q) :
    tLc (tG X.K (WalkR X.K) mi W) (tT X.K vs mt) (tG X.K RB nt WNo) (tG X.K (RelD X.K) me WNo) vs σ H Q := by
  obtain ⟨w, S, rel, p⟩ := h
  refine tG_of rel p fun J H1 ds S1 w1 rel1 hw ex1 p1 D hD => ?_
  have no : vs.all (fun v => notOwn (S1.env.getD v .none)) = true := by
    rcases Bool.eq_false_or_eq_true (vs.all fun v => notOwn (S1.env.getD v .none)) with q | q
    · exact q
    · rw [if_neg (by rw [q]; simp)] at p1
      exact p1.elim
  rw [if_pos no] at p1
  have rD := rel1.fresh_role hD
  have agw : Agree vs σ (wipe σ vs) := ⟨wipe_length σ vs, fun j hj => wipe_ne hj⟩
  -- the invariant
  refine ⟨fun i n H => n = ds.length - i ∧ i ≤ ds.length ∧ ∃ w' acc xs S', Rel X.K w' H (wipe σ vs) S' ∧ w'.role D = some .out ∧ H D = some (.lst xs) ∧ RelDs X.K w' H acc xs ∧ Ext w1 H1 w' H ∧
    postG X.K (ResR X.K) w1 H1 σ W Q ((lcL vs mt nt me (ds.drop i) acc S').cbind fun r S2 => .ok r (backM vs S1 S2)), ⟨_, rfl, Nat.zero_le _, w1.put D .out, [], [], wipeM vs S1, ?_, put_same, upd_same, rfl, ?_, p1⟩, ?_⟩
  · obtain ⟨r1, g1⟩ := rel1.alloc (o := .lst []) hD
    exact (r1.put (r := .out) rD (by rw [upd_same]; simp) (fun n q => nomatch q)).wiped agw
  · obtain ⟨r1, g1⟩ := rel1.alloc (o := .lst []) hD
    exact (g1.trans (Grow.put rD)).ext
  rintro i n H2 ⟨rfl, hi2, w2, acc, xs, S2, rel2, out2, hH2, hacc, ex2, p2⟩
  by_cases hlt : i < ds.length
  · refine .inr ⟨hw.go _ _ ex2 i hlt, fun H => ∃ w' acc xs S', Rel X.K w' H (wipe σ vs) S' ∧ w'.role D = some .out ∧ H D = some (.lst xs) ∧ RelDs X.K w' H acc xs ∧ Ext w1 H1 w' H ∧
      postG X.K (ResR X.K) w1 H1 σ W Q ((lcL vs mt nt me (ds.drop (i + 1)) acc S').cbind fun r S2 => .ok r (backM vs S1 S2)), fun H' h' => ⟨ds.length - (i + 1), by omega, rfl, hlt, h'⟩, fun x H' hy => ?_⟩
    obtain ⟨d, hd, hrel⟩ := hw.yld _ _ i x H' ex2 hlt hy
    obtain ⟨w3, ex3, rel3, hx⟩ := hrel _ S2 rel2
    have hdrop : ds.drop i = d :: ds.drop (i + 1) := by
      rw [List.drop_eq_getElem_cons hlt]
      have : ds[i] = d := by
        rw [List.getElem?_eq_getElem hlt] at hd
        exact Option.some.inj hd
      rw [this]
    rw [hdrop] at p2
    have p2' : postG X.K (ResR X.K) w1 H1 σ W Q ((match mt d S2 with
      | none => .bad
      | some S1 => (nt S1).cbind fun b S2 => if b = true then (me S2).cbind fun r S3 => (if acc.length < sizeLine then lcL vs mt nt me (ds.drop (i + 1)) (acc ++ [r]) (wipeM vs S3) else .bad) else lcL vs mt nt me (ds.drop (i + 1)) acc (wipeM vs S2) : Res RD).cbind fun r S2 => .ok r (backM vs S1 S2)) := p2
    cases em : mt d S2 with
    | none => rw [em] at p2'; exact p2'.elim
    | some S3 =>
      rw [em] at p2'
      have p3 : postG X.K (ResR X.K) w1 H1 σ W Q (((nt S3).cbind fun b S2 => if b = true then (me S2).cbind fun r S3 => (if acc.length < sizeLine then lcL vs mt nt me (ds.drop (i + 1)) (acc ++ [r]) (wipeM vs S3) else .bad) else lcL vs mt nt me (ds.drop (i + 1)) acc (wipeM vs S2) : Res RD).cbind fun r S2 => .ok r (backM vs S1 S2)) := p2'
      refine ⟨w3, S2, d, S3, rel3, hx, em, fun w4 H4 σ4 ex4 rel4 ag4 => ⟨?_, ?_⟩⟩
      · rw [wipe_agree ag4]
        exact wipe_agree agw
      have ag4' : Agree vs σ4 (wipe σ vs) := ⟨ag4.1.symm, fun j hj => (ag4.2 j hj).symm⟩
      refine tC_of (P := fun r => postG X.K (ResR X.K) w1 H1 σ W Q (r.cbind fun r S2 => .ok r (backM vs S1 S2))) rel4 p3 (fun q => q) fun b H5 b' S5 w5 rel5 q5 ex5 p5 => ?_
      cases q5
      have exA : Ext w1 H1 w5 H5 := ((ex2.trans ex3).trans ex4).trans ex5
      have exB : Ext w2 H2 w5 H5 := (ex3.trans ex4).trans ex5
      cases b with
      | false =>
        have p5' : postG X.K (ResR X.K) w1 H1 σ W Q ((lcL vs mt nt me (ds.drop (i + 1)) acc (wipeM vs S5)).cbind fun r S2 => .ok r (backM vs S1 S2)) := p5
        rw [if_neg (by simp)]
        exact ⟨w5, acc, xs, wipeM vs S5, rel5.wiped ag4', (exB.out _ out2).1, (exB.out _ out2).2.trans hH2, RelDs.mono exB _ _ hacc, exA, p5'⟩
      | true =>
        rw [if_pos rfl]
        have p5' : postG X.K (ResR X.K) w1 H1 σ W Q (((me S5).cbind fun r S3 => (if acc.length < sizeLine then lcL vs mt nt me (ds.drop (i + 1)) (acc ++ [r]) (wipeM vs S3) else .bad) : Res RD).cbind fun r S2 => .ok r (backM vs S1 S2)) := p5
        refine tC_of (P := fun r => postG X.K (ResR X.K) w1 H1 σ W Q (r.cbind fun r S2 => .ok r (backM vs S1 S2))) rel5 p5' (fun q => q) fun v H6 r S6 w6 rel6 q6 ex6 p6 => ?_
        by_cases hz : acc.length < sizeLine
        · rw [if_pos hz] at p6
          have exC : Ext w2 H2 w6 H6 := exB.trans ex6
          have o6 := exC.out _ out2
          have nt6 : (∀ xs', H6 D ≠ some (.tup xs')) ∧ ∀ ob u, H6 D ≠ some (.frz ob u) := ⟨fun xs' e => (by rw [o6.2, hH2] at e; cases e), fun ob u e => (by rw [o6.2, hH2] at e; cases e)⟩
          refine ⟨xs, o6.2.trans hH2, by rw [← hacc.length]; exact hz, w6, acc ++ [r], xs ++ [v], wipeM vs S6, (rel6.updOut o6.1 nt6).wiped ag4', o6.1, upd_same, ?_, (exA.trans ex6).updFree rD nt6, p6⟩
          exact RelDs.mono0 (Ext0.updOut o6.1 nt6) _ _ ((RelDs.mono exC _ _ hacc).append (.one q6))
        · rw [if_neg hz] at p6; exact p6.elim
  · have e : i = ds.length := by omega
    subst e
    rw [List.drop_length] at p2
    refine .inl ⟨hw.stop _ _ ex2, p2 (w2.rm D) H2 (.ref D) (ex2.rmFree rD) ?_ ⟨D, rfl, if_pos rfl, xs, hH2, RelDs.mono0 (Ext0.rmOut out2) _ _ hacc⟩⟩
    exact (rel2.rmOut out2).back rel1 (ex2.rmFree rD) no
/-- the block's judgements, wherever it is run -/
abbrev Blk (X : Cx) (scope : Scope) (P : Cx → Prop) : Prop := ∀ (s : Shared) (H : Hp) (C : Addr) (cl : List (Str × Addr)) (fp : List Addr), P (X.blk s H scope (compEnvC scope cl C X.env) fp)
theorem se_lc (hc : X.calm = true) (hN : X.N.Nodup) (hi : SI X tg iter mi) (ok : BlkOk X.N X.env.scope scope own) (hv : own.map (·.2) = vs)
    (hg : Blk X scope fun Y => SGt Y tg vs mt) (ht : Blk X scope fun Y => STs Y ifs nt) (he : Blk X scope fun Y => SV Y elt me) (hs : ∀ x, foldedSetIterable iter X.env x = pure x) :
    SE X (.ListComp elt [⟨tg, iter, ifs, 0⟩] scope pos) (mLc vs mi mt nt me) := fun W tk => by
  subst hv
  exact PE.imp (pe_lc (g := tT X.K (own.map fun p : Str × Nat => p.2) mt) hc hN (hi W tk) ok (fun s H C cl fp => hg s H C cl fp) (fun s H C cl fp => ht s H C cl fp WNo takes_none5) (fun s H C cl fp => he s H C cl fp WNo takes_none5) hs) fun _ _ _ t => tLc_of t
theorem s_setLc {i : Nat} {y : Str} {py : Pos} (hc : X.calm = true) (hN : X.N.Nodup) (hy : X.N[i]? = some y) (hyl : X.env.scope.names.lookup y = some .local)
    (hsw : swapsWith (.ListComp elt [⟨tg, iter, ifs, 0⟩] scope pos) (some (.Name y py)) spos.line X.env = pure true) (hi : SI X tg iter mi) (ok : BlkOk X.N X.env.scope scope own) (hv : own.map (·.2) = vs)
    (hg : Blk X scope fun Y => SGt Y tg vs mt) (ht : Blk X scope fun Y => STs Y ifs nt) (he : Blk X scope fun Y => SV Y elt me) (hs : ∀ x, foldedSetIterable iter X.env x = pure x) :
    SS X (.Assign [.Name y py] (.ListComp elt [⟨tg, iter, ifs, 0⟩] scope pos) spos) (mSet i (mLc vs mi mt nt me)) := fun W tk hp => by
  subst hv
  exact PS.imp (ps_setLc (g := tT X.K (own.map fun p : Str × Nat => p.2) mt) hc hN hy hyl hsw (hi W tk) ok (fun s H C cl fp => hg s H C cl fp) (fun s H C cl fp => ht s H C cl fp WNo takes_none5) (fun s H C cl fp => he s H C cl fp WNo takes_none5) hs) fun D σ H t => by
    refine tLc_of (Q := fun x H1 => gName i x σ H1 D.nx) (tO_bind t fun v H1 r S1 w1 rel q p => ?_)
    by_cases hl : i < S1.env.length
    · rw [if_pos hl] at p
      obtain ⟨w', ex, rel'⟩ := rel.set hl q
      exact p w' H1 _ ex rel'
    · rw [if_neg hl] at p; exact p.elim
end
end HM

set_option Elab.async false
set_option linter.all false
set_option maxRecDepth 100000
set_option maxHeartbeats 4000000
/-! a dict in a cell is walked: it is locked meanwhile -/
namespace HM
open PySem PySem.Spec L2
def cellD (i : Nat) (S : Mem) : Option (Nat × D) := match S.env[i]? with
  | some (.val (.ref n)) => (match S.st[n]? with
    | some (.dct t kvs) => some (n, .dct t kvs)
    | _ => none)
  | _ => none
def lockM (n : Nat) (c : D) (S : Mem) : Mem := { S with st := S.st.set n (.lck c) }
def unlM (n : Nat) (S : Mem) : Option Mem := match S.st[n]? with
  | some (.lck c) => some { S with st := S.st.set n c }
  | _ => none
def unlO (n : Nat) : Out → Out
  | .nx S => (match unlM n S with
    | some S => .nx S
    | none => .bad)
  | .rt r S => (match unlM n S with
    | some S => .rt r S
    | none => .bad)
  | .bk S => (match unlM n S with
    | some S => .bk S
    | none => .bad)
  | .ct S => (match unlM n S with
    | some S => .ct S
    | none => .bad)
  | _ => .bad
def mLockS (i : Nat) (m : Mem → Out) : Mem → Out := fun S => match cellD i S with
  | some (n, c) => unlO n (m (lockM n c S))
  | none => .bad
def unlR (n : Nat) : Res RD → Res RD
  | .ok r S => (match unlM n S with
    | some S => .ok r S
    | none => .bad)
  | _ => .bad
def mLockE (i : Nat) (m : Mem → Res RD) : Mem → Res RD := fun S => match cellD i S with
  | some (n, c) => unlR n (m (lockM n c S))
  | none => .bad
section
variable {K : PySem.W.Frag} {w w' : Wd} {H H' : Hp} {σ : L2.St} {S : Mem} {n : Nat} {d : Addr} {ob : Obj} {u : HO}
theorem Ext0.unl (hr : w.role d = some (.cell n)) (hd : H d = some (.frz ob u)) : Ext0 w H w (L2.upd H d u) :=
  ⟨fun b h => ⟨h, .inl (upd_ne fun z => by rw [z, hr] at h; cases h)⟩, fun m h => ⟨rfl, h⟩, tup_upd fun xs e => by rw [hd] at e; cases e⟩
theorem Ext.unl (hr : w.role d = some (.cell n)) (h0 : H d = some u) (hu : Mut (some u)) (ex : Ext w (L2.upd H d (.frz ob u)) w' H') : Ext w H w' (L2.upd H' d u) := by
  have ne : ∀ b, b ≠ d → L2.upd H d (.frz ob u) b = H b := fun b h => upd_ne h
  refine ⟨⟨fun b h => ?_, fun m h => ex.cell m h, fun b xs h => ?_⟩, fun b h => ?_, fun b o x h => ?_⟩
  · have hb : b ≠ d := fun z => by rw [z, hr] at h; cases h
    obtain ⟨h1, h2⟩ := ex.frz b h
    rw [ne b hb] at h2
    exact ⟨h1, by rw [upd_ne hb]; exact h2⟩
  · have hb : b ≠ d := fun z => by rw [z, h0] at h; cases h; exact hu
    rw [upd_ne hb]
    exact ex.tup b xs (by rw [ne b hb]; exact h)
  · have hb : b ≠ d := fun z => by rw [z, hr] at h; cases h
    obtain ⟨h1, h2⟩ := ex.out b h
    rw [ne b hb] at h2
    exact ⟨h1, by rw [upd_ne hb]; exact h2⟩
  · have hb : b ≠ d := fun z => by rw [z, h0] at h; cases h; exact hu
    rw [upd_ne hb]
    exact ex.lok b o x (by rw [ne b hb]; exact h)
theorem Rel.unl {S2 : Mem} (rel : Rel K w H σ S) (hr : w.role d = some (.cell n)) (ha : w.addr n = d) (hd : H d = some (.frz ob u)) (e : unlM n S = some S2) : Rel K w (L2.upd H d u) σ S2 := by
  unfold unlM at e
  have x0 := Ext0.unl (n := n) hr hd
  cases es : S.st[n]? with
  | none => rw [es] at e; cases e
  | some c0 =>
    rw [es] at e
    cases c0 with
    | lck c =>
      cases e
      obtain ⟨_, hl⟩ := rel.cells n _ es
      rw [ha] at hl
      have hl' : LCont K w H d c := hl
      have hc : Cont K w (L2.upd H d u) d c := by
        cases c with
        | dct t kvs =>
          cases t with
          | false =>
            obtain ⟨o, gs, h1, h2⟩ := hl'
            rw [hd] at h1
            cases h1
            exact ⟨gs, upd_same, RelK.mono0 x0 _ _ h2⟩
          | true =>
            obtain ⟨o, gs, h1, h2⟩ := hl'
            rw [hd] at h1
            cases h1
            exact ⟨gs, upd_same, RelT.mono0 x0 _ _ h2⟩
        | _ => exact False.elim hl'
      refine ⟨rel.len, fun j sl hj => ?_, fun m c' hm => ?_, fun m hm => ?_, fun b r hb => there_upd (rel.trk b r hb)⟩
      · obtain ⟨ov, h1, h2⟩ := rel.slots j sl hj
        exact ⟨ov, h1, h2.mono0 x0 fun a c _ _ hb => ⟨hb, upd_ne fun z => by rw [z, hr] at hb; cases hb⟩⟩
      · have hm' : (S.st.set n c)[m]? = some c' := hm
        by_cases em : m = n
        · subst em
          rw [List.getElem?_set_self (List.getElem?_eq_some_iff.mp es).1] at hm'
          cases hm'
          rw [ha]
          exact ⟨hr, .of hc⟩
        · rw [List.getElem?_set_ne (Ne.symm em)] at hm'
          obtain ⟨k1, k2⟩ := rel.cells m c' hm'
          refine ⟨k1, k2.mono0 x0 (upd_ne fun z => ?_)⟩
          rw [z, hr] at k1
          cases k1
          exact em rfl
      · show m < (S.st.set n c).length
        rw [List.length_set]
        exact rel.live m hm
    | _ => cases e
/-- the cell's dict is locked -/
theorem Rel.lockC {c : D} {i : Nat} (rel : Rel K w H σ S) (e : cellD i S = some (n, c)) : ∃ u, H (w.addr n) = some u ∧ Mut (some u) ∧ w.role (w.addr n) = some (.cell n) ∧ ∀ ob, Rel K w (L2.upd H (w.addr n) (.frz ob u)) σ (lockM n c S) := by
  unfold cellD at e
  split at e
  · rename_i m es
    split at e
    · rename_i t kvs est
      cases e
      obtain ⟨hr, hc⟩ := rel.cells _ _ est
      have hc' : Cont K w H (w.addr n) (.dct t kvs) := (hc.nl rfl).2
      cases t with
      | false =>
        obtain ⟨gs, h1, h2⟩ := hc'
        refine ⟨_, h1, trivial, hr, fun ob => ?_⟩
        have ex := Ext.upd (w := w) (H := H) hr (by simp) (by simp) (c := .dct false kvs) ⟨gs, h1, h2⟩ (.frz ob (.dK gs))
        exact rel.mutCell est ⟨gs, h1, h2⟩ _ (.lck (.dct false kvs)) ⟨ob, gs, upd_same, RelK.mono ex _ _ h2⟩
      | true =>
        obtain ⟨gs, h1, h2⟩ := hc'
        refine ⟨_, h1, trivial, hr, fun ob => ?_⟩
        have ex := Ext.upd (w := w) (H := H) hr (by simp) (by simp) (c := .dct true kvs) ⟨gs, h1, h2⟩ (.frz ob (.dT gs))
        exact rel.mutCell est ⟨gs, h1, h2⟩ _ (.lck (.dct true kvs)) ⟨ob, gs, upd_same, RelT.mono ex _ _ h2⟩
    · cases e
  · cases e
theorem ResR.unl {r : RD} {v : V} (hr : w.role d = some (.cell n)) (hd : H d = some (.frz ob u)) (h : ResR K w H r v) : ResR K w (L2.upd H d u) r v := by
  have x0 := Ext0.unl (n := n) hr hd
  cases r with
  | val x => exact RelD.mono0 x0 x v h
  | own c =>
    obtain ⟨a, rfl, h1, h2⟩ := h
    exact ⟨a, rfl, h1, h2.mono0 x0 (upd_ne fun z => by rw [z, hr] at h1; cases h1)⟩
end
section
variable {X : Cx} {st : Stmt} {m : Mem → Out} {e : Expr} {i : Nat}
theorem ss_lock (h : SS X st m) : SS X st (mLockS i m) := fun W tk hp =>
  PS.imp (ps_lock (h W tk hp)) fun D σ H t => by
    obtain ⟨w, S, rel, p⟩ := t
    unfold mLockS at p
    cases ec : cellD i S with
    | none => rw [ec] at p; exact p.elim
    | some nc =>
      obtain ⟨n, c⟩ := nc
      rw [ec] at p
      obtain ⟨u, h1, h2, h3, h4⟩ := rel.lockC ec
      refine ⟨w.addr n, u, h1, h2, fun ob => ⟨w, lockM n c S, h4 ob, ?_⟩⟩
      have p' : postO X.K w H W D (unlO n (m (lockM n c S))) := p
      have key : ∀ {w' : Wd} {H' : Hp} {σ' : L2.St} {S2 S3 : Mem}, Ext w (L2.upd H (w.addr n) (.frz ob u)) w' H' → Rel X.K w' H' σ' S2 → unlM n S2 = some S3 →
          H' (w.addr n) = some (.frz ob u) ∧ Ext w H w' (L2.upd H' (w.addr n) u) ∧ Rel X.K w' (L2.upd H' (w.addr n) u) σ' S3 ∧ w'.role (w.addr n) = some (.cell n) := fun {w' H' σ' S2 S3} ex rl eu => by
        have hd : H' (w.addr n) = some (.frz ob u) := ex.lok _ _ _ upd_same
        obtain ⟨e1, e2⟩ := ex.cell n h3
        exact ⟨hd, Ext.unl h3 h1 h2 ex, rl.unl e2 e1 hd eu, e2⟩
      cases em : m (lockM n c S) with
      | nx S2 =>
        rw [em] at p'
        have p2 : postO X.K w H W D (match unlM n S2 with
          | some S => .nx S
          | none => .bad) := p'
        cases eu : unlM n S2 with
        | none => rw [eu] at p2; exact p2.elim
        | some S3 =>
          rw [eu] at p2
          exact fun w' H' σ' ex rl => by
            obtain ⟨k1, k2, k3, _⟩ := key ex rl eu
            exact ⟨k1, p2 w' _ σ' k2 k3⟩
      | ct S2 =>
        rw [em] at p'
        have p2 : postO X.K w H W D (match unlM n S2 with
          | some S => .ct S
          | none => .bad) := p'
        cases eu : unlM n S2 with
        | none => rw [eu] at p2; exact p2.elim
        | some S3 =>
          rw [eu] at p2
          exact fun w' H' σ' ex rl => by
            obtain ⟨k1, k2, k3, _⟩ := key ex rl eu
            exact ⟨k1, p2 w' _ σ' k2 k3⟩
      | bk S2 =>
        rw [em] at p'
        have p2 : postO X.K w H W D (match unlM n S2 with
          | some S => .bk S
          | none => .bad) := p'
        cases eu : unlM n S2 with
        | none => rw [eu] at p2; exact p2.elim
        | some S3 =>
          rw [eu] at p2
          exact fun w' H' σ' ex rl => by
            obtain ⟨k1, k2, k3, _⟩ := key ex rl eu
            exact ⟨k1, p2 w' _ σ' k2 k3⟩
      | rt r S2 =>
        rw [em] at p'
        have p2 : postO X.K w H W D (match unlM n S2 with
          | some S => .rt r S
          | none => .bad) := p'
        cases eu : unlM n S2 with
        | none => rw [eu] at p2; exact p2.elim
        | some S3 =>
          rw [eu] at p2
          exact fun w' H' σ' v ex rl q => by
            obtain ⟨k1, k2, k3, k4⟩ := key ex rl eu
            exact ⟨k1, p2 w' _ σ' v k2 k3 (q.unl k4 k1)⟩
      | exc c fs S2 => rw [em] at p'; exact p'.elim
      | bad => rw [em] at p'; exact p'.elim
theorem se_lock {mr : Mem → Res RD} (h : SE X e mr) : SE X e (mLockE i mr) := fun W tk =>
  PE.imp (pe_lock (h W tk)) fun σ H Q t => by
    obtain ⟨w, S, rel, p⟩ := t
    unfold mLockE at p
    cases ec : cellD i S with
    | none => rw [ec] at p; exact p.elim
    | some nc =>
      obtain ⟨n, c⟩ := nc
      rw [ec] at p
      obtain ⟨u, h1, h2, h3, h4⟩ := rel.lockC ec
      refine ⟨w.addr n, u, h1, h2, fun ob => ⟨w, lockM n c S, h4 ob, ?_⟩⟩
      have p' : postG X.K (ResR X.K) w H σ W Q (unlR n (mr (lockM n c S))) := p
      cases em : mr (lockM n c S) with
      | ok r S2 =>
        rw [em] at p'
        have p2 : postG X.K (ResR X.K) w H σ W Q (match unlM n S2 with
          | some S => .ok r S
          | none => .bad) := p'
        cases eu : unlM n S2 with
        | none => rw [eu] at p2; exact p2.elim
        | some S3 =>
          rw [eu] at p2
          exact fun w' H' v ex rl q => by
            have hd : H' (w.addr n) = some (.frz ob u) := ex.lok _ _ _ upd_same
            obtain ⟨e1, e2⟩ := ex.cell n h3
            exact ⟨hd, p2 w' _ v (Ext.unl h3 h1 h2 ex) (rl.unl e2 e1 hd eu) (q.unl e2 hd)⟩
      | exc c fs S2 => rw [em] at p'; exact p'.elim
      | bad => rw [em] at p'; exact p'.elim
/-- the keys of the dict that is locked -/
def mKeysL (i : Nat) : Mem → Res (List D) := fun S => match S.env[i]? with
  | some (.val (.ref n)) => (match S.st[n]? with
    | some (.lck (.dct _ kvs)) => .ok (kvs.map (·.1)) S
    | _ => .bad)
  | _ => .bad
theorem si_keysL {tg : Expr} (he : PE X e (tVar i)) : SI X tg e (mKeysL i) := fun W tk =>
  PI.imp (pi_keys he) fun σ H R t => by
    obtain ⟨w, S, rel, p⟩ := t
    unfold mKeysL at p
    cases es : S.env[i]? with
    | none => rw [es] at p; exact p.elim
    | some sl =>
      rw [es] at p
      obtain ⟨ov, k1, k2⟩ := rel.slots i _ es
      cases sl with
      | none => exact p.elim
      | own _ => exact p.elim
      | val dd =>
        cases dd with
        | ref n =>
          obtain ⟨v, rfl, hv, hr⟩ := k2
          subst hv
          have p2 : postG X.K (WalkR X.K) w H σ W R (match S.st[n]? with
            | some (.lck (.dct _ kvs)) => .ok (kvs.map (·.1)) S
            | _ => .bad) := p
          cases est : S.st[n]? with
          | none => rw [est] at p2; exact p2.elim
          | some c =>
            rw [est] at p2
            obtain ⟨_, hl⟩ := rel.cells n _ est
            cases c with
            | lck c =>
              cases c with
              | dct t kvs =>
                cases t with
                | false =>
                  obtain ⟨o, gs, h1, h2⟩ := (show LCont X.K w H (w.addr n) (.dct false kvs) from hl)
                  exact ⟨_, k1, w.addr n, o, rfl, .inl ⟨gs, h1, p2 w H _ (Ext.refl _ _) rel (walk_dK h1 h2)⟩⟩
                | true =>
                  obtain ⟨o, gs, h1, h2⟩ := (show LCont X.K w H (w.addr n) (.dct true kvs) from hl)
                  exact ⟨_, k1, w.addr n, o, rfl, .inr ⟨gs, h1, p2 w H _ (Ext.refl _ _) rel (walk_dT h1 h2)⟩⟩
              | _ => exact p2.elim
            | _ => exact p2.elim
        | _ => exact p.elim
/-! ### one way or the other -/
theorem PS.or {t t' : TS} (h : PS X st t) (h' : PS X st t') : PS X st fun D σ H => t D σ H ∨ t' D σ H := ⟨fun pins s σ H D I q => by
  rcases q with q | q
  · exact h.run pins s σ H D I q
  · exact h'.run pins s σ H D I q⟩
theorem PE.or {t t' : TE} (h : PE X e t) (h' : PE X e t') : PE X e fun σ H Q => t σ H Q ∨ t' σ H Q := ⟨fun pins s σ H Q I q => by
  rcases q with q | q
  · exact h.run pins s σ H Q I q
  · exact h'.run pins s σ H Q I q⟩
theorem ss_ite {m' : Mem → Out} (b : Mem → Bool) (h : SS X st m) (h' : SS X st m') : SS X st fun S => if b S = true then m S else m' S := fun W tk hp =>
  PS.imp (PS.or (h W tk hp) (h' W tk hp)) fun D σ H t => by
    obtain ⟨w, S, rel, p⟩ := t
    by_cases hb : b S = true
    · simp only [if_pos hb] at p
      exact .inl ⟨w, S, rel, p⟩
    · simp only [if_neg hb] at p
      exact .inr ⟨w, S, rel, p⟩
theorem se_ite2 {mr mr' : Mem → Res RD} (b : Mem → Bool) (h : SE X e mr) (h' : SE X e mr') : SE X e fun S => if b S = true then mr S else mr' S := fun W tk =>
  PE.imp (PE.or (h W tk) (h' W tk)) fun σ H Q t => by
    obtain ⟨w, S, rel, p⟩ := t
    by_cases hb : b S = true
    · simp only [if_pos hb] at p
      exact .inl ⟨w, S, rel, p⟩
    · simp only [if_neg hb] at p
      exact .inr ⟨w, S, rel, p⟩
def isCellD (i : Nat) (S : Mem) : Bool := (cellD i S).isSome
/-- for x in d, d a name -/
def mForV (i : Nat) (mt : D → Mem → Option Mem) (mb : Mem → Out) : Mem → Out := fun S => if isCellD i S = true then mLockS i (mFor (mKeysL i) mt mb) S else mFor (mWalk (fun S => (mVar i S).map RD.frz)) mt mb S
end
end HM

set_option Elab.async false
set_option linter.all false
set_option maxRecDepth 100000
set_option maxHeartbeats 4000000
namespace HM
open PySem PySem.Spec L2
/-! ### a slot's own thing is lent: it becomes a cell -/
def mLend (i : Nat) : Mem → Res D := fun S => match S.env[i]? with
  | some (.val d) => .ok d S
  | some (.own c) => .ok (.ref S.st.length) ⟨S.env.set i (.val (.ref S.st.length)), S.st ++ [c]⟩
  | _ => .bad
section
variable {K : PySem.W.Frag} {w : Wd} {H : Hp} {σ : L2.St} {S : Mem}
theorem Rel.lend (rel : Rel K w H σ S) {i : Nat} {c : D} {v : V} (e : S.env[i]? = some (.own c)) (hv : σ[i]? = some (some v)) :
    ∃ w', Ext w H w' H ∧ Rel K w' H σ ⟨S.env.set i (.val (.ref S.st.length)), S.st ++ [c]⟩ ∧ RelD K w' H (.ref S.st.length) v := by
  obtain ⟨ov, h1, a, h2, h3, h4⟩ := rel.slots i _ e
  rw [hv] at h1
  cases h1
  cases h2
  have ne : ∀ b r, w.role b = some r → r ≠ .slot i → b ≠ a := fun b r h n z => by
    rw [z, h3] at h
    exact n (Option.some.inj h).symm
  let w' : Wd := ⟨fun b => if b = a then some (.cell S.st.length) else w.role b, fun n => if n = S.st.length then a else w.addr n⟩
  have wr : ∀ b, b ≠ a → w'.role b = w.role b := fun b h => if_neg h
  have wa : ∀ n, n ≠ S.st.length → w'.addr n = w.addr n := fun n h => if_neg h
  have ra : w'.role a = some (.cell S.st.length) := if_pos rfl
  have aa : w'.addr S.st.length = a := if_pos rfl
  have lv : ∀ n, w.role (w.addr n) = some (.cell n) → n ≠ S.st.length := fun n h z => by
    have := rel.live n h
    omega
  have ex : Ext w H w' H :=
    ⟨⟨fun b h => ⟨by rw [wr b (ne b _ h (fun q => nomatch q))]; exact h, .inl rfl⟩, fun n h => ⟨wa n (lv n h), by rw [wr _ (ne _ _ h (fun q => nomatch q))]; exact h⟩, fun _ _ h => h⟩, fun b h => ⟨by rw [wr b (ne b _ h (fun q => nomatch q))]; exact h, rfl⟩, fun _ _ _ h => h⟩
  have hr : RelD K w' H (.ref S.st.length) (.ref a) := ⟨by rw [aa], by rw [aa]; exact ra⟩
  refine ⟨w', ex, ⟨by rw [rel.len]; simp, fun j sl h => ?_, fun n c' h => ?_, fun n h => ?_, fun b r h => ?_⟩, hr⟩
  · have h' : (S.env.set i (.val (.ref S.st.length)))[j]? = some sl := h
    by_cases ej : j = i
    · subst ej
      rw [List.getElem?_set_self (List.getElem?_eq_some_iff.mp e).1] at h'
      cases h'
      exact ⟨_, hv, .ref a, rfl, hr⟩
    · rw [List.getElem?_set_ne (Ne.symm ej)] at h'
      obtain ⟨ov, k1, k2⟩ := rel.slots j sl h'
      refine ⟨ov, k1, k2.mono ex fun b c _ _ hb => ⟨?_, rfl⟩⟩
      rw [wr b (ne b _ hb (fun q => ej (by injection q)))]
      exact hb
  · have h' : (S.st ++ [c])[n]? = some c' := h
    by_cases hn : n < S.st.length
    · rw [List.getElem?_append_left hn] at h'
      obtain ⟨k1, k2⟩ := rel.cells n c' h'
      rw [wa n (by omega)]
      refine ⟨(ex.cell n k1).2, k2.mono ex rfl⟩
    · rw [List.getElem?_append_right (by omega)] at h'
      have hl := (List.getElem?_eq_some_iff.mp h').1
      have en : n = S.st.length := by simp at hl; omega
      subst en
      simp at h'
      subst h'
      rw [aa]
      exact ⟨ra, h4.mono ex rfl⟩
  · show n < (S.st ++ [c]).length
    rw [List.length_append]
    by_cases en : n = S.st.length
    · subst en; simp
    · rw [wa n en] at h
      by_cases eb : w.addr n = a
      · rw [eb, ra] at h
        cases h
        exact absurd rfl en
      · rw [wr _ eb] at h
        have := rel.live n h
        omega
  · by_cases q : b = a
    · rw [q]; exact h4.there
    · rw [wr b q] at h
      exact rel.trk b r h
end
theorem sv_lend {X : Cx} {i : Nat} {x : Str} {pos : Pos} (hN : X.N[i]? = some x) (hv : Vis X.env.scope x) (hd : (x == ("__debug__" : Str)) = false) (hcd : (x == ("__classdict__" : Str)) = false) : SV X (.Name x pos) (mLend i) := fun W tk =>
  PE.imp (pe_var hN hv hd hcd) fun σ H Q t => by
    obtain ⟨w, S, rel, p⟩ := t
    unfold mLend at p
    cases e : S.env[i]? with
    | none => rw [e] at p; exact p.elim
    | some sl =>
      rw [e] at p
      cases sl with
      | none => exact p.elim
      | val d =>
        obtain ⟨ov, h1, v, rfl, h2⟩ := rel.slots i _ e
        exact ⟨v, h1, p w H v (Ext.refl _ _) rel h2⟩
      | own c =>
        obtain ⟨v, hv⟩ := tVar_of rel e (fun q => nomatch q)
        obtain ⟨w', ex, rel', hr⟩ := rel.lend e hv
        exact ⟨v, hv, p w' H v ex rel' hr⟩
/-! ### calls of the program's functions -/
abbrev FnM := List D → List D → Res RD
abbrev mem0 (st : List D) : Mem := ⟨[], st⟩
def postF (K : PySem.W.Frag) (w : Wd) (H : Hp) (Q : VK) (E : XK) : Res RD → Prop
  | .ok r m => ∀ w' H' v, Ext w H w' H' → Rel K w' H' [] (mem0 m.st) → ResR K w' H' r v → Q v H'
  | .exc c fs m => ∀ w' H' dx, Ext w H w' H' → Rel K w' H' [] (mem0 m.st) → ExcR K w' H' fs dx → E (.ref (He.ga K c)) dx H'
  | .bad => False
def spM (K : PySem.W.Frag) (n : Nat) (f : FnM) : Sp := fun vs H Q E => ∃ w st ds, Rel K w H [] (mem0 st) ∧ RelDs K w H ds vs ∧ ds.length = n ∧ postF K w H Q E (f ds st)
theorem spM_len {K : PySem.W.Frag} {n : Nat} {f : FnM} {vs : List V} {H : Hp} {Q : VK} {E : XK} (h : spM K n f vs H Q E) : vs.length = n := by
  obtain ⟨w, st, ds, _, h2, h3, _⟩ := h
  rw [← h2.length]
  exact h3
/-- the caller's own things during a call -/
def Wd.hide (w : Wd) : Wd := ⟨fun a => match w.role a with
  | some (.slot _) => some .out
  | r => r, w.addr⟩
/-- .. and behind it -/
def Wd.unhide (w w' : Wd) : Wd := ⟨fun a => match w.role a with
  | some (.slot i) => some (.slot i)
  | _ => (match w'.role a with
    | some (.slot _) => none
    | r => r), w'.addr⟩
section
variable {K : PySem.W.Frag} {w w' : Wd} {H H' : Hp} {σ : L2.St} {S : Mem}
theorem hide_slot {a : Addr} {i : Nat} (h : w.role a = some (.slot i)) : w.hide.role a = some .out := by
  show (match w.role a with | some (.slot _) => some Role.out | r => r) = _
  rw [h]
theorem hide_ne {a : Addr} (h : ∀ i, w.role a ≠ some (.slot i)) : w.hide.role a = w.role a := by
  show (match w.role a with | some (.slot _) => some Role.out | r => r) = _
  split
  · rename_i i e
    exact absurd e (h i)
  · rfl
theorem unhide_slot {a : Addr} {i : Nat} (h : w.role a = some (.slot i)) : (w.unhide w').role a = some (.slot i) := by
  show (match w.role a with | some (.slot i) => some (Role.slot i) | _ => _) = _
  rw [h]
theorem unhide_ne {a : Addr} (h : ∀ i, w.role a ≠ some (.slot i)) (h' : ∀ i, w'.role a ≠ some (.slot i)) : (w.unhide w').role a = w'.role a := by
  show (match w.role a with | some (.slot i) => some (Role.slot i) | _ => (match w'.role a with | some (.slot _) => none | r => r)) = _
  split
  · rename_i i e
    exact absurd e (h i)
  · split
    · rename_i i e
      exact absurd e (h' i)
    · rfl
theorem Ext0.hide : Ext0 w H w.hide H :=
  ⟨fun a h => ⟨by rw [hide_ne (fun i => by rw [h]; simp)]; exact h, .inl rfl⟩, fun n h => ⟨rfl, by rw [hide_ne (fun i => by rw [h]; simp)]; exact h⟩, fun _ _ h => h⟩
theorem Rel.hide (rel : Rel K w H σ S) : Rel K w.hide H [] (mem0 S.st) where
  len := rfl
  slots := fun i sl h => by cases h
  cells := fun n c h => by
    obtain ⟨k1, k2⟩ := rel.cells n c h
    exact ⟨(Ext0.hide (H := H)).cell n k1 |>.2, k2.mono0 Ext0.hide rfl⟩
  live := fun n h => by
    by_cases q : ∃ i, w.role (w.addr n) = some (.slot i)
    · obtain ⟨i, q⟩ := q
      have h' : w.hide.role (w.addr n) = some (.cell n) := h
      rw [hide_slot q] at h'
      cases h'
    · have h' : w.hide.role (w.addr n) = some (.cell n) := h
      rw [hide_ne (fun i z => q ⟨i, z⟩)] at h'
      exact rel.live n h'
  trk := fun a r h => by
    by_cases q : ∃ i, w.role a = some (.slot i)
    · obtain ⟨i, q⟩ := q
      exact rel.trk a _ q
    · rw [hide_ne (fun i z => q ⟨i, z⟩)] at h
      exact rel.trk a r h
/-- what is no slot's own in the caller's world -/
theorem hid_no (ex : Ext w.hide H w' H') {a : Addr} {r : Role} (h : w'.role a = some r) (hr : r ≠ .out) (i : Nat) : w.role a ≠ some (.slot i) := fun z => by
  have := (ex.out a (hide_slot z)).1
  rw [h] at this
  exact hr (Option.some.inj this)
theorem Ext0.unhide (ex : Ext w.hide H w' H') : Ext0 w' H' (w.unhide w') H' :=
  ⟨fun a h => ⟨by rw [unhide_ne (hid_no ex h (by simp)) (fun i => by rw [h]; simp)]; exact h, .inl rfl⟩, fun n h => ⟨rfl, by rw [unhide_ne (hid_no ex h (by simp)) (fun i => by rw [h]; simp)]; exact h⟩, fun _ _ h => h⟩
theorem Ext.called (ex : Ext w.hide H w' H') : Ext w H (w.unhide w') H' := by
  refine ⟨⟨fun a h => ?_, fun n h => ?_, ex.tup⟩, fun a h => ?_, ex.lok⟩
  · obtain ⟨h1, h2⟩ := ex.frz a (by rw [hide_ne (fun i => by rw [h]; simp)]; exact h)
    exact ⟨((Ext0.unhide ex).frz a h1).1, h2⟩
  · obtain ⟨h1, h2⟩ := ex.cell n (by show w.hide.role (w.addr n) = _; rw [hide_ne (fun i => by rw [h]; simp)]; exact h)
    have h3 : w'.addr n = w.addr n := h1
    have h2' : w'.role (w'.addr n) = some (.cell n) := by rw [h3]; exact h2
    obtain ⟨h4, h5⟩ := (Ext0.unhide ex).cell n h2'
    exact ⟨h3, by rw [← h3]; exact h5⟩
  · obtain ⟨h1, h2⟩ := ex.out a (by rw [hide_ne (fun i => by rw [h]; simp)]; exact h)
    refine ⟨?_, h2⟩
    rw [unhide_ne (fun i => by rw [h]; simp) (fun i => by rw [h1]; simp)]
    exact h1
theorem Rel.called (rel : Rel K w H σ S) (ex : Ext w.hide H w' H') {st' : List D} (rel' : Rel K w' H' [] (mem0 st')) : Rel K (w.unhide w') H' σ { S with st := st' } where
  len := rel.len
  slots := fun i sl h => by
    obtain ⟨ov, h1, h2⟩ := rel.slots i sl h
    exact ⟨ov, h1, h2.mono (Ext.called ex) fun a c _ _ hr => ⟨unhide_slot hr, (ex.out a (hide_slot hr)).2⟩⟩
  cells := fun n c h => by
    obtain ⟨k1, k2⟩ := rel'.cells n c h
    exact ⟨((Ext0.unhide ex).cell n k1).2, k2.mono0 (Ext0.unhide ex) rfl⟩
  live := fun n h => by
    have h' : (w.unhide w').role (w'.addr n) = some (.cell n) := h
    by_cases q : ∃ i, w.role (w'.addr n) = some (.slot i)
    · obtain ⟨i, q⟩ := q
      rw [unhide_slot q] at h'
      cases h'
    · by_cases q' : ∃ i, w'.role (w'.addr n) = some (.slot i)
      · obtain ⟨i, q'⟩ := q'
        have e : (w.unhide w').role (w'.addr n) = none := by
          show (match w.role (w'.addr n) with | some (.slot i) => some (Role.slot i) | _ => (match w'.role (w'.addr n) with | some (.slot _) => none | r => r)) = _
          split
          · rename_i j e
            exact absurd ⟨j, e⟩ q
          · rw [q']
        rw [e] at h'
        cases h'
      · rw [unhide_ne (fun i z => q ⟨i, z⟩) (fun i z => q' ⟨i, z⟩)] at h'
        exact rel'.live n h'
  trk := fun a r h => by
    by_cases q : ∃ i, w.role a = some (.slot i)
    · obtain ⟨i, q⟩ := q
      rw [(ex.out a (hide_slot q)).2]
      exact rel.trk a _ q
    · have h' : (match w.role a with | some (.slot i) => some (Role.slot i) | _ => (match w'.role a with | some (.slot _) => none | r => r)) = some r := h
      cases e : w'.role a with
      | none =>
        rw [e] at h'
        split at h'
        · rename_i j e
          exact absurd ⟨j, e⟩ q
        · cases h'
      | some r' => exact rel'.trk a r' e
theorem ResR.called (ex : Ext w.hide H w' H') {r : RD} {v : V} (h : ResR K w' H' r v) : ResR K (w.unhide w') H' r v := by
  cases r with
  | val d => exact RelD.mono0 (Ext0.unhide ex) d v h
  | own c =>
    obtain ⟨a, rfl, h1, h2⟩ := h
    refine ⟨a, rfl, ?_, h2.mono0 (Ext0.unhide ex) rfl⟩
    have no : ∀ i, w.role a ≠ some (.slot i) := fun i z => by
      have := (ex.out a (hide_slot z)).1
      rw [h1] at this
      cases this
    rw [unhide_ne no (fun i => by rw [h1]; simp)]
    exact h1
theorem ExcR.mono0 {w w' : Wd} {H H' : Hp} (ex : Ext0 w H w' H') {fs : List (Str × D)} {dx : Option Addr} (h : ExcR K w H fs dx) : ExcR K w' H' fs dx := by
  rcases h with h | ⟨d, gs, h1, h2, h3, h4⟩
  · exact .inl h
  · refine .inr ⟨d, gs, h1, (ex.frz d h2).1, (ex.frz d h2).2.xd h3, fun f => ?_⟩
    rcases h4 f with h | ⟨e, v, k1, k2, k3⟩
    · exact .inl h
    · exact .inr ⟨e, v, k1, k2, RelD.mono0 ex e v k3⟩
end
def mCall (f : FnM) (ms : Mem → Res (List D)) : Mem → Res RD := fun S => (ms S).bind fun ds S1 => match f ds S1.st with
  | .ok r m => .ok r { S1 with st := m.st }
  | .exc c fs m => .exc c fs { S1 with st := m.st }
  | .bad => .bad
section
variable {X : Cx} {e : Expr} {es : List Expr} {x : Str} {p pos : Pos} {ms : Mem → Res (List D)} {k n : Nat} {f : Addr} {fd : FuncData} {ps : List Str} {fm : FnM}
theorem call_sp {W : WX} {σ : L2.St} {H : Hp} {Q : VK} {w : Wd} {S : Mem} {ds : List D} {vs : List V} (hl : ds.length = n) (rel : Rel X.K w H σ S) (hd : RelDs X.K w H ds vs)
    (h : postG X.K (ResR X.K) w H σ W Q (match fm ds S.st with
      | .ok r m => .ok r { S with st := m.st }
      | .exc c fs m => .exc c fs { S with st := m.st }
      | .bad => .bad)) : spM X.K n fm vs H Q (WE W σ) := by
  refine ⟨w.hide, S.st, ds, rel.hide, RelDs.mono0 Ext0.hide _ _ hd, hl, ?_⟩
  cases e : fm ds S.st with
  | ok r m =>
    rw [e] at h
    exact fun w' H' v ex rl q => h (w.unhide w') H' v (Ext.called ex) (rel.called ex rl) (q.called ex)
  | exc c fs m =>
    rw [e] at h
    exact fun w' H' dx ex rl q => h (w.unhide w') H' dx (Ext.called ex) (rel.called ex rl) (q.mono0 (Ext0.unhide ex))
  | bad =>
    rw [e] at h
    exact h
theorem se_call (hl : ∀ S ds S', ms S = .ok ds S' → ds.length = n) (F : FnOk X.prog X.w X.K X.mg X.base (L2.CX X.prog X.w) k f fd ps (spM X.K n fm)) (hr : Room k X.A) (hg : Gl X x) (hm : X.mg x = some (.ref f)) (hk : PySem.W.keepIn X.K (.ref f) = true) (hb : Binds X.K fd ps [])
    (ha : SA X (e :: es) ms) (hdb : (x == ("__debug__" : Str)) = false) (he : starEach (e :: es) X.env = (false, eval e X.env) :: starEach es X.env) (hpl : (backTo pos (starEach es X.env)).any (·.1) = false) :
    SE X (.Call (.Name x p) (e :: es) [] pos) (mCall fm ms) := fun W tk =>
  PE.imp (pe_callS (E := WE W) F hr hg hm hk hb (fun σ => passAt tk σ) (ha W tk) hdb he hpl) fun σ H Q t => by
    obtain ⟨w, S, rel, p⟩ := t
    have hl' := hl S
    refine ⟨w, S, rel, ?_⟩
    have p' : postG X.K (ResR X.K) w H σ W Q ((ms S).bind fun ds S1 => match fm ds S1.st with
      | .ok r m => .ok r { S1 with st := m.st }
      | .exc c fs m => .exc c fs { S1 with st := m.st }
      | .bad => .bad) := p
    cases em : ms S with
    | ok ds S1 =>
      rw [em] at p'
      exact fun w' H' vs ex rl q => call_sp (hl' ds S1 em) rl q (postG.ext ex p')
    | exc c fs S1 =>
      rw [em] at p'
      exact p'
    | bad =>
      rw [em] at p'
      exact p'
theorem se_call0 (F : FnOk X.prog X.w X.K X.mg X.base (L2.CX X.prog X.w) k f fd ps (spM X.K 0 fm)) (hr : Room k X.A) (hg : Gl X x) (hm : X.mg x = some (.ref f)) (hk : PySem.W.keepIn X.K (.ref f) = true) (hb : Binds X.K fd ps [])
    (hdb : (x == ("__debug__" : Str)) = false) : SE X (.Call (.Name x p) [] [] pos) (mCall fm mNil) := fun W tk =>
  ⟨fun pins s σ H Q I t => by
    obtain ⟨w, S, rel, p⟩ := t
    refine wpAny_Call_Name_kw (ld_glob I hg hm ?_ hdb)
    exact PySem.W.callWith_K0 I.kIn hk (run_fnS (us := []) F hr hb (passAt tk σ) I .nil (call_sp (ds := []) (n := 0) rfl rel rfl p))⟩
end
end HM

set_option Elab.async false
set_option linter.all false
set_option maxRecDepth 100000
set_option maxHeartbeats 4000000
namespace HM
section
open PySem
open Sem (wp)
open AutoSeq1 (wpAny_loadPart')
theorem meets_enumerate_newT (l : Addr) (o : Obj) (items : Array Value) (n : Nat) (hc : o.cls = .type "tuple") (hd : o.data = .seq items n) :
    Meets (Builtin.«enumerate.__new__» ⟨[.type "enumerate", .ref l], []⟩) (fun _ R s => s.heap.get? l = some o ∧
      R (.ok (.ret (.ref (s.heap.push { cls := .type "tuple_iterator", data := .fields #[.ref l, .int 0 0] }).objs.size)))
        { s with heap := (s.heap.push { cls := .type "tuple_iterator", data := .fields #[.ref l, .int 0 0] }).push { cls := .type "enumerate", data := .fields #[.none, .bool false, .ref s.heap.objs.size, rawInt 0, .none, .none] } }) :=
  .of_wp fun prog w A R s h => by
    obtain ⟨hp, g, d, tk, os⟩ := s; obtain ⟨hl, h⟩ := h
    have hsub := sub_enumerate
    have hL : Heap.IsTuple (Shared.heap ⟨hp, g, d, tk, os⟩) l items := ⟨_, hl, hc, n, hd⟩
    wp_walk using wpAny_loadPart' hl
    refine wpAny_stack_any fun st => wpAny_pure ?_
    split
    · rename_i c _ _ _ _ _
      cases (c == Value.type "enumerate")
      · wp_walk using wpAny_loadPart' hl, wpAny_pyIter_tuple hL
        exact ⟨_, rfl, h⟩
      · wp_walk using wpAny_loadPart' hl, wpAny_pyIter_tuple hL
        exact ⟨_, rfl, h⟩
    · wp_walk using wpAny_loadPart' hl, wpAny_pyIter_tuple hL
      exact ⟨_, rfl, h⟩
variable {prog : Program} {w : World} {A : Around} {E : Value → Shared → Prop} {s : Shared}
theorem call_enumerate_tuple {l : Addr} {items : Array Value} {Q : Value → Shared → Prop} (hL : s.heap.IsTuple l items)
    (h : ∀ h', IsEnum h' (s.heap.objs.size + 1) s.heap.objs.size 0 .none → h'.IsTupleIter s.heap.objs.size l 0 → h'.objs.size = s.heap.objs.size + 2 →
      (∀ b o, s.heap.get? b = some o → h'.get? b = some o) → Q (.ref (s.heap.objs.size + 1)) { s with heap := h' }) :
    wpAny (model prog w) A (call (.type "enumerate") [.ref l]) Q E s := by
  obtain ⟨o, hl, hc, n, hd⟩ := hL
  refine callType_new F.called_enumerate (by decide) (F.typeCall_enumerate_1 _) (F.newCall_enumerate_1 _) (fun obj => F.args_object_init_2 obj _) F.entry_enumerate_new
    (meets_enumerate_newT l o items n hc hd) ⟨hl, ?_⟩
  have hz : (s.heap.push { cls := .type "tuple_iterator", data := .fields #[.ref l, .int 0 0] }).objs.size = s.heap.objs.size + 1 := Heap.size_push ..
  show _ ∧ _
  rw [hz]
  have he : IsEnum ((s.heap.push { cls := .type "tuple_iterator", data := .fields #[.ref l, .int 0 0] }).push
      { cls := .type "enumerate", data := .fields #[.none, .bool false, .ref s.heap.objs.size, rawInt 0, .none, .none] }) (s.heap.objs.size + 1) s.heap.objs.size 0 .none := by
    have := Heap.get?_push_size (s.heap.push { cls := .type "tuple_iterator", data := .fields #[.ref l, .int 0 0] })
      (o := { cls := .type "enumerate", data := .fields #[.none, .bool false, .ref s.heap.objs.size, rawInt 0, .none, .none] }) rfl
    rw [hz] at this; exact this
  refine ⟨⟨_, he, rfl⟩, h _ he ⟨_, Heap.get?_push_of_some _ (Heap.get?_push_size _ rfl), rfl, rfl⟩ (by rw [Heap.size_push, hz]) fun b o x => Heap.get?_push_of_some _ (Heap.get?_push_of_some _ x)⟩
end
open PySem PySem.Spec L2
/-- the tuple at a, each item with its number in a new tuple -/
def Itet (K : PySem.W.Frag) (a : Addr) : It :=
  ⟨fun i H => ∃ (xs : List V) (x : V), SqT K H a xs ∧ xs[i]? = some x, fun i H v H' => ∃ T x, v = .ref T ∧ H T = none ∧ H' = L2.upd H T (.tup [.int (i : Nat), x]) ∧ ∀ xs, SqT K H a xs → xs[i]? = some x, fun i H => ∃ xs : List V, SqT K H a xs ∧ xs.length = i⟩
theorem turn_enumT {P : Program} {w : World} {K : PySem.W.Frag} {elts : List Expr} {kk : Nat} {tpos : Pos} (a e it : Addr) :
    Turn P w K (.Tuple elts kk tpos) (Itet K a) [e, it] e (fun i h => (∃ old, IsEnum h e it ((i : Nat) : Int) old) ∧ h.IsTupleIter it a i ∧ e ≠ it) where
  mem := by simp
  obj := fun i h st b hb => by
    obtain ⟨⟨old, he⟩, ⟨o, ho, hc, hd⟩, _⟩ := st
    have e' : b = e ∨ b = it := by simpa using hb
    rcases e' with z | z
    · rw [z]; exact ⟨_, he, fun v q => nomatch q⟩
    · rw [z]; exact ⟨o, ho, fun v q => by rw [hd] at q; cases q⟩
  keep := fun i h h' st k => let ⟨⟨old, he⟩, hi, hne⟩ := st; ⟨⟨old, k e (by simp) _ he⟩, hi.at fun o q => k it (by simp) o q, hne⟩
  item := by
    intro X hP hw hK hc i pins s σ H E I hf st hg
    subst hP hw hK
    obtain ⟨⟨old, he⟩, hit, hne⟩ := st
    obtain ⟨xs, x, hq, hx⟩ := hg
    obtain ⟨its, rv, p, hz⟩ := I.tuple hq
    obtain ⟨u, hu, ru⟩ := rv.get hx
    have hel : e < s.heap.objs.size := Heap.lt_size he
    have hil : it < s.heap.objs.size := by obtain ⟨_, q, _⟩ := hit; exact Heap.lt_size q
    have p' : s.heap.IsTuple a its.toArray := p
    have nae : a ≠ it := fun z => by
      obtain ⟨o, h1, h2, _⟩ := p'
      obtain ⟨o', h3, h4, _⟩ := hit
      rw [z, h3] at h1
      cases h1
      rw [h4] at h2
      exact absurd h2 (by simp)
    have nae2 : a ≠ e := fun z => by
      obtain ⟨o, h1, h2, _⟩ := p'
      have he' : s.heap.get? e = some _ := he
      rw [z, he'] at h1
      cases h1
      exact absurd h2 (by simp)
    have D := PySem.Draws.tuple (prog := X.prog) (w := X.w) (A := X.A.in1) (show X.A.in1.handled = none from I.ok.hd hc) it a nae its.toArray
    refine wpAny_pyNext_enum_itemD D he ⟨hit, p'⟩ (i := i) (by have := (List.getElem?_eq_some_iff.mp hu).1; simpa using this) hne (by simp; exact ⟨hne, Ne.symm nae2⟩) fun u' h' tk hP ho hst hT hsz hk => ?_
    have eu : u' = u := by
      have : its.toArray[i]? = some u' := hP
      simp at this
      rw [hu] at this
      exact (Option.some.inj this).symm
    subst eu
    refine ⟨_, rfl, wpAny_letOwnedTupleGo_enum (s := { s with heap := h', toks := tk + 1 }) ho fun h'' he' sb => ?_⟩
    have hT2 : h''.get? s.heap.objs.size = some { cls := .type "tuple", data := .seq #[.int i tk, u'] } := (sb.2 _ (Nat.ne_of_gt hel)).trans hT
    have new : ObjOk X.prog X.w (L2.upd H s.heap.objs.size (.tup [.int (i : Nat), x])) h'' s.heap.objs.size (.tup [.int (i : Nat), x]) :=
      ⟨by show 2 ≤ sizeLine; decide, [.int i tk, u'], .cons ⟨_, rfl⟩ (.cons ru .nil), ⟨_, hT2, rfl, _, rfl⟩⟩
    have I1 : Inv X pins σ (L2.upd H s.heap.objs.size (.tup [.int (i : Nat), x])) { s with heap := h'', toks := tk + 1 } :=
      I.turnedNew (ch := [e, it]) (fun b ob hb q => (sb.2 b (fun z => hb (by simp [z]))).trans (hk b ob (fun z => hb (by simp [z])) (fun z => hb (by simp [z])) q)) hf (Nat.le_refl _) new
    refine ⟨.ref s.heap.objs.size, _, I1, rfl, ⟨_, x, rfl, I.hok.fresh (Nat.le_refl _), rfl, fun ys hy => by rw [I.tuple_inj hy hq]; exact hx⟩, ⟨⟨u', ?_⟩, hst.1.at fun o q => (sb.2 it (Ne.symm hne)).trans q, hne⟩, fun b hb => ?_⟩
    · have e1 : ((i + 1 : Nat) : Int) = (i : Int) + 1 := by omega
      rw [e1]; exact he'
    · have hb' : b < s.heap.objs.size := by
        have e' : b = e ∨ b = it := by simpa using hb
        rcases e' with z | z
        · rw [z]; exact hel
        · rw [z]; exact hil
      rw [upd_ne (Nat.ne_of_lt hb')]
      exact (hf b hb).1
  done := by
    intro X hP hw hK hc i pins s σ H E I hf st hg
    subst hP hw hK
    obtain ⟨⟨old, he⟩, hit, hne⟩ := st
    obtain ⟨xs, hq, hx⟩ := hg
    obtain ⟨its, rv, p, hz⟩ := I.tuple hq
    obtain ⟨f0, f1, f2, f3, f4, f5⟩ := hf it (by simp)
    have hl := rv.length
    have p' : s.heap.IsTuple a its.toArray := p
    have nae : a ≠ it := fun z => by
      obtain ⟨o, h1, h2, _⟩ := p'
      obtain ⟨o', h3, h4, _⟩ := hit
      rw [z, h3] at h1
      cases h1
      rw [h4] at h2
      exact absurd h2 (by simp)
    have D := PySem.Draws.tuple (prog := X.prog) (w := X.w) (A := X.A.in1) (show X.A.in1.handled = none from I.ok.hd hc) it a nae its.toArray
    have en : i = its.toArray.size := by simp; omega
    exact wpAny_pyNext_enum_endD D he ⟨by rw [← en]; exact hit, p'⟩ fun h' eb => ⟨rfl, I.turned (t' := s.toks) (fun b o hb q => eb b o hb q) f0 f1 f3 f4 f5⟩
  self := fun A i s Q E st h => let ⟨⟨_, he⟩, _⟩ := st; wpAny_pyIter_enum he h
section
variable {X : Cx} {e : Expr} {m : Mem → Res D} {p pos tpos : Pos} {elts : List Expr} {kk : Nat}
def iEnumA (K : PySem.W.Frag) (ta : TE) : TI := fun σ H R => ta σ H fun x H1 => (∃ a xs, x = .ref a ∧ SqL K H1 a xs ∧ R (Ite K a) H1) ∨ ∃ a xs, x = .ref a ∧ SqT K H1 a xs ∧ R (Itet K a) H1
theorem pi_enumA {te : TE} (hg : Gl X "enumerate") (hm : X.mg "enumerate" = none) (ha : PE X e te) (hs : starEach [e] X.env = (false, eval e X.env) :: starEach [] X.env) :
    PI X (.Tuple elts kk tpos) (.Call (.Name "enumerate" p) [e] [] pos) (iEnumA X.K te) := by
  refine ⟨fun pins s σ H R I h => ?_⟩
  let Q' : List V → Hp → Prop := fun vs H1 => match vs with
    | [x] => (∃ a xs, x = .ref a ∧ SqL X.K H1 a xs ∧ R (Ite X.K a) H1) ∨ ∃ a xs, x = .ref a ∧ SqT X.K H1 a xs ∧ R (Itet X.K a) H1
    | _ => False
  refine PyProof.Rows.Call_ (ld_blt I hg hm PyProof.Rows.boot_enumerate (PyProof.Rows.callWith_type1 (thn ((pa_cons ha pa_nil hs).run pos pins s σ H Q' I h) fun us s1 ⟨vs, H1, I1, r1, q1⟩ => ?_) hs rfl))
  cases r1 with
  | nil => exact q1.elim
  | @cons x u vs' us' r rr =>
    cases rr with
    | cons _ _ => exact (show False from q1).elim
    | nil =>
      rcases (show (∃ a xs, x = .ref a ∧ SqL X.K H1 a xs ∧ R (Ite X.K a) H1) ∨ ∃ a xs, x = .ref a ∧ SqT X.K H1 a xs ∧ R (Itet X.K a) H1 from q1) with ⟨a, xs, rfl, hq, q⟩ | ⟨a, xs, rfl, hq, q⟩
      · cases r
        obtain ⟨its, rv, p', hz⟩ := I1.list hq
        refine call_enumerate_list p'.isList fun h' he hit hsz hk => wpAny_pyIter_enum he ?_
        have I2 : Inv X pins σ H1 { s1 with heap := h' } := I1.kept (t' := s1.toks) hk
        refine ⟨s1.heap.objs.size + 1, [s1.heap.objs.size + 1, s1.heap.objs.size], _, _, H1, rfl, I2, turn_enum a (s1.heap.objs.size + 1) s1.heap.objs.size, ⟨⟨.none, he⟩, hit, Nat.succ_ne_self _⟩, fun b hb => ?_, q⟩
        have e' : b = s1.heap.objs.size + 1 ∨ b = s1.heap.objs.size := by simpa using hb
        have hle : s1.heap.objs.size ≤ b := by
          rcases e' with z | z
          · rw [z]; exact Nat.le_add_right _ _
          · rw [z]; exact Nat.le_refl _
        exact I1.fpOk hle (I1.hok.fresh hle)
      · cases r
        obtain ⟨its, rv, p', hz⟩ := I1.tuple hq
        refine call_enumerate_tuple (show s1.heap.IsTuple a its.toArray from p') fun h' he hit hsz hk => wpAny_pyIter_enum he ?_
        have I2 : Inv X pins σ H1 { s1 with heap := h' } := I1.kept (t' := s1.toks) hk
        refine ⟨s1.heap.objs.size + 1, [s1.heap.objs.size + 1, s1.heap.objs.size], _, _, H1, rfl, I2, turn_enumT a (s1.heap.objs.size + 1) s1.heap.objs.size, ⟨⟨.none, he⟩, hit, Nat.succ_ne_self _⟩, fun b hb => ?_, q⟩
        have e' : b = s1.heap.objs.size + 1 ∨ b = s1.heap.objs.size := by simpa using hb
        have hle : s1.heap.objs.size ≤ b := by
          rcases e' with z | z
          · rw [z]; exact Nat.le_add_right _ _
          · rw [z]; exact Nat.le_refl _
        exact I1.fpOk hle (I1.hok.fresh hle)
def numsFrom (k : Nat) : List D → List D
  | [] => []
  | d :: ds => .tup [.int k, d] :: numsFrom (k + 1) ds
theorem numsFrom_get {d : D} : ∀ {ds : List D} {k i : Nat}, ds[i]? = some d → (numsFrom k ds)[i]? = some (.tup [.int ((k + i : Nat) : Int), d])
  | [], _, _, h => by simp at h
  | e :: ds, k, 0, h => by
    simp at h
    subst h
    rfl
  | e :: ds, k, i + 1, h => by
    have := numsFrom_get (k := k + 1) (i := i) (ds := ds) (d := d) (by simpa using h)
    rw [show (numsFrom k (e :: ds))[i + 1]? = (numsFrom (k + 1) ds)[i]? from by simp [numsFrom], this]
    congr 4
    omega
theorem numsFrom_len : ∀ {ds : List D} {k : Nat}, (numsFrom k ds).length = ds.length
  | [], _ => rfl
  | d :: ds, k => by
    show (numsFrom (k + 1) ds).length + 1 = _
    rw [numsFrom_len]
    rfl
def enumD : D → Option (List D)
  | .lst ds => some (numsFrom 0 ds)
  | .tup ds => some (numsFrom 0 ds)
  | _ => none
def mEnum (m : Mem → Res D) : Mem → Res (List D) := fun S => (m S).bind fun d S1 => ofO (enumD d) S1
theorem pair_new {K : PySem.W.Frag} {w w' : Wd} {H H' H'' : Hp} {ds : List D} {xs : List V} {i : Nat} {v x : V} {T : Addr} (ex : Ext w H w' H') (hr : RelDs K w H ds xs) (hx : xs[i]? = some v) (hT : H' T = none) (e : H'' = L2.upd H' T (.tup [.int (i : Nat), v])) (ev : x = .ref T) :
    ∃ d, (numsFrom 0 ds)[i]? = some d ∧ ∀ σ S, Rel K w' H' σ S → ∃ w'', Ext w' H' w'' H'' ∧ Rel K w'' H'' σ S ∧ RelD K w'' H'' d x := by
  obtain ⟨d, hd, hv⟩ := hr.getV hx
  refine ⟨_, numsFrom_get hd, fun σ S rel => ?_⟩
  subst e ev
  rw [show 0 + i = i from Nat.zero_add i]
  exact rel.newTup hT ⟨.int (i : Nat), [v], rfl, rfl, .one (RelD.mono ex _ _ hv)⟩
theorem si_enum (hg : Gl X "enumerate") (hm : X.mg "enumerate" = none) (he : SV X e m) (hs : starEach [e] X.env = (false, eval e X.env) :: starEach [] X.env) : SI X (.Tuple elts kk tpos) (.Call (.Name "enumerate" p) [e] [] pos) (mEnum m) := fun W tk =>
  PI.imp (pi_enumA hg hm (he W tk) hs) fun σ H R t => tG_bind t fun v H1 d S1 w1 rel q p => by
    cases ew : enumD d with
    | none => rw [ew] at p; exact p.elim
    | some ds =>
      rw [ew] at p
      cases d with
      | lst es =>
        cases ew
        obtain ⟨a, xs, rfl, h1, h2, h3⟩ := q
        refine .inl ⟨a, xs, rfl, .of h2, p w1 H1 _ (Ext.refl _ _) rel ⟨fun w' H' ex i hi => ?_, fun w' H' ex => ?_, fun w' H' i x H'' ex hi hy => ?_⟩⟩
        · rw [numsFrom_len] at hi
          obtain ⟨v, hv, _⟩ := h3.get (List.getElem?_eq_getElem hi)
          exact ⟨xs, v, .of ((ex.frz a h1).2.lst h2), hv⟩
        · exact ⟨xs, .of ((ex.frz a h1).2.lst h2), by rw [numsFrom_len, h3.length]; exact Nat.le_refl _⟩
        · obtain ⟨T, u, e1, e2, e3, e4⟩ := hy
          exact pair_new ex h3 (e4 xs (.of ((ex.frz a h1).2.lst h2))) e2 e3 e1
      | tup es =>
        cases ew
        obtain ⟨a, xs, rfl, h1, h3⟩ := q
        refine .inr ⟨a, xs, rfl, h1.sq, p w1 H1 _ (Ext.refl _ _) rel ⟨fun w' H' ex i hi => ?_, fun w' H' ex => ?_, fun w' H' i x H'' ex hi hy => ?_⟩⟩
        · rw [numsFrom_len] at hi
          obtain ⟨v, hv, _⟩ := h3.get (List.getElem?_eq_getElem hi)
          exact ⟨xs, v, (h1.mono ex).sq, hv⟩
        · exact ⟨xs, (h1.mono ex).sq, by rw [numsFrom_len, h3.length]⟩
        · obtain ⟨T, u, e1, e2, e3, e4⟩ := hy
          exact pair_new ex h3 (e4 xs (h1.mono ex).sq) e2 e3 e1
      | _ => cases ew
end
end HM

set_option Elab.async false
set_option linter.all false
set_option maxRecDepth 100000
set_option maxHeartbeats 4000000
namespace HM
open PySem PySem.Spec L2
/-! ### several except clauses, each with or without a name -/
def endAs (i : Nat) (D : Ends) : Ends := { nx := fun σ' H' => D.nx (σ'.set i none) H', rt := D.rt, bk := fun σ' H' => D.bk (σ'.set i none) H', ct := fun σ' H' => D.ct (σ'.set i none) H' }
abbrev Clause := Value × Option Nat × (Addr → Value → Option Addr → TS)
def goClause (D : Ends) (cls : Value) (d : Option Addr) (σ : L2.St) (H : Hp) : Clause → Prop
  | (_, none, ts) => ∀ a, H a = none → ts a cls d D σ H
  | (_, some i, ts) => ∀ a, H a = none → ts a cls d (endAs i D) (σ.set i (some (.ref a))) H
def wManyA (K : PySem.W.Frag) (Wout : WX) (D : Ends) : List Clause → WX
  | [] => Wout
  | c :: r => fun cls d σ H => ∃ b, PySem.W.exmOne K cls c.1 = some b ∧ (b = true → goClause D cls d σ H c) ∧ (b = false → wManyA K Wout D r cls d σ H)
inductive HdsA (X : Cx) : List ExceptHandler → List Clause → Prop
  | nil : HdsA X [] []
  | cons {x : Str} {c : Value} {ts : Addr → Value → Option Addr → TS} {b₀ : Stmt} {suite : List Stmt} {np pos' : Pos} {hds : List ExceptHandler} {l : List Clause} (hc : Names X x c)
      (hsu : ∀ (a : Addr) (oe : Obj) (cls : Value) (d : Option Addr) (pn : List (Addr × Obj)), Zc cls d oe → (∃ vs, oe.data = .fields vs) → PSs (X.suite a ((a, oe) :: pn)) (b₀ :: suite) (ts a cls d)) (r : HdsA X hds l) :
      HdsA X (.ExceptHandler (some (.Name x np)) none (b₀ :: suite) pos' :: hds) ((c, none, ts) :: l)
  | consAs {x n : Str} {i : Nat} {c : Value} {ts : Addr → Value → Option Addr → TS} {b₀ : Stmt} {suite : List Stmt} {np pos' : Pos} {hds : List ExceptHandler} {l : List Clause} (hc : Names X x c) (hi : X.N[i]? = some n) (hln : X.env.kindOf n = some .local)
      (hsu : ∀ (a : Addr) (oe : Obj) (cls : Value) (d : Option Addr) (pn : List (Addr × Obj)), Zc cls d oe → (∃ vs, oe.data = .fields vs) → PSs (X.suite a ((a, oe) :: pn)) (b₀ :: suite) (ts a cls d)) (r : HdsA X hds l) :
      HdsA X (.ExceptHandler (some (.Name x np)) (some n) (b₀ :: suite) pos' :: hds) ((c, some i, ts) :: l)
section
variable {X : Cx} {body : List Stmt} {h₀ : ExceptHandler} {hds : List ExceptHandler} {l : List Clause} {pos : Pos} {tb : WX → TS} {Wout : WX}
theorem ps_try_manyA (hs : X.stack = X.env :: X.outer) (hf : X.env.frame = some X.env.locals) (hN : X.N.Nodup) (tk : Takes X Wout)
    (hb : ∀ (W : WX) (pn : List (Addr × Obj)) (xe : Value → Shared → Prop), Takes (X.tr pn xe) W → PassesOwn (model X.prog X.w) X.A X.env xe → PSs (X.tr pn xe) body (tb W))
    (hh : HdsA X (h₀ :: hds) l) : PS X (.Try body (h₀ :: hds) [] [] pos) (fun D σ H => tb (wManyA X.K Wout D l) D σ H) := by
  refine ⟨fun pins s σ H D I h => ?_⟩
  have ok := I.ok
  have hfr : X.A.frames = some (X.env :: X.outer) := by rw [ok.frames, hs]
  refine wpAny_Try_except ?_
  refine wpAny_mono ((hb (wManyA X.K Wout D l) (X.pn ++ pins) (fun e s₁ => wpAny (model X.prog X.w) X.A (noteFrame e X.env) (fun _ s₂ => wpAny (model X.prog X.w) X.A (setFlight e none) (fun _ s₃ =>
    wpAny (model X.prog X.w) X.A (handleBy e X.env (h₀ :: hds)) (SP X pins D) X.xe s₃) X.xe s₂) X.xe s₁) (fun u s' xx => ?_) PassesOwn.looking).run [] s σ H D (I.toTry _) h) (fun f s1 hsp => ?_) (fun e s1 he => he)
  · -- the catch
    obtain ⟨a, B, sI, pins', σ', H', cls, d, rfl, J', nb, up, sky, na, os, ag, w⟩ := xx
    have J : Inv X pins σ' H' sI := J'.ofTry ok
    have sky' : Sky B (X.env :: X.outer) a (Zc cls d) X.env.locals s'.heap := by rw [← hs]; exact sky
    show wpAny (model X.prog X.w) X.A (noteFrame (.ref a) X.env) _ _ _
    refine Sky.land Zc.steady hfr hf sky' fun h3 fl3 up3 => ?_
    have J3 : Inv X pins σ' H' { s' with heap := h3 } := J.landed nb fl3.1 (up.trans up3) os ag
    obtain ⟨oe3, vs3, he3, hz3, hd3⟩ := fl3.there
    have notFr : ∀ {h : Heap} {o : Obj} {vs : Array Value}, h.FunFrames B (X.env :: X.outer) → h.get? a = some o → o.data = .fields vs → a ∉ frs (X.env :: X.outer) := fun {h o vs} ff e dd hm => by
      obtain ⟨_, o', e', hnf⟩ := ff.mem hm
      rw [e] at e'; cases e'
      exact hnf _ dd
    have nfr := notFr fl3.2.2.1 he3 hd3
    have nL : a ≠ X.env.locals := fun z => nfr (List.mem_filterMap.mpr ⟨X.env, List.mem_cons_self, by rw [hf, z]⟩)
    have nF : a ∉ X.fs := fun hm => by
      obtain ⟨e, he, q⟩ := List.mem_filterMap.mp hm
      exact nfr (List.mem_filterMap.mpr ⟨e, List.mem_cons_of_mem _ he, q⟩)
    have S3 := J3.suite he3 hd3 na nL nF
    have go : ∀ {hds' : List ExceptHandler} {l' : List Clause}, HdsA X hds' l' → wManyA X.K Wout D l' cls d σ' H' →
        wpAny (model X.prog X.w) X.A (handleBy (.ref a) X.env hds') (SP X pins D) X.xe { s' with heap := h3 } := by
      intro hds' l' hk
      induction hk with
      | nil =>
        intro w
        refine wpAny_handleBy_nil ?_
        obtain ⟨k1, k2, k3, oe, vs, T, oT, ts', he, hz, hd, h1, hr⟩ := id fl3
        unfold PySem.passOn
        refine wpAny_bind (wpAny_field he hd h1 ?_)
        rw [if_neg (show ¬ ((Value.ref T == Value.none) = true) from by simp)]
        have fin : wpAny (model X.prog X.w) X.A (setFlight (.ref a) X.env.frame) (fun _ s4 => wpAny (model X.prog X.w) X.A (throw (.ref a) : Sem Flow) (SP X pins D) X.xe s4) X.xe { s' with heap := h3 } := by
          rw [hf]
          refine HandSPX.setFlight_upZ fl3 fun h4 hh4 up4 => wpAny_throw (tk _ _ ?_)
          exact ⟨a, B, sI, pins, σ', H', cls, d, rfl, J, nb, (up.trans up3).trans up4, .inr (.inr (by rw [hs]; exact hh4)), na, os, ag, w⟩
        first
          | exact wpAny_bind (wpAny_pure (wpAny_bind fin))
          | exact wpAny_bind fin
      | @cons x c ts b₀ suite np pos' hds2 l2 hc hsu r ih =>
        intro w
        obtain ⟨b, hb1, hyes, hno⟩ := w
        refine wpAny_handleBy_cons (codeAny_handlers_test ?_) (by intro q; cases q)
        have LT : PySem.W.Looks (model X.prog X.w) h3 (typeOf (.ref a)) cls := fun A Q E s k q => wpAny_typeOf_ref (k _ _ he3) (by rw [hz3.1]; exact q)
        have LM := PySem.W.exm_one (M := model X.prog X.w) (J3.kIn) LT hb1
        have test : ∀ {Q : Value → Shared → Prop} {E : Value → Shared → Prop}, Q c { s' with heap := h3 } → wpAny (model X.prog X.w) (X.A.mark (some (.ref a))) (eval (.Name x np) X.env) Q E { s' with heap := h3 } := fun {Q E} q => by
          obtain ⟨hg, hdbg, hm | ⟨hm, hv, hnn⟩⟩ := hc
          · exact ld_glob (X := X.suite a ((a, oe3) :: (X.pn ++ pins))) S3 hg hm q hdbg
          · exact ld_blt (X := X.suite a ((a, oe3) :: (X.pn ++ pins))) S3 hg hm hv q hnn hdbg
        refine test (LM.here ?_)
        cases b with
        | true =>
          refine codeAny_handlers_suite ?_
          refine HandSPX.lands_againZ fl3 fun h4 fl4 up4 => ?_
          have J4 : Inv X pins σ' H' { s' with heap := h4 } := J.landed nb fl4.1 ((up.trans up3).trans up4) os ag
          obtain ⟨oe4, vs4, he4, hz4, hd4⟩ := fl4.there
          have S4 := J4.suite he4 hd4 na nL nF
          refine wpAny_mono ((hsu a oe4 cls d (X.pn ++ pins) hz4 ⟨_, hd4⟩).run [] _ _ H' _ S4 (hyes rfl a na)) (fun f s6 hsp => ?_) (fun _ _ z => False.elim z)
          cases f with
          | next =>
            obtain ⟨σ6, H6, S6, q6⟩ := hsp
            exact ⟨_, _, S6.unsuite ok, q6⟩
          | brk =>
            obtain ⟨σ6, H6, S6, q6⟩ := hsp
            exact ⟨_, _, S6.unsuite ok, q6⟩
          | cont =>
            obtain ⟨σ6, H6, S6, q6⟩ := hsp
            exact ⟨_, _, S6.unsuite ok, q6⟩
          | ret u =>
            obtain ⟨v6, σ6, H6, S6, r6, q6⟩ := hsp
            exact ⟨_, _, _, S6.unsuite ok, r6, q6⟩
        | false =>
          show wpAny _ X.A (handleBy (.ref a) X.env hds2) _ _ _
          exact ih (hno rfl)
      | @consAs x n i c ts b₀ suite np pos' hds2 l2 hc hi hln hsu r ih =>
        intro w
        obtain ⟨b, hb1, hyes, hno⟩ := w
        refine wpAny_handleBy_cons (codeAny_handlers_test ?_) (by intro q; cases q)
        have LT : PySem.W.Looks (model X.prog X.w) h3 (typeOf (.ref a)) cls := fun A Q E s k q => wpAny_typeOf_ref (k _ _ he3) (by rw [hz3.1]; exact q)
        have LM := PySem.W.exm_one (M := model X.prog X.w) (J3.kIn) LT hb1
        have test : ∀ {Q : Value → Shared → Prop} {E : Value → Shared → Prop}, Q c { s' with heap := h3 } → wpAny (model X.prog X.w) (X.A.mark (some (.ref a))) (eval (.Name x np) X.env) Q E { s' with heap := h3 } := fun {Q E} q => by
          obtain ⟨hg, hdbg, hm | ⟨hm, hv, hnn⟩⟩ := hc
          · exact ld_glob (X := X.suite a ((a, oe3) :: (X.pn ++ pins))) S3 hg hm q hdbg
          · exact ld_blt (X := X.suite a ((a, oe3) :: (X.pn ++ pins))) S3 hg hm hv q hnn hdbg
        refine test (LM.here ?_)
        cases b with
        | true =>
          refine codeAny_handlers_suite_as ?_
          refine HandSPX.lands_againZ fl3 fun h4 fl4 up4 => ?_
          have J4 : Inv X pins σ' H' { s' with heap := h4 } := J.landed nb fl4.1 ((up.trans up3).trans up4) os ag
          obtain ⟨oe4, vs4, he4, hz4, hd4⟩ := fl4.there
          have S4 := J4.suite he4 hd4 na nL nF
          have hloc : Loc X.env.scope n := .inl hln
          refine store_ok (X := X.suite a ((a, oe4) :: (X.pn ++ pins))) (v := .ref a) S4 hN hi hloc rfl (fun s5 S5 => ?_) (.inr hln)
          refine wpAny_mono ((hsu a oe4 cls d (X.pn ++ pins) hz4 ⟨_, hd4⟩).run [] s5 _ H' _ S5 (hyes rfl a na)) (fun f s6 hsp => ?_) (fun _ _ z => False.elim z)
          have end_ : ∀ {σ6 : L2.St} {H6 : Hp} {Q : Shared → Prop}, Inv (X.suite a ((a, oe4) :: (X.pn ++ pins))) [] σ6 H6 s6 → (∀ s7, Inv X pins (σ6.set i none) H6 s7 → Q s7) →
              wpAny (model X.prog X.w) X.A (do bindName X.env n .none; unbindBehindTheSuite X.env n pos') (fun _ s7 => Q s7) X.xe s6 := fun {σ6 H6 Q} S6 hq => gone_ok (S6.unsuite ok) hN hi hln hq
          cases f with
          | next =>
            obtain ⟨σ6, H6, S6, q6⟩ := hsp
            exact end_ S6 fun s7 J7 => ⟨_, _, J7, q6⟩
          | brk =>
            obtain ⟨σ6, H6, S6, q6⟩ := hsp
            exact end_ S6 fun s7 J7 => ⟨_, _, J7, q6⟩
          | cont =>
            obtain ⟨σ6, H6, S6, q6⟩ := hsp
            exact end_ S6 fun s7 J7 => ⟨_, _, J7, q6⟩
          | ret u =>
            obtain ⟨v6, σ6, H6, S6, r6, q6⟩ := hsp
            exact end_ S6 fun s7 J7 => ⟨_, _, _, J7, r6, q6⟩
        | false =>
          show wpAny _ X.A (handleBy (.ref a) X.env hds2) _ _ _
          exact ih (hno rfl)
    exact go hh w
  · cases f with
    | next =>
      obtain ⟨σ', H', J', q⟩ := hsp
      exact wpAny_execs_nil ⟨σ', H', J'.ofTry ok, q⟩
    | brk =>
      obtain ⟨σ', H', J', q⟩ := hsp
      exact ⟨σ', H', J'.ofTry ok, q⟩
    | cont =>
      obtain ⟨σ', H', J', q⟩ := hsp
      exact ⟨σ', H', J'.ofTry ok, q⟩
    | ret u =>
      obtain ⟨v, σ', H', J', r, q⟩ := hsp
      exact ⟨v, σ', H', J'.ofTry ok, r, q⟩
end
end HM

set_option Elab.async false
set_option linter.all false
set_option maxRecDepth 100000
set_option maxHeartbeats 4000000
namespace HM
open PySem PySem.Spec L2
/-! ### what an except suite may say of its exception -/
inductive HA where
  | lit (d : D) | fld (f : Str)
inductive HX where
  | one (a : HA) | lst (as : List HA) | tup (as : List HA)
def evHA (fs : List (Str × D)) : HA → Option D
  | .lit d => some d
  | .fld f => fs.lookup f
def evHAs (fs : List (Str × D)) : List HA → Option (List D)
  | [] => some []
  | a :: as => (evHA fs a).bind fun d => (evHAs fs as).map (d :: ·)
def evHX (fs : List (Str × D)) : HX → Option RD
  | .one a => (evHA fs a).map .val
  | .lst as => (evHAs fs as).bind fun ds => if ds.length ≤ sizeLine then some (.own (.lst ds)) else none
  | .tup as => (evHAs fs as).bind fun ds => if ds.length ≤ sizeLine then some (.val (.tup ds)) else none
inductive HS where
  | ret (x : HX) | app (j : Nat) (x : HX) | pass
def frzR : RD → D := RD.frz
def evHS (fs : List (Str × D)) : HS → Mem → Out
  | .ret x, S => match evHX fs x with
    | some r => .rt r S
    | none => .bad
  | .app j x, S => match thing j S with
    | some c => if tyOk "list" c = true then (match (evHX fs x).bind fun r => appendD c [r.frz] with
      | some (c2, _) => .nx (putThing j c2 S)
      | none => .bad) else .bad
    | none => .bad
  | .pass, S => .nx S
section
variable {K : PySem.W.Frag}
/-- the exception at a, of the class h, in slot i (if it has one) -/
structure XAt (K : PySem.W.Frag) (a : Addr) (cls : Value) (d : Option Addr) (h : Str) (oi : Option Nat) (fs : List (Str × D)) (w : Wd) (H : Hp) (σ : L2.St) : Prop where
  cls : cls = .ref (He.ga K h)
  exc : ExcR K w H fs d
  slot : ∀ i, oi = some i → σ[i]? = some (some (.ref a))
def tHA (K : PySem.W.Frag) (a : Addr) (cls : Value) (d : Option Addr) (h : Str) (oi : Option Nat) (x : HA) : TE := fun σ H Q => ∃ w fs dd, XAt K a cls d h oi fs w H σ ∧ evHA fs x = some dd ∧ ∀ v, RelD K w H dd v → Q v H
def tHAs (K : PySem.W.Frag) (a : Addr) (cls : Value) (d : Option Addr) (h : Str) (oi : Option Nat) (xs : List HA) : TA := fun σ H Q => ∃ w fs ds, XAt K a cls d h oi fs w H σ ∧ evHAs fs xs = some ds ∧ ∀ vs, RelDs K w H ds vs → Q vs H
def tHX (K : PySem.W.Frag) (a : Addr) (cls : Value) (d : Option Addr) (h : Str) (oi : Option Nat) (x : HX) : TE := fun σ H Q => ∃ w S fs r, Rel K w H σ S ∧ XAt K a cls d h oi fs w H σ ∧ evHX fs x = some r ∧ ∀ w' H' v, Ext w H w' H' → Rel K w' H' σ S → ResR K w' H' r v → Q v H'
def tHS (K : PySem.W.Frag) (a : Addr) (cls : Value) (d : Option Addr) (h : Str) (oi : Option Nat) (x : HS) : TS := fun D σ H => ∃ w S fs, Rel K w H σ S ∧ XAt K a cls d h oi fs w H σ ∧ postO K w H WNo D (evHS fs x S)
end
/-- the judgements in the suite -/
abbrev Sui (X : Cx) (P : Cx → Addr → Value → Option Addr → Prop) : Prop := ∀ (a : Addr) (oe : Obj) (cls : Value) (d : Option Addr) (pn : List (Addr × Obj)), Zc cls d oe → (∃ vs, oe.data = .fields vs) → P (X.suite a ((a, oe) :: pn)) a cls d
section
variable {X : Cx} {h : Str} {oi : Option Nat} {e : Expr} {es : List Expr} {pos : Pos}
theorem hx_lit {t : TE} {dd : D} {v : V} (he : ∀ Y : Cx, PE Y e t) (ht : ∀ σ H Q, Q v H → t σ H Q) (hr : ∀ w H, RelD X.K w H dd v) : Sui X fun Y a cls d => PE Y e (tHA X.K a cls d h oi (.lit dd)) := fun a oe cls d pn hz hf =>
  PE.imp (he _) fun σ H Q t => by
    obtain ⟨w, fs, dd', xa, ev, q⟩ := t
    cases ev
    exact ht σ H Q (q v (hr w H))
theorem hx_fld {f n : Str} {i : Nat} {p : Pos} (T : XfC X.K (He.ga X.K h)) (hno : PySem.W.findIn X.K (.ref (He.ga X.K h)) f = some none) (hoi : oi = some i) (hN : X.N[i]? = some n) (hv : Vis X.env.scope n) (hd : (n == ("__debug__" : Str)) = false) (hcd : (n == ("__classdict__" : Str)) = false)
    (hb : attributeBase (.Name n p) f X.env (eval (.Name n p) X.env) = eval (.Name n p) X.env) : Sui X fun Y a cls d => PE Y (.Attribute (.Name n p) f pos) (tHA X.K a cls d h oi (.fld f)) := fun a oe cls d pn hz hf =>
  PE.imp (pe_xf T hno hz hf (pe_var (X := X.suite a ((a, oe) :: pn)) hN hv hd hcd) hb) fun σ H Q t => by
    obtain ⟨w, fs, dd, xa, ev, q⟩ := t
    refine ⟨.ref a, xa.slot i hoi, rfl, xa.cls, ?_⟩
    rcases xa.exc with ⟨h1, h2⟩ | ⟨x, gs, h1, h2, h3, h4⟩
    · rw [h1] at ev; cases ev
    · rcases h4 f with ⟨k1, _⟩ | ⟨e', v, k1, k2, k3⟩
      · rw [show evHA fs (.fld f) = fs.lookup f from rfl, k1] at ev; cases ev
      · rw [show evHA fs (.fld f) = fs.lookup f from rfl, k1] at ev
        cases ev
        exact ⟨x, gs, v, h1, h3, k2, q v k3⟩
theorem hx_nil : Sui X fun Y a cls d => PA Y [] (tHAs X.K a cls d h oi []) := fun a oe cls d pn hz hf => PA.imp pa_nil fun σ H Q t => by
  obtain ⟨w, fs, ds, xa, ev, q⟩ := t
  cases ev
  exact q [] rfl
theorem hx_cons {x : HA} {xs : List HA} (h1 : Sui X fun Y a cls d => PE Y e (tHA X.K a cls d h oi x)) (h2 : Sui X fun Y a cls d => PA Y es (tHAs X.K a cls d h oi xs)) (hs : starEach (e :: es) X.env = (false, eval e X.env) :: starEach es X.env) :
    Sui X fun Y a cls d => PA Y (e :: es) (tHAs X.K a cls d h oi (x :: xs)) := fun a oe cls d pn hz hf =>
  PA.imp (pa_cons (h1 a oe cls d pn hz hf) (h2 a oe cls d pn hz hf) hs) fun σ H Q t => by
    obtain ⟨w, fs, ds, xa, ev, q⟩ := t
    obtain ⟨dd, e1, e2⟩ := Option.bind_eq_some_iff.mp (show (evHA fs x).bind (fun d => (evHAs fs xs).map (d :: ·)) = some ds from ev)
    obtain ⟨ds', e3, rfl⟩ := Option.map_eq_some_iff.mp e2
    exact ⟨w, fs, dd, xa, e1, fun v hv => ⟨w, fs, ds', xa, e3, fun vs hvs => q (v :: vs) ⟨v, vs, rfl, hv, hvs⟩⟩⟩
theorem hx_one {x : HA} (h1 : Sui X fun Y a cls d => PE Y e (tHA X.K a cls d h oi x)) : Sui X fun Y a cls d => PE Y e (tHX X.K a cls d h oi (.one x)) := fun a oe cls d pn hz hf =>
  PE.imp (h1 a oe cls d pn hz hf) fun σ H Q t => by
    obtain ⟨w, S, fs, r, rel, xa, ev, q⟩ := t
    obtain ⟨dd, e1, rfl⟩ := Option.map_eq_some_iff.mp (show (evHA fs x).map RD.val = some r from ev)
    exact ⟨w, fs, dd, xa, e1, fun v hv => q w H v (Ext.refl _ _) rel hv⟩
theorem hx_lst {xs : List HA} (h1 : Sui X fun Y a cls d => PA Y es (tHAs X.K a cls d h oi xs)) : Sui X fun Y a cls d => PE Y (.List es pos) (tHX X.K a cls d h oi (.lst xs)) := fun a oe cls d pn hz hf =>
  PE.imp (pe_lst (h1 a oe cls d pn hz hf)) fun σ H Q t => by
    obtain ⟨w, S, fs, r, rel, xa, ev, q⟩ := t
    obtain ⟨ds, e1, e2⟩ := Option.bind_eq_some_iff.mp (show (evHAs fs xs).bind (fun ds => if ds.length ≤ sizeLine then some (RD.own (.lst ds)) else none) = some r from ev)
    by_cases hl : ds.length ≤ sizeLine
    · rw [if_pos hl] at e2
      cases e2
      refine ⟨w, fs, ds, xa, e1, fun vs hvs => ⟨by rw [← hvs.length]; exact hl, fun p hp => ?_⟩⟩
      obtain ⟨k1, k2, k3⟩ := rel.newOwn hp hvs
      exact q _ _ _ k1 k2 k3
    · rw [if_neg hl] at e2; cases e2
theorem hx_tup {xs : List HA} {k : Nat} (h1 : Sui X fun Y a cls d => PA Y es (tHAs X.K a cls d h oi xs)) : Sui X fun Y a cls d => PE Y (.Tuple es k pos) (tHX X.K a cls d h oi (.tup xs)) := fun a oe cls d pn hz hf =>
  PE.imp (pe_tup (h1 a oe cls d pn hz hf)) fun σ H Q t => by
    obtain ⟨w, S, fs, r, rel, xa, ev, q⟩ := t
    obtain ⟨ds, e1, e2⟩ := Option.bind_eq_some_iff.mp (show (evHAs fs xs).bind (fun ds => if ds.length ≤ sizeLine then some (RD.val (.tup ds)) else none) = some r from ev)
    by_cases hl : ds.length ≤ sizeLine
    · rw [if_pos hl] at e2
      cases e2
      refine ⟨w, fs, ds, xa, e1, fun vs hvs => ⟨by rw [← hvs.length]; exact hl, fun p hp => ?_⟩⟩
      obtain ⟨w', k1, k2, k3⟩ := rel.newTup hp hvs
      exact q _ _ _ k1 k2 k3
    · rw [if_neg hl] at e2; cases e2
/-! the suites -/
theorem hs_ret {x : HX} (h1 : Sui X fun Y a cls d => PE Y e (tHX X.K a cls d h oi x)) : Sui X fun Y a cls d => PSs Y [.Return (some e) pos] (tHS X.K a cls d h oi (.ret x)) := fun a oe cls d pn hz hf =>
  PSs.imp (pss_one (ps_ret (h1 a oe cls d pn hz hf))) fun D σ H t => by
    obtain ⟨w, S, fs, rel, xa, p⟩ := t
    have p' : postO X.K w H WNo D (match evHX fs x with
      | some r => .rt r S
      | none => .bad) := p
    cases ev : evHX fs x with
    | none => rw [ev] at p'; exact p'.elim
    | some r =>
      rw [ev] at p'
      exact ⟨w, S, fs, r, rel, xa, ev, fun w' H' v ex rl q => p' w' H' σ v ex rl q⟩
theorem hs_retN : Sui X fun Y a cls d => PSs Y [.Return none pos] (tHS X.K a cls d h oi (.ret (.one (.lit .non)))) := fun a oe cls d pn hz hf =>
  PSs.imp (pss_one ps_retN) fun D σ H t => by
    obtain ⟨w, S, fs, rel, xa, p⟩ := t
    exact p w H σ .non (Ext.refl _ _) rel rfl
theorem hs_pass : Sui X fun Y a cls d => PSs Y [.Pass pos] (tHS X.K a cls d h oi .pass) := fun a oe cls d pn hz hf =>
  PSs.imp (pss_one ps_pass) fun D σ H t => by
    obtain ⟨w, S, fs, rel, xa, p⟩ := t
    exact p w H σ (Ext.refl _ _) rel
theorem hs_app {x : HX} {l : Str} {j : Nat} {apos cpos lp p2 : Pos} (h1 : Sui X fun Y a cls d => PE Y e (tHX X.K a cls d h oi x)) (hN : X.N[j]? = some l) (hv : Vis X.env.scope l) (hd : (l == ("__debug__" : Str)) = false) (hcd : (l == ("__classdict__" : Str)) = false)
    (hbase : attributeBase (.Name l lp) "append" X.env (eval (.Name l lp) X.env) = eval (.Name l lp) X.env)
    (hfew : ((backTo cpos (starEach [e] X.env)).all (fun x => !x.1) && (backToKw cpos (keywordEach [] X.env)).all (fun x => x.1.isSome)
      && decide ([e].length + ([] : List Keyword).length + (if ([] : List Keyword).isEmpty then 0 else 1) < 30)) = true)
    (hline : (apos.endLine == cpos.line) = true) (hs : starEach [e] X.env = (false, eval e X.env) :: starEach [] X.env) (hplain : (backTo cpos (starEach [] X.env)).any (·.1) = false) :
    Sui X fun Y a cls d => PSs Y [.Expr (.Call (.Attribute (.Name l lp) "append" apos) [e] [] cpos) p2] (tHS X.K a cls d h oi (.app j x)) := fun a oe cls d pn hz hf =>
  PSs.imp (pss_one (ps_expr (pe_bm PySem.F.plainAttrs_list PySem.F.slot_list_append PySem.F.type_list_append mt_append (pe_var (X := X.suite a ((a, oe) :: pn)) hN hv hd hcd) (pa_cons (h1 a oe cls d pn hz hf) pa_nil hs) hbase hfew hline hs hplain) rfl)) fun D σ H t => by
    obtain ⟨w, S, fs, rel, xa, p⟩ := t
    have p' : postO X.K w H WNo D (match thing j S with
      | some c => if tyOk "list" c = true then (match (evHX fs x).bind fun r => appendD c [r.frz] with
        | some (c2, _) => .nx (putThing j c2 S)
        | none => .bad) else .bad
      | none => .bad) := p
    cases et : thing j S with
    | none => rw [et] at p'; exact p'.elim
    | some c =>
      rw [et] at p'
      have p1 : postO X.K w H WNo D (if tyOk "list" c = true then (match (evHX fs x).bind fun r => appendD c [r.frz] with
        | some (c2, _) => .nx (putThing j c2 S)
        | none => .bad) else .bad) := p'
      by_cases hty : tyOk "list" c = true
      · rw [if_pos hty] at p1
        obtain ⟨aL, hvL, hcL, _, _⟩ := rel.mut et
        cases eg : (evHX fs x).bind fun r => appendD c [r.frz] with
        | none => rw [eg] at p1; exact p1.elim
        | some cr =>
          obtain ⟨c2, rd⟩ := cr
          rw [eg] at p1
          obtain ⟨r, e1, e2⟩ := Option.bind_eq_some_iff.mp eg
          refine ⟨.ref aL, hvL, tyV_cont hcL hty, w, S, fs, r, rel, xa, e1, fun w' H' v ex rl q => ?_⟩
          obtain ⟨w2, g2, rel2, q2⟩ := q.freeze rl
          obtain ⟨a', hv', hc', hx', hr'⟩ := rel2.mut et
          rw [hvL] at hv'
          have ea : aL = a' := by injection hv' with q; injection q with q; injection q
          subst ea
          exact mu_append (X := X) w2 H' aL c [r.frz] [v] c2 rd _ hc' (.one q2) hx' e2 fun o' v' k1 k2 => p1 w2 _ σ ((ex.trans g2.ext).trans (hx' o')) (hr' o' c2 (.of k1))
      · rw [if_neg hty] at p1; exact p1.elim
end
/-! ### try -/
def clearS (oi : Option Nat) (S : Mem) : Mem := match oi with
  | none => S
  | some i => { S with env := S.env.set i .none }
def Out.clear (oi : Option Nat) : Out → Out
  | .nx m => .nx (clearS oi m)
  | .bk m => .bk (clearS oi m)
  | .ct m => .ct (clearS oi m)
  | .rt r m => .rt r m
  | o => o
structure Hd where
  cls : Str
  slot : Option Nat
  suite : HS
def okSlot (oi : Option Nat) (S : Mem) : Bool := match oi with
  | none => true
  | some i => decide (i < S.env.length)
def handle (c : Str) (fs : List (Str × D)) (S : Mem) : List Hd → Out
  | [] => .exc c fs S
  | h :: hs => if c = h.cls then (if okSlot h.slot S = true then (evHS fs h.suite (clearS h.slot S)).clear h.slot else .bad) else handle c fs S hs
def mTry (ns : List Str) (b : Mem → Out) (hs : List Hd) : Mem → Out := fun S => match b S with
  | .exc c fs S1 => if ns.contains c = true then handle c fs S1 hs else .bad
  | o => o
section
variable {K : PySem.W.Frag} {w : Wd} {H : Hp} {σ : L2.St} {S : Mem}
theorem Rel.clear (rel : Rel K w H σ S) (i : Nat) (ov : Option V) : Rel K w H (σ.set i ov) (clearS (some i) S) where
  len := by simp [clearS, rel.len]
  slots := fun j sl hj => by
    have hj' : (S.env.set i .none)[j]? = some sl := hj
    by_cases ej : j = i
    · subst ej
      have hl : j < S.env.length := by
        have := (List.getElem?_eq_some_iff.mp hj').1
        simpa using this
      rw [List.getElem?_set_self hl] at hj'
      cases hj'
      exact ⟨ov, List.getElem?_set_self (by rw [rel.len]; exact hl), trivial⟩
    · rw [List.getElem?_set_ne (Ne.symm ej)] at hj'
      obtain ⟨o, h1, h2⟩ := rel.slots j sl hj'
      exact ⟨o, by rw [List.getElem?_set_ne (Ne.symm ej)]; exact h1, h2⟩
  cells := rel.cells
  live := rel.live
  trk := rel.trk
theorem postO.clear {W : WX} {D : Ends} {i : Nat} : ∀ {o : Out}, postO K w H W D (o.clear (some i)) → postO K w H W (endAs i D) o
  | .nx m, h => fun w' H' σ' ex rl => h w' H' _ ex (rl.clear i none)
  | .bk m, h => fun w' H' σ' ex rl => h w' H' _ ex (rl.clear i none)
  | .ct m, h => fun w' H' σ' ex rl => h w' H' _ ex (rl.clear i none)
  | .rt r m, h => h
  | .exc c fs m, h => h
  | .bad, h => h
end
/-- the outcome of a suite lets no exception out -/
theorem postO.no {K : PySem.W.Frag} {w : Wd} {H : Hp} {W : WX} {Dn : Ends} : ∀ {o : Out}, (∀ c fs m, o ≠ .exc c fs m) → postO K w H W Dn o → postO K w H WNo Dn o
  | .nx m, _, h => h
  | .bk m, _, h => h
  | .ct m, _, h => h
  | .rt r m, _, h => h
  | .exc c fs m, no, h => absurd rfl (no c fs m)
  | .bad, _, h => h
theorem evHS_no (fs : List (Str × D)) (x : HS) (S : Mem) (c : Str) (gs : List (Str × D)) (m : Mem) : evHS fs x S ≠ .exc c gs m := by
  intro z
  cases x with
  | pass => cases z
  | ret x =>
    have z' : (match evHX fs x with | some r => Out.rt r S | none => .bad) = .exc c gs m := z
    cases e : evHX fs x <;> rw [e] at z' <;> cases z'
  | app j x =>
    have z' : (match thing j S with
      | some c => if tyOk "list" c = true then (match (evHX fs x).bind fun r => appendD c [r.frz] with
        | some (c2, _) => .nx (putThing j c2 S)
        | none => .bad) else .bad
      | none => .bad : Out) = .exc c gs m := z
    cases e : thing j S with
    | none => rw [e] at z'; cases z'
    | some c1 =>
      rw [e] at z'
      have z2 : (if tyOk "list" c1 = true then (match (evHX fs x).bind fun r => appendD c1 [r.frz] with
        | some (c2, _) => .nx (putThing j c2 S)
        | none => .bad) else .bad : Out) = .exc c gs m := z'
      by_cases h : tyOk "list" c1 = true
      · rw [if_pos h] at z2
        cases e2 : (evHX fs x).bind fun r => appendD c1 [r.frz] with
        | none => rw [e2] at z2; cases z2
        | some p => rw [e2] at z2; cases z2
      · rw [if_neg h] at z2; cases z2
section
variable {X : Cx} {body : List Stmt} {hds : List ExceptHandler} {h₀ : ExceptHandler} {mb : Mem → Out} {pos : Pos}
/-- the clause of a handler -/
def clauseOf (K : PySem.W.Frag) (h : Hd) : Clause := (.ref (He.ga K h.cls), h.slot, fun a cls d => tHS K a cls d h.cls h.slot h.suite)
theorem handle_of {w : Wd} {H : Hp} {σ : L2.St} {S : Mem} {W : WX} {Dn : Ends} {c : Str} {fs : List (Str × D)} {dx : Option Addr} (rel : Rel X.K w H σ S) (xr : ExcR X.K w H fs dx) : ∀ {hs : List Hd}, (∀ h ∈ hs, PySem.W.exmOne X.K (.ref (He.ga X.K c)) (.ref (He.ga X.K h.cls)) = some (decide (c = h.cls))) → postO X.K w H W Dn (handle c fs S hs) →
    wManyA X.K W Dn (hs.map (clauseOf X.K)) (.ref (He.ga X.K c)) dx σ H
  | [], _, p => p w H σ dx (Ext.refl _ _) rel xr
  | h :: hs, he, p => by
    refine ⟨decide (c = h.cls), he h (by simp), fun e => ?_, fun e => ?_⟩
    · have e' : c = h.cls := of_decide_eq_true e
      have p' : postO X.K w H W Dn (if c = h.cls then (if okSlot h.slot S = true then (evHS fs h.suite (clearS h.slot S)).clear h.slot else .bad) else handle c fs S hs) := p
      rw [if_pos e'] at p'
      obtain ⟨hc, hsl, hsu⟩ := h
      have e2 : c = hc := e'
      subst e2
      cases hsl with
      | none =>
        intro a ha
        refine ⟨w, S, fs, rel, ⟨rfl, xr, fun i z => nomatch z⟩, ?_⟩
        have q : (evHS fs hsu S).clear none = evHS fs hsu S := by
          cases evHS fs hsu S <;> rfl
        have p2 : postO X.K w H W Dn ((evHS fs hsu S).clear none) := by
          have p3 : postO X.K w H W Dn (if okSlot none S = true then (evHS fs hsu S).clear none else .bad) := p'
          rw [if_pos (show okSlot none S = true from rfl)] at p3
          exact p3
        rw [q] at p2
        exact postO.no (evHS_no fs hsu S) p2
      | some i =>
        intro a ha
        have p3 : postO X.K w H W Dn (if okSlot (some i) S = true then (evHS fs hsu (clearS (some i) S)).clear (some i) else .bad) := p'
        by_cases hl : okSlot (some i) S = true
        · rw [if_pos hl] at p3
          have hl' : i < σ.length := by rw [rel.len]; exact of_decide_eq_true hl
          refine ⟨w, clearS (some i) S, fs, rel.clear i _, ⟨rfl, xr, fun j z => ?_⟩, postO.no (evHS_no fs hsu _) (postO.clear p3)⟩
          cases z
          exact List.getElem?_set_self hl'
        · rw [if_neg hl] at p3; exact p3.elim
    · have e' : ¬ c = h.cls := of_decide_eq_false e
      have p' : postO X.K w H W Dn (if c = h.cls then (if okSlot h.slot S = true then (evHS fs h.suite (clearS h.slot S)).clear h.slot else .bad) else handle c fs S hs) := p
      rw [if_neg e'] at p'
      exact handle_of rel xr (fun h' hm => he h' (List.mem_cons_of_mem _ hm)) p'
/-- the clauses as they are compiled -/
inductive HdsS (X : Cx) : List ExceptHandler → List Hd → Prop
  | nil : HdsS X [] []
  | cons {h : Str} {x : HS} {b₀ : Stmt} {suite : List Stmt} {np pos' : Pos} {hds : List ExceptHandler} {l : List Hd} (hc : Names X h (.ref (He.ga X.K h)))
      (hsu : Sui X fun Y a cls d => PSs Y (b₀ :: suite) (tHS X.K a cls d h none x)) (r : HdsS X hds l) : HdsS X (.ExceptHandler (some (.Name h np)) none (b₀ :: suite) pos' :: hds) (⟨h, none, x⟩ :: l)
  | consAs {h n : Str} {i : Nat} {x : HS} {b₀ : Stmt} {suite : List Stmt} {np pos' : Pos} {hds : List ExceptHandler} {l : List Hd} (hc : Names X h (.ref (He.ga X.K h))) (hi : X.N[i]? = some n) (hln : X.env.kindOf n = some .local)
      (hsu : Sui X fun Y a cls d => PSs Y (b₀ :: suite) (tHS X.K a cls d h (some i) x)) (r : HdsS X hds l) : HdsS X (.ExceptHandler (some (.Name h np)) (some n) (b₀ :: suite) pos' :: hds) (⟨h, some i, x⟩ :: l)
theorem HdsS.to {hds : List ExceptHandler} {l : List Hd} (h : HdsS X hds l) : HdsA X hds (l.map (clauseOf X.K)) := by
  induction h with
  | nil => exact .nil
  | cons hc hsu r ih => exact .cons hc hsu ih
  | consAs hc hi hln hsu r ih => exact .consAs hc hi hln hsu ih
theorem s_try {l : List Hd} (hs : X.stack = X.env :: X.outer) (hf : X.env.frame = some X.env.locals) (hN : X.N.Nodup) (hb : ∀ (pn : List (Addr × Obj)) (xe : Value → Shared → Prop), SSs (X.tr pn xe) body mb)
    (hh : HdsS X (h₀ :: hds) l) {ns : List Str} (hx : ∀ c ∈ ns, ∀ h ∈ l, PySem.W.exmOne X.K (.ref (He.ga X.K c)) (.ref (He.ga X.K h.cls)) = some (decide (c = h.cls))) : SS X (.Try body (h₀ :: hds) [] [] pos) (mTry ns mb l) := fun W tk hp =>
  PS.imp (ps_try_manyA (tb := fun W => tO X.K mb W) hs hf hN tk (fun W pn xe tk hp => hb pn xe W tk hp) hh.to) fun Dn σ H t => by
    obtain ⟨w, S, rel, p⟩ := t
    refine ⟨w, S, rel, ?_⟩
    have p' : postO X.K w H W Dn (match mb S with
      | .exc c fs S1 => if ns.contains c = true then handle c fs S1 l else .bad
      | o => o) := p
    cases e : mb S with
    | exc c fs S1 =>
      rw [e] at p'
      have p2 : postO X.K w H W Dn (if ns.contains c = true then handle c fs S1 l else .bad) := p'
      by_cases hc : ns.contains c = true
      · rw [if_pos hc] at p2
        exact fun w' H' σ' dx ex rl xr => handle_of rl xr (hx c (by simpa using hc)) (postO.ext ex p2)
      · rw [if_neg hc] at p2; exact p2.elim
    | nx _ => rw [e] at p'; exact p'
    | rt _ _ => rw [e] at p'; exact p'
    | bk _ => rw [e] at p'; exact p'
    | ct _ => rw [e] at p'; exact p'
    | bad => rw [e] at p'; exact p'
end
end HM

set_option Elab.async false
set_option linter.all false
set_option maxRecDepth 100000
set_option maxHeartbeats 4000000
namespace HM
open PySem PySem.Spec L2
/-- arguments of an exception that its text can tell: short texts, ints that are no giants, tuples of few such texts -/
def excStr : D → Bool
  | .str s => decide (s.length ≤ 1000) && s.cps.toList.all fun c => decide (c < 16 ^ 8)
  | _ => false
def excArg : D → Bool
  | .int i => decide (i.natAbs.log2 < 1900)
  | .str s => decide (s.length ≤ 1000)
  | .tup ds => ds.all excStr && decide (ds.length ≤ 100)
  | _ => false
def excArgs (ds : List D) : Bool := ds.all excArg
/-- the class c can be raised; its arguments are its fields -/
def ExcOk (X : Cx) (c : Str) (ps : List Str) : Prop := ∀ (es : List Expr) (ta : TA) (p pos : Pos), es.all noStar = true → es.length = ps.length → PA X es ta →
  PMk X (.Call (.Name c p) es [] pos) (fun σ H Q => ta σ H fun vs H1 => ∃ w ds, RelDs X.K w H1 ds vs ∧ excArgs ds = true ∧ ds.length = ps.length ∧ (ps = [] → Q (.ref (He.ga X.K c)) none H1) ∧
    (ps ≠ [] → ∀ d gs, H1 d = none → (∀ f, gs.lookup f = (ps.zip vs).lookup f) → Q (.ref (He.ga X.K c)) (some d) (upd H1 d (.xd gs))))
def mRaise (c : Str) (ps : List Str) (ms : Mem → Res (List D)) : Mem → Out := fun S => (ms S).out fun ds S1 => if excArgs ds = true ∧ ds.length = ps.length then .exc c (ps.zip ds) S1 else .bad
theorem zip_rel {K : PySem.W.Frag} {w : Wd} {H : Hp} (f : Str) : ∀ {ps : List Str} {ds : List D} {vs : List V}, RelDs K w H ds vs → ((ps.zip ds).lookup f = none ∧ (ps.zip vs).lookup f = none) ∨ ∃ e v, (ps.zip ds).lookup f = some e ∧ (ps.zip vs).lookup f = some v ∧ RelD K w H e v
  | [], _, _, _ => .inl ⟨rfl, rfl⟩
  | _ :: _, [], _, h => by
    rw [show _ = ([] : List V) from h]
    exact .inl ⟨rfl, rfl⟩
  | p :: ps, d :: ds, _, h => by
    obtain ⟨v, vs, rfl, h1, h2⟩ := h
    by_cases e : f = p
    · subst e
      exact .inr ⟨d, v, by simp [List.lookup], by simp [List.lookup], h1⟩
    · have e' : (f == p) = false := by simpa using e
      rcases zip_rel f (ps := ps) h2 with ⟨k1, k2⟩ | ⟨a, b, k1, k2, k3⟩
      · exact .inl ⟨by simpa [List.lookup, e'] using k1, by simpa [List.lookup, e'] using k2⟩
      · exact .inr ⟨a, b, by simpa [List.lookup, e'] using k1, by simpa [List.lookup, e'] using k2, k3⟩
theorem s_raise {X : Cx} {c : Str} {ps : List Str} {es : List Expr} {p pos cpos : Pos} {ms : Mem → Res (List D)} (hc : X.calm = true) (ok : ExcOk X c ps) (h1 : es.all noStar = true) (h2 : es.length = ps.length) (ha : SA X es ms) :
    SS X (.Raise (some (.Call (.Name c p) es [] cpos)) none pos) (mRaise c ps ms) := fun W tk hp =>
  PS.imp (ps_raise hc tk (ok es _ p cpos h1 h2 (ha W tk))) fun Dn σ H t => tO_bind t fun vs H1 ds S1 w1 rel q p => by
    by_cases hh : excArgs ds = true ∧ ds.length = ps.length
    · rw [if_pos hh] at p
      refine ⟨w1, ds, q, hh.1, hh.2, fun e => ?_, fun e d gs hd hg => ?_⟩
      · subst e
        exact p w1 H1 σ none (Ext.refl _ _) rel (.inl ⟨by simp, rfl⟩)
      · obtain ⟨r1, g1⟩ := rel.alloc (o := .xd gs) hd
        have g2 : Grow w1 (upd H1 d (.xd gs)) (w1.put d .frz) (upd H1 d (.xd gs)) := .put (rel.fresh_role hd)
        have g := (g1.trans g2).ext
        refine p (w1.put d .frz) _ σ (some d) g (r1.put (rel.fresh_role hd) (by rw [upd_same]; simp) (fun n q => nomatch q)) (.inr ⟨d, gs, rfl, put_same, upd_same, fun f => ?_⟩)
        rw [hg f]
        exact zip_rel f (RelDs.mono g _ _ q)
    · rw [if_neg hh] at p; exact p.elim
/-! ### sorted by a def of the program that tells a key -/
end HM

set_option Elab.async false
set_option linter.all false
set_option maxRecDepth 100000
set_option maxHeartbeats 4000000
namespace HM
open PySem PySem.Spec L2
/-! ### a def f(p): return (len(p), p) -/
structure RankFn (K : PySem.W.Frag) (f : Addr) : Prop where
  ex : ∃ (oc : Value) (od : Option Addr) (x : Str) (params : Arguments) (sc : Scope) (dV kV doc pm : Value) (an : Option Addr) (cdv ct : Value) (osl : Array (Option Value)) (p : Str) (p1 p2 p3 p4 p5 p6 : Pos) (kk : Nat),
    K.lookup f = some ⟨oc, od, .func (PySem.W.fnOf x x params [.Return (some (.Tuple [.Call (.Name "len" p1) [.Name p p2] [] p3, .Name p p4] kk p5)) p6] sc dV kV doc pm an cdv ct), osl⟩ ∧ PySem.W.codeIn K cdv x = true ∧
    sc.kind = .function ∧ sc.isCoroutine = false ∧ sc.isGenerator = false ∧ (∀ y ∈ sc.names, y.2 ≠ .cell) ∧ sc.names.lookup p = some .local ∧ sc.names.lookup ("len" : Str) = some .globalImplicit ∧ (p == ("__debug__" : Str)) = false ∧
    ∀ u : Value, bindArgs (PySem.W.fnOf x x params [.Return (some (.Tuple [.Call (.Name "len" p1) [.Name p p2] [] p3, .Name p p4] kk p5)) p6] sc dV kV doc pm an cdv ct) ⟨[u], []⟩ = pure [(p, u)]
  kp : PySem.W.keepIn K (.ref f) = true
section
variable {prog : Program} {w : World} {A : Around} {E : Value → Shared → Prop} {s : Shared} {K : PySem.W.Frag} {mg : Str → Option Value}
theorem rank_call {f t : Addr} {items : Array Value} {Q : Value → Shared → Prop} (F : RankFn K f) (KX : K.In s.heap) (G : s.heap.Ns mainGlobals mg) (hlen : mg "len" = none) (B : ∃ mb, s.heap.Ns builtinsNs mb ∧ ∀ x : Str, x ≠ "__name__" → mb x = bootBuiltins x) (lim : s.heap.NoLimit)
    (hd : A.depth < recursionLimit) (ht : PyProof.Rows.IsTup s.heap t items) (hz : (items.size : Int) < 2 ^ 63)
    (hq : ∀ h' tk tok a, (∀ b o, s.heap.get? b = some o → h'.get? b = some o) → h'.get? a = some { cls := .type "tuple", data := .seq #[.int items.size tok, .ref t] } → Q (.ref a) { s with heap := h', toks := tk }) :
    wpAny (model prog w) A (call (.ref f) [.ref t]) Q E s := by
  obtain ⟨oc, od, x, params, sc, dV, kV, doc, pm, an, cdv, ct, osl, p, p1, p2, p3, p4, p5, p6, kk, lk, hcd, sk, sco, sgen, scell, sp, slen, hdb, hb⟩ := F.ex
  refine wpAny_call (codeAny_call_function hd (KX _ _ lk) rfl sco sgen rfl (PySem.W.codeRec_of KX hcd) ?_)
  rw [hb]
  refine wpAny_pure (wpAny_newFunctionEnv scell (fun y hy => by
    have : y = (p, Value.ref t) := by simpa using hy
    rw [this]; exact sp) (fun h₁ hns hsb => ⟨lim.fresh _ hsb, ?_⟩) sk)
  have kp : ∀ b o, s.heap.get? b = some o → h₁.get? b = some o := fun b o e => hsb.extBut b o (Nat.ne_of_lt (Heap.lt_size e)) (Heap.get?_push_of_some _ e)
  refine codeAny_func ?_
  obtain ⟨mb, hmb, hbv⟩ := B
  have nm : ∀ {A' : Around} {E' : Value → Shared → Prop} {s' : Shared} {pos : Pos} {Q' : Value → Shared → Prop}, (∀ b o, h₁.get? b = some o → s'.heap.get? b = some o) → Q' (.ref t) s' → wpAny (model prog w) A' (eval (.Name p pos) (newEnv sc s.heap.objs.size mainGlobals [] (x ++ ".<locals>.") (some f) cdv none builtinsNs)) Q' E' s' := fun {A' E' s' pos Q'} k q =>
    wpAny_Name (wpAny_loadName_local sk sp (hns.keeps k) (by simp [List.lookup]) q) hdb
  refine wpAny_execs_cons (wpAny_Return_some (wpAny_Tuple_spliced ?_))
  show wpAny _ _ (spliced ((false, eval (.Call (.Name "len" p1) [.Name p p2] [] p3) (newEnv sc s.heap.objs.size mainGlobals [] (x ++ ".<locals>.") (some f) cdv none builtinsNs)) :: (backTo p5 (starEach [.Name p p4] (newEnv sc s.heap.objs.size mainGlobals [] (x ++ ".<locals>.") (some f) cdv none builtinsNs))))) _ _ _
  refine Calls.spliced_cons ?_
  refine wpAny_Call_Name_kw (Calls.Name_function_global sk slen (Calls.loadGlobal_builtin (G.keeps kp) hlen (hmb.keeps kp) ((hbv "len" (by decide)).trans boot_len) ?_) (by decide))
  refine PyProof.Rows.callWith_builtin1 ?_ rfl rfl
  refine Calls.spliced_cons (nm (fun _ _ e => e) (Calls.spliced_nil ?_))
  refine PyProof.Rows.len_tuple (ht.keeps kp) hz ?_
  show wpAny _ _ (spliced ((false, eval (.Name p p4) (newEnv sc s.heap.objs.size mainGlobals [] (x ++ ".<locals>.") (some f) cdv none builtinsNs)) :: backTo p5 (starEach [] (newEnv sc s.heap.objs.size mainGlobals [] (x ++ ".<locals>.") (some f) cdv none builtinsNs)))) _ _ _
  refine Calls.spliced_cons (nm (fun _ _ e => e) (Calls.spliced_nil ⟨by show 2 ≤ sizeLine; decide, ?_⟩))
  refine hq _ _ _ _ (fun b o e => Heap.get?_push_of_some _ (kp b o e)) (Heap.get?_push_size _ rfl)
end
/-! ### sorted(xs, key=f), f such a def, xs tuples of texts and numbers -/
def atomD : D → Bool
  | .non => true
  | .bl _ => true
  | .int _ => true
  | .str _ => true
  | _ => false
def keyD (d : D) : D := match d with
  | .tup ds => .tup [.int ds.length, d]
  | _ => .non
def rankOk : D → Bool
  | .tup ds => ds.all atomD
  | _ => false
def sortkOk (ds : List D) : Bool := ds.all rankOk && sortOk (ds.map keyD)
def sortkL (ds : List D) : List D := ds.mergeSort (PySem.W.dataLe false fun d => pyD (keyD d))
theorem atom_reads {h : Heap} : ∀ {d : D} {v : Value} {as : List Addr}, atomD d = true → Reads h v (pyD d) as → as = []
  | .non, _, _, _, r => by cases r; rfl
  | .bl _, _, _, _, r => by cases r; rfl
  | .int _, _, _, _, r => by cases r; rfl
  | .str _, _, _, _, r => by cases r; rfl
  | .tup _, _, _, h, _ => nomatch h
  | .lst _, _, _, h, _ => nomatch h
  | .dct _ _, _, _, h, _ => nomatch h
  | .obj _ _, _, _, h, _ => nomatch h
  | .ref _, _, _, h, _ => nomatch h
  | .cls _, _, _, h, _ => nomatch h
  | .scr _, _, _, h, _ => nomatch h
  | .lck _, _, _, h, _ => nomatch h
  | .exn _ _, _, _, h, _ => nomatch h
theorem atoms_reads {h : Heap} : ∀ {ds : List D} {vs : List Value} {as : List Addr}, ds.all atomD = true → ReadsAll h vs (pyDs ds) as → as = []
  | [], _, _, _, r => by cases r; rfl
  | d :: ds, _, _, ha, r => by
    rw [List.all_cons, Bool.and_eq_true] at ha
    cases r with
    | cons r1 r2 =>
      rw [atom_reads ha.1 r1, atoms_reads ha.2 r2]
      rfl
def rSortK (X : Cx) : List V → List V → Hp → VK → Prop := fun vs zs H Q => ∃ (w : Wd) (a : Addr) (xs : List V) (ds : List D) (f : Addr), vs = [V.ref a] ∧ zs = [V.ref f] ∧ RankFn X.K f ∧ SqL X.K H a xs ∧ RelDs X.K w H ds xs ∧ sortkOk ds = true ∧
  ∀ p ys, H p = none → RelDs X.K w H (sortkL ds) ys → Q (.ref p) (upd H p (.lst ys))
section
variable {X : Cx}
theorem cr_sortK (hu : X.A.units + 64 < cLine) (hd : X.A.depth < recursionLimit) (hlen : X.mg "len" = none) : CallRK X (.builtin "sorted") [Str.ofString "key"] (rSortK X) := by
  intro pins s σ H vs zs us ws Q I r rz h
  obtain ⟨w, a, xs, ds, f, rfl, rfl, F, hs, hr, ok, q⟩ := h
  rw [Vals.ref1 r, Vals.ref1 rz]
  have ok' := ok
  unfold sortkOk at ok'
  rw [Bool.and_eq_true] at ok'
  obtain ⟨hrank, hsort⟩ := ok'
  obtain ⟨p1, p2, p3, p4, p5⟩ := sortOk_of hsort
  obtain ⟨its, rv, pl, hz⟩ := I.list hs
  have e2 : ds.map (fun d => pyD (keyD d)) = (ds.map keyD).map pyD := by rw [List.map_map]; rfl
  have hlen2 : ds.length ≤ sizeLine := by simpa using p5
  refine PySem.W.sorted_key_data (R := fun u d => ∃ v, RelV v u ∧ RelD X.K w H d v) (fun d => pyD (keyD d)) (b := false) pl.isList (each_of hr rv) (by rw [e2]; exact p2) (by rw [e2]; exact p3) hlen2
    (fun x hx => ?_) (PyProof.Rows.ksk_s1 _ _) (fun x => PyProof.Rows.ksk_l1 _ _) (fun x => PyProof.Rows.ksk_t1 f x) (fun v x hR hx h tk kp => ?_) (fun out c h' tk kp hn ho hl he => ?_)
  · have := p4 (keyD x) (List.mem_map_of_mem hx)
    omega
  · obtain ⟨v', rv', rd⟩ := hR
    have hrk := List.all_eq_true.mp hrank x hx
    cases x with
    | tup es =>
      obtain ⟨t, ys, rfl, hsq, hre⟩ := TupAt.rel rd
      obtain rfl : v = Value.ref t := rv'
      obtain ⟨its2, rv2, ht, hz2⟩ := I.tuple hsq
      have kp' : ∀ b o, s.heap.get? b = some o → h.get? b = some o := kp
      obtain ⟨mb, b1, b2⟩ := I.ok.mod.blt
      have hl2 : its2.toArray.size = es.length := by rw [List.size_toArray, ← rv2.length, ← hre.length]
      refine rank_call (mg := X.mg) F (fun b o e => kp' b o (I.kIn b o e)) ((I.ok.mod.glob.keeps I.bk).keeps kp') hlen ⟨mb, (b1.keeps I.bk).keeps kp', b2⟩ (I.nolimit.keeps kp') (by exact hd) (ht.keeps kp') (by rw [hl2]; have := line63; have := hre.length; omega) fun h' tk' tok a' k' ha' => ?_
      refine ⟨h', tk', rfl, k', ?_⟩
      have pl2 : plainD (.tup es) = true := by
        have := plainDs_mem p1 (List.mem_map_of_mem hx)
        have q : (plainD (.int es.length) && (plainD (.tup es) && true)) = true := this
        rw [Bool.and_eq_true, Bool.and_eq_true] at q
        exact q.2.1
      obtain ⟨as, r1⟩ := Dp.reads I _ _ _ (Sh.dp (rd.sh pl2)) (show RelV (V.ref t) (Value.ref t) from rfl)
      have r2 : Reads h' (.ref t) (pyD (.tup es)) as := PyProof.Rows.Reads.keeps (fun b o e => k' b o (kp' b o e)) r1
      have eas : as = [] := by
        cases r2 with
        | tuple _ _ _ ra => exact atoms_reads hrk ra
      subst eas
      have hlen3 : its2.toArray.size = es.length := hl2
      rw [hlen3] at ha'
      exact Reads.tuple ha' rfl rfl (ReadsAll.cons (Reads.int _ _) (ReadsAll.cons r2 ReadsAll.nil))
    | _ => exact nomatch hrk
  · obtain ⟨ys, k1, k2⟩ := of_each he
    refine ⟨.ref (s.heap.objs.size + 1), upd H (s.heap.objs.size + 1) (.lst ys), I.laid (t' := tk) kp (Nat.le_succ _) ⟨?_, out, c, k2, ho⟩, rfl, q _ ys (I.hok.fresh (Nat.le_succ _)) k1⟩
    rw [k2.length, hl]
    exact hlen2
def sortkD : D → Option RD
  | .lst ds => if sortkOk ds = true then some (.own (.lst (sortkL ds))) else none
  | _ => none
theorem se_sortk {a : Expr} {f : Str} {fa : Addr} {ma : Mem → Res D} {p p2 kp pos : Pos} (hu : X.A.units + 64 < cLine) (hd : X.A.depth < recursionLimit) (hlen : X.mg "len" = none) (hg : Gl X "sorted") (hm : X.mg "sorted" = none) (ha : SL X a ma) (hst : noStar a = true)
    (hf : PE X (.Name f p2) (tC (.ref fa))) (hr : RankFn X.K fa) : SE X (.Call (.Name "sorted" p) [a] [⟨some "key", .Name f p2, kp⟩] pos) (mCall1 sortkD ma) := fun W tk => by
  have e1 : starEach [a] X.env = (false, eval a X.env) :: starEach [] X.env := by
    cases a <;> first | rfl | exact nomatch hst
  have e2 : backTo pos (starEach [a] X.env) = (false, eval a X.env) :: backTo pos (starEach [] X.env) := by rw [e1]; rfl
  refine PE.imp (pe_callBK (ks := [Str.ofString "key"]) (cr_sortK hu hd hlen) hg hm PyProof.Rows.Boot.«sorted» (pa_cons (ha W tk) pa_nil e1) (pk_cons hf pk_nil) (by decide) (by decide) e2 (by rw [e2]; rfl) rfl rfl rfl) fun σ H Q t => ?_
  refine tG_bind t fun v H1 d S1 w1 rel q p => ?_
  show rSortK X [v] [.ref fa] H1 Q
  cases d with
  | lst ds =>
    have p' : postG X.K (ResR X.K) w1 H1 σ W Q (ofO (if sortkOk ds = true then some (RD.own (.lst (sortkL ds))) else none) S1) := p
    by_cases ok : sortkOk ds = true
    · rw [if_pos ok] at p'
      obtain ⟨aa, xs, rfl, h1, h2⟩ := q
      refine ⟨w1, aa, xs, ds, fa, rfl, rfl, hr, .of h1, h2, ok, fun t ys ht hy => ?_⟩
      obtain ⟨k1, k2, k3⟩ := rel.newOwn ht hy
      exact p' _ _ _ k1 k2 k3
    · rw [if_neg ok] at p'; exact p'.elim
  | _ => exact (show False from p).elim
end
end HM

set_option Elab.async false
set_option linter.all false
set_option maxRecDepth 100000
set_option maxHeartbeats 4000000
/-! an exception as a value: made, its fields, its class -/
namespace HM
open PySem PySem.Spec L2
/-- the class c makes exceptions that are held as values -/
def ExnOk (X : Cx) (c : Str) (ps : List Str) : Prop := ∀ (es : List Expr) (ta : TA) (p pos : Pos), es.all noStar = true → es.length = ps.length → es ≠ [] → PA X es ta →
  PE X (.Call (.Name c p) es [] pos) (fun σ H Q => ta σ H fun vs H1 => ∃ w ds, RelDs X.K w H1 ds vs ∧ excArgs ds = true ∧ ds.length = ps.length ∧
    (∀ a d gs, H1 a = none → H1 d = none → d ≠ a → (∀ f : Str, gs.lookup f = (ps.zip vs).lookup f) → Q (.ref a) (L2.upd (L2.upd H1 a (exo a (He.ga X.K c) (some d))) d (exd d gs))))
def ExnOk0 (X : Cx) (c : Str) : Prop := ∀ (p pos : Pos), PE X (.Call (.Name c p) [] [] pos) (fun σ H Q => ∀ a, H a = none → Q (.ref a) (L2.upd H a (exo a (He.ga X.K c) none)))
/-- .. wherever there is room -/
def ExnF (P : Program) (w : World) (K : PySem.W.Frag) (mg : Str → Option Value) (base : Heap) (c : Str) (ps : List Str) : Prop := ∀ X : Cx, X.prog = P → X.w = w → X.K = K → X.mg = mg → X.base = base → Room 2 X.A → Gl X c → (c == ("__debug__" : Str)) = false → ExnOk X c ps ∧ (ps = [] → ExnOk0 X c)
def mExn (c : Str) (ps : List Str) (ms : Mem → Res (List D)) : Mem → Res RD := fun S => (ms S).bind fun ds S1 => if excArgs ds = true ∧ ds.length = ps.length then .ok (.val (.exn c (ps.zip ds))) S1 else .bad
section
variable {K : PySem.W.Frag} {w : Wd} {H : Hp} {σ : L2.St} {S : Mem} {X : Cx} {pos : Pos}
theorem zip_relF : ∀ {ps : List Str} {ds : List D} {vs : List V}, RelDs K w H ds vs → RelF K w H (ps.zip ds) (ps.zip vs)
  | [], _, _, _ => rfl
  | _ :: _, [], _, h => by
    rw [show _ = ([] : List V) from h]
    rfl
  | p :: ps, d :: ds, _, h => by
    obtain ⟨v, vs, rfl, h1, h2⟩ := h
    exact ⟨v, ps.zip vs, rfl, h1, zip_relF h2⟩
theorem Rel.newExn (rel : Rel K w H σ S) {a d : Addr} {c : Str} {ps : List Str} {ds : List D} {vs : List V} {gs : List (Str × V)} (ha : H a = none) (hd : H d = none) (ne : d ≠ a) (hr : RelDs K w H ds vs) (hg : ∀ f : Str, gs.lookup f = (ps.zip vs).lookup f) :
    ∃ w', Ext w H w' (L2.upd (L2.upd H a (exo a (He.ga K c) (some d))) d (exd d gs)) ∧ Rel K w' (L2.upd (L2.upd H a (exo a (He.ga K c) (some d))) d (exd d gs)) σ S ∧ RelD K w' (L2.upd (L2.upd H a (exo a (He.ga K c) (some d))) d (exd d gs)) (.exn c (ps.zip ds)) (.ref a) := by
  obtain ⟨r1, g1⟩ := rel.alloc (o := exo a (He.ga K c) (some d)) ha
  have ra := rel.fresh_role ha
  have rd := rel.fresh_role hd
  have r2 := r1.put (r := .frz) ra (by rw [upd_same]; simp) (fun n q => nomatch q)
  have hd2 : L2.upd H a (exo a (He.ga K c) (some d)) d = none := by rw [upd_ne ne]; exact hd
  obtain ⟨r3, g3⟩ := r2.alloc (o := exd d gs) hd2
  have rd2 : (w.put a .frz).role d = none := by rw [put_ne ne]; exact rd
  have r4 := r3.put (r := .frz) rd2 (by rw [upd_same]; simp) (fun n q => nomatch q)
  have g := ((g1.trans (.put (r := .frz) ra)).trans (g3.trans (.put (r := .frz) rd2))).ext
  refine ⟨(w.put a .frz).put d .frz, g, r4, ?_⟩
  refine ⟨a, some d, gs, ps.zip vs, rfl, ?_, ?_, .inr ⟨d, rfl, put_same, upd_same⟩, zip_relF (RelDs.mono g _ _ hr), hg⟩
  · rw [put_ne (Ne.symm ne)]
    exact put_same
  · rw [upd_ne (Ne.symm ne), upd_same]
theorem Rel.newExn0 (rel : Rel K w H σ S) {a : Addr} {c : Str} (ha : H a = none) :
    ∃ w', Ext w H w' (L2.upd H a (exo a (He.ga K c) none)) ∧ Rel K w' (L2.upd H a (exo a (He.ga K c) none)) σ S ∧ RelD K w' (L2.upd H a (exo a (He.ga K c) none)) (.exn c []) (.ref a) := by
  obtain ⟨r1, g1⟩ := rel.alloc (o := exo a (He.ga K c) none) ha
  have ra := rel.fresh_role ha
  have r2 := r1.put (r := .frz) ra (by rw [upd_same]; simp) (fun n q => nomatch q)
  exact ⟨w.put a .frz, (g1.trans (.put (r := .frz) ra)).ext, r2, a, none, [], [], rfl, put_same, upd_same, .inl ⟨rfl, rfl⟩, rfl, fun _ => rfl⟩
theorem se_exn {c : Str} {ps : List Str} {es : List Expr} {p : Pos} {ms : Mem → Res (List D)} (ok : ExnOk X c ps) (h1 : es.all noStar = true) (h2 : es.length = ps.length) (h3 : es ≠ []) (ha : SA X es ms) :
    SE X (.Call (.Name c p) es [] pos) (mExn c ps ms) := fun W tk =>
  PE.imp (ok es _ p pos h1 h2 h3 (ha W tk)) fun σ H Q t => tG_bind t fun vs H1 ds S1 w1 rel q p => by
    by_cases hh : excArgs ds = true ∧ ds.length = ps.length
    · rw [if_pos hh] at p
      refine ⟨w1, ds, q, hh.1, hh.2, fun a d gs ha hd ne hg => ?_⟩
      obtain ⟨w', e1, e2, e3⟩ := rel.newExn (c := c) ha hd ne q hg
      exact p w' _ _ e1 e2 e3
    · rw [if_neg hh] at p; exact p.elim
theorem se_exn0 {c : Str} {p : Pos} (ok : ExnOk0 X c) : SE X (.Call (.Name c p) [] [] pos) (mExn c [] mNil) := fun W tk =>
  PE.imp (ok p pos) fun σ H Q t => by
    obtain ⟨w, S, rel, p⟩ := t
    intro a ha
    obtain ⟨w', e1, e2, e3⟩ := rel.newExn0 (c := c) ha
    exact p w' _ _ e1 e2 e3
/-! ### e.f -/
def attrD (tbl : List (Str × List Str)) (f : Str) : D → Option D
  | .exn c fs => match tbl.lookup c with
    | some ps => if ps.contains f = true then fs.lookup f else none
    | none => none
  | _ => none
def mAttr (tbl : List (Str × List Str)) (f : Str) (m : Mem → Res D) : Mem → Res RD := fun S => (m S).bind fun d S1 => match attrD tbl f d with
  | some r => .ok (.val r) S1
  | none => .bad
/-- a field of a held exception -/
def tXv (K : PySem.W.Frag) (n : Str) (te : TE) : TE := fun σ H Q => te σ H fun x H1 => ∃ (a C d : Addr) (fs : List (Str × V)) (v : V), x = .ref a ∧ H1 a = some (exo a C (some d)) ∧ H1 d = some (exd d fs) ∧ XfC K C ∧ PySem.W.findIn K (.ref C) n = some none ∧ fs.lookup n = some v ∧ Q v H1
theorem pe_xv {e : Expr} {te : TE} {n : Str} (he : PE X e te) (hb : attributeBase e n X.env (eval e X.env) = eval e X.env) : PE X (.Attribute e n pos) (tXv X.K n te) := by
  refine ⟨fun pins s σ H Q I h => ?_⟩
  refine attr_of hb (thn (he.run pins s σ H _ I h) fun u s1 hh => ?_)
  obtain ⟨x, H1, I1, rx, a, C, d, fs, v, ex, ea, ed, T, hno, hl, q⟩ := hh
  subst ex
  obtain rfl : u = Value.ref a := rx
  obtain ⟨t1, ho⟩ := exo_at I1.hok ea
  obtain ⟨mA, hns, hr⟩ := exd_at I1.hok ed
  obtain ⟨od, ho2, hlk⟩ := lookIn_ns hns
  obtain ⟨u, hu, ru⟩ := RelO.some_of (v := v) (o := mA n) (by rw [← hl]; exact hr n)
  have J : PySem.W.InstAt s1.heap a _ C (some od) := ⟨ho, rfl, rfl, ho2⟩
  exact HandSPX.exc_get I1.kIn J T.ga T.gg T.exC (PySem.W.findObj_own T.hdC hno rfl (by rw [hlk, hu])) (handed_of ru) ⟨v, H1, I1.tok _, ru, q⟩
theorem relF_lookup {f : Str} {d : D} : ∀ {fs : List (Str × D)} {gs : List (Str × V)}, RelF K w H fs gs → fs.lookup f = some d → ∃ v, gs.lookup f = some v ∧ RelD K w H d v
  | [], _, _, e => nomatch e
  | (g, d') :: fs, _, h, e => by
    obtain ⟨v, vs, rfl, h1, h2⟩ := h
    by_cases c : f = g
    · subst c
      have e' : d' = d := by simpa [List.lookup] using e
      subst e'
      exact ⟨v, by simp [List.lookup], h1⟩
    · have c' : (f == g) = false := by simpa using c
      obtain ⟨u, k1, k2⟩ := relF_lookup (f := f) h2 (by simpa [List.lookup, c'] using e)
      exact ⟨u, by simpa [List.lookup, c'] using k1, k2⟩
theorem se_attr {e : Expr} {f : Str} {m : Mem → Res D} {tbl : List (Str × List Str)} (ht : ∀ c ps, tbl.lookup c = some ps → XfC X.K (He.ga X.K c) ∧ ∀ f, ps.contains f = true → PySem.W.findIn X.K (.ref (He.ga X.K c)) f = some none)
    (he : SV X e m) (hb : attributeBase e f X.env (eval e X.env) = eval e X.env) : SE X (.Attribute e f pos) (mAttr tbl f m) := fun W tk =>
  PE.imp (pe_xv (he W tk) hb) fun σ H Q t => tG_bind t fun v H1 d S1 w1 rel q p => by
    cases ea : attrD tbl f d with
    | none => rw [ea] at p; exact p.elim
    | some r =>
      rw [ea] at p
      cases d with
      | exn c fs =>
        have ea' : (match tbl.lookup c with
          | some ps => if ps.contains f = true then fs.lookup f else none
          | none => none) = some r := ea
        cases et : tbl.lookup c with
        | none => rw [et] at ea'; cases ea'
        | some ps =>
          rw [et] at ea'
          have ea2 : (if ps.contains f = true then fs.lookup f else none) = some r := ea'
          by_cases hc : ps.contains f = true
          · rw [if_pos hc] at ea2
            obtain ⟨T, hf⟩ := ht c ps et
            obtain ⟨a, dx, gs, gs', k1, k2, k3, k4, k5, k6⟩ := q
            obtain ⟨v', l1, l2⟩ := relF_lookup k5 ea2
            rcases k4 with ⟨_, z⟩ | ⟨dd, z1, z2, z3⟩
            · rw [← k6 f, z] at l1; cases l1
            · subst z1
              exact ⟨a, _, dd, gs, v', k1, k3, z3, T, hf f hc, by rw [k6 f]; exact l1, p w1 H1 v' (Ext.refl _ _) rel l2⟩
          · rw [if_neg hc] at ea2; cases ea2
      | _ => cases ea
/-! ### isinstance -/
def isiD (ans : List (Str × Bool)) : D → Option RD
  | .exn c _ => (ans.lookup c).map fun b => .val (.bl b)
  | _ => none
def mIsi (ans : List (Str × Bool)) (m : Mem → Res D) : Mem → Res RD := fun S => (m S).bind fun d S1 => ofO (isiD ans d) S1
/-- what a class's name stands for -/
def IsiN (K : PySem.W.Frag) (mg : Str → Option Value) (t : Str) (v : V) (cv : Value) : Prop := (mg t = some (.ref (He.ga K t)) ∧ v = .ref (He.ga K t) ∧ cv = .ref (He.ga K t)) ∨ (mg t = none ∧ ∃ T : String, bootBuiltins t = some (.type T) ∧ v = .ty T ∧ cv = .type T)
/-- the answers -/
def IsiF (K : PySem.W.Frag) (mg : Str → Option Value) (t : Str) (ans : List (Str × Bool)) : Prop := ∃ v cv, IsiN K mg t v cv ∧ ∀ c b, ans.lookup c = some b → ExcC K (He.ga K c) ∧ PySem.W.kitOne K (.ref (He.ga K c)) cv = some b
def rIsX (K : PySem.W.Frag) : List V → Hp → VK → Prop := fun xs H Q => ∃ (a C : Addr) (dx : Option Addr) (c : V) (cv : Value) (b : Bool), xs = [.ref a, c] ∧ H a = some (exo a C dx) ∧ (dx = none ∨ ∃ d fs, dx = some d ∧ H d = some (exd d fs)) ∧ ExcC K C ∧ (∀ u, RelV c u → u = cv) ∧ PySem.W.kitOne K (.ref C) cv = some b ∧ Q (.bl b) H
theorem call_isX : CallR X (.builtin "isinstance") (rIsX X.K) := by
  intro pins s σ H xs us Q I r h
  obtain ⟨a, C, dx, c, cv, b, rfl, ea, ed, T, hcv, e, q⟩ := h
  obtain ⟨u1, u2, rfl, r1, r2⟩ := vals2 r
  obtain rfl : u1 = Value.ref a := r1
  have ec := hcv _ r2
  subst ec
  obtain ⟨t1, ho⟩ := exo_at I.hok ea
  obtain ⟨od, J⟩ : ∃ od, PySem.W.InstAt s.heap a { cls := Value.ref C, dict := dx, data := Data.fields #[Value.ref t1, Value.none, Value.none, Value.none, Value.bool false, Value.none] } C od := by
    rcases ed with rfl | ⟨d, fs, rfl, hd⟩
    · exact ⟨none, ho, rfl, rfl, trivial⟩
    · obtain ⟨mA, hns, hr⟩ := exd_at I.hok hd
      obtain ⟨od, ho2, _⟩ := lookIn_ns hns
      exact ⟨some od, ho, rfl, rfl, ho2⟩
  have hcl : (PySem.W.clsIn X.K C).isSome = true := by
    obtain ⟨cd, hc, _⟩ := PySem.W.any_some T.hd
    rw [hc]
    rfl
  exact PySem.W.kia_one (PySem.W.kitx_exc hcl T.hg T.hk T.hs T.ha T.hn T.ht T.hm) I.kIn J e (fun z => nomatch z) fun tk => ⟨.bl b, H, I.kept (t' := tk) fun _ _ z => z, rfl, q⟩
theorem pe_isiN {t : Str} {v : V} {cv : Value} {p : Pos} (h : IsiN X.K X.mg t v cv) (hg : Gl X t) (hn : t ≠ "__name__") (hdb : (t == ("__debug__" : Str)) = false) : PE X (.Name t p) (tC v) ∧ ∀ u, RelV v u → u = cv := by
  rcases h with ⟨h1, rfl, rfl⟩ | ⟨h1, T, h2, rfl, rfl⟩
  · exact ⟨pe_glob hg h1 rfl hdb, fun u r => r⟩
  · exact ⟨pe_bltn hg h1 h2 rfl hn hdb, fun u r => r⟩
theorem se_isi {a : Expr} {m : Mem → Res D} {t : Str} {ans : List (Str × Bool)} {p tp : Pos} (hf : IsiF X.K X.mg t ans) (hgl : Gl X "isinstance") (hm : X.mg "isinstance" = none) (ha : SV X a m) (hst : starEach [a, .Name t tp] X.env = (false, eval a X.env) :: starEach [.Name t tp] X.env)
    (hg : Gl X t) (hn : t ≠ "__name__") (hdb : (t == ("__debug__" : Str)) = false) : SE X (.Call (.Name "isinstance" p) [a, .Name t tp] [] pos) (mIsi ans m) := fun W tk => by
  obtain ⟨v, cv, h1, h2⟩ := hf
  obtain ⟨k1, k2⟩ := pe_isiN (p := tp) h1 hg hn hdb
  refine PE.imp (pe_callB call_isX hgl hm PyProof.Rows.Boot.«isinstance» (pa_cons (ha W tk) (pa_cons k1 pa_nil rfl) hst) (by decide) (by decide) hst rfl) fun σ H Q tt => tG_bind tt fun u H1 d S1 w1 rel q pp => ?_
  cases e : isiD ans d with
  | none => rw [e] at pp; exact pp.elim
  | some c =>
    rw [e] at pp
    cases d with
    | exn x fs =>
      obtain ⟨b, e1, rfl⟩ := Option.map_eq_some_iff.mp (show (ans.lookup x).map (fun b => RD.val (.bl b)) = some c from e)
      obtain ⟨a, dx, gs, gs', q1, q2, q3, q4, q5, q6⟩ := q
      obtain ⟨f1, f2⟩ := h2 x b e1
      refine ⟨a, _, dx, v, cv, b, by rw [q1], q3, ?_, f1, k2, f2, pp w1 H1 _ (Ext.refl _ _) rel rfl⟩
      rcases q4 with ⟨z, _⟩ | ⟨d, z1, _, z3⟩
      · exact .inl z
      · exact .inr ⟨d, gs, z1, z3⟩
    | _ => cases e
end
end HM

set_option Elab.async false
set_option linter.all false
set_option maxRecDepth 100000
set_option maxHeartbeats 4000000
namespace HM
open PySem PySem.Spec L2
/-! ### the code and what it does -/
inductive BOp where
  | add | sub | mul | mod | fdiv | pow
  deriving Repr, DecidableEq
def BOp.fn : BOp → D → D → Option RD
  | .add => addD | .sub => subD | .mul => mulD | .mod => modD | .fdiv => fdivD | .pow => powD
inductive COp where
  | eq | ne | lt | le | gt | ge | isn | isnn | inn | nin
  deriving Repr, DecidableEq
def COp.fn : COp → D → D → Option RD
  | .eq => eqO | .ne => neO | .lt => ltO fun i j => decide (i < j) | .le => ltO fun i j => decide (i ≤ j) | .gt => ltO fun i j => decide (j < i) | .ge => ltO fun i j => decide (j ≤ i)
  | .isn => isO | .isnn => isnO | .inn => inO | .nin => ninO
inductive BF where
  | len | int | list | tuple | sorted | all | any | sum
  deriving Repr, DecidableEq
def BF.fn : BF → D → Option RD
  | .len => lenD | .int => intD | .list => listD | .tuple => tupleD | .sorted => sortD | .all => allD | .any => anyD | .sum => sumD
inductive MM where
  | append | popAt | pop | clear | rev | insert
  deriving Repr, DecidableEq
def MM.fn : MM → D → List D → Option (D × RD)
  | .append => appendD | .popAt => popAtD | .pop => popD | .clear => clearD | .rev => revD | .insert => insertD
inductive CG where
  | nm (i : Nat) | tup (ts : List CG)
mutual
inductive CE where
  | var (i : Nat) | move (i : Nat) | lit (d : D)
  | bin (o : BOp) (a b : CE) | cmp (o : COp) (a b : CE) | chain (o p : COp) (a b c : CE)
  | ix (a b : CE) | slice (a : CE) (lo hi : CO)
  | tup (as : CA) | lst (as : CA)
  | and (a b : CE) | or (a b : CE) | not (a : CE) | ite (c : CT) (a b : CE)
  | bcall (f : BF) (a : CE) | call (f : Str) (n : Nat) (as : CA) | mut (m : MM) (i : Nat) (as : CA)
  | lc (vs : List Nat) (it : CI) (tg : CG) (c : CT) (e : CE) | sortk (a : CE)
  | exn (c : Str) (ps : List Str) (as : CA) | attr (tbl : List (Str × List Str)) (f : Str) (a : CE) | isi (ans : List (Str × Bool)) (a : CE)
inductive CA where
  | nil | one (a : CE) (r : CA) | lend (i : Nat) (r : CA) | star (a : CE) (r : CA)
inductive CT where
  | yes | tru (a : CE) | cmp (o : COp) (a b : CE) | chain (o p : COp) (a b c : CE) | and (a b : CT) | or (a b : CT) | not (a : CT)
inductive CI where
  | any (a : CE) | rng1 (a : CE) | rng2 (a b : CE) | enum (a : CE)
inductive CO where
  | no | at (a : CE)
end
/-- what is walked is a name's thing -/
def byName : CI → Option Nat
  | .any (.var i) => some i
  | _ => none
def mLoop (it : CI) (mi : Mem → Res (List D)) (mt : D → Mem → Option Mem) (mb : Mem → Out) : Mem → Out := match byName it with
  | some i => fun S => if isCellD i S = true then mLockS i (mFor (mKeysL i) mt mb) S else mFor mi mt mb S
  | none => mFor mi mt mb
def mLcI (it : CI) (vs : List Nat) (mi : Mem → Res (List D)) (mt : D → Mem → Option Mem) (nt : Mem → Res Bool) (me : Mem → Res D) : Mem → Res RD := match byName it with
  | some i => fun S => if isCellD i S = true then mLockE i (mLc vs (mKeysL i) mt nt me) S else mLc vs mi mt nt me S
  | none => mLc vs mi mt nt me
abbrev frzM (m : Mem → Res RD) : Mem → Res D := fun S => (m S).map RD.frz
def lookA : CE → (Mem → Res RD) → Mem → Res D
  | .var i, _ => mPeek i
  | _, m => lookM (frzM m)
def lfA : CE → (Mem → Res RD) → Lf
  | .var i, _ => .nm i
  | _, m => .ex (frzM m)
mutual
def evG : CG → D → Mem → Option Mem
  | .nm i => mtName i
  | .tup ts => mtTup ts.length (evGs ts)
def evGs : List CG → List D → Mem → Option Mem
  | [] => mtNil
  | t :: ts => mtCons (evG t) (evGs ts)
end
def mGuard (n : Nat) (ms : Mem → Res (List D)) : Mem → Res (List D) := fun S => (ms S).bind fun ds S1 => if ds.length = n then .ok ds S1 else .bad
def mConsA (ma : Mem → Res D) (ms : Mem → Res (List D)) : Mem → Res (List D) := mCons ma ms
section
variable (Φ : Str → FnM)
mutual
def evE : CE → Mem → Res RD
  | .var i => mVar i
  | .move i => mMove i
  | .lit d => mC d
  | .bin o a b => mBinL o.fn (lfA a (evE a)) (lookA b (evE b))
  | .cmp o a b => mBinL o.fn (lfA a (evE a)) (lookA b (evE b))
  | .chain o p a b c => mChain o.fn p.fn (frzM (evE a)) (frzM (evE b)) (lookA c (evE c))
  | .ix a b => mBinL ixAll (lfA a (evE a)) (lookA b (evE b))
  | .slice a lo hi => mSlice (lfA a (evE a)) (evO lo) (evO hi)
  | .tup as => mTup (evA as)
  | .lst as => mLst (evA as)
  | .and a b => mAndV (frzM (evE a)) (evE b)
  | .or a b => mOrV (frzM (evE a)) (evE b)
  | .not a => mNotV (lookA a (evE a))
  | .ite c a b => mIf (evT c) (evE a) (evE b)
  | .bcall f a => mCall1 f.fn (lookA a (evE a))
  | .call f n as => mCall (Φ f) (mGuard n (evA as))
  | .mut m i as => mMut "list" m.fn i (evA as)
  | .lc vs it tg c e => mLcI it vs (evI it) (evG tg) (evT c) (frzM (evE e))
  | .sortk a => mCall1 sortkD (lookA a (evE a))
  | .exn c ps as => mExn c ps (evA as)
  | .attr tbl f a => mAttr tbl f (frzM (evE a))
  | .isi ans a => mIsi ans (frzM (evE a))
def evA : CA → Mem → Res (List D)
  | .nil => mNil
  | .one a r => mCons (frzM (evE a)) (evA r)
  | .lend i r => mCons (mLend i) (evA r)
  | .star a r => mStar (lookA a (evE a)) (evA r)
def evT : CT → Mem → Res Bool
  | .yes => mYes
  | .tru a => truM (lookA a (evE a))
  | .cmp o a b => bM (mBinL o.fn (lfA a (evE a)) (lookA b (evE b)))
  | .chain o p a b c => bM (mChain o.fn p.fn (frzM (evE a)) (frzM (evE b)) (lookA c (evE c)))
  | .and a b => mAnd (evT a) (evT b)
  | .or a b => mOr (evT a) (evT b)
  | .not a => mNot (evT a)
def evI : CI → Mem → Res (List D)
  | .any a => mWalk (frzM (evE a))
  | .rng1 a => mRange1 (frzM (evE a))
  | .rng2 a b => mRange2 (frzM (evE a)) (frzM (evE b))
  | .enum a => mEnum (frzM (evE a))
def evO : CO → Mem → Res (Option Int)
  | .no => mNoPart
  | .at a => mPart (lookA a (evE a))
end
end
def mSetT (mt : D → Mem → Option Mem) (m : Mem → Res D) : Mem → Out := fun S => (m S).out fun d S1 => match mt d S1 with
  | some S2 => .nx S2
  | none => .bad
def augD (o : BOp) : D → D → Option D
  | .int a, .int b => (match o with
    | .add => some (.int (a + b))
    | .sub => some (.int (a - b))
    | _ => none)
  | _, _ => none
def mAug (i : Nat) (o : BOp) (m : Mem → Res D) : Mem → Out := fun S => match S.env[i]? with
  | some (.val a) => (m S).out fun d S1 => (match augD o a d with
    | some r => if i < S1.env.length then .nx (setS i (.val r) S1) else .bad
    | none => .bad)
  | _ => .bad
mutual
inductive CS where
  | expr (a : CE) | ret (a : CE) | retn | set (i : Nat) (a : CE) | setIx (i : Nat) (k v : CE) | ite (c : CT) (a b : CB) | loop (it : CI) (tg : CG) (b : CB) | whil (c : CT) (b : CB) | pass | brk | cont
  | setT (tg : CG) (a : CE) | aug (i : Nat) (o : BOp) (a : CE)
  | rais (c : Str) (ps : List Str) (as : CA) | tri (ns : List Str) (b : CB) (hs : List Hd)
inductive CB where
  | nil | cons (s : CS) (r : CB)
end
section
variable (Φ : Str → FnM) (n : Nat)
mutual
def evS : CS → Mem → Out
  | .expr a => mDrop (evE Φ a)
  | .ret a => mRet (evE Φ a)
  | .retn => fun S => .rt (.val .non) S
  | .set i a => mSet i (evE Φ a)
  | .setIx i k v => mSetIx setLD i (frzM (evE Φ k)) (frzM (evE Φ v))
  | .ite c a b => mIfS (evT Φ c) (evB a) (evB b)
  | .loop it tg b => mLoop it (evI Φ it) (evG tg) (evB b)
  | .whil c b => mWhile (evT Φ c) (evB b) n
  | .pass => .nx
  | .brk => .bk
  | .cont => .ct
  | .setT tg a => mSetT (evG tg) (frzM (evE Φ a))
  | .aug i o a => mAug i o (frzM (evE Φ a))
  | .rais c ps as => mRaise c ps (evA Φ as)
  | .tri ns b hs => mTry ns (evB b) hs
def evB : CB → Mem → Out
  | .nil => mNext
  | .cons s r => mSeq (evS s) (evB r)
end
end
/-- a function: its slots, its body -/
structure CF where
  names : Nat
  body : CB
def evF (Φ : Str → FnM) (n : Nat) (f : CF) : FnM := fun ds st => match evB Φ n f.body ⟨ds.map .val ++ List.replicate (f.names - ds.length) .none, st⟩ with
  | .rt r m => .ok r (mem0 m.st)
  | .nx m => .ok (.val .non) (mem0 m.st)
  | .exc c fs m => .exc c fs (mem0 m.st)
  | _ => .bad
/-- the functions of a text, to a depth -/
def fnsOf (defs : List (Str × CF)) : Nat → Str → FnM
  | 0 => fun _ _ _ => .bad
  | n + 1 => fun x => match defs.lookup x with
    | some f => evF (fnsOf defs n) n f
    | none => fun _ _ => .bad
/-! ### compiling -/
structure Ge where
  fns : List (Str × List Bool)
  glo : List (Str × D)
  free : List Str
  exc : List (Str × List Str)
  ranks : List Str := []
  isi : List (Str × List (Str × Bool)) := []
structure Ga where
  G : Ge
  N : List Str
  sc : Scope
  cs : Option Scope := none
def Ga.vis (γ : Ga) (x : Str) : Bool := match γ.sc.names.lookup x with
  | some .local => true
  | some .cell => true
  | some .free => true
  | _ => false
def Ga.plain (x : Str) : Bool := !(x == ("__debug__" : Str)) && !(x == ("__classdict__" : Str))
def ixOf (x : Str) : List Str → Nat → Option Nat
  | [], _ => none
  | y :: ys, k => if y == x then some k else ixOf x ys (k + 1)
def Ga.var (γ : Ga) (x : Str) : Option Nat := if γ.vis x && Ga.plain x then ixOf x γ.N 0 else none
def Ga.glb (γ : Ga) (x : Str) : Bool := (match γ.sc.names.lookup x with
  | some .globalImplicit => true
  | _ => false) && Ga.plain x && !(x == ("__name__" : Str))
def Ga.bt (γ : Ga) (x : Str) : Bool := γ.glb x && γ.G.free.contains x
def opB : Operator → Option BOp
  | .Add => some .add | .Sub => some .sub | .Mult => some .mul | .Mod => some .mod | .FloorDiv => some .fdiv | .Pow => some .pow
  | _ => none
def opC : CmpOp → COp
  | .Eq => .eq | .NotEq => .ne | .Lt => .lt | .LtE => .le | .Gt => .gt | .GtE => .ge | .Is => .isn | .IsNot => .isnn | .In => .inn | .NotIn => .nin
def notSet : Expr → Bool
  | .Set _ _ _ => false
  | _ => true
def bfOf (x : Str) : Option BF :=
  if x == ("len" : Str) then some .len else if x == ("int" : Str) then some .int else if x == ("list" : Str) then some .list else if x == ("tuple" : Str) then some .tuple
  else if x == ("sorted" : Str) then some .sorted else if x == ("all" : Str) then some .all else if x == ("any" : Str) then some .any else if x == ("sum" : Str) then some .sum else none
def mmOf (x : Str) (n : Nat) : Option MM :=
  if x == ("append" : Str) then (if n = 1 then some .append else none) else if x == ("pop" : Str) then (if n = 1 then some .popAt else if n = 0 then some .pop else none)
  else if x == ("clear" : Str) then (if n = 0 then some .clear else none) else if x == ("reverse" : Str) then (if n = 0 then some .rev else none) else if x == ("insert" : Str) then (if n = 2 then some .insert else none) else none
def nameOf : Expr → Option Str
  | .Name x _ => some x
  | _ => none
structure Comp where
  E : Ga → Expr → Option CE
  T : Ga → Expr → Option CT
  A : Ga → List Expr → Option CA
  M : Ga → List Bool → List Expr → Option CA
  I : Ga → Expr → Expr → Option CI
def Comp.none : Comp := ⟨fun _ _ => .none, fun _ _ => .none, fun _ _ => .none, fun _ _ _ => .none, fun _ _ _ => .none⟩
section
variable (C : Comp)
def stepO (γ : Ga) : Option Expr → Option CO
  | none => some .no
  | some e => (C.E γ e).map .at
/-- a target whose names may be stored: locals or cells -/
def Ga.loc (γ : Ga) (x : Str) : Bool := match γ.sc.names.lookup x with
  | some .local => true
  | some .cell => (match γ.cs with
    | none => true
    | some s => s.names.lookup x == some .cell)
  | _ => false
def compG (γ : Ga) : Nat → Expr → Option CG
  | 0, _ => none
  | k + 1, .Name x _ => if γ.loc x then (γ.var x).map .nm else none
  | k + 1, .Tuple es _ _ => if es.all noStar then (es.mapM (compG γ k)).map .tup else none
  | _, _ => none
mutual
def CG.slots : CG → List Nat
  | .nm i => [i]
  | .tup ts => slotsG ts
def slotsG : List CG → List Nat
  | [] => []
  | t :: ts => t.slots ++ slotsG ts
end
/-- a comprehension's own names that are the def's, too -/
def ownOf (N : List Str) (sc : Scope) : List (Str × Nat) := sc.names.filterMap fun y => match y.2 with
  | .local => (ixOf y.1 N 0).map fun i => (y.1, i)
  | .cell => (ixOf y.1 N 0).map fun i => (y.1, i)
  | _ => .none
def blkB (sc scope : Scope) : Bool := decide (scope.kind = .function) && scope.names.all (fun y => decide (scope.names.lookup y.1 = some y.2)) &&
  scope.names.all (fun y => !decide (y.2 = .free) || decide (sc.names.lookup y.1 = some .cell) || decide (sc.names.lookup y.1 = some .free))
def stepLc (γ : Ga) (elt : Expr) (gens : List Comprehension) (scope : Scope) : Option CE := match gens with
  | [⟨tg, iter, ifs, 0⟩] => let γ' : Ga := ⟨γ.G, γ.N, relS scope γ.sc, some scope⟩
    let vs := (ownOf γ.N scope).map (·.2)
    if blkB γ.sc scope && notSet iter then
      (C.I γ tg iter).bind fun it => (compG γ' 4 tg).bind fun g => if g.slots.all vs.contains then (match ifs with
        | [] => some CT.yes
        | [c] => C.T γ' c
        | _ => .none).bind fun t => (C.E γ' elt).map fun e => .lc vs it g t e else .none
    else .none
  | _ => .none
def stepCall (γ : Ga) (f : Expr) (args : List Expr) (kws : List Keyword) (pos : Pos) : Option CE := match kws with
  | [] => if args.all noStar then (match f with
    | .Name x _ => if γ.glb x then (match γ.G.fns.lookup x with
        | some ms => if ms.length = args.length then (if args.isEmpty then some (.call x 0 .nil) else (C.M γ ms args).map fun as => .call x ms.length as) else .none
        | none => (match γ.G.exc.lookup x with
          | some ps => if ps.length = args.length then (if args.isEmpty then some (.exn x [] .nil) else (C.A γ args).map fun as => .exn x ps as) else .none
          | none => if γ.G.free.contains x then (match bfOf x, args with
            | some b, [a] => (C.E γ a).map fun c => .bcall b c
            | none, [a, .Name t _] => if (x == ("isinstance" : Str)) && γ.glb t then (γ.G.isi.lookup t).bind fun ans => (C.E γ a).map fun c => .isi ans c else .none
            | _, _ => .none) else .none)) else .none
    | .Attribute (.Name x xp) m apos => if apos.endLine == pos.line && decide (args.length < 30) then (γ.var x).bind fun i => (mmOf m args.length).bind fun mm => if args.isEmpty then some (.mut mm i .nil) else (C.A γ args).map fun as => .mut mm i as else .none
    | _ => .none) else .none
  | [⟨some k, .Name g _, _⟩] => (match f, args with
    | .Name x _, [a] => if γ.bt "sorted" && (γ.G.free.contains "len" && ((x == ("sorted" : Str)) && ((k == ("key" : Str)) && (noStar a && (γ.glb g && γ.G.ranks.contains g))))) then (C.E γ a).map .sortk else .none
    | _, _ => .none)
  | _ => .none
def cmpE (γ : Ga) (a : Expr) (ops : List CmpOp) (bs : List Expr) : Option CE := match ops, bs with
    | [op], [b] => if notSet b then (C.E γ a).bind fun a' => (C.E γ b).map fun b' => .cmp (opC op) a' b' else .none
    | [op, op'], [b, c] => if notSet c then (C.E γ a).bind fun a' => (C.E γ b).bind fun b' => (C.E γ c).map fun c' => .chain (opC op) (opC op') a' b' c' else .none
    | _, _ => .none
def cmpT (γ : Ga) (a : Expr) (ops : List CmpOp) (bs : List Expr) : Option CT := match ops, bs with
    | [op], [b] => if notSet b then (C.E γ a).bind fun a' => (C.E γ b).map fun b' => .cmp (opC op) a' b' else .none
    | [op, op'], [b, c] => if notSet c then (C.E γ a).bind fun a' => (C.E γ b).bind fun b' => (C.E γ c).map fun c' => .chain (opC op) (opC op') a' b' c' else .none
    | _, _ => .none
def boolE (op : BoolOp) (a b : CE) : CE := match op with
  | .And => .and a b
  | .Or => .or a b
def boolT (op : BoolOp) (a b : CT) : CT := match op with
  | .And => .and a b
  | .Or => .or a b
def rngI (γ : Ga) (args : List Expr) : Option CI := match args with
  | [a] => if noStar a then (C.E γ a).map .rng1 else .none
  | [a, b] => if noStar a && noStar b then (C.E γ a).bind fun a' => (C.E γ b).map fun b' => .rng2 a' b' else .none
  | _ => .none
def enumI (γ : Ga) (tg : Expr) (args : List Expr) : Option CI := match tg, args with
  | .Tuple _ _ _, [a] => if noStar a then (C.E γ a).map .enum else .none
  | _, _ => .none
def stepE (γ : Ga) : Expr → Option CE
  | .Name x _ => match γ.var x with
    | some i => some (.var i)
    | none => if γ.glb x then (γ.G.glo.lookup x).map .lit else .none
  | .Constant c _ _ => match c with
    | .int i => some (.lit (.int i))
    | .bool b => some (.lit (.bl b))
    | .none => some (.lit .non)
    | .str s => some (.lit (.str s))
    | _ => .none
  | .BinOp a op b _ => (opB op).bind fun o => (C.E γ a).bind fun a' => (C.E γ b).map fun b' => .bin o a' b'
  | .Compare a ops bs _ => cmpE C γ a ops bs
  | .Subscript a b _ => match b with
    | .Slice lo hi none _ => (C.E γ a).bind fun a' => (stepO C γ lo).bind fun l => (stepO C γ hi).map fun h => .slice a' l h
    | .Slice _ _ (some _) _ => .none
    | b => (C.E γ a).bind fun a' => (C.E γ b).map fun b' => .ix a' b'
  | .Tuple es _ _ => (C.A γ es).map .tup
  | .List es _ => (C.A γ es).map .lst
  | .BoolOp op vs pos => match vs with
    | [a] => C.E γ a
    | a :: b :: rest => (C.E γ a).bind fun a' => (C.E γ (.BoolOp op (b :: rest) pos)).map fun b' => boolE op a' b'
    | [] => .none
  | .UnaryOp op a _ => match op with
    | .Not => (C.E γ a).map .not
    | .USub => match a with
      | .Constant (.int i) _ _ => some (.lit (.int (-i)))
      | _ => .none
    | _ => .none
  | .IfExp c a b _ => (C.T γ c).bind fun c' => (C.E γ a).bind fun a' => (C.E γ b).map fun b' => .ite c' a' b'
  | .Attribute (.Name n _) f _ => (γ.var n).map fun i => .attr γ.G.exc f (.var i)
  | .Call f args kws pos => stepCall C γ f args kws pos
  | .ListComp elt gens scope _ => stepLc C γ elt gens scope
  | _ => .none
/-- a test that is its value's truth -/
def truTest : Expr → Bool
  | .Name _ _ | .Call _ _ _ _ | .Attribute _ _ _ | .Subscript _ _ _ | .Constant _ _ _ | .BinOp _ _ _ _ | .ListComp _ _ _ _ | .List _ _ | .Tuple _ _ _ => true
  | _ => false
def stepT (γ : Ga) (e : Expr) : Option CT := match e with
  | .BoolOp op vs pos => match vs with
    | [a] => C.T γ a
    | a :: b :: rest => (C.T γ a).bind fun a' => (C.T γ (.BoolOp op (b :: rest) pos)).map fun b' => boolT op a' b'
    | [] => .none
  | .UnaryOp .Not a _ => (C.T γ a).map .not
  | .Compare a ops bs _ => cmpT C γ a ops bs
  | e => if truTest e then (C.E γ e).map .tru else .none
def stepA (γ : Ga) : List Expr → Option CA
  | [] => some .nil
  | .Starred e _ :: es => (C.E γ e).bind fun a => (C.A γ es).map fun r => .star a r
  | e :: es => (C.E γ e).bind fun a => (C.A γ es).map fun r => .one a r
def stepM (γ : Ga) : List Bool → List Expr → Option CA
  | [], [] => some .nil
  | false :: ms, e :: es => if noStar e then (C.E γ e).bind fun a => (C.M γ ms es).map fun r => .one a r else .none
  | true :: ms, e :: es => (nameOf e).bind fun x => (γ.var x).bind fun i => (C.M γ ms es).map fun r => .lend i r
  | _, _ => .none
def stepI (γ : Ga) (tg : Expr) (e : Expr) : Option CI := match e with
  | .Call (.Name x _) args [] _ => if γ.bt x && (x == ("range" : Str)) then rngI C γ args
    else if γ.bt x && (x == ("enumerate" : Str)) then enumI C γ tg args
    else (C.E γ e).map .any
  | e => (C.E γ e).map .any
end
def comp : Nat → Comp
  | 0 => .none
  | k + 1 => ⟨stepE (comp k), stepT (comp k), stepA (comp k), stepM (comp k), stepI (comp k)⟩
end HM

set_option Elab.async false
set_option linter.all false
set_option maxRecDepth 100000
set_option maxHeartbeats 4000000
namespace HM
open PySem PySem.Spec L2
/-! ### what a context must have -/
def FnHas (Φ : Str → FnM) (X : Cx) (x : Str) (n : Nat) : Prop := ∃ (k : Nat) (f : Addr) (fd : FuncData) (ps : List Str), FnOk X.prog X.w X.K X.mg X.base (L2.CX X.prog X.w) k f fd ps (spM X.K n (Φ x)) ∧ Room k X.A ∧ X.mg x = some (.ref f) ∧ PySem.W.keepIn X.K (.ref f) = true ∧ Binds X.K fd ps []
structure CxS (Φ : Str → FnM) (γ : Ga) (X : Cx) : Prop where
  N : X.N = γ.N
  nd : γ.N.Nodup
  sc : X.env.scope = γ.sc
  calm : X.calm = true
  un : X.A.units + 200 < cLine
  fnl : ∀ x, γ.loc x = true → X.fn x = true ∨ X.env.scope.names.lookup x = some .local
  glo : ∀ x d, γ.G.glo.lookup x = some d → ∃ v u, X.mg x = some u ∧ RelV v u ∧ ∀ w H, RelD X.K w H d v
  free : ∀ x, γ.G.free.contains x = true → X.mg x = none
  dep : X.A.depth < recursionLimit
  rank : ∀ x, γ.G.ranks.contains x = true → ∃ a, X.mg x = some (.ref a) ∧ RankFn X.K a
  fns : ∀ x ms, γ.G.fns.lookup x = some ms → FnHas Φ X x ms.length
  room : Room 2 X.A
  exn : ∀ c ps, γ.G.exc.lookup c = some ps → ExnF X.prog X.w X.K X.mg X.base c ps
  xf : ∀ c ps, γ.G.exc.lookup c = some ps → XfC X.K (He.ga X.K c) ∧ ∀ f, ps.contains f = true → PySem.W.findIn X.K (.ref (He.ga X.K c)) f = some none
  isi : ∀ t ans, γ.G.isi.lookup t = some ans → IsiF X.K X.mg t ans
section
variable {Φ : Str → FnM} {γ : Ga} {X : Cx} {x : Str} {i : Nat} {e : Expr} {pos : Pos}
theorem plain_of (h : Ga.plain x = true) : (x == ("__debug__" : Str)) = false ∧ (x == ("__classdict__" : Str)) = false := by
  unfold Ga.plain at h
  rw [Bool.and_eq_true, Bool.not_eq_true', Bool.not_eq_true'] at h
  exact h
theorem ixOf_get : ∀ {N : List Str} {k i : Nat}, ixOf x N k = some i → k ≤ i ∧ N[i - k]? = some x
  | [], _, _, h => nomatch h
  | y :: ys, k, i, h => by
    have h' : (if (y == x) = true then some k else ixOf x ys (k + 1)) = some i := h
    by_cases e : (y == x) = true
    · rw [if_pos e] at h'
      cases h'
      exact ⟨Nat.le_refl _, by simpa using e⟩
    · rw [if_neg e] at h'
      obtain ⟨h1, h2⟩ := ixOf_get h'
      refine ⟨by omega, ?_⟩
      rw [show i - k = (i - (k + 1)) + 1 by omega]
      simpa using h2
theorem ixOf_get0 {N : List Str} (h : ixOf x N 0 = some i) : N[i]? = some x := by
  have := (ixOf_get h).2
  simpa using this
theorem var_of (h : γ.var x = some i) : γ.N[i]? = some x ∧ γ.vis x = true ∧ (x == ("__debug__" : Str)) = false ∧ (x == ("__classdict__" : Str)) = false := by
  unfold Ga.var at h
  by_cases hc : (γ.vis x && Ga.plain x) = true
  · rw [if_pos hc] at h
    rw [Bool.and_eq_true] at hc
    exact ⟨ixOf_get0 h, hc.1, plain_of hc.2⟩
  · rw [if_neg hc] at h; cases h
theorem vis_of (c : CxS Φ γ X) (h : γ.vis x = true) : Vis X.env.scope x := by
  unfold Ga.vis at h
  unfold Vis
  rw [c.sc]
  split at h
  · rename_i e; exact .inl e
  · rename_i e; exact .inr (.inl e)
  · rename_i e; exact .inr (.inr e)
  · cases h
theorem pe_v (c : CxS Φ γ X) (h : γ.var x = some i) : PE X (.Name x pos) (tVar i) := by
  obtain ⟨h1, h2, h3, h4⟩ := var_of h
  exact pe_var (by rw [c.N]; exact h1) (vis_of c h2) h3 h4
theorem glb_of (c : CxS Φ γ X) (h : γ.glb x = true) : Gl X x ∧ (x == ("__debug__" : Str)) = false ∧ x ≠ "__name__" := by
  unfold Ga.glb at h
  rw [Bool.and_eq_true, Bool.and_eq_true, Bool.not_eq_true'] at h
  obtain ⟨⟨h1, h2⟩, h3⟩ := h
  refine ⟨?_, (plain_of h2).1, by simpa using h3⟩
  show X.env.scope.names.lookup x = _
  rw [c.sc]
  split at h1
  · rename_i e; exact e
  · cases h1
theorem loc_of (c : CxS Φ γ X) (h : γ.loc x = true) : Loc X.env.scope x := by
  unfold Ga.loc at h
  unfold L2.Loc
  rw [c.sc]
  split at h
  · rename_i e; exact .inl e
  · rename_i e; exact .inr e
  · cases h
/-- a peek by the name's reading -/
theorem sl_tv (h : PE X e (tVar i)) : SL X e (mPeek i) := fun W tk =>
  PE.imp h fun σ H Q t => by
    obtain ⟨w, S, rel, p⟩ := t
    cases e : mPeek i S with
    | ok c S' =>
      rw [e] at p
      obtain ⟨rfl, v, h1, h2⟩ := peek_rel rel e
      exact ⟨v, h1, p w H v (Ext.refl _ _) rel h2⟩
    | exc c fs S' =>
      unfold mPeek at e
      cases es : S.env[i]? with
      | none => rw [es] at e; cases e
      | some sl =>
        rw [es] at e
        cases sl with
        | none => cases e
        | val d =>
          have e' : ofO (look S.st d) S = .exc c fs S' := e
          cases el : look S.st d with
          | none => rw [el] at e'; cases e'
          | some c' => rw [el] at e'; cases e'
        | own c' => cases e
    | bad => rw [e] at p; exact p.elim
theorem se_tv (h : PE X e (tVar i)) : SE X e (mVar i) := fun W tk =>
  PE.imp h fun σ H Q t => by
    obtain ⟨w, S, rel, p⟩ := t
    unfold mVar at p
    cases e : S.env[i]? with
    | none => rw [e] at p; exact p.elim
    | some sl =>
      rw [e] at p
      cases sl with
      | none => exact p.elim
      | val d =>
        obtain ⟨ov, h1, v, rfl, h2⟩ := rel.slots i _ e
        exact ⟨v, h1, p w H v (Ext.refl _ _) rel h2⟩
      | own c =>
        obtain ⟨v, hv⟩ := tVar_of rel e (fun q => nomatch q)
        have p' : postG X.K (ResR X.K) w H σ W Q (match nl c with
          | some c => Res.ok (.val c) { S with env := S.env.set i (.val c) }
          | none => .bad) := p
        cases en : nl c with
        | none =>
          rw [en] at p'
          exact p'.elim
        | some c' =>
          rw [en] at p'
          have := nl_self en
          subst this
          obtain ⟨w', ex, rel', hr⟩ := rel.freezeSlot e en hv
          exact ⟨v, hv, p' w' H v ex rel' hr⟩
end
structure Snd (Φ : Str → FnM) (C : Comp) : Prop where
  E : ∀ γ e c, C.E γ e = some c → ∀ X, CxS Φ γ X → SE X e (evE Φ c) ∧ ∀ i, c = .var i → PE X e (tVar i)
  T : ∀ γ e c, C.T γ e = some c → ∀ X, CxS Φ γ X → ST X e (evT Φ c)
  A : ∀ γ es c, C.A γ es = some c → ∀ X, CxS Φ γ X → SA X es (evA Φ c)
  M : ∀ γ ms es c, C.M γ ms es = some c → ∀ X, CxS Φ γ X → SA X es (evA Φ c)
  I : ∀ γ tg e c, C.I γ tg e = some c → ∀ X, CxS Φ γ X → SI X tg e (evI Φ c) ∧ ∀ i, byName c = some i → PE X e (tVar i)
section
variable {Φ : Str → FnM} {C : Comp} {γ : Ga} {X : Cx} {x : Str} {i : Nat} {e a b : Expr} {es : List Expr} {c : CE} {pos : Pos}
theorem Snd.l (s : Snd Φ C) (h : C.E γ e = some c) (cx : CxS Φ γ X) : SL X e (lookA c (evE Φ c)) := by
  obtain ⟨h1, h2⟩ := s.E γ e c h X cx
  cases c with
  | var i => exact sl_tv (h2 i rfl)
  | _ => exact h1.v.l
theorem Snd.lf (s : Snd Φ C) (h : C.E γ e = some c) (cx : CxS Φ γ X) : LfR X e (lfA c (evE Φ c)) := by
  obtain ⟨h1, h2⟩ := s.E γ e c h X cx
  cases c with
  | var i => exact h2 i rfl
  | _ => exact h1.v
theorem Snd.v (s : Snd Φ C) (h : C.E γ e = some c) (cx : CxS Φ γ X) : SV X e (frzM (evE Φ c)) := (s.E γ e c h X cx).1.v
theorem starEach_cons {env : Env} (h : noStar e = true) : starEach (e :: es) env = (false, eval e env) :: starEach es env := by
  cases e <;> first | rfl | exact nomatch h
theorem starEach_plain {env : Env} : ∀ {es : List Expr}, es.all noStar = true → ∀ y ∈ starEach es env, y.1 = false
  | [], _, _, hm => by cases hm
  | e :: es, h, y, hm => by
    rw [List.all_cons, Bool.and_eq_true] at h
    rw [starEach_cons h.1] at hm
    rcases List.mem_cons.mp hm with q | q
    · rw [q]
    · exact starEach_plain h.2 y q
theorem backTo_any {cpos : Pos} {env : Env} (h : es.all noStar = true) : (backTo cpos (starEach es env)).any (·.1) = false := by
  rw [List.any_eq_false]
  intro y hy
  unfold backTo at hy
  obtain ⟨z, hz, rfl⟩ := List.mem_map.mp hy
  have := starEach_plain h z hz
  simp [this]
theorem notSet_marks (op : CmpOp) (h : notSet b = true) : behindInMarks op b = false := by
  cases b <;> first | rfl | exact nomatch h
theorem notSet_last (op op' : CmpOp) (h : notSet b = true) : lastMarks [op, op'] [a, b] = false := notSet_marks op' h
theorem notSet_folded {env : Env} (h : notSet e = true) (v : Value) : foldedSetIterable e env v = pure v := by
  cases e <;> first | rfl | exact nomatch h
theorem opB_ok {op : Operator} {o : BOp} (h : opB op = some o) : ∃ r, OpR X (binaryOp op) r ∧ OpS X r o.fn := by
  cases op <;> cases h
  · exact ⟨_, opr_add, ops_add⟩
  · exact ⟨_, op_sub, ops_sub⟩
  · exact ⟨_, opr_mul, ops_mul⟩
  · exact ⟨_, op_mod, ops_mod⟩
  · exact ⟨_, op_pow, ops_pow⟩
  · exact ⟨_, op_fdiv, ops_fdiv⟩
theorem opC_ok (hu : X.A.units + 200 < cLine) (op : CmpOp) : ∃ r, OpR X (compareOp op) r ∧ OpS X r (opC op).fn := by
  have hu' : X.A.units + 64 < cLine := by omega
  cases op
  · exact ⟨_, opr_eqH hu', ops_eq⟩
  · exact ⟨_, opr_neH hu', ops_ne⟩
  · exact ⟨_, op_lt, ops_cmpI⟩
  · exact ⟨_, op_le, ops_cmpI⟩
  · exact ⟨_, op_gt, ops_cmpI⟩
  · exact ⟨_, op_ge, ops_cmpI⟩
  · exact ⟨_, op_isN, ops_is⟩
  · exact ⟨_, op_notN, ops_isn⟩
  · exact ⟨_, opr_in hu', ops_in⟩
  · exact ⟨_, opr_nin hu', ops_nin⟩
theorem sa_guard {ms : Mem → Res (List D)} (n : Nat) (h : SA X es ms) : SA X es (mGuard n ms) := fun W tk =>
  PA.imp (h W tk) fun σ H Q t => tG_bind t fun vs H1 ds S1 w1 rel q p => by
    by_cases hl : ds.length = n
    · rw [if_pos hl] at p
      exact p w1 H1 vs (Ext.refl _ _) rel q
    · rw [if_neg hl] at p; exact p.elim
theorem guard_len {ms : Mem → Res (List D)} {n : Nat} (S : Mem) (ds : List D) (S' : Mem) (h : mGuard n ms S = .ok ds S') : ds.length = n := by
  unfold mGuard at h
  cases e : ms S with
  | ok ds1 S1 =>
    rw [e] at h
    have h' : (if ds1.length = n then Res.ok ds1 S1 else .bad) = .ok ds S' := h
    by_cases hl : ds1.length = n
    · rw [if_pos hl] at h'
      cases h'
      exact hl
    · rw [if_neg hl] at h'; cases h'
  | exc c fs S1 => rw [e] at h; cases h
  | bad => rw [e] at h; cases h
theorem bf_call (cx : CxS Φ γ X) {bf : BF} {p : Pos} (h : bfOf x = some bf) (hg : γ.glb x = true) (hf : γ.G.free.contains x = true) (s : Snd Φ C) (ha : C.E γ a = some c) (hst : noStar a = true) : SE X (.Call (.Name x p) [a] [] pos) (mCall1 bf.fn (lookA c (evE Φ c))) := by
  obtain ⟨g1, g2, g3⟩ := glb_of cx hg
  have hm := cx.free x hf
  have la := s.l ha cx
  have he := starEach_cons (env := X.env) (es := []) hst
  have hpl : (backTo pos (starEach [] X.env)).any (·.1) = false := rfl
  unfold bfOf at h
  split at h
  · rename_i e; cases h
    have e : x = "len" := by simpa using e
    subst e
    exact sc_fn ca_len cs_len g1 hm boot_len la g3 g2 he hpl
  split at h
  · rename_i e; cases h
    have e : x = "int" := by simpa using e
    subst e
    exact sc_ty call_int1 cs_int g1 hm PyProof.Rows.Boot.«int» la g3 g2 he hpl
  split at h
  · rename_i e; cases h
    have e : x = "list" := by simpa using e
    subst e
    exact sc_ty (ca_list cx.calm) cs_list g1 hm PyProof.Rows.Boot.«list» la g3 g2 he hpl
  split at h
  · rename_i e; cases h
    have e : x = "tuple" := by simpa using e
    subst e
    exact sc_ty call_tuple_of cs_tuple g1 hm PyProof.Rows.Boot.«tuple» la g3 g2 he hpl
  split at h
  · rename_i e; cases h
    have e : x = "sorted" := by simpa using e
    subst e
    exact sc_fn (cr_sortD (by have := cx.un; omega)) cs_sort g1 hm PyProof.Rows.Boot.«sorted» la g3 g2 he hpl
  split at h
  · rename_i e; cases h
    have e : x = "all" := by simpa using e
    subst e
    exact sc_fn (cr_all cx.calm) cs_all g1 hm PyProof.Rows.Boot.«all» la g3 g2 he hpl
  split at h
  · rename_i e; cases h
    have e : x = "any" := by simpa using e
    subst e
    exact sc_fn (cr_any cx.calm) cs_any g1 hm PyProof.Rows.Boot.«any» la g3 g2 he hpl
  split at h
  · rename_i e; cases h
    have e : x = "sum" := by simpa using e
    subst e
    exact sc_fn (cr_sum cx.calm) cs_sum g1 hm PyProof.Rows.Boot.«sum» la g3 g2 he hpl
  cases h
end
end HM

set_option Elab.async false
set_option linter.all false
set_option maxRecDepth 100000
set_option maxHeartbeats 4000000
namespace HM
open PySem PySem.Spec L2
section
variable {Φ : Str → FnM} {C : Comp} {γ : Ga} {X : Cx} {x : Str} {i : Nat} {e a b : Expr} {es : List Expr} {c : CE} {pos : Pos}
/-! ### targets -/
theorem assignEach_eq {env : Env} (h : noStar e = true) : assignEach (e :: es) env = (false, assign e env) :: assignEach es env := assignEach_cons h
theorem mapM_nil {f : Expr → Option CG} {gs : List CG} (h : List.mapM f [] = some gs) : gs = [] := by
  have : (some [] : Option (List CG)) = some gs := by simpa using h
  exact (Option.some.inj this).symm
theorem mapM_cons {f : Expr → Option CG} {e : Expr} {es : List Expr} {gs : List CG} (h : List.mapM f (e :: es) = some gs) : ∃ g gs', f e = some g ∧ es.mapM f = some gs' ∧ gs = g :: gs' := by
  rw [List.mapM_cons] at h
  obtain ⟨g, h1, h2⟩ := Option.bind_eq_some_iff.mp h
  obtain ⟨gs', h3, h4⟩ := Option.bind_eq_some_iff.mp h2
  exact ⟨g, gs', h1, h3, (Option.some.inj h4).symm⟩
theorem sg_of : ∀ (k : Nat) {e : Expr} {g : CG} {is : List Nat}, compG γ k e = some g → CxS Φ γ X → (∀ j ∈ g.slots, j ∈ is) → SGt X e is (evG g)
  | 0, _, _, _, h, _, _ => nomatch h
  | k + 1, e, g, is, h, cx, hs => by
    cases e with
    | Name x p =>
      have h' : (if γ.loc x = true then (γ.var x).map .nm else none) = some g := h
      by_cases hl : γ.loc x = true
      · rw [if_pos hl] at h'
        obtain ⟨i, hi, rfl⟩ := Option.map_eq_some_iff.mp h'
        obtain ⟨h1, h2, h3, h4⟩ := var_of hi
        have L := loc_of cx hl
        exact sg_name (by rw [cx.N]; exact cx.nd) (by rw [cx.N]; exact h1) L (cx.fnl x hl) (hs i (List.mem_singleton.mpr rfl))
      · rw [if_neg hl] at h'; cases h'
    | Tuple es kk p =>
      have h' : (if es.all noStar = true then (es.mapM (compG γ k)).map CG.tup else none) = some g := h
      by_cases hl : es.all noStar = true
      · rw [if_pos hl] at h'
        obtain ⟨gs, hg, rfl⟩ := Option.map_eq_some_iff.mp h'
        have key : ∀ {es : List Expr} {gs : List CG}, es.all noStar = true → es.mapM (compG γ k) = some gs → (∀ j ∈ slotsG gs, j ∈ is) → SGts X es is (evGs gs) ∧ gs.length = es.length := by
          intro es
          induction es with
          | nil =>
            intro gs _ h _
            rw [mapM_nil h]
            exact ⟨sgs_nil, rfl⟩
          | cons e es ih =>
            intro gs hn h hm
            obtain ⟨g, gs', h1, h2, rfl⟩ := mapM_cons h
            rw [List.all_cons, Bool.and_eq_true] at hn
            have hm' : ∀ j ∈ g.slots ++ slotsG gs', j ∈ is := hm
            obtain ⟨q1, q2⟩ := ih hn.2 h2 fun j hj => hm' j (List.mem_append_right _ hj)
            exact ⟨sgs_cons (sg_of k h1 cx fun j hj => hm' j (List.mem_append_left _ hj)) q1 hn.1, by rw [List.length_cons, List.length_cons, q2]⟩
        obtain ⟨q1, q2⟩ := key hl hg hs
        exact sg_tup cx.calm q1 q2 hl
      · rw [if_neg hl] at h'; cases h'
    | _ => cases h
/-! ### a comprehension's block -/
theorem ixOf_none : ∀ {N : List Str} {k : Nat}, ixOf x N k = none → x ∉ N
  | [], _, _ => by simp
  | y :: ys, k, h => by
    have h' : (if (y == x) = true then some k else ixOf x ys (k + 1)) = none := h
    by_cases e : (y == x) = true
    · rw [if_pos e] at h'; cases h'
    · rw [if_neg e] at h'
      have := ixOf_none h'
      simp only [List.mem_cons, not_or]
      exact ⟨fun q => e (by simp [q]), this⟩
theorem own_mem {N : List Str} {sc : Scope} {p : Str × Nat} (h : p ∈ ownOf N sc) : N[p.2]? = some p.1 := by
  unfold ownOf at h
  obtain ⟨y, hy, e⟩ := List.mem_filterMap.mp h
  split at e
  · obtain ⟨i, h1, rfl⟩ := Option.map_eq_some_iff.mp e
    exact ixOf_get0 h1
  · obtain ⟨i, h1, rfl⟩ := Option.map_eq_some_iff.mp e
    exact ixOf_get0 h1
  · cases e
theorem own_has {N : List Str} {sc : Scope} {y : Str × NameKind} (hy : y ∈ sc.names) (hk : y.2 = .local ∨ y.2 = .cell) : y.1 ∈ (ownOf N sc).map (·.1) ∨ y.1 ∉ N := by
  cases e : ixOf y.1 N 0 with
  | none => exact .inr (ixOf_none e)
  | some i =>
    refine .inl (List.mem_map.mpr ⟨(y.1, i), ?_, rfl⟩)
    unfold ownOf
    refine List.mem_filterMap.mpr ⟨y, hy, ?_⟩
    rcases hk with hk | hk
    · rw [hk]; show (ixOf y.1 N 0).map _ = _; rw [e]; rfl
    · rw [hk]; show (ixOf y.1 N 0).map _ = _; rw [e]; rfl
theorem blk_ok {N : List Str} {sc scope : Scope} (h : blkB sc scope = true) : BlkOk N sc scope (ownOf N scope) := by
  unfold blkB at h
  rw [Bool.and_eq_true, Bool.and_eq_true] at h
  obtain ⟨⟨h1, h2⟩, h3⟩ := h
  refine ⟨of_decide_eq_true h1, fun y hy => of_decide_eq_true (List.all_eq_true.mp h2 y hy), fun p hp => own_mem hp, fun y hy e => ?_, fun y hy hk => own_has hy hk⟩
  have := List.all_eq_true.mp h3 y hy
  rw [Bool.or_eq_true, Bool.or_eq_true, Bool.not_eq_true'] at this
  rcases this with (q | q) | q
  · exact absurd e (of_decide_eq_false q)
  · exact .inl (of_decide_eq_true q)
  · exact .inr (of_decide_eq_true q)
theorem cxs_blk {scope : Scope} (cx : CxS Φ γ X) (s : Shared) (H : Hp) (Ca : Addr) (cl : List (Str × Addr)) (fp : List Addr) : CxS Φ ⟨γ.G, γ.N, relS scope γ.sc, some scope⟩ (X.blk s H scope (compEnvC scope cl Ca X.env) fp) where
  N := cx.N
  nd := cx.nd
  sc := by rw [← cx.sc]; rfl
  calm := cx.calm
  un := cx.un
  fnl := fun x h => by
    unfold Ga.loc at h
    have e : (X.blk s H scope (compEnvC scope cl Ca X.env) fp).env.scope = relS scope γ.sc := by rw [← cx.sc]; rfl
    rw [e]
    split at h
    · rename_i q; exact .inr q
    · exact .inl h
    · cases h
  glo := cx.glo
  free := cx.free
  dep := cx.dep
  rank := cx.rank
  fns := cx.fns
  room := cx.room
  exn := cx.exn
  xf := cx.xf
  isi := cx.isi
theorem s_loop {it : CI} {tg iter : Expr} {body : List Stmt} {is : List Nat} {mi : Mem → Res (List D)} {mt : D → Mem → Option Mem} {mbd : Mem → Out} (hc : X.calm = true) (hi : SI X tg iter mi) (hv : ∀ i, byName it = some i → PE X iter (tVar i)) (hg : SGt X tg is mt) (hb : SSs X body mbd) (hs : ∀ x, foldedSetIterable iter X.env x = pure x) :
    SS X (.For tg iter body [] pos) (mLoop it mi mt mbd) := by
  unfold mLoop
  cases e : byName it with
  | none => exact s_for hc hi hg hb hs
  | some i => exact ss_ite _ (ss_lock (s_for hc (si_keysL (hv i e)) hg hb hs)) (s_for hc hi hg hb hs)
theorem se_lcI {it : CI} {elt tg iter : Expr} {ifs : List Expr} {scope : Scope} {own : List (Str × Nat)} {mi : Mem → Res (List D)} {mt : D → Mem → Option Mem} {nt : Mem → Res Bool} {me : Mem → Res D} {vs : List Nat} (hc : X.calm = true) (hN : X.N.Nodup) (hi : SI X tg iter mi) (hvv : ∀ i, byName it = some i → PE X iter (tVar i)) (ok : BlkOk X.N X.env.scope scope own) (hv : own.map (·.2) = vs)
    (hg : Blk X scope fun Y => SGt Y tg vs mt) (ht : Blk X scope fun Y => STs Y ifs nt) (he : Blk X scope fun Y => SV Y elt me) (hs : ∀ x, foldedSetIterable iter X.env x = pure x) :
    SE X (.ListComp elt [⟨tg, iter, ifs, 0⟩] scope pos) (mLcI it vs mi mt nt me) := by
  unfold mLcI
  cases e : byName it with
  | none => exact se_lc hc hN hi ok hv hg ht he hs
  | some i => exact se_ite2 _ (se_lock (se_lc hc hN (si_keysL (hvv i e)) ok hv hg ht he hs)) (se_lc hc hN hi ok hv hg ht he hs)
theorem set_lock {i j : Nat} {m : Mem → Res RD} {S : Mem} : mSet j (mLockE i m) S = mLockS i (mSet j m) S := by
  show (mLockE i m S).out _ = _
  unfold mLockE mLockS
  cases ec : cellD i S with
  | none => rfl
  | some nc =>
    obtain ⟨n, c⟩ := nc
    show (unlR n (m (lockM n c S))).out _ = unlO n ((m (lockM n c S)).out _)
    cases m (lockM n c S) with
    | exc c fs S2 => rfl
    | bad => rfl
    | ok r S2 =>
      show Res.out (match unlM n S2 with
        | some S => .ok r S
        | none => .bad) _ = unlO n (if j < S2.env.length then .nx (setS j r S2) else .bad)
      unfold unlM
      by_cases hl : j < S2.env.length
      · rw [if_pos hl]
        show _ = (match unlM n (setS j r S2) with
          | some S => Out.nx S
          | none => .bad)
        unfold unlM
        show _ = (match (match S2.st[n]? with
          | some (.lck c) => some { setS j r S2 with st := S2.st.set n c }
          | _ => none) with
          | some S => Out.nx S
          | none => .bad)
        cases S2.st[n]? with
        | none => rfl
        | some c =>
          cases c with
          | lck c => exact if_pos hl
          | _ => rfl
      · rw [if_neg hl]
        show _ = Out.bad
        cases S2.st[n]? with
        | none => rfl
        | some c =>
          cases c with
          | lck c => exact if_neg hl
          | _ => rfl
theorem s_setLcI {it : CI} {elt tg iter : Expr} {ifs : List Expr} {scope : Scope} {own : List (Str × Nat)} {spos : Pos} {mi : Mem → Res (List D)} {mt : D → Mem → Option Mem} {nt : Mem → Res Bool} {me : Mem → Res D} {vs : List Nat} {i : Nat} {y : Str} {py : Pos} (hc : X.calm = true) (hN : X.N.Nodup) (hy : X.N[i]? = some y) (hyl : X.env.scope.names.lookup y = some .local)
    (hsw : swapsWith (.ListComp elt [⟨tg, iter, ifs, 0⟩] scope pos) (some (.Name y py)) spos.line X.env = pure true) (hi : SI X tg iter mi) (hvv : ∀ i, byName it = some i → PE X iter (tVar i)) (ok : BlkOk X.N X.env.scope scope own) (hv : own.map (·.2) = vs)
    (hg : Blk X scope fun Y => SGt Y tg vs mt) (ht : Blk X scope fun Y => STs Y ifs nt) (he : Blk X scope fun Y => SV Y elt me) (hs : ∀ x, foldedSetIterable iter X.env x = pure x) :
    SS X (.Assign [.Name y py] (.ListComp elt [⟨tg, iter, ifs, 0⟩] scope pos) spos) (mSet i (mLcI it vs mi mt nt me)) := by
  unfold mLcI
  cases e : byName it with
  | none => exact s_setLc hc hN hy hyl hsw hi ok hv hg ht he hs
  | some k =>
    have h := ss_ite (isCellD k) (ss_lock (i := k) (s_setLc hc hN hy hyl hsw (si_keysL (hvv k e)) ok hv hg ht he hs)) (s_setLc hc hN hy hyl hsw hi ok hv hg ht he hs)
    have eq : (fun S => if isCellD k S = true then mLockS k (mSet i (mLc vs (mKeysL k) mt nt me)) S else mSet i (mLc vs mi mt nt me) S) = mSet i fun S => if isCellD k S = true then mLockE k (mLc vs (mKeysL k) mt nt me) S else mLc vs mi mt nt me S := by
      funext S
      by_cases hb : isCellD k S = true
      · rw [if_pos hb, ← set_lock]
        show _ = Res.out (if isCellD k S = true then _ else _) _
        rw [if_pos hb]
        rfl
      · rw [if_neg hb]
        show _ = Res.out (if isCellD k S = true then _ else _) _
        rw [if_neg hb]
        rfl
    rw [eq] at h
    exact h
theorem se_lcC (s : Snd Φ C) {elt : Expr} {gens : List Comprehension} {scope : Scope} (h : stepLc C γ elt gens scope = some c) (cx : CxS Φ γ X) :
    SE X (.ListComp elt gens scope pos) (evE Φ c) ∧ (∃ tg iter ifs vs it g t ce, gens = [⟨tg, iter, ifs, 0⟩] ∧ c = .lc vs it g t ce ∧ (SI X tg iter (evI Φ it) ∧ ∀ i, byName it = some i → PE X iter (tVar i)) ∧ BlkOk X.N X.env.scope scope (ownOf γ.N scope) ∧ (ownOf γ.N scope).map (·.2) = vs ∧
      (Blk X scope fun Y => SGt Y tg vs (evG g)) ∧ (Blk X scope fun Y => STs Y ifs (evT Φ t)) ∧ (Blk X scope fun Y => SV Y elt (frzM (evE Φ ce))) ∧ notSet iter = true) := by
  unfold stepLc at h
  split at h
  · rename_i tg iter ifs
    dsimp only at h
    by_cases hb : (blkB γ.sc scope && notSet iter) = true
    · rw [if_pos hb] at h
      rw [Bool.and_eq_true] at hb
      obtain ⟨it, h1, h⟩ := Option.bind_eq_some_iff.mp h
      obtain ⟨g, h2, h⟩ := Option.bind_eq_some_iff.mp h
      by_cases hs : g.slots.all ((ownOf γ.N scope).map (·.2)).contains = true
      · rw [if_pos hs] at h
        obtain ⟨t, h3, h⟩ := Option.bind_eq_some_iff.mp h
        obtain ⟨ce, h4, rfl⟩ := Option.map_eq_some_iff.mp h
        have ok : BlkOk X.N X.env.scope scope (ownOf γ.N scope) := by rw [cx.N, cx.sc]; exact blk_ok hb.1
        have hg : Blk X scope fun Y => SGt Y tg ((ownOf γ.N scope).map (·.2)) (evG g) := fun s H C cl fp => sg_of 4 h2 (cxs_blk cx s H C cl fp) fun j hj => by
          have := List.all_eq_true.mp hs j hj
          simpa using this
        have ht : Blk X scope fun Y => STs Y ifs (evT Φ t) := fun s1 H C cl fp => by
          split at h3
          · cases h3
            exact sts_nil
          · exact sts_one (s.T _ _ _ h3 _ (cxs_blk cx s1 H C cl fp))
          · cases h3
        have he : Blk X scope fun Y => SV Y elt (frzM (evE Φ ce)) := fun s1 H C cl fp => s.v h4 (cxs_blk cx s1 H C cl fp)
        have hi := s.I _ _ _ _ h1 X cx
        exact ⟨se_lcI cx.calm (by rw [cx.N]; exact cx.nd) hi.1 hi.2 ok rfl hg ht he (fun v => notSet_folded hb.2 v), tg, iter, ifs, _, it, g, t, ce, rfl, rfl, hi, ok, rfl, hg, ht, he, hb.2⟩
      · rw [if_neg hs] at h; cases h
    · rw [if_neg hb] at h; cases h
  · cases h
/-! ### calls -/
theorem few_ok {cpos : Pos} {env : Env} (h : es.all noStar = true) (hl : es.length < 30) : ((backTo cpos (starEach es env)).all (fun x => !x.1) && (backToKw cpos (keywordEach [] env)).all (fun x => x.1.isSome)
      && decide (es.length + ([] : List Keyword).length + (if ([] : List Keyword).isEmpty then 0 else 1) < 30)) = true := by
  have h1 : (backTo cpos (starEach es env)).all (fun x => !x.1) = true := by
    rw [List.all_eq_true]
    intro y hy
    unfold backTo at hy
    obtain ⟨z, hz, rfl⟩ := List.mem_map.mp hy
    simp [starEach_plain h z hz]
  rw [h1]
  simp [keywordEach, backToKw]
  omega
theorem mm_call (s : Snd Φ C) (cx : CxS Φ γ X) {mm : MM} {m : Str} {ca : CA} {xp apos : Pos} (h : mmOf m es.length = some mm) (hi : γ.var x = some i) (ha : (es = [] ∧ ca = .nil) ∨ (es ≠ [] ∧ C.A γ es = some ca)) (hst : es.all noStar = true) (hl : es.length < 30) (hline : (apos.endLine == pos.line) = true) :
    SE X (.Call (.Attribute (.Name x xp) m apos) es [] pos) (mMut "list" mm.fn i (evA Φ ca)) := by
  have ho : PE X (.Name x xp) (tVar i) := pe_v cx hi
  have any : ∀ {id : String} {name : Str} {r : V → List V → Hp → VK → Prop} {g : D → List D → Option (D × RD)}, PySem.Slot "list" name id → typeOf (.builtin id) = pure (.type "method_descriptor") → MtR X id r → MutS X r g → SE X (.Call (.Attribute (.Name x xp) name apos) es [] pos) (mMut "list" g i (evA Φ ca)) := by
    intro id name r g sl ty mt mu
    rcases ha with ⟨rfl, rfl⟩ | ⟨ne, ha⟩
    · exact sm_mut0 PySem.F.plainAttrs_list sl ty mt mu ho rfl hline
    · have sa := s.A _ _ _ ha X cx
      cases es with
      | nil => exact absurd rfl ne
      | cons e es =>
        have hst' := hst
        rw [List.all_cons, Bool.and_eq_true] at hst'
        exact sm_mut PySem.F.plainAttrs_list sl ty mt mu ho sa rfl (few_ok hst hl) hline (starEach_cons hst'.1) (backTo_any hst'.2)
  unfold mmOf at h
  split at h
  · rename_i e
    have e : m = "append" := by simpa using e
    subst e
    split at h
    · cases h; exact any PySem.F.slot_list_append PySem.F.type_list_append mt_append mu_append
    · cases h
  split at h
  · rename_i e
    have e : m = "pop" := by simpa using e
    subst e
    split at h
    · cases h; exact any PySem.F.slot_list_pop PySem.F.type_list_pop mt_popAt mu_popAt
    split at h
    · cases h; exact any PySem.F.slot_list_pop PySem.F.type_list_pop mt_pop mu_pop
    · cases h
  split at h
  · rename_i e
    have e : m = "clear" := by simpa using e
    subst e
    split at h
    · cases h; exact any PySem.F.slot_list_clear PySem.F.type_list_clear mt_clear mu_clear
    · cases h
  split at h
  · rename_i e
    have e : m = "reverse" := by simpa using e
    subst e
    split at h
    · cases h; exact any PySem.F.slot_list_reverse PySem.F.type_list_reverse mt_reverse mu_rev
    · cases h
  split at h
  · rename_i e
    have e : m = "insert" := by simpa using e
    subst e
    split at h
    · cases h; exact any PySem.F.slot_list_insert PySem.F.type_list_insert mt_insert mu_insert
    · cases h
  cases h
theorem se_callC (s : Snd Φ C) (cx : CxS Φ γ X) {f : Expr} {args : List Expr} {kws : List Keyword} (h : stepCall C γ f args kws pos = some c) : SE X (.Call f args kws pos) (evE Φ c) ∧ ∀ i, c ≠ .var i := by
  unfold stepCall at h
  split at h
  rotate_left
  · rename_i k g gp kp
    split at h
    · rename_i x xp a
      split at h
      · rename_i hb
        rw [Bool.and_eq_true, Bool.and_eq_true, Bool.and_eq_true, Bool.and_eq_true, Bool.and_eq_true, Bool.and_eq_true] at hb
        obtain ⟨b1, b2, b3, b4, b5, b6, b7⟩ := hb
        obtain ⟨c', ha, rfl⟩ := Option.map_eq_some_iff.mp h
        have ex : x = "sorted" := by simpa using b3
        have ek : k = "key" := by simpa using b4
        subst ex ek
        unfold Ga.bt at b1
        rw [Bool.and_eq_true] at b1
        obtain ⟨g1, _, _⟩ := glb_of cx b1.1
        obtain ⟨g2, g3, _⟩ := glb_of cx b6
        obtain ⟨fa, m1, m2⟩ := cx.rank g b7
        exact ⟨se_sortk (by have := cx.un; omega) cx.dep (cx.free _ b2) g1 (cx.free _ b1.2) (s.l ha cx) b5 (pe_glob g2 m1 rfl g3) m2, fun i e => nomatch e⟩
      · cases h
    · cases h
  · cases h
  by_cases hst : args.all noStar = true
  rotate_left
  · rw [if_neg hst] at h; cases h
  rw [if_pos hst] at h
  split at h
  · rename_i x xp
    by_cases hg : γ.glb x = true
    rotate_left
    · rw [if_neg hg] at h; cases h
    rw [if_pos hg] at h
    obtain ⟨g1, g2, g3⟩ := glb_of cx hg
    split at h
    · rename_i ms em
      by_cases hl : ms.length = args.length
      rotate_left
      · rw [if_neg hl] at h; cases h
      rw [if_pos hl] at h
      obtain ⟨k, f, fd, ps, F, hr, hm, hk, hb⟩ := cx.fns x ms em
      cases args with
      | nil =>
        cases (show some (CE.call x 0 .nil) = some c from h)
        refine ⟨?_, fun i e => nomatch e⟩
        have e0 : ms.length = 0 := hl
        have F' : FnOk X.prog X.w X.K X.mg X.base (L2.CX X.prog X.w) k f fd ps (spM X.K 0 (Φ x)) := by rw [← e0]; exact F
        have q := se_call0 (p := xp) (pos := pos) F' hr g1 hm hk hb g2
        have e : mGuard 0 mNil = mNil := by funext S; rfl
        show SE X _ (mCall (Φ x) (mGuard 0 mNil))
        rw [e]
        exact q
      | cons e es =>
        obtain ⟨as, ha, rfl⟩ := Option.map_eq_some_iff.mp (show (C.M γ ms (e :: es)).map (fun as => CE.call x ms.length as) = some c from h)
        refine ⟨?_, fun i e => nomatch e⟩
        have sa := sa_guard ms.length (s.M _ _ _ _ ha X cx)
        have hst' := hst
        rw [List.all_cons, Bool.and_eq_true] at hst'
        exact se_call (fun S ds S' q => guard_len S ds S' q) F hr g1 hm hk hb sa g2 (starEach_cons hst'.1) (backTo_any hst'.2)
    · split at h
      · rename_i ps ep
        obtain ⟨x1, x2⟩ := cx.exn x ps ep X rfl rfl rfl rfl rfl cx.room g1 g2
        by_cases hl : ps.length = args.length
        rotate_left
        · rw [if_neg hl] at h; cases h
        rw [if_pos hl] at h
        cases args with
        | nil =>
          cases (show some (CE.exn x [] .nil) = some c from h)
          exact ⟨se_exn0 (x2 (List.length_eq_zero_iff.mp hl)), fun i e => nomatch e⟩
        | cons e es =>
          obtain ⟨as, ha, rfl⟩ := Option.map_eq_some_iff.mp (show (C.A γ (e :: es)).map (fun as => CE.exn x ps as) = some c from h)
          exact ⟨se_exn x1 hst hl.symm (fun z => nomatch z) (s.A _ _ _ ha X cx), fun i e => nomatch e⟩
      by_cases hf : γ.G.free.contains x = true
      rotate_left
      · rw [if_neg hf] at h; cases h
      rw [if_pos hf] at h
      split at h
      · rename_i b a eb
        obtain ⟨c', ha, rfl⟩ := Option.map_eq_some_iff.mp h
        refine ⟨bf_call cx eb hg hf s ha (by simpa using hst), fun i e => nomatch e⟩
      · rename_i a t tp eb
        by_cases hb : ((x == ("isinstance" : Str)) && γ.glb t) = true
        rotate_left
        · rw [if_neg hb] at h; cases h
        rw [if_pos hb] at h
        rw [Bool.and_eq_true] at hb
        have ex : x = "isinstance" := by simpa using hb.1
        subst ex
        obtain ⟨ans, h1, h⟩ := Option.bind_eq_some_iff.mp h
        obtain ⟨c', ha, rfl⟩ := Option.map_eq_some_iff.mp h
        obtain ⟨k1, k2, k3⟩ := glb_of cx hb.2
        rw [List.all_cons, Bool.and_eq_true] at hst
        exact ⟨se_isi (cx.isi t ans h1) g1 (cx.free _ hf) (s.v ha cx) (starEach_cons hst.1) k1 k3 k2, fun i e => nomatch e⟩
      · cases h
  · rename_i x xp m apos
    by_cases hc : (apos.endLine == pos.line && decide (args.length < 30)) = true
    rotate_left
    · rw [if_neg hc] at h; cases h
    rw [if_pos hc] at h
    rw [Bool.and_eq_true] at hc
    obtain ⟨i, hi, h⟩ := Option.bind_eq_some_iff.mp h
    obtain ⟨mm, hmm, h⟩ := Option.bind_eq_some_iff.mp h
    by_cases he : args.isEmpty = true
    · rw [if_pos he] at h
      cases h
      exact ⟨mm_call s cx hmm hi (.inl ⟨List.isEmpty_iff.mp he, rfl⟩) hst (of_decide_eq_true hc.2) hc.1, fun i e => nomatch e⟩
    · rw [if_neg he] at h
      obtain ⟨as, ha, rfl⟩ := Option.map_eq_some_iff.mp h
      exact ⟨mm_call s cx hmm hi (.inr ⟨fun z => he (List.isEmpty_iff.mpr z), ha⟩) hst (of_decide_eq_true hc.2) hc.1, fun i e => nomatch e⟩
  · cases h
end
end HM

set_option Elab.async false
set_option linter.all false
set_option maxRecDepth 100000
set_option maxHeartbeats 4000000
namespace HM
open PySem PySem.Spec L2
section
variable {Φ : Str → FnM} {C : Comp} {γ : Ga} {X : Cx} {x : Str} {i : Nat} {e a b : Expr} {es : List Expr} {c : CE} {pos : Pos}
theorem plainIx (h : notSlice b = true) : PlainIx b := fun o i => by
  cases b <;> first | rfl | exact nomatch h
theorem so_of (s : Snd Φ C) (cx : CxS Φ γ X) {o : Option Expr} {l : CO} (h : stepO C γ o = some l) : SO X o (evO Φ l) := by
  cases o with
  | none => cases h; exact so_none
  | some e =>
    obtain ⟨c', h1, rfl⟩ := Option.map_eq_some_iff.mp (show (C.E γ e).map CO.at = some l from h)
    exact so_some (s.l h1 cx)
theorem tru_plain (h : truTest e = true) : ∀ whole, isTrue e X.env whole = (do let v ← whole; standAt e.pos; holding [v] (truthy v)) := fun whole => by
  cases e <;> first | rfl | exact nomatch h
theorem sw_bool {op : BoolOp} {vs : List Expr} {m : Mem → Res Bool} (h : ST X (.BoolOp op vs pos) m) : SW X (.BoolOp op vs pos) m := fun W tk => ⟨fun wh pins s σ H Q I q => (h W tk).run pins s σ H Q I q⟩
/-! ### expressions -/
theorem snd_E (s : Snd Φ C) (e : Expr) (c : CE) (h : stepE C γ e = some c) (cx : CxS Φ γ X) : SE X e (evE Φ c) ∧ ∀ i, c = .var i → PE X e (tVar i) := by
  cases e with
  | Name x p =>
    have h' : (match γ.var x with
      | some i => some (CE.var i)
      | none => if γ.glb x then (γ.G.glo.lookup x).map CE.lit else none) = some c := h
    cases ev : γ.var x with
    | some i =>
      rw [ev] at h'
      cases h'
      exact ⟨se_tv (pe_v cx ev), fun j e => by cases e; exact pe_v cx ev⟩
    | none =>
      rw [ev] at h'
      have h2 : (if γ.glb x = true then (γ.G.glo.lookup x).map CE.lit else none) = some c := h'
      by_cases hg : γ.glb x = true
      · rw [if_pos hg] at h2
        obtain ⟨d, hd, rfl⟩ := Option.map_eq_some_iff.mp h2
        obtain ⟨g1, g2, g3⟩ := glb_of cx hg
        obtain ⟨v, u, k1, k2, k3⟩ := cx.glo x d hd
        exact ⟨se_const (pe_glob g1 k1 k2 g2) (fun _ _ _ q => q) k3, fun i e => nomatch e⟩
      · rw [if_neg hg] at h2; cases h2
  | Constant k n p =>
    cases k with
    | int i => cases h; exact ⟨se_const (d := .int i) pe_int (fun _ _ _ q => q) (fun _ _ => rfl), fun i e => nomatch e⟩
    | bool i => cases h; exact ⟨se_const (d := .bl i) pe_bl (fun _ _ _ q => q) (fun _ _ => rfl), fun i e => nomatch e⟩
    | none => cases h; exact ⟨se_const (d := .non) pe_non (fun _ _ _ q => q) (fun _ _ => rfl), fun i e => nomatch e⟩
    | str i => cases h; exact ⟨se_const (d := .str i) pe_str (fun _ _ _ q => q) (fun _ _ => rfl), fun i e => nomatch e⟩
    | _ => cases h
  | Attribute o f p =>
    cases o with
    | Name n np =>
      obtain ⟨i, hi, rfl⟩ := Option.map_eq_some_iff.mp (show ((γ.var n).map fun i => CE.attr γ.G.exc f (.var i)) = some c from h)
      exact ⟨se_attr (fun c ps e => cx.xf c ps e) (se_tv (pe_v cx hi)).v rfl, fun i e => nomatch e⟩
    | _ => cases h
  | BinOp a op b p =>
    obtain ⟨o, h1, h⟩ := Option.bind_eq_some_iff.mp (show (opB op).bind (fun o => (C.E γ a).bind fun a' => (C.E γ b).map fun b' => CE.bin o a' b') = some c from h)
    obtain ⟨a', h2, h⟩ := Option.bind_eq_some_iff.mp h
    obtain ⟨b', h3, rfl⟩ := Option.map_eq_some_iff.mp h
    obtain ⟨r, hr, ho⟩ := opB_ok (X := X) h1
    exact ⟨sl_bin hr ho (s.lf h2 cx) (s.l h3 cx), fun i e => nomatch e⟩
  | Compare a ops bs p =>
    have h' : cmpE C γ a ops bs = some c := h
    unfold cmpE at h'
    split at h'
    · rename_i op b
      by_cases hn : notSet b = true
      · rw [if_pos hn] at h'
        obtain ⟨a', h2, h⟩ := Option.bind_eq_some_iff.mp h'
        obtain ⟨b', h3, rfl⟩ := Option.map_eq_some_iff.mp h
        obtain ⟨r, hr, ho⟩ := opC_ok cx.un op
        exact ⟨sl_cmp hr ho (s.lf h2 cx) (s.l h3 cx) (notSet_marks op hn), fun i e => nomatch e⟩
      · rw [if_neg hn] at h'; cases h'
    · rename_i op op' b c2
      by_cases hn : notSet c2 = true
      · rw [if_pos hn] at h'
        obtain ⟨a', h2, h⟩ := Option.bind_eq_some_iff.mp h'
        obtain ⟨b', h3, h⟩ := Option.bind_eq_some_iff.mp h
        obtain ⟨c', h4, rfl⟩ := Option.map_eq_some_iff.mp h
        obtain ⟨r, hr, ho⟩ := opC_ok cx.un op
        obtain ⟨r', hr', ho'⟩ := opC_ok cx.un op'
        exact ⟨se_chain hr ho hr' ho' (s.v h2 cx) (s.v h3 cx) (s.l h4 cx) (notSet_last op op' hn), fun i e => nomatch e⟩
      · rw [if_neg hn] at h'; cases h'
    · cases h'
  | Subscript a b p =>
    by_cases hs : notSlice b = true
    · have h' : ((C.E γ a).bind fun a' => (C.E γ b).map fun b' => CE.ix a' b') = some c := by
        cases b <;> first | exact h | exact nomatch hs
      obtain ⟨a', h2, h3⟩ := Option.bind_eq_some_iff.mp h'
      obtain ⟨b', h4, rfl⟩ := Option.map_eq_some_iff.mp h3
      exact ⟨sl_ix (ix_any (by have := cx.un; omega)) ops_ixAll (s.lf h2 cx) (s.l h4 cx) (plainIx hs), fun i e => nomatch e⟩
    · cases b with
      | Slice lo hi st p2 =>
        cases st with
        | some _ => cases h
        | none =>
          obtain ⟨a', h2, h⟩ := Option.bind_eq_some_iff.mp (show ((C.E γ a).bind fun a' => (stepO C γ lo).bind fun l => (stepO C γ hi).map fun h => CE.slice a' l h) = some c from h)
          obtain ⟨l, h3, h⟩ := Option.bind_eq_some_iff.mp h
          obtain ⟨r, h4, rfl⟩ := Option.map_eq_some_iff.mp h
          exact ⟨se_slice (s.lf h2 cx) (so_of s cx h3) (so_of s cx h4), fun i e => nomatch e⟩
      | _ => exact absurd rfl hs
  | Tuple es k p =>
    obtain ⟨as, h1, rfl⟩ := Option.map_eq_some_iff.mp (show (C.A γ es).map CE.tup = some c from h)
    exact ⟨se_tup (s.A _ _ _ h1 X cx), fun i e => nomatch e⟩
  | List es p =>
    obtain ⟨as, h1, rfl⟩ := Option.map_eq_some_iff.mp (show (C.A γ es).map CE.lst = some c from h)
    exact ⟨se_lst (s.A _ _ _ h1 X cx), fun i e => nomatch e⟩
  | BoolOp op vs p =>
    match vs, h with
    | [], h => cases h
    | [a], h =>
      obtain ⟨h1, h2⟩ := s.E γ a c h X cx
      exact ⟨se_one h1, fun i e => pe_one (h2 i e)⟩
    | a :: b :: rest, h =>
      obtain ⟨a', h2, h⟩ := Option.bind_eq_some_iff.mp (show ((C.E γ a).bind fun a' => (C.E γ (.BoolOp op (b :: rest) p)).map fun b' => boolE op a' b') = some c from h)
      obtain ⟨b', h3, rfl⟩ := Option.map_eq_some_iff.mp h
      cases op with
      | And => exact ⟨se_and (s.v h2 cx) (s.E _ _ _ h3 X cx).1, fun i e => nomatch e⟩
      | Or => exact ⟨se_or (s.v h2 cx) (s.E _ _ _ h3 X cx).1, fun i e => nomatch e⟩
  | UnaryOp op a p =>
    cases op with
    | Not =>
      obtain ⟨a', h2, rfl⟩ := Option.map_eq_some_iff.mp (show (C.E γ a).map CE.not = some c from h)
      exact ⟨se_not (s.l h2 cx), fun i e => nomatch e⟩
    | USub =>
      cases a with
      | Constant k n p2 =>
        cases k with
        | int i =>
          cases h
          exact ⟨se_const (d := .int (-i)) (pe_un un_neg pe_int) (fun _ _ _ q => ⟨i, rfl, q⟩) (fun _ _ => rfl), fun i e => nomatch e⟩
        | _ => cases h
      | _ => cases h
    | _ => cases h
  | IfExp t a b p =>
    obtain ⟨c', h1, h⟩ := Option.bind_eq_some_iff.mp (show ((C.T γ t).bind fun c' => (C.E γ a).bind fun a' => (C.E γ b).map fun b' => CE.ite c' a' b') = some c from h)
    obtain ⟨a', h2, h⟩ := Option.bind_eq_some_iff.mp h
    obtain ⟨b', h3, rfl⟩ := Option.map_eq_some_iff.mp h
    exact ⟨se_if (s.T _ _ _ h1 X cx) (s.E _ _ _ h2 X cx).1 (s.E _ _ _ h3 X cx).1, fun i e => nomatch e⟩
  | Call f args kws p =>
    obtain ⟨h1, h2⟩ := se_callC s cx (pos := p) h
    exact ⟨h1, fun i e => absurd e (h2 i)⟩
  | ListComp elt gens scope p =>
    obtain ⟨h1, tg, iter, ifs, vs, it, g, t, ce, _, e, _⟩ := se_lcC s (pos := p) (show stepLc C γ elt gens scope = some c from h) cx
    exact ⟨h1, fun i e2 => by rw [e] at e2; cases e2⟩
  | _ => cases h
theorem snd_T (s : Snd Φ C) (e : Expr) (c : CT) (h : stepT C γ e = some c) (cx : CxS Φ γ X) : ST X e (evT Φ c) := by
  have plain : truTest e = true → (if truTest e = true then (C.E γ e).map CT.tru else none) = some c → ST X e (evT Φ c) := fun ht hh => by
    rw [if_pos ht] at hh
    obtain ⟨a', h2, rfl⟩ := Option.map_eq_some_iff.mp hh
    exact st_truth (s.l h2 cx) (tru_plain ht)
  cases e with
  | BoolOp op vs p =>
    match vs, h with
    | [], h => cases h
    | [a], h =>
      have h1 := s.T γ a c h X cx
      cases op with
      | And => exact (sw_and1 h1).st
      | Or => exact (sw_or1 h1).st
    | a :: b :: rest, h =>
      obtain ⟨a', h2, h⟩ := Option.bind_eq_some_iff.mp (show ((C.T γ a).bind fun a' => (C.T γ (.BoolOp op (b :: rest) p)).map fun b' => boolT op a' b') = some c from h)
      obtain ⟨b', h3, rfl⟩ := Option.map_eq_some_iff.mp h
      have w := sw_bool (s.T _ _ _ h3 X cx)
      cases op with
      | And => exact (sw_and (s.T _ _ _ h2 X cx) w).st
      | Or => exact (sw_or (s.T _ _ _ h2 X cx) w).st
  | UnaryOp op a p =>
    cases op with
    | Not =>
      obtain ⟨a', h2, rfl⟩ := Option.map_eq_some_iff.mp (show (C.T γ a).map CT.not = some c from h)
      exact st_not (s.T _ _ _ h2 X cx)
    | _ => cases h
  | Compare a ops bs p =>
    have h' : cmpT C γ a ops bs = some c := h
    unfold cmpT at h'
    split at h'
    · rename_i op b
      by_cases hn : notSet b = true
      · rw [if_pos hn] at h'
        obtain ⟨a', h2, h⟩ := Option.bind_eq_some_iff.mp h'
        obtain ⟨b', h3, rfl⟩ := Option.map_eq_some_iff.mp h
        obtain ⟨r, hr, ho⟩ := opC_ok cx.un op
        exact stl_cmp hr ho (s.lf h2 cx) (s.l h3 cx) (notSet_marks op hn)
      · rw [if_neg hn] at h'; cases h'
    · rename_i op op' b c2
      by_cases hn : notSet c2 = true
      · rw [if_pos hn] at h'
        obtain ⟨a', h2, h⟩ := Option.bind_eq_some_iff.mp h'
        obtain ⟨b', h3, h⟩ := Option.bind_eq_some_iff.mp h
        obtain ⟨c', h4, rfl⟩ := Option.map_eq_some_iff.mp h
        obtain ⟨r, hr, ho⟩ := opC_ok cx.un op
        obtain ⟨r', hr', ho'⟩ := opC_ok cx.un op'
        exact st_chain hr ho hr' ho' (s.v h2 cx) (s.v h3 cx) (s.l h4 cx) (notSet_last op op' hn)
      · rw [if_neg hn] at h'; cases h'
    · cases h'
  | Name _ _ => exact plain rfl h
  | Call _ _ _ _ => exact plain rfl h
  | Attribute _ _ _ => exact plain rfl h
  | Subscript _ _ _ => exact plain rfl h
  | Constant _ _ _ => exact plain rfl h
  | BinOp _ _ _ _ => exact plain rfl h
  | ListComp _ _ _ _ => exact plain rfl h
  | List _ _ => exact plain rfl h
  | Tuple _ _ _ => exact plain rfl h
  | _ => cases h
theorem snd_A (s : Snd Φ C) (es : List Expr) (c : CA) (h : stepA C γ es = some c) (cx : CxS Φ γ X) : SA X es (evA Φ c) := by
  cases es with
  | nil => cases h; exact sa_nil
  | cons e es =>
    by_cases hs : noStar e = true
    · have h' : ((C.E γ e).bind fun a => (C.A γ es).map fun r => CA.one a r) = some c := by
        cases e <;> first | exact h | exact nomatch hs
      obtain ⟨a', h2, h3⟩ := Option.bind_eq_some_iff.mp h'
      obtain ⟨r, h4, rfl⟩ := Option.map_eq_some_iff.mp h3
      exact sa_cons (s.v h2 cx) (s.A _ _ _ h4 X cx) (starEach_cons hs)
    · cases e with
      | Starred e p =>
        obtain ⟨a', h2, h3⟩ := Option.bind_eq_some_iff.mp (show ((C.E γ e).bind fun a => (C.A γ es).map fun r => CA.star a r) = some c from h)
        obtain ⟨r, h4, rfl⟩ := Option.map_eq_some_iff.mp h3
        exact sa_star (s.l h2 cx) (s.A _ _ _ h4 X cx) rfl
      | _ => exact absurd rfl hs
theorem snd_M (s : Snd Φ C) (ms : List Bool) (es : List Expr) (c : CA) (h : stepM C γ ms es = some c) (cx : CxS Φ γ X) : SA X es (evA Φ c) := by
  cases ms with
  | nil =>
    cases es with
    | nil => cases h; exact sa_nil
    | cons e es => cases h
  | cons m ms =>
    cases es with
    | nil => cases m <;> cases h
    | cons e es =>
      cases m with
      | false =>
        have h' : (if noStar e = true then (C.E γ e).bind fun a => (C.M γ ms es).map fun r => CA.one a r else none) = some c := h
        by_cases hs : noStar e = true
        · rw [if_pos hs] at h'
          obtain ⟨a', h2, h3⟩ := Option.bind_eq_some_iff.mp h'
          obtain ⟨r, h4, rfl⟩ := Option.map_eq_some_iff.mp h3
          exact sa_cons (s.v h2 cx) (s.M _ _ _ _ h4 X cx) (starEach_cons hs)
        · rw [if_neg hs] at h'; cases h'
      | true =>
        obtain ⟨x, h1, h2⟩ := Option.bind_eq_some_iff.mp (show ((nameOf e).bind fun x => (γ.var x).bind fun i => (C.M γ ms es).map fun r => CA.lend i r) = some c from h)
        obtain ⟨i, h3, h4⟩ := Option.bind_eq_some_iff.mp h2
        obtain ⟨r, h5, rfl⟩ := Option.map_eq_some_iff.mp h4
        cases e with
        | Name y p =>
          cases h1
          obtain ⟨k1, k2, k3, k4⟩ := var_of h3
          exact sa_cons (sv_lend (by rw [cx.N]; exact k1) (vis_of cx k2) k3 k4) (s.M _ _ _ _ h5 X cx) rfl
        | _ => cases h1
theorem snd_I (s : Snd Φ C) (tg e : Expr) (c : CI) (h : stepI C γ tg e = some c) (cx : CxS Φ γ X) : SI X tg e (evI Φ c) := by
  have plain : ((C.E γ e).map CI.any) = some c → SI X tg e (evI Φ c) := fun hh => by
    obtain ⟨a', h2, rfl⟩ := Option.map_eq_some_iff.mp hh
    exact si_any (s.v h2 cx)
  cases e with
  | Call f args kws p =>
    cases f with
    | Name x xp =>
      cases kws with
      | cons _ _ => exact plain h
      | nil =>
        have h' : (if (γ.bt x && (x == ("range" : Str))) = true then rngI C γ args
          else if (γ.bt x && (x == ("enumerate" : Str))) = true then enumI C γ tg args
          else (C.E γ (.Call (.Name x xp) args [] p)).map CI.any) = some c := h
        have bt : γ.bt x = true → Gl X x ∧ X.mg x = none := fun hb => by
          unfold Ga.bt at hb
          rw [Bool.and_eq_true] at hb
          exact ⟨(glb_of cx hb.1).1, cx.free x hb.2⟩
        by_cases h1 : (γ.bt x && (x == ("range" : Str))) = true
        · rw [if_pos h1] at h'
          rw [Bool.and_eq_true] at h1
          have ex : x = "range" := by simpa using h1.2
          obtain ⟨g1, g2⟩ := bt h1.1
          subst ex
          unfold rngI at h'
          split at h'
          · rename_i a
            by_cases hs : noStar a = true
            · rw [if_pos hs] at h'
              obtain ⟨a', h2, rfl⟩ := Option.map_eq_some_iff.mp h'
              exact si_range1 g1 g2 (s.v h2 cx) (starEach_cons hs)
            · rw [if_neg hs] at h'; cases h'
          · rename_i a b
            by_cases hs : (noStar a && noStar b) = true
            · rw [if_pos hs] at h'
              rw [Bool.and_eq_true] at hs
              obtain ⟨a', h2, h3⟩ := Option.bind_eq_some_iff.mp h'
              obtain ⟨b', h4, rfl⟩ := Option.map_eq_some_iff.mp h3
              exact si_range2 g1 g2 (s.v h2 cx) (s.v h4 cx) (starEach_cons hs.1) (starEach_cons hs.2)
            · rw [if_neg hs] at h'; cases h'
          · cases h'
        · rw [if_neg h1] at h'
          by_cases h2 : (γ.bt x && (x == ("enumerate" : Str))) = true
          · rw [if_pos h2] at h'
            rw [Bool.and_eq_true] at h2
            have ex : x = "enumerate" := by simpa using h2.2
            obtain ⟨g1, g2⟩ := bt h2.1
            subst ex
            unfold enumI at h'
            split at h'
            · rename_i a
              by_cases hs : noStar a = true
              · rw [if_pos hs] at h'
                obtain ⟨a', h2, rfl⟩ := Option.map_eq_some_iff.mp h'
                exact si_enum g1 g2 (s.v h2 cx) (starEach_cons hs)
              · rw [if_neg hs] at h'; cases h'
            · cases h'
          · rw [if_neg h2] at h'
            exact plain h'
    | _ => exact plain h
  | _ => exact plain h
theorem rngI_no {args : List Expr} {c : CI} (h : rngI C γ args = some c) : byName c = none := by
  unfold rngI at h
  split at h
  · split at h
    · obtain ⟨a', h2, rfl⟩ := Option.map_eq_some_iff.mp h
      rfl
    · cases h
  · split at h
    · obtain ⟨a', h2, h3⟩ := Option.bind_eq_some_iff.mp h
      obtain ⟨b', h4, rfl⟩ := Option.map_eq_some_iff.mp h3
      rfl
    · cases h
  · cases h
theorem enumI_no {tg : Expr} {args : List Expr} {c : CI} (h : enumI C γ tg args = some c) : byName c = none := by
  unfold enumI at h
  split at h
  · split at h
    · obtain ⟨a', h2, rfl⟩ := Option.map_eq_some_iff.mp h
      rfl
    · cases h
  · cases h
theorem snd_I2 (s : Snd Φ C) (tg e : Expr) (c : CI) (h : stepI C γ tg e = some c) (cx : CxS Φ γ X) : ∀ i, byName c = some i → PE X e (tVar i) := by
  have plain : ((C.E γ e).map CI.any) = some c → ∀ i, byName c = some i → PE X e (tVar i) := fun hh i hi => by
    obtain ⟨a', h2, rfl⟩ := Option.map_eq_some_iff.mp hh
    cases a' with
    | var j =>
      cases hi
      exact (s.E _ _ _ h2 X cx).2 _ rfl
    | _ => cases hi
  cases e with
  | Call f args kws p =>
    cases f with
    | Name x xp =>
      cases kws with
      | cons _ _ => exact plain h
      | nil =>
        have h' : (if (γ.bt x && (x == ("range" : Str))) = true then rngI C γ args
          else if (γ.bt x && (x == ("enumerate" : Str))) = true then enumI C γ tg args
          else (C.E γ (.Call (.Name x xp) args [] p)).map CI.any) = some c := h
        split at h'
        · intro i hi
          rw [rngI_no h'] at hi
          cases hi
        · split at h'
          · intro i hi
            rw [enumI_no h'] at hi
            cases hi
          · exact plain h'
    | _ => exact plain h
  | _ => exact plain h
theorem snd_none : Snd Φ Comp.none := ⟨(fun _ _ _ h => nomatch h), (fun _ _ _ h => nomatch h), (fun _ _ _ h => nomatch h), (fun _ _ _ _ h => nomatch h), (fun _ _ _ _ h => nomatch h)⟩
theorem snd_comp : ∀ k, Snd Φ (comp k)
  | 0 => snd_none
  | k + 1 =>
    have s := snd_comp k
    ⟨fun _ e c h X cx => snd_E s e c h cx, fun _ e c h X cx => snd_T s e c h cx, fun _ es c h X cx => snd_A s es c h cx, fun _ ms es c h X cx => snd_M s ms es c h cx, fun _ tg e c h X cx => ⟨snd_I s tg e c h cx, snd_I2 s tg e c h cx⟩⟩
end
end HM

set_option Elab.async false
set_option linter.all false
set_option maxRecDepth 100000
set_option maxHeartbeats 4000000
namespace HM
open PySem PySem.Spec L2
def notComp : Expr → Bool
  | .ListComp _ _ _ _ => false
  | .SetComp _ _ _ _ => false
  | .DictComp _ _ _ _ _ => false
  | _ => true
def notTupE : Expr → Bool
  | .Tuple _ _ _ => false
  | _ => true
/-! ### except suites -/
structure Hc where
  γ : Ga
  ps : List Str
  nm : Option (Str × Nat)
def compHA (c : Hc) : Expr → Option HA
  | .Constant k _ _ => (match k with
    | .int i => some (.lit (.int i))
    | .bool b => some (.lit (.bl b))
    | .none => some (.lit .non)
    | .str s => some (.lit (.str s))
    | _ => none)
  | .Attribute (.Name n _) f _ => (match c.nm with
    | some (m, _) => if (n == m) && c.ps.contains f then some (.fld f) else none
    | none => none)
  | _ => none
def compHAs (c : Hc) : List Expr → Option (List HA)
  | [] => some []
  | e :: es => if noStar e then (compHA c e).bind fun a => (compHAs c es).map (a :: ·) else none
def compHX (c : Hc) : Expr → Option HX
  | .List es _ => (compHAs c es).map .lst
  | .Tuple es _ _ => (compHAs c es).map .tup
  | e => (compHA c e).map .one
def compH (c : Hc) : List Stmt → Option HS
  | [.Return none _] => some (.ret (.one (.lit .non)))
  | [.Return (some e) _] => (compHX c e).map .ret
  | [.Pass _] => some .pass
  | [.Expr (.Call (.Attribute (.Name l _) m apos) [e] [] cpos) _] => if (m == ("append" : Str)) && (apos.endLine == cpos.line) && noStar e then (c.γ.var l).bind fun j => (compHX c e).map fun x => .app j x else none
  | _ => none
def locIx (γ : Ga) (n : Str) : Option Nat := match γ.sc.names.lookup n with
  | some .local => γ.var n
  | _ => none
def compHs (γ : Ga) : List ExceptHandler → Option (List Hd)
  | [] => some []
  | .ExceptHandler (some (.Name h _)) nm suite _ :: hds => if γ.glb h then (γ.G.exc.lookup h).bind fun ps => (match nm with
      | none => (compH ⟨γ, ps, none⟩ suite).map fun x => Hd.mk h none x
      | some n => (locIx γ n).bind fun i => (compH ⟨γ, ps, some (n, i)⟩ suite).map fun x => Hd.mk h (some i) x).bind fun hd => (compHs γ hds).map (hd :: ·) else none
  | _ => none
/-! ### statements -/
section
variable (C : Comp)
def swapB (γ : Ga) (x : Str) (p : Pos) (e : Expr) : Bool := match e with
  | .ListComp _ _ sc pos => (match γ.sc.names.lookup x with
    | some .local => true
    | _ => false) && p.line == pos.line && !(sc.names.any fun (n, k) => n == x && (k == .local || k == .cell))
  | _ => false
structure CompS where
  S : Stmt → Option CS
  B : List Stmt → Option CB
def isLc : Expr → Bool
  | .ListComp _ _ _ _ => true
  | _ => false
def compAssign (γ : Ga) (t e : Expr) : Option CS := match t with
  | .Name x p2 => if γ.loc x then (γ.var x).bind fun i => if notComp e || isLc e then (C.E γ e).map (.set i) else none else none
  | .Subscript (.Name o _) k _ => if notSlice k && notComp e then (γ.var o).bind fun i => (C.E γ k).bind fun k' => (C.E γ e).map fun e' => .setIx i k' e' else none
  | .Tuple ts kk p => if notTupE e then (compG γ 4 (.Tuple ts kk p)).bind fun g => (C.E γ e).map fun e' => .setT g e' else none
  | _ => none
def compRaise (γ : Ga) (e : Expr) : Option CS := match e with
  | .Call (.Name c _) args [] _ => (γ.G.exc.lookup c).bind fun ps => if γ.glb c && (!ps.isEmpty && (args.all noStar && args.length == ps.length)) then (C.A γ args).map fun as => .rais c ps as else none
  | _ => none
def compRet (γ : Ga) (e : Expr) : Option CS := match e with
  | .Name x _ => (match γ.var x with
    | some i => some (.ret (.move i))
    | none => (C.E γ e).map .ret)
  | e => (C.E γ e).map .ret
def augOf (γ : Ga) (i : Nat) (e : Expr) (o : BOp) : Option CS := match o with
  | .add => (C.E γ e).map fun a => .aug i .add a
  | .sub => (C.E γ e).map fun a => .aug i .sub a
  | _ => none
def isDoc : Expr → Bool
  | .Constant (.str _) _ _ => true
  | _ => false
def stepS (R : CompS) (γ : Ga) : Stmt → Option CS
  | .Expr e _ => if isDoc e then some .pass else if notComp e then (C.E γ e).map .expr else none
  | .Return none _ => some .retn
  | .Return (some e) _ => compRet C γ e
  | .Assign [t] e _ => compAssign C γ t e
  | .AugAssign (.Name x _) op e _ => if γ.loc x then (γ.var x).bind fun i => (opB op).bind fun o => augOf C γ i e o else none
  | .If t a b _ => (C.T γ t).bind fun t' => (R.B a).bind fun a' => (R.B b).map fun b' => .ite t' a' b'
  | .For tg iter body [] _ => if notSet iter then (C.I γ tg iter).bind fun it => (compG γ 4 tg).bind fun g => (R.B body).map fun b => .loop it g b else none
  | .While t body [] _ => (C.T γ t).bind fun t' => (R.B body).map fun b => .whil t' b
  | .Pass _ => some .pass
  | .Break _ => some .brk
  | .Continue _ => some .cont
  | .Raise (some e) none _ => compRaise C γ e
  | .Try body hds [] [] _ => (R.B body).bind fun b => (compHs γ hds).bind fun hs => if hs.isEmpty then none else some (.tri (γ.G.exc.map (·.1)) b hs)
  | _ => none
def stepB (R : CompS) : List Stmt → Option CB
  | [] => some .nil
  | s :: r => (R.S s).bind fun s' => (R.B r).map fun r' => .cons s' r'
def compS (γ : Ga) : Nat → CompS
  | 0 => ⟨fun _ => none, fun _ => none⟩
  | k + 1 => ⟨stepS C (compS γ k) γ, stepB (compS γ k)⟩
end
/-- a def: its parameters and names -/
def compF (G : Ge) (N : List Str) (sc : Scope) (body : List Stmt) : Option CF := ((compS (comp 60) ⟨G, N, sc, none⟩ 60).B body).map fun b => ⟨N.length, b⟩
end HM

set_option Elab.async false
set_option linter.all false
set_option maxRecDepth 100000
set_option maxHeartbeats 4000000
namespace HM
open PySem PySem.Spec L2
structure CxT (Φ : Str → FnM) (γ : Ga) (X : Cx) : Prop extends CxS Φ γ X where
  stk : X.stack = X.env :: X.outer
  frm : X.env.frame = some X.env.locals
  blk : X.env.blockKind = .function
  exc : ∀ c ps, γ.G.exc.lookup c = some ps → ps ≠ [] → γ.glb c = true → ∀ pn xe, ExcOk (X.tr pn xe) c ps
  nam : ∀ c ps, γ.G.exc.lookup c = some ps → X.mg c = some (.ref (He.ga X.K c))
  exm : ∀ c d ps qs, γ.G.exc.lookup c = some ps → γ.G.exc.lookup d = some qs → PySem.W.exmOne X.K (.ref (He.ga X.K c)) (.ref (He.ga X.K d)) = some (decide (c = d))
section
variable {Φ : Str → FnM} {C : Comp} {γ : Ga} {X : Cx} {x : Str} {i : Nat} {e a b : Expr} {es : List Expr} {pos : Pos}
theorem CxT.tr (cx : CxT Φ γ X) (pn : List (Addr × Obj)) (xe : Value → Shared → Prop) : CxT Φ γ (X.tr pn xe) where
  N := cx.N
  nd := cx.nd
  sc := cx.sc
  calm := cx.calm
  un := cx.un
  fnl := cx.fnl
  glo := cx.glo
  free := cx.free
  dep := cx.dep
  rank := cx.rank
  fns := cx.fns
  room := cx.room
  exn := cx.exn
  isi := cx.isi
  stk := cx.stk
  frm := cx.frm
  blk := cx.blk
  exc := fun c ps h hn hg pn' xe' => cx.exc c ps h hn hg pn' xe'
  nam := cx.nam
  xf := cx.xf
  exm := cx.exm
/-! ### except suites -/
theorem hA_of (cx : CxT Φ γ X) {h : Str} {ps : List Str} {nm : Option (Str × Nat)} (hp : γ.G.exc.lookup h = some ps) (hn : ∀ n i, nm = some (n, i) → γ.var n = some i) {v : HA} (hc : compHA ⟨γ, ps, nm⟩ e = some v) :
    Sui X fun Y a cls d => PE Y e (tHA X.K a cls d h (nm.map (·.2)) v) := by
  cases e with
  | Constant k n p =>
    cases k with
    | int i => cases hc; exact hx_lit (fun _ => pe_int) (fun _ _ _ q => q) (fun _ _ => rfl)
    | bool i => cases hc; exact hx_lit (fun _ => pe_bl) (fun _ _ _ q => q) (fun _ _ => rfl)
    | none => cases hc; exact hx_lit (fun _ => pe_non) (fun _ _ _ q => q) (fun _ _ => rfl)
    | str i => cases hc; exact hx_lit (fun _ => pe_str) (fun _ _ _ q => q) (fun _ _ => rfl)
    | _ => cases hc
  | Attribute o f p =>
    cases o with
    | Name n np =>
      cases nm with
      | none => cases hc
      | some mi =>
        obtain ⟨m, i⟩ := mi
        have hc' : (if ((n == m) && ps.contains f) = true then some (HA.fld f) else none) = some v := hc
        by_cases hb : ((n == m) && ps.contains f) = true
        · rw [if_pos hb] at hc'
          cases hc'
          rw [Bool.and_eq_true] at hb
          have em : n = m := by simpa using hb.1
          subst em
          obtain ⟨k1, k2, k3, k4⟩ := var_of (hn n i rfl)
          obtain ⟨T, hf⟩ := cx.xf h ps hp
          exact hx_fld T (hf f hb.2) rfl (by rw [cx.N]; exact k1) (vis_of cx.toCxS k2) k3 k4 rfl
        · rw [if_neg hb] at hc'; cases hc'
    | _ => cases hc
  | _ => cases hc
theorem hAs_of (cx : CxT Φ γ X) {h : Str} {ps : List Str} {nm : Option (Str × Nat)} (hp : γ.G.exc.lookup h = some ps) (hn : ∀ n i, nm = some (n, i) → γ.var n = some i) : ∀ {es : List Expr} {vs : List HA}, compHAs ⟨γ, ps, nm⟩ es = some vs →
    Sui X fun Y a cls d => PA Y es (tHAs X.K a cls d h (nm.map (·.2)) vs)
  | [], vs, hc => by cases hc; exact hx_nil
  | e :: es, vs, hc => by
    have hc' : (if noStar e = true then (compHA ⟨γ, ps, nm⟩ e).bind fun a => (compHAs ⟨γ, ps, nm⟩ es).map (a :: ·) else none) = some vs := hc
    by_cases hs : noStar e = true
    · rw [if_pos hs] at hc'
      obtain ⟨a, h1, h2⟩ := Option.bind_eq_some_iff.mp hc'
      obtain ⟨r, h3, rfl⟩ := Option.map_eq_some_iff.mp h2
      exact hx_cons (hA_of cx hp hn h1) (hAs_of cx hp hn h3) (starEach_cons hs)
    · rw [if_neg hs] at hc'; cases hc'
theorem hX_of (cx : CxT Φ γ X) {h : Str} {ps : List Str} {nm : Option (Str × Nat)} (hp : γ.G.exc.lookup h = some ps) (hn : ∀ n i, nm = some (n, i) → γ.var n = some i) {v : HX} (hc : compHX ⟨γ, ps, nm⟩ e = some v) :
    Sui X fun Y a cls d => PE Y e (tHX X.K a cls d h (nm.map (·.2)) v) := by
  have plain : (compHA ⟨γ, ps, nm⟩ e).map HX.one = some v → Sui X fun Y a cls d => PE Y e (tHX X.K a cls d h (nm.map (·.2)) v) := fun hh => by
    obtain ⟨a, h1, rfl⟩ := Option.map_eq_some_iff.mp hh
    exact hx_one (hA_of cx hp hn h1)
  cases e with
  | List es p =>
    obtain ⟨vs, h1, rfl⟩ := Option.map_eq_some_iff.mp (show (compHAs ⟨γ, ps, nm⟩ es).map HX.lst = some v from hc)
    exact hx_lst (hAs_of cx hp hn h1)
  | Tuple es k p =>
    obtain ⟨vs, h1, rfl⟩ := Option.map_eq_some_iff.mp (show (compHAs ⟨γ, ps, nm⟩ es).map HX.tup = some v from hc)
    exact hx_tup (hAs_of cx hp hn h1)
  | _ => exact plain hc
theorem hS_of (cx : CxT Φ γ X) {h : Str} {ps : List Str} {nm : Option (Str × Nat)} (hp : γ.G.exc.lookup h = some ps) (hn : ∀ n i, nm = some (n, i) → γ.var n = some i) {st : List Stmt} {v : HS} (hc : compH ⟨γ, ps, nm⟩ st = some v) :
    (∃ b₀ r, st = b₀ :: r) ∧ Sui X fun Y a cls d => PSs Y st (tHS X.K a cls d h (nm.map (·.2)) v) := by
  unfold compH at hc
  split at hc
  · cases hc
    exact ⟨⟨_, _, rfl⟩, hs_retN⟩
  · rename_i e p
    obtain ⟨y, h1, rfl⟩ := Option.map_eq_some_iff.mp hc
    exact ⟨⟨_, _, rfl⟩, hs_ret (hX_of cx hp hn h1)⟩
  · cases hc
    exact ⟨⟨_, _, rfl⟩, hs_pass⟩
  · rename_i l lp m apos e cpos p2
    split at hc
    · rename_i hb
      rw [Bool.and_eq_true, Bool.and_eq_true] at hb
      obtain ⟨⟨h1, h2⟩, h3⟩ := hb
      have em : m = "append" := by simpa using h1
      subst em
      obtain ⟨j, hj, hc⟩ := Option.bind_eq_some_iff.mp hc
      obtain ⟨y, h4, rfl⟩ := Option.map_eq_some_iff.mp hc
      obtain ⟨k1, k2, k3, k4⟩ := var_of hj
      exact ⟨⟨_, _, rfl⟩, hs_app (hX_of cx hp hn h4) (by rw [cx.N]; exact k1) (vis_of cx.toCxS k2) k3 k4 rfl (few_ok (by simp [h3]) (by simp)) h2 (starEach_cons h3) rfl⟩
    · cases hc
  · cases hc
theorem locIx_of (cx : CxT Φ γ X) {n : Str} (h : locIx γ n = some i) : γ.var n = some i ∧ X.env.kindOf n = some .local := by
  unfold locIx at h
  split at h
  · rename_i e
    exact ⟨h, by show X.env.scope.names.lookup n = _; rw [cx.sc]; exact e⟩
  · cases h
theorem hs_of (cx : CxT Φ γ X) : ∀ {hds : List ExceptHandler} {l : List Hd}, compHs γ hds = some l → HdsS X hds l ∧ ∀ h ∈ l, ∃ ps, γ.G.exc.lookup h.cls = some ps
  | [], l, hc => by cases hc; exact ⟨.nil, fun h hm => by cases hm⟩
  | .ExceptHandler ty nm suite p :: hds, l, hc => by
    cases ty with
    | none => cases hc
    | some te =>
      cases te with
      | Name h hp =>
        have hc' : (if γ.glb h = true then (γ.G.exc.lookup h).bind fun ps => (match nm with
          | none => (compH ⟨γ, ps, none⟩ suite).map fun x => Hd.mk h none x
          | some n => (locIx γ n).bind fun i => (compH ⟨γ, ps, some (n, i)⟩ suite).map fun x => Hd.mk h (some i) x).bind fun hd => (compHs γ hds).map (hd :: ·) else none) = some l := hc
        by_cases hg : γ.glb h = true
        · rw [if_pos hg] at hc'
          obtain ⟨ps, h1, hc'⟩ := Option.bind_eq_some_iff.mp hc'
          obtain ⟨hd, h2, hc'⟩ := Option.bind_eq_some_iff.mp hc'
          obtain ⟨r, h3, rfl⟩ := Option.map_eq_some_iff.mp hc'
          obtain ⟨q1, q2⟩ := hs_of cx h3
          obtain ⟨g1, g2, g3⟩ := glb_of cx.toCxS hg
          have nm' : Names X h (.ref (He.ga X.K h)) := ⟨g1, g2, .inl (cx.nam h ps h1)⟩
          cases nm with
          | none =>
            obtain ⟨y, h4, rfl⟩ := Option.map_eq_some_iff.mp h2
            obtain ⟨⟨b0, rest, rfl⟩, hsu⟩ := hS_of (nm := none) cx h1 (fun _ _ z => nomatch z) h4
            refine ⟨.cons nm' hsu q1, fun h' hm => ?_⟩
            rcases List.mem_cons.mp hm with e | e
            · rw [e]; exact ⟨ps, h1⟩
            · exact q2 h' e
          | some n =>
            obtain ⟨j, h5, h2⟩ := Option.bind_eq_some_iff.mp h2
            obtain ⟨y, h4, rfl⟩ := Option.map_eq_some_iff.mp h2
            obtain ⟨hv, hl⟩ := locIx_of cx h5
            obtain ⟨⟨b0, rest, rfl⟩, hsu⟩ := hS_of cx h1 (fun n' i' z => by cases z; exact hv) h4
            obtain ⟨k1, _, _, _⟩ := var_of hv
            refine ⟨.consAs nm' (by rw [cx.N]; exact k1) hl hsu q1, fun h' hm => ?_⟩
            rcases List.mem_cons.mp hm with e | e
            · rw [e]; exact ⟨ps, h1⟩
            · exact q2 h' e
        · rw [if_neg hg] at hc'; cases hc'
      | _ => cases hc
/-! ### statements -/
theorem notComp_swap (h : notComp e = true) (t : Option Expr) (n : Nat) (env : Env) : swapsWith e t n env = pure false := by
  cases e <;> first | rfl | exact nomatch h
theorem other_swap {t : Expr} (h : ∀ x p, t ≠ .Name x p) (n : Nat) (env : Env) : swapsWith e (some t) n env = pure false := by
  cases e <;> cases t <;> first | rfl | exact absurd rfl (h _ _)
theorem swapped_sub {o k : Expr} {p : Pos} {env : Env} : swappedStores [.Subscript o k p] e env = pure none := by
  cases e <;> rfl
theorem swapped_tup {ts : List Expr} {k : Nat} {p : Pos} {env : Env} (h : notTupE e = true) : swappedStores [.Tuple ts k p] e env = pure none := by
  cases e <;> first | rfl | exact nomatch h
theorem s_setT {tg : Expr} (hns : noStar tg = true) {is : List Nat} {mt : D → Mem → Option Mem} {m : Mem → Res D} (hg : SGt X tg is mt) (he : SV X e m) (h1 : swapsWithSole [tg] e pos.line X.env = pure false) (h2 : swappedStores [tg] e X.env = pure none) : SS X (.Assign [tg] e pos) (mSetT mt m) := fun W tk hp =>
  PS.imp (ps_asg (he W tk) hg h1 h2 (by rw [assignEach_cons hns]; rfl)) fun Dn σ H t => tO_bind t fun v H1 d S1 w1 rel q p => by
    cases em : mt d S1 with
    | none => rw [em] at p; exact p.elim
    | some S2 =>
      rw [em] at p
      exact ⟨w1, S1, d, S2, rel, q, em, fun w' H' σ' ex rl _ => p w' H' σ' ex rl⟩
theorem s_aug {p2 : Pos} {op : Operator} {o : BOp} {f : Int → Int → Int} {m : Mem → Res D} (hN : X.N.Nodup) (hi : X.N[i]? = some x) (hx : L2.Loc X.env.scope x) (he : SV X e m) (ho : PIp X op (ipI f)) (hf : X.fn x = true ∨ X.env.scope.names.lookup x = some .local) (hfo : ∀ a b, augD o (.int a) (.int b) = some (.int (f a b))) :
    SS X (.AugAssign (.Name x p2) op e pos) (mAug i o m) := fun W tk hp =>
  PS.imp (ps_aug hN hi hx (he W tk) ho hf) fun Dn σ H t => by
    obtain ⟨w, S, rel, p⟩ := t
    unfold mAug at p
    cases es : S.env[i]? with
    | none => rw [es] at p; exact p.elim
    | some sl =>
      rw [es] at p
      cases sl with
      | none => exact p.elim
      | own c => exact p.elim
      | val a =>
        obtain ⟨ov, h1, v, rfl, h2⟩ := rel.slots i _ es
        have p' : postO X.K w H W Dn ((m S).out fun d S1 => (match augD o a d with
          | some r => if i < S1.env.length then .nx (setS i (.val r) S1) else .bad
          | none => .bad)) := p
        refine ⟨v, h1, tO_of rel p' fun y H1 d S1 w1 rel1 q1 ex1 p1 => ?_⟩
        cases a with
        | int a =>
          cases d with
          | int b =>
            rw [hfo a b] at p1
            have p2 : postO X.K w1 H1 W Dn (if i < S1.env.length then .nx (setS i (.val (.int (f a b))) S1) else .bad) := p1
            by_cases hl : i < S1.env.length
            · rw [if_pos hl] at p2
              refine ⟨a, b, h2, q1, ?_⟩
              obtain ⟨w', ex, rel'⟩ := rel1.set (r := .val (.int (f a b))) (v := .int (f a b)) hl rfl
              exact p2 w' H1 _ ex rel'
            · rw [if_neg hl] at p2; exact p2.elim
          | _ => exact (show False from p1).elim
        | _ => exact (show False from p1).elim
structure SndS (Φ : Str → FnM) (n : Nat) (γ : Ga) (R : CompS) : Prop where
  S : ∀ st c, R.S st = some c → ∀ X, CxT Φ γ X → SS X st (evS Φ n c)
  B : ∀ st c, R.B st = some c → ∀ X, CxT Φ γ X → SSs X st (evB Φ n c)
theorem assign_of {n : Nat} (s : Snd Φ C) (cx : CxT Φ γ X) {t : Expr} {c : CS} (hlc : ∃ C', C = ⟨stepE C', stepT C', stepA C', stepM C', stepI C'⟩ ∧ Snd Φ C') (h : compAssign C γ t e = some c) : SS X (.Assign [t] e pos) (evS Φ n c) := by
  have nd : X.N.Nodup := by rw [cx.N]; exact cx.nd
  cases t with
  | Name x p2 =>
    have h' : (if γ.loc x = true then (γ.var x).bind fun i => if (notComp e || isLc e) = true then (C.E γ e).map (CS.set i) else none else none) = some c := h
    by_cases hl : γ.loc x = true
    · rw [if_pos hl] at h'
      obtain ⟨i, hi, h'⟩ := Option.bind_eq_some_iff.mp h'
      obtain ⟨k1, k2, k3, k4⟩ := var_of hi
      have L := loc_of cx.toCxS hl
      have hf := cx.fnl x hl
      have hN : X.N[i]? = some x := by rw [cx.N]; exact k1
      by_cases hb : (notComp e || isLc e) = true
      · rw [if_pos hb] at h'
        obtain ⟨ce, hce, rfl⟩ := Option.map_eq_some_iff.mp h'
        by_cases hn : notComp e = true
        · exact s_set nd hN L (s.E γ e ce hce X cx.toCxS).1 (notComp_swap hn _ _ _) hf
        · cases e with
          | ListComp elt gens scope p =>
            obtain ⟨C', rfl, s'⟩ := hlc
            obtain ⟨h1, tg, iter, ifs, vs, it, g, t, ce', rfl, e2, hi2, ok, hv, hg, ht, he, hns⟩ := se_lcC s' (pos := p) (show stepLc C' γ elt gens scope = some ce from hce) cx.toCxS
            have sw : swapsWith (.ListComp elt [⟨tg, iter, ifs, 0⟩] scope p) (some (.Name x p2)) pos.line X.env = pure (X.env.blockKind == .function && X.env.kindOf x == some .local && p2.line == p.line && !(scope.names.any fun (n, k) => n == x && (k == .local || k == .cell))) := rfl
            cases hsw : (X.env.blockKind == .function && X.env.kindOf x == some .local && p2.line == p.line && !(scope.names.any fun (n, k) => n == x && (k == .local || k == .cell))) with
            | false =>
              rw [hsw] at sw
              exact s_set nd hN L h1 sw hf
            | true =>
              rw [hsw] at sw
              have hyl : X.env.scope.names.lookup x = some .local := by
                simp only [Bool.and_eq_true] at hsw
                have := hsw.1.1.2
                exact beq_iff_eq.mp this
              rw [e2]
              exact s_setLcI cx.calm nd hN hyl sw hi2.1 hi2.2 ok hv hg ht he (fun v => notSet_folded hns v)
          | _ => first | exact absurd rfl hn | exact nomatch hb
      · rw [if_neg hb] at h'; cases h'
    · rw [if_neg hl] at h'; cases h'
  | Subscript o k p2 =>
    cases o with
    | Name o op =>
      have h' : (if (notSlice k && notComp e) = true then (γ.var o).bind fun i => (C.E γ k).bind fun k' => (C.E γ e).map fun e' => CS.setIx i k' e' else none) = some c := h
      by_cases hb : (notSlice k && notComp e) = true
      · rw [if_pos hb] at h'
        rw [Bool.and_eq_true] at hb
        obtain ⟨i, hi, h'⟩ := Option.bind_eq_some_iff.mp h'
        obtain ⟨k', hk, h'⟩ := Option.bind_eq_some_iff.mp h'
        obtain ⟨e', he, rfl⟩ := Option.map_eq_some_iff.mp h'
        exact s_setIx (set_any (by have := cx.toCxS.un; omega)) se_setL (pe_v cx.toCxS hi) (s.v hk cx.toCxS) (s.v he cx.toCxS) hb.1 (show swapsWith e (some (.Subscript (.Name o op) k p2)) pos.line X.env = pure false from other_swap (fun _ _ z => by cases z) _ _) swapped_sub
      · rw [if_neg hb] at h'; cases h'
    | _ => cases h
  | Tuple ts kk p =>
    have h' : (if notTupE e = true then (compG γ 4 (.Tuple ts kk p)).bind fun g => (C.E γ e).map fun e' => CS.setT g e' else none) = some c := h
    by_cases hb : notTupE e = true
    · rw [if_pos hb] at h'
      obtain ⟨g, hg, h'⟩ := Option.bind_eq_some_iff.mp h'
      obtain ⟨e', he, rfl⟩ := Option.map_eq_some_iff.mp h'
      exact s_setT rfl (sg_of 4 hg cx.toCxS (fun j hj => hj)) (s.v he cx.toCxS) (show swapsWith e (some (.Tuple ts kk p)) pos.line X.env = pure false from other_swap (fun _ _ z => by cases z) _ _) (swapped_tup hb)
    · rw [if_neg hb] at h'; cases h'
  | _ => cases h
theorem raise_of {n : Nat} (s : Snd Φ C) (cx : CxT Φ γ X) {c : CS} (h : compRaise C γ e = some c) : SS X (.Raise (some e) none pos) (evS Φ n c) := by
  unfold compRaise at h
  split at h
  · rename_i cn cp args cpos
    obtain ⟨ps, hps, h⟩ := Option.bind_eq_some_iff.mp h
    by_cases hb : (γ.glb cn && (!ps.isEmpty && (args.all noStar && args.length == ps.length))) = true
    · rw [if_pos hb] at h
      rw [Bool.and_eq_true, Bool.and_eq_true, Bool.and_eq_true] at hb
      obtain ⟨as, ha, rfl⟩ := Option.map_eq_some_iff.mp h
      have ok : ExcOk X cn ps := cx.exc cn ps hps (fun z => by rw [z] at hb; exact nomatch hb.2.1) hb.1 X.pn X.xe
      exact s_raise cx.calm ok hb.2.2.1 (by simpa using hb.2.2.2) (s.A _ _ _ ha X cx.toCxS)
    · rw [if_neg hb] at h; cases h
  · cases h
theorem ret_of {n : Nat} (s : Snd Φ C) (cx : CxT Φ γ X) {c : CS} (h : compRet C γ e = some c) : SS X (.Return (some e) pos) (evS Φ n c) := by
  have plain : (C.E γ e).map CS.ret = some c → SS X (.Return (some e) pos) (evS Φ n c) := fun hh => by
    obtain ⟨a', h2, rfl⟩ := Option.map_eq_some_iff.mp hh
    exact s_ret (s.E γ e a' h2 X cx.toCxS).1
  cases e with
  | Name x p =>
    have h' : (match γ.var x with
      | some i => some (CS.ret (.move i))
      | none => (C.E γ (.Name x p)).map CS.ret) = some c := h
    cases ev : γ.var x with
    | none => rw [ev] at h'; exact plain h'
    | some i =>
      rw [ev] at h'
      cases h'
      obtain ⟨k1, k2, k3, k4⟩ := var_of ev
      exact s_ret (se_move (by rw [cx.N]; exact k1) (vis_of cx.toCxS k2) k3 k4)
  | _ => exact plain h
theorem aug_of {n : Nat} (s : Snd Φ C) (cx : CxT Φ γ X) {p2 : Pos} {op : Operator} {c : CS} (h : (if γ.loc x = true then (γ.var x).bind fun i => (opB op).bind fun o => augOf C γ i e o else none) = some c) : SS X (.AugAssign (.Name x p2) op e pos) (evS Φ n c) := by
  by_cases hl : γ.loc x = true
  · rw [if_pos hl] at h
    obtain ⟨i, hi, h⟩ := Option.bind_eq_some_iff.mp h
    obtain ⟨o, ho, h⟩ := Option.bind_eq_some_iff.mp h
    obtain ⟨k1, k2, k3, k4⟩ := var_of hi
    have L := loc_of cx.toCxS hl
    cases op with
    | Add =>
      cases ho
      obtain ⟨a', h2, rfl⟩ := Option.map_eq_some_iff.mp h
      exact s_aug (by rw [cx.N]; exact cx.nd) (by rw [cx.N]; exact k1) L (s.v h2 cx.toCxS) ip_add (cx.fnl x hl) (fun _ _ => rfl)
    | Sub =>
      cases ho
      obtain ⟨a', h2, rfl⟩ := Option.map_eq_some_iff.mp h
      exact s_aug (by rw [cx.N]; exact cx.nd) (by rw [cx.N]; exact k1) L (s.v h2 cx.toCxS) ip_sub (cx.fnl x hl) (fun _ _ => rfl)
    | _ => cases ho <;> cases h
  · rw [if_neg hl] at h; cases h
theorem snd_S {n : Nat} {R : CompS} (s : Snd Φ C) (hlc : ∃ C', C = ⟨stepE C', stepT C', stepA C', stepM C', stepI C'⟩ ∧ Snd Φ C') (r : SndS Φ n γ R) (st : Stmt) (c : CS) (h : stepS C R γ st = some c) (cx : CxT Φ γ X) : SS X st (evS Φ n c) := by
  unfold stepS at h
  split at h
  · rename_i e p
    by_cases hd : isDoc e = true
    · rw [if_pos hd] at h
      cases h
      cases e with
      | Constant k j p =>
        cases k with
        | str x => exact s_doc
        | _ => exact nomatch hd
      | _ => exact nomatch hd
    · rw [if_neg hd] at h
      by_cases hn : notComp e = true
      · rw [if_pos hn] at h
        obtain ⟨a', h2, rfl⟩ := Option.map_eq_some_iff.mp h
        exact s_expr (s.E γ e a' h2 X cx.toCxS).1 (notComp_swap hn _ _ _)
      · rw [if_neg hn] at h; cases h
  · cases h; exact s_retN
  · exact ret_of s cx h
  · exact assign_of s cx hlc h
  · exact aug_of s cx h
  · obtain ⟨t', h1, h⟩ := Option.bind_eq_some_iff.mp h
    obtain ⟨a', h2, h⟩ := Option.bind_eq_some_iff.mp h
    obtain ⟨b', h3, rfl⟩ := Option.map_eq_some_iff.mp h
    exact s_if (s.T _ _ _ h1 X cx.toCxS) (r.B _ _ h2 X cx) (r.B _ _ h3 X cx)
  · rename_i tg iter body p
    by_cases hn : notSet iter = true
    · rw [if_pos hn] at h
      obtain ⟨it, h1, h⟩ := Option.bind_eq_some_iff.mp h
      obtain ⟨g, h2, h⟩ := Option.bind_eq_some_iff.mp h
      obtain ⟨b', h3, rfl⟩ := Option.map_eq_some_iff.mp h
      exact s_loop cx.calm (s.I _ _ _ _ h1 X cx.toCxS).1 (s.I _ _ _ _ h1 X cx.toCxS).2 (sg_of 4 h2 cx.toCxS (fun j hj => hj)) (r.B _ _ h3 X cx) (fun v => notSet_folded hn v)
    · rw [if_neg hn] at h; cases h
  · obtain ⟨t', h1, h⟩ := Option.bind_eq_some_iff.mp h
    obtain ⟨b', h3, rfl⟩ := Option.map_eq_some_iff.mp h
    exact s_while n (s.T _ _ _ h1 X cx.toCxS) (r.B _ _ h3 X cx)
  · cases h; exact s_pass
  · cases h; exact s_break
  · cases h; exact s_cont
  · exact raise_of s cx h
  · rename_i body hds p
    obtain ⟨b, h1, h⟩ := Option.bind_eq_some_iff.mp h
    obtain ⟨hs, h2, h⟩ := Option.bind_eq_some_iff.mp h
    by_cases he : hs.isEmpty = true
    · rw [if_pos he] at h; cases h
    · rw [if_neg he] at h
      cases h
      obtain ⟨q1, q2⟩ := hs_of cx h2
      cases hds with
      | nil =>
        cases h2
        exact absurd rfl he
      | cons h0 hds =>
        refine s_try cx.stk cx.frm (by rw [cx.N]; exact cx.nd) (fun pn xe => r.B _ _ h1 _ (cx.tr pn xe)) q1 fun c hc h hm => ?_
        obtain ⟨ps, hp⟩ := q2 h hm
        have key : ∀ {l : List (Str × List Str)}, c ∈ l.map (·.1) → ∃ qs, l.lookup c = some qs := by
          intro l
          induction l with
          | nil => intro q; cases q
          | cons p l ih =>
            intro q
            obtain ⟨k, v⟩ := p
            by_cases e : c = k
            · exact ⟨v, by simp [List.lookup, e]⟩
            · have e' : (c == k) = false := by simpa using e
              obtain ⟨qs, hq⟩ := ih ((List.mem_cons.mp q).resolve_left e)
              exact ⟨qs, by simpa [List.lookup, e'] using hq⟩
        obtain ⟨qs, hq⟩ := key hc
        exact cx.exm c h.cls qs ps hq hp
  · cases h
theorem snd_B {n : Nat} {R : CompS} (r : SndS Φ n γ R) (st : List Stmt) (c : CB) (h : stepB R st = some c) (cx : CxT Φ γ X) : SSs X st (evB Φ n c) := by
  cases st with
  | nil => cases h; exact ss_nil
  | cons s rest =>
    obtain ⟨s', h1, h⟩ := Option.bind_eq_some_iff.mp (show (R.S s).bind (fun s' => (R.B rest).map fun r' => CB.cons s' r') = some c from h)
    obtain ⟨r', h2, rfl⟩ := Option.map_eq_some_iff.mp h
    exact ss_cons (r.S _ _ h1 X cx) (r.B _ _ h2 X cx)
theorem snd_compS {n j : Nat} : ∀ k, SndS Φ n γ (compS (comp (j + 1)) γ k)
  | 0 => ⟨(fun _ _ h => nomatch h), (fun _ _ h => nomatch h)⟩
  | k + 1 =>
    have r := snd_compS k
    ⟨fun st c h X cx => snd_S (snd_comp (j + 1)) ⟨comp j, rfl, snd_comp j⟩ r st c h cx, fun st c h X cx => snd_B r st c h cx⟩
end
end HM

set_option Elab.async false
set_option linter.all false
set_option maxRecDepth 100000
set_option maxHeartbeats 4000000
namespace HM
open PySem PySem.Spec L2
/-- a def of the text -/
structure PDef where
  x : Str
  params : Arguments
  body : List Stmt
  sc : Scope
  N : List Str
  ps : List Str
  ms : List Bool
  cf : CF
def PDef.dd (d : PDef) : He.DefD := ⟨(d.x, none), d.x, d.x, d.params, d.body, d.sc, [], []⟩
structure PDef.Ok (G : Ge) (d : PDef) : Prop where
  comp : compF G d.N d.sc d.body = some d.cf
  scope : FnScope d.N d.ps d.sc
  bind : ∀ (kV doc pm : Value) (an : Option Addr) (cdv ct : Value) (us : List Value), us.length = d.ps.length → bindArgs (PySem.W.fnOf d.x d.x d.params d.body d.sc .none kV doc pm an cdv ct) ⟨us, []⟩ = pure (d.ps.zip us)
  ms : d.ms.length = d.ps.length
/-- what is known of the module behind the top -/
structure Env1 (P : Program) (w : World) (K : PySem.W.Frag) (mg : Str → Option Value) (base : Heap) (G : Ge) : Prop where
  glo : ∀ x d, G.glo.lookup x = some d → ∃ v u, mg x = some u ∧ RelV v u ∧ ∀ w H, RelD K w H d v
  free : ∀ x, G.free.contains x = true → mg x = none
  rank : ∀ x, G.ranks.contains x = true → ∃ a, mg x = some (.ref a) ∧ RankFn K a
  nam : ∀ c ps, G.exc.lookup c = some ps → mg c = some (.ref (He.ga K c))
  xf : ∀ c ps, G.exc.lookup c = some ps → XfC K (He.ga K c) ∧ ∀ f, ps.contains f = true → PySem.W.findIn K (.ref (He.ga K c)) f = some none
  exm : ∀ c d ps qs, G.exc.lookup c = some ps → G.exc.lookup d = some qs → PySem.W.exmOne K (.ref (He.ga K c)) (.ref (He.ga K d)) = some (decide (c = d))
  exn : ∀ c ps, G.exc.lookup c = some ps → ExnF P w K mg base c ps
  isi : ∀ t ans, G.isi.lookup t = some ans → IsiF K mg t ans
  exc : ∀ X : Cx, X.prog = P → X.w = w → X.K = K → X.mg = mg → X.base = base → X.calm = true → Room 2 X.A → ∀ c ps, G.exc.lookup c = some ps → ps ≠ [] → Gl X c → (c == ("__debug__" : Str)) = false → ExcOk X c ps
def tblOf (D : List PDef) : List (Str × CF) := D.map fun d => (d.x, d.cf)
section
variable {P : Program} {w : World} {K : PySem.W.Frag} {mg : Str → Option Value} {base : Heap} {G : Ge}
theorem Rel.drop {w : Wd} {H : Hp} {σ : L2.St} {S : Mem} (rel : Rel K w H σ S) : Rel K w H [] (mem0 S.st) := ⟨rfl, (fun i sl h => by cases h), rel.cells, rel.live, rel.trk⟩
theorem Rel.start {w : Wd} {H : Hp} {st : List D} (rel : Rel K w H [] (mem0 st)) {N : List Str} {ds : List D} {vs : List V} (hr : RelDs K w H ds vs) : Rel K w H (start N vs) ⟨ds.map .val ++ List.replicate (N.length - ds.length) .none, st⟩ where
  len := by
    have := hr.length
    simp [L2.start, this]
  slots := fun i sl h => by
    have hl := hr.length
    have h' : (ds.map Slot.val ++ List.replicate (N.length - ds.length) .none)[i]? = some sl := h
    show ∃ ov, (vs.map some ++ List.replicate (N.length - vs.length) none)[i]? = some ov ∧ _
    by_cases hi : i < ds.length
    · rw [List.getElem?_append_left (by simpa using hi)] at h'
      rw [List.getElem?_map] at h'
      obtain ⟨d, hd, rfl⟩ := Option.map_eq_some_iff.mp h'
      obtain ⟨v, h1, h2⟩ := hr.get hd
      refine ⟨some v, ?_, v, rfl, h2⟩
      rw [List.getElem?_append_left (by simp; omega), List.getElem?_map, h1]
      rfl
    · rw [List.getElem?_append_right (by simp; omega)] at h'
      rw [List.getElem?_append_right (by simp; omega)]
      simp at h'
      obtain ⟨h1, h2⟩ := List.getElem?_eq_some_iff.mp h'
      simp at h1 h2
      subst h2
      refine ⟨none, ?_, trivial⟩
      rw [List.getElem?_replicate]
      rw [if_pos (by simp; omega)]
  cells := rel.cells
  live := rel.live
  trk := rel.trk
theorem glb_gl {X : Cx} {γ : Ga} {x : Str} (hsc : X.env.scope = γ.sc) (h : γ.glb x = true) : Gl X x ∧ (x == ("__debug__" : Str)) = false := by
  unfold Ga.glb at h
  rw [Bool.and_eq_true, Bool.and_eq_true, Bool.not_eq_true'] at h
  obtain ⟨⟨h1, h2⟩, h3⟩ := h
  refine ⟨?_, (plain_of h2).1⟩
  show X.env.scope.names.lookup x = _
  rw [hsc]
  split at h1
  · rename_i e; exact e
  · cases h1
theorem cxt_of {d : PDef} (E1 : Env1 P w K mg base G) {k : Nat} {f : Addr} {cdv : Value} {A : Around} {outer : List Env} {s : Shared} {H : Hp} {E : XK} {Φ : Str → FnM} (ok : d.Ok G) (hr : Room k (A.deeper (PyProof.Rows.envOfC d.x d.sc s.heap.objs.size f cdv))) (hk : 2 ≤ k)
    (hf : ∀ x ms, G.fns.lookup x = some ms → FnHas Φ (cxOf (L2.CX P w) P w K mg base d.N d.x d.sc f cdv A outer s H E) x ms.length) :
    CxT Φ ⟨G, d.N, d.sc, none⟩ (cxOf (L2.CX P w) P w K mg base d.N d.x d.sc f cdv A outer s H E) where
  N := rfl
  nd := ok.scope.nd
  sc := rfl
  calm := rfl
  un := by have := hr.un; show (A.deeper (PyProof.Rows.envOfC d.x d.sc s.heap.objs.size f cdv)).units + 200 < cLine; omega
  fnl := fun x h => .inl rfl
  glo := E1.glo
  free := E1.free
  dep := hr.depth
  rank := E1.rank
  fns := hf
  room := hr.mono hk
  exn := E1.exn
  isi := E1.isi
  stk := rfl
  frm := rfl
  blk := by
    show (if (d.sc.kind).isAnnotationScope then ScopeKind.function else d.sc.kind) = _
    rw [ok.scope.kind]
    rfl
  exc := fun c ps h hn hg pn xe => by
    obtain ⟨g1, g2⟩ := glb_gl (X := cxOf (L2.CX P w) P w K mg base d.N d.x d.sc f cdv A outer s H E) rfl hg
    exact E1.exc ((cxOf (L2.CX P w) P w K mg base d.N d.x d.sc f cdv A outer s H E).tr pn xe) rfl rfl rfl rfl rfl rfl (hr.mono hk) c ps h hn g1 g2
  nam := E1.nam
  xf := E1.xf
  exm := E1.exm
structure Txt (K : PySem.W.Frag) (mg : Str → Option Value) (G : Ge) (Ds : List PDef) : Prop where
  ok : ∀ d ∈ Ds, d.Ok G
  fd : ∀ d ∈ Ds, ∃ fd, FunD K d.x d.x d.params d.body d.sc [] [] (He.ga K d.x) fd
  mg : ∀ d ∈ Ds, mg d.x = some (.ref (He.ga K d.x))
  fns : ∀ x ms, G.fns.lookup x = some ms → ∃ d ∈ Ds, d.x = x ∧ d.ms = ms
  tbl : ∀ d ∈ Ds, (tblOf Ds).lookup d.x = some d.cf
theorem defs_ok (E1 : Env1 P w K mg base G) {Ds : List PDef} (T : Txt K mg G Ds) : ∀ (n : Nat) (d : PDef), d ∈ Ds → ∀ fd, FunD K d.x d.x d.params d.body d.sc [] [] (He.ga K d.x) fd →
    FnOk P w K mg base (L2.CX P w) (n + 4) (He.ga K d.x) fd d.ps (spM K d.ps.length (fnsOf (tblOf Ds) n d.x))
  | 0, d, hd, fd, F => ⟨fun vs H Q E h => spM_len h, fun A outer s H args us vs Q E _ _ _ _ h => by
    obtain ⟨_, _, _, _, _, _, z⟩ := h
    exact z.elim⟩
  | n + 1, d, hd, fd, F => by
    have ok := T.ok d hd
    obtain ⟨b, hb, hcf⟩ : ∃ b, (compS (comp 60) ⟨G, d.N, d.sc, none⟩ 60).B d.body = some b ∧ d.cf = ⟨d.N.length, b⟩ := by
      obtain ⟨b, h1, h2⟩ := Option.map_eq_some_iff.mp (show ((compS (comp 60) ⟨G, d.N, d.sc, none⟩ 60).B d.body).map (fun b => CF.mk d.N.length b) = some d.cf from ok.comp)
      exact ⟨b, h1, h2.symm⟩
    refine FunD.ok (k := n + 4) F ok.scope (fun vs H Q E h => spM_len h) fun cdv A outer s H vs Q E hr hsp => ?_
    have cx : CxT (fnsOf (tblOf Ds) n) ⟨G, d.N, d.sc, none⟩ (cxOf (L2.CX P w) P w K mg base d.N d.x d.sc (He.ga K d.x) cdv A outer s H E) := by
      refine cxt_of E1 (k := n + 4) ok hr (by omega) fun x ms h => ?_
      obtain ⟨d', hd', rfl, rfl⟩ := T.fns x ms h
      obtain ⟨fd', F'⟩ := T.fd d' hd'
      have q := defs_ok E1 T n d' hd' fd' F'
      rw [(T.ok d' hd').ms]
      exact ⟨n + 4, _, fd', d'.ps, q, hr, T.mg d' hd', F'.kp, F'.bindsN (T.ok d' hd').bind⟩
    have tk : Takes (cxOf (L2.CX P w) P w K mg base d.N d.x d.sc (He.ga K d.x) cdv A outer s H E) (fun cls dx _ H' => E cls dx H') := takes_of rfl rfl rfl rfl
    have hp : PassesOwn (model P w) (A.deeper (PyProof.Rows.envOfC d.x d.sc s.heap.objs.size (He.ga K d.x) cdv)) (PyProof.Rows.envOfC d.x d.sc s.heap.objs.size (He.ga K d.x) cdv) (cxOf (L2.CX P w) P w K mg base d.N d.x d.sc (He.ga K d.x) cdv A outer s H E).xe :=
      passes_of (X := cxOf (L2.CX P w) P w K mg base d.N d.x d.sc (He.ga K d.x) cdv A outer s H E) rfl
    refine ⟨_, (snd_compS (Φ := fnsOf (tblOf Ds) n) (γ := ⟨G, d.N, d.sc, none⟩) (n := n) (j := 59) 60).B d.body b hb _ cx _ tk hp, ?_⟩
    obtain ⟨w0, st, ds, rel, hr0, hl, post⟩ := hsp
    refine ⟨w0, ⟨ds.map Slot.val ++ List.replicate (d.N.length - ds.length) Slot.none, st⟩, rel.start hr0, ?_⟩
    have e1 : fnsOf (tblOf Ds) (n + 1) d.x = evF (fnsOf (tblOf Ds) n) n d.cf := by
      show (match (tblOf Ds).lookup d.x with | some f => evF (fnsOf (tblOf Ds) n) n f | none => fun _ _ => .bad) = _
      rw [T.tbl d hd]
    rw [e1, hcf] at post
    have post' : postF K w0 H Q E (match evB (fnsOf (tblOf Ds) n) n b ⟨ds.map .val ++ List.replicate (d.N.length - ds.length) .none, st⟩ with
      | .rt r m => .ok r (mem0 m.st)
      | .nx m => .ok (.val .non) (mem0 m.st)
      | .exc c fs m => .exc c fs (mem0 m.st)
      | _ => .bad) := post
    show postO K w0 H _ _ (evB (fnsOf (tblOf Ds) n) n b ⟨ds.map .val ++ List.replicate (d.N.length - ds.length) .none, st⟩)
    cases eb : evB (fnsOf (tblOf Ds) n) n b ⟨ds.map .val ++ List.replicate (d.N.length - ds.length) .none, st⟩ with
    | rt r m =>
      rw [eb] at post'
      exact fun w' H' σ' v ex rl q => post' w' H' v ex rl.drop q
    | nx m =>
      rw [eb] at post'
      exact fun w' H' σ' ex rl => post' w' H' .non ex rl.drop rfl
    | exc c fs m =>
      rw [eb] at post'
      exact fun w' H' σ' dx ex rl q => post' w' H' dx ex rl.drop q
    | bk m => rw [eb] at post'; exact post'.elim
    | ct m => rw [eb] at post'; exact post'.elim
    | bad => rw [eb] at post'; exact post'.elim
/-- the script as it comes -/
theorem sp_script {H : Hp} {a : Addr} {ns : List Int} {f : FnM} {m : Mem} (hs : SqL K H a (ns.map V.int)) (h : f [.scr ns] [] = .ok (.val (.bl true)) m) (E : XK) : spM K 1 f [.ref a] H (fun v _ => v = .bl true) E := by
  let w0 : Wd := ⟨fun b => if b = a ∧ H a ≠ none then some .frz else none, fun _ => 0⟩
  have rel : Rel K w0 H [] (mem0 []) := by
    refine ⟨rfl, (fun i sl h => by cases h), (fun n c h => by cases h), (fun n h => ?_), fun b r h => ?_⟩
    · have h' : (if w0.addr n = a ∧ H a ≠ none then some Role.frz else none) = some (.cell n) := h
      split at h' <;> cases h'
    · have h' : (if b = a ∧ H a ≠ none then some Role.frz else none) = some r := h
      split at h'
      · rename_i hc
        rw [hc.1]
        exact hc.2
      · cases h'
  have hd : RelD K w0 H (.scr ns) (.ref a) := by
    refine ⟨a, rfl, ?_⟩
    rcases hs with hs | hs
    · refine .inl ⟨if_pos ⟨rfl, ?_⟩, hs⟩
      rcases hs with hs | ⟨o, hs⟩ <;> rw [hs] <;> simp
    · exact .inr hs
  refine ⟨w0, [], [.scr ns], rel, .one hd, rfl, ?_⟩
  rw [h]
  exact fun w' H' v _ _ q => q
end
end HM

set_option Elab.async false
set_option linter.all false
set_option maxRecDepth 100000
set_option maxHeartbeats 4000000
/-! super().__init__(x) in a class that stands somewhere below ValueError -/
namespace PySem
namespace VSX
abbrev bw (x : Addr) : Obj := { cls := .type "method-wrapper", dict := none, data := .fields #[.builtin "ValueError.__init__", .ref x], slots := #[] }
theorem type_vi : typeOf (.builtin "ValueError.__init__") = pure (.type "wrapper_descriptor") := by show builtinType _ = _; rw [builtinType_eq_fast]; kernel_rfl
theorem nac : (kfb_private% "nameAndClass") (Value.builtin "ValueError.__init__") = (pure (("__init__" : Str), Value.type "ValueError") : Sem (Str × Value)) := by kernel_rfl
section
open PySem.W
variable {prog : Program} {w : World} {M : Model} {A : Around} {E : Value → Shared → Prop} {h : Heap} {g : Array GenState} {d : Drawn} {t : Nat} {os : OsState}
theorem run_wd {x C : Addr} {P : Fin → Shared → Prop} (hin : W.Looks M h (isInstance (.ref x) (.type "ValueError")) true) (hq : P (.done (.ret (.ref h.objs.size))) ⟨h.push (bw x), g, d, t, os⟩) :
    wpAny M A (Builtin.«wrapper_descriptor.__get__» ⟨[.builtin "ValueError.__init__", .ref x, .ref C], []⟩) P E ⟨h, g, d, t, os⟩ := by
  unfold Builtin.«wrapper_descriptor.__get__»
  refine wpAny_bind (wpAny_of_eq (a := (.builtin "ValueError.__init__", some (.ref x), some (.ref C))) (by first | rfl | kernel_rfl) ?_)
  show wpAny M A ((kfb_private% "checkInstance") (.builtin "ValueError.__init__") (.ref x) >>= fun _ => newFields "method-wrapper" [.builtin "ValueError.__init__", .ref x] >>= fun r => ret r) P E _
  refine wpAny_bind ?_
  show wpAny M A ((kfb_private% "nameAndClass") (.builtin "ValueError.__init__") >>= _) _ E _
  refine wpAny_bind (wpAny_of_eq nac ?_)
  show wpAny M A (isInstance (.ref x) (.type "ValueError") >>= _) _ E _
  refine wpAny_bind (hin.at ?_)
  refine KFB.if_not rfl ?_
  refine wpAny_pure ?_
  exact wpAny_bind (wpAny_newObj_type (wpAny_pure hq))

theorem super_ga {so D x C : Addr} {l₀ l : List Value} {K : Frag} {name : Str} {tk : Tok} {Q : Fin → Shared → Prop}
    (hso : h.get? so = some { cls := .type "super", dict := none, data := .fields #[.ref D, .ref x, .ref C], slots := #[] }) (hno : W.Looks (model prog w) h (opaqueClassAbove (.ref C)) none)
    (hC : W.Looks (model prog w) h (mroOf (.ref C)) l₀) (hl : (l₀.dropWhile (· != .ref D)).drop 1 = l) (X : K.In h)
    (hf : alongIn K name l = some (some (.builtin "ValueError.__init__"))) (hxC : x ≠ C) (hn : (name == ("__class__" : Str)) = false) (hin : W.Looks (model prog w) h (isInstance (.ref x) (.type "ValueError")) true)
    (hq : Q (.done (.ret (.ref h.objs.size))) ⟨h.push (bw x), g, d, t, os⟩) :
    wpAny (model prog w) A (Builtin.«super.__getattribute__» ⟨[.ref so, .str name tk], []⟩) Q E ⟨h, g, d, t, os⟩ := by
  have hlk := ESX.slot_wd.lookup
  have hne : (Value.ref x == Value.ref C) = false := by simp [hxC]
  have hTf := type_vi
  have hTi : Shared.TypeIs ⟨h, g, d, t, os⟩ (.builtin "ValueError.__init__") "wrapper_descriptor" := type_vi
  have hdt : ({ cls := .type "super", dict := none, data := .fields #[.ref D, .ref x, .ref C], slots := #[] } : Obj).data = .fields #[.ref D, .ref x, .ref C] := rfl
  have f0 : (#[.ref D, .ref x, .ref C] : Array Value)[0]? = some (.ref D) := rfl
  have f1 : (#[.ref D, .ref x, .ref C] : Array Value)[1]? = some (.ref x) := rfl
  have f2 : (#[.ref D, .ref x, .ref C] : Array Value)[2]? = some (.ref C) := rfl
  unfold Builtin.«super.__getattribute__»
  repeat (first
    | (with_reducible refine wpAny_field hso hdt f0 ?_) | (with_reducible refine wpAny_field hso hdt f1 ?_) | (with_reducible refine wpAny_field hso hdt f2 ?_)
    | (with_reducible refine ks_wpAny_notOpaque hno ?_)
    | (with_reducible refine Looks.at hC ?_; rw [hl])
    | (refine ks_forIn_along X (fun _ _ => rfl) rfl ?_ hf)
    | (with_reducible refine wpAny_call_entry ESX.slot_wd hTi ESX.entry_wd ?_ (by unfold argsOk; kernel_rfl))
    | (with_reducible refine run_wd hin ?_)
    | (with_reducible refine ⟨_, rfl, ?_⟩)
    | (simp only [hn, hne, Bool.or_false, Bool.false_eq_true, if_false])
    | wp_step
    | dsimp only)
  all_goals exact hq

theorem getMethod_super {so D x C : Addr} {l₀ l : List Value} {K : Frag} {name : Str} {pl : Sem Bool} {Q : Value × List Value → Shared → Prop}
    (hso : h.get? so = some { cls := .type "super", dict := none, data := .fields #[.ref D, .ref x, .ref C], slots := #[] }) (hno : W.Looks (model prog w) h (opaqueClassAbove (.ref C)) none)
    (hC : W.Looks (model prog w) h (mroOf (.ref C)) l₀) (hl : (l₀.dropWhile (· != .ref D)).drop 1 = l) (X : K.In h)
    (hf : alongIn K name l = some (some (.builtin "ValueError.__init__"))) (hxC : x ≠ C) (hn : (name == ("__class__" : Str)) = false) (hin : W.Looks (model prog w) h (isInstance (.ref x) (.type "ValueError")) true)
    (hq : Q (.ref h.objs.size, []) ⟨h.push (bw x), g, d, t + 1, os⟩) :
    wpAny (model prog w) A (getMethod (.ref so) name pl) Q E ⟨h, g, d, t, os⟩ := by
  have hlk := F.ks_slot_super_ga.lookup
  have hcan := F.ks_canon_super_ga
  have hT : ∀ t', (⟨h, g, d, t', os⟩ : Shared).TypeIs (.ref so) "super" := fun _ => ⟨_, hso, rfl⟩
  unfold getMethod
  refine wpAny_bind (wpAny_specialOf (hT _) hlk ?_)
  show wpAny _ _ (if (Manifest.canonical "super.__getattribute__" != "object.__getattribute__") = true then _ else _) _ _ _
  rw [if_pos hcan]
  unfold getAttr getAttrBy
  refine wpAny_bind (wpAny_bind (wpAny_mkText (wpAny_holding (wpAny_bind (wpAny_typeOf (hT _) (wpAny_bind (wpAny_of_eq hlk ?_)))))))
  show wpAny _ _ (getAttrByItsOwn (.ref so) (.str name t) (.type "super") (.builtin "super.__getattribute__") true false) _ _ _
  unfold getAttrByItsOwn hookBefore callGetattribute boundAndCalled
  refine wpAny_bind (wpAny_of_eq (show (if onTheHeap (.type "super") then typeLookup (.type "super") "__getattr__" else pure none) = pure none from rfl) ?_)
  refine wpAny_bind (wpAny_attempt (wpAny_holding ?_))
  show wpAny _ _ (bindSpecial (.builtin "super.__getattribute__") (.ref so) >>= _) _ _ _
  refine wpAny_bind (wpAny_of_eq (F.ks_slot_super_ga.bind _) ?_)
  refine wpAny_mono (Q := fun v s' => v = .ref h.objs.size ∧ s' = ⟨h.push (bw x), g, d, t + 1, os⟩) (E := fun _ _ => False)
    (wpAny_call_entry F.ks_slot_super_ga (hT _) F.ks_entry_super_ga (super_ga hso hno hC hl X hf hxC hn hin ⟨_, rfl, rfl, rfl⟩) (F.ks_gaArgs_super _ _)) (fun v s' hv => ?_) fun _ _ z => z.elim
  obtain ⟨rfl, rfl⟩ := hv
  exact wpAny_pure (wpAny_pure hq)
end
section
open PySem.W PySem.Calls PyProof.Rows
variable {prog : Program} {w : World} {M : Model} {A : Around} {E : Value → Shared → Prop} {s : Shared}
theorem callWith_bw {pos : Pos} {u x : Addr} {first : List Value} {args : List (Bool × Sem Value)} {Q : Value → Shared → Prop} (hplain : args.any (·.1) = false)
    (h : wpAny M A (evalArgs (.ref u) true args []) (fun a s₁ => s₁.heap.get? u = some (bw x) ∧ wpAny M A (call (.ref u) (first ++ a.pos) a.kw) Q E s₁) E s) : wpAny M A (callWith pos (.ref u) first args []) Q E s := by
  unfold callWith
  refine wpAny_bind (wpAny_holding (wpAny_mono h (fun a s₁ h₁ => wpAny_bind (wpAny_standAt ?_)) fun _ _ x => x))
  obtain ⟨ho, hcall⟩ := h₁
  simp only [hplain, List.any_nil, Bool.or_false]
  refine wpAny_bind (m := keeperOf (.ref u)) ?_
  unfold keeperOf
  refine wpAny_bind (wpAny_load ho ?_)
  simp only [bw, show (Value.type "method-wrapper" != Value.type "method") = true by decide, show (Value.type "method-wrapper" == Value.type "builtin_function_or_method" || Value.type "method-wrapper" == Value.type "method-wrapper") = true by decide, if_true]
  refine wpAny_pure ?_
  exact wpAny_bind (wpAny_mono hcall (fun r s₂ hr => wpAny_bind (wpAny_holding (wpAny_point (wpAny_pure hr)))) fun _ _ x => x)
theorem callWith_bound {pos : Pos} {u x : Addr} {first : List Value} {env : Env} {e : Expr} {rest : List Expr} {Q : Value → Shared → Prop}
    (h : wpAny M A (spliced (backTo pos (starEach (e :: rest) env))) (fun vs s₁ => s₁.heap.get? u = some (bw x) ∧ wpAny M A (call (.ref u) (first ++ vs)) Q E s₁) E s)
    (he : starEach (e :: rest) env = (false, eval e env) :: starEach rest env := by rfl) (hplain : (backTo pos (starEach rest env)).any (·.1) = false := by rfl) :
    wpAny M A (callWith pos (.ref u) first (backTo pos (starEach (e :: rest) env)) []) Q E s := by
  rw [he] at h ⊢
  refine callWith_bw (x := x) (by show (false || (backTo pos (starEach rest env)).any (·.1)) = false; rw [hplain]; rfl) ?_
  exact evalArgs_plain h
end
section
variable {prog : Program} {w : World} {A : Around} {E : Value → Shared → Prop} {h : Heap} {g : Array GenState} {d : Drawn} {t : Nat} {os : OsState}
variable {nm q : Str} {C N : Addr} {bs bm : List Value} {hdct : Bool} {sn : List Str} {sub : List Value} {ab : Bool} {col : Option Bool} {dd : Option Addr} {k0 k1 k2 k3 k5 : Option Value}
theorem call_bw {u e t0 : Addr} {rest : List Value} {Q : Value → Shared → Prop}
    (hC : h.get? C = some (excClassObj nm q C N bs bm hdct sn sub ab col dd k0 k1 k2 k3 k5 "ValueError.__new__")) (he : h.get? e = some (HandSPX.excO C t0)) (hu : h.get? u = some (bw e)) (hrest : rest.length ≤ sizeLine)
    (hq : ∀ h' t1, (∀ b o, b ≠ e → h.get? b = some o → h'.get? b = some o) → h'.get? e = some (HandSPX.excO C t1) → Q .none ⟨h', g, d, t, os⟩) :
    wpAny (model prog w) A (call (.ref u) rest) Q E ⟨h, g, d, t, os⟩ := by
  refine wpAny_call (codeAny_of_tree ?_)
  show wpAny _ A.in1 (callAny (.ref u) ⟨rest, []⟩) _ _ _
  simp only [callAny]
  refine wpAny_bind (wpAny_load hu ?_)
  simp only [bw, show (Value.type "method-wrapper" == Value.type "method" || Value.type "method-wrapper" == Value.type "builtin_function_or_method" || Value.type "method-wrapper" == Value.type "method-wrapper") = true by decide, if_true]
  refine W.KFB.if_so (by decide) ?_
  refine wpAny_bind (ESX.check_bound F.excBase_ValueError hC he rfl ?_)
  refine wpAny_bind (wpAny_pure (wpAny_pure ?_))
  refine ⟨Code.quiet_builtin _ (by decide +kernel), codeAny_builtin F.excBase_ValueError.initEntry ?_⟩
  rw [Around.under_plainId F.excBase_ValueError.init.plain _]
  wp_walk
  refine hq _ h.objs.size (fun b o hb ho => ?_) ?_
  · rw [Heap.get?_update_other _ _ (Ne.symm hb)]
    exact Heap.get?_push_of_some _ ho
  · rw [Heap.get?_update_self _ (Heap.get?_push_of_some _ he) rfl]
    rfl
end
end VSX
end PySem

set_option Elab.async false
set_option linter.all false
set_option maxRecDepth 100000
set_option maxHeartbeats 4000000
namespace HM
open PySem PySem.Spec L2
/-- the frame of an __init__ of the class at C: what super() wants -/
structure SupX (X : Cx) (C : Addr) (sv : Str) : Prop where
  sup : X.env.kindOf "super" = some .globalImplicit
  cla : X.env.kindOf "__class__" = some .free
  fn : ∃ (f : Addr) (of : Obj) (fd : FuncData) (ar : Arg), X.env.func = some f ∧ X.K.lookup f = some of ∧ of.data = .func fd ∧ (fd.params.posonlyargs ++ fd.params.args).head? = some ar ∧ ar.arg = sv
  code : ∃ (cda : Addr) (oc : Obj) (vs : Array Value) (file : Str) (tf : Tok), X.env.code = .ref cda ∧ X.K.lookup cda = some oc ∧ oc.data = .fields vs ∧ vs[2]? = some (.str file tf) ∧ ((X.prog.main.file : Str) == file) = true
  top : (X.prog.main.scope.names.lookup ("super" : Str)).isSome = false
  mg : X.mg "super" = none
  cell : ∃ (cc : Addr) (oc : Obj), X.env.cells.lookup ("__class__" : Str) = some cc ∧ X.K.lookup cc = some oc ∧ oc.data = .cell (some (.ref C))
  slf : X.env.scope.names.lookup sv = some .local
  slot : X.N[0]? = some sv
  noOp : PySem.W.nsIn X.K cStatics "thirdparty.any" = some none
  own : PySem.W.mroIn X.K C (.ref C) = some true
  ve : PySem.W.mroIn X.K C (.type "ValueError") = some true
  up : PySem.W.ks_superIn X.K C C "__init__" = some (some (.builtin "ValueError.__init__"))
section
variable {X : Cx} {C a : Addr} {sv : Str} {pins : List (Addr × Obj)} {σ : L2.St} {H : Hp} {s : Shared}
theorem boot_super : bootBuiltins "super" = some (.type "super") := PyProof.Rows.Boot.super
theorem ld_super (I : Inv X pins σ H s) (hg : X.env.kindOf "super" = some .globalImplicit) (hm : X.mg "super" = none) {Q : Value → Shared → Prop} {E : Value → Shared → Prop} (h : Q (.type "super") s) : wpAny (model X.prog X.w) X.A (loadName X.env "super") Q E s := by
  obtain ⟨mb, h1, h2⟩ := I.mod.blt
  exact PySem.W.ks_loadName_global I.ok.kind hg (Calls.loadGlobal_builtin (by rw [I.ok.glob]; exact I.mod.glob.keeps I.bk) hm (by rw [I.ok.blt]; exact h1.keeps I.bk) ((h2 "super" (by decide)).trans boot_super) h)
theorem ld_own (I : Inv X pins σ H s) (hk : X.env.scope.names.lookup sv = some .local) (hN : X.N[0]? = some sv) (ha : σ[0]? = some (some (.ref a))) {Q : Value → Shared → Prop} {E : Value → Shared → Prop} (h : Q (.ref a) s) : wpAny (model X.prog X.w) X.A (loadName X.env sv) Q E s := by
  obtain ⟨m, hn, hl⟩ := I.loc
  obtain ⟨u, r, l⟩ := hl 0 sv _ hN ha (.inl hk)
  obtain rfl : u = Value.ref a := r
  rcases l with ⟨l1, l2⟩ | ⟨l1, _⟩
  · exact wpAny_loadName_local I.ok.kind hk hn l2 h
  · rcases l1 with l1 | l1 <;> (have := hk.symm.trans l1; cases this)
theorem cls_data {K : PySem.W.Frag} {D : Addr} {cd : ClassData} {h : Heap} (X : K.In h) (hD : PySem.W.clsIn K D = some cd) : ∃ oD, h.get? D = some oD ∧ oD.data = .cls cd := by
  unfold PySem.W.clsIn at hD
  split at hD
  · rename_i c d cd' sl ho
    cases hD
    exact ⟨_, X _ _ ho, rfl⟩
  · cases hD
theorem sup_base (Sx : SupX X C sv) (T : OexC X.K C) (I : Inv X pins σ H s) (ha : σ[0]? = some (some (.ref a))) (e : H a = some (exo a C none)) {p0 p1 : Pos} {whole : Sem Value} {body : List Stmt} {Q : Value → Shared → Prop}
    (h : ∀ s', Inv X pins σ H s' → s'.heap.get? s.heap.objs.size = some (PySem.W.ks_superObj C a C) → Q (.ref s.heap.objs.size) s') :
    PySem.wpAt (model X.prog X.w) X.A (.func body X.env) (attributeBase (.Call (.Name "super" p0) [] [] p1) "__init__" X.env whole) Q X.xe s := by
  obtain ⟨nm, q, N, bs, bm, sn, sub, ab, col, dd, k0, k1, k2, k3, k5, hC, hbm⟩ := T.cls
  have hcl : PySem.W.clsIn X.K C = some { name := nm, bases := bs, mro := .ref C :: bm, ns := N, qualname := q, hasDict := true, slotNames := sn, subclasses := sub, abstract := ab, collection := col, hasDel := false } := by unfold PySem.W.clsIn; rw [hC] <;> rfl
  obtain ⟨f, of, fd, ar, f1, f2, f3, f4, f5⟩ := Sx.fn
  obtain ⟨cda, oc, vs, file, tf, c1, c2, c3, c4, c5⟩ := Sx.code
  obtain ⟨cc, occ, l1, l2, l3⟩ := Sx.cell
  obtain ⟨oD, hD1, hD2⟩ := cls_data I.kIn hcl
  obtain ⟨t1, ho⟩ := exo_at I.hok e
  refine ks_wpAt_super_base Sx.sup Sx.cla (by decide) f1 (I.kIn _ _ f2) f3 f4 c1 (I.kIn _ _ c2) c3 c4 c5 Sx.top ?_
  refine ld_super I Sx.sup Sx.mg ⟨rfl, ?_⟩
  refine wpAny_loadName_free I.ok.kind Sx.cla l1 ⟨_, I.kIn _ _ l2, l3⟩ ?_
  rw [f5]
  refine ld_own I Sx.slf Sx.slot ha ?_
  obtain ⟨hp, g, d, t, os⟩ := s
  refine ks_wpAny_isType_cls hD1 hD2 ⟨rfl, ?_⟩
  refine ks_wpAny_call_super hD1 hD2 ho rfl (fun c z => by cases z) (PySem.W.looks_mroIn I.kIn Sx.own) (fun h' e' k => ?_)
  exact h _ (I.kept (t' := t) k) e'
theorem size_fresh (I : Inv X pins σ H s) {o : Obj} {h' : Heap} {tk : Nat} (J : Inv X pins σ H { s with heap := h', toks := tk }) (ho : h'.get? s.heap.objs.size = some o) (hc : ∀ v, o.data ≠ .cell v) : Inv X ((s.heap.objs.size, o) :: pins) σ H { s with heap := h', toks := tk } :=
  J.pins_of fun p hp => by
    rcases List.mem_cons.mp hp with rfl | hp
    · exact ⟨ho, I.hok.fresh (Nat.le_refl _), Nat.ne_of_gt I.lt, I.nofs (Nat.le_refl _), hc⟩
    · exact J.pin p (List.mem_append_right _ hp)
/-- super().__init__(msg) -/
theorem sup_stmt (Sx : SupX X C sv) (T : OexC X.K C) (I : Inv X pins σ H s) (ha : σ[0]? = some (some (.ref a))) (e : H a = some (exo a C none)) {p0 p1 p2 p3 p4 : Pos} {msg : Expr} {tm : TE} {body : List Stmt} (hm : PE X msg tm) (ht : ∀ Q : VK, (∀ v, Q v H) → tm σ H Q)
    (he : starEach [msg] X.env = (false, eval msg X.env) :: starEach [] X.env) {pl : Sem Bool}
    (hc : eval (.Call (.Attribute (.Call (.Name "super" p0) [] [] p1) "__init__" p2) [msg] [] p3) X.env = (do
      let ov ← attributeBase (.Call (.Name "super" p0) [] [] p1) "__init__" X.env (eval (.Call (.Name "super" p0) [] [] p1) X.env)
      standAt p2.atName
      let (f, first) ← holding [ov] (getMethod ov "__init__" pl)
      callWith p3 f first (backTo p3 (starEach [msg] X.env)) [])) :
    PySem.wpAt (model X.prog X.w) X.A (.func body X.env) (exec (.Expr (.Call (.Attribute (.Call (.Name "super" p0) [] [] p1) "__init__" p2) [msg] [] p3) p4) X.env) (fun fl s' => fl = .next ∧ Inv X pins σ H s') X.xe s := by
  obtain ⟨nm, q, N, bs, bm, sn, sub, ab, col, dd, k0, k1, k2, k3, k5, hC, hbm⟩ := T.cls
  have hcl : PySem.W.clsIn X.K C = some { name := nm, bases := bs, mro := .ref C :: bm, ns := N, qualname := q, hasDict := true, slotNames := sn, subclasses := sub, abstract := ab, collection := col, hasDel := false } := by unfold PySem.W.clsIn; rw [hC] <;> rfl
  refine ks_wpAt_Expr_any ?_ I.quiet rfl
  refine ks_wpAt_MethodCall (sup_base Sx T I ha e fun s1 I1 hso => ?_) hc
  obtain ⟨t1, ho⟩ := exo_at I1.hok e
  have IA : PySem.W.InstAt s1.heap a { cls := .ref C, dict := none, data := .fields #[.ref t1, .none, .none, .none, .bool false, .none] } C none := ⟨ho, rfl, rfl, trivial⟩
  obtain ⟨hp, g, d, t, os⟩ := s1
  have hup := Sx.up
  unfold PySem.W.ks_superIn at hup
  rw [hcl] at hup
  refine VSX.getMethod_super hso (PySem.W.looks_opaque I1.kIn Sx.noOp) (l₀ := .ref C :: bm) ?_ rfl I1.kIn hup (PySem.W.ks_ne I1.kIn IA hcl) (by decide) (IA.type.andThen (PySem.W.looks_mroIn I1.kIn Sx.ve)) ?_
  · exact fun A Q E s k q => wpAny_bind ((PySem.W.looks_clsIn I1.kIn hcl) A _ E s k (wpAny_pure q))
  have J := I1.kept (t' := t + 1) (h' := hp.push (VSX.bw a)) fun b o z => Heap.get?_push_of_some _ z
  have J2 := size_fresh I1 J (Heap.get?_push_at rfl rfl) (by intro v z; cases z)
  refine VSX.callWith_bound (x := a) ?_ he rfl
  refine thn ((pa_cons hm pa_nil he).run p3 _ _ σ H (fun us H' => H = H' ∧ us.length = 1) J2 ?_) fun us s2 hq => ?_
  · exact ht _ fun v => ⟨rfl, rfl⟩
  obtain ⟨vs, H2, I2, r, eH, hl⟩ := hq
  subst eH
  obtain ⟨t2, ho2⟩ := exo_at I2.hok e
  obtain ⟨hp2, g2, d2, tk2, os2⟩ := s2
  have hu := (I2.pin _ (List.mem_append_right _ (List.mem_cons_self ..))).1
  refine ⟨hu, VSX.call_bw (I2.kIn _ _ hC) ho2 hu (by have := r.length; rw [sizeLine_eq]; simp only [List.nil_append]; omega) fun h' t3 k hx => ?_⟩
  have J3 := I2.write (t' := tk2) (x := a) (e := a) (o := exo a C none) (by rw [e]; exact True.intro) (.inl rfl) k ⟨_, hx⟩ (exo_ok hx)
  have eu : upd H a (exo a C none) = H := by
    funext b
    by_cases hb : b = a
    · rw [hb, upd_same, e]
    · rw [upd_ne hb]
  rw [eu] at J3
  exact ⟨rfl, J3.pins_of fun p hp => J3.pin p (List.mem_append_right _ (List.mem_cons_of_mem _ hp))⟩
end
end HM

set_option Elab.async false
set_option linter.all false
set_option maxRecDepth 100000
set_option maxHeartbeats 4000000
namespace HM
open PySem PySem.Spec L2
/-! ### the text of an exception -/
/-- the frame's names: sv, then the parameters -/
structure NamX (X : Cx) (sv : Str) (ps : List Str) : Prop where
  slot : X.N[0]? = some sv
  svl : X.env.scope.names.lookup sv = some .local
  svd : (sv == ("__debug__" : Str)) = false ∧ (sv == ("__classdict__" : Str)) = false
  nd : ps.Nodup
  ps : ∀ i x, ps[i]? = some x → X.N[i + 1]? = some x ∧ X.env.scope.names.lookup x = some .local ∧ (x == ("__debug__" : Str)) = false ∧ (x == ("__classdict__" : Str)) = false
def ArgsAt (K : PySem.W.Frag) (σ : L2.St) (H : Hp) (n : Nat) : Prop := ∀ i, i < n → ∃ v d w, σ[i + 1]? = some (some v) ∧ RelD K w H d v ∧ excArg d = true
def PartOk (t : TE) (σ : L2.St) (H : Hp) : Prop := ∀ Q : VK, (∀ y : Str, y.length ≤ 2000000 → Q (.str y) H) → t σ H Q
def tFv (K : PySem.W.Frag) (te : TE) : TE := fun σ H Q => tFmt te σ H Q ∨ tFmtT K te σ H Q
theorem pe_fv {X : Cx} {e : Expr} {te : TE} {pos : Pos} {k : Nat} (hr : Room k X.A) (he : PE X e te) : PE X (.FormattedValue e (-1) none pos) (tFv X.K te) :=
  ⟨fun pins s σ H Q I h => h.elim ((pe_fmt he).run pins s σ H Q I) ((pe_fmtT hr he).run pins s σ H Q I)⟩
theorem excStrs : ∀ {K : PySem.W.Frag} {w : Wd} {H : Hp} {ds : List D} {vs : List V}, RelDs K w H ds vs → ds.all excStr = true → ∃ l : List Str, vs = l.map V.str ∧ l.length = ds.length ∧ (∀ y ∈ l, ∀ c ∈ y.cps.toList, c < 16 ^ 8) ∧ fmtCost l ≤ 10004 * ds.length
  | _, _, _, [], vs, h, _ => by
    rw [show vs = [] from h]
    exact ⟨[], rfl, rfl, (fun y hy => by cases hy), Nat.zero_le _⟩
  | K, w, H, d :: ds, _, h, ha => by
    obtain ⟨v, vs, rfl, h1, h2⟩ := h
    rw [List.all_cons, Bool.and_eq_true] at ha
    obtain ⟨l, rfl, hl, hc, hz⟩ := excStrs h2 ha.2
    cases d with
    | str s =>
      obtain rfl : v = .str s := h1
      have q := ha.1
      unfold excStr at q
      rw [Bool.and_eq_true, decide_eq_true_eq, List.all_eq_true] at q
      refine ⟨s :: l, rfl, by simp [hl], fun y hy => ?_, ?_⟩
      · rcases List.mem_cons.mp hy with rfl | hy
        · exact fun c hc => by simpa using q.2 c hc
        · exact hc y hy
      · rw [fmtCost_cons, List.length_cons]
        omega
    | _ => cases ha.1
theorem fv_ok {K : PySem.W.Frag} {σ : L2.St} {H : Hp} {n i : Nat} (h : ArgsAt K σ H n) (hi : i < n) : PartOk (tFv K (tVar (i + 1))) σ H := fun Q q => by
  obtain ⟨v, d, w, e, r, x⟩ := h i hi
  cases d with
  | int j =>
    obtain rfl : v = .int j := r
    have x : decide (j.natAbs.log2 < 1900) = true := x
    rw [decide_eq_true_eq] at x
    refine .inl ⟨_, e, .inr ⟨j, rfl, by omega, q _ ?_⟩⟩
    have := int_text_length_le (k := 1900) (by decide) x
    rw [ofString_length]
    omega
  | str y =>
    obtain rfl : v = .str y := r
    have x : decide (y.length ≤ 1000) = true := x
    rw [decide_eq_true_eq] at x
    exact .inl ⟨_, e, .inl ⟨y, rfl, by rw [sizeLine_eq]; omega, q y (by omega)⟩⟩
  | tup ds =>
    obtain ⟨a, xs, rfl, ht, hr⟩ := TupAt.rel r
    have x : (ds.all excStr && decide (ds.length ≤ 100)) = true := x
    rw [Bool.and_eq_true, decide_eq_true_eq] at x
    obtain ⟨l, rfl, hl, hc, hz⟩ := excStrs hr x.1
    have hzz : fmtCost l ≤ 1000400 := by omega
    exact .inr ⟨_, e, a, l, rfl, ht, hc, by rw [sizeLine_eq]; omega, fun m hm => q m (by omega)⟩
  | _ => cases x
theorem const_ok {s : Str} {σ : L2.St} {H : Hp} (h : s.length ≤ 2000000) : PartOk (tC (.str s)) σ H := fun Q q => q s h
theorem tJs_ok {σ : L2.St} {H : Hp} {Q : Str → Hp → Prop} (hq : ∀ y, Q y H) : ∀ {ts : List TE} {acc : Str}, (∀ t ∈ ts, PartOk t σ H) → acc.length + 2000000 * ts.length ≤ sizeLine → tJs ts acc σ H Q
  | [], acc, _, _ => hq acc
  | t :: ts, acc, h, hl => h t List.mem_cons_self _ fun y hy => by
    rw [List.length_cons] at hl
    have e := strLen_append acc y
    exact ⟨y, rfl, by omega, tJs_ok hq (fun u hu => h u (List.mem_cons_of_mem _ hu)) (by omega)⟩
def partB (ps : List Str) : Expr → Bool
  | .Constant (.str s) _ _ => decide (s.length ≤ 1000)
  | .FormattedValue (.Name x _) c none _ => (c == -1) && ps.contains x
  | _ => false
def msgB (ps : List Str) : Expr → Bool
  | .Constant (.str s) _ _ => true
  | .JoinedStr (v1 :: v2 :: rest) _ => (v1 :: v2 :: rest).all (partB ps) && decide (rest.length ≤ 4)
  | _ => false
section
variable {X : Cx} {sv : Str} {ps : List Str}
theorem part_ok {k : Nat} (hr : Room k X.A) (nx : NamX X sv ps) {e : Expr} (h : partB ps e = true) : ∃ t, PE X e t ∧ ∀ σ H, ArgsAt X.K σ H ps.length → PartOk t σ H := by
  unfold partB at h
  split at h
  · rw [decide_eq_true_eq] at h
    exact ⟨_, pe_str, fun σ H _ => const_ok (by omega)⟩
  · rename_i x p c p2
    rw [Bool.and_eq_true, beq_iff_eq, List.contains_iff_mem] at h
    obtain ⟨rfl, hx⟩ := h
    obtain ⟨i, hi⟩ := List.mem_iff_getElem?.mp hx
    obtain ⟨h1, h2, h3, h4⟩ := nx.ps i x hi
    exact ⟨_, pe_fv hr (pe_var h1 (.inl h2) h3 h4), fun σ H ha => fv_ok ha (List.getElem?_eq_some_iff.mp hi).1⟩
  · cases h
theorem parts_ok {k : Nat} (hr : Room k X.A) (nx : NamX X sv ps) : ∀ {es : List Expr}, es.all (partB ps) = true → ∃ ts, PJ X es ts ∧ ts.length = es.length ∧ ∀ σ H, ArgsAt X.K σ H ps.length → ∀ t ∈ ts, PartOk t σ H
  | [], _ => ⟨[], .nil, rfl, fun _ _ _ t ht => by cases ht⟩
  | e :: es, h => by
    rw [List.all_cons, Bool.and_eq_true] at h
    obtain ⟨t, h1, h2⟩ := part_ok hr nx h.1
    obtain ⟨ts, h3, hl, h4⟩ := parts_ok hr nx h.2
    refine ⟨t :: ts, .cons h1 h3, by simp [hl], fun σ H ha u hu => ?_⟩
    rcases List.mem_cons.mp hu with rfl | hu
    · exact h2 σ H ha
    · exact h4 σ H ha u hu
theorem msg_ok {k : Nat} (hr : Room k X.A) (nx : NamX X sv ps) {e : Expr} (h : msgB ps e = true) : ∃ t, PE X e t ∧ ∀ σ H, ArgsAt X.K σ H ps.length → ∀ Q : VK, (∀ v, Q v H) → t σ H Q := by
  unfold msgB at h
  split at h
  · exact ⟨_, pe_str, fun σ H _ Q q => q _⟩
  · rw [Bool.and_eq_true, decide_eq_true_eq] at h
    obtain ⟨ts, h1, hl, h2⟩ := parts_ok hr nx h.1
    refine ⟨_, pe_joined h1, fun σ H ha Q q => tJs_ok (fun y => q _) (h2 σ H ha) ?_⟩
    have e0 : Str.empty.length = 0 := rfl
    rw [e0, hl, sizeLine_eq]
    simp only [List.length_cons]
    have := h.2
    omega
  · cases h
theorem msg_star {e : Expr} (h : msgB ps e = true) {env : Env} : starEach [e] env = (false, eval e env) :: starEach [] env := by
  unfold msgB at h
  split at h
  · rfl
  · rfl
  · cases h
theorem msg_call {e : Expr} (h : msgB ps e = true) {env : Env} {p0 p1 p2 p3 : Pos} (hline : (p2.endLine == p3.line) = true) : ∃ pl : Sem Bool, eval (.Call (.Attribute (.Call (.Name "super" p0) [] [] p1) "__init__" p2) [e] [] p3) env = (do
      let ov ← attributeBase (.Call (.Name "super" p0) [] [] p1) "__init__" env (eval (.Call (.Name "super" p0) [] [] p1) env)
      standAt p2.atName
      let (f, first) ← holding [ov] (getMethod ov "__init__" pl)
      callWith p3 f first (backTo p3 (starEach [e] env)) []) := by
  have e1 : methodCallPos true (.Call (.Name "super" p0) [] [] p1) env p2 p3 = pure p3 := by
    unfold methodCallPos
    rw [hline]
    rfl
  have key : methodCallForm 1 (backTo p3 (starEach [e] env)) [] = true → ∃ pl : Sem Bool, eval (.Call (.Attribute (.Call (.Name "super" p0) [] [] p1) "__init__" p2) [e] [] p3) env = (do
      let ov ← attributeBase (.Call (.Name "super" p0) [] [] p1) "__init__" env (eval (.Call (.Name "super" p0) [] [] p1) env)
      standAt p2.atName
      let (f, first) ← holding [ov] (getMethod ov "__init__" pl)
      callWith p3 f first (backTo p3 (starEach [e] env)) []) := fun hf => by
    refine ⟨(do return (← importBound (.Call (.Name "super" p0) [] [] p1) env).getD true), ?_⟩
    show (do
      let ov ← attributeBase (.Call (.Name "super" p0) [] [] p1) "__init__" env (eval (.Call (.Name "super" p0) [] [] p1) env)
      standAt p2.atName
      methodCall (.Call (.Name "super" p0) [] [] p1) "__init__" p2 p3 env ov 1 (backTo p3 (starEach [e] env)) []) = _
    unfold methodCall calleeOf
    rw [hf, e1]
    simp only [if_true, pure_bind]
  refine key ?_
  unfold msgB at h
  split at h
  · rfl
  · rfl
  · cases h
end
/-! ### the fields -/
def storeB (sv x : Str) : Stmt → Bool
  | .Assign [.Attribute (.Name o _) f _] (.Name y _) _ => (o == sv) && ((f == x) && (y == x))
  | _ => false
def storesB (sv : Str) : List Str → List Stmt → Bool
  | [], [] => true
  | x :: xs, s :: ss => storeB sv x s && storesB sv xs ss
  | _, _ => false
def tSts (K : PySem.W.Frag) : Nat → List Str → TS
  | _, [] => tNext
  | i, x :: l => tSeq (tOst K x (tVar 0) (tVar i)) (tSts K (i + 1) l)
section
variable {X : Cx} {sv : Str} {ps : List Str}
theorem stores_ok (nx : NamX X sv ps) : ∀ {l : List Str} {i : Nat} {ss : List Stmt}, (∀ j x, l[j]? = some x → ps[i + j]? = some x) → storesB sv l ss = true → PSs X ss (tSts X.K (i + 1) l)
  | [], i, [], _, _ => pss_nil
  | [], i, _ :: _, _, h => by cases h
  | x :: l, i, [], _, h => by cases h
  | x :: l, i, s :: ss, hp, h => by
    unfold storesB at h
    rw [Bool.and_eq_true] at h
    have h1 := h.1
    unfold storeB at h1
    split at h1
    · rename_i o op f fp y yp p
      rw [Bool.and_eq_true, Bool.and_eq_true, beq_iff_eq, beq_iff_eq, beq_iff_eq] at h1
      obtain ⟨e0, e1, e2⟩ := h1
      rw [e0, e1, e2]
      obtain ⟨n1, n2, n3, n4⟩ := nx.ps i _ (hp 0 _ rfl)
      exact pss_cons (ps_ost (pe_var nx.slot (.inl nx.svl) nx.svd.1 nx.svd.2) (pe_var n1 (.inl n2) n3 n4)) (stores_ok nx (fun j x hx => by rw [show i + 1 + j = i + (j + 1) by omega]; exact hp (j + 1) x hx) h.2)
    · cases h1
end
section
variable {K : PySem.W.Frag} {C a : Addr}
theorem upd_upd {H : Hp} {d : Addr} {o u : HO} : L2.upd (L2.upd H d o) d u = L2.upd H d u := by
  funext b
  by_cases h : b = d
  · rw [h, upd_same, upd_same]
  · rw [upd_ne h, upd_ne h, upd_ne h]
theorem upd_id {H : Hp} {d : Addr} {o : HO} (h : H d = some o) : L2.upd H d o = H := by
  funext b
  by_cases e : b = d
  · rw [e, upd_same, h]
  · rw [upd_ne e]
theorem sts_old (T : OexC K C) {D : Ends} {σ : L2.St} {d : Addr} : ∀ {l : List Str} {ws : List V} {i : Nat} {H : Hp} {fs : List (Str × V)}, l.length = ws.length → (∀ f ∈ l, PySem.W.findIn K (.ref C) f = some none) → σ[0]? = some (some (.ref a)) → (∀ j v, ws[j]? = some v → σ[i + j]? = some (some v)) →
    H a = some (exo a C (some d)) → H d = some (exd d fs) → d ≠ a → fs.length + l.length ≤ 900 → D.nx σ (L2.upd H d (exd d ((l.zip ws).reverse ++ fs))) → tSts K i l D σ H
  | [], ws, i, H, fs, hl, hn, h0, hi, ha, hd, ne, hz, q => by
    show D.nx σ H
    have e : L2.upd H d (exd d fs) = H := upd_id hd
    rw [← e]
    exact q
  | x :: l, [], i, H, fs, hl, hn, h0, hi, ha, hd, ne, hz, q => by simp at hl
  | x :: l, v :: ws, i, H, fs, hl, hn, h0, hi, ha, hd, ne, hz, q => by
    refine ⟨v, hi 0 v rfl, .ref a, h0, a, C, rfl, T, hn x List.mem_cons_self, .inr ⟨d, fs, ha, hd, by simp at hz; omega, ?_⟩⟩
    refine sts_old T (by simpa using hl) (fun f hf => hn f (List.mem_cons_of_mem _ hf)) h0 (fun j u hu => by rw [show i + 1 + j = i + (j + 1) by omega]; exact hi (j + 1) u hu) (by rw [upd_ne ne.symm]; exact ha) upd_same ne (by simp at hz ⊢; omega) ?_
    rw [upd_upd]
    have e : ((x, v) :: l.zip ws).reverse ++ fs = (l.zip ws).reverse ++ (x, v) :: fs := by simp
    rw [← e]
    exact q
theorem sts_new (T : OexC K C) {D : Ends} {σ : L2.St} {x : Str} {v : V} {l : List Str} {ws : List V} {H : Hp} (hl : l.length = ws.length) (hn : ∀ f ∈ x :: l, PySem.W.findIn K (.ref C) f = some none) (h0 : σ[0]? = some (some (.ref a)))
    (hi : ∀ j u, (v :: ws)[j]? = some u → σ[1 + j]? = some (some u)) (ha : H a = some (exo a C none)) (hz : l.length ≤ 800)
    (q : ∀ d, H d = none → d ≠ a → D.nx σ (L2.upd (L2.upd (L2.upd H d (exd d [(x, v)])) a (exo a C (some d))) d (exd d ((l.zip ws).reverse ++ [(x, v)])))) : tSts K 1 (x :: l) D σ H := by
  refine ⟨v, hi 0 v rfl, .ref a, h0, a, C, rfl, T, hn x List.mem_cons_self, .inl ⟨ha, fun d hd ne => ?_⟩⟩
  refine sts_old T hl (fun f hf => hn f (List.mem_cons_of_mem _ hf)) h0 (fun j u hu => by rw [show 1 + 1 + j = 1 + (j + 1) by omega]; exact hi (j + 1) u hu) upd_same (by rw [upd_ne ne]; exact upd_same) ne (by simp; omega) (q d hd ne)
theorem lookup_rev {f : Str} : ∀ {l : List (Str × V)}, (l.map (·.1)).Nodup → l.reverse.lookup f = l.lookup f
  | [], _ => rfl
  | (x, v) :: l, h => by
    rw [List.map_cons, List.nodup_cons] at h
    rw [List.reverse_cons, List.lookup_append, lookup_rev h.2]
    by_cases e : f = x
    · subst e
      have e1 : l.lookup f = none := by
        cases el : l.lookup f with
        | none => rfl
        | some u => exact absurd (List.mem_map_of_mem (PySem.mem_of_lookup el)) h.1
      rw [e1]
      simp [List.lookup]
    · have e' : (f == x) = false := by simpa using e
      simp [List.lookup, e']
end
end HM

set_option Elab.async false
set_option linter.all false
set_option maxRecDepth 100000
set_option maxHeartbeats 4000000
namespace HM
open PySem PySem.Spec L2
open NdefX (NScope CellsAt NF ncx inv_startN startF envF)
def bodyB (sv : Str) (ps : List Str) : List Stmt → Bool
  | .Expr (.Call (.Attribute (.Call (.Name x _) [] [] _) m p2) [msg] [] p3) _ :: ss => (x == ("super" : Str)) && ((m == ("__init__" : Str)) && (msgB ps msg && (p2.endLine == p3.line && storesB sv ps ss)))
  | _ => false
theorem bodyB_inv {sv : Str} {ps : List Str} {b : List Stmt} (h : bodyB sv ps b = true) : ∃ p0 p1 p2 p3 p4 msg ss, b = .Expr (.Call (.Attribute (.Call (.Name "super" p0) [] [] p1) "__init__" p2) [msg] [] p3) p4 :: ss ∧ msgB ps msg = true ∧ (p2.endLine == p3.line) = true ∧ storesB sv ps ss = true := by
  unfold bodyB at h
  split at h
  · rename_i x p0 p1 m p2 msg p3 p4 ss
    rw [Bool.and_eq_true, Bool.and_eq_true, Bool.and_eq_true, Bool.and_eq_true, beq_iff_eq, beq_iff_eq] at h
    obtain ⟨e1, e2, h1, h2, h3⟩ := h
    exact ⟨p0, p1, p2, p3, p4, msg, ss, by rw [e1, e2], h1, h2, h3⟩
  · cases h
/-- an __init__ as it stands in the text -/
structure IniS (P : Program) (sv : Str) (ps : List Str) (params : Arguments) (body : List Stmt) (scope : Scope) : Prop where
  sc : NScope (sv :: (ps ++ [("__class__" : Str)])) (sv :: ps) ["__class__"] scope
  head : ∃ ar, (params.posonlyargs ++ params.args).head? = some ar ∧ ar.arg = sv
  sup : scope.names.lookup ("super" : Str) = some .globalImplicit
  top : (P.main.scope.names.lookup ("super" : Str)).isSome = false
  body : bodyB sv ps body = true
  plain : (sv :: ps).all (fun x => !(x == ("__debug__" : Str)) && !(x == ("__classdict__" : Str))) = true
  few : ps.length ≤ 10
  nd : ps.Nodup
structure IniD (P : Program) (K : PySem.W.Frag) (C f : Addr) (qual : Str) (params : Arguments) (body : List Stmt) (scope : Scope) (fd : FuncData) : Prop where
  ex : ∃ (oc : Value) (od : Option Addr) (kV doc pm : Value) (an : Option Addr) (cda : Addr) (ct : Value) (cc : Addr) (osl : Array (Option Value)) (ocd : Obj) (vs : Array Value) (file : Str) (tf : Tok) (occ : Obj),
    fd = PySem.W.ksFn "__init__" qual params body scope .none kV doc pm an (.ref cda) ct cc ∧ K.lookup f = some ⟨oc, od, .func fd, osl⟩ ∧ PySem.W.codeIn K (.ref cda) qual = true ∧ K.lookup cda = some ocd ∧ ocd.data = .fields vs ∧ vs[2]? = some (.str file tf) ∧
      ((P.main.file : Str) == file) = true ∧ K.lookup cc = some occ ∧ occ.data = .cell (some (.ref C))
structure ClsI (K : PySem.W.Frag) (C f : Addr) (ps : List Str) : Prop where
  ox : OexC K C
  noOp : PySem.W.nsIn K cStatics "thirdparty.any" = some none
  own : PySem.W.mroIn K C (.ref C) = some true
  ve : PySem.W.mroIn K C (.type "ValueError") = some true
  up : PySem.W.ks_superIn K C C "__init__" = some (some (.builtin "ValueError.__init__"))
  iC : PySem.W.findIn K (.ref C) "__init__" = some (some (.ref f))
  tI : PySem.W.typeIn K (.ref f) = some (.type "function")
  fld : ∀ x ∈ ps, PySem.W.findIn K (.ref C) x = some none
/-- what __init__ is told and what it leaves -/
def spI (K : PySem.W.Frag) (C : Addr) (ps : List Str) : Sp := fun vs H Q _ => ∃ (a : Addr) (w : Wd) (ds : List D) (ws : List V), vs = .ref a :: ws ∧ H a = some (exo a C none) ∧ RelDs K w H ds ws ∧ excArgs ds = true ∧ ds.length = ps.length ∧
  (ps = [] → Q .non H) ∧ (ps ≠ [] → ∀ d gs, H d = none → d ≠ a → (∀ f, gs.lookup f = (ps.zip ws).lookup f) → Q .non (L2.upd (L2.upd H d (exd d gs)) a (exo a C (some d))))
section
variable {P : Program} {w : World} {K : PySem.W.Frag} {mg : Str → Option Value} {base : Heap} {C f : Addr} {qual sv : Str} {params : Arguments} {body : List Stmt} {scope : Scope} {fd : FuncData} {ps : List Str}
theorem cellsAt_init {cc : Addr} {occ : Obj} {h : Heap} {H : Hp} (hK : K.In base) (bs : ∀ b o, base.get? b = some o → h.get? b = some o ∧ H b = none) (h1 : K.lookup cc = some occ) (h2 : occ.data = .cell (some (.ref C))) : CellsAt [(("__class__" : Str), cc)] ["__class__"] [none] h H := by
  have hb := bs _ _ (hK _ _ h1)
  have key : ∀ y c, List.lookup y [(("__class__" : Str), cc)] = some c → y = "__class__" ∧ c = cc := by
    intro y c e
    have := PySem.mem_of_lookup e
    simp at this
    exact this
  refine ⟨rfl, fun y c e => ?_, fun x y c e1 e2 => (key x c e1).1.trans (key y c e2).1.symm, fun i y hi => ?_⟩
  · obtain ⟨_, rfl⟩ := key y c e
    exact ⟨hb.2, _, occ, hb.1, h2⟩
  · cases i with
    | zero =>
      have e : y = "__class__" := by simpa using hi.symm
      subst e
      exact ⟨cc, rfl, fun v hv => by simp at hv⟩
    | succ i => simp at hi
theorem getD_args {w : Wd} {H : Hp} : ∀ {ds : List D} {ws : List V}, RelDs K w H ds ws → excArgs ds = true → ∀ i, i < ds.length → ∃ v d, ws[i]? = some v ∧ RelD K w H d v ∧ excArg d = true := fun {ds ws} r x i hi => by
  obtain ⟨v, h1, h2⟩ := r.get (List.getElem?_eq_getElem hi)
  exact ⟨v, _, h1, h2, List.all_eq_true.mp x _ (List.getElem_mem hi)⟩
theorem ini_fn {CX : CXT} {k : Nat} (S : IniS P sv ps params body scope) (F : IniD P K C f qual params body scope fd) (T : ClsI K C f ps) (hm : mg "super" = none) : FnOk P w K mg base CX (k + 1) f fd (sv :: ps) (spI K C ps) := by
  refine ⟨fun vs H Q E h => ?_, fun A outer s H args us vs Q E hr e0 hb r hsp => ?_⟩
  · obtain ⟨a, w, ds, ws, rfl, _, r, _, hl, _⟩ := h
    have := r.length
    simp [← this, hl]
  · obtain ⟨oc, od, kV, doc, pm, an, cda, ct, cc, osl, ocd, cvs, file, tf, occ, rfl, lk, hcd, c1, c2, c3, c4, l1, l2⟩ := F.ex
    obtain ⟨a, w0, ds, ws, rfl, ha, rel, hx, hdl, q⟩ := hsp
    have hwl : ws.length = ps.length := by
      have := rel.length
      omega
    have X₀ : K.In s.heap := fun b o z => (e0.bs _ _ (e0.mod.kin b o z)).1
    have lim : s.heap.NoLimit := e0.mod.nolimit.keeps fun b o e => (e0.bs b o e).1
    obtain ⟨p0, p1, p2, p3, p4, msg, ss, eb, hmsg, hline, hst⟩ := bodyB_inv S.body
    refine ks_codeAny_call_defAt (fd := PySem.W.ksFn "__init__" qual params body scope .none kV doc pm an (.ref cda) ct cc) (body := body) (binds := (sv :: ps).zip us) hr.depth (X₀ _ _ lk) rfl lim (PySem.W.codeRec_of X₀ hcd) rfl hb S.sc.nocell
      (fun x hx => S.sc.par _ (List.of_mem_zip hx).1) (fun h₁ hns kp => ?_) S.sc.co S.sc.gen S.sc.kind
    let NFx : NF := ⟨"__init__", qual, params, body, scope, [("__class__", cc)], cda⟩
    have I : Inv (ncx CX P w K mg base (sv :: (ps ++ [("__class__" : Str)])) NFx f A outer s H E) [] (startF (sv :: (ps ++ [("__class__" : Str)])) (.ref a :: ws) [none]) H { s with heap := h₁, toks := s.toks + ((sv :: ps).zip us).length } :=
      inv_startN (fr := ["__class__"]) (ps := sv :: ps) S.sc hr.hd e0 (by simp [hwl]) r (cellsAt_init e0.mod.kin e0.bs l1 l2) hns kp
    have nx : NamX (ncx CX P w K mg base (sv :: (ps ++ [("__class__" : Str)])) NFx f A outer s H E) sv ps := by
      have pl := List.all_eq_true.mp S.plain
      have pl' : ∀ x ∈ sv :: ps, (x == ("__debug__" : Str)) = false ∧ (x == ("__classdict__" : Str)) = false := fun x hx => by
        have := pl x hx
        simpa using this
      refine ⟨rfl, S.sc.par sv List.mem_cons_self, pl' sv List.mem_cons_self, S.nd, fun i x hi => ⟨?_, S.sc.par x (List.mem_cons_of_mem _ (List.mem_of_getElem? hi)), pl' x (List.mem_cons_of_mem _ (List.mem_of_getElem? hi))⟩⟩
      show (sv :: (ps ++ [("__class__" : Str)]))[i + 1]? = some x
      rw [List.getElem?_cons_succ, List.getElem?_append_left (List.getElem?_eq_some_iff.mp hi).1]
      exact hi
    have sx : SupX (ncx CX P w K mg base (sv :: (ps ++ [("__class__" : Str)])) NFx f A outer s H E) C sv := by
      obtain ⟨ar, h1, h2⟩ := S.head
      exact ⟨S.sup, S.sc.frk _ List.mem_cons_self, ⟨f, _, _, ar, rfl, lk, rfl, h1, h2⟩, ⟨cda, ocd, cvs, file, tf, rfl, c1, c2, c3, c4⟩, S.top, hm, ⟨cc, occ, rfl, l1, l2⟩, S.sc.par sv List.mem_cons_self, rfl, T.noOp, T.own, T.ve, T.up⟩
    have hσ : ∀ j v, ws[j]? = some v → (startF (sv :: (ps ++ [("__class__" : Str)])) (.ref a :: ws) [none])[1 + j]? = some (some v) := fun j v hv => by
      unfold startF
      rw [List.map_cons, List.cons_append, Nat.add_comm, List.getElem?_cons_succ, List.getElem?_append_left (by rw [List.length_map]; exact (List.getElem?_eq_some_iff.mp hv).1), List.getElem?_map, hv]
      rfl
    have h0 : (startF (sv :: (ps ++ [("__class__" : Str)])) (.ref a :: ws) [none])[0]? = some (some (.ref a)) := rfl
    have aa : ArgsAt K (startF (sv :: (ps ++ [("__class__" : Str)])) (.ref a :: ws) [none]) H ps.length := fun i hi => by
      obtain ⟨v, d, h1, h2, h3⟩ := getD_args rel hx i (by omega)
      exact ⟨v, d, w0, by rw [Nat.add_comm]; exact hσ i v h1, h2, h3⟩
    have hrm : Room k (ncx CX P w K mg base (sv :: (ps ++ [("__class__" : Str)])) NFx f A outer s H E).A := hr.deeper _
    obtain ⟨tm, hm1, hm2⟩ := msg_ok hrm nx hmsg
    obtain ⟨pl, hpl⟩ := msg_call hmsg (env := (ncx CX P w K mg base (sv :: (ps ++ [("__class__" : Str)])) NFx f A outer s H E).env) (p0 := p0) (p1 := p1) hline
    have hss := stores_ok nx (l := ps) (i := 0) (fun j x hx => by rw [Nat.zero_add]; exact hx) hst
    have run := sup_stmt (p4 := p4) (body := body) sx T.ox I h0 ha hm1 (fun Q q => hm2 _ _ aa Q q) (msg_star hmsg) hpl
    have env_eq : callEnv (PySem.W.ksFn "__init__" qual params body scope .none kV doc pm an (.ref cda) ct cc) s.heap.objs.size f = envF NFx f s.heap.objs.size := rfl
    rw [env_eq]
    have ebx : execs body (envF NFx f s.heap.objs.size) = execs (.Expr (.Call (.Attribute (.Call (.Name "super" p0) [] [] p1) "__init__" p2) [msg] [] p3) p4 :: ss) (envF NFx f s.heap.objs.size) := congrArg (fun b => execs b (envF NFx f s.heap.objs.size)) eb
    rw [ebx]
    refine ks_wpAt_execs_cons (ks_wpAt_mono run (fun fl s' hs => ?_) fun e s' h => h)
    obtain ⟨rfl, J⟩ := hs
    have fin : tSts K 1 ps { nx := fun _ H' => Q .non H', rt := Q } (startF (sv :: (ps ++ [("__class__" : Str)])) (.ref a :: ws) [none]) H := by
      cases ps with
      | nil => exact q.1 rfl
      | cons x l =>
        obtain ⟨v, ws, rfl⟩ : ∃ v t, ws = v :: t := by
          cases ws with
          | nil => simp at hwl
          | cons v t => exact ⟨v, t, rfl⟩
        have hwl' : l.length = ws.length := by simpa using hwl.symm
        refine sts_new T.ox hwl' T.fld h0 hσ ha (by have := S.few; simp at this; omega) fun d hd ne => ?_
        have eH : L2.upd (L2.upd (L2.upd H d (exd d [(x, v)])) a (exo a C (some d))) d (exd d ((l.zip ws).reverse ++ [(x, v)])) = L2.upd (L2.upd H d (exd d ((l.zip ws).reverse ++ [(x, v)]))) a (exo a C (some d)) := by
          funext b
          by_cases hb : b = d
          · rw [hb, upd_same, upd_ne ne, upd_same]
          · rw [upd_ne hb]
            by_cases hba : b = a
            · rw [hba, upd_same, upd_same]
            · rw [upd_ne hba, upd_ne hba, upd_ne hb, upd_ne hb]
        rw [eH]
        refine q.2 (fun z => nomatch z) d _ hd ne fun g => ?_
        have : (((x, v) :: l.zip ws).map (·.1)).Nodup := by
          have e : ((x, v) :: l.zip ws).map (·.1) = x :: l := by
            rw [List.map_cons, List.map_fst_zip (by omega)]
          rw [e]
          exact S.nd
        have := lookup_rev (f := g) this
        rw [List.reverse_cons] at this
        exact this
    refine wpAt_of_wpAny (wpAny_mono (hss.run [] s' _ H _ J fin) (fun fl s' hs => ?_) fun e s' hs => hs)
    have fin2 : ∀ {σ' : L2.St} {H' : Hp} {v' : V} {u : Value}, Inv (ncx CX P w K mg base (sv :: (ps ++ [("__class__" : Str)])) NFx f A outer s H E) [] σ' H' s' → L2.RelV v' u → Q v' H' → L2.CE outer P w H s Q u s' :=
      fun {σ' H' v' u} J rv q => ⟨v', H', J.os, J.bare, J.base, J.hok, rv, q⟩
    cases fl with
    | ret u =>
      obtain ⟨v', σ', H', J, rv, q⟩ := hs
      exact fin2 J rv q
    | next =>
      obtain ⟨σ', H', J, q⟩ := hs
      exact fin2 (v' := V.non) (u := Value.none) J rfl q
    | brk =>
      obtain ⟨_, _, _, q⟩ := hs
      exact False.elim q
    | cont =>
      obtain ⟨_, _, _, q⟩ := hs
      exact False.elim q
theorem strs_stay {w : Wd} {H : Hp} {a : Addr} {o : HO} : ∀ {ds : List D} {vs : List V}, RelDs K w H ds vs → ds.all excStr = true → RelDs K w (L2.upd H a o) ds vs
  | [], vs, h, _ => h
  | d :: ds, _, h, x => by
    obtain ⟨v, vs, rfl, h1, h2⟩ := h
    rw [List.all_cons, Bool.and_eq_true] at x
    cases d with
    | str s => exact ⟨v, vs, rfl, h1, strs_stay h2 x.2⟩
    | _ => cases x.1
theorem arg_stay {w : Wd} {H : Hp} {a : Addr} {o : HO} (ha : H a = none) {d : D} {v : V} (h : RelD K w H d v) (x : excArg d = true) : RelD K w (L2.upd H a o) d v := by
  cases d with
  | int i => exact h
  | str s => exact h
  | tup ds =>
    obtain ⟨b, xs, rfl, ht, hr⟩ := (show ∃ a xs, v = .ref a ∧ TupAt K w H a xs ∧ RelDs K w H ds xs from h)
    have x : (ds.all excStr && decide (ds.length ≤ 100)) = true := x
    rw [Bool.and_eq_true] at x
    refine ⟨b, xs, rfl, ?_, strs_stay hr x.1⟩
    show L2.upd H a o b = some (.tup xs)
    rw [upd_ne (ne_of_none (show H b = some (.tup xs) from ht) ha)]
    exact ht
  | _ => cases x
theorem args_stay {w : Wd} {H : Hp} {a : Addr} {o : HO} (ha : H a = none) : ∀ {ds : List D} {vs : List V}, RelDs K w H ds vs → excArgs ds = true → RelDs K w (L2.upd H a o) ds vs
  | [], vs, h, _ => h
  | d :: ds, _, h, x => by
    obtain ⟨v, vs, rfl, h1, h2⟩ := h
    unfold excArgs at x
    rw [List.all_cons, Bool.and_eq_true] at x
    exact ⟨v, vs, rfl, arg_stay ha h1 x.1, args_stay ha h2 x.2⟩
def upA (ta : TA) : TA := fun σ H Q => ∃ Q' : List V → Hp → Prop, (∀ vs H1, Q' vs H1 → Q vs H1) ∧ ta σ H Q'
theorem pa_up {X : Cx} {es : List Expr} {ta : TA} (h : PA X es ta) : PA X es (upA ta) := ⟨fun pos pins s σ H Q I q => by
  obtain ⟨Q', hq, q⟩ := q
  exact thn (h.run pos pins s σ H _ I q) fun us s1 ⟨vs, H1, I1, r, q1⟩ => ⟨vs, H1, I1, r, hq _ _ q1⟩⟩
/-- C(e, ..) -/
theorem exc_ok {X : Cx} {c : Str} (S : IniS X.prog sv ps params body scope) (F : IniD X.prog X.K (He.ga X.K c) f qual params body scope fd) (T : ClsI X.K (He.ga X.K c) f ps) (hne : ps ≠ []) (hm : X.mg "super" = none)
    (hb : ∀ (kV doc pm : Value) (an : Option Addr) (cda : Value) (ct : Value) (cc : Addr) (us : List Value), us.length = (sv :: ps).length → bindArgs (PySem.W.ksFn "__init__" qual params body scope .none kV doc pm an cda ct cc) ⟨us, []⟩ = pure ((sv :: ps).zip us))
    (hr : Room 2 X.A) (hg : Gl X c) (hc : X.mg c = some (.ref (He.ga X.K c))) (hdb : (c == ("__debug__" : Str)) = false) : ExcOk X c ps := by
  intro es ta p pos hst hlen ha
  cases es with
  | nil => exact absurd (List.length_eq_zero_iff.mp hlen.symm) hne
  | cons e es =>
    have hst' := hst
    rw [List.all_cons, Bool.and_eq_true] at hst'
    have bind : Binds X.K fd (sv :: ps) [] := by
      obtain ⟨_, _, kV, doc, pm, an, cda, ct, cc, _, _, _, _, _, _, rfl, _⟩ := F.ex
      exact .all (hb kV doc pm an (.ref cda) ct cc)
    have F1 : FnOk X.prog X.w X.K X.mg X.base (fun _ _ _ _ _ _ => False) 1 f fd (sv :: ps) (spI X.K (He.ga X.K c) ps) := ini_fn (k := 0) S F T hm
    have M := pmk_oex (X := X) (p := p) (pos := pos) T.ox T.iC T.tI F1 hr bind .nil (fun pins σ H s e s' _ z => z.elim) hg hc (pa_up ha) hdb (starEach_cons hst'.1) (backTo_any hst'.2)
    intro pins s σ H Q I q
    refine M pins s σ H Q I ⟨_, fun vs H1 hq => ?_, q⟩
    obtain ⟨w, ds, r, hx, hl, _, q⟩ := hq
    have hvl : vs.length = ps.length := by rw [← r.length]; exact hl
    refine ⟨by have := S.few; omega, fun a hn => ⟨a, w, ds, vs, by simp, upd_same, args_stay hn r hx, hx, hl, fun z => absurd z hne, fun _ d gs hd ne hgs => ⟨rfl, d, gs, upd_same, ?_, ?_, ?_⟩⟩⟩
    · rw [upd_ne ne, upd_same]
    · rw [upd_ne ne] at hd
      exact hd
    · have hd' : H1 d = none := by
        rw [upd_ne ne] at hd
        exact hd
      have e : L2.upd (del (L2.upd (L2.upd (L2.upd H1 a (exo a (He.ga X.K c) none)) d (exd d gs)) a (exo a (He.ga X.K c) (some d))) a) d (.xd gs) = L2.upd H1 d (.xd gs) := by
        funext b
        by_cases hbd : b = d
        · rw [hbd, upd_same, upd_same]
        · rw [upd_ne hbd, upd_ne hbd]
          by_cases hba : b = a
          · rw [hba, del_same, hn]
          · rw [del_ne hba, upd_ne hba, upd_ne hbd, upd_ne hba]
      rw [e]
      exact q hne d gs hd' hgs
end
end HM

set_option Elab.async false
set_option linter.all false
set_option maxRecDepth 100000
set_option maxHeartbeats 4000000
/-! an exception of an own class as a value -/
namespace HM
open PySem PySem.Spec L2
open PyProof.Rows
section
variable {X : Cx} {e : Expr} {es : List Expr} {ta : TA} {p pos : Pos}
/-- C(..) is a value: a new exception, as its __init__ left it -/
def tExnV (C : Addr) (sp : Sp) (ta : TA) : TE := fun σ H Q => ta σ H fun vs H1 => vs.length ≤ 1000 ∧ ∀ a, H1 a = none → sp (.ref a :: (vs ++ [])) (L2.upd H1 a (exo a C none)) (fun v H2 => v = .non ∧ Q (.ref a) H2) fun _ _ _ => False
theorem pe_oexV {x : Str} {C f : Addr} {k : Nat} {fd : FuncData} {ps : List Str} {sp : Sp} (T : OexC X.K C) (iC : PySem.W.findIn X.K (.ref C) "__init__" = some (some (.ref f))) (tI : PySem.W.typeIn X.K (.ref f) = some (.type "function"))
    (F1 : FnOk X.prog X.w X.K X.mg X.base (fun _ _ _ _ _ _ => False) k f fd ps sp) (hr : Room (k + 1) X.A) (hb : Binds X.K fd ps []) (hg : Gl X x) (hm : X.mg x = some (.ref C)) (ha : PA X (e :: es) ta)
    (hdb : (x == ("__debug__" : Str)) = false) (he : starEach (e :: es) X.env = (false, eval e X.env) :: starEach es X.env) (hpl : (backTo pos (starEach es X.env)).any (·.1) = false) :
    PE X (.Call (.Name x p) (e :: es) [] pos) (tExnV C sp ta) := by
  refine ⟨fun pins s σ H Q I h => ?_⟩
  obtain ⟨t1, t2, t3, t4, bm, t6, t7, t8, t9, t10, t11, t12, t13, t14, t15, hC, hbm⟩ := T.cls
  refine wpAny_Call_Name_kw (ld_glob I hg hm ?_ hdb)
  refine PySem.W.callWith_K (h₀ := X.base) I.ok.mod.kin T.kC (thn (ha.run pos pins s σ H _ I h) fun us sA ⟨vs, H1, I1, r1, hz, q1⟩ => ⟨I1.kIn, ?_⟩) he hpl
  show wpAny _ _ (call (Value.ref C) us) _ _ _
  obtain ⟨hp, gg, dr, tk, os⟩ := sA
  have hn : H1 (hp.objs.size + 1) = none := I1.hok.fresh (Nat.le_succ _)
  have hq := q1 (hp.objs.size + 1) hn
  have keep : ∀ b o, hp.get? b = some o → ((hp.push (PySem.W.kdv_tup us)).push (PySem.HandSPX.excO C hp.objs.size)).get? b = some o := fun b o z => Heap.get?_push_of_some _ (Heap.get?_push_of_some _ z)
  have there : ((hp.push (PySem.W.kdv_tup us)).push (PySem.HandSPX.excO C hp.objs.size)).get? (hp.objs.size + 1) = some (PySem.HandSPX.excO C hp.objs.size) := by heap_get
  have J : Inv X pins σ (L2.upd H1 (hp.objs.size + 1) (exo (hp.objs.size + 1) C none)) ⟨(hp.push (PySem.W.kdv_tup us)).push (PySem.HandSPX.excO C hp.objs.size), gg, dr, tk, os⟩ :=
    I1.laid (t' := tk) (a := hp.objs.size + 1) (o := exo (hp.objs.size + 1) C none) (h' := (hp.push (PySem.W.kdv_tup us)).push (PySem.HandSPX.excO C hp.objs.size)) keep (Nat.le_succ _) (exo_ok there)
  have rr : Vals (V.ref (hp.objs.size + 1) :: (vs ++ [])) (Value.ref (hp.objs.size + 1) :: (us ++ [])) := .cons rfl (r1.append .nil)
  have hl : (Value.ref (hp.objs.size + 1) :: us ++ []).length = ps.length := by
    have z := rr.length
    rw [F1.len _ _ _ _ hq] at z
    exact z.symm
  have hus : us.length ≤ sizeLine := by
    rw [← Paired.length r1, sizeLine_eq]
    omega
  have bnd : BindsTo ⟨(hp.push (PySem.W.kdv_tup us)).push (PySem.HandSPX.excO C hp.objs.size), gg, dr, tk, os⟩ fd ⟨Value.ref (hp.objs.size + 1) :: us, []⟩ (ps.zip (Value.ref (hp.objs.size + 1) :: (us ++ []))) := by
    have z := hb _ (Value.ref (hp.objs.size + 1) :: us) J.kIn hl
    rw [List.cons_append] at z
    exact z
  have run := F1.run (X.A.under (.builtin "type.__call__" ⟨.ref C :: us, []⟩)) X.stack _ _ ⟨Value.ref (hp.objs.size + 1) :: us, []⟩ (Value.ref (hp.objs.size + 1) :: (us ++ [])) _ _ (fun _ _ _ => False) (hr.make C us []) (J.env0.make C us []) bnd rr hq
  refine wpAny_call (PySem.HandSPX.call_own F.excBase_ValueError (fun Y => PySem.HandSPX.refsVE_contains Y bm hbm) (I1.kIn _ _ hC) (PySem.W.looks_findIn I1.kIn iC) (fun self => PySem.W.bind_fn I1.kIn self tI) hus (codeAny_mono run fun r s' hq' => ?_))
  cases r with
  | error er => exact False.elim hq'
  | ok fl =>
    cases fl with
    | ret u =>
      obtain ⟨v, H2, I2, rv, ev, q2⟩ := J.after hq'
      subst ev
      exact ⟨rv, .ref (hp.objs.size + 1), H2, I2, rfl, q2⟩
    | next => exact False.elim hq'
    | brk => exact False.elim hq'
    | cont => exact False.elim hq'
/-- C(), C without arguments -/
theorem pe_oexV0 {x : Str} {C f : Addr} {k : Nat} {fd : FuncData} {ps : List Str} {sp : Sp} (T : OexC X.K C) (iC : PySem.W.findIn X.K (.ref C) "__init__" = some (some (.ref f))) (tI : PySem.W.typeIn X.K (.ref f) = some (.type "function"))
    (F1 : FnOk X.prog X.w X.K X.mg X.base (fun _ _ _ _ _ _ => False) k f fd ps sp) (hr : Room (k + 1) X.A) (hb : Binds X.K fd ps []) (hg : Gl X x) (hm : X.mg x = some (.ref C))
    (hdb : (x == ("__debug__" : Str)) = false) :
    PE X (.Call (.Name x p) [] [] pos) (tExnV C sp tNil) := by
  refine ⟨fun pins s σ H Q I h => ?_⟩
  obtain ⟨t1, t2, t3, t4, bm, t6, t7, t8, t9, t10, t11, t12, t13, t14, t15, hC, hbm⟩ := T.cls
  refine wpAny_Call_Name_kw (ld_glob I hg hm ?_ hdb)
  refine PySem.W.callWith_K0 I.kIn T.kC ?_
  obtain ⟨hz, q1⟩ : ([] : List V).length ≤ 1000 ∧ ∀ a, H a = none → sp (.ref a :: ([] ++ [])) (L2.upd H a (exo a C none)) (fun v H2 => v = .non ∧ Q (.ref a) H2) fun _ _ _ => False := h
  obtain ⟨hp, gg, dr, tk, os⟩ := s
  have hn : H (hp.objs.size + 1) = none := I.hok.fresh (Nat.le_succ _)
  have hq := q1 (hp.objs.size + 1) hn
  have keep : ∀ b o, hp.get? b = some o → ((hp.push (PySem.W.kdv_tup [])).push (PySem.HandSPX.excO C hp.objs.size)).get? b = some o := fun b o z => Heap.get?_push_of_some _ (Heap.get?_push_of_some _ z)
  have there : ((hp.push (PySem.W.kdv_tup [])).push (PySem.HandSPX.excO C hp.objs.size)).get? (hp.objs.size + 1) = some (PySem.HandSPX.excO C hp.objs.size) := by heap_get
  have J : Inv X pins σ (L2.upd H (hp.objs.size + 1) (exo (hp.objs.size + 1) C none)) ⟨(hp.push (PySem.W.kdv_tup [])).push (PySem.HandSPX.excO C hp.objs.size), gg, dr, tk, os⟩ :=
    I.laid (t' := tk) (a := hp.objs.size + 1) (o := exo (hp.objs.size + 1) C none) (h' := (hp.push (PySem.W.kdv_tup [])).push (PySem.HandSPX.excO C hp.objs.size)) keep (Nat.le_succ _) (exo_ok there)
  have rr : Vals (V.ref (hp.objs.size + 1) :: ([] ++ [])) [Value.ref (hp.objs.size + 1)] := .cons rfl .nil
  have hl : ([Value.ref (hp.objs.size + 1)] ++ []).length = ps.length := by
    have z := rr.length
    rw [F1.len _ _ _ _ hq] at z
    exact z.symm
  have run := F1.run (X.A.under (.builtin "type.__call__" ⟨[.ref C], []⟩)) X.stack _ _ ⟨[Value.ref (hp.objs.size + 1)], []⟩ [Value.ref (hp.objs.size + 1)] _ _ (fun _ _ _ => False) (hr.make C [] []) (J.env0.make C [] []) (hb _ [Value.ref (hp.objs.size + 1)] J.kIn hl) rr hq
  refine wpAny_call (PySem.HandSPX.call_own F.excBase_ValueError (fun Y => PySem.HandSPX.refsVE_contains Y bm hbm) (I.kIn _ _ hC) (PySem.W.looks_findIn I.kIn iC) (fun self => PySem.W.bind_fn I.kIn self tI) (Nat.zero_le _) (codeAny_mono run fun r s' hq' => ?_))
  cases r with
  | error er => exact False.elim hq'
  | ok fl =>
    cases fl with
    | ret u =>
      obtain ⟨v, H2, I2, rv, ev, q2⟩ := J.after hq'
      subst ev
      exact ⟨rv, .ref (hp.objs.size + 1), H2, I2, rfl, q2⟩
    | next => exact False.elim hq'
    | brk => exact False.elim hq'
    | cont => exact False.elim hq'
/-! ### as data -/
theorem exn_ok {sv : Str} {ps : List Str} {params : Arguments} {body : List Stmt} {scope : Scope} {f : Addr} {qual : Str} {fd : FuncData} {c : Str} (S : IniS X.prog sv ps params body scope) (F : IniD X.prog X.K (He.ga X.K c) f qual params body scope fd) (T : ClsI X.K (He.ga X.K c) f ps) (hm : X.mg "super" = none)
    (hb : ∀ (kV doc pm : Value) (an : Option Addr) (cda : Value) (ct : Value) (cc : Addr) (us : List Value), us.length = (sv :: ps).length → bindArgs (PySem.W.ksFn "__init__" qual params body scope .none kV doc pm an cda ct cc) ⟨us, []⟩ = pure ((sv :: ps).zip us))
    (hr : Room 2 X.A) (hg : Gl X c) (hc : X.mg c = some (.ref (He.ga X.K c))) (hdb : (c == ("__debug__" : Str)) = false) : ExnOk X c ps ∧ (ps = [] → ExnOk0 X c) := by
  have bind : Binds X.K fd (sv :: ps) [] := by
    obtain ⟨_, _, kV, doc, pm, an, cda, ct, cc, _, _, _, _, _, _, rfl, _⟩ := F.ex
    exact .all (hb kV doc pm an (.ref cda) ct cc)
  have F1 : FnOk X.prog X.w X.K X.mg X.base (fun _ _ _ _ _ _ => False) 1 f fd (sv :: ps) (spI X.K (He.ga X.K c) ps) := ini_fn (k := 0) S F T hm
  have hfew := S.few
  have swap : ∀ {H1 : Hp} {a d : Addr} {gs : List (Str × V)}, d ≠ a → L2.upd (L2.upd (L2.upd H1 a (exo a (He.ga X.K c) none)) d (exd d gs)) a (exo a (He.ga X.K c) (some d)) = L2.upd (L2.upd H1 a (exo a (He.ga X.K c) (some d))) d (exd d gs) := fun {H1 a d gs} ne => by
    funext b
    by_cases hbd : b = d
    · rw [hbd, upd_ne ne, upd_same, upd_same]
    · rw [upd_ne hbd (H := L2.upd H1 a (exo a (He.ga X.K c) (some d)))]
      by_cases hba : b = a
      · rw [hba, upd_same, upd_same]
      · rw [upd_ne hba, upd_ne hba, upd_ne hbd, upd_ne hba]
  refine ⟨fun es ta p pos hst hlen hes ha => ?_, fun e0 p pos => ?_⟩
  rotate_left
  · subst e0
    exact PE.imp (pe_oexV0 (p := p) (pos := pos) T.ox T.iC T.tI F1 hr bind hg hc hdb) fun σ H Q t => ⟨Nat.zero_le _, fun a hn => ⟨a, ⟨fun _ => none, fun _ => 0⟩, [], [], rfl, upd_same, rfl, rfl, rfl, fun _ => ⟨rfl, t a hn⟩, fun z => absurd rfl z⟩⟩
  cases es with
  | nil => exact absurd rfl hes
  | cons e es =>
    have hst' := hst
    rw [List.all_cons, Bool.and_eq_true] at hst'
    refine PE.imp (pe_oexV (p := p) (pos := pos) T.ox T.iC T.tI F1 hr bind hg hc (pa_up ha) hdb (starEach_cons hst'.1) (backTo_any hst'.2)) fun σ H Q t => ⟨_, fun vs H1 hq => ?_, t⟩
    obtain ⟨w, ds, r, hx, hl, q1⟩ := hq
    have hvl : vs.length = ps.length := by rw [← r.length]; exact hl
    have hne : ps ≠ [] := fun z => by rw [z] at hlen; cases hlen
    refine ⟨by omega, fun a hn => ⟨a, w, ds, vs, by simp, upd_same, args_stay hn r hx, hx, hl, fun z => absurd z hne, fun _ d gs hd ne hgs => ⟨rfl, ?_⟩⟩⟩
    have hd' : H1 d = none := by
      rw [upd_ne ne] at hd
      exact hd
    rw [swap ne]
    exact q1 a d gs hn hd' ne hgs
end
end HM

set_option Elab.async false
set_option linter.all false
set_option maxRecDepth 100000
set_option maxHeartbeats 4000000
namespace HM
open PySem PySem.Spec L2
open He (ba ga ma fAd)
/-- an exception class of the text with its own __init__ -/
structure XD where
  c : Str
  sv : Str
  ps : List Str
  qual : Str
  params : Arguments
  body : List Stmt
  scope : Scope
abbrev XW : Type := Option (Str × Str × Arguments × FuncBody × Scope × Addr × List Str × Addr)
def xW (K : PySem.W.Frag) (p : Str × Option Str) : XW := match K.lookup (fAd K p) with
  | some ⟨_, _, .func fd, _⟩ => some (fd.name, fd.qualname, fd.params, fd.body, fd.scope, fd.globals, fd.closure.map (·.1), fd.builtins)
  | _ => none
def XD.at_ (x : XD) : Str × Option Str := (x.c, some "__init__")
def XD.val (x : XD) : XW := some ("__init__", x.qual, x.params, .stmts x.body, x.scope, mainGlobals, ["__class__"], builtinsNs)
def oexB (K : PySem.W.Frag) (C : Addr) : Bool := (match K.lookup C with
  | some ⟨.type t, _, .cls cd, sl⟩ => (match cd.mro, sl.toList with
    | .ref C' :: bm, [_, _, _, _, some (.builtin n), _] => (t == "type") && ((C' == C) && ((n == "ValueError.__new__") && (!cd.hasDel && (cd.hasDict && PySem.HandSPX.refsVE bm))))
    | _, _ => false)
  | _ => false) && (decide (PySem.W.findIn K (.ref C) "__setattr__" = some (some (.builtin "object.__setattr__"))) && (decide (PySem.W.subIn K (.ref C) (.type "BaseException") = some true) && (decide (PySem.W.typeIn K (.ref C) = some (.type "type")) && PySem.W.keepIn K (.ref C))))
theorem oexB_ok {K : PySem.W.Frag} {C : Addr} (h : oexB K C = true) : OexC K C := by
  obtain ⟨h1, h⟩ := ba h
  obtain ⟨h2, h⟩ := ba h
  obtain ⟨h3, h⟩ := ba h
  obtain ⟨h4, h5⟩ := ba h
  refine ⟨?_, of_decide_eq_true h2, of_decide_eq_true h3, of_decide_eq_true h4, h5⟩
  split at h1
  · rename_i t dd cd sl ho
    split at h1
    · rename_i C' bm k0 k1 k2 k3 n k5 hm hs
      simp only [Bool.and_eq_true, beq_iff_eq, Bool.not_eq_true'] at h1
      obtain ⟨rfl, rfl, rfl, hdel, hdict, hr⟩ := h1
      obtain ⟨nm, bs, mro, ns, qn, hdc, sn, sb, ab, col, dl⟩ := cd
      obtain ⟨sl⟩ := sl
      dsimp only at hm hs hdel hdict
      subst hm hs hdel hdict
      exact ⟨_, _, _, _, _, _, _, _, _, _, _, _, _, _, _, ho, hr⟩
    · cases h1
  · cases h1
def fileB (file : Str) : Option Value → Bool
  | some (.str fl _) => file == fl
  | _ => false
theorem fileB_ok {file : Str} {o : Option Value} (h : fileB file o = true) : ∃ fl tf, o = some (.str fl tf) ∧ (file == fl) = true := by
  unfold fileB at h
  split at h
  · exact ⟨_, _, rfl, h⟩
  · cases h
/-- the facts of K behind it -/
def xB (file : Str) (K : PySem.W.Frag) (x : XD) : Bool :=
  oexB K (ga K x.c) && (decide (PySem.W.nsIn K cStatics "thirdparty.any" = some none) && (decide (PySem.W.mroIn K (ga K x.c) (.ref (ga K x.c)) = some true) && (decide (PySem.W.mroIn K (ga K x.c) (.type "ValueError") = some true) &&
  (decide (PySem.W.ks_superIn K (ga K x.c) (ga K x.c) "__init__" = some (some (.builtin "ValueError.__init__"))) && (decide (PySem.W.findIn K (.ref (ga K x.c)) "__init__" = some (some (.ref (fAd K x.at_)))) && (decide (PySem.W.typeIn K (.ref (fAd K x.at_)) = some (.type "function")) &&
  (x.ps.all (fun f => decide (PySem.W.findIn K (.ref (ga K x.c)) f = some none)) && (xfB K (ga K x.c) &&
  (match K.lookup (fAd K x.at_) with
    | some ⟨.type t, _, .func fd, _⟩ => (match fd.code, fd.closure, fd.defaults with
      | .ref cda, [(_, cc)], .none => PySem.W.codeIn K (.ref cda) x.qual && ((match K.lookup cda with
          | some ⟨_, _, .fields vs, _⟩ => fileB file vs[2]?
          | _ => false) && (match K.lookup cc with
          | some ⟨_, _, .cell (some (.ref D)), _⟩ => D == ga K x.c
          | _ => false))
      | _, _, _ => false)
    | _ => false)))))))))
theorem xB_cls {file : Str} {K : PySem.W.Frag} {x : XD} (h : xB file K x = true) : ClsI K (ga K x.c) (fAd K x.at_) x.ps ∧ XfC K (ga K x.c) := by
  obtain ⟨h1, h⟩ := ba h
  obtain ⟨h2, h⟩ := ba h
  obtain ⟨h3, h⟩ := ba h
  obtain ⟨h4, h⟩ := ba h
  obtain ⟨h5, h⟩ := ba h
  obtain ⟨h6, h⟩ := ba h
  obtain ⟨h7, h⟩ := ba h
  obtain ⟨h8, h⟩ := ba h
  obtain ⟨h9, h⟩ := ba h
  exact ⟨⟨oexB_ok h1, of_decide_eq_true h2, of_decide_eq_true h3, of_decide_eq_true h4, of_decide_eq_true h5, of_decide_eq_true h6, of_decide_eq_true h7, fun f hf => of_decide_eq_true (List.all_eq_true.mp h8 f hf)⟩, xfB_ok h9⟩
theorem xB_ini {P : Program} {K : PySem.W.Frag} {x : XD} (h : xB P.main.file K x = true) (e : xW K x.at_ = x.val) : ∃ fd, IniD P K (ga K x.c) (fAd K x.at_) x.qual x.params x.body x.scope fd := by
  obtain ⟨_, h⟩ := ba h
  obtain ⟨_, h⟩ := ba h
  obtain ⟨_, h⟩ := ba h
  obtain ⟨_, h⟩ := ba h
  obtain ⟨_, h⟩ := ba h
  obtain ⟨_, h⟩ := ba h
  obtain ⟨_, h⟩ := ba h
  obtain ⟨_, h⟩ := ba h
  obtain ⟨_, h⟩ := ba h
  unfold xW at e
  cases q : K.lookup (fAd K x.at_) with
  | none =>
    rw [q] at h
    cases h
  | some o =>
    obtain ⟨oc, od, dt, osl⟩ := o
    rw [q] at h e
    cases oc with
    | type t =>
      cases dt with
      | func fd =>
        obtain ⟨n1, n2, n3, n4, n5, n6, n7, n8, n9, n10, n11, n12, n13, n14, n15⟩ := fd
        have e2 : (some (n1, n2, n3, n4, n5, n6, n7.map (·.1), n15) : XW) = (some ((("__init__" : Str)), x.qual, x.params, FuncBody.stmts x.body, x.scope, mainGlobals, [(("__class__" : Str))], builtinsNs) : XW) := e
        simp only [Option.some.injEq, Prod.mk.injEq] at e2
        obtain ⟨h1, h2, h3, h4, h5, h6, h7, h8⟩ := e2
        subst h1 h2 h3 h4 h5 h6 h8
        dsimp only at h
        split at h
        · rename_i cda nm cc
          obtain ⟨k1, h⟩ := ba h
          obtain ⟨k2, k3⟩ := ba h
          have en : nm = "__class__" := by simpa using h7
          subst en
          split at k2
          · rename_i c1 d1 vs s1 l1
            obtain ⟨fl, tf, l2, k2⟩ := fileB_ok k2
            split at k3
            · rename_i c3 d3 D s3 l3
              have eD : D = ga K x.c := by simpa using k3
              exact ⟨_, ⟨_, _, _, _, _, _, _, _, _, _, _, _, _, _, _, rfl, q, k1, l1, rfl, l2, k2, l3, by rw [eD]⟩⟩
            · cases k3
          · cases k2
        · cases h
      | _ => cases h
    | _ => cases h
/-! ### the Hook -/
abbrev AlM : Type := (He.AlD × Bool) × List XW
def obsM (file : Str) (fa : List He.Fa) (fn : List He.DefD) (xs : List XD) (rs : PySem.W.Frag → Bool) (K : PySem.W.Frag) : AlM := ((He.obsD fa fn K, (xs.all fun x => xB file K x) && rs K), xs.map fun x => xW K x.at_)
def valM (fn : List He.DefD) (xs : List XD) : AlM := ((He.valD fn, true), xs.map XD.val)
def obsMG (n : Nat) (file : Str) (fa : List He.Fa) (fn : List He.DefD) (xs : List XD) (rs : PySem.W.Frag → Bool) (g : Addr → Option Obj) : AlM := obsM file fa fn xs rs (He.frG g (cStatics :: He.asD g n))
structure SaysM (file : Str) (fa : List He.Fa) (fn : List He.DefD) (xs : List XD) (rs : PySem.W.Frag → Bool) (K : PySem.W.Frag) : Prop where
  d : He.SaysD fa fn K
  x : ∀ x ∈ xs, xB file K x = true ∧ xW K x.at_ = x.val
  r : rs K = true
theorem saysM_of {file : Str} {fa : List He.Fa} {fn : List He.DefD} {xs : List XD} {rs : PySem.W.Frag → Bool} {K : PySem.W.Frag} (e : obsM file fa fn xs rs K = valM fn xs) : SaysM file fa fn xs rs K := by
  have e1 : He.obsD fa fn K = He.valD fn := congrArg (fun z : AlM => z.1.1) e
  have e2 : ((xs.all fun x => xB file K x) && rs K) = true := congrArg (fun z : AlM => z.1.2) e
  have e3 : xs.map (fun x => xW K x.at_) = xs.map XD.val := congrArg (fun z : AlM => z.2) e
  obtain ⟨h1, h2⟩ := ba e2
  exact ⟨e1, fun x hx => ⟨List.all_eq_true.mp h1 x hx, List.map_inj_left.mp e3 x hx⟩, h2⟩
def hookM (n : Nat) (file : Str) (fa : List He.Fa) (fn : List He.DefD) (xs : List XD) (rs : PySem.W.Frag → Bool) : PySem.W.Hook where
  α := AlM
  obs := fun s => obsMG n file fa fn xs rs s.heap.get?
  val := fun _ => valM fn xs
  says := fun _ h => ∃ K : PySem.W.Frag, K.In h ∧ SaysM file fa fn xs rs K
  of := fun _ _ e => ⟨_, He.frG_in, saysM_of e⟩
  keeps := fun _ _ _ ⟨K, hK, c⟩ k => ⟨K, PySem.W.Frag.In.keeps hK k, c⟩
theorem obsMG_eq {n : Nat} {file : Str} {fa : List He.Fa} {fn : List He.DefD} {xs : List XD} {rs : PySem.W.Frag → Bool} {g : Addr → Option Obj} {s : Shared} (h : ∀ a, g a = s.heap.get? a) : obsMG n file fa fn xs rs g = (hookM n file fa fn xs rs).obs s := by
  have e : g = s.heap.get? := funext h
  rw [e] <;> rfl
end HM

set_option Elab.async false
set_option linter.all false
set_option maxRecDepth 100000
set_option maxHeartbeats 4000000
namespace HM
open PySem PySem.Spec L2
def gfa (p : Str × D) : He.Fa := match p.2 with
  | .int i => .int p.1 i
  | .str s => .str p.1 s
  | _ => .glo p.1
def faOf0 (G : Ge) : List He.Fa := G.fns.map (fun p => He.Fa.glo p.1) ++ (G.exc.map (fun p => He.Fa.glo p.1) ++ (G.free.map He.Fa.free ++ (G.glo.map gfa ++ G.exc.flatMap fun p => G.exc.map fun q => He.Fa.exm p.1 q.1 (decide (p.1 = q.1)))))
/-- isinstance: the classes that are asked for stand in the module, or are built in -/
def isiFa (G : Ge) : List He.Fa := G.isi.filterMap fun p => if G.free.contains p.1 then none else some (He.Fa.glo p.1)
def faOf (G : Ge) : List He.Fa := faOf0 G ++ isiFa G
def excB (K : PySem.W.Frag) (D : Addr) : Bool := decide (PySem.W.findIn K (.ref D) "__getattribute__" = some (some (.builtin "BaseException.__getattribute__"))) && (decide (PySem.W.findIn K (.ref D) "__getattr__" = some none) && (decide (PySem.W.subIn K (.ref D) (.type "BaseException") = some true) && (PySem.W.hasDictIn K D &&
  (decide (PySem.W.findIn K (.ref D) "__class__" = some (some (.builtin "object.__class__"))) && (decide (PySem.W.specialIn K (.builtin "object.__class__") "__get__" = some (some (.builtin "getset_descriptor.__get__"))) && (decide (PySem.W.takesIn K (.builtin "object.__class__") = some true) && decide (PySem.W.mroIn K D (.type "object") = some true)))))))
theorem excB_ok {K : PySem.W.Frag} {D : Addr} (h : excB K D = true) : ExcC K D := by
  obtain ⟨h1, h⟩ := He.ba h
  obtain ⟨h2, h⟩ := He.ba h
  obtain ⟨h3, h⟩ := He.ba h
  obtain ⟨h4, h⟩ := He.ba h
  obtain ⟨h5, h⟩ := He.ba h
  obtain ⟨h6, h⟩ := He.ba h
  obtain ⟨h7, h8⟩ := He.ba h
  exact ⟨of_decide_eq_true h1, of_decide_eq_true h2, of_decide_eq_true h3, h4, of_decide_eq_true h5, of_decide_eq_true h6, of_decide_eq_true h7, of_decide_eq_true h8⟩
def isiV (G : Ge) (K : PySem.W.Frag) (t : Str) : Value := if G.free.contains t then .type "ValueError" else .ref (He.ga K t)
/-- every class of the text is asked against each of them -/
def isiB (G : Ge) (K : PySem.W.Frag) : Bool := G.isi.all fun p => p.2.all fun q => excB K (He.ga K q.1) && decide (PySem.W.kitOne K (.ref (He.ga K q.1)) (isiV G K p.1) = some q.2)
def isConst : D → Bool
  | .int _ => true
  | .str _ => true
  | _ => false
structure RankS (d : PDef) : Prop where
  ex : ∃ (p : Str) (p1 p2 p3 p4 p5 p6 : Pos) (kk : Nat), d.body = [.Return (some (.Tuple [.Call (.Name "len" p1) [.Name p p2] [] p3, .Name p p4] kk p5)) p6] ∧ d.ps = [p] ∧ (∀ y ∈ d.sc.names, y.2 ≠ .cell) ∧ d.sc.names.lookup p = some .local ∧ d.sc.names.lookup ("len" : Str) = some .globalImplicit ∧ (p == ("__debug__" : Str)) = false
/-- what the text itself shows -/
structure Stat (P : Program) (G : Ge) (Ds : List PDef) (xs : List XD) : Prop where
  ok : ∀ d ∈ Ds, d.Ok G
  fns : G.fns = Ds.map fun d => (d.x, d.ms)
  nd : (Ds.map PDef.x).Nodup
  exc : G.exc = xs.map fun x => (x.c, x.ps)
  isi : ∀ p ∈ G.isi, G.free.contains p.1 = true → p.1 = "ValueError"
  ini : ∀ x ∈ xs, IniS P x.sv x.ps x.params x.body x.scope ∧ ∀ (kV doc pm : Value) (an : Option Addr) (cda : Value) (ct : Value) (cc : Addr) (us : List Value), us.length = (x.sv :: x.ps).length → bindArgs (PySem.W.ksFn "__init__" x.qual x.params x.body x.scope .none kV doc pm an cda ct cc) ⟨us, []⟩ = pure ((x.sv :: x.ps).zip us)
  ranks : ∀ r, G.ranks.contains r = true → ∃ d ∈ Ds, d.x = r ∧ RankS d
  sup : G.free.contains "super" = true
  con : G.glo.all (fun p => isConst p.2) = true
section
variable {P : Program} {w : World} {K : PySem.W.Frag} {mg : Str → Option Value} {base h : Heap} {G : Ge} {Ds : List PDef} {xs : List XD}
theorem fa_isi {x : Str} {ans : List (Str × Bool)} (e : (x, ans) ∈ G.isi) (hf : ¬ G.free.contains x = true) : He.Fa.glo x ∈ faOf G := List.mem_append_right _ (List.mem_filterMap.mpr ⟨_, e, if_neg hf⟩)
theorem fa_fn {x : Str} {ms : List Bool} (e : (x, ms) ∈ G.fns) : He.Fa.glo x ∈ faOf G := List.mem_append_left _ <| List.mem_append_left _ (List.mem_map.mpr ⟨_, e, rfl⟩)
theorem fa_exc {x : Str} {ps : List Str} (e : (x, ps) ∈ G.exc) : He.Fa.glo x ∈ faOf G := List.mem_append_left _ <| List.mem_append_right _ (List.mem_append_left _ (List.mem_map.mpr ⟨_, e, rfl⟩))
theorem fa_free {x : Str} (e : x ∈ G.free) : He.Fa.free x ∈ faOf G := List.mem_append_left _ <| List.mem_append_right _ (List.mem_append_right _ (List.mem_append_left _ (List.mem_map.mpr ⟨_, e, rfl⟩)))
theorem fa_glo {p : Str × D} (e : p ∈ G.glo) : gfa p ∈ faOf G := List.mem_append_left _ <| List.mem_append_right _ (List.mem_append_right _ (List.mem_append_right _ (List.mem_append_left _ (List.mem_map.mpr ⟨_, e, rfl⟩))))
theorem fa_exm {p q : Str × List Str} (e : p ∈ G.exc) (e2 : q ∈ G.exc) : He.Fa.exm p.1 q.1 (decide (p.1 = q.1)) ∈ faOf G := List.mem_append_left _ <|
  List.mem_append_right _ (List.mem_append_right _ (List.mem_append_right _ (List.mem_append_right _ (List.mem_flatMap.mpr ⟨p, e, List.mem_map.mpr ⟨q, e2, rfl⟩⟩))))
theorem says_fact {fa : List He.Fa} {fn : List He.DefD} (c : He.SaysD fa fn K) {f : He.Fa} (hf : f ∈ fa) : f.ok K = true := by
  obtain ⟨i, hi, e⟩ := List.mem_iff_getElem.mp hf
  exact He.SaysD.fact c i (f := f) (by rw [List.getElem?_eq_getElem hi, e])
theorem says_def {fa : List He.Fa} {fn : List He.DefD} (c : He.SaysD fa fn K) {d : He.DefD} (hd : d ∈ fn) : ∃ fd, FunD K d.name d.qual d.params d.body d.scope (d.dvs K) (d.kws K) (He.fAd K d.at_) fd := by
  obtain ⟨i, hi, e⟩ := List.mem_iff_getElem.mp hd
  exact He.SaysD.def_ c i (d := d) (by rw [List.getElem?_eq_getElem hi, e])
theorem exm_ok (c : (He.Fa.exm x y b).ok K = true) : PySem.W.exmOne K (.ref (He.ga K x)) (.ref (He.ga K y)) = some b := of_decide_eq_true c
theorem pdef_fd (c : He.SaysD (faOf G) (Ds.map PDef.dd) K) {d : PDef} (hd : d ∈ Ds) : ∃ fd, FunD K d.x d.x d.params d.body d.sc [] [] (He.ga K d.x) fd := says_def c (List.mem_map_of_mem (f := PDef.dd) hd)
theorem rank_of {d : PDef} (ok : d.Ok G) (r : RankS d) {fd : FuncData} (F : FunD K d.x d.x d.params d.body d.sc [] [] (He.ga K d.x) fd) : RankFn K (He.ga K d.x) := by
  obtain ⟨oc, od, dV, kV, doc, pm, an, cdv, ct, osl, rfl, lk, hcd, hD, _⟩ := F.ex
  obtain ⟨p, p1, p2, p3, p4, p5, p6, kk, hb, hps, h1, h2, h3, h4⟩ := r.ex
  have hdV : dV = .none := by
    rcases hD with ⟨_, e⟩ | ⟨e, _⟩
    · exact e
    · exact absurd rfl e
  subst hdV
  refine ⟨⟨oc, od, d.x, d.params, d.sc, .none, kV, doc, pm, an, cdv, ct, osl, p, p1, p2, p3, p4, p5, p6, kk, ?_, hcd, ok.scope.kind, ok.scope.co, ok.scope.gen, h1, h2, h3, h4, fun u => ?_⟩, F.kp⟩
  · rw [← hb]
    exact lk
  · rw [← hb]
    have := ok.bind kV doc pm an cdv ct [u] (by rw [hps]; rfl)
    rw [this, hps]
    rfl
theorem env1_of (S : Stat P G Ds xs) (c : SaysM P.main.file (faOf G) (Ds.map PDef.dd) xs (isiB G) K) (X : K.In h) (N : h.Ns mainGlobals mg) : Env1 P w K mg base G where
  glo := fun x d e => by
    have hm := PySem.mem_of_lookup e
    have f := says_fact c.d (fa_glo hm)
    have hc := List.all_eq_true.mp S.con _ hm
    cases d with
    | int i =>
      obtain ⟨t, h⟩ := He.int_ok X N (x := x) (i := i) f
      exact ⟨.int i, _, h, ⟨t, rfl⟩, fun _ _ => rfl⟩
    | str s =>
      obtain ⟨t, h⟩ := He.str_ok X N (x := x) (z := s) f
      exact ⟨.str s, _, h, ⟨t, rfl⟩, fun _ _ => rfl⟩
    | _ => cases hc
  free := fun x e => He.free_ok X N (says_fact c.d (fa_free (List.contains_iff_mem.mp e)))
  rank := fun x e => by
    obtain ⟨d, hd, rfl, r⟩ := S.ranks x e
    obtain ⟨fd, F⟩ := pdef_fd c.d hd
    exact ⟨_, He.glo_ok X N (says_fact c.d (fa_fn (ms := d.ms) (by rw [S.fns]; exact List.mem_map.mpr ⟨d, hd, rfl⟩))), rank_of (S.ok d hd) r F⟩
  nam := fun a ps e => He.glo_ok X N (says_fact c.d (fa_exc (PySem.mem_of_lookup e)))
  xf := fun a ps e => by
    have hm := PySem.mem_of_lookup e
    rw [S.exc] at hm
    obtain ⟨x, hx, e2⟩ := List.mem_map.mp hm
    cases e2
    obtain ⟨h1, h2⟩ := xB_cls (c.x x hx).1
    exact ⟨h2, fun f hf => h1.fld f (List.contains_iff_mem.mp hf)⟩
  exm := fun a d ps qs e1 e2 => exm_ok (says_fact c.d (fa_exm (PySem.mem_of_lookup e1) (PySem.mem_of_lookup e2)))
  isi := fun t ans e => by
    have hm := PySem.mem_of_lookup e
    have hr := List.all_eq_true.mp c.r _ hm
    by_cases hf : G.free.contains t = true
    · have et : t = "ValueError" := S.isi _ hm hf
      refine ⟨.ty "ValueError", .type "ValueError", .inr ⟨He.free_ok X N (says_fact c.d (fa_free (List.contains_iff_mem.mp hf))), "ValueError", by rw [et]; exact PyProof.Rows.Boot.«ValueError», rfl, rfl⟩, fun a b ea => ?_⟩
      have h1 := List.all_eq_true.mp hr _ (PySem.mem_of_lookup ea)
      obtain ⟨h2, h3⟩ := He.ba h1
      have h4 := of_decide_eq_true h3
      unfold isiV at h4
      rw [if_pos hf] at h4
      exact ⟨excB_ok h2, h4⟩
    · refine ⟨.ref (He.ga K t), .ref (He.ga K t), .inl ⟨He.glo_ok X N (says_fact c.d (fa_isi hm hf)), rfl, rfl⟩, fun a b ea => ?_⟩
      have h1 := List.all_eq_true.mp hr _ (PySem.mem_of_lookup ea)
      obtain ⟨h2, h3⟩ := He.ba h1
      have h4 := of_decide_eq_true h3
      unfold isiV at h4
      rw [if_neg hf] at h4
      exact ⟨excB_ok h2, h4⟩
  exn := fun a ps e Y h1 h2 h3 h4 h5 hr hg hdb => by
    have nam : mg a = some (.ref (He.ga K a)) := He.glo_ok X N (says_fact c.d (fa_exc (PySem.mem_of_lookup e)))
    have sup : mg "super" = none := He.free_ok X N (says_fact c.d (fa_free (List.contains_iff_mem.mp S.sup)))
    have hm := PySem.mem_of_lookup e
    rw [S.exc] at hm
    obtain ⟨x, hx, e2⟩ := List.mem_map.mp hm
    cases e2
    obtain ⟨i1, i3⟩ := S.ini x hx
    obtain ⟨b1, b2⟩ := c.x x hx
    obtain ⟨fd, F⟩ := xB_ini (P := P) b1 b2
    subst h1 h3 h4
    exact exn_ok i1 F (xB_cls b1).1 sup i3 hr hg nam hdb
  exc := fun Y h1 h2 h3 h4 h5 hc hr a ps e i2 hg hdb => by
    have nam : mg a = some (.ref (He.ga K a)) := He.glo_ok X N (says_fact c.d (fa_exc (PySem.mem_of_lookup e)))
    have sup : mg "super" = none := He.free_ok X N (says_fact c.d (fa_free (List.contains_iff_mem.mp S.sup)))
    have hm := PySem.mem_of_lookup e
    rw [S.exc] at hm
    obtain ⟨x, hx, e2⟩ := List.mem_map.mp hm
    cases e2
    obtain ⟨i1, i3⟩ := S.ini x hx
    obtain ⟨b1, b2⟩ := c.x x hx
    obtain ⟨fd, F⟩ := xB_ini (P := P) b1 b2
    subst h1 h3 h4
    exact exc_ok i1 F (xB_cls b1).1 i2 sup i3 hr hg nam hdb
theorem txt_of (S : Stat P G Ds xs) (c : SaysM P.main.file (faOf G) (Ds.map PDef.dd) xs (isiB G) K) (X : K.In h) (N : h.Ns mainGlobals mg) : Txt K mg G Ds where
  ok := S.ok
  fd := fun d hd => pdef_fd c.d hd
  mg := fun d hd => He.glo_ok X N (says_fact c.d (fa_fn (ms := d.ms) (by rw [S.fns]; exact List.mem_map.mpr ⟨d, hd, rfl⟩)))
  fns := fun x ms e => by
    have hm := PySem.mem_of_lookup e
    rw [S.fns] at hm
    obtain ⟨d, hd, e2⟩ := List.mem_map.mp hm
    cases e2
    exact ⟨d, hd, rfl, rfl⟩
  tbl := fun d hd => by
    have nd := S.nd
    clear S c
    unfold tblOf
    induction Ds with
    | nil => cases hd
    | cons a l ih =>
      rw [List.map_cons, List.nodup_cons] at nd
      rw [List.map_cons]
      rcases List.mem_cons.mp hd with rfl | hd
      · simp [List.lookup]
      · have ne : (d.x == a.x) = false := by
          simp only [beq_eq_false_iff_ne]
          intro z
          exact nd.1 (by rw [← z]; exact List.mem_map_of_mem hd)
        simp [List.lookup, ne]
        exact ih hd nd.2
end
end HM

set_option Elab.async false
set_option linter.all false
set_option maxRecDepth 100000
set_option maxHeartbeats 4000000
namespace HM
open PySem PySem.Spec L2
/-- a law by its interpreter's answer -/
theorem law_end {l : PySem.W.OpenLaw} {m n : Nat} {q : Program} {loose : List Str} {XP : (Str → Option Value) → Heap → Prop} {d : DefRec} {G : Ge} {Ds : List PDef} {xs : List XD} {dl : PDef} {x : Str}
    (hn : l.most = some m) (hn2 : m ≤ sizeLine) (hdf : d.params.defaults = []) (hr : Room (n + 4) callerA) (hd : d.name = dl.x) (S : Stat l.prog G Ds xs) (hdl : dl ∈ Ds) (hps : dl.ps = [x])
    (plain : ∀ ns : List Int, ns.length ≤ m → ∃ mm, fnsOf (tblOf Ds) n dl.x [.scr ns] [] = .ok (.val (.bl true)) mm) :
    PySem.W.WalkO q loose XP (fun _ h => ∃ K : PySem.W.Frag, K.In h ∧ SaysM l.prog.main.file (faOf G) (Ds.map PDef.dd) xs (isiB G) K) l.row.toRowW d [] (fun f vs => PySem.call f vs) := by
  refine Att.attach_call hn hdf fun w s₀ s₁ mg mb fa o pm cd doc a vs ns GG Y ho hdd hcd hmg hobj hints hlen hg => ?_
  obtain ⟨K, KX, c⟩ := Y
  have T : Txt K mg G Ds := txt_of (P := l.prog) S c KX GG.T.g
  obtain ⟨fd, F⟩ := T.fd dl hdl
  have efa : fa = He.ga K dl.x := by
    have e2 := T.mg dl hdl
    rw [← hd, hmg] at e2
    have e3 : Value.ref fa = Value.ref (He.ga K d.name) := Option.some.inj e2
    rw [← hd]
    exact Value.ref.inj e3
  subst efa
  have hb : ∀ (s : Shared) (u : Value), BindsTo s fd ⟨[u], []⟩ [(x, u)] := fun s u => by
    have b := FunD.bindsA (ps := [x]) F (fun kV doc pm an cdv ct us hl => by
      have := (S.ok dl hdl).bind kV doc pm an cdv ct us (by rw [hps]; exact hl)
      rw [hps] at this
      exact this) s [u] rfl
    exact b
  have hF : ∀ base : Heap, K.In base → base.Ns mainGlobals mg → FnOk l.prog w K mg base (L2.CX l.prog w) (n + 4) (He.ga K dl.x) fd [x] (spM K dl.ps.length (fnsOf (tblOf Ds) n dl.x)) := fun base _ _ => by
    have := defs_ok (base := base) (w := w) (env1_of (P := l.prog) (w := w) (base := base) S c KX GG.T.g) T n dl hdl fd F
    rw [hps] at this
    rw [hps]
    exact this
  refine law_call KX GG.T.g GG.T.b GG.T.builtins GG.T.nolimit hg hobj hints (Nat.le_trans hlen hn2) hr hF hb (fun H hO hS => ?_) fun H e s' z => ?_
  · obtain ⟨mm, hm⟩ := plain ns hlen
    rw [hps]
    exact sp_script hS hm _
  · obtain ⟨_, _, _, _, _, _, _, _, _, _, _, _, z⟩ := z
    exact z
end HM

set_option Elab.async false
set_option linter.all false
set_option maxRecDepth 100000
set_option maxHeartbeats 4000000
/-! plain rules about the interpreter: comprehensions, loops -/
namespace HM
open PySem PySem.Spec L2
theorem set_self {α : Type} {l : List α} {i : Nat} {a : α} (h : l[i]? = some a) : l.set i a = l := by
  apply List.ext_getElem?
  intro j
  by_cases e : i = j
  · subst e
    rw [List.getElem?_set_self (List.getElem?_eq_some_iff.mp h).1, h]
  · rw [List.getElem?_set_ne e]
theorem wipe_set {S : Mem} {v : Nat} {d : RD} (h : S.env[v]? = some .none) : wipeM [v] (setS v d S) = S := by
  obtain ⟨env, st⟩ := S
  show (⟨((env.set v (rdSlot d)).set v .none), st⟩ : Mem) = ⟨env, st⟩
  rw [List.set_set, set_self h]
theorem wipe_none {S : Mem} {v : Nat} (h : S.env[v]? = some .none) : wipeM [v] S = S := by
  obtain ⟨env, st⟩ := S
  show (⟨env.set v .none, st⟩ : Mem) = ⟨env, st⟩
  rw [set_self h]
theorem back_none {S S0 : Mem} {v : Nat} (h : S.env[v]? = some .none) (h0 : S0.env[v]? = some .none) : backM [v] S0 S = S := by
  obtain ⟨env, st⟩ := S
  show (⟨env.set v (S0.env.getD v .none), st⟩ : Mem) = ⟨env, st⟩
  have e : S0.env.getD v .none = .none := by rw [List.getD_eq_getElem?_getD, h0]; rfl
  rw [e, set_self h]
theorem mt_name {S : Mem} {v : Nat} {d : D} {sl : Slot} (h : S.env[v]? = some sl) : mtName v d S = some (setS v (.val d) S) := by
  unfold mtName
  rw [if_pos (List.getElem?_eq_some_iff.mp h).1]
theorem lcL_name {v : Nat} {me : Mem → Res D} {f : D → D} {S : Mem} (hv : S.env[v]? = some .none) : ∀ {ds acc : List D}, (∀ d ∈ ds, me (setS v (.val d) S) = .ok (f d) (setS v (.val d) S)) → acc.length + ds.length ≤ sizeLine →
    lcL [v] (mtName v) mYes me ds acc S = .ok (.own (.lst (acc ++ ds.map f))) S
  | [], acc, _, _ => by simp [lcL]
  | d :: ds, acc, h, hl => by
    rw [List.length_cons] at hl
    unfold lcL
    rw [mt_name hv]
    simp only [mYes, Res.cbind, if_true, h d List.mem_cons_self]
    rw [if_pos (by omega), wipe_set hv, lcL_name hv (fun e he => h e (List.mem_cons_of_mem _ he)) (by rw [List.length_append, List.length_singleton]; omega)]
    simp
theorem mLc_name {v : Nat} {mi : Mem → Res (List D)} {me : Mem → Res D} {f : D → D} {S S1 : Mem} {ds : List D} (hi : mi S = .ok ds S1) (hv : S1.env[v]? = some .none) (h : ∀ d ∈ ds, me (setS v (.val d) S1) = .ok (f d) (setS v (.val d) S1)) (hl : ds.length ≤ sizeLine) :
    mLc [v] mi (mtName v) mYes me S = .ok (.own (.lst (ds.map f))) S1 := by
  unfold mLc
  rw [hi]
  have e : S1.env.getD v .none = .none := by rw [List.getD_eq_getElem?_getD, hv]; rfl
  have e2 : ([v].all fun v => notOwn (S1.env.getD v .none)) = true := by simp only [List.all_cons, List.all_nil, e]; rfl
  simp only [Res.bind, e2, if_true]
  rw [wipe_none hv, lcL_name hv h (by simpa using hl)]
  simp only [Res.cbind, List.nil_append]
  rw [back_none hv hv]
/-! ### for -/
/-- what a turn must give: P, to go on; Q of what leaves -/
def TurnQ (P : Mem → Prop) (Q : Out → Prop) : Out → Prop
  | .nx S => P S
  | .ct S => P S
  | .bk S => Q (.nx S)
  | o => Q o
theorem forL_rule {mt : D → Mem → Option Mem} {mb : Mem → Out} {P : List D → Mem → Prop} {Q : Out → Prop} (step : ∀ d rest S, P (d :: rest) S → ∃ S1, mt d S = some S1 ∧ TurnQ (P rest) Q (mb S1)) (fin : ∀ S, P [] S → Q (.nx S)) :
    ∀ {ds : List D} {S : Mem}, P ds S → Q (forL mt mb ds S)
  | [], S, h => fin S h
  | d :: ds, S, h => by
    obtain ⟨S1, h1, h2⟩ := step d ds S h
    unfold forL
    rw [h1]
    show Q (turnO (mb S1) (forL mt mb ds))
    cases e : mb S1 with
    | nx S2 => rw [e] at h2; exact forL_rule step fin h2
    | ct S2 => rw [e] at h2; exact forL_rule step fin h2
    | bk S2 => rw [e] at h2; exact h2
    | rt r S2 => rw [e] at h2; exact h2
    | exc c fs S2 => rw [e] at h2; exact h2
    | bad => rw [e] at h2; exact h2
def SeqQ (m2 : Mem → Out) (Q : Out → Prop) : Out → Prop
  | .nx S => Q (m2 S)
  | o => Q o
theorem mSeq_rule {m1 m2 : Mem → Out} {S : Mem} {Q : Out → Prop} (h : SeqQ m2 Q (m1 S)) : Q (mSeq m1 m2 S) := by
  unfold mSeq
  cases e : m1 S with
  | nx S2 => rw [e] at h; exact h
  | ct S2 => rw [e] at h; exact h
  | bk S2 => rw [e] at h; exact h
  | rt r S2 => rw [e] at h; exact h
  | exc c fs S2 => rw [e] at h; exact h
  | bad => rw [e] at h; exact h
/-- the end of a def -/
def EndQ (Q : Res RD → Prop) : Out → Prop
  | .rt r m => Q (.ok r (mem0 m.st))
  | .nx m => Q (.ok (.val .non) (mem0 m.st))
  | .exc c fs m => Q (.exc c fs (mem0 m.st))
  | _ => Q .bad
theorem evF_rule {Φ : Str → FnM} {n : Nat} {f : CF} {ds st : List D} {Q : Res RD → Prop} (h : EndQ Q (evB Φ n f.body ⟨ds.map .val ++ List.replicate (f.names - ds.length) .none, st⟩)) : Q (evF Φ n f ds st) := by
  unfold evF
  cases e : evB Φ n f.body ⟨ds.map .val ++ List.replicate (f.names - ds.length) .none, st⟩ <;> rw [e] at h <;> exact h
end HM

set_option Elab.async false
set_option linter.all false
set_option maxRecDepth 100000
set_option maxHeartbeats 4000000
/-! plain rules: a block, comprehensions in general, slices of lists of texts -/
namespace HM
open PySem PySem.Spec L2
section
variable {Φ : Str → FnM} {n : Nat} {s : CS} {r : CB} {S S1 : Mem}
theorem evB_nx (h : evS Φ n s S = .nx S1) : evB Φ n (.cons s r) S = evB Φ n r S1 := by
  show mSeq (evS Φ n s) (evB Φ n r) S = _
  unfold mSeq
  rw [h]
theorem evB_rt {v : RD} (h : evS Φ n s S = .rt v S1) : evB Φ n (.cons s r) S = .rt v S1 := by
  show mSeq (evS Φ n s) (evB Φ n r) S = _
  unfold mSeq
  rw [h]
theorem evB_exc {c : Str} {fs : List (Str × D)} (h : evS Φ n s S = .exc c fs S1) : evB Φ n (.cons s r) S = .exc c fs S1 := by
  show mSeq (evS Φ n s) (evB Φ n r) S = _
  unfold mSeq
  rw [h]
/-- the end of a def -/
def fin : Out → Res RD
  | .rt r m => .ok r (mem0 m.st)
  | .nx m => .ok (.val .non) (mem0 m.st)
  | .exc c fs m => .exc c fs (mem0 m.st)
  | _ => .bad
theorem evF_of {f : CF} {ds st : List D} : evF Φ n f ds st = fin (evB Φ n f.body ⟨ds.map .val ++ List.replicate (f.names - ds.length) .none, st⟩) := by
  unfold evF
  cases evB Φ n f.body ⟨ds.map .val ++ List.replicate (f.names - ds.length) .none, st⟩ <;> rfl
end
/-- a comprehension that changes no memory -/
theorem lcL_pure {vs : List Nat} {mt : D → Mem → Option Mem} {nt : Mem → Res Bool} {me : Mem → Res D} {f : D → D} {p : D → Bool} {S : Mem} :
    ∀ {ds acc : List D}, (∀ d ∈ ds, ∃ S1, mt d S = some S1 ∧ nt S1 = .ok (p d) S1 ∧ (p d = true → me S1 = .ok (f d) S1) ∧ wipeM vs S1 = S) → acc.length + ds.length ≤ sizeLine →
    lcL vs mt nt me ds acc S = .ok (.own (.lst (acc ++ (ds.filter p).map f))) S
  | [], acc, _, _ => by simp [lcL]
  | d :: ds, acc, h, hl => by
    rw [List.length_cons] at hl
    obtain ⟨S1, h1, h2, h3, h4⟩ := h d List.mem_cons_self
    unfold lcL
    rw [h1]
    simp only [h2, Res.cbind]
    cases e : p d with
    | false =>
      simp only [Bool.false_eq_true, if_false]
      rw [h4, lcL_pure (fun e he => h e (List.mem_cons_of_mem _ he)) (by omega), List.filter_cons_of_neg (by simp [e])]
    | true =>
      simp only [if_true, h3 e]
      rw [if_pos (by omega), h4, lcL_pure (fun e he => h e (List.mem_cons_of_mem _ he)) (by rw [List.length_append, List.length_singleton]; omega), List.filter_cons_of_pos (by simp [e])]
      simp
theorem mLc_pure {vs : List Nat} {mi : Mem → Res (List D)} {mt : D → Mem → Option Mem} {nt : Mem → Res Bool} {me : Mem → Res D} (f : D → D) (p : D → Bool) {S S1 S0 : Mem} {ds : List D} (hi : mi S = .ok ds S1) (hn : (vs.all fun v => notOwn (S1.env.getD v .none)) = true) (hw : wipeM vs S1 = S0) (hb : backM vs S1 S0 = S1)
    (h : ∀ d ∈ ds, ∃ S2, mt d S0 = some S2 ∧ nt S2 = .ok (p d) S2 ∧ (p d = true → me S2 = .ok (f d) S2) ∧ wipeM vs S2 = S0) (hl : ds.length ≤ sizeLine) : mLc vs mi mt nt me S = .ok (.own (.lst ((ds.filter p).map f))) S1 := by
  unfold mLc
  rw [hi]
  simp only [Res.bind, hn, if_true]
  rw [hw, lcL_pure h (by simpa using hl)]
  simp only [Res.cbind, List.nil_append, hb]
theorem lcL_rule {vs : List Nat} {mt : D → Mem → Option Mem} {nt : Mem → Res Bool} {me : Mem → Res D} {P : List D → List D → Mem → Prop}
    (step : ∀ d rest acc S, P (d :: rest) acc S → ∃ S1, mt d S = some S1 ∧ ((∃ S2, nt S1 = .ok false S2 ∧ P rest acc (wipeM vs S2)) ∨ ∃ S2 r S3, nt S1 = .ok true S2 ∧ me S2 = .ok r S3 ∧ acc.length < sizeLine ∧ P rest (acc ++ [r]) (wipeM vs S3))) :
    ∀ {ds acc : List D} {S : Mem}, P ds acc S → ∃ acc' S', lcL vs mt nt me ds acc S = .ok (.own (.lst acc')) S' ∧ P [] acc' S'
  | [], acc, S, h => ⟨acc, S, rfl, h⟩
  | d :: ds, acc, S, h => by
    obtain ⟨S1, h1, h2⟩ := step d ds acc S h
    unfold lcL
    rw [h1]
    rcases h2 with ⟨S2, h2, h3⟩ | ⟨S2, r, S3, h2, h3, h4, h5⟩
    · simp only [h2, Res.cbind, Bool.false_eq_true, if_false]
      exact lcL_rule step h3
    · simp only [h2, h3, Res.cbind, if_true]
      rw [if_pos h4]
      exact lcL_rule step h5
theorem mLc_rule {vs : List Nat} {mi : Mem → Res (List D)} {mt : D → Mem → Option Mem} {nt : Mem → Res Bool} {me : Mem → Res D} {S S1 : Mem} {ds : List D} (P : List D → List D → Mem → Prop) (hi : mi S = .ok ds S1) (hn : (vs.all fun v => notOwn (S1.env.getD v .none)) = true)
    (step : ∀ d rest acc S, P (d :: rest) acc S → ∃ S1, mt d S = some S1 ∧ ((∃ S2, nt S1 = .ok false S2 ∧ P rest acc (wipeM vs S2)) ∨ ∃ S2 r S3, nt S1 = .ok true S2 ∧ me S2 = .ok r S3 ∧ acc.length < sizeLine ∧ P rest (acc ++ [r]) (wipeM vs S3)))
    (h0 : P ds [] (wipeM vs S1)) : ∃ acc S2, mLc vs mi mt nt me S = .ok (.own (.lst acc)) (backM vs S1 S2) ∧ P [] acc S2 := by
  obtain ⟨acc, S2, h1, h2⟩ := lcL_rule step h0
  refine ⟨acc, S2, ?_, h2⟩
  unfold mLc
  rw [hi]
  simp only [Res.bind, hn, if_true]
  rw [h1]
  rfl
/-! ### slices -/
theorem cutD_to (ds : List D) (k : Nat) : cutD ds none (some (k : Int)) = ds.take k := by
  unfold cutD
  rw [HT.sIx_nat, HT.sIx_none, List.drop_zero, Nat.sub_zero]
  rcases Nat.le_total k ds.length with h | h
  · rw [Nat.min_eq_left h]
  · rw [Nat.min_eq_right h, List.take_length, List.take_of_length_le h]
theorem cutD_from (ds : List D) (k : Nat) : cutD ds (some (k : Int)) none = ds.drop k := by
  unfold cutD
  rw [HT.sIx_nat, HT.sIx_none]
  rcases Nat.le_total k ds.length with h | h
  · rw [Nat.min_eq_left h, List.take_of_length_le (by simp)]
  · rw [Nat.min_eq_right h, List.drop_length, List.drop_eq_nil_of_le h, List.take_nil]
/-! ### lists of texts -/
abbrev stL (xs : List Str) : List D := xs.map .str
theorem plain_stL : ∀ xs : List Str, plainDs (stL xs) = true
  | [] => rfl
  | x :: xs => by show (true && plainDs (stL xs)) = true; rw [plain_stL xs]; rfl
theorem dep_stL : ∀ xs : List Str, depDs (stL xs) = 0
  | [] => rfl
  | x :: xs => by show max 0 (depDs (stL xs)) = 0; rw [dep_stL xs]; rfl
theorem any_stL (xs : List Str) (x : Str) : (stL xs).any (fun z => eqD z (.str x)) = xs.any (· == x) := by
  rw [List.any_map]
  rfl
theorem in_lst (xs : List Str) (x : Str) : inD (.str x) (.lst (stL xs)) = some (xs.any (· == x)) := by
  show (if (cmpOk (.str x) && (plainDs (stL xs) && decide (depDs (stL xs) ≤ 40))) = true then some ((stL xs).any fun z => eqD z (.str x)) else none) = _
  rw [plain_stL, dep_stL, any_stL]
  rfl
theorem in_tup (xs : List Str) (x : Str) : inD (.str x) (.tup (stL xs)) = some (xs.any (· == x)) := by
  show (if (cmpOk (.str x) && (plainDs (stL xs) && decide (depDs (stL xs) ≤ 40))) = true then some ((stL xs).any fun z => eqD z (.str x)) else none) = _
  rw [plain_stL, dep_stL, any_stL]
  rfl
theorem take_stL (pre rest : List Str) : (stL (pre ++ rest)).take pre.length = stL pre := by
  rw [← List.map_take, List.take_left]
/-- != of a thing and itself -/
theorem neO_self {d : D} (h : cmpOk d = true) : neO d d = some (.val (.bl false)) := by
  have hp : plainD d = true := by
    unfold cmpOk at h
    exact (Bool.and_eq_true _ _ ▸ h).1
  unfold neO
  rw [h, eqD_self hp]
  rfl
theorem eqO_self {d : D} (h : cmpOk d = true) : eqO d d = some (.val (.bl true)) := by
  have hp : plainD d = true := by
    unfold cmpOk at h
    exact (Bool.and_eq_true _ _ ▸ h).1
  unfold eqO
  rw [h, eqD_self hp]
  rfl
/-! ### sorting -/
theorem py_strs_alike (x y : Str) : PySem.W.alike (pyD (.str x)) (pyD (.str y)) = true := rfl
theorem sortOk_stL (xs : List Str) (h : xs.length ≤ sizeLine) : sortOk (stL xs) = true := by
  unfold sortOk
  rw [plain_stL]
  have h1 : ((stL xs).all fun a => (stL xs).all fun b => PySem.W.alike (pyD a) (pyD b)) = true := by
    rw [List.all_map, List.all_eq_true]
    intro x _
    show ((stL xs).all fun b => PySem.W.alike (pyD (.str x)) (pyD b)) = true
    rw [List.all_map, List.all_eq_true]
    intro y _
    rfl
  have h2 : (stL xs).all notTup = true := by
    rw [List.all_map, List.all_eq_true]
    intro y _
    rfl
  have h3 : (stL xs).all (fun d => decide ((pyD d).depth ≤ 40)) = true := by
    rw [List.all_map, List.all_eq_true]
    intro y _
    rfl
  rw [h1, h2, h3]
  simp [h]
/-- the texts in their order -/
def sortS (xs : List Str) : List Str := xs.mergeSort fun a b => PySem.W.dataLe false pyD (.str a) (.str b)
theorem sortL_stL (xs : List Str) : sortL (stL xs) = stL (sortS xs) := by
  unfold sortL sortS stL
  exact (List.map_mergeSort (f := D.str) (fun a _ b _ => rfl)).symm
theorem sortS_perm (xs : List Str) : (sortS xs).Perm xs := List.mergeSort_perm _ _
theorem sortS_length (xs : List Str) : (sortS xs).length = xs.length := (sortS_perm xs).length_eq
theorem sortD_lst (xs : List Str) (h : xs.length ≤ sizeLine) : sortD (.lst (stL xs)) = some (.own (.lst (stL (sortS xs)))) := by
  show (if sortOk (stL xs) = true then some (RD.own (.lst (sortL (stL xs)))) else none) = _
  rw [if_pos (sortOk_stL xs h), sortL_stL]
theorem sortD_tup (xs : List Str) (h : xs.length ≤ sizeLine) : sortD (.tup (stL xs)) = some (.own (.lst (stL (sortS xs)))) := by
  show (if sortOk (stL xs) = true then some (RD.own (.lst (sortL (stL xs)))) else none) = _
  rw [if_pos (sortOk_stL xs h), sortL_stL]
/-! ### tuples of texts by their length -/
abbrev tups (rows : List (List Str)) : List D := rows.map fun r => .tup (stL r)
def keyR (r : List Str) : D := .tup [.int r.length, .tup (stL r)]
theorem keyD_tup (r : List Str) : keyD (.tup (stL r)) = keyR r := by
  show D.tup [.int (stL r).length, .tup (stL r)] = _
  rw [List.length_map]
  rfl
theorem alikeAll_stL : ∀ xs ys : List Str, PySem.W.alikeAll (pyDs (stL xs)) (pyDs (stL ys)) = true
  | [], ys => by cases ys <;> rfl
  | x :: xs, [] => rfl
  | x :: xs, y :: ys => by
    show (true && PySem.W.alikeAll (pyDs (stL xs)) (pyDs (stL ys))) = true
    rw [alikeAll_stL xs ys]
    rfl
theorem depthAll_stL : ∀ xs : List Str, PyData.depthAll (pyDs (stL xs)) = 0
  | [] => rfl
  | x :: xs => by
    show max 0 (PyData.depthAll (pyDs (stL xs))) = 0
    rw [depthAll_stL xs]
    rfl
theorem plain_keys : ∀ rows : List (List Str), plainDs (rows.map keyR) = true
  | [] => rfl
  | r :: rows => by
    show (plainD (keyR r) && plainDs (rows.map keyR)) = true
    rw [plain_keys rows]
    show ((true && (plainDs (stL r) && true)) && true) = true
    rw [plain_stL]
    rfl
theorem sortOk_keys (rows : List (List Str)) (h : rows.length ≤ sizeLine) : sortOk (rows.map keyR) = true := by
  unfold sortOk
  rw [plain_keys]
  have h1 : ((rows.map keyR).all fun a => (rows.map keyR).all fun b => PySem.W.alike (pyD a) (pyD b)) = true := by
    rw [List.all_map, List.all_eq_true]
    intro x _
    show ((rows.map keyR).all fun b => PySem.W.alike (pyD (keyR x)) (pyD b)) = true
    rw [List.all_map, List.all_eq_true]
    intro y _
    show (true && (PySem.W.alikeAll (pyDs (stL x)) (pyDs (stL y)) && true)) = true
    rw [alikeAll_stL]
    rfl
  have h2 : (rows.map keyR).all tup1 = true := by
    rw [List.all_map, List.all_eq_true]
    intro y _
    rfl
  have h3 : (rows.map keyR).all (fun d => decide ((pyD d).depth ≤ 40)) = true := by
    rw [List.all_map, List.all_eq_true]
    intro y _
    show decide (max 0 (max (PyData.depthAll (pyDs (stL y)) + 1) 0) + 1 ≤ 40) = true
    rw [depthAll_stL]
    rfl
  rw [h1, h2, h3]
  simp [h]
/-- the rows by their length, then as tuples are -/
def sortR (rows : List (List Str)) : List (List Str) := rows.mergeSort fun a b => PySem.W.dataLe false pyD (keyR a) (keyR b)
theorem sortR_perm (rows : List (List Str)) : (sortR rows).Perm rows := List.mergeSort_perm _ _
theorem sortL_keys (rows : List (List Str)) : sortL (rows.map keyR) = (sortR rows).map keyR := by
  unfold sortL sortR
  exact (List.map_mergeSort (f := keyR) (fun a _ b _ => rfl)).symm
theorem sortkL_rows (rows : List (List Str)) : sortkL (tups rows) = tups (sortR rows) := by
  unfold sortkL sortR tups
  refine (List.map_mergeSort (f := fun r : List Str => D.tup (stL r)) (fun a _ b _ => ?_)).symm
  show PySem.W.dataLe false pyD (keyR a) (keyR b) = PySem.W.dataLe false pyD (keyD (.tup (stL a))) (keyD (.tup (stL b)))
  rw [keyD_tup, keyD_tup]
theorem sortkD_rows (rows : List (List Str)) (h : rows.length ≤ sizeLine) : sortkD (.lst (tups rows)) = some (.own (.lst (tups (sortR rows)))) := by
  show (if sortkOk (tups rows) = true then some (RD.own (.lst (sortkL (tups rows)))) else none) = _
  have h1 : (tups rows).all rankOk = true := by
    rw [List.all_map, List.all_eq_true]
    intro r _
    show (stL r).all atomD = true
    rw [List.all_map, List.all_eq_true]
    intro y _
    rfl
  have h2 : (tups rows).map keyD = rows.map keyR := by
    rw [List.map_map]
    exact List.map_congr_left fun r _ => keyD_tup r
  have h3 : sortkOk (tups rows) = true := by
    unfold sortkOk
    rw [h1, h2, sortOk_keys rows h]
    rfl
  rw [if_pos h3, sortkL_rows]
theorem sortD_keys (rows : List (List Str)) (h : rows.length ≤ sizeLine) : sortD (.lst (rows.map keyR)) = some (.own (.lst ((sortR rows).map keyR))) := by
  show (if sortOk (rows.map keyR) = true then some (RD.own (.lst (sortL (rows.map keyR)))) else none) = _
  rw [if_pos (sortOk_keys rows h), sortL_keys]
/-! ### all of a list of truths -/
theorem bls_map {α : Type} (p : α → Bool) : ∀ xs : List α, blsD (xs.map fun x => .bl (p x)) = some (xs.map p)
  | [] => rfl
  | x :: xs => by
    show (blsD (xs.map fun x => .bl (p x))).map (p x :: ·) = _
    rw [bls_map p xs]
    rfl
theorem allD_map {α : Type} (p : α → Bool) (xs : List α) : allD (.lst (xs.map fun x => .bl (p x))) = some (.val (.bl (xs.all p))) := by
  show (blsD (xs.map fun x => .bl (p x))).map _ = _
  rw [bls_map]
  simp
/-! ### range, step by step -/
def upDs : Nat → Nat → List D
  | _, 0 => []
  | k, n + 1 => .int (k : Int) :: upDs (k + 1) n
theorem upDs_eq : ∀ (n k : Nat), upDs k n = (List.range n).map fun (i : Nat) => D.int ((k : Int) + (i : Int))
  | 0, _ => rfl
  | n + 1, k => by
    rw [List.range_succ_eq_map, List.map_cons, List.map_map]
    show D.int k :: upDs (k + 1) n = _
    rw [upDs_eq n (k + 1)]
    have e : (List.range n).map (fun i : Nat => D.int (((k + 1 : Nat) : Int) + (i : Int))) = (List.range n).map ((fun i : Nat => D.int ((k : Int) + (i : Int))) ∘ Nat.succ) := List.map_congr_left fun i _ => by
      show D.int _ = D.int _
      rw [show (((k + 1 : Nat) : Int) + (i : Int)) = (k : Int) + ((Nat.succ i : Nat) : Int) from by omega]
    rw [e]
    simp
theorem rangeDs_eq (n : Nat) : rangeDs 0 n = upDs 0 n := by
  rw [upDs_eq]
  unfold rangeDs
  rfl
theorem upDs_cons {k : Nat} {d : D} {rest : List D} : ∀ {n : Nat}, d :: rest = upDs k n → ∃ n', n = n' + 1 ∧ d = .int (k : Int) ∧ rest = upDs (k + 1) n'
  | 0, h => nomatch h
  | n + 1, h => ⟨n, rfl, (List.cons.inj h).1, (List.cons.inj h).2⟩
theorem upDs_nil {k : Nat} : ∀ {n : Nat}, [] = upDs k n → n = 0
  | 0, _ => rfl
  | n + 1, h => nomatch h
theorem rangeOk_nat (k : Nat) (h : k ≤ 1000000) : rangeOk (k : Int) = true := by
  unfold rangeOk
  simp
  omega
theorem mRange1_of {m : Mem → Res D} {S S1 : Mem} {j : Int} (h : m S = .ok (.int j) S1) (hj : rangeOk j = true) : mRange1 m S = .ok (rangeDs 0 j.toNat) S1 := by
  unfold mRange1
  rw [h]
  simp only [Res.bind, hj, if_true]
theorem mRange1_nat {m : Mem → Res D} {S S1 : Mem} {k : Nat} (h : m S = .ok (.int (k : Int)) S1) (hk : k ≤ 1000000) : mRange1 m S = .ok (upDs 0 k) S1 :=
  (mRange1_of h (rangeOk_nat k hk)).trans (by rw [Int.toNat_natCast, rangeDs_eq])
/-! ### what is not locked -/
theorem unl_tup (l : List D) : unl (.tup l) = .tup l := rfl
theorem unl_int (i : Int) : unl (.int i) = .int i := rfl
theorem unl_bl (b : Bool) : unl (.bl b) = .bl b := rfl
theorem unl_str (s : Str) : unl (.str s) = .str s := rfl
theorem unl_non : unl .non = .non := rfl
theorem unl_scr (ns : List Int) : unl (.scr ns) = .scr ns := rfl
theorem unl_exn (c : Str) (fs : List (Str × D)) : unl (.exn c fs) = .exn c fs := rfl
theorem unl_ref (n : Nat) : unl (.ref n) = .ref n := rfl
theorem nl_tup (l : List D) : nl (.tup l) = some (.tup l) := rfl
end HM

set_option Elab.async false
set_option linter.all false
set_option maxRecDepth 100000
set_option maxHeartbeats 4000000
namespace KP
open PySem PySem.Spec L2 HM
abbrev excT : List (Str × List Str) := [(("BadNumber" : Str), [("n" : Str)]), (("BadText" : Str), [("at" : Str)]), (("BadName" : Str), [("name" : Str)]), (("DuplicateName" : Str), [("name" : Str)]), (("UnknownName" : Str), [("name" : Str)]), (("BadMenu" : Str), [("names" : Str)]), (("NotWilling" : Str), [("house" : Str)]), (("NotGrowing" : Str), [("house" : Str)]), (("NoStep" : Str), [("name" : Str)]), (("UnlikeApplicants" : Str), [("first" : Str), ("second" : Str)]), (("NothingToShow" : Str), []), (("NothingToUndo" : Str), [])]
abbrev isiT0 : List (Str × Bool) := [(("BadNumber" : Str), true), (("BadText" : Str), false), (("BadName" : Str), false), (("DuplicateName" : Str), false), (("UnknownName" : Str), false), (("BadMenu" : Str), false), (("NotWilling" : Str), false), (("NotGrowing" : Str), false), (("NoStep" : Str), false), (("UnlikeApplicants" : Str), false), (("NothingToShow" : Str), false), (("NothingToUndo" : Str), false)]
abbrev isiT1 : List (Str × Bool) := [(("BadNumber" : Str), false), (("BadText" : Str), true), (("BadName" : Str), false), (("DuplicateName" : Str), false), (("UnknownName" : Str), false), (("BadMenu" : Str), false), (("NotWilling" : Str), false), (("NotGrowing" : Str), false), (("NoStep" : Str), false), (("UnlikeApplicants" : Str), false), (("NothingToShow" : Str), false), (("NothingToUndo" : Str), false)]
abbrev isiT2 : List (Str × Bool) := [(("BadNumber" : Str), false), (("BadText" : Str), false), (("BadName" : Str), true), (("DuplicateName" : Str), false), (("UnknownName" : Str), false), (("BadMenu" : Str), false), (("NotWilling" : Str), false), (("NotGrowing" : Str), false), (("NoStep" : Str), false), (("UnlikeApplicants" : Str), false), (("NothingToShow" : Str), false), (("NothingToUndo" : Str), false)]
abbrev isiT3 : List (Str × Bool) := [(("BadNumber" : Str), false), (("BadText" : Str), false), (("BadName" : Str), false), (("DuplicateName" : Str), true), (("UnknownName" : Str), false), (("BadMenu" : Str), false), (("NotWilling" : Str), false), (("NotGrowing" : Str), false), (("NoStep" : Str), false), (("UnlikeApplicants" : Str), false), (("NothingToShow" : Str), false), (("NothingToUndo" : Str), false)]
abbrev isiT4 : List (Str × Bool) := [(("BadNumber" : Str), false), (("BadText" : Str), false), (("BadName" : Str), false), (("DuplicateName" : Str), false), (("UnknownName" : Str), true), (("BadMenu" : Str), false), (("NotWilling" : Str), false), (("NotGrowing" : Str), false), (("NoStep" : Str), false), (("UnlikeApplicants" : Str), false), (("NothingToShow" : Str), false), (("NothingToUndo" : Str), false)]
abbrev isiT5 : List (Str × Bool) := [(("BadNumber" : Str), false), (("BadText" : Str), false), (("BadName" : Str), false), (("DuplicateName" : Str), false), (("UnknownName" : Str), false), (("BadMenu" : Str), true), (("NotWilling" : Str), false), (("NotGrowing" : Str), false), (("NoStep" : Str), false), (("UnlikeApplicants" : Str), false), (("NothingToShow" : Str), false), (("NothingToUndo" : Str), false)]
abbrev isiT6 : List (Str × Bool) := [(("BadNumber" : Str), false), (("BadText" : Str), false), (("BadName" : Str), false), (("DuplicateName" : Str), false), (("UnknownName" : Str), false), (("BadMenu" : Str), false), (("NotWilling" : Str), true), (("NotGrowing" : Str), false), (("NoStep" : Str), false), (("UnlikeApplicants" : Str), false), (("NothingToShow" : Str), false), (("NothingToUndo" : Str), false)]
abbrev isiT7 : List (Str × Bool) := [(("BadNumber" : Str), false), (("BadText" : Str), false), (("BadName" : Str), false), (("DuplicateName" : Str), false), (("UnknownName" : Str), false), (("BadMenu" : Str), false), (("NotWilling" : Str), false), (("NotGrowing" : Str), true), (("NoStep" : Str), false), (("UnlikeApplicants" : Str), false), (("NothingToShow" : Str), false), (("NothingToUndo" : Str), false)]
abbrev isiT8 : List (Str × Bool) := [(("BadNumber" : Str), false), (("BadText" : Str), false), (("BadName" : Str), false), (("DuplicateName" : Str), false), (("UnknownName" : Str), false), (("BadMenu" : Str), false), (("NotWilling" : Str), false), (("NotGrowing" : Str), false), (("NoStep" : Str), true), (("UnlikeApplicants" : Str), false), (("NothingToShow" : Str), false), (("NothingToUndo" : Str), false)]
abbrev isiT9 : List (Str × Bool) := [(("BadNumber" : Str), false), (("BadText" : Str), false), (("BadName" : Str), false), (("DuplicateName" : Str), false), (("UnknownName" : Str), false), (("BadMenu" : Str), false), (("NotWilling" : Str), false), (("NotGrowing" : Str), false), (("NoStep" : Str), false), (("UnlikeApplicants" : Str), true), (("NothingToShow" : Str), false), (("NothingToUndo" : Str), false)]
abbrev isiT10 : List (Str × Bool) := [(("BadNumber" : Str), false), (("BadText" : Str), false), (("BadName" : Str), false), (("DuplicateName" : Str), false), (("UnknownName" : Str), false), (("BadMenu" : Str), false), (("NotWilling" : Str), false), (("NotGrowing" : Str), false), (("NoStep" : Str), false), (("UnlikeApplicants" : Str), false), (("NothingToShow" : Str), true), (("NothingToUndo" : Str), false)]
abbrev isiT11 : List (Str × Bool) := [(("BadNumber" : Str), false), (("BadText" : Str), false), (("BadName" : Str), false), (("DuplicateName" : Str), false), (("UnknownName" : Str), false), (("BadMenu" : Str), false), (("NotWilling" : Str), false), (("NotGrowing" : Str), false), (("NoStep" : Str), false), (("UnlikeApplicants" : Str), false), (("NothingToShow" : Str), false), (("NothingToUndo" : Str), true)]
abbrev isiT12 : List (Str × Bool) := [(("BadNumber" : Str), true), (("BadText" : Str), true), (("BadName" : Str), true), (("DuplicateName" : Str), true), (("UnknownName" : Str), true), (("BadMenu" : Str), true), (("NotWilling" : Str), true), (("NotGrowing" : Str), true), (("NoStep" : Str), true), (("UnlikeApplicants" : Str), true), (("NothingToShow" : Str), true), (("NothingToUndo" : Str), true)]
def c__law_pool : CF := ⟨1, (.cons (.ret (.lst (.one (.var 0) (.one (.lit (.int 0)) (.one (.cmp .ge (.var 0) (.bin .pow (.lit (.int 10)) (.lit (.int 18)))) .nil))))) .nil)⟩
def c__law_take : CF := ⟨4, (.cons (.setIx 0 (.lit (.int 1)) (.bin .add (.ix (.var 0) (.lit (.int 1))) (.lit (.int 1)))) (.cons (.ite (.tru (.ix (.var 0) (.lit (.int 2)))) (.cons (.set 3 (.bin .mod (.bcall .int (.ix (.var 0) (.lit (.int 0)))) (.var 1))) (.cons (.setIx 0 (.lit (.int 0)) (.bin .fdiv (.bcall .int (.ix (.var 0) (.lit (.int 0)))) (.var 1))) (.cons (.ret (.move 3)) .nil))) .nil) (.cons (.set 2 (.bin .mod (.bcall .int (.bin .add (.bin .add (.bin .mul (.ix (.var 0) (.lit (.int 0))) (.lit (.int 7919))) (.bin .mul (.ix (.var 0) (.lit (.int 1))) (.lit (.int 104729)))) (.lit (.int 13)))) (.lit (.int 2147483647)))) (.cons (.ret (.bin .mod (.bin .fdiv (.bcall .int (.bin .mod (.bin .pow (.var 2) (.lit (.int 5))) (.lit (.int 2147483647)))) (.lit (.int 17))) (.var 1))) .nil))))⟩
def c__law_cell : CF := ⟨2, (.cons (.ite (.cmp .lt (.var 1) (.bcall .len (.var 0))) (.cons (.ret (.ix (.var 0) (.var 1))) .nil) .nil) (.cons (.ret (.lit (.int 0))) .nil))⟩
def c__law_kinds : CF := ⟨2, (.cons (.set 1 (.lst (.one (.isi isiT0 (.var 0)) (.one (.isi isiT1 (.var 0)) (.one (.isi isiT2 (.var 0)) .nil))))) (.cons (.set 1 (.bin .add (.var 1) (.lst (.one (.isi isiT3 (.var 0)) (.one (.isi isiT4 (.var 0)) (.one (.isi isiT5 (.var 0)) .nil)))))) (.cons (.set 1 (.bin .add (.var 1) (.lst (.one (.isi isiT6 (.var 0)) (.one (.isi isiT7 (.var 0)) (.one (.isi isiT8 (.var 0)) .nil)))))) (.cons (.set 1 (.bin .add (.var 1) (.lst (.one (.isi isiT9 (.var 0)) (.one (.isi isiT10 (.var 0)) .nil))))) (.cons (.ret (.bin .add (.var 1) (.lst (.one (.isi isiT11 (.var 0)) .nil)))) .nil)))))⟩
def c__law_named : CF := ⟨3, (.cons (.ite (.cmp .eq (.var 0) (.lit (.int 2))) (.cons (.set 2 (.exn ("BadName" : Str) [("name" : Str)] (.one (.var 1) .nil))) (.cons (.ret (.lst (.one (.var 2) (.one (.cmp .eq (.attr excT ("name" : Str) (.var 2)) (.var 1)) .nil)))) .nil)) .nil) (.cons (.ite (.cmp .eq (.var 0) (.lit (.int 3))) (.cons (.set 2 (.exn ("DuplicateName" : Str) [("name" : Str)] (.one (.var 1) .nil))) (.cons (.ret (.lst (.one (.var 2) (.one (.cmp .eq (.attr excT ("name" : Str) (.var 2)) (.var 1)) .nil)))) .nil)) .nil) (.cons (.ite (.cmp .eq (.var 0) (.lit (.int 4))) (.cons (.set 2 (.exn ("UnknownName" : Str) [("name" : Str)] (.one (.var 1) .nil))) (.cons (.ret (.lst (.one (.var 2) (.one (.cmp .eq (.attr excT ("name" : Str) (.var 2)) (.var 1)) .nil)))) .nil)) .nil) (.cons (.ite (.cmp .eq (.var 0) (.lit (.int 6))) (.cons (.set 2 (.exn ("NotWilling" : Str) [("house" : Str)] (.one (.var 1) .nil))) (.cons (.ret (.lst (.one (.var 2) (.one (.cmp .eq (.attr excT ("house" : Str) (.var 2)) (.var 1)) .nil)))) .nil)) .nil) (.cons (.ite (.cmp .eq (.var 0) (.lit (.int 7))) (.cons (.set 2 (.exn ("NotGrowing" : Str) [("house" : Str)] (.one (.var 1) .nil))) (.cons (.ret (.lst (.one (.var 2) (.one (.cmp .eq (.attr excT ("house" : Str) (.var 2)) (.var 1)) .nil)))) .nil)) .nil) (.cons (.set 2 (.exn ("NoStep" : Str) [("name" : Str)] (.one (.var 1) .nil))) (.cons (.ret (.lst (.one (.var 2) (.one (.cmp .eq (.attr excT ("name" : Str) (.var 2)) (.var 1)) .nil)))) .nil)))))))⟩
def c__law_made : CF := ⟨4, (.cons (.ite (.cmp .eq (.var 0) (.lit (.int 0))) (.cons (.set 3 (.exn ("BadNumber" : Str) [("n" : Str)] (.one (.var 1) .nil))) (.cons (.ret (.lst (.one (.var 3) (.one (.cmp .eq (.attr excT ("n" : Str) (.var 3)) (.var 1)) .nil)))) .nil)) .nil) (.cons (.ite (.cmp .eq (.var 0) (.lit (.int 1))) (.cons (.set 3 (.exn ("BadText" : Str) [("at" : Str)] (.one (.var 1) .nil))) (.cons (.ret (.lst (.one (.var 3) (.one (.cmp .eq (.attr excT ("at" : Str) (.var 3)) (.var 1)) .nil)))) .nil)) .nil) (.cons (.ite (.cmp .eq (.var 0) (.lit (.int 5))) (.cons (.set 3 (.exn ("BadMenu" : Str) [("names" : Str)] (.one (.tup (.one (.lit (.str ("a" : Str))) (.one (.var 2) .nil))) .nil))) (.cons (.ret (.lst (.one (.var 3) (.one (.cmp .eq (.attr excT ("names" : Str) (.var 3)) (.tup (.one (.lit (.str ("a" : Str))) (.one (.var 2) .nil)))) .nil)))) .nil)) .nil) (.cons (.ite (.cmp .lt (.var 0) (.lit (.int 9))) (.cons (.ret (.call ("_law_named" : Str) 2 (.one (.var 0) (.one (.var 2) .nil)))) .nil) .nil) (.cons (.ite (.cmp .eq (.var 0) (.lit (.int 9))) (.cons (.set 3 (.exn ("UnlikeApplicants" : Str) [("first" : Str), ("second" : Str)] (.one (.tup (.one (.lit (.str ("a" : Str))) .nil)) (.one (.tup (.one (.var 2) (.one (.lit (.str ("b" : Str))) .nil))) .nil)))) (.cons (.ret (.lst (.one (.var 3) (.one (.cmp .eq (.lst (.one (.attr excT ("first" : Str) (.var 3)) (.one (.attr excT ("second" : Str) (.var 3)) .nil))) (.lst (.one (.tup (.one (.lit (.str ("a" : Str))) .nil)) (.one (.tup (.one (.var 2) (.one (.lit (.str ("b" : Str))) .nil))) .nil)))) .nil)))) .nil)) .nil) (.cons (.ret (.lst (.one (.ix (.lst (.one (.exn ("NothingToShow" : Str) [] .nil) (.one (.exn ("NothingToUndo" : Str) [] .nil) .nil))) (.bin .sub (.var 0) (.lit (.int 10)))) (.one (.lit (.bl true)) .nil)))) .nil))))))⟩
def c_law : CF := ⟨8, (.cons (.set 1 (.call ("_law_pool" : Str) 1 (.one (.call ("_law_cell" : Str) 2 (.one (.var 0) (.one (.lit (.int 0)) .nil))) .nil))) (.cons (.set 2 (.ix (.lst (.one (.bin .sub (.call ("_law_take" : Str) 2 (.lend 1 (.one (.lit (.int 40)) .nil))) (.lit (.int 9))) (.one (.bin .mod (.bcall .int (.call ("_law_cell" : Str) 2 (.one (.var 0) (.one (.lit (.int 1)) .nil)))) (.bin .pow (.lit (.int 10)) (.lit (.int 40)))) (.one (.lit (.int (-1))) .nil)))) (.call ("_law_take" : Str) 2 (.lend 1 (.one (.lit (.int 3)) .nil))))) (.cons (.set 3 (.ix (.lst (.one (.lit (.str ("" : Str))) (.one (.lit (.str ("b" : Str))) (.one (.lit (.str ("abcdefgh" : Str))) (.one (.lit (.str ("X" : Str))) (.one (.lit (.str ("a b" : Str))) (.one (.bin .mul (.lit (.str ("9" : Str))) (.lit (.int 40))) .nil))))))) (.call ("_law_take" : Str) 2 (.lend 1 (.one (.lit (.int 6)) .nil))))) (.cons (.loop (.rng1 (.lit (.int 12))) (.nm 4) (.cons (.setT (.tup [(.nm 5), (.nm 6)]) (.call ("_law_made" : Str) 3 (.one (.var 4) (.one (.var 2) (.one (.var 3) .nil))))) (.cons (.ite (.or (.not (.tru (.var 6))) (.cmp .ne (.call ("_law_kinds" : Str) 1 (.one (.var 5) .nil)) (.lc [7] (.rng1 (.lit (.int 12))) (.nm 7) .yes (.cmp .eq (.var 7) (.var 4))))) (.cons (.ret (.lit (.bl false))) .nil) .nil) (.cons (.ite (.or (.not (.tru (.isi isiT12 (.var 5)))) (.not (.tru (.isi isiT12 (.var 5))))) (.cons (.ret (.lit (.bl false))) .nil) .nil) .nil)))) (.cons (.ret (.lit (.bl true))) .nil)))))⟩
def tblC : List (Str × CF) := [("_law_pool", c__law_pool), ("_law_take", c__law_take), ("_law_cell", c__law_cell), ("_law_kinds", c__law_kinds), ("_law_named", c__law_named), ("_law_made", c__law_made), ("law", c_law)]
abbrev F (n : Nat) : Str → FnM := fnsOf tblC n
theorem F_succ (n : Nat) (x : Str) (f : CF) (h : tblC.lookup x = some f) : F (n + 1) x = evF (F n) n f := by
  show (match tblC.lookup x with | some f => evF (fnsOf tblC n) n f | none => fun _ _ => .bad) = _
  rw [h]
theorem F__law_pool (n : Nat) : F (n + 1) "_law_pool" = evF (F n) n c__law_pool := F_succ n _ _ (by rfl)
theorem F__law_take (n : Nat) : F (n + 1) "_law_take" = evF (F n) n c__law_take := F_succ n _ _ (by rfl)
theorem F__law_cell (n : Nat) : F (n + 1) "_law_cell" = evF (F n) n c__law_cell := F_succ n _ _ (by rfl)
theorem F__law_kinds (n : Nat) : F (n + 1) "_law_kinds" = evF (F n) n c__law_kinds := F_succ n _ _ (by rfl)
theorem F__law_named (n : Nat) : F (n + 1) "_law_named" = evF (F n) n c__law_named := F_succ n _ _ (by rfl)
theorem F__law_made (n : Nat) : F (n + 1) "_law_made" = evF (F n) n c__law_made := F_succ n _ _ (by rfl)
theorem F_law (n : Nat) : F (n + 1) "law" = evF (F n) n c_law := F_succ n _ _ (by rfl)
theorem atI_nat {α : Type} (xs : List α) (k : Nat) : L2.atI xs (k : Int) = xs[k]? := by
  unfold L2.atI L2.ixN
  by_cases h : k < xs.length
  · simp [evB, evS, evE, evT, evA, evI, evO, evG, mSeq, mIfS, mNext, mRet, mSet, mDrop, mIf, mAnd, mOr, mNot, lookA, lfA, lookM, frzM, mBinL, mBinV, mBin, mPeek, mCall1, mVar, mC, mMove, bM, hasS, peekO, ofO, Res.bind, Res.out, Res.map, RD.frz, look, BOp.fn, COp.fn, BF.fn, mem0, lenD, seqD, ltO, setS, rdSlot, mNil, mCons, mTup, mLst, mYes, mCall, truM, truD, intD, modD, mulD, addD, fdivD, powD, subD, mSetIx, thing, putThing, evF, unl_lst, unl_tup, unl_int, unl_bl, unl_str, unl_non, unl_scr, unl_exn, unl_ref, unl_dct, nl_lst, nl_tup, nl_dct, mLcI, mLoop, byName, isCellD, cellD, mExn, mAttr, mIsi, sizeLine_eq, h]
  · simp [evB, evS, evE, evT, evA, evI, evO, evG, mSeq, mIfS, mNext, mRet, mSet, mDrop, mIf, mAnd, mOr, mNot, lookA, lfA, lookM, frzM, mBinL, mBinV, mBin, mPeek, mCall1, mVar, mC, mMove, bM, hasS, peekO, ofO, Res.bind, Res.out, Res.map, RD.frz, look, BOp.fn, COp.fn, BF.fn, mem0, lenD, seqD, ltO, setS, rdSlot, mNil, mCons, mTup, mLst, mYes, mCall, truM, truD, intD, modD, mulD, addD, fdivD, powD, subD, mSetIx, thing, putThing, evF, unl_lst, unl_tup, unl_int, unl_bl, unl_str, unl_non, unl_scr, unl_exn, unl_ref, unl_dct, nl_lst, nl_tup, nl_dct, mLcI, mLoop, byName, isCellD, cellD, mExn, mAttr, mIsi, sizeLine_eq, h]
theorem cell_eq (n : Nat) (ns : List Int) (k : Nat) (st : List D) : F (n + 1) "_law_cell" [.scr ns, .int k] st = .ok (.val (.int (ns.getD k 0))) (mem0 st) := by
  rw [F__law_cell]
  by_cases h : k < ns.length
  · simp [evB, evS, evE, evT, evA, evI, evO, evG, mSeq, mIfS, mNext, mRet, mSet, mDrop, mIf, mAnd, mOr, mNot, lookA, lfA, lookM, frzM, mBinL, mBinV, mBin, mPeek, mCall1, mVar, mC, mMove, bM, hasS, peekO, ofO, Res.bind, Res.out, Res.map, RD.frz, look, BOp.fn, COp.fn, BF.fn, mem0, lenD, seqD, ltO, setS, rdSlot, mNil, mCons, mTup, mLst, mYes, mCall, truM, truD, intD, modD, mulD, addD, fdivD, powD, subD, mSetIx, thing, putThing, evF, unl_lst, unl_tup, unl_int, unl_bl, unl_str, unl_non, unl_scr, unl_exn, unl_ref, unl_dct, nl_lst, nl_tup, nl_dct, mLcI, mLoop, byName, isCellD, cellD, mExn, mAttr, mIsi, sizeLine_eq, c__law_cell, h, ixAll, atI_nat]
  · simp [evB, evS, evE, evT, evA, evI, evO, evG, mSeq, mIfS, mNext, mRet, mSet, mDrop, mIf, mAnd, mOr, mNot, lookA, lfA, lookM, frzM, mBinL, mBinV, mBin, mPeek, mCall1, mVar, mC, mMove, bM, hasS, peekO, ofO, Res.bind, Res.out, Res.map, RD.frz, look, BOp.fn, COp.fn, BF.fn, mem0, lenD, seqD, ltO, setS, rdSlot, mNil, mCons, mTup, mLst, mYes, mCall, truM, truD, intD, modD, mulD, addD, fdivD, powD, subD, mSetIx, thing, putThing, evF, unl_lst, unl_tup, unl_int, unl_bl, unl_str, unl_non, unl_scr, unl_exn, unl_ref, unl_dct, nl_lst, nl_tup, nl_dct, mLcI, mLoop, byName, isCellD, cellD, mExn, mAttr, mIsi, sizeLine_eq, c__law_cell, h]
theorem ixL {xs : List D} {k : Nat} : ixAll (.lst xs) (.int k) = (xs[k]?).map .val := by
  show (L2.atI xs (k : Int)).map RD.val = _
  rw [atI_nat]
theorem le_size {n : Nat} (h : n ≤ 16777216) : n ≤ sizeLine := by rw [sizeLine_eq]; exact h
def poolD (c t : Int) (b : Bool) : D := .lst [.int c, .int t, .bl b]
theorem unl_pool (c t : Int) (b : Bool) : unl (poolD c t b) = poolD c t b := rfl
theorem nl_pool (c t : Int) (b : Bool) : nl (poolD c t b) = some (poolD c t b) := rfl
theorem pool_eq (n : Nat) (c : Int) (st : List D) : F (n + 1) "_law_pool" [.int c] st = .ok (.own (poolD c 0 (decide (10 ^ 18 ≤ c)))) (mem0 st) := by
  rw [F__law_pool]
  simp [evB, evS, evE, evT, evA, evI, evO, evG, mSeq, mIfS, mNext, mRet, mSet, mDrop, mIf, mAnd, mOr, mNot, lookA, lfA, lookM, frzM, mBinL, mBinV, mBin, mPeek, mCall1, mVar, mC, mMove, bM, hasS, peekO, ofO, Res.bind, Res.out, Res.map, RD.frz, look, BOp.fn, COp.fn, BF.fn, mem0, lenD, seqD, ltO, setS, rdSlot, mNil, mCons, mTup, mLst, mYes, mCall, truM, truD, intD, modD, mulD, addD, fdivD, powD, subD, mSetIx, thing, putThing, evF, unl_lst, unl_tup, unl_int, unl_bl, unl_str, unl_non, unl_scr, unl_exn, unl_ref, unl_dct, nl_lst, nl_tup, nl_dct, mLcI, mLoop, byName, isCellD, cellD, mExn, mAttr, mIsi, sizeLine_eq, c__law_pool, poolD]
theorem ix0 (c t : Int) (b : Bool) : ixAll (poolD c t b) (.int 0) = some (.val (.int c)) := rfl
theorem ix1 (c t : Int) (b : Bool) : ixAll (poolD c t b) (.int 1) = some (.val (.int t)) := rfl
theorem ix2 (c t : Int) (b : Bool) : ixAll (poolD c t b) (.int 2) = some (.val (.bl b)) := rfl
theorem set0 (c t v : Int) (b : Bool) : setLD (poolD c t b) (.int 0) (.int v) = some (poolD v t b) := rfl
theorem set1 (c t v : Int) (b : Bool) : setLD (poolD c t b) (.int 1) (.int v) = some (poolD c v b) := rfl
theorem ops_pool {c t : Int} {b : Bool} {st : List D} {m : Nat} (hm : st[m]? = some (poolD c t b)) (d : D) : (st.set m d)[m]? = some d := by
  have hl : m < st.length := (List.getElem?_eq_some_iff.mp hm).1
  rw [List.getElem?_set_self hl]
theorem take_eq (n : Nat) (m : Nat) (c t lim : Int) (b : Bool) (st : List D) (hm : st[m]? = some (poolD c t b)) (h0 : 0 < lim) (h1 : lim < 1000) : ∃ k c' t', F (n + 1) "_law_take" [.ref m, .int lim] st = .ok (.val (.int k)) (mem0 (st.set m (poolD c' t' b))) ∧ 0 ≤ k ∧ k < lim := by
  rw [F__law_take]
  have hs := ops_pool hm
  have hlim : lim < 1073741824 := by omega
  cases b with
  | true =>
    refine ⟨c % lim, c / lim, t + 1, ?_, Int.emod_nonneg _ (by omega), Int.emod_lt_of_pos _ h0⟩
    simp [evB, evS, evE, evT, evA, evI, evO, evG, mSeq, mIfS, mNext, mRet, mSet, mDrop, mIf, mAnd, mOr, mNot, lookA, lfA, lookM, frzM, mBinL, mBinV, mBin, mPeek, mCall1, mVar, mC, mMove, bM, hasS, peekO, ofO, Res.bind, Res.out, Res.map, RD.frz, look, BOp.fn, COp.fn, BF.fn, mem0, lenD, seqD, ltO, setS, rdSlot, mNil, mCons, mTup, mLst, mYes, mCall, truM, truD, intD, modD, mulD, addD, fdivD, powD, subD, mSetIx, thing, putThing, evF, unl_lst, unl_tup, unl_int, unl_bl, unl_str, unl_non, unl_scr, unl_exn, unl_ref, unl_dct, nl_lst, nl_tup, nl_dct, mLcI, mLoop, byName, isCellD, cellD, mExn, mAttr, mIsi, sizeLine_eq, c__law_take, unl_pool, nl_pool, hm, hs, ix0, ix1, ix2, set0, set1, h0, hlim]
  | false =>
    refine ⟨((c * 7919 + (t + 1) * 104729 + 13) % 2147483647) ^ 5 % 2147483647 / 17 % lim, c, t + 1, ?_, Int.emod_nonneg _ (by omega), Int.emod_lt_of_pos _ h0⟩
    have hx : ((c * 7919 + (t + 1) * 104729 + 13) % 2147483647).natAbs < 18446744073709551616 := by omega
    simp [evB, evS, evE, evT, evA, evI, evO, evG, mSeq, mIfS, mNext, mRet, mSet, mDrop, mIf, mAnd, mOr, mNot, lookA, lfA, lookM, frzM, mBinL, mBinV, mBin, mPeek, mCall1, mVar, mC, mMove, bM, hasS, peekO, ofO, Res.bind, Res.out, Res.map, RD.frz, look, BOp.fn, COp.fn, BF.fn, mem0, lenD, seqD, ltO, setS, rdSlot, mNil, mCons, mTup, mLst, mYes, mCall, truM, truD, intD, modD, mulD, addD, fdivD, powD, subD, mSetIx, thing, putThing, evF, unl_lst, unl_tup, unl_int, unl_bl, unl_str, unl_non, unl_scr, unl_exn, unl_ref, unl_dct, nl_lst, nl_tup, nl_dct, mLcI, mLoop, byName, isCellD, cellD, mExn, mAttr, mIsi, sizeLine_eq, c__law_take, unl_pool, nl_pool, hm, hs, ix0, ix1, ix2, set0, set1, h0, hlim, hx]

end KP

set_option Elab.async false
set_option linter.all false
set_option maxRecDepth 100000
set_option maxHeartbeats 4000000
namespace KP
open PySem PySem.Spec L2 HM
/-! ### the twelve -/
def mk (x : Int) (s : Str) : Nat → D
  | 0 => .exn "BadNumber" [("n", .int x)]
  | 1 => .exn "BadText" [("at", .int x)]
  | 2 => .exn "BadName" [("name", .str s)]
  | 3 => .exn "DuplicateName" [("name", .str s)]
  | 4 => .exn "UnknownName" [("name", .str s)]
  | 5 => .exn "BadMenu" [("names", .tup [.str "a", .str s])]
  | 6 => .exn "NotWilling" [("house", .str s)]
  | 7 => .exn "NotGrowing" [("house", .str s)]
  | 8 => .exn "NoStep" [("name", .str s)]
  | 9 => .exn "UnlikeApplicants" [("first", .tup [.str "a"]), ("second", .tup [.str s, .str "b"])]
  | 10 => .exn "NothingToShow" []
  | _ => .exn "NothingToUndo" []
structure Few (s : Str) : Prop where
  len : s.length ≤ 1000
  cps : (s.cps.toList.all fun c => decide (c < 16 ^ 8)) = true
theorem eq_str (s : Str) : eqO (.str s) (.str s) = some (.val (.bl true)) := eqO_self rfl
theorem eq_int (i : Int) : eqO (.int i) (.int i) = some (.val (.bl true)) := eqO_self rfl
theorem eq_tup (s : Str) : eqO (.tup [.str "a", .str s]) (.tup [.str "a", .str s]) = some (.val (.bl true)) := eqO_self rfl
theorem eq_lst (s : Str) : eqO (.lst [.tup [.str "a"], .tup [.str s, .str "b"]]) (.lst [.tup [.str "a"], .tup [.str s, .str "b"]]) = some (.val (.bl true)) := eqO_self rfl
theorem at0x (a b : D) : L2.atI [a, b] 0 = some a := rfl
theorem at1x (a b : D) : L2.atI [a, b] 1 = some b := rfl
theorem eq_ne (i j : Int) (h : i ≠ j) : eqO (.int i) (.int j) = some (.val (.bl false)) := by simp [evB, evS, evE, evT, evA, evI, evO, evG, mSeq, mIfS, mNext, mRet, mSet, mDrop, mIf, mAnd, mOr, mNot, lookA, lfA, lookM, frzM, mBinL, mBinV, mBin, mPeek, mCall1, mVar, mC, mMove, bM, hasS, peekO, ofO, Res.bind, Res.out, Res.map, RD.frz, look, BOp.fn, COp.fn, BF.fn, mem0, lenD, seqD, ltO, setS, rdSlot, mNil, mCons, mTup, mLst, mYes, mCall, truM, truD, intD, modD, mulD, addD, fdivD, powD, subD, mSetIx, thing, putThing, evF, unl_lst, unl_tup, unl_int, unl_bl, unl_str, unl_non, unl_scr, unl_exn, unl_ref, unl_dct, nl_lst, nl_tup, nl_dct, mLcI, mLoop, byName, isCellD, cellD, mExn, mAttr, mIsi, sizeLine_eq, eqO, cmpOk, plainD, depD, eqD, h]
theorem at0 (d : D) : attrD excT "n" (.exn "BadNumber" [("n", d)]) = some d := rfl
theorem at1 (d : D) : attrD excT "at" (.exn "BadText" [("at", d)]) = some d := rfl
theorem at2 (d : D) : attrD excT "name" (.exn "BadName" [("name", d)]) = some d := rfl
theorem at3 (d : D) : attrD excT "name" (.exn "DuplicateName" [("name", d)]) = some d := rfl
theorem at4 (d : D) : attrD excT "name" (.exn "UnknownName" [("name", d)]) = some d := rfl
theorem at5 (d : D) : attrD excT "names" (.exn "BadMenu" [("names", d)]) = some d := rfl
theorem at6 (d : D) : attrD excT "house" (.exn "NotWilling" [("house", d)]) = some d := rfl
theorem at7 (d : D) : attrD excT "house" (.exn "NotGrowing" [("house", d)]) = some d := rfl
theorem at8 (d : D) : attrD excT "name" (.exn "NoStep" [("name", d)]) = some d := rfl
theorem at9 (d e : D) : attrD excT "first" (.exn "UnlikeApplicants" [("first", d), ("second", e)]) = some d := rfl
theorem at10 (d e : D) : attrD excT "second" (.exn "UnlikeApplicants" [("first", d), ("second", e)]) = some e := rfl
theorem named_eq (n : Nat) (k : Nat) (x : Int) (s : Str) (st : List D) (hs : Few s) (h1 : k = 2 ∨ k = 3 ∨ k = 4 ∨ k = 6 ∨ k = 7 ∨ k = 8) : F (n + 1) "_law_named" [.int k, .str s] st = .ok (.own (.lst [mk x s k, .bl true])) (mem0 st) := by
  have hl := hs.len
  rw [F__law_named, evF_of]
  rcases h1 with rfl | rfl | rfl | rfl | rfl | rfl <;> simp [evB, evS, evE, evT, evA, evI, evO, evG, mSeq, mIfS, mNext, mRet, mSet, mDrop, mIf, mAnd, mOr, mNot, lookA, lfA, lookM, frzM, mBinL, mBinV, mBin, mPeek, mCall1, mVar, mC, mMove, bM, hasS, peekO, ofO, Res.bind, Res.out, Res.map, RD.frz, look, BOp.fn, COp.fn, BF.fn, mem0, lenD, seqD, ltO, setS, rdSlot, mNil, mCons, mTup, mLst, mYes, mCall, truM, truD, intD, modD, mulD, addD, fdivD, powD, subD, mSetIx, thing, putThing, evF, unl_lst, unl_tup, unl_int, unl_bl, unl_str, unl_non, unl_scr, unl_exn, unl_ref, unl_dct, nl_lst, nl_tup, nl_dct, mLcI, mLoop, byName, isCellD, cellD, mExn, mAttr, mIsi, sizeLine_eq, c__law_named, eq_int, eq_ne, eq_str, mk, excArgs, excArg, hl, fin, at0, at1, at2, at3, at4, at5, at6, at7, at8, at9, at10]
theorem made_eq (n : Nat) (k : Nat) (x : Int) (s : Str) (st : List D) (hs : Few s) (hx : x.natAbs.log2 < 1900) (h1 : k < 12) : F (n + 2) "_law_made" [.int k, .int x, .str s] st = .ok (.own (.lst [mk x s k, .bl true])) (mem0 st) := by
  have hl := hs.len
  have xs : excStr (.str s) = true := by
    show (decide (s.length ≤ 1000) && _) = true
    rw [decide_eq_true hs.len, hs.cps]
    rfl
  have x1 : excArgs [.int x] = true := by
    show (decide (x.natAbs.log2 < 1900) && true) = true
    rw [decide_eq_true hx]
    rfl
  have x5 : excArgs [.tup [.str "a", .str s]] = true := by
    show (((excStr (.str "a")) && ((excStr (.str s)) && true)) && true && true) = true
    rw [xs]
    decide +kernel
  have x9 : excArgs [.tup [.str "a"], .tup [.str s, .str "b"]] = true := by
    show (((excStr (.str "a")) && true) && true && (((excStr (.str s)) && ((excStr (.str "b")) && true)) && true && true)) = true
    rw [xs]
    decide +kernel
  have x0 : excArgs [] = true := rfl
  rw [F__law_made, evF_of]
  rcases (by omega : k = 0 ∨ k = 1 ∨ k = 2 ∨ k = 3 ∨ k = 4 ∨ k = 5 ∨ k = 6 ∨ k = 7 ∨ k = 8 ∨ k = 9 ∨ k = 10 ∨ k = 11) with rfl | rfl | rfl | rfl | rfl | rfl | rfl | rfl | rfl | rfl | rfl | rfl
  · simp [evB, evS, evE, evT, evA, evI, evO, evG, mSeq, mIfS, mNext, mRet, mSet, mDrop, mIf, mAnd, mOr, mNot, lookA, lfA, lookM, frzM, mBinL, mBinV, mBin, mPeek, mCall1, mVar, mC, mMove, bM, hasS, peekO, ofO, Res.bind, Res.out, Res.map, RD.frz, look, BOp.fn, COp.fn, BF.fn, mem0, lenD, seqD, ltO, setS, rdSlot, mNil, mCons, mTup, mLst, mYes, mCall, truM, truD, intD, modD, mulD, addD, fdivD, powD, subD, mSetIx, thing, putThing, evF, unl_lst, unl_tup, unl_int, unl_bl, unl_str, unl_non, unl_scr, unl_exn, unl_ref, unl_dct, nl_lst, nl_tup, nl_dct, mLcI, mLoop, byName, isCellD, cellD, mExn, mAttr, mIsi, sizeLine_eq, c__law_made, eq_ne, eq_int, eq_str, eq_tup, eq_lst, mk, at0x, at1x, x0, x1, x5, x9, fin, mGuard, ixAll, ixD, at0, at1, at2, at3, at4, at5, at6, at7, at8, at9, at10]
  · simp [evB, evS, evE, evT, evA, evI, evO, evG, mSeq, mIfS, mNext, mRet, mSet, mDrop, mIf, mAnd, mOr, mNot, lookA, lfA, lookM, frzM, mBinL, mBinV, mBin, mPeek, mCall1, mVar, mC, mMove, bM, hasS, peekO, ofO, Res.bind, Res.out, Res.map, RD.frz, look, BOp.fn, COp.fn, BF.fn, mem0, lenD, seqD, ltO, setS, rdSlot, mNil, mCons, mTup, mLst, mYes, mCall, truM, truD, intD, modD, mulD, addD, fdivD, powD, subD, mSetIx, thing, putThing, evF, unl_lst, unl_tup, unl_int, unl_bl, unl_str, unl_non, unl_scr, unl_exn, unl_ref, unl_dct, nl_lst, nl_tup, nl_dct, mLcI, mLoop, byName, isCellD, cellD, mExn, mAttr, mIsi, sizeLine_eq, c__law_made, eq_ne, eq_int, eq_str, eq_tup, eq_lst, mk, at0x, at1x, x0, x1, x5, x9, fin, mGuard, ixAll, ixD, at0, at1, at2, at3, at4, at5, at6, at7, at8, at9, at10]
  · have nm := named_eq n 2 x s st hs (by decide)
    simp [evB, evS, evE, evT, evA, evI, evO, evG, mSeq, mIfS, mNext, mRet, mSet, mDrop, mIf, mAnd, mOr, mNot, lookA, lfA, lookM, frzM, mBinL, mBinV, mBin, mPeek, mCall1, mVar, mC, mMove, bM, hasS, peekO, ofO, Res.bind, Res.out, Res.map, RD.frz, look, BOp.fn, COp.fn, BF.fn, mem0, lenD, seqD, ltO, setS, rdSlot, mNil, mCons, mTup, mLst, mYes, mCall, truM, truD, intD, modD, mulD, addD, fdivD, powD, subD, mSetIx, thing, putThing, evF, unl_lst, unl_tup, unl_int, unl_bl, unl_str, unl_non, unl_scr, unl_exn, unl_ref, unl_dct, nl_lst, nl_tup, nl_dct, mLcI, mLoop, byName, isCellD, cellD, mExn, mAttr, mIsi, sizeLine_eq, mk] at nm
    simp [evB, evS, evE, evT, evA, evI, evO, evG, mSeq, mIfS, mNext, mRet, mSet, mDrop, mIf, mAnd, mOr, mNot, lookA, lfA, lookM, frzM, mBinL, mBinV, mBin, mPeek, mCall1, mVar, mC, mMove, bM, hasS, peekO, ofO, Res.bind, Res.out, Res.map, RD.frz, look, BOp.fn, COp.fn, BF.fn, mem0, lenD, seqD, ltO, setS, rdSlot, mNil, mCons, mTup, mLst, mYes, mCall, truM, truD, intD, modD, mulD, addD, fdivD, powD, subD, mSetIx, thing, putThing, evF, unl_lst, unl_tup, unl_int, unl_bl, unl_str, unl_non, unl_scr, unl_exn, unl_ref, unl_dct, nl_lst, nl_tup, nl_dct, mLcI, mLoop, byName, isCellD, cellD, mExn, mAttr, mIsi, sizeLine_eq, c__law_made, eq_ne, eq_int, eq_str, eq_tup, eq_lst, mk, at0x, at1x, x0, x1, x5, x9, fin, mGuard, ixAll, ixD, at0, at1, at2, at3, at4, at5, at6, at7, at8, at9, at10, nm]
  · have nm := named_eq n 3 x s st hs (by decide)
    simp [evB, evS, evE, evT, evA, evI, evO, evG, mSeq, mIfS, mNext, mRet, mSet, mDrop, mIf, mAnd, mOr, mNot, lookA, lfA, lookM, frzM, mBinL, mBinV, mBin, mPeek, mCall1, mVar, mC, mMove, bM, hasS, peekO, ofO, Res.bind, Res.out, Res.map, RD.frz, look, BOp.fn, COp.fn, BF.fn, mem0, lenD, seqD, ltO, setS, rdSlot, mNil, mCons, mTup, mLst, mYes, mCall, truM, truD, intD, modD, mulD, addD, fdivD, powD, subD, mSetIx, thing, putThing, evF, unl_lst, unl_tup, unl_int, unl_bl, unl_str, unl_non, unl_scr, unl_exn, unl_ref, unl_dct, nl_lst, nl_tup, nl_dct, mLcI, mLoop, byName, isCellD, cellD, mExn, mAttr, mIsi, sizeLine_eq, mk] at nm
    simp [evB, evS, evE, evT, evA, evI, evO, evG, mSeq, mIfS, mNext, mRet, mSet, mDrop, mIf, mAnd, mOr, mNot, lookA, lfA, lookM, frzM, mBinL, mBinV, mBin, mPeek, mCall1, mVar, mC, mMove, bM, hasS, peekO, ofO, Res.bind, Res.out, Res.map, RD.frz, look, BOp.fn, COp.fn, BF.fn, mem0, lenD, seqD, ltO, setS, rdSlot, mNil, mCons, mTup, mLst, mYes, mCall, truM, truD, intD, modD, mulD, addD, fdivD, powD, subD, mSetIx, thing, putThing, evF, unl_lst, unl_tup, unl_int, unl_bl, unl_str, unl_non, unl_scr, unl_exn, unl_ref, unl_dct, nl_lst, nl_tup, nl_dct, mLcI, mLoop, byName, isCellD, cellD, mExn, mAttr, mIsi, sizeLine_eq, c__law_made, eq_ne, eq_int, eq_str, eq_tup, eq_lst, mk, at0x, at1x, x0, x1, x5, x9, fin, mGuard, ixAll, ixD, at0, at1, at2, at3, at4, at5, at6, at7, at8, at9, at10, nm]
  · have nm := named_eq n 4 x s st hs (by decide)
    simp [evB, evS, evE, evT, evA, evI, evO, evG, mSeq, mIfS, mNext, mRet, mSet, mDrop, mIf, mAnd, mOr, mNot, lookA, lfA, lookM, frzM, mBinL, mBinV, mBin, mPeek, mCall1, mVar, mC, mMove, bM, hasS, peekO, ofO, Res.bind, Res.out, Res.map, RD.frz, look, BOp.fn, COp.fn, BF.fn, mem0, lenD, seqD, ltO, setS, rdSlot, mNil, mCons, mTup, mLst, mYes, mCall, truM, truD, intD, modD, mulD, addD, fdivD, powD, subD, mSetIx, thing, putThing, evF, unl_lst, unl_tup, unl_int, unl_bl, unl_str, unl_non, unl_scr, unl_exn, unl_ref, unl_dct, nl_lst, nl_tup, nl_dct, mLcI, mLoop, byName, isCellD, cellD, mExn, mAttr, mIsi, sizeLine_eq, mk] at nm
    simp [evB, evS, evE, evT, evA, evI, evO, evG, mSeq, mIfS, mNext, mRet, mSet, mDrop, mIf, mAnd, mOr, mNot, lookA, lfA, lookM, frzM, mBinL, mBinV, mBin, mPeek, mCall1, mVar, mC, mMove, bM, hasS, peekO, ofO, Res.bind, Res.out, Res.map, RD.frz, look, BOp.fn, COp.fn, BF.fn, mem0, lenD, seqD, ltO, setS, rdSlot, mNil, mCons, mTup, mLst, mYes, mCall, truM, truD, intD, modD, mulD, addD, fdivD, powD, subD, mSetIx, thing, putThing, evF, unl_lst, unl_tup, unl_int, unl_bl, unl_str, unl_non, unl_scr, unl_exn, unl_ref, unl_dct, nl_lst, nl_tup, nl_dct, mLcI, mLoop, byName, isCellD, cellD, mExn, mAttr, mIsi, sizeLine_eq, c__law_made, eq_ne, eq_int, eq_str, eq_tup, eq_lst, mk, at0x, at1x, x0, x1, x5, x9, fin, mGuard, ixAll, ixD, at0, at1, at2, at3, at4, at5, at6, at7, at8, at9, at10, nm]
  · simp [evB, evS, evE, evT, evA, evI, evO, evG, mSeq, mIfS, mNext, mRet, mSet, mDrop, mIf, mAnd, mOr, mNot, lookA, lfA, lookM, frzM, mBinL, mBinV, mBin, mPeek, mCall1, mVar, mC, mMove, bM, hasS, peekO, ofO, Res.bind, Res.out, Res.map, RD.frz, look, BOp.fn, COp.fn, BF.fn, mem0, lenD, seqD, ltO, setS, rdSlot, mNil, mCons, mTup, mLst, mYes, mCall, truM, truD, intD, modD, mulD, addD, fdivD, powD, subD, mSetIx, thing, putThing, evF, unl_lst, unl_tup, unl_int, unl_bl, unl_str, unl_non, unl_scr, unl_exn, unl_ref, unl_dct, nl_lst, nl_tup, nl_dct, mLcI, mLoop, byName, isCellD, cellD, mExn, mAttr, mIsi, sizeLine_eq, c__law_made, eq_ne, eq_int, eq_str, eq_tup, eq_lst, mk, at0x, at1x, x0, x1, x5, x9, fin, mGuard, ixAll, ixD, at0, at1, at2, at3, at4, at5, at6, at7, at8, at9, at10]
  · have nm := named_eq n 6 x s st hs (by decide)
    simp [evB, evS, evE, evT, evA, evI, evO, evG, mSeq, mIfS, mNext, mRet, mSet, mDrop, mIf, mAnd, mOr, mNot, lookA, lfA, lookM, frzM, mBinL, mBinV, mBin, mPeek, mCall1, mVar, mC, mMove, bM, hasS, peekO, ofO, Res.bind, Res.out, Res.map, RD.frz, look, BOp.fn, COp.fn, BF.fn, mem0, lenD, seqD, ltO, setS, rdSlot, mNil, mCons, mTup, mLst, mYes, mCall, truM, truD, intD, modD, mulD, addD, fdivD, powD, subD, mSetIx, thing, putThing, evF, unl_lst, unl_tup, unl_int, unl_bl, unl_str, unl_non, unl_scr, unl_exn, unl_ref, unl_dct, nl_lst, nl_tup, nl_dct, mLcI, mLoop, byName, isCellD, cellD, mExn, mAttr, mIsi, sizeLine_eq, mk] at nm
    simp [evB, evS, evE, evT, evA, evI, evO, evG, mSeq, mIfS, mNext, mRet, mSet, mDrop, mIf, mAnd, mOr, mNot, lookA, lfA, lookM, frzM, mBinL, mBinV, mBin, mPeek, mCall1, mVar, mC, mMove, bM, hasS, peekO, ofO, Res.bind, Res.out, Res.map, RD.frz, look, BOp.fn, COp.fn, BF.fn, mem0, lenD, seqD, ltO, setS, rdSlot, mNil, mCons, mTup, mLst, mYes, mCall, truM, truD, intD, modD, mulD, addD, fdivD, powD, subD, mSetIx, thing, putThing, evF, unl_lst, unl_tup, unl_int, unl_bl, unl_str, unl_non, unl_scr, unl_exn, unl_ref, unl_dct, nl_lst, nl_tup, nl_dct, mLcI, mLoop, byName, isCellD, cellD, mExn, mAttr, mIsi, sizeLine_eq, c__law_made, eq_ne, eq_int, eq_str, eq_tup, eq_lst, mk, at0x, at1x, x0, x1, x5, x9, fin, mGuard, ixAll, ixD, at0, at1, at2, at3, at4, at5, at6, at7, at8, at9, at10, nm]
  · have nm := named_eq n 7 x s st hs (by decide)
    simp [evB, evS, evE, evT, evA, evI, evO, evG, mSeq, mIfS, mNext, mRet, mSet, mDrop, mIf, mAnd, mOr, mNot, lookA, lfA, lookM, frzM, mBinL, mBinV, mBin, mPeek, mCall1, mVar, mC, mMove, bM, hasS, peekO, ofO, Res.bind, Res.out, Res.map, RD.frz, look, BOp.fn, COp.fn, BF.fn, mem0, lenD, seqD, ltO, setS, rdSlot, mNil, mCons, mTup, mLst, mYes, mCall, truM, truD, intD, modD, mulD, addD, fdivD, powD, subD, mSetIx, thing, putThing, evF, unl_lst, unl_tup, unl_int, unl_bl, unl_str, unl_non, unl_scr, unl_exn, unl_ref, unl_dct, nl_lst, nl_tup, nl_dct, mLcI, mLoop, byName, isCellD, cellD, mExn, mAttr, mIsi, sizeLine_eq, mk] at nm
    simp [evB, evS, evE, evT, evA, evI, evO, evG, mSeq, mIfS, mNext, mRet, mSet, mDrop, mIf, mAnd, mOr, mNot, lookA, lfA, lookM, frzM, mBinL, mBinV, mBin, mPeek, mCall1, mVar, mC, mMove, bM, hasS, peekO, ofO, Res.bind, Res.out, Res.map, RD.frz, look, BOp.fn, COp.fn, BF.fn, mem0, lenD, seqD, ltO, setS, rdSlot, mNil, mCons, mTup, mLst, mYes, mCall, truM, truD, intD, modD, mulD, addD, fdivD, powD, subD, mSetIx, thing, putThing, evF, unl_lst, unl_tup, unl_int, unl_bl, unl_str, unl_non, unl_scr, unl_exn, unl_ref, unl_dct, nl_lst, nl_tup, nl_dct, mLcI, mLoop, byName, isCellD, cellD, mExn, mAttr, mIsi, sizeLine_eq, c__law_made, eq_ne, eq_int, eq_str, eq_tup, eq_lst, mk, at0x, at1x, x0, x1, x5, x9, fin, mGuard, ixAll, ixD, at0, at1, at2, at3, at4, at5, at6, at7, at8, at9, at10, nm]
  · have nm := named_eq n 8 x s st hs (by decide)
    simp [evB, evS, evE, evT, evA, evI, evO, evG, mSeq, mIfS, mNext, mRet, mSet, mDrop, mIf, mAnd, mOr, mNot, lookA, lfA, lookM, frzM, mBinL, mBinV, mBin, mPeek, mCall1, mVar, mC, mMove, bM, hasS, peekO, ofO, Res.bind, Res.out, Res.map, RD.frz, look, BOp.fn, COp.fn, BF.fn, mem0, lenD, seqD, ltO, setS, rdSlot, mNil, mCons, mTup, mLst, mYes, mCall, truM, truD, intD, modD, mulD, addD, fdivD, powD, subD, mSetIx, thing, putThing, evF, unl_lst, unl_tup, unl_int, unl_bl, unl_str, unl_non, unl_scr, unl_exn, unl_ref, unl_dct, nl_lst, nl_tup, nl_dct, mLcI, mLoop, byName, isCellD, cellD, mExn, mAttr, mIsi, sizeLine_eq, mk] at nm
    simp [evB, evS, evE, evT, evA, evI, evO, evG, mSeq, mIfS, mNext, mRet, mSet, mDrop, mIf, mAnd, mOr, mNot, lookA, lfA, lookM, frzM, mBinL, mBinV, mBin, mPeek, mCall1, mVar, mC, mMove, bM, hasS, peekO, ofO, Res.bind, Res.out, Res.map, RD.frz, look, BOp.fn, COp.fn, BF.fn, mem0, lenD, seqD, ltO, setS, rdSlot, mNil, mCons, mTup, mLst, mYes, mCall, truM, truD, intD, modD, mulD, addD, fdivD, powD, subD, mSetIx, thing, putThing, evF, unl_lst, unl_tup, unl_int, unl_bl, unl_str, unl_non, unl_scr, unl_exn, unl_ref, unl_dct, nl_lst, nl_tup, nl_dct, mLcI, mLoop, byName, isCellD, cellD, mExn, mAttr, mIsi, sizeLine_eq, c__law_made, eq_ne, eq_int, eq_str, eq_tup, eq_lst, mk, at0x, at1x, x0, x1, x5, x9, fin, mGuard, ixAll, ixD, at0, at1, at2, at3, at4, at5, at6, at7, at8, at9, at10, nm]
  · simp [evB, evS, evE, evT, evA, evI, evO, evG, mSeq, mIfS, mNext, mRet, mSet, mDrop, mIf, mAnd, mOr, mNot, lookA, lfA, lookM, frzM, mBinL, mBinV, mBin, mPeek, mCall1, mVar, mC, mMove, bM, hasS, peekO, ofO, Res.bind, Res.out, Res.map, RD.frz, look, BOp.fn, COp.fn, BF.fn, mem0, lenD, seqD, ltO, setS, rdSlot, mNil, mCons, mTup, mLst, mYes, mCall, truM, truD, intD, modD, mulD, addD, fdivD, powD, subD, mSetIx, thing, putThing, evF, unl_lst, unl_tup, unl_int, unl_bl, unl_str, unl_non, unl_scr, unl_exn, unl_ref, unl_dct, nl_lst, nl_tup, nl_dct, mLcI, mLoop, byName, isCellD, cellD, mExn, mAttr, mIsi, sizeLine_eq, c__law_made, eq_ne, eq_int, eq_str, eq_tup, eq_lst, mk, at0x, at1x, x0, x1, x5, x9, fin, mGuard, ixAll, ixD, at0, at1, at2, at3, at4, at5, at6, at7, at8, at9, at10]
  · simp [evB, evS, evE, evT, evA, evI, evO, evG, mSeq, mIfS, mNext, mRet, mSet, mDrop, mIf, mAnd, mOr, mNot, lookA, lfA, lookM, frzM, mBinL, mBinV, mBin, mPeek, mCall1, mVar, mC, mMove, bM, hasS, peekO, ofO, Res.bind, Res.out, Res.map, RD.frz, look, BOp.fn, COp.fn, BF.fn, mem0, lenD, seqD, ltO, setS, rdSlot, mNil, mCons, mTup, mLst, mYes, mCall, truM, truD, intD, modD, mulD, addD, fdivD, powD, subD, mSetIx, thing, putThing, evF, unl_lst, unl_tup, unl_int, unl_bl, unl_str, unl_non, unl_scr, unl_exn, unl_ref, unl_dct, nl_lst, nl_tup, nl_dct, mLcI, mLoop, byName, isCellD, cellD, mExn, mAttr, mIsi, sizeLine_eq, c__law_made, eq_ne, eq_int, eq_str, eq_tup, eq_lst, mk, at0x, at1x, x0, x1, x5, x9, fin, mGuard, ixAll, ixD, at0, at1, at2, at3, at4, at5, at6, at7, at8, at9, at10]
  · simp [evB, evS, evE, evT, evA, evI, evO, evG, mSeq, mIfS, mNext, mRet, mSet, mDrop, mIf, mAnd, mOr, mNot, lookA, lfA, lookM, frzM, mBinL, mBinV, mBin, mPeek, mCall1, mVar, mC, mMove, bM, hasS, peekO, ofO, Res.bind, Res.out, Res.map, RD.frz, look, BOp.fn, COp.fn, BF.fn, mem0, lenD, seqD, ltO, setS, rdSlot, mNil, mCons, mTup, mLst, mYes, mCall, truM, truD, intD, modD, mulD, addD, fdivD, powD, subD, mSetIx, thing, putThing, evF, unl_lst, unl_tup, unl_int, unl_bl, unl_str, unl_non, unl_scr, unl_exn, unl_ref, unl_dct, nl_lst, nl_tup, nl_dct, mLcI, mLoop, byName, isCellD, cellD, mExn, mAttr, mIsi, sizeLine_eq, c__law_made, eq_ne, eq_int, eq_str, eq_tup, eq_lst, mk, at0x, at1x, x0, x1, x5, x9, fin, mGuard, ixAll, ixD, at0, at1, at2, at3, at4, at5, at6, at7, at8, at9, at10]
end KP

set_option Elab.async false
set_option linter.all false
set_option maxRecDepth 100000
set_option maxHeartbeats 4000000
namespace KP
open PySem PySem.Spec L2 HM
/-! ### isinstance -/
def cN (k : Nat) : Str := [("BadNumber" : Str), "BadText", "BadName", "DuplicateName", "UnknownName", "BadMenu", "NotWilling", "NotGrowing", "NoStep", "UnlikeApplicants", "NothingToShow", "NothingToUndo"].getD k ""
theorem mk_exn (x : Int) (s : Str) (k : Nat) (h : k < 12) : ∃ fs, mk x s k = .exn (cN k) fs := by
  rcases (by omega : k = 0 ∨ k = 1 ∨ k = 2 ∨ k = 3 ∨ k = 4 ∨ k = 5 ∨ k = 6 ∨ k = 7 ∨ k = 8 ∨ k = 9 ∨ k = 10 ∨ k = 11) with rfl | rfl | rfl | rfl | rfl | rfl | rfl | rfl | rfl | rfl | rfl | rfl <;> exact ⟨_, rfl⟩
def isiTs : List (List (Str × Bool)) := [isiT0, isiT1, isiT2, isiT3, isiT4, isiT5, isiT6, isiT7, isiT8, isiT9, isiT10, isiT11]
theorem isi_all : ∀ j k : Fin 12, (isiTs.getD j.val []).lookup (cN k.val) = some (decide (j.val = k.val)) := by decide +kernel
theorem isi_12 : ∀ k : Fin 12, isiT12.lookup (cN k.val) = some true := by decide +kernel
theorem is0 (k : Nat) (h : k < 12) (fs : List (Str × D)) : isiD isiT0 (.exn (cN k) fs) = some (.val (.bl (decide (0 = k)))) := congrArg (Option.map fun b => RD.val (.bl b)) (isi_all ⟨0, by decide⟩ ⟨k, h⟩)
theorem is1 (k : Nat) (h : k < 12) (fs : List (Str × D)) : isiD isiT1 (.exn (cN k) fs) = some (.val (.bl (decide (1 = k)))) := congrArg (Option.map fun b => RD.val (.bl b)) (isi_all ⟨1, by decide⟩ ⟨k, h⟩)
theorem is2 (k : Nat) (h : k < 12) (fs : List (Str × D)) : isiD isiT2 (.exn (cN k) fs) = some (.val (.bl (decide (2 = k)))) := congrArg (Option.map fun b => RD.val (.bl b)) (isi_all ⟨2, by decide⟩ ⟨k, h⟩)
theorem is3 (k : Nat) (h : k < 12) (fs : List (Str × D)) : isiD isiT3 (.exn (cN k) fs) = some (.val (.bl (decide (3 = k)))) := congrArg (Option.map fun b => RD.val (.bl b)) (isi_all ⟨3, by decide⟩ ⟨k, h⟩)
theorem is4 (k : Nat) (h : k < 12) (fs : List (Str × D)) : isiD isiT4 (.exn (cN k) fs) = some (.val (.bl (decide (4 = k)))) := congrArg (Option.map fun b => RD.val (.bl b)) (isi_all ⟨4, by decide⟩ ⟨k, h⟩)
theorem is5 (k : Nat) (h : k < 12) (fs : List (Str × D)) : isiD isiT5 (.exn (cN k) fs) = some (.val (.bl (decide (5 = k)))) := congrArg (Option.map fun b => RD.val (.bl b)) (isi_all ⟨5, by decide⟩ ⟨k, h⟩)
theorem is6 (k : Nat) (h : k < 12) (fs : List (Str × D)) : isiD isiT6 (.exn (cN k) fs) = some (.val (.bl (decide (6 = k)))) := congrArg (Option.map fun b => RD.val (.bl b)) (isi_all ⟨6, by decide⟩ ⟨k, h⟩)
theorem is7 (k : Nat) (h : k < 12) (fs : List (Str × D)) : isiD isiT7 (.exn (cN k) fs) = some (.val (.bl (decide (7 = k)))) := congrArg (Option.map fun b => RD.val (.bl b)) (isi_all ⟨7, by decide⟩ ⟨k, h⟩)
theorem is8 (k : Nat) (h : k < 12) (fs : List (Str × D)) : isiD isiT8 (.exn (cN k) fs) = some (.val (.bl (decide (8 = k)))) := congrArg (Option.map fun b => RD.val (.bl b)) (isi_all ⟨8, by decide⟩ ⟨k, h⟩)
theorem is9 (k : Nat) (h : k < 12) (fs : List (Str × D)) : isiD isiT9 (.exn (cN k) fs) = some (.val (.bl (decide (9 = k)))) := congrArg (Option.map fun b => RD.val (.bl b)) (isi_all ⟨9, by decide⟩ ⟨k, h⟩)
theorem is10 (k : Nat) (h : k < 12) (fs : List (Str × D)) : isiD isiT10 (.exn (cN k) fs) = some (.val (.bl (decide (10 = k)))) := congrArg (Option.map fun b => RD.val (.bl b)) (isi_all ⟨10, by decide⟩ ⟨k, h⟩)
theorem is11 (k : Nat) (h : k < 12) (fs : List (Str × D)) : isiD isiT11 (.exn (cN k) fs) = some (.val (.bl (decide (11 = k)))) := congrArg (Option.map fun b => RD.val (.bl b)) (isi_all ⟨11, by decide⟩ ⟨k, h⟩)
theorem is12 (k : Nat) (h : k < 12) (fs : List (Str × D)) : isiD isiT12 (.exn (cN k) fs) = some (.val (.bl true)) := congrArg (Option.map fun b => RD.val (.bl b)) (isi_12 ⟨k, h⟩)
def bls (k : Nat) : List D := [.bl (decide (0 = k)), .bl (decide (1 = k)), .bl (decide (2 = k)), .bl (decide (3 = k)), .bl (decide (4 = k)), .bl (decide (5 = k)), .bl (decide (6 = k)), .bl (decide (7 = k)), .bl (decide (8 = k)), .bl (decide (9 = k)), .bl (decide (10 = k)), .bl (decide (11 = k))]
theorem kinds_eq (n k : Nat) (h : k < 12) (fs : List (Str × D)) (st : List D) : F (n + 1) "_law_kinds" [.exn (cN k) fs] st = .ok (.own (.lst (bls k))) (mem0 st) := by
  rw [F__law_kinds, evF_of]
  have i0 := is0 k h fs
  have i1 := is1 k h fs
  have i2 := is2 k h fs
  have i3 := is3 k h fs
  have i4 := is4 k h fs
  have i5 := is5 k h fs
  have i6 := is6 k h fs
  have i7 := is7 k h fs
  have i8 := is8 k h fs
  have i9 := is9 k h fs
  have i10 := is10 k h fs
  have i11 := is11 k h fs
  unfold bls
  generalize decide (0 = k) = b0 at i0 ⊢
  generalize decide (1 = k) = b1 at i1 ⊢
  generalize decide (2 = k) = b2 at i2 ⊢
  generalize decide (3 = k) = b3 at i3 ⊢
  generalize decide (4 = k) = b4 at i4 ⊢
  generalize decide (5 = k) = b5 at i5 ⊢
  generalize decide (6 = k) = b6 at i6 ⊢
  generalize decide (7 = k) = b7 at i7 ⊢
  generalize decide (8 = k) = b8 at i8 ⊢
  generalize decide (9 = k) = b9 at i9 ⊢
  generalize decide (10 = k) = b10 at i10 ⊢
  generalize decide (11 = k) = b11 at i11 ⊢
  simp [evB, evS, evE, evT, evA, evI, evO, evG, mSeq, mIfS, mNext, mRet, mSet, mDrop, mIf, mAnd, mOr, mNot, lookA, lfA, lookM, frzM, mBinL, mBinV, mBin, mPeek, mCall1, mVar, mC, mMove, bM, hasS, peekO, ofO, Res.bind, Res.out, Res.map, RD.frz, look, BOp.fn, COp.fn, BF.fn, mem0, lenD, seqD, ltO, setS, rdSlot, mNil, mCons, mTup, mLst, mYes, mCall, truM, truD, intD, modD, mulD, addD, fdivD, powD, subD, mSetIx, thing, putThing, evF, unl_lst, unl_tup, unl_int, unl_bl, unl_str, unl_non, unl_scr, unl_exn, unl_ref, unl_dct, nl_lst, nl_tup, nl_dct, mLcI, mLoop, byName, isCellD, cellD, mExn, mAttr, mIsi, sizeLine_eq, c__law_kinds, i0, i1, i2, i3, i4, i5, i6, i7, i8, i9, i10, i11, fin]
end KP

set_option Elab.async false
set_option linter.all false
set_option maxRecDepth 100000
set_option maxHeartbeats 400000
namespace KP
open PySem PySem.Spec L2 HM
/-! ### the law -/
def lcT : CE := .lc [7] (.rng1 (.lit (.int 12))) (.nm 7) .yes (.cmp .eq (.var 7) (.var 4))
def isK (k : Nat) : D → D
  | .int j => .bl (decide (j.toNat = k))
  | d => d
theorem bls_map (k : Nat) : (upDs 0 12).map (isK k) = bls k := rfl
theorem eq_dec (i j : Nat) : eqO (.int i) (.int j) = some (.val (.bl (decide (i = j)))) := by
  by_cases h : i = j
  · subst h
    rw [eq_int]
    simp [evB, evS, evE, evT, evA, evI, evO, evG, mSeq, mIfS, mNext, mRet, mSet, mDrop, mIf, mAnd, mOr, mNot, lookA, lfA, lookM, frzM, mBinL, mBinV, mBin, mPeek, mCall1, mVar, mC, mMove, bM, hasS, peekO, ofO, Res.bind, Res.out, Res.map, RD.frz, look, BOp.fn, COp.fn, BF.fn, mem0, lenD, seqD, ltO, setS, rdSlot, mNil, mCons, mTup, mLst, mYes, mCall, truM, truD, intD, modD, mulD, addD, fdivD, powD, subD, mSetIx, thing, putThing, evF, unl_lst, unl_tup, unl_int, unl_bl, unl_str, unl_non, unl_scr, unl_exn, unl_ref, unl_dct, nl_lst, nl_tup, nl_dct, mLcI, mLoop, byName, isCellD, cellD, mExn, mAttr, mIsi, sizeLine_eq]
  · rw [eq_ne _ _ (by omega), decide_eq_false h]
theorem lc_eq (Φ : Str → FnM) (k : Nat) (v0 v1 v2 v3 v5 v6 : Slot) (st : List D) : evE Φ lcT ⟨[v0, v1, v2, v3, .val (.int k), v5, v6, .none], st⟩ = .ok (.own (.lst (bls k))) ⟨[v0, v1, v2, v3, .val (.int k), v5, v6, .none], st⟩ := by
  rw [← bls_map]
  have hU := upDs_eq 12 0
  have hI : mRange1 (frzM (evE Φ (.lit (.int 12)))) ⟨[v0, v1, v2, v3, .val (.int k), v5, v6, .none], st⟩ = .ok (upDs 0 12) ⟨[v0, v1, v2, v3, .val (.int k), v5, v6, .none], st⟩ := mRange1_nat (k := 12) (by simp [evB, evS, evE, evT, evA, evI, evO, evG, mSeq, mIfS, mNext, mRet, mSet, mDrop, mIf, mAnd, mOr, mNot, lookA, lfA, lookM, frzM, mBinL, mBinV, mBin, mPeek, mCall1, mVar, mC, mMove, bM, hasS, peekO, ofO, Res.bind, Res.out, Res.map, RD.frz, look, BOp.fn, COp.fn, BF.fn, mem0, lenD, seqD, ltO, setS, rdSlot, mNil, mCons, mTup, mLst, mYes, mCall, truM, truD, intD, modD, mulD, addD, fdivD, powD, subD, mSetIx, thing, putThing, evF, unl_lst, unl_tup, unl_int, unl_bl, unl_str, unl_non, unl_scr, unl_exn, unl_ref, unl_dct, nl_lst, nl_tup, nl_dct, mLcI, mLoop, byName, isCellD, cellD, mExn, mAttr, mIsi, sizeLine_eq]) (by omega)
  unfold lcT
  rw [evE]
  unfold mLcI
  simp only [byName]
  rw [evI, evG, evT]
  generalize upDs 0 12 = ds at hI hU ⊢
  refine mLc_name (f := isK k) hI rfl (fun d hd => ?_) (by rw [hU, List.length_map, List.length_range]; exact le_size (by omega))
  rw [hU] at hd
  obtain ⟨i, _, rfl⟩ := List.mem_map.mp hd
  have e := eq_dec i k
  have e2 : ((0 : Nat) : Int) + (i : Int) = i := by omega
  rw [e2]
  simp [evB, evS, evE, evT, evA, evI, evO, evG, mSeq, mIfS, mNext, mRet, mSet, mDrop, mIf, mAnd, mOr, mNot, lookA, lfA, lookM, frzM, mBinL, mBinV, mBin, mPeek, mCall1, mVar, mC, mMove, bM, hasS, peekO, ofO, Res.bind, Res.out, Res.map, RD.frz, look, BOp.fn, COp.fn, BF.fn, mem0, lenD, seqD, ltO, setS, rdSlot, mNil, mCons, mTup, mLst, mYes, mCall, truM, truD, intD, modD, mulD, addD, fdivD, powD, subD, mSetIx, thing, putThing, evF, unl_lst, unl_tup, unl_int, unl_bl, unl_str, unl_non, unl_scr, unl_exn, unl_ref, unl_dct, nl_lst, nl_tup, nl_dct, mLcI, mLoop, byName, isCellD, cellD, mExn, mAttr, mIsi, sizeLine_eq, isK, e]
def bB : CB := .cons (.setT (.tup [(.nm 5), (.nm 6)]) (.call ("_law_made" : Str) 3 (.one (.var 4) (.one (.var 2) (.one (.var 3) .nil))))) (.cons (.ite (.or (.not (.tru (.var 6))) (.cmp .ne (.call ("_law_kinds" : Str) 1 (.one (.var 5) .nil)) lcT)) (.cons (.ret (.lit (.bl false))) .nil) .nil) (.cons (.ite (.or (.not (.tru (.isi isiT12 (.var 5)))) (.not (.tru (.isi isiT12 (.var 5))))) (.cons (.ret (.lit (.bl false))) .nil) .nil) .nil))
theorem ne_bls (k : Nat) : neO (.lst (bls k)) (.lst (bls k)) = some (.val (.bl false)) := neO_self rfl
theorem look_lc (Φ : Str → FnM) (k : Nat) (v0 v1 v2 v3 v5 v6 : Slot) (st : List D) : lookA lcT (evE Φ lcT) ⟨[v0, v1, v2, v3, .val (.int k), v5, v6, .none], st⟩ = .ok (.lst (bls k)) ⟨[v0, v1, v2, v3, .val (.int k), v5, v6, .none], st⟩ := by
  show lookM (frzM (evE Φ lcT)) _ = _
  have h := lc_eq Φ k v0 v1 v2 v3 v5 v6 st
  generalize evE Φ lcT = g at h ⊢
  simp [evB, evS, evE, evT, evA, evI, evO, evG, mSeq, mIfS, mNext, mRet, mSet, mDrop, mIf, mAnd, mOr, mNot, lookA, lfA, lookM, frzM, mBinL, mBinV, mBin, mPeek, mCall1, mVar, mC, mMove, bM, hasS, peekO, ofO, Res.bind, Res.out, Res.map, RD.frz, look, BOp.fn, COp.fn, BF.fn, mem0, lenD, seqD, ltO, setS, rdSlot, mNil, mCons, mTup, mLst, mYes, mCall, truM, truD, intD, modD, mulD, addD, fdivD, powD, subD, mSetIx, thing, putThing, evF, unl_lst, unl_tup, unl_int, unl_bl, unl_str, unl_non, unl_scr, unl_exn, unl_ref, unl_dct, nl_lst, nl_tup, nl_dct, mLcI, mLoop, byName, isCellD, cellD, mExn, mAttr, mIsi, sizeLine_eq, h]
def k1 : CS := .setT (.tup [(.nm 5), (.nm 6)]) (.call ("_law_made" : Str) 3 (.one (.var 4) (.one (.var 2) (.one (.var 3) .nil))))
def k2 : CS := .ite (.or (.not (.tru (.var 6))) (.cmp .ne (.call ("_law_kinds" : Str) 1 (.one (.var 5) .nil)) lcT)) (.cons (.ret (.lit (.bl false))) .nil) .nil
def k3 : CS := .ite (.or (.not (.tru (.isi isiT12 (.var 5)))) (.not (.tru (.isi isiT12 (.var 5))))) (.cons (.ret (.lit (.bl false))) .nil) .nil
theorem k2_eq (Φ : Str → FnM) (m k : Nat) (e : D) (v0 v1 v2 v3 : Slot) (st : List D) (he : ∀ n, e ≠ .ref n) (h2 : Φ "_law_kinds" [e] st = .ok (.own (.lst (bls k))) (mem0 st)) :
    evS Φ m k2 ⟨[v0, v1, v2, v3, .val (.int k), .val e, .val (.bl true), .none], st⟩ = .nx ⟨[v0, v1, v2, v3, .val (.int k), .val e, .val (.bl true), .none], st⟩ := by
  have h3 := look_lc Φ k v0 v1 v2 v3 (.val e) (.val (.bl true)) st
  have h4 := ne_bls k
  show mIfS (mOr (evT Φ (.not (.tru (.var 6)))) (bM (mBinL neO (lfA (.call ("_law_kinds" : Str) 1 (.one (.var 5) .nil)) (evE Φ (.call ("_law_kinds" : Str) 1 (.one (.var 5) .nil)))) (lookA lcT (evE Φ lcT))))) (evB Φ m (.cons (.ret (.lit (.bl false))) .nil)) (evB Φ m .nil) _ = _
  generalize lookA lcT (evE Φ lcT) = g at h3 ⊢
  generalize bls k = L at h2 h3 h4
  simp [evB, evS, evE, evT, evA, evI, evO, evG, mSeq, mIfS, mNext, mRet, mSet, mDrop, mIf, mAnd, mOr, mNot, lookA, lfA, lookM, frzM, mBinL, mBinV, mBin, mPeek, mCall1, mVar, mC, mMove, bM, hasS, peekO, ofO, Res.bind, Res.out, Res.map, RD.frz, look, BOp.fn, COp.fn, BF.fn, mem0, lenD, seqD, ltO, setS, rdSlot, mNil, mCons, mTup, mLst, mYes, mCall, truM, truD, intD, modD, mulD, addD, fdivD, powD, subD, mSetIx, thing, putThing, evF, unl_lst, unl_tup, unl_int, unl_bl, unl_str, unl_non, unl_scr, unl_exn, unl_ref, unl_dct, nl_lst, nl_tup, nl_dct, mLcI, mLoop, byName, isCellD, cellD, mExn, mAttr, mIsi, sizeLine_eq, mGuard, h2, h3, h4]
theorem k3_eq (Φ : Str → FnM) (m k : Nat) (h : k < 12) (fs : List (Str × D)) (v0 v1 v2 v3 v4 v6 : Slot) (st : List D) :
    evS Φ m k3 ⟨[v0, v1, v2, v3, v4, .val (.exn (cN k) fs), v6, .none], st⟩ = .nx ⟨[v0, v1, v2, v3, v4, .val (.exn (cN k) fs), v6, .none], st⟩ := by
  have h5 := is12 k h fs
  generalize D.exn (cN k) fs = e at h5 ⊢
  simp [evB, evS, evE, evT, evA, evI, evO, evG, mSeq, mIfS, mNext, mRet, mSet, mDrop, mIf, mAnd, mOr, mNot, lookA, lfA, lookM, frzM, mBinL, mBinV, mBin, mPeek, mCall1, mVar, mC, mMove, bM, hasS, peekO, ofO, Res.bind, Res.out, Res.map, RD.frz, look, BOp.fn, COp.fn, BF.fn, mem0, lenD, seqD, ltO, setS, rdSlot, mNil, mCons, mTup, mLst, mYes, mCall, truM, truD, intD, modD, mulD, addD, fdivD, powD, subD, mSetIx, thing, putThing, evF, unl_lst, unl_tup, unl_int, unl_bl, unl_str, unl_non, unl_scr, unl_exn, unl_ref, unl_dct, nl_lst, nl_tup, nl_dct, mLcI, mLoop, byName, isCellD, cellD, mExn, mAttr, mIsi, sizeLine_eq, k3, h5]
theorem k1_eq (Φ : Str → FnM) (m : Nat) (e : D) (k x : Int) (s : Str) (v0 v1 t5 t6 : Slot) (st : List D) (h1 : Φ "_law_made" [.int k, .int x, .str s] st = .ok (.own (.lst [e, .bl true])) (mem0 st)) :
    evS Φ m k1 ⟨[v0, v1, .val (.int x), .val (.str s), .val (.int k), t5, t6, .none], st⟩ = .nx ⟨[v0, v1, .val (.int x), .val (.str s), .val (.int k), .val e, .val (.bl true), .none], st⟩ := by
  simp [evB, evS, evE, evT, evA, evI, evO, evG, mSeq, mIfS, mNext, mRet, mSet, mDrop, mIf, mAnd, mOr, mNot, lookA, lfA, lookM, frzM, mBinL, mBinV, mBin, mPeek, mCall1, mVar, mC, mMove, bM, hasS, peekO, ofO, Res.bind, Res.out, Res.map, RD.frz, look, BOp.fn, COp.fn, BF.fn, mem0, lenD, seqD, ltO, setS, rdSlot, mNil, mCons, mTup, mLst, mYes, mCall, truM, truD, intD, modD, mulD, addD, fdivD, powD, subD, mSetIx, thing, putThing, evF, unl_lst, unl_tup, unl_int, unl_bl, unl_str, unl_non, unl_scr, unl_exn, unl_ref, unl_dct, nl_lst, nl_tup, nl_dct, mLcI, mLoop, byName, isCellD, cellD, mExn, mAttr, mIsi, sizeLine_eq, k1, mSetT, mGuard, mtTup, mtCons, mtName, mtNil, evGs, h1]
theorem turn_eq (n m k : Nat) (x : Int) (s : Str) (v0 v1 t5 t6 : Slot) (st : List D) (hs : Few s) (hx : x.natAbs.log2 < 1900) (h : k < 12) :
    evB (F (n + 2)) m bB ⟨[v0, v1, .val (.int x), .val (.str s), .val (.int k), t5, t6, .none], st⟩ = .nx ⟨[v0, v1, .val (.int x), .val (.str s), .val (.int k), .val (mk x s k), .val (.bl true), .none], st⟩ := by
  obtain ⟨fs, e⟩ := mk_exn x s k h
  have h1 := made_eq n k x s st hs hx h
  rw [e] at h1 ⊢
  have h2 := kinds_eq (n + 1) k h fs st
  show evB _ _ (.cons k1 (.cons k2 (.cons k3 .nil))) _ = _
  rw [evB_nx (k1_eq _ _ _ _ _ _ _ _ _ _ _ h1), evB_nx (k2_eq _ _ _ _ _ _ _ _ _ (fun n z => D.noConfusion z) h2), evB_nx (k3_eq _ _ _ h _ _ _ _ _ _ _ _)]
  rfl
end KP

set_option Elab.async false
set_option linter.all false
set_option maxRecDepth 100000
set_option maxHeartbeats 800000
namespace KP
open PySem PySem.Spec L2 HM
theorem n9 : ("9" : Str).length = 1 := by decide +kernel
def nine : Str := Txt.mul "9" 40
def a1 : CS := .set 1 (.call ("_law_pool" : Str) 1 (.one (.call ("_law_cell" : Str) 2 (.one (.var 0) (.one (.lit (.int 0)) .nil))) .nil))
def a2 : CS := .set 2 (.ix (.lst (.one (.bin .sub (.call ("_law_take" : Str) 2 (.lend 1 (.one (.lit (.int 40)) .nil))) (.lit (.int 9))) (.one (.bin .mod (.bcall .int (.call ("_law_cell" : Str) 2 (.one (.var 0) (.one (.lit (.int 1)) .nil)))) (.bin .pow (.lit (.int 10)) (.lit (.int 40)))) (.one (.lit (.int (-1))) .nil)))) (.call ("_law_take" : Str) 2 (.lend 1 (.one (.lit (.int 3)) .nil))))
def a3 : CS := .set 3 (.ix (.lst (.one (.lit (.str ("" : Str))) (.one (.lit (.str ("b" : Str))) (.one (.lit (.str ("abcdefgh" : Str))) (.one (.lit (.str ("X" : Str))) (.one (.lit (.str ("a b" : Str))) (.one (.bin .mul (.lit (.str ("9" : Str))) (.lit (.int 40))) .nil))))))) (.call ("_law_take" : Str) 2 (.lend 1 (.one (.lit (.int 6)) .nil))))
def a4 : CS := .loop (.rng1 (.lit (.int 12))) (.nm 4) bB
def a5 : CS := .ret (.lit (.bl true))
theorem law_parts : c_law = ⟨8, .cons a1 (.cons a2 (.cons a3 (.cons a4 (.cons a5 .nil))))⟩ := rfl
theorem a1_eq (Φ : Str → FnM) (m : Nat) (ns : List Int) (c : Int) (P : D) (h1 : Φ "_law_cell" [.scr ns, .int 0] [] = .ok (.val (.int c)) (mem0 [])) (h2 : Φ "_law_pool" [.int c] [] = .ok (.own P) (mem0 [])) :
    evS Φ m a1 ⟨[.val (.scr ns), .none, .none, .none, .none, .none, .none, .none], []⟩ = .nx ⟨[.val (.scr ns), .own P, .none, .none, .none, .none, .none, .none], []⟩ := by
  simp [evB, evS, evE, evT, evA, evI, evO, evG, mSeq, mIfS, mNext, mRet, mSet, mDrop, mIf, mAnd, mOr, mNot, lookA, lfA, lookM, frzM, mBinL, mBinV, mBin, mPeek, mCall1, mVar, mC, mMove, bM, hasS, peekO, ofO, Res.bind, Res.out, Res.map, RD.frz, look, BOp.fn, COp.fn, BF.fn, mem0, lenD, seqD, ltO, setS, rdSlot, mNil, mCons, mTup, mLst, mYes, mCall, truM, truD, intD, modD, mulD, addD, fdivD, powD, subD, mSetIx, thing, putThing, evF, unl_lst, unl_tup, unl_int, unl_bl, unl_str, unl_non, unl_scr, unl_exn, unl_ref, unl_dct, nl_lst, nl_tup, nl_dct, mLcI, mLoop, byName, isCellD, cellD, mExn, mAttr, mIsi, sizeLine_eq, a1, mGuard, h1, h2]
theorem a2_eq (Φ : Str → FnM) (m : Nat) (ns : List Int) (c1 k j x : Int) (P p1 p2 : D) (hP : nl P = some P) (h1 : Φ "_law_take" [.ref 0, .int 40] [P] = .ok (.val (.int k)) (mem0 [p1])) (h2 : Φ "_law_cell" [.scr ns, .int 1] [p1] = .ok (.val (.int c1)) (mem0 [p1]))
    (h3 : Φ "_law_take" [.ref 0, .int 3] [p1] = .ok (.val (.int j)) (mem0 [p2])) (h4 : ixAll (.lst [.int (k - 9), .int (c1 % 10000000000000000000000000000000000000000), .int (-1)]) (.int j) = some (.val (.int x))) :
    evS Φ m a2 ⟨[.val (.scr ns), .own P, .none, .none, .none, .none, .none, .none], []⟩ = .nx ⟨[.val (.scr ns), .val (.ref 0), .val (.int x), .none, .none, .none, .none, .none], [p2]⟩ := by
  simp [evB, evS, evE, evT, evA, evI, evO, evG, mSeq, mIfS, mNext, mRet, mSet, mDrop, mIf, mAnd, mOr, mNot, lookA, lfA, lookM, frzM, mBinL, mBinV, mBin, mPeek, mCall1, mVar, mC, mMove, bM, hasS, peekO, ofO, Res.bind, Res.out, Res.map, RD.frz, look, BOp.fn, COp.fn, BF.fn, mem0, lenD, seqD, ltO, setS, rdSlot, mNil, mCons, mTup, mLst, mYes, mCall, truM, truD, intD, modD, mulD, addD, fdivD, powD, subD, mSetIx, thing, putThing, evF, unl_lst, unl_tup, unl_int, unl_bl, unl_str, unl_non, unl_scr, unl_exn, unl_ref, unl_dct, nl_lst, nl_tup, nl_dct, mLcI, mLoop, byName, isCellD, cellD, mExn, mAttr, mIsi, sizeLine_eq, a2, mGuard, mLend, hP, h1, h2, h3, h4]
theorem a3_eq (Φ : Str → FnM) (m : Nat) (ns : List Int) (x j : Int) (s : Str) (p1 p2 : D)
    (h3 : Φ "_law_take" [.ref 0, .int 6] [p1] = .ok (.val (.int j)) (mem0 [p2])) (h4 : ixAll (.lst [.str "", .str "b", .str "abcdefgh", .str "X", .str "a b", .str (Txt.mul "9" 40)]) (.int j) = some (.val (.str s))) :
    evS Φ m a3 ⟨[.val (.scr ns), .val (.ref 0), .val (.int x), .none, .none, .none, .none, .none], [p1]⟩ = .nx ⟨[.val (.scr ns), .val (.ref 0), .val (.int x), .val (.str s), .none, .none, .none, .none], [p2]⟩ := by
  simp [evB, evS, evE, evT, evA, evI, evO, evG, mSeq, mIfS, mNext, mRet, mSet, mDrop, mIf, mAnd, mOr, mNot, lookA, lfA, lookM, frzM, mBinL, mBinV, mBin, mPeek, mCall1, mVar, mC, mMove, bM, hasS, peekO, ofO, Res.bind, Res.out, Res.map, RD.frz, look, BOp.fn, COp.fn, BF.fn, mem0, lenD, seqD, ltO, setS, rdSlot, mNil, mCons, mTup, mLst, mYes, mCall, truM, truD, intD, modD, mulD, addD, fdivD, powD, subD, mSetIx, thing, putThing, evF, unl_lst, unl_tup, unl_int, unl_bl, unl_str, unl_non, unl_scr, unl_exn, unl_ref, unl_dct, nl_lst, nl_tup, nl_dct, mLcI, mLoop, byName, isCellD, cellD, mExn, mAttr, mIsi, sizeLine_eq, a3, mGuard, mLend, n9, h3, h4]
def Five (v0 : HM.Slot) (x : Int) (s : Str) (st : List D) (S : Mem) : Prop := ∃ t4 t5 t6, S = ⟨[v0, .val (.ref 0), .val (.int x), .val (.str s), t4, t5, t6, .none], st⟩
theorem a4_eq (n m : Nat) (x : Int) (s : Str) (v0 : HM.Slot) (st : List D) (hs : Few s) (hx : x.natAbs.log2 < 1900) : ∃ S', evS (F (n + 2)) m a4 ⟨[v0, .val (.ref 0), .val (.int x), .val (.str s), .none, .none, .none, .none], st⟩ = .nx S' := by
  have hI : mRange1 (frzM (evE (F (n + 2)) (.lit (.int 12)))) ⟨[v0, .val (.ref 0), .val (.int x), .val (.str s), .none, .none, .none, .none], st⟩ = .ok (upDs 0 12) ⟨[v0, .val (.ref 0), .val (.int x), .val (.str s), .none, .none, .none, .none], st⟩ := mRange1_nat (k := 12) (by simp [evB, evS, evE, evT, evA, evI, evO, evG, mSeq, mIfS, mNext, mRet, mSet, mDrop, mIf, mAnd, mOr, mNot, lookA, lfA, lookM, frzM, mBinL, mBinV, mBin, mPeek, mCall1, mVar, mC, mMove, bM, hasS, peekO, ofO, Res.bind, Res.out, Res.map, RD.frz, look, BOp.fn, COp.fn, BF.fn, mem0, lenD, seqD, ltO, setS, rdSlot, mNil, mCons, mTup, mLst, mYes, mCall, truM, truD, intD, modD, mulD, addD, fdivD, powD, subD, mSetIx, thing, putThing, evF, unl_lst, unl_tup, unl_int, unl_bl, unl_str, unl_non, unl_scr, unl_exn, unl_ref, unl_dct, nl_lst, nl_tup, nl_dct, mLcI, mLoop, byName, isCellD, cellD, mExn, mAttr, mIsi, sizeLine_eq]) (by omega)
  have hU := upDs_eq 12 0
  unfold a4
  rw [evS]
  unfold mLoop
  simp only [byName]
  rw [evI, evG]
  unfold mFor
  rw [hI]
  show ∃ S', forL (mtName 4) (evB (F (n + 2)) m bB) (upDs 0 12) ⟨[v0, .val (.ref 0), .val (.int x), .val (.str s), .none, .none, .none, .none], st⟩ = .nx S'
  have hm : ∀ d ∈ upDs 0 12, ∃ k : Nat, k < 12 ∧ d = .int k := fun d hd => by
    rw [hU] at hd
    obtain ⟨i, hi, rfl⟩ := List.mem_map.mp hd
    exact ⟨i, List.mem_range.mp hi, by rw [show ((0 : Nat) : Int) + (i : Int) = i by omega]⟩
  generalize upDs 0 12 = ds at hm ⊢
  refine forL_rule (P := fun rest S => (∀ d ∈ rest, ∃ k : Nat, k < 12 ∧ d = .int k) ∧ Five v0 x s st S) (Q := fun o => ∃ S', o = .nx S') (fun d rest S h => ?_) (fun S _ => ⟨S, rfl⟩) ⟨hm, _, _, _, rfl⟩
  obtain ⟨g1, t4, t5, t6, rfl⟩ := h
  obtain ⟨k, hk, rfl⟩ := g1 d List.mem_cons_self
  refine ⟨⟨[v0, .val (.ref 0), .val (.int x), .val (.str s), .val (.int k), t5, t6, .none], st⟩, by simp [evB, evS, evE, evT, evA, evI, evO, evG, mSeq, mIfS, mNext, mRet, mSet, mDrop, mIf, mAnd, mOr, mNot, lookA, lfA, lookM, frzM, mBinL, mBinV, mBin, mPeek, mCall1, mVar, mC, mMove, bM, hasS, peekO, ofO, Res.bind, Res.out, Res.map, RD.frz, look, BOp.fn, COp.fn, BF.fn, mem0, lenD, seqD, ltO, setS, rdSlot, mNil, mCons, mTup, mLst, mYes, mCall, truM, truD, intD, modD, mulD, addD, fdivD, powD, subD, mSetIx, thing, putThing, evF, unl_lst, unl_tup, unl_int, unl_bl, unl_str, unl_non, unl_scr, unl_exn, unl_ref, unl_dct, nl_lst, nl_tup, nl_dct, mLcI, mLoop, byName, isCellD, cellD, mExn, mAttr, mIsi, sizeLine_eq, mtName], ?_⟩
  rw [turn_eq n m k x s v0 _ t5 t6 st hs hx hk]
  exact ⟨fun e he => g1 e (List.mem_cons_of_mem _ he), _, _, _, rfl⟩
theorem lg {i : Int} (h : i.natAbs < 2 ^ 140) : i.natAbs.log2 < 1900 := by
  by_cases e : i.natAbs = 0
  · rw [e]
    decide
  · exact Nat.lt_trans ((Nat.log2_lt e).mpr h) (by decide)
theorem big : (10000000000000000000000000000000000000000 : Nat) < 2 ^ 140 := by decide +kernel
theorem pick3 (k c j : Int) (h0 : 0 ≤ k) (h1 : k < 40) (j0 : 0 ≤ j) (j1 : j < 3) : ∃ x : Int, ixAll (.lst [.int (k - 9), .int (c % 10000000000000000000000000000000000000000), .int (-1)]) (.int j) = some (.val (.int x)) ∧ x.natAbs.log2 < 1900 := by
  have hb := big
  rcases (by omega : j = 0 ∨ j = 1 ∨ j = 2) with rfl | rfl | rfl
  · exact ⟨k - 9, rfl, lg (Nat.lt_of_le_of_lt (by omega : _ ≤ 40) (Nat.lt_trans (by decide) hb))⟩
  · have z1 := Int.emod_nonneg c (by decide : (10000000000000000000000000000000000000000 : Int) ≠ 0)
    have z2 := Int.emod_lt_of_pos c (by decide : (0 : Int) < 10000000000000000000000000000000000000000)
    exact ⟨_, rfl, lg (Nat.lt_trans (by omega) hb)⟩
  · exact ⟨-1, rfl, by decide⟩
theorem few_n : Few (Txt.mul "9" 40) := ⟨by decide +kernel, by decide +kernel⟩
theorem pick6 (j : Int) (j0 : 0 ≤ j) (j1 : j < 6) : ∃ s : Str, ixAll (.lst [.str "", .str "b", .str "abcdefgh", .str "X", .str "a b", .str (Txt.mul "9" 40)]) (.int j) = some (.val (.str s)) ∧ Few s := by
  rcases (by omega : j = 0 ∨ j = 1 ∨ j = 2 ∨ j = 3 ∨ j = 4 ∨ j = 5) with rfl | rfl | rfl | rfl | rfl | rfl
  · exact ⟨_, rfl, by decide +kernel, by decide +kernel⟩
  · exact ⟨_, rfl, by decide +kernel, by decide +kernel⟩
  · exact ⟨_, rfl, by decide +kernel, by decide +kernel⟩
  · exact ⟨_, rfl, by decide +kernel, by decide +kernel⟩
  · exact ⟨_, rfl, by decide +kernel, by decide +kernel⟩
  · exact ⟨_, rfl, few_n⟩
theorem law_eq (n : Nat) (ns : List Int) : ∃ mm, F (n + 4) "law" [.scr ns] [] = .ok (.val (.bl true)) mm := by
  rw [F_law, law_parts, evF_of]
  have k1 : F (n + 3) ("_law_cell" : Str) [.scr ns, .int 0] [] = .ok (.val (.int (ns.getD 0 0))) (mem0 []) := cell_eq (n + 2) ns 0 []
  generalize ns.getD 0 0 = c at k1
  have k2 : F (n + 3) ("_law_pool" : Str) [.int c] [] = _ := pool_eq (n + 2) c []
  generalize decide (10 ^ 18 ≤ c) = bb at k2
  obtain ⟨k, c', t', e1, e2, e3⟩ := take_eq (n + 2) 0 c 0 40 bb [poolD c 0 bb] rfl (by omega) (by omega)
  have e1' : F (n + 3) ("_law_take" : Str) [.ref 0, .int 40] [poolD c 0 bb] = .ok (.val (.int k)) (mem0 [poolD c' t' bb]) := e1
  have k3 : F (n + 3) ("_law_cell" : Str) [.scr ns, .int 1] [poolD c' t' bb] = .ok (.val (.int (ns.getD 1 0))) (mem0 [poolD c' t' bb]) := cell_eq (n + 2) ns 1 _
  generalize ns.getD 1 0 = c1 at k3
  obtain ⟨j, c2, t2, f1, f2, f3⟩ := take_eq (n + 2) 0 c' t' 3 bb [poolD c' t' bb] rfl (by omega) (by omega)
  have f1' : F (n + 3) ("_law_take" : Str) [.ref 0, .int 3] [poolD c' t' bb] = .ok (.val (.int j)) (mem0 [poolD c2 t2 bb]) := f1
  obtain ⟨x, hx, hlx⟩ := pick3 k c1 j e2 e3 f2 f3
  obtain ⟨i, c3, t3, g1, g2, g3⟩ := take_eq (n + 2) 0 c2 t2 6 bb [poolD c2 t2 bb] rfl (by omega) (by omega)
  have g1' : F (n + 3) ("_law_take" : Str) [.ref 0, .int 6] [poolD c2 t2 bb] = .ok (.val (.int i)) (mem0 [poolD c3 t3 bb]) := g1
  obtain ⟨s, hs, hfs⟩ := pick6 i g2 g3
  obtain ⟨S', h4⟩ := a4_eq (n + 1) (n + 3) x s (.val (.scr ns)) [poolD c3 t3 bb] hfs hlx
  show ∃ mm, fin (evB (F (n + 3)) (n + 3) (.cons a1 (.cons a2 (.cons a3 (.cons a4 (.cons a5 .nil))))) ⟨[.val (.scr ns), .none, .none, .none, .none, .none, .none, .none], []⟩) = _
  rw [evB_nx (a1_eq _ _ ns c _ k1 k2), evB_nx (a2_eq _ _ ns c1 k j x _ _ _ rfl e1' k3 f1' hx), evB_nx (a3_eq _ _ ns x i s _ _ g1' hs), evB_nx h4]
  exact ⟨mem0 S'.st, rfl⟩
end KP

set_option Elab.async false
set_option linter.all false
set_option maxRecDepth 100000
set_option maxHeartbeats 0
namespace K
open PySem PySem.Spec L2 HM
def clsB : Stmt → List Stmt
  | .ClassDef _ _ _ b _ _ _ _ _ _ _ => b
  | _ => []
def top (i : Nat) : Stmt := PySem.Challenge.pw_honestlists_k01_errors_by_class.main.body.getD i (.Pass ⟨0, 0, 0, 0⟩)
def ini (i j : Nat) : Stmt := (clsB (top i)).getD j (.Pass ⟨0, 0, 0, 0⟩)
theorem comp_of {G : Ge} {N : List Str} {sc : Scope} {b : List Stmt} {z : CF} (h : (compF G N sc b).isSome = true) : compF G N sc b = some ((compF G N sc b).getD z) := by
  cases e : compF G N sc b with
  | none => rw [e] at h; cases h
  | some f => rfl
def G : Ge := ⟨[("_law_pool", [false]), ("_law_take", [true, false]), ("_law_cell", [false, false]), ("_law_kinds", [false]), ("_law_named", [false, false]), ("_law_made", [false, false, false]), ("law", [false])], [], ["len", "int", "list", "tuple", "sorted", "all", "any", "sum", "range", "enumerate", "zip", "max", "min", "str", "dict", "set", "abs", "isinstance", "bool", "ValueError", "super", "Exception"], [("BadNumber", ["n"]), ("BadText", ["at"]), ("BadName", ["name"]), ("DuplicateName", ["name"]), ("UnknownName", ["name"]), ("BadMenu", ["names"]), ("NotWilling", ["house"]), ("NotGrowing", ["house"]), ("NoStep", ["name"]), ("UnlikeApplicants", ["first", "second"]), ("NothingToShow", []), ("NothingToUndo", [])], [], [("BadNumber", [("BadNumber", true), ("BadText", false), ("BadName", false), ("DuplicateName", false), ("UnknownName", false), ("BadMenu", false), ("NotWilling", false), ("NotGrowing", false), ("NoStep", false), ("UnlikeApplicants", false), ("NothingToShow", false), ("NothingToUndo", false)]), ("BadText", [("BadNumber", false), ("BadText", true), ("BadName", false), ("DuplicateName", false), ("UnknownName", false), ("BadMenu", false), ("NotWilling", false), ("NotGrowing", false), ("NoStep", false), ("UnlikeApplicants", false), ("NothingToShow", false), ("NothingToUndo", false)]), ("BadName", [("BadNumber", false), ("BadText", false), ("BadName", true), ("DuplicateName", false), ("UnknownName", false), ("BadMenu", false), ("NotWilling", false), ("NotGrowing", false), ("NoStep", false), ("UnlikeApplicants", false), ("NothingToShow", false), ("NothingToUndo", false)]), ("DuplicateName", [("BadNumber", false), ("BadText", false), ("BadName", false), ("DuplicateName", true), ("UnknownName", false), ("BadMenu", false), ("NotWilling", false), ("NotGrowing", false), ("NoStep", false), ("UnlikeApplicants", false), ("NothingToShow", false), ("NothingToUndo", false)]), ("UnknownName", [("BadNumber", false), ("BadText", false), ("BadName", false), ("DuplicateName", false), ("UnknownName", true), ("BadMenu", false), ("NotWilling", false), ("NotGrowing", false), ("NoStep", false), ("UnlikeApplicants", false), ("NothingToShow", false), ("NothingToUndo", false)]), ("BadMenu", [("BadNumber", false), ("BadText", false), ("BadName", false), ("DuplicateName", false), ("UnknownName", false), ("BadMenu", true), ("NotWilling", false), ("NotGrowing", false), ("NoStep", false), ("UnlikeApplicants", false), ("NothingToShow", false), ("NothingToUndo", false)]), ("NotWilling", [("BadNumber", false), ("BadText", false), ("BadName", false), ("DuplicateName", false), ("UnknownName", false), ("BadMenu", false), ("NotWilling", true), ("NotGrowing", false), ("NoStep", false), ("UnlikeApplicants", false), ("NothingToShow", false), ("NothingToUndo", false)]), ("NotGrowing", [("BadNumber", false), ("BadText", false), ("BadName", false), ("DuplicateName", false), ("UnknownName", false), ("BadMenu", false), ("NotWilling", false), ("NotGrowing", true), ("NoStep", false), ("UnlikeApplicants", false), ("NothingToShow", false), ("NothingToUndo", false)]), ("NoStep", [("BadNumber", false), ("BadText", false), ("BadName", false), ("DuplicateName", false), ("UnknownName", false), ("BadMenu", false), ("NotWilling", false), ("NotGrowing", false), ("NoStep", true), ("UnlikeApplicants", false), ("NothingToShow", false), ("NothingToUndo", false)]), ("UnlikeApplicants", [("BadNumber", false), ("BadText", false), ("BadName", false), ("DuplicateName", false), ("UnknownName", false), ("BadMenu", false), ("NotWilling", false), ("NotGrowing", false), ("NoStep", false), ("UnlikeApplicants", true), ("NothingToShow", false), ("NothingToUndo", false)]), ("NothingToShow", [("BadNumber", false), ("BadText", false), ("BadName", false), ("DuplicateName", false), ("UnknownName", false), ("BadMenu", false), ("NotWilling", false), ("NotGrowing", false), ("NoStep", false), ("UnlikeApplicants", false), ("NothingToShow", true), ("NothingToUndo", false)]), ("NothingToUndo", [("BadNumber", false), ("BadText", false), ("BadName", false), ("DuplicateName", false), ("UnknownName", false), ("BadMenu", false), ("NotWilling", false), ("NotGrowing", false), ("NoStep", false), ("UnlikeApplicants", false), ("NothingToShow", false), ("NothingToUndo", true)]), ("ListError", [("BadNumber", true), ("BadText", true), ("BadName", true), ("DuplicateName", true), ("UnknownName", true), ("BadMenu", true), ("NotWilling", true), ("NotGrowing", true), ("NoStep", true), ("UnlikeApplicants", true), ("NothingToShow", true), ("NothingToUndo", true)]), ("ValueError", [("BadNumber", true), ("BadText", true), ("BadName", true), ("DuplicateName", true), ("UnknownName", true), ("BadMenu", true), ("NotWilling", true), ("NotGrowing", true), ("NoStep", true), ("UnlikeApplicants", true), ("NothingToShow", true), ("NothingToUndo", true)])]⟩
abbrev N0 : List Str := (["_law_cell_here"] : List Str)
def d0 : PDef := ⟨"_law_pool", defArgs (top 15), defBody (top 15), defScope (top 15), N0, ["_law_cell_here"], [false], (compF G N0 (defScope (top 15)) (defBody (top 15))).getD ⟨0, .nil⟩⟩
theorem ok0 : d0.Ok G := ⟨comp_of (z := ⟨0, .nil⟩) (by kernel_rfl), ⟨by kernel_rfl, by kernel_rfl, by kernel_rfl, by decide +kernel, by kernel_rfl, by decide +kernel, by decide +kernel⟩, fun _ _ _ _ _ _ us hl => match us, hl with | [_], _ => rfl, rfl⟩
abbrev N1 : List Str := (["_law_pool_here", "_law_limit", "_law_mixed", "_law_drawn"] : List Str)
def d1 : PDef := ⟨"_law_take", defArgs (top 16), defBody (top 16), defScope (top 16), N1, ["_law_pool_here", "_law_limit"], [true, false], (compF G N1 (defScope (top 16)) (defBody (top 16))).getD ⟨0, .nil⟩⟩
theorem ok1 : d1.Ok G := ⟨comp_of (z := ⟨0, .nil⟩) (by kernel_rfl), ⟨by kernel_rfl, by kernel_rfl, by kernel_rfl, by decide +kernel, by kernel_rfl, by decide +kernel, by decide +kernel⟩, fun _ _ _ _ _ _ us hl => match us, hl with | [_, _], _ => rfl, rfl⟩
abbrev N2 : List Str := (["_law_script", "_law_k"] : List Str)
def d2 : PDef := ⟨"_law_cell", defArgs (top 17), defBody (top 17), defScope (top 17), N2, ["_law_script", "_law_k"], [false, false], (compF G N2 (defScope (top 17)) (defBody (top 17))).getD ⟨0, .nil⟩⟩
theorem ok2 : d2.Ok G := ⟨comp_of (z := ⟨0, .nil⟩) (by kernel_rfl), ⟨by kernel_rfl, by kernel_rfl, by kernel_rfl, by decide +kernel, by kernel_rfl, by decide +kernel, by decide +kernel⟩, fun _ _ _ _ _ _ us hl => match us, hl with | [_, _], _ => rfl, rfl⟩
abbrev N3 : List Str := (["_law_e", "_law_flags"] : List Str)
def d3 : PDef := ⟨"_law_kinds", defArgs (top 18), defBody (top 18), defScope (top 18), N3, ["_law_e"], [false], (compF G N3 (defScope (top 18)) (defBody (top 18))).getD ⟨0, .nil⟩⟩
theorem ok3 : d3.Ok G := ⟨comp_of (z := ⟨0, .nil⟩) (by kernel_rfl), ⟨by kernel_rfl, by kernel_rfl, by kernel_rfl, by decide +kernel, by kernel_rfl, by decide +kernel, by decide +kernel⟩, fun _ _ _ _ _ _ us hl => match us, hl with | [_], _ => rfl, rfl⟩
abbrev N4 : List Str := (["_law_which", "_law_name", "_law_e"] : List Str)
def d4 : PDef := ⟨"_law_named", defArgs (top 19), defBody (top 19), defScope (top 19), N4, ["_law_which", "_law_name"], [false, false], (compF G N4 (defScope (top 19)) (defBody (top 19))).getD ⟨0, .nil⟩⟩
theorem ok4 : d4.Ok G := ⟨comp_of (z := ⟨0, .nil⟩) (by kernel_rfl), ⟨by kernel_rfl, by kernel_rfl, by kernel_rfl, by decide +kernel, by kernel_rfl, by decide +kernel, by decide +kernel⟩, fun _ _ _ _ _ _ us hl => match us, hl with | [_, _], _ => rfl, rfl⟩
abbrev N5 : List Str := (["_law_which", "_law_n", "_law_name", "_law_e"] : List Str)
def d5 : PDef := ⟨"_law_made", defArgs (top 20), defBody (top 20), defScope (top 20), N5, ["_law_which", "_law_n", "_law_name"], [false, false, false], (compF G N5 (defScope (top 20)) (defBody (top 20))).getD ⟨0, .nil⟩⟩
theorem ok5 : d5.Ok G := ⟨comp_of (z := ⟨0, .nil⟩) (by kernel_rfl), ⟨by kernel_rfl, by kernel_rfl, by kernel_rfl, by decide +kernel, by kernel_rfl, by decide +kernel, by decide +kernel⟩, fun _ _ _ _ _ _ us hl => match us, hl with | [_, _, _], _ => rfl, rfl⟩
abbrev N6 : List Str := (["_law_script", "_law_pool_here", "_law_n", "_law_name", "_law_which", "_law_e", "_law_same", "_law_k"] : List Str)
def d6 : PDef := ⟨"law", defArgs (top 21), defBody (top 21), defScope (top 21), N6, ["_law_script"], [false], (compF G N6 (defScope (top 21)) (defBody (top 21))).getD ⟨0, .nil⟩⟩
theorem ok6 : d6.Ok G := ⟨comp_of (z := ⟨0, .nil⟩) (by kernel_rfl), ⟨by kernel_rfl, by kernel_rfl, by kernel_rfl, by decide +kernel, by kernel_rfl, by decide +kernel, by decide +kernel⟩, fun _ _ _ _ _ _ us hl => match us, hl with | [_], _ => rfl, rfl⟩
def Ds : List PDef := [d0, d1, d2, d3, d4, d5, d6]
def x0 : XD := ⟨"BadNumber", "self", ["n"], "BadNumber.__init__", defArgs (ini 2 0), defBody (ini 2 0), defScope (ini 2 0)⟩
theorem ix0 : IniS PySem.Challenge.pw_honestlists_k01_errors_by_class x0.sv x0.ps x0.params x0.body x0.scope ∧ ∀ (kV doc pm : Value) (an : Option Addr) (cda : Value) (ct : Value) (cc : Addr) (us : List Value), us.length = (x0.sv :: x0.ps).length → bindArgs (PySem.W.ksFn "__init__" x0.qual x0.params x0.body x0.scope .none kV doc pm an cda ct cc) ⟨us, []⟩ = pure ((x0.sv :: x0.ps).zip us) :=
  ⟨⟨NdefX.nscope_by (by kernel_rfl), ⟨_, rfl, rfl⟩, by kernel_rfl, by kernel_rfl, by kernel_rfl, by kernel_rfl, by decide, by decide +kernel⟩, fun _ _ _ _ _ _ _ us hl => match us, hl with | [_, _], _ => rfl⟩
def x1 : XD := ⟨"BadText", "self", ["at"], "BadText.__init__", defArgs (ini 3 0), defBody (ini 3 0), defScope (ini 3 0)⟩
theorem ix1 : IniS PySem.Challenge.pw_honestlists_k01_errors_by_class x1.sv x1.ps x1.params x1.body x1.scope ∧ ∀ (kV doc pm : Value) (an : Option Addr) (cda : Value) (ct : Value) (cc : Addr) (us : List Value), us.length = (x1.sv :: x1.ps).length → bindArgs (PySem.W.ksFn "__init__" x1.qual x1.params x1.body x1.scope .none kV doc pm an cda ct cc) ⟨us, []⟩ = pure ((x1.sv :: x1.ps).zip us) :=
  ⟨⟨NdefX.nscope_by (by kernel_rfl), ⟨_, rfl, rfl⟩, by kernel_rfl, by kernel_rfl, by kernel_rfl, by kernel_rfl, by decide, by decide +kernel⟩, fun _ _ _ _ _ _ _ us hl => match us, hl with | [_, _], _ => rfl⟩
def x2 : XD := ⟨"BadName", "self", ["name"], "BadName.__init__", defArgs (ini 4 0), defBody (ini 4 0), defScope (ini 4 0)⟩
theorem ix2 : IniS PySem.Challenge.pw_honestlists_k01_errors_by_class x2.sv x2.ps x2.params x2.body x2.scope ∧ ∀ (kV doc pm : Value) (an : Option Addr) (cda : Value) (ct : Value) (cc : Addr) (us : List Value), us.length = (x2.sv :: x2.ps).length → bindArgs (PySem.W.ksFn "__init__" x2.qual x2.params x2.body x2.scope .none kV doc pm an cda ct cc) ⟨us, []⟩ = pure ((x2.sv :: x2.ps).zip us) :=
  ⟨⟨NdefX.nscope_by (by kernel_rfl), ⟨_, rfl, rfl⟩, by kernel_rfl, by kernel_rfl, by kernel_rfl, by kernel_rfl, by decide, by decide +kernel⟩, fun _ _ _ _ _ _ _ us hl => match us, hl with | [_, _], _ => rfl⟩
def x3 : XD := ⟨"DuplicateName", "self", ["name"], "DuplicateName.__init__", defArgs (ini 5 0), defBody (ini 5 0), defScope (ini 5 0)⟩
theorem ix3 : IniS PySem.Challenge.pw_honestlists_k01_errors_by_class x3.sv x3.ps x3.params x3.body x3.scope ∧ ∀ (kV doc pm : Value) (an : Option Addr) (cda : Value) (ct : Value) (cc : Addr) (us : List Value), us.length = (x3.sv :: x3.ps).length → bindArgs (PySem.W.ksFn "__init__" x3.qual x3.params x3.body x3.scope .none kV doc pm an cda ct cc) ⟨us, []⟩ = pure ((x3.sv :: x3.ps).zip us) :=
  ⟨⟨NdefX.nscope_by (by kernel_rfl), ⟨_, rfl, rfl⟩, by kernel_rfl, by kernel_rfl, by kernel_rfl, by kernel_rfl, by decide, by decide +kernel⟩, fun _ _ _ _ _ _ _ us hl => match us, hl with | [_, _], _ => rfl⟩
def x4 : XD := ⟨"UnknownName", "self", ["name"], "UnknownName.__init__", defArgs (ini 6 0), defBody (ini 6 0), defScope (ini 6 0)⟩
theorem ix4 : IniS PySem.Challenge.pw_honestlists_k01_errors_by_class x4.sv x4.ps x4.params x4.body x4.scope ∧ ∀ (kV doc pm : Value) (an : Option Addr) (cda : Value) (ct : Value) (cc : Addr) (us : List Value), us.length = (x4.sv :: x4.ps).length → bindArgs (PySem.W.ksFn "__init__" x4.qual x4.params x4.body x4.scope .none kV doc pm an cda ct cc) ⟨us, []⟩ = pure ((x4.sv :: x4.ps).zip us) :=
  ⟨⟨NdefX.nscope_by (by kernel_rfl), ⟨_, rfl, rfl⟩, by kernel_rfl, by kernel_rfl, by kernel_rfl, by kernel_rfl, by decide, by decide +kernel⟩, fun _ _ _ _ _ _ _ us hl => match us, hl with | [_, _], _ => rfl⟩
def x5 : XD := ⟨"BadMenu", "self", ["names"], "BadMenu.__init__", defArgs (ini 7 0), defBody (ini 7 0), defScope (ini 7 0)⟩
theorem ix5 : IniS PySem.Challenge.pw_honestlists_k01_errors_by_class x5.sv x5.ps x5.params x5.body x5.scope ∧ ∀ (kV doc pm : Value) (an : Option Addr) (cda : Value) (ct : Value) (cc : Addr) (us : List Value), us.length = (x5.sv :: x5.ps).length → bindArgs (PySem.W.ksFn "__init__" x5.qual x5.params x5.body x5.scope .none kV doc pm an cda ct cc) ⟨us, []⟩ = pure ((x5.sv :: x5.ps).zip us) :=
  ⟨⟨NdefX.nscope_by (by kernel_rfl), ⟨_, rfl, rfl⟩, by kernel_rfl, by kernel_rfl, by kernel_rfl, by kernel_rfl, by decide, by decide +kernel⟩, fun _ _ _ _ _ _ _ us hl => match us, hl with | [_, _], _ => rfl⟩
def x6 : XD := ⟨"NotWilling", "self", ["house"], "NotWilling.__init__", defArgs (ini 8 0), defBody (ini 8 0), defScope (ini 8 0)⟩
theorem ix6 : IniS PySem.Challenge.pw_honestlists_k01_errors_by_class x6.sv x6.ps x6.params x6.body x6.scope ∧ ∀ (kV doc pm : Value) (an : Option Addr) (cda : Value) (ct : Value) (cc : Addr) (us : List Value), us.length = (x6.sv :: x6.ps).length → bindArgs (PySem.W.ksFn "__init__" x6.qual x6.params x6.body x6.scope .none kV doc pm an cda ct cc) ⟨us, []⟩ = pure ((x6.sv :: x6.ps).zip us) :=
  ⟨⟨NdefX.nscope_by (by kernel_rfl), ⟨_, rfl, rfl⟩, by kernel_rfl, by kernel_rfl, by kernel_rfl, by kernel_rfl, by decide, by decide +kernel⟩, fun _ _ _ _ _ _ _ us hl => match us, hl with | [_, _], _ => rfl⟩
def x7 : XD := ⟨"NotGrowing", "self", ["house"], "NotGrowing.__init__", defArgs (ini 9 0), defBody (ini 9 0), defScope (ini 9 0)⟩
theorem ix7 : IniS PySem.Challenge.pw_honestlists_k01_errors_by_class x7.sv x7.ps x7.params x7.body x7.scope ∧ ∀ (kV doc pm : Value) (an : Option Addr) (cda : Value) (ct : Value) (cc : Addr) (us : List Value), us.length = (x7.sv :: x7.ps).length → bindArgs (PySem.W.ksFn "__init__" x7.qual x7.params x7.body x7.scope .none kV doc pm an cda ct cc) ⟨us, []⟩ = pure ((x7.sv :: x7.ps).zip us) :=
  ⟨⟨NdefX.nscope_by (by kernel_rfl), ⟨_, rfl, rfl⟩, by kernel_rfl, by kernel_rfl, by kernel_rfl, by kernel_rfl, by decide, by decide +kernel⟩, fun _ _ _ _ _ _ _ us hl => match us, hl with | [_, _], _ => rfl⟩
def x8 : XD := ⟨"NoStep", "self", ["name"], "NoStep.__init__", defArgs (ini 10 0), defBody (ini 10 0), defScope (ini 10 0)⟩
theorem ix8 : IniS PySem.Challenge.pw_honestlists_k01_errors_by_class x8.sv x8.ps x8.params x8.body x8.scope ∧ ∀ (kV doc pm : Value) (an : Option Addr) (cda : Value) (ct : Value) (cc : Addr) (us : List Value), us.length = (x8.sv :: x8.ps).length → bindArgs (PySem.W.ksFn "__init__" x8.qual x8.params x8.body x8.scope .none kV doc pm an cda ct cc) ⟨us, []⟩ = pure ((x8.sv :: x8.ps).zip us) :=
  ⟨⟨NdefX.nscope_by (by kernel_rfl), ⟨_, rfl, rfl⟩, by kernel_rfl, by kernel_rfl, by kernel_rfl, by kernel_rfl, by decide, by decide +kernel⟩, fun _ _ _ _ _ _ _ us hl => match us, hl with | [_, _], _ => rfl⟩
def x9 : XD := ⟨"UnlikeApplicants", "self", ["first", "second"], "UnlikeApplicants.__init__", defArgs (ini 11 0), defBody (ini 11 0), defScope (ini 11 0)⟩
theorem ix9 : IniS PySem.Challenge.pw_honestlists_k01_errors_by_class x9.sv x9.ps x9.params x9.body x9.scope ∧ ∀ (kV doc pm : Value) (an : Option Addr) (cda : Value) (ct : Value) (cc : Addr) (us : List Value), us.length = (x9.sv :: x9.ps).length → bindArgs (PySem.W.ksFn "__init__" x9.qual x9.params x9.body x9.scope .none kV doc pm an cda ct cc) ⟨us, []⟩ = pure ((x9.sv :: x9.ps).zip us) :=
  ⟨⟨NdefX.nscope_by (by kernel_rfl), ⟨_, rfl, rfl⟩, by kernel_rfl, by kernel_rfl, by kernel_rfl, by kernel_rfl, by decide, by decide +kernel⟩, fun _ _ _ _ _ _ _ us hl => match us, hl with | [_, _, _], _ => rfl⟩
def x10 : XD := ⟨"NothingToShow", "self", [], "NothingToShow.__init__", defArgs (ini 12 0), defBody (ini 12 0), defScope (ini 12 0)⟩
theorem ix10 : IniS PySem.Challenge.pw_honestlists_k01_errors_by_class x10.sv x10.ps x10.params x10.body x10.scope ∧ ∀ (kV doc pm : Value) (an : Option Addr) (cda : Value) (ct : Value) (cc : Addr) (us : List Value), us.length = (x10.sv :: x10.ps).length → bindArgs (PySem.W.ksFn "__init__" x10.qual x10.params x10.body x10.scope .none kV doc pm an cda ct cc) ⟨us, []⟩ = pure ((x10.sv :: x10.ps).zip us) :=
  ⟨⟨NdefX.nscope_by (by kernel_rfl), ⟨_, rfl, rfl⟩, by kernel_rfl, by kernel_rfl, by kernel_rfl, by kernel_rfl, by decide, by decide +kernel⟩, fun _ _ _ _ _ _ _ us hl => match us, hl with | [_], _ => rfl⟩
def x11 : XD := ⟨"NothingToUndo", "self", [], "NothingToUndo.__init__", defArgs (ini 13 0), defBody (ini 13 0), defScope (ini 13 0)⟩
theorem ix11 : IniS PySem.Challenge.pw_honestlists_k01_errors_by_class x11.sv x11.ps x11.params x11.body x11.scope ∧ ∀ (kV doc pm : Value) (an : Option Addr) (cda : Value) (ct : Value) (cc : Addr) (us : List Value), us.length = (x11.sv :: x11.ps).length → bindArgs (PySem.W.ksFn "__init__" x11.qual x11.params x11.body x11.scope .none kV doc pm an cda ct cc) ⟨us, []⟩ = pure ((x11.sv :: x11.ps).zip us) :=
  ⟨⟨NdefX.nscope_by (by kernel_rfl), ⟨_, rfl, rfl⟩, by kernel_rfl, by kernel_rfl, by kernel_rfl, by kernel_rfl, by decide, by decide +kernel⟩, fun _ _ _ _ _ _ _ us hl => match us, hl with | [_], _ => rfl⟩
def xs : List XD := [x0, x1, x2, x3, x4, x5, x6, x7, x8, x9, x10, x11]
theorem okAll : ∀ d ∈ Ds, d.Ok G := List.forall_mem_cons.mpr ⟨ok0, List.forall_mem_cons.mpr ⟨ok1, List.forall_mem_cons.mpr ⟨ok2, List.forall_mem_cons.mpr ⟨ok3, List.forall_mem_cons.mpr ⟨ok4, List.forall_mem_cons.mpr ⟨ok5, List.forall_mem_cons.mpr ⟨ok6, List.forall_mem_nil _⟩⟩⟩⟩⟩⟩⟩
theorem ixAll : ∀ x ∈ xs, IniS PySem.Challenge.pw_honestlists_k01_errors_by_class x.sv x.ps x.params x.body x.scope ∧ ∀ (kV doc pm : Value) (an : Option Addr) (cda : Value) (ct : Value) (cc : Addr) (us : List Value), us.length = (x.sv :: x.ps).length → bindArgs (PySem.W.ksFn "__init__" x.qual x.params x.body x.scope .none kV doc pm an cda ct cc) ⟨us, []⟩ = pure ((x.sv :: x.ps).zip us) :=
  List.forall_mem_cons.mpr ⟨ix0, List.forall_mem_cons.mpr ⟨ix1, List.forall_mem_cons.mpr ⟨ix2, List.forall_mem_cons.mpr ⟨ix3, List.forall_mem_cons.mpr ⟨ix4, List.forall_mem_cons.mpr ⟨ix5, List.forall_mem_cons.mpr ⟨ix6, List.forall_mem_cons.mpr ⟨ix7, List.forall_mem_cons.mpr ⟨ix8, List.forall_mem_cons.mpr ⟨ix9, List.forall_mem_cons.mpr ⟨ix10, List.forall_mem_cons.mpr ⟨ix11, List.forall_mem_nil _⟩⟩⟩⟩⟩⟩⟩⟩⟩⟩⟩⟩
theorem rkAll : ∀ r, G.ranks.contains r = true → ∃ d ∈ Ds, d.x = r ∧ RankS d := fun r h => by cases h
theorem stat : Stat PySem.Challenge.pw_honestlists_k01_errors_by_class G Ds xs := ⟨okAll, rfl, by decide +kernel, rfl, by decide +kernel, ixAll, rkAll, by decide +kernel, rfl⟩
abbrev R : PySem.W.OpenRow := PySem.W.OpenLaw.row PySem.Challenge.rw_honestlists_k01_errors_by_class
abbrev hk : PySem.W.Hook := hookM 4 PySem.Challenge.pw_honestlists_k01_errors_by_class.main.file (faOf G) (Ds.map PDef.dd) xs (isiB G)
def ob (s : PySem.W.SharedT) : AlM := obsMG 4 PySem.Challenge.pw_honestlists_k01_errors_by_class.main.file (faOf G) (Ds.map PDef.dd) xs (isiB G) (HandSHeadRun.getT s)
theorem ob_eq (s : PySem.W.SharedT) : ob s = hk.obs s.abs := obsMG_eq (HandSHeadRun.getT_eq s)
def loose : List Str := (["ListError", "BadNumber", "BadText", "BadName", "DuplicateName", "UnknownName", "BadMenu", "NotWilling", "NotGrowing", "NoStep", "UnlikeApplicants", "NothingToShow", "NothingToUndo", "_law_pool", "_law_take", "_law_cell", "_law_kinds", "_law_named", "_law_made"] : List Str)
theorem run (w : World) : HandSHeadRun.RunEq R (PySem.W.view R.prog [21]) hk ob 6000 loose w := by
  intro os
  kernel_rfl
theorem tbl_eq : tblOf Ds = KP.tblC := by kernel_rfl
theorem plain : ∀ ns : List Int, ns.length ≤ 63 → ∃ mm, fnsOf (tblOf Ds) 40 d6.x [.scr ns] [] = .ok (.val (.bl true)) mm := fun ns _ => by
  rw [tbl_eq]
  exact KP.law_eq 36 ns
end K
open PySem PySem.W PySem.Calls PyProof.Rows
theorem PySem.Challenge.cw_honestlists_k01_errors_by_class_holds : PySem.Challenge.rw_honestlists_k01_errors_by_class.Holds := by
  w_on; o_law
  refine HandSHeadRun.head_any (r := OpenLaw.row PySem.Challenge.rw_honestlists_k01_errors_by_class) (q := view (OpenLaw.row PySem.Challenge.rw_honestlists_k01_errors_by_class).prog [21]) (H := K.hk) (ob := K.ob) (M := 6000) (loose := K.loose) (d := HandSHeadRun.topDef (OpenLaw.row PySem.Challenge.rw_honestlists_k01_errors_by_class).prog 21) (kwd := []) K.ob_eq
    (by kernel_rfl) (fun s => by kernel_rfl) K.run (by kernel_rfl) (by kernel_rfl) (by kernel_rfl) (by rfl) (by first | assumption | decide +kernel) (by decide +kernel) ⟨rfl, rfl, rfl, rfl, rfl, by decide +kernel⟩ ?hw ?hc
  case hw => w_witness2
  case hc => exact HM.law_end (l := PySem.Challenge.rw_honestlists_k01_errors_by_class) (m := 63) (n := 40) (x := "_law_script") rfl (by decide) (by kernel_rfl) ⟨rfl, by decide, by decide⟩ (by kernel_rfl) K.stat (List.mem_of_getElem? (i := 6) rfl) rfl K.plain
