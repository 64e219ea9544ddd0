import PyProof.Rows.All
import Wide.All
import OpenK.AllK
import Wide.FinOn
import HandS.ForMost
import HandS.Exc
import HandS.TryMany
import HandS.TryOnly
import HandS.CallSlots
import HandS.TupAny
import HandS.TupLe
import HandS.Style
import HandS.Wide
import KE.LtData
import KE.SortData
import KE.DataCmp
import HandS.Codes
import HandS.Deep
import HandS.ExcOwn
import HandS.IsInst
import HandS.RaiseMore
import HandS.Gcd
import HandS.WordsExc
import HandS.Zip
import HandS.Rev
import PyProof.RulesMatch
import KE.KStateDown
import HandS.Defaults
import HandS.More
import HandS.Words
import HandS.Head0
import HandS.Head1
import HandS.Head2
import HandS.HeadEnd
import HandS.HeadHook1
import HandS.HeadHook2
import HandS.HeadWalk
import PyProof.P3Eq
import PySem.Challenge.RW_jobsrounded_k63_starts_behind_outages
set_option Elab.async false
set_option linter.all false
set_option maxRecDepth 100000
/-! The pure layer, part 1: deep data, slots, the state's relation. -/
namespace Pu
open PySem PySem.Spec PyProof.Rows L2

/-! ### deep data in an abstract heap -/
mutual
inductive Dq (B : Hp) : V → PyData → Prop
  | non : Dq B .non .none
  | bl (b : Bool) : Dq B (.bl b) (.bool b)
  | int (i : Int) : Dq B (.int i) (.int i)
  | str (x : Str) : PyData.strOk x = true → Dq B (.str x) (.str x)
  | lst {a : Addr} {xs : List V} {ds : List PyData} : B a = some (.lst xs) → Dqs B xs ds → Dq B (.ref a) (.list ds)
  | tup {a : Addr} {xs : List V} {ds : List PyData} : B a = some (.tup xs) → Dqs B xs ds → Dq B (.ref a) (.tuple ds)
inductive Dqs (B : Hp) : List V → List PyData → Prop
  | nil : Dqs B [] []
  | cons {v : V} {vs : List V} {d : PyData} {ds : List PyData} : Dq B v d → Dqs B vs ds → Dqs B (v :: vs) (d :: ds)
end
/-- B' knows at least what B knows -/
structure Grow (B B' : Hp) : Prop where
  lst : ∀ a xs, B a = some (.lst xs) → B' a = some (.lst xs)
  tup : ∀ a xs, B a = some (.tup xs) → B' a = some (.tup xs)
  ins : ∀ a C dx fs, B a = some (.ins C dx fs) → B' a = some (.ins C dx fs)
  rd0 : ∀ a u, (∀ o w, u ≠ .frz o w) → Rd B a u → Rd B' a u
/-- not a locked thing -/
class NF (u : HO) : Prop where
  no : ∀ o w, u ≠ .frz o w
instance {ws : List (Key × V)} : NF (.dK ws) := ⟨fun _ _ h => nomatch h⟩
instance {ws : List (List Key × V)} : NF (.dT ws) := ⟨fun _ _ h => nomatch h⟩
instance {ws : List V} : NF (.lst ws) := ⟨fun _ _ h => nomatch h⟩
instance {ws : List V} : NF (.tup ws) := ⟨fun _ _ h => nomatch h⟩
theorem Grow.rd {B B' : Hp} (g : Grow B B') (a : Addr) (u : HO) [n : NF u] (h : Rd B a u) : Rd B' a u := g.rd0 a u n.no h
theorem Grow.refl (B : Hp) : Grow B B := ⟨fun _ _ h => h, fun _ _ h => h, fun _ _ _ _ h => h, fun _ _ _ h => h⟩
theorem Grow.trans {B B1 B2 : Hp} (g : Grow B B1) (g' : Grow B1 B2) : Grow B B2 :=
  ⟨fun a xs h => g'.lst a xs (g.lst a xs h), fun a xs h => g'.tup a xs (g.tup a xs h), fun a C dx fs h => g'.ins a C dx fs (g.ins a C dx fs h), fun a u n h => g'.rd0 a u n (g.rd0 a u n h)⟩
theorem Grow.sub {B B' : Hp} (h : ∀ a o, B a = some o → B' a = some o) : Grow B B' :=
  ⟨fun a xs e => h a _ e, fun a xs e => h a _ e, fun a C dx fs e => h a _ e, fun a u _ e => by
    rcases e with e | ⟨o, e⟩
    · exact .inl (h a _ e)
    · exact .inr ⟨o, h a _ e⟩⟩
mutual
theorem Dq.mono {B B' : Hp} (g : Grow B B') : ∀ (d : PyData) (v : V), Dq B v d → Dq B' v d
  | .none, _, h => by cases h; exact .non
  | .bool _, _, h => by cases h; exact .bl _
  | .int _, _, h => by cases h; exact .int _
  | .str _, _, h => by cases h with | str _ k => exact .str _ k
  | .list ds, _, h => by cases h with | lst e r => exact .lst (g.lst _ _ e) (Dqs.mono g ds _ r)
  | .tuple ds, _, h => by cases h with | tup e r => exact .tup (g.tup _ _ e) (Dqs.mono g ds _ r)
  | .dict _, _, h => by cases h
theorem Dqs.mono {B B' : Hp} (g : Grow B B') : ∀ (ds : List PyData) (vs : List V), Dqs B vs ds → Dqs B' vs ds
  | [], _, h => by cases h; exact .nil
  | d :: ds, _, h => by cases h with | cons r t => exact .cons (Dq.mono g d _ r) (Dqs.mono g ds _ t)
end
mutual
theorem Dq.dp {K : PySem.W.Frag} {B : Hp} : ∀ (d : PyData) (v : V), Dq B v d → Dp K B v d
  | .none, _, h => by cases h; exact .non
  | .bool _, _, h => by cases h; exact .bl _
  | .int _, _, h => by cases h; exact .int _
  | .str _, _, h => by cases h with | str _ k => exact .str _
  | .list ds, _, h => by cases h with | lst e r => exact .lst (SqL.of e) (Dqs.dp ds _ r)
  | .tuple ds, _, h => by cases h with | tup e r => exact .tup (SqT.of e) (Dqs.dp ds _ r)
  | .dict _, _, h => by cases h
theorem Dqs.dp {K : PySem.W.Frag} {B : Hp} : ∀ (ds : List PyData) (vs : List V), Dqs B vs ds → DpAll K B vs ds
  | [], _, h => by cases h; exact .nil
  | d :: ds, _, h => by cases h with | cons r t => exact .cons (Dq.dp d _ r) (Dqs.dp ds _ t)
end
mutual
theorem Dq.lay {B : Hp} : ∀ (d : PyData) (v : V), Dq B v d → d.canLay0 = true
  | .none, _, h => by simp [PyData.canLay0]
  | .bool _, _, h => by simp [PyData.canLay0]
  | .int _, _, h => by simp [PyData.canLay0]
  | .str _, _, h => by cases h with | str _ k => simpa [PyData.canLay0] using k
  | .list ds, _, h => by cases h with | lst e r => simpa [PyData.canLay0] using Dqs.lay ds _ r
  | .tuple ds, _, h => by cases h with | tup e r => simpa [PyData.canLay0] using Dqs.lay ds _ r
  | .dict _, _, h => by cases h
theorem Dqs.lay {B : Hp} : ∀ (ds : List PyData) (vs : List V), Dqs B vs ds → PyData.canLayAll0 ds = true
  | [], _, h => by simp [PyData.canLayAll0]
  | d :: ds, _, h => by cases h with | cons r t => simp [PyData.canLayAll0, Dq.lay d _ r, Dqs.lay ds _ t]
end
theorem Dqs.length {B : Hp} : ∀ {vs : List V} {ds : List PyData}, Dqs B vs ds → vs.length = ds.length
  | _, _, .nil => rfl
  | _, _, .cons _ t => congrArg (· + 1) (Dqs.length t)
theorem Dqs.get {B : Hp} : ∀ {vs : List V} {ds : List PyData} {i : Nat} {v : V}, Dqs B vs ds → vs[i]? = some v → ∃ d, ds[i]? = some d ∧ Dq B v d
  | _, _, i, v, .nil, e => by simp at e
  | _, _, 0, v, .cons r _, e => by simp at e; subst e; exact ⟨_, rfl, r⟩
  | _, _, i + 1, v, .cons _ t, e => by
    obtain ⟨d, h1, h2⟩ := Dqs.get (i := i) (v := v) t (by simpa using e)
    exact ⟨d, by simpa using h1, h2⟩
theorem Dqs.get' {B : Hp} : ∀ {vs : List V} {ds : List PyData} {i : Nat} {d : PyData}, Dqs B vs ds → ds[i]? = some d → ∃ v, vs[i]? = some v ∧ Dq B v d
  | _, _, i, v, .nil, e => by simp at e
  | _, _, 0, v, .cons r _, e => by simp at e; subst e; exact ⟨_, rfl, r⟩
  | _, _, i + 1, v, .cons _ t, e => by
    obtain ⟨d, h1, h2⟩ := Dqs.get' (i := i) (d := v) t (by simpa using e)
    exact ⟨d, by simpa using h1, h2⟩
theorem Dqs.append {B : Hp} : ∀ {vs ws : List V} {ds es : List PyData}, Dqs B vs ds → Dqs B ws es → Dqs B (vs ++ ws) (ds ++ es)
  | _, _, _, _, .nil, h => h
  | _, _, _, _, .cons r t, h => .cons r (Dqs.append t h)
theorem Dqs.snoc {B : Hp} {vs : List V} {ds : List PyData} {v : V} {d : PyData} (h : Dqs B vs ds) (r : Dq B v d) : Dqs B (vs ++ [v]) (ds ++ [d]) := h.append (.cons r .nil)
theorem Dqs.take {B : Hp} : ∀ {vs : List V} {ds : List PyData} (n : Nat), Dqs B vs ds → Dqs B (vs.take n) (ds.take n)
  | _, _, 0, _ => .nil
  | _, _, _ + 1, .nil => .nil
  | _, _, n + 1, .cons r t => .cons r (Dqs.take n t)
theorem Dqs.drop {B : Hp} : ∀ {vs : List V} {ds : List PyData} (n : Nat), Dqs B vs ds → Dqs B (vs.drop n) (ds.drop n)
  | _, _, 0, h => h
  | _, _, _ + 1, .nil => .nil
  | _, _, n + 1, .cons _ t => Dqs.drop n t
theorem Dqs.set {B : Hp} : ∀ {vs : List V} {ds : List PyData} (n : Nat) {v : V} {d : PyData}, Dqs B vs ds → Dq B v d → Dqs B (vs.set n v) (ds.set n d)
  | _, _, _, _, _, .nil, _ => .nil
  | _, _, 0, _, _, .cons _ t, r => .cons r t
  | _, _, n + 1, _, _, .cons q t, r => .cons q (Dqs.set n t r)
theorem Dqs.reverse {B : Hp} : ∀ {vs : List V} {ds : List PyData}, Dqs B vs ds → Dqs B vs.reverse ds.reverse
  | _, _, .nil => .nil
  | _, _, .cons r t => by rw [List.reverse_cons, List.reverse_cons]; exact (Dqs.reverse t).snoc r
theorem Dqs.dropLast {B : Hp} {vs : List V} {ds : List PyData} (h : Dqs B vs ds) : Dqs B vs.dropLast ds.dropLast := by
  rw [List.dropLast_eq_take, List.dropLast_eq_take, h.length]
  exact h.take _

/-! ### values -/
/-- what a field or a slot holds, but for objects -/
inductive FV where
  | d (x : PyData)
  | dK (kvs : List (Key × PyData))
  | dT (kvs : List (List Key × PyData))
/-- a value: data, a dict, an object of the class named, a def (or class) named, the script, a tuple of the module -/
inductive PV where
  | d (x : PyData)
  | dK (kvs : List (Key × PyData))
  | dT (kvs : List (List Key × PyData))
  | obj (c : Str) (fs : List (Str × FV))
  | fn (n : Str)
  | scr (ns : List Int)
  | kt (xs : List PyData)
  | kyK (ks : List Key)
  | kyT (ks : List (List Key))
def FV.pv : FV → PV
  | .d x => .d x
  | .dK k => .dK k
  | .dT k => .dT k
/-- what only one name holds, and may be changed -/
inductive OV where
  | lst (xs : List PyData)
  | dK (kvs : List (Key × PyData))
  | dT (kvs : List (List Key × PyData))
  | obj (c : Str) (fs : List (Str × FV))
  | mK (kvs : List (Key × List PyData))
  | mT (kvs : List (List Key × List PyData))
def inL {κ : Type} (kvs : List (κ × List PyData)) : List (κ × PyData) := kvs.map fun p => (p.1, .list p.2)
def OV.frz : OV → PV
  | .lst xs => .d (.list xs)
  | .dK k => .dK k
  | .dT k => .dT k
  | .obj c fs => .obj c fs
  | .mK k => .dK (inL k)
  | .mT k => .dT (inL k)
/-- how it reads while it is owned -/
def OV.bor : OV → PV
  | .mK k => .kyK (k.map Prod.fst)
  | .mT k => .kyT (k.map Prod.fst)
  | o => o.frz
inductive Slot where
  | un
  | val (v : PV)
  | own (o : OV)

class KOk (κ : Type) where
  ok : κ → Bool
def keyOk : Key → Bool
  | .inl _ => true
  | .inr x => PyData.strOk x
instance : KOk Key := ⟨keyOk⟩
instance : KOk (List Key) := ⟨fun l => l.all keyOk⟩
instance : KOk Str := ⟨fun _ => true⟩
def KD {κ : Type} [KOk κ] (B : Hp) : List (κ × V) → List (κ × PyData) → Prop := Paired fun p q => (p.1 = q.1 ∧ KOk.ok q.1 = true) ∧ Dq B p.2 q.2
theorem KD.mono {κ : Type} [KOk κ] {B B' : Hp} {ws : List (κ × V)} {kvs : List (κ × PyData)} (g : Grow B B') (h : KD B ws kvs) : KD B' ws kvs := Paired.mapP h fun _ _ r => ⟨r.1, Dq.mono g _ _ r.2⟩
/-- a dict's keys -/
def KY {κ : Type} [KOk κ] (ws : List (κ × V)) (ks : List κ) : Prop := ws.map Prod.fst = ks ∧ ∀ k ∈ ks, KOk.ok k = true
/-- a dict of lists: the lists' places -/
inductive MQ {κ : Type} [KOk κ] (B H : Hp) : List (κ × V) → List Addr → List (κ × List PyData) → Prop
  | nil : MQ B H [] [] []
  | cons {k : κ} {q : Addr} {xs : List V} {ds : List PyData} {ws : List (κ × V)} {qs : List Addr} {kvs : List (κ × List PyData)} : KOk.ok k = true → H q = some (.lst xs) → Dqs B xs ds → MQ B H ws qs kvs → MQ B H ((k, .ref q) :: ws) (q :: qs) ((k, ds) :: kvs)
theorem MQ.stay {κ : Type} [KOk κ] {B B' H H' : Hp} (g : Grow B B') : ∀ {ws : List (κ × V)} {qs : List Addr} {kvs : List (κ × List PyData)}, MQ B H ws qs kvs → (∀ a ∈ qs, H' a = H a) → MQ B' H' ws qs kvs
  | _, _, _, .nil, _ => .nil
  | _, _, _, .cons k e r t, h => .cons k ((h _ (by simp)).trans e) (Dqs.mono g _ _ r) (MQ.stay g t fun a ha => h a (by simp [ha]))
theorem MQ.there {κ : Type} [KOk κ] {B H : Hp} : ∀ {ws : List (κ × V)} {qs : List Addr} {kvs : List (κ × List PyData)}, MQ B H ws qs kvs → ∀ a ∈ qs, ∃ xs, H a = some (.lst xs)
  | _, _, _, .nil, a, h => by simp at h
  | _, _, _, .cons k e r t, a, h => by
    rcases List.mem_cons.mp h with rfl | h
    · exact ⟨_, e⟩
    · exact t.there a h
theorem MQ.kd {κ : Type} [KOk κ] {B H : Hp} (g : Grow B H) : ∀ {ws : List (κ × V)} {qs : List Addr} {kvs : List (κ × List PyData)}, MQ B H ws qs kvs → KD H ws (inL kvs)
  | _, _, _, .nil => .nil
  | _, _, _, .cons k e r t => .cons ⟨⟨rfl, k⟩, .lst e (Dqs.mono g _ _ r)⟩ (t.kd g)
theorem MQ.ky {κ : Type} [KOk κ] {B H : Hp} : ∀ {ws : List (κ × V)} {qs : List Addr} {kvs : List (κ × List PyData)}, MQ B H ws qs kvs → KY ws (kvs.map Prod.fst)
  | _, _, _, .nil => ⟨rfl, by simp⟩
  | _, _, _, .cons k e r t => ⟨by simpa using t.ky.1, by
    intro x hx
    rcases List.mem_cons.mp hx with rfl | hx
    · exact k
    · exact t.ky.2 x hx⟩
def RepF (B : Hp) (x : V) : FV → Prop
  | .d y => Dq B x y
  | .dK kvs => ∃ a ws, x = .ref a ∧ Rd B a (.dK ws) ∧ KD B ws kvs
  | .dT kvs => ∃ a ws, x = .ref a ∧ Rd B a (.dT ws) ∧ KD B ws kvs
theorem RepF.mono {B B' : Hp} (g : Grow B B') {x : V} : ∀ {v : FV}, RepF B x v → RepF B' x v
  | .d _, h => Dq.mono g _ _ h
  | .dK _, h => by obtain ⟨a, ws, e, r, k⟩ := h; exact ⟨a, ws, e, g.rd _ _ r, KD.mono g k⟩
  | .dT _, h => by obtain ⟨a, ws, e, r, k⟩ := h; exact ⟨a, ws, e, g.rd _ _ r, KD.mono g k⟩
def FD (B : Hp) : List (Str × V) → List (Str × FV) → Prop := Paired fun p q => p.1 = q.1 ∧ RepF B p.2 q.2
theorem FD.mono {B B' : Hp} {ws : List (Str × V)} {fs : List (Str × FV)} (g : Grow B B') (h : FD B ws fs) : FD B' ws fs := Paired.mapP h fun _ _ r => ⟨r.1, RepF.mono g r.2⟩
/-- the value x is v, by what B knows -/
def RepV (ca : Str → Addr) (K : PySem.W.Frag) (B : Hp) (x : V) : PV → Prop
  | .d y => Dq B x y
  | .dK kvs => ∃ a ws, x = .ref a ∧ Rd B a (.dK ws) ∧ KD B ws kvs
  | .dT kvs => ∃ a ws, x = .ref a ∧ Rd B a (.dT ws) ∧ KD B ws kvs
  | .obj c fs => ∃ a dx ws, x = .ref a ∧ B a = some (.ins (ca c) dx ws) ∧ FD B ws fs
  | .fn n => x = .ref (ca n)
  | .scr ns => ∃ a, x = .ref a ∧ SqL K B a (ns.map V.int)
  | .kt ds => ∃ a xs, x = .ref a ∧ SqT K B a xs ∧ Dqs B xs ds
  | .kyK ks => ∃ a ws, x = .ref a ∧ Rd B a (.dK ws) ∧ KY ws ks
  | .kyT ks => ∃ a ws, x = .ref a ∧ Rd B a (.dT ws) ∧ KY ws ks
theorem Grow.seqT {K : PySem.W.Frag} {B B' : Hp} (g : Grow B B') {a : Addr} {xs : List V} (h : SqT K B a xs) : SqT K B' a xs := by
  rcases h with h | h
  · exact .inl (g.rd _ _ h)
  · exact .inr h
theorem Grow.seqL {K : PySem.W.Frag} {B B' : Hp} (g : Grow B B') {a : Addr} {xs : List V} (h : SqL K B a xs) : SqL K B' a xs := by
  rcases h with h | h
  · exact .inl (g.rd _ _ h)
  · exact .inr h
theorem RepV.mono {ca : Str → Addr} {K : PySem.W.Frag} {B B' : Hp} (g : Grow B B') {x : V} : ∀ {v : PV}, RepV ca K B x v → RepV ca K B' x v
  | .d _, h => Dq.mono g _ _ h
  | .dK _, h => by obtain ⟨a, ws, e, r, k⟩ := h; exact ⟨a, ws, e, g.rd _ _ r, KD.mono g k⟩
  | .dT _, h => by obtain ⟨a, ws, e, r, k⟩ := h; exact ⟨a, ws, e, g.rd _ _ r, KD.mono g k⟩
  | .obj _ _, h => by obtain ⟨a, dx, ws, e, r, k⟩ := h; exact ⟨a, dx, ws, e, g.ins _ _ _ _ r, FD.mono g k⟩
  | .fn _, h => h
  | .scr _, h => by obtain ⟨a, e, r⟩ := h; exact ⟨a, e, g.seqL r⟩
  | .kt _, h => by obtain ⟨a, xs, e, r, k⟩ := h; exact ⟨a, xs, e, g.seqT r, Dqs.mono g _ _ k⟩
  | .kyK _, h => by obtain ⟨a, ws, e, r, k⟩ := h; exact ⟨a, ws, e, g.rd _ _ r, k⟩
  | .kyT _, h => by obtain ⟨a, ws, e, r, k⟩ := h; exact ⟨a, ws, e, g.rd _ _ r, k⟩
theorem RepF.pv {ca : Str → Addr} {K : PySem.W.Frag} {B : Hp} {x : V} : ∀ {v : FV}, RepF B x v → RepV ca K B x v.pv
  | .d _, h => h
  | .dK _, h => h
  | .dT _, h => h
/-- at p, by the addresses A alone (and what B knows): o -/
def OwnAt (ca : Str → Addr) (B H : Hp) (p : Addr) (A : List Addr) : OV → Prop
  | .lst ds => A = [p] ∧ ∃ xs, H p = some (.lst xs) ∧ Dqs B xs ds
  | .dK kvs => A = [p] ∧ ∃ ws, H p = some (.dK ws) ∧ KD B ws kvs
  | .dT kvs => A = [p] ∧ ∃ ws, H p = some (.dT ws) ∧ KD B ws kvs
  | .obj c fs => ∃ dx ws, A = [p, dx] ∧ H p = some (.ins (ca c) dx ws) ∧ H dx = some (.own p) ∧ FD B ws fs
  | .mK kvs => ∃ ws qs, A = p :: qs ∧ (p :: qs).Nodup ∧ H p = some (.dK ws) ∧ MQ B H ws qs kvs
  | .mT kvs => ∃ ws qs, A = p :: qs ∧ (p :: qs).Nodup ∧ H p = some (.dT ws) ∧ MQ B H ws qs kvs
theorem OwnAt.stay {ca : Str → Addr} {B B' H H' : Hp} {p : Addr} {A : List Addr} {o : OV} (h : OwnAt ca B H p A o) (g : Grow B B') (k : ∀ a ∈ A, H' a = H a) : OwnAt ca B' H' p A o := by
  cases o with
  | lst ds => obtain ⟨e, xs, r, q⟩ := h; subst e; exact ⟨rfl, xs, (k p (by simp)).trans r, Dqs.mono g _ _ q⟩
  | dK kvs => obtain ⟨e, xs, r, q⟩ := h; subst e; exact ⟨rfl, xs, (k p (by simp)).trans r, KD.mono g q⟩
  | dT kvs => obtain ⟨e, xs, r, q⟩ := h; subst e; exact ⟨rfl, xs, (k p (by simp)).trans r, KD.mono g q⟩
  | obj c fs => obtain ⟨dx, ws, e, r, r2, q⟩ := h; subst e; exact ⟨dx, ws, rfl, (k p (by simp)).trans r, (k dx (by simp)).trans r2, FD.mono g q⟩
  | mK kvs => obtain ⟨ws, qs, e, n, r, q⟩ := h; subst e; exact ⟨ws, qs, rfl, n, (k p (by simp)).trans r, q.stay g fun a ha => k a (by simp [ha])⟩
  | mT kvs => obtain ⟨ws, qs, e, n, r, q⟩ := h; subst e; exact ⟨ws, qs, rfl, n, (k p (by simp)).trans r, q.stay g fun a ha => k a (by simp [ha])⟩
theorem OwnAt.there {ca : Str → Addr} {B H : Hp} {p : Addr} {A : List Addr} {o : OV} (h : OwnAt ca B H p A o) : ∀ a ∈ A, ∃ u, H a = some u := by
  cases o with
  | lst ds => obtain ⟨e, xs, r, q⟩ := h; subst e; intro a ha; simp at ha; subst ha; exact ⟨_, r⟩
  | dK kvs => obtain ⟨e, xs, r, q⟩ := h; subst e; intro a ha; simp at ha; subst ha; exact ⟨_, r⟩
  | dT kvs => obtain ⟨e, xs, r, q⟩ := h; subst e; intro a ha; simp at ha; subst ha; exact ⟨_, r⟩
  | obj c fs =>
    obtain ⟨dx, ws, e, r, r2, q⟩ := h; subst e; intro a ha; simp at ha
    rcases ha with ha | ha
    · subst ha; exact ⟨_, r⟩
    · subst ha; exact ⟨_, r2⟩
  | mK kvs =>
    obtain ⟨ws, qs, e, n, r, q⟩ := h; subst e; intro a ha
    rcases List.mem_cons.mp ha with rfl | ha
    · exact ⟨_, r⟩
    · obtain ⟨xs, h⟩ := q.there a ha; exact ⟨_, h⟩
  | mT kvs =>
    obtain ⟨ws, qs, e, n, r, q⟩ := h; subst e; intro a ha
    rcases List.mem_cons.mp ha with rfl | ha
    · exact ⟨_, r⟩
    · obtain ⟨xs, h⟩ := q.there a ha; exact ⟨_, h⟩
theorem OwnAt.mem {ca : Str → Addr} {B H : Hp} {p : Addr} {A : List Addr} {o : OV} (h : OwnAt ca B H p A o) : p ∈ A := by
  cases o with
  | lst ds => obtain ⟨e, _⟩ := h; subst e; simp
  | dK kvs => obtain ⟨e, _⟩ := h; subst e; simp
  | dT kvs => obtain ⟨e, _⟩ := h; subst e; simp
  | obj c fs => obtain ⟨dx, ws, e, _⟩ := h; subst e; simp
  | mK kvs => obtain ⟨ws, qs, e, _⟩ := h; subst e; simp
  | mT kvs => obtain ⟨ws, qs, e, _⟩ := h; subst e; simp
/-- what the owner holds, by the whole heap -/
theorem OwnAt.rep {ca : Str → Addr} {K : PySem.W.Frag} {B H : Hp} {p : Addr} {A : List Addr} {o : OV} (h : OwnAt ca B H p A o) (g : Grow B H) : RepV ca K H (.ref p) o.frz := by
  cases o with
  | lst ds => obtain ⟨e, xs, r, q⟩ := h; exact .lst r (Dqs.mono g _ _ q)
  | dK kvs => obtain ⟨e, xs, r, q⟩ := h; exact ⟨p, xs, rfl, .inl r, KD.mono g q⟩
  | dT kvs => obtain ⟨e, xs, r, q⟩ := h; exact ⟨p, xs, rfl, .inl r, KD.mono g q⟩
  | obj c fs => obtain ⟨dx, ws, e, r, r2, q⟩ := h; exact ⟨p, dx, ws, rfl, r, FD.mono g q⟩
  | mK kvs => obtain ⟨ws, qs, e, n, r, q⟩ := h; exact ⟨p, ws, rfl, .inl r, q.kd g⟩
  | mT kvs => obtain ⟨ws, qs, e, n, r, q⟩ := h; exact ⟨p, ws, rfl, .inl r, q.kd g⟩
theorem OwnAt.repB {ca : Str → Addr} {K : PySem.W.Frag} {B H : Hp} {p : Addr} {A : List Addr} {o : OV} (h : OwnAt ca B H p A o) (g : Grow B H) : RepV ca K H (.ref p) o.bor := by
  cases o with
  | mK kvs => obtain ⟨ws, qs, e, n, r, q⟩ := h; exact ⟨p, ws, rfl, .inl r, q.ky⟩
  | mT kvs => obtain ⟨ws, qs, e, n, r, q⟩ := h; exact ⟨p, ws, rfl, .inl r, q.ky⟩
  | lst ds => exact h.rep g
  | dK kvs => exact h.rep g
  | dT kvs => exact h.rep g
  | obj c fs => exact h.rep g

/-! ### the state -/
/-- where a def (or a turn) began: its heap, what was known of it, what may be changed -/
structure Ent where
  H : Hp
  B : Hp
  M : List Addr
structure SRa (ca : Str → Addr) (K : PySem.W.Frag) (E : Ent) (AF : Nat → List Addr) (B : Hp) (ρ : List Slot) (σ : L2.St) (H : Hp) : Prop where
  len : ρ.length = σ.length
  grow : Grow E.B B
  sub : ∀ a o, B a = some o → H a = some o
  keep : ∀ a o, E.H a = some o → a ∉ E.M → H a = some o
  newB : ∀ a o, B a = some o → E.B a = some o ∨ E.H a = none ∨ a ∈ E.M ∨ ∃ xs, o = .tup xs
  val : ∀ (i : Nat) (v : PV), ρ[i]? = some (.val v) → ∃ x, σ[i]? = some (some x) ∧ RepV ca K B x v
  own : ∀ (i : Nat) (o : OV), ρ[i]? = some (.own o) → ∃ p, σ[i]? = some (some (.ref p)) ∧ OwnAt ca B H p (AF i) o
  ofr : ∀ (i : Nat) (o : OV), ρ[i]? = some (.own o) → ∀ a ∈ AF i, B a = none ∧ (E.H a = none ∨ a ∈ E.M)
  dis : ∀ (i j : Nat) (o u : OV), ρ[i]? = some (.own o) → ρ[j]? = some (.own u) → i ≠ j → ∀ a ∈ AF i, a ∉ AF j
def SR (ca : Str → Addr) (K : PySem.W.Frag) (E : Ent) (B : Hp) (ρ : List Slot) (σ : L2.St) (H : Hp) : Prop := ∃ AF, SRa ca K E AF B ρ σ H
section
variable {ca : Str → Addr} {K : PySem.W.Frag} {E : Ent} {AF : Nat → List Addr} {B B' H H' : Hp} {ρ : List Slot} {σ : L2.St}
theorem SR.growH (S : SR ca K E B ρ σ H) : Grow B H := let ⟨_, s⟩ := S; Grow.sub s.sub
theorem SR.sub (S : SR ca K E B ρ σ H) : ∀ a o, B a = some o → H a = some o := let ⟨_, s⟩ := S; s.sub
theorem SR.len (S : SR ca K E B ρ σ H) : ρ.length = σ.length := let ⟨_, s⟩ := S; s.len
/-- a new object, known from now on -/
theorem SR.laid {p : Addr} {o : HO} (S : SR ca K E B ρ σ H) (hp : H p = none) : SR ca K E (upd B p o) ρ σ (upd H p o) ∧ Grow B (upd B p o) := by
  obtain ⟨AF, s⟩ := S
  have hB : B p = none := by
    cases q : B p with
    | none => rfl
    | some u => rw [s.sub _ _ q] at hp; cases hp
  have g : Grow B (upd B p o) := Grow.sub fun a u e => by rw [upd_ne (ne_of_none e hB)]; exact e
  have hE : E.H p = none ∨ p ∈ E.M := by
    by_cases hm : p ∈ E.M
    · exact .inr hm
    · cases q : E.H p with
      | none => exact .inl rfl
      | some u => rw [s.keep _ _ q hm] at hp; cases hp
  refine ⟨⟨AF, s.len, s.grow.trans g, fun a u e => ?_, fun a u e hm => ?_, fun a u e => ?_, fun i v e => ?_, fun i u e => ?_, fun i u e a ha => ?_, s.dis⟩, g⟩
  · by_cases h : a = p
    · subst h; rw [upd_same] at e ⊢; exact e
    · rw [upd_ne h] at e ⊢; exact s.sub a u e
  · have q := s.keep a u e hm
    rw [upd_ne (ne_of_none q hp)]; exact q
  · by_cases h : a = p
    · subst h; exact .inr (hE.imp id .inl)
    · rw [upd_ne h] at e; exact s.newB a u e
  · obtain ⟨x, h1, h2⟩ := s.val i v e; exact ⟨x, h1, h2.mono g⟩
  · obtain ⟨q, h1, h2⟩ := s.own i u e
    refine ⟨q, h1, h2.stay g fun a ha => ?_⟩
    obtain ⟨w, hw⟩ := h2.there a ha
    exact upd_ne (ne_of_none hw hp)
  · obtain ⟨h1, h2⟩ := s.ofr i u e a ha
    obtain ⟨q, _, h4⟩ := s.own i u e
    obtain ⟨w, hw⟩ := h4.there a ha
    exact ⟨by rw [upd_ne (ne_of_none hw hp)]; exact h1, h2⟩
/-- a new object, owned by a new slot -/
theorem SR.laidO {p : Addr} {u : HO} {o : OV} (S : SR ca K E B ρ σ H) (hp : H p = none) (ho : OwnAt ca B (upd H p u) p [p] o) : SR ca K E B (ρ ++ [.own o]) (σ ++ [some (.ref p)]) (upd H p u) := by
  obtain ⟨AF, s⟩ := S
  have hB : B p = none := by
    cases q : B p with
    | none => rfl
    | some u => rw [s.sub _ _ q] at hp; cases hp
  have hE : E.H p = none ∨ p ∈ E.M := by
    by_cases hm : p ∈ E.M
    · exact .inr hm
    · cases q : E.H p with
      | none => exact .inl rfl
      | some u => rw [s.keep _ _ q hm] at hp; cases hp
  have old : ∀ (i : Nat) (o' : OV), i < ρ.length → ρ[i]? = some (.own o') → ∀ a ∈ AF i, a ≠ p := fun i o' hi e a ha => by
    obtain ⟨q, _, h4⟩ := s.own i o' e
    obtain ⟨w, hw⟩ := h4.there a ha
    exact ne_of_none hw hp
  have sp : ∀ (i : Nat) (x : Slot), (ρ ++ [.own o])[i]? = some x → (i < ρ.length ∧ ρ[i]? = some x) ∨ (i = ρ.length ∧ x = .own o) := fun i x e => by
    by_cases hi : i < ρ.length
    · rw [List.getElem?_append_left hi] at e; exact .inl ⟨hi, e⟩
    · rw [List.getElem?_append_right (by omega)] at e
      have z : i - ρ.length = 0 := by
        cases q : i - ρ.length with
        | zero => rfl
        | succ n => rw [q] at e; simp at e
      rw [z] at e
      simp at e
      exact .inr ⟨by omega, e.symm⟩
  refine ⟨fun i => if i = ρ.length then [p] else AF i, by simp [s.len], s.grow, fun a w e => ?_, fun a w e hm => ?_, s.newB, fun i v e => ?_, fun i w e => ?_, fun i w e a ha => ?_, fun i j w w' ei ej hij a ha => ?_⟩
  · have q := s.sub a w e; rw [upd_ne (ne_of_none q hp)]; exact q
  · have q := s.keep a w e hm; rw [upd_ne (ne_of_none q hp)]; exact q
  · rcases sp i _ e with ⟨hi, e'⟩ | ⟨_, z⟩
    · obtain ⟨x, h1, h2⟩ := s.val i v e'
      exact ⟨x, by rw [List.getElem?_append_left (by rw [← s.len]; exact hi)]; exact h1, h2⟩
    · cases z
  · rcases sp i _ e with ⟨hi, e'⟩ | ⟨hi, z⟩
    · obtain ⟨q, h1, h2⟩ := s.own i w e'
      refine ⟨q, by rw [List.getElem?_append_left (by rw [← s.len]; exact hi)]; exact h1, ?_⟩
      rw [if_neg (by omega)]
      exact h2.stay (Grow.refl B) fun a ha => upd_ne (old i w hi e' a ha)
    · cases z
      refine ⟨p, ?_, ?_⟩
      · rw [List.getElem?_append_right (by rw [← s.len]; omega)]
        rw [hi, s.len]; simp
      · rw [if_pos hi]; exact ho
  · rcases sp i _ e with ⟨hi, e'⟩ | ⟨hi, z⟩
    · rw [if_neg (by omega)] at ha; exact s.ofr i w e' a ha
    · rw [if_pos hi] at ha; simp at ha; subst ha; exact ⟨hB, hE⟩
  · rcases sp i _ ei with ⟨hi, ei'⟩ | ⟨hi, zi⟩
    · rw [if_neg (by omega)] at ha
      rcases sp j _ ej with ⟨hj, ej'⟩ | ⟨hj, zj⟩
      · rw [if_neg (by omega)]; exact s.dis i j w w' ei' ej' hij a ha
      · rw [if_pos hj]; simp; exact old i w hi ei' a ha
    · rw [if_pos hi] at ha; simp at ha; subst ha
      rcases sp j _ ej with ⟨hj, ej'⟩ | ⟨hj, zj⟩
      · rw [if_neg (by omega)]; exact fun z => old j w' hj ej' _ z rfl
      · omega
/-- a slot gets a value -/
theorem SR.setV {i : Nat} {x : V} {v : PV} (S : SR ca K E B ρ σ H) (r : RepV ca K B x v) : SR ca K E B (ρ.set i (.val v)) (σ.set i (some x)) H := by
  obtain ⟨AF, s⟩ := S
  have ne : ∀ (j : Nat) (w : Slot), (ρ.set i (.val v))[j]? = some w → (j = i ∧ i < ρ.length ∧ w = .val v) ∨ (j ≠ i ∧ ρ[j]? = some w) := fun j w e => by
    by_cases h : j = i
    · subst h
      by_cases hl : j < ρ.length
      · rw [List.getElem?_set_self hl] at e; exact .inl ⟨rfl, hl, (Option.some.inj e).symm⟩
      · rw [List.getElem?_eq_none (by simpa using hl)] at e; cases e
    · rw [List.getElem?_set_ne (Ne.symm h)] at e; exact .inr ⟨h, e⟩
  refine ⟨AF, by simp [s.len], s.grow, s.sub, s.keep, s.newB, fun j w e => ?_, fun j o e => ?_, fun j o e => ?_, fun j k o u ej ek hjk => ?_⟩
  · rcases ne j _ e with ⟨h1, h2, h3⟩ | ⟨h1, h2⟩
    · cases h3
      subst h1
      exact ⟨x, List.getElem?_set_self (by rw [← s.len]; exact h2), r⟩
    · obtain ⟨y, e1, e2⟩ := s.val j w h2
      exact ⟨y, by rw [List.getElem?_set_ne (Ne.symm h1)]; exact e1, e2⟩
  · rcases ne j _ e with ⟨h1, h2, h3⟩ | ⟨h1, h2⟩
    · cases h3
    · obtain ⟨y, e1, e2⟩ := s.own j o h2
      exact ⟨y, by rw [List.getElem?_set_ne (Ne.symm h1)]; exact e1, e2⟩
  · rcases ne j _ e with ⟨h1, h2, h3⟩ | ⟨h1, h2⟩
    · cases h3
    · exact s.ofr j o h2
  · rcases ne j _ ej with ⟨h1, h2, h3⟩ | ⟨h1, h2⟩
    · cases h3
    · rcases ne k _ ek with ⟨k1, k2, k3⟩ | ⟨k1, k2⟩
      · cases k3
      · exact s.dis j k o u h2 k2 hjk
/-- a slot is forgotten -/
theorem SR.forget {i : Nat} {y : Option V} (S : SR ca K E B ρ σ H) : SR ca K E B (ρ.set i .un) (σ.set i y) H := by
  obtain ⟨AF, s⟩ := S
  have ne : ∀ (j : Nat) (w : Slot), (ρ.set i .un)[j]? = some w → w ≠ .un → (j ≠ i ∧ ρ[j]? = some w) := fun j w e hw => by
    by_cases h : j = i
    · subst h
      by_cases hl : j < ρ.length
      · rw [List.getElem?_set_self hl] at e; exact absurd (Option.some.inj e).symm hw
      · rw [List.getElem?_eq_none (by simpa using hl)] at e; cases e
    · rw [List.getElem?_set_ne (Ne.symm h)] at e; exact ⟨h, e⟩
  refine ⟨AF, by simp [s.len], s.grow, s.sub, s.keep, s.newB, fun j w e => ?_, fun j o e => ?_, fun j o e => ?_, fun j k o u ej ek hjk => ?_⟩
  · obtain ⟨h1, h2⟩ := ne j _ e (by intro z; cases z)
    obtain ⟨y, e1, e2⟩ := s.val j w h2
    exact ⟨y, by rw [List.getElem?_set_ne (Ne.symm h1)]; exact e1, e2⟩
  · obtain ⟨h1, h2⟩ := ne j _ e (by intro z; cases z)
    obtain ⟨y, e1, e2⟩ := s.own j o h2
    exact ⟨y, by rw [List.getElem?_set_ne (Ne.symm h1)]; exact e1, e2⟩
  · obtain ⟨h1, h2⟩ := ne j _ e (by intro z; cases z)
    exact s.ofr j o h2
  · obtain ⟨h1, h2⟩ := ne j _ ej (by intro z; cases z)
    obtain ⟨k1, k2⟩ := ne k _ ek (by intro z; cases z)
    exact s.dis j k o u h2 k2 hjk
/-- σ alone may lose a slot that ρ does not know -/
theorem SR.forget' {i : Nat} (S : SR ca K E B ρ σ H) : SR ca K E B (ρ.set i .un) σ H := by
  have h := S.forget (i := i) (y := (σ[i]?).getD none)
  have e : σ.set i ((σ[i]?).getD none) = σ := by
    apply List.ext_getElem?
    intro j
    by_cases hj : j = i
    · subst hj
      by_cases hl : j < σ.length
      · rw [List.getElem?_set_self hl, List.getElem?_eq_getElem hl]; rfl
      · rw [List.getElem?_eq_none (by simpa using hl), List.getElem?_eq_none (by omega)]
    · rw [List.getElem?_set_ne (Ne.symm hj)]
  rw [e] at h
  exact h
end
end Pu
/-! The pure layer, part 2: the state's moves. -/
namespace Pu
open PySem PySem.Spec PyProof.Rows L2
theorem get_app {α : Type} {l : List α} {y x : α} {i : Nat} (e : (l ++ [y])[i]? = some x) : (i < l.length ∧ l[i]? = some x) ∨ (i = l.length ∧ x = y) := by
  by_cases hi : i < l.length
  · rw [List.getElem?_append_left hi] at e; exact .inl ⟨hi, e⟩
  · rw [List.getElem?_append_right (by omega)] at e
    have z : i - l.length = 0 := by
      cases q : i - l.length with
      | zero => rfl
      | succ n => rw [q] at e; simp at e
    rw [z] at e
    simp at e
    exact .inr ⟨by omega, e.symm⟩
theorem get_set {α : Type} {l : List α} {y x : α} {i j : Nat} (e : (l.set i y)[j]? = some x) : (j = i ∧ i < l.length ∧ x = y) ∨ (j ≠ i ∧ l[j]? = some x) := by
  by_cases h : j = i
  · subst h
    by_cases hl : j < l.length
    · rw [List.getElem?_set_self hl] at e; exact .inl ⟨rfl, hl, (Option.some.inj e).symm⟩
    · rw [List.getElem?_eq_none (by simpa using hl)] at e; cases e
  · rw [List.getElem?_set_ne (Ne.symm h)] at e; exact .inr ⟨h, e⟩
theorem lt_of_get {α : Type} {l : List α} {x : α} {i : Nat} (e : l[i]? = some x) : i < l.length := by
  obtain ⟨h, _⟩ := List.getElem?_eq_some_iff.mp e
  exact h
section
variable {ca : Str → Addr} {K : PySem.W.Frag} {E : Ent} {AF : Nat → List Addr} {B B' H H' : Hp} {ρ : List Slot} {σ : L2.St}
/-- borrowed: known, or in an owning slot -/
def BV (ca : Str → Addr) (K : PySem.W.Frag) (B : Hp) (ρ : List Slot) (σ : L2.St) (x : V) (v : PV) : Prop :=
  RepV ca K B x v ∨ ∃ (i : Nat) (o : OV), ρ[i]? = some (.own o) ∧ σ[i]? = some (some x) ∧ v = o.bor
theorem BV.mono {x : V} {v : PV} (g : Grow B B') (h : BV ca K B ρ σ x v) : BV ca K B' ρ σ x v := h.imp (fun r => r.mono g) fun r => r
theorem OwnAt.notTup {p : Addr} {A : List Addr} {o : OV} (h : OwnAt ca B H p A o) : ∀ a ∈ A, ∀ xs, H a = some (.tup xs) → False := fun a ha xs e => by
  cases o with
  | lst ds => obtain ⟨rfl, ys, r, q⟩ := h; simp at ha; subst ha; rw [r] at e; cases e
  | dK kvs => obtain ⟨rfl, ys, r, q⟩ := h; simp at ha; subst ha; rw [r] at e; cases e
  | dT kvs => obtain ⟨rfl, ys, r, q⟩ := h; simp at ha; subst ha; rw [r] at e; cases e
  | obj c fs =>
    obtain ⟨dx, ws, rfl, r, r2, q⟩ := h
    simp at ha
    rcases ha with rfl | rfl
    · rw [r] at e; cases e
    · rw [r2] at e; cases e
  | mK kvs =>
    obtain ⟨ws, qs, rfl, n, r, q⟩ := h
    rcases List.mem_cons.mp ha with rfl | ha
    · rw [r] at e; cases e
    · obtain ⟨ys, h⟩ := q.there a ha; rw [h] at e; cases e
  | mT kvs =>
    obtain ⟨ws, qs, rfl, n, r, q⟩ := h
    rcases List.mem_cons.mp ha with rfl | ha
    · rw [r] at e; cases e
    · obtain ⟨ys, h⟩ := q.there a ha; rw [h] at e; cases e
theorem SR.look {x : V} {v : PV} (S : SR ca K E B ρ σ H) (h : BV ca K B ρ σ x v) : RepV ca K H x v := by
  rcases h with h | ⟨i, o, e1, e2, e3⟩
  · exact h.mono S.growH
  · obtain ⟨AF, s⟩ := S
    obtain ⟨p, h1, h2⟩ := s.own i o e1
    rw [e2] at h1
    cases h1
    rw [e3]
    exact h2.repB (Grow.sub s.sub)
/-- x is v: its own object by the whole heap, what it holds by what B knows -/
def RepC (ca : Str → Addr) (K : PySem.W.Frag) (B H : Hp) (x : V) : PV → Prop
  | .d (.list ds) => ∃ a xs, x = .ref a ∧ H a = some (.lst xs) ∧ Dqs B xs ds
  | .dK kvs => ∃ a ws, x = .ref a ∧ Rd H a (.dK ws) ∧ KD B ws kvs
  | .dT kvs => ∃ a ws, x = .ref a ∧ Rd H a (.dT ws) ∧ KD B ws kvs
  | .obj c fs => ∃ a dx ws, x = .ref a ∧ H a = some (.ins (ca c) dx ws) ∧ FD B ws fs
  | .kyK ks => ∃ a ws, x = .ref a ∧ Rd H a (.dK ws) ∧ KY ws ks
  | .kyT ks => ∃ a ws, x = .ref a ∧ Rd H a (.dT ws) ∧ KY ws ks
  | v => RepV ca K B x v
theorem RepV.c {x : V} {v : PV} (h : RepV ca K B x v) (g : Grow B H) : RepC ca K B H x v := by
  cases v with
  | d y =>
    cases y with
    | list ds => cases h with | lst e r => exact ⟨_, _, rfl, g.lst _ _ e, r⟩
    | _ => exact h
  | dK kvs => obtain ⟨a, ws, e, r, q⟩ := h; exact ⟨a, ws, e, g.rd _ _ r, q⟩
  | dT kvs => obtain ⟨a, ws, e, r, q⟩ := h; exact ⟨a, ws, e, g.rd _ _ r, q⟩
  | obj c fs => obtain ⟨a, dx, ws, e, r, q⟩ := h; exact ⟨a, dx, ws, e, g.ins _ _ _ _ r, q⟩
  | fn n => exact h
  | scr ns => exact h
  | kt ds => exact h
  | kyK ks => exact RepV.mono (v := .kyK ks) g h
  | kyT ks => exact RepV.mono (v := .kyT ks) g h
theorem RepC.rep {x : V} {v : PV} (h : RepC ca K B H x v) (g : Grow B H) : RepV ca K H x v := by
  cases v with
  | d y =>
    cases y with
    | list ds => obtain ⟨a, xs, e, r, q⟩ := h; subst e; exact .lst r (Dqs.mono g _ _ q)
    | none => exact RepV.mono (v := .d .none) g h
    | bool b => exact RepV.mono (v := .d (.bool b)) g h
    | int b => exact RepV.mono (v := .d (.int b)) g h
    | str b => exact RepV.mono (v := .d (.str b)) g h
    | tuple b => exact RepV.mono (v := .d (.tuple b)) g h
    | dict b => exact RepV.mono (v := .d (.dict b)) g h
  | dK kvs => obtain ⟨a, ws, e, r, q⟩ := h; exact ⟨a, ws, e, r, KD.mono g q⟩
  | dT kvs => obtain ⟨a, ws, e, r, q⟩ := h; exact ⟨a, ws, e, r, KD.mono g q⟩
  | obj c fs => obtain ⟨a, dx, ws, e, r, q⟩ := h; exact ⟨a, dx, ws, e, r, FD.mono g q⟩
  | fn n => exact RepV.mono (v := .fn n) g h
  | scr ns => exact RepV.mono (v := .scr ns) g h
  | kt ds => exact RepV.mono (v := .kt ds) g h
  | kyK ks => exact h
  | kyT ks => exact h
theorem OwnAt.c {p : Addr} {A : List Addr} {o : OV} (h : OwnAt ca B H p A o) : RepC ca K B H (.ref p) o.bor := by
  cases o with
  | lst ds => obtain ⟨e, xs, r, q⟩ := h; exact ⟨p, xs, rfl, r, q⟩
  | dK kvs => obtain ⟨e, xs, r, q⟩ := h; exact ⟨p, xs, rfl, .inl r, q⟩
  | dT kvs => obtain ⟨e, xs, r, q⟩ := h; exact ⟨p, xs, rfl, .inl r, q⟩
  | obj c fs => obtain ⟨dx, ws, e, r, r2, q⟩ := h; exact ⟨p, dx, ws, rfl, r, q⟩
  | mK kvs => obtain ⟨ws, qs, e, n, r, q⟩ := h; exact ⟨p, ws, rfl, .inl r, q.ky⟩
  | mT kvs => obtain ⟨ws, qs, e, n, r, q⟩ := h; exact ⟨p, ws, rfl, .inl r, q.ky⟩
theorem SR.lookC {x : V} {v : PV} (S : SR ca K E B ρ σ H) (h : BV ca K B ρ σ x v) : RepC ca K B H x v := by
  rcases h with h | ⟨i, o, e1, e2, e3⟩
  · exact h.c S.growH
  · obtain ⟨AF, s⟩ := S
    obtain ⟨p, h1, h2⟩ := s.own i o e1
    rw [e2] at h1
    cases h1
    rw [e3]
    exact h2.c
theorem SR.val (S : SR ca K E B ρ σ H) {i : Nat} {v : PV} (e : ρ[i]? = some (.val v)) : ∃ x, σ[i]? = some (some x) ∧ RepV ca K B x v := let ⟨_, s⟩ := S; s.val i v e
theorem SR.bown (S : SR ca K E B ρ σ H) {i : Nat} {o : OV} (e : ρ[i]? = some (.own o)) : ∃ x, σ[i]? = some (some x) ∧ BV ca K B ρ σ x o.bor := by
  obtain ⟨AF, s⟩ := S
  obtain ⟨p, h1, _⟩ := s.own i o e
  exact ⟨.ref p, h1, .inr ⟨i, o, e, h1, rfl⟩⟩
/-- the last slot goes -/
theorem SR.drop {t : Slot} {y : Option V} (S : SR ca K E B (ρ ++ [t]) (σ ++ [y]) H) : SR ca K E B ρ σ H := by
  obtain ⟨AF, s⟩ := S
  have l : ρ.length = σ.length := by simpa using s.len
  have up : ∀ (i : Nat) (x : Slot), ρ[i]? = some x → (ρ ++ [t])[i]? = some x := fun i x e => by rw [List.getElem?_append_left (lt_of_get e)]; exact e
  have dn : ∀ (i : Nat) (x : Slot) (z : Option V), ρ[i]? = some x → (σ ++ [y])[i]? = some z → σ[i]? = some z := fun i x z e f => by rw [List.getElem?_append_left (by rw [← l]; exact lt_of_get e)] at f; exact f
  refine ⟨AF, l, s.grow, s.sub, s.keep, s.newB, fun i v e => ?_, fun i o e => ?_, fun i o e => s.ofr i o (up i _ e), fun i j o u e1 e2 => s.dis i j o u (up i _ e1) (up j _ e2)⟩
  · obtain ⟨x, h1, h2⟩ := s.val i v (up i _ e)
    exact ⟨x, dn i _ _ e h1, h2⟩
  · obtain ⟨x, h1, h2⟩ := s.own i o (up i _ e)
    exact ⟨x, dn i _ _ e h1, h2⟩
/-- an owned object becomes known: no name may change it from now on -/
theorem SR.freeze {i : Nat} {o : OV} (S : SR ca K E B ρ σ H) (e : ρ[i]? = some (.own o)) : ∃ B' x, Grow B B' ∧ σ[i]? = some (some x) ∧ RepV ca K B' x o.frz ∧ SR ca K E B' (ρ.set i (.val o.frz)) σ H := by
  obtain ⟨AF, s⟩ := S
  obtain ⟨p, h1, h2⟩ := s.own i o e
  have g : Grow B (fun a => if a ∈ AF i then H a else B a) := Grow.sub fun a u q => by
    show (if a ∈ AF i then H a else B a) = some u
    by_cases h : a ∈ AF i
    · rw [if_pos h]; exact s.sub a u q
    · rw [if_neg h]; exact q
  have rp : RepV ca K (fun a => if a ∈ AF i then H a else B a) (.ref p) o.frz := by
    have st : OwnAt ca (fun a => if a ∈ AF i then H a else B a) (fun a => if a ∈ AF i then H a else B a) p (AF i) o := h2.stay g fun a ha => by
      show (if a ∈ AF i then H a else B a) = H a
      rw [if_pos ha]
    exact st.rep (Grow.refl _)
  refine ⟨_, .ref p, g, h1, rp, AF, by simp [s.len], s.grow.trans g, fun a u q => ?_, s.keep, fun a u q => ?_, fun j v q => ?_, fun j w q => ?_, fun j w q a ha => ?_, fun j k w u ej ek hjk => ?_⟩
  · have q' : (if a ∈ AF i then H a else B a) = some u := q
    by_cases h : a ∈ AF i
    · rw [if_pos h] at q'; exact q'
    · rw [if_neg h] at q'; exact s.sub a u q'
  · have q' : (if a ∈ AF i then H a else B a) = some u := q
    by_cases h : a ∈ AF i
    · exact .inr ((s.ofr i o e a h).2.imp id .inl)
    · rw [if_neg h] at q'; exact s.newB a u q'
  · rcases get_set q with ⟨h3, h4, h5⟩ | ⟨h3, h4⟩
    · cases h5; subst h3
      exact ⟨.ref p, h1, rp⟩
    · obtain ⟨x, h5, h6⟩ := s.val j v h4
      exact ⟨x, h5, h6.mono g⟩
  · rcases get_set q with ⟨h3, h4, h5⟩ | ⟨h3, h4⟩
    · cases h5
    · obtain ⟨x, h5, h6⟩ := s.own j w h4
      exact ⟨x, h5, h6.stay g fun _ _ => rfl⟩
  · rcases get_set q with ⟨h3, h4, h5⟩ | ⟨h3, h4⟩
    · cases h5
    · obtain ⟨h5, h6⟩ := s.ofr j w h4 a ha
      refine ⟨?_, h6⟩
      show (if a ∈ AF i then H a else B a) = none
      rw [if_neg (s.dis j i w o h4 e h3 a ha)]; exact h5
  · rcases get_set ej with ⟨h3, h4, h5⟩ | ⟨h3, h4⟩
    · cases h5
    · rcases get_set ek with ⟨k3, k4, k5⟩ | ⟨k3, k4⟩
      · cases k5
      · exact s.dis j k w u h4 k4 hjk
/-- .. the last slot's, which goes -/
theorem SR.freezeLast {o : OV} {x : V} (S : SR ca K E B (ρ ++ [.own o]) (σ ++ [some x]) H) : ∃ B', Grow B B' ∧ RepV ca K B' x o.frz ∧ SR ca K E B' ρ σ H := by
  have l : ρ.length = σ.length := by simpa using S.len
  obtain ⟨B', y, g, h1, h2, h3⟩ := S.freeze (i := ρ.length) (o := o) (by simp)
  have e : y = x := by
    rw [l] at h1
    simp at h1
    exact h1.symm
  subst e
  rw [List.set_append_right _ _ (Nat.le_refl _)] at h3
  simp only [Nat.sub_self, List.set_cons_zero] at h3
  exact ⟨B', g, h2, h3.drop⟩
/-- the last slot's object goes to slot i -/
theorem SR.setO {i : Nat} {o : OV} {x : V} (S : SR ca K E B (ρ ++ [.own o]) (σ ++ [some x]) H) : SR ca K E B (ρ.set i (.own o)) (σ.set i (some x)) H := by
  by_cases hi : i < ρ.length
  · obtain ⟨AF, s⟩ := S
    have l : ρ.length = σ.length := by simpa using s.len
    have last : (ρ ++ [.own o])[ρ.length]? = some (.own o) := by simp
    obtain ⟨p, hp1, hp2⟩ := s.own ρ.length o last
    have ex : x = .ref p := by
      rw [l] at hp1
      simp at hp1
      exact hp1
    subst ex
    have up : ∀ (j : Nat) (z : Slot), ρ[j]? = some z → (ρ ++ [.own o])[j]? = some z := fun j z e => by rw [List.getElem?_append_left (lt_of_get e)]; exact e
    have dn : ∀ (j : Nat) (z : Slot) (w : Option V), ρ[j]? = some z → (σ ++ [some (.ref p)])[j]? = some w → σ[j]? = some w := fun j z w e f => by rw [List.getElem?_append_left (by rw [← l]; exact lt_of_get e)] at f; exact f
    refine ⟨fun j => if j = i then AF ρ.length else AF j, by simp [l], s.grow, s.sub, s.keep, s.newB, fun j v e => ?_, fun j u e => ?_, fun j u e a ha => ?_, fun j k u w ej ek hjk a ha => ?_⟩
    · rcases get_set e with ⟨h1, h2, h3⟩ | ⟨h1, h2⟩
      · cases h3
      · obtain ⟨y, h3, h4⟩ := s.val j v (up j _ h2)
        exact ⟨y, by rw [List.getElem?_set_ne (Ne.symm h1)]; exact dn j _ _ h2 h3, h4⟩
    · rcases get_set e with ⟨h1, h2, h3⟩ | ⟨h1, h2⟩
      · cases h3; subst h1
        exact ⟨p, List.getElem?_set_self (by rw [← l]; exact h2), by rw [if_pos rfl]; exact hp2⟩
      · obtain ⟨y, h3, h4⟩ := s.own j u (up j _ h2)
        exact ⟨y, by rw [List.getElem?_set_ne (Ne.symm h1)]; exact dn j _ _ h2 h3, by rw [if_neg h1]; exact h4⟩
    · rcases get_set e with ⟨h1, h2, h3⟩ | ⟨h1, h2⟩
      · rw [if_pos h1] at ha; exact s.ofr ρ.length o last a ha
      · rw [if_neg h1] at ha; exact s.ofr j u (up j _ h2) a ha
    · rcases get_set ej with ⟨h1, h2, h3⟩ | ⟨h1, h2⟩
      · rw [if_pos h1] at ha
        rcases get_set ek with ⟨k1, k2, k3⟩ | ⟨k1, k2⟩
        · omega
        · rw [if_neg k1]; exact s.dis ρ.length k o w last (up k _ k2) (by have := lt_of_get k2; omega) a ha
      · rw [if_neg h1] at ha
        rcases get_set ek with ⟨k1, k2, k3⟩ | ⟨k1, k2⟩
        · rw [if_pos k1]; exact s.dis j ρ.length u o (up j _ h2) last (by have := lt_of_get h2; omega) a ha
        · rw [if_neg k1]; exact s.dis j k u w (up j _ h2) (up k _ k2) hjk a ha
  · have l : ρ.length = σ.length := by simpa using S.len
    rw [List.set_eq_of_length_le (by omega), List.set_eq_of_length_le (by omega)]
    exact S.drop
/-- the object of an owning slot is changed -/
theorem SR.mut {i : Nat} {o o' : OV} {p : Addr} {u : HO} (S : SR ca K E B ρ σ H) (e : ρ[i]? = some (.own o)) (hs : σ[i]? = some (some (.ref p))) (n : ∀ A, OwnAt ca B H p A o → OwnAt ca B (upd H p u) p A o') : SR ca K E B (ρ.set i (.own o')) σ (upd H p u) := by
  obtain ⟨AF, s⟩ := S
  obtain ⟨q, h1, h2⟩ := s.own i o e
  rw [hs] at h1
  cases h1
  have hp := s.ofr i o e p h2.mem
  refine ⟨AF, by simp [s.len], s.grow, fun a w q => ?_, fun a w q hm => ?_, s.newB, fun j v q => ?_, fun j w q => ?_, fun j w q a ha => ?_, fun j k w v ej ek hjk => ?_⟩
  · have z := s.sub a w q
    rw [upd_ne (ne_of_none q hp.1)]; exact z
  · have z := s.keep a w q hm
    rw [upd_ne ?_]; exact z
    rintro rfl
    rcases hp.2 with y | y
    · rw [q] at y; cases y
    · exact hm y
  · rcases get_set q with ⟨h3, h4, h5⟩ | ⟨h3, h4⟩
    · cases h5
    · exact s.val j v h4
  · rcases get_set q with ⟨h3, h4, h5⟩ | ⟨h3, h4⟩
    · cases h5; subst h3
      exact ⟨p, hs, n _ h2⟩
    · obtain ⟨y, h5, h6⟩ := s.own j w h4
      refine ⟨y, h5, h6.stay (Grow.refl B) fun a ha => upd_ne ?_⟩
      rintro rfl
      exact s.dis j i w o h4 e h3 a ha h2.mem
  · rcases get_set q with ⟨h3, h4, h5⟩ | ⟨h3, h4⟩
    · subst h3; exact s.ofr j o e a ha
    · exact s.ofr j w h4 a ha
  · have f : ∀ (j : Nat) (w : OV), (ρ.set i (.own o'))[j]? = some (.own w) → ∃ w', ρ[j]? = some (.own w') := fun j w q => by
      rcases get_set q with ⟨h3, h4, h5⟩ | ⟨h3, h4⟩
      · subst h3; exact ⟨o, e⟩
      · exact ⟨w, h4⟩
    obtain ⟨w1, e1⟩ := f j w ej
    obtain ⟨w2, e2⟩ := f k v ek
    exact s.dis j k w1 w2 e1 e2 hjk
/-- .. with other places than its own: some new, some written -/
theorem SR.mutG {i : Nat} {o o' : OV} {p : Addr} (S : SR ca K E B ρ σ H) (e : ρ[i]? = some (.own o)) (hs : σ[i]? = some (some (.ref p)))
    (n : ∀ A, OwnAt ca B H p A o → ∃ A', OwnAt ca B H' p A' o' ∧ (∀ a ∈ A', a ∈ A ∨ H a = none) ∧ ∀ a, a ∉ A' → ∀ u, H a = some u → H' a = some u) : SR ca K E B (ρ.set i (.own o')) σ H' := by
  obtain ⟨AF, s⟩ := S
  obtain ⟨q, h1, h2⟩ := s.own i o e
  rw [hs] at h1
  cases h1
  obtain ⟨A', h3, h4, h5⟩ := n _ h2
  have frB : ∀ a ∈ A', B a = none ∧ (E.H a = none ∨ a ∈ E.M) := fun a ha => by
    rcases h4 a ha with z | z
    · exact s.ofr i o e a z
    · refine ⟨?_, ?_⟩
      · cases q : B a with
        | none => rfl
        | some u => rw [s.sub _ _ q] at z; cases z
      · by_cases hm : a ∈ E.M
        · exact .inr hm
        · cases q : E.H a with
          | none => exact .inl rfl
          | some u => rw [s.keep _ _ q hm] at z; cases z
  have oth : ∀ (j : Nat) (w : OV), j ≠ i → ρ[j]? = some (.own w) → ∀ a ∈ AF j, a ∉ A' := fun j w hj ej a ha hb => by
    rcases h4 a hb with z | z
    · exact s.dis j i w o ej e hj a ha z
    · obtain ⟨x, _, y⟩ := s.own j w ej
      obtain ⟨u, hu⟩ := y.there a ha
      rw [hu] at z; cases z
  refine ⟨fun j => if j = i then A' else AF j, by simp [s.len], s.grow, fun a w q => ?_, fun a w q hm => ?_, s.newB, fun j v q => ?_, fun j w q => ?_, fun j w q a ha => ?_, fun j k w v ej ek hjk a ha => ?_⟩
  · refine h5 a (fun hb => ?_) w (s.sub a w q)
    rw [(frB a hb).1] at q; cases q
  · refine h5 a (fun hb => ?_) w (s.keep a w q hm)
    rcases (frB a hb).2 with z | z
    · rw [q] at z; cases z
    · exact hm z
  · rcases get_set q with ⟨h6, h7, h8⟩ | ⟨h6, h7⟩
    · cases h8
    · exact s.val j v h7
  · rcases get_set q with ⟨h6, h7, h8⟩ | ⟨h6, h7⟩
    · cases h8; subst h6
      exact ⟨p, hs, by rw [if_pos rfl]; exact h3⟩
    · obtain ⟨y, h8, h9⟩ := s.own j w h7
      rw [if_neg h6]
      refine ⟨y, h8, h9.stay (Grow.refl B) fun a ha => ?_⟩
      obtain ⟨u, hu⟩ := h9.there a ha
      rw [hu]
      exact h5 a (oth j w h6 h7 a ha) u hu
  · by_cases hj : j = i
    · rw [if_pos hj] at ha; exact frB a ha
    · rw [if_neg hj] at ha
      rcases get_set q with ⟨h6, h7, h8⟩ | ⟨h6, h7⟩
      · exact absurd h6 hj
      · exact s.ofr j w h7 a ha
  · by_cases hj : j = i
    · rw [if_pos hj] at ha
      rw [if_neg (fun z => hjk (hj.trans z.symm))]
      rcases get_set ek with ⟨h6, h7, h8⟩ | ⟨h6, h7⟩
      · exact absurd (hj.trans h6.symm) hjk
      · exact fun hb => oth k v h6 h7 a hb ha
    · rw [if_neg hj] at ha
      rcases get_set ej with ⟨h6, h7, h8⟩ | ⟨h6, h7⟩
      · exact absurd h6 hj
      · by_cases hk : k = i
        · rw [if_pos hk]; exact oth j w hj h7 a ha
        · rw [if_neg hk]
          rcases get_set ek with ⟨k6, k7, k8⟩ | ⟨k6, k7⟩
          · exact absurd k6 hk
          · exact s.dis j k w v h7 k7 hjk a ha
/-- tuples of the heap are known -/
theorem SR.tups {bs : List Addr} (S : SR ca K E B ρ σ H) (hb : ∀ b ∈ bs, ∃ xs, H b = some (.tup xs)) : ∃ B', Grow B B' ∧ (∀ b ∈ bs, B' b = H b) ∧ SR ca K E B' ρ σ H := by
  obtain ⟨AF, s⟩ := S
  have g : Grow B (fun a => if a ∈ bs then H a else B a) := Grow.sub fun a u q => by
    show (if a ∈ bs then H a else B a) = some u
    by_cases h : a ∈ bs
    · rw [if_pos h]; exact s.sub a u q
    · rw [if_neg h]; exact q
  refine ⟨_, g, fun b hm => if_pos hm, AF, s.len, s.grow.trans g, fun a u q => ?_, s.keep, fun a u q => ?_, fun j v q => ?_, fun j w q => ?_, fun j w q a ha => ?_, s.dis⟩
  · have q' : (if a ∈ bs then H a else B a) = some u := q
    by_cases h : a ∈ bs
    · rw [if_pos h] at q'; exact q'
    · rw [if_neg h] at q'; exact s.sub a u q'
  · have q' : (if a ∈ bs then H a else B a) = some u := q
    by_cases h : a ∈ bs
    · rw [if_pos h] at q'
      obtain ⟨xs, hx⟩ := hb a h
      rw [hx] at q'
      exact .inr (.inr (.inr ⟨xs, (Option.some.inj q').symm⟩))
    · rw [if_neg h] at q'; exact s.newB a u q'
  · obtain ⟨x, h1, h2⟩ := s.val j v q
    exact ⟨x, h1, h2.mono g⟩
  · obtain ⟨x, h1, h2⟩ := s.own j w q
    exact ⟨x, h1, h2.stay g fun _ _ => rfl⟩
  · obtain ⟨h1, h2⟩ := s.ofr j w q a ha
    refine ⟨?_, h2⟩
    show (if a ∈ bs then H a else B a) = none
    obtain ⟨x, _, h4⟩ := s.own j w q
    rw [if_neg fun hm => ?_]
    · exact h1
    · obtain ⟨xs, hx⟩ := hb a hm
      exact h4.notTup a ha xs hx

/-! ### a call, a turn: a state of its own within the state -/
/-- all owned addresses -/
def owned (ρ : List Slot) (AF : Nat → List Addr) : List Addr := (List.range ρ.length).flatMap AF
theorem mem_owned {i : Nat} {t : Slot} (e : ρ[i]? = some t) {a : Addr} (h : a ∈ AF i) : a ∈ owned ρ AF := List.mem_flatMap.mpr ⟨i, List.mem_range.mpr (lt_of_get e), h⟩
theorem SRa.after (s : SRa ca K E AF B ρ σ H) {ρ' : List Slot} {σ' : L2.St} (c : SR ca K ⟨H, B, []⟩ B' ρ' σ' H') : SRa ca K E AF B' ρ σ H' ∧ Grow B B' := by
  obtain ⟨AF', c⟩ := c
  have eh : ∀ a, H a = none → E.H a = none ∨ a ∈ E.M := fun a n => by
    by_cases hm : a ∈ E.M
    · exact .inr hm
    · cases q : E.H a with
      | none => exact .inl rfl
      | some o => rw [s.keep a o q hm] at n; cases n
  refine ⟨⟨s.len, s.grow.trans c.grow, c.sub, fun a o e hm => c.keep a o (s.keep a o e hm) (by simp), fun a o e => ?_, fun i v e => ?_, fun i o e => ?_, fun i o e a ha => ?_, s.dis⟩, c.grow⟩
  · rcases c.newB a o e with h | h | h | h
    · exact s.newB a o h
    · exact .inr ((eh a h).imp id .inl)
    · simp at h
    · exact .inr (.inr (.inr h))
  · obtain ⟨x, h1, h2⟩ := s.val i v e
    exact ⟨x, h1, h2.mono c.grow⟩
  · obtain ⟨x, h1, h2⟩ := s.own i o e
    refine ⟨x, h1, h2.stay c.grow fun a ha => ?_⟩
    obtain ⟨u, hu⟩ := h2.there a ha
    rw [hu]
    exact c.keep a u hu (by simp)
  · obtain ⟨h1, h2⟩ := s.ofr i o e a ha
    refine ⟨?_, h2⟩
    obtain ⟨x, _, h4⟩ := s.own i o e
    obtain ⟨u, hu⟩ := h4.there a ha
    cases q : B' a with
    | none => rfl
    | some w =>
      rcases c.newB a w q with h | h | h | ⟨xs, h⟩
      · cases (h1.symm.trans h)
      · cases (hu.symm.trans h)
      · simp at h
      · subst h
        have z := c.sub a _ q
        rw [c.keep a u hu (by simp)] at z
        cases z
        exact (h4.notTup a ha _ hu).elim
theorem SR.after (S : SR ca K E B ρ σ H) {ρ' : List Slot} {σ' : L2.St} (c : SR ca K ⟨H, B, []⟩ B' ρ' σ' H') : SR ca K E B' ρ σ H' ∧ Grow B B' := by
  obtain ⟨AF, s⟩ := S
  obtain ⟨h1, h2⟩ := s.after c
  exact ⟨⟨AF, h1⟩, h2⟩
/-- .. and what it hands back is ours -/
theorem SR.afterO (S : SR ca K E B ρ σ H) {o : OV} {x : V} (c : SR ca K ⟨H, B, []⟩ B' [.own o] [some x] H') : SR ca K E B' (ρ ++ [.own o]) (σ ++ [some x]) H' ∧ Grow B B' := by
  obtain ⟨AF, s⟩ := S
  obtain ⟨s', g⟩ := s.after c
  refine ⟨?_, g⟩
  obtain ⟨AF', c⟩ := c
  obtain ⟨p, h1, h2⟩ := c.own 0 o rfl
  have ex : x = .ref p := by simpa using h1
  subst ex
  have fr : ∀ a ∈ AF' 0, H a = none := fun a ha => by
    rcases (c.ofr 0 o rfl a ha).2 with h | h
    · exact h
    · simp at h
  have eh : ∀ a, H a = none → E.H a = none ∨ a ∈ E.M := fun a n => by
    by_cases hm : a ∈ E.M
    · exact .inr hm
    · cases q : E.H a with
      | none => exact .inl rfl
      | some o => rw [s.keep a o q hm] at n; cases n
  have old : ∀ (i : Nat) (o' : OV), ρ[i]? = some (.own o') → ∀ a ∈ AF i, a ∉ AF' 0 := fun i o' e a ha hb => by
    obtain ⟨q, _, h4⟩ := s.own i o' e
    obtain ⟨w, hw⟩ := h4.there a ha
    rw [fr a hb] at hw; cases hw
  refine ⟨fun i => if i = ρ.length then AF' 0 else AF i, by simp [s.len], s'.grow, s'.sub, s'.keep, s'.newB, fun i v e => ?_, fun i w e => ?_, fun i w e a ha => ?_, fun i j w w' ei ej hij a ha => ?_⟩
  · rcases get_app e with ⟨hi, e'⟩ | ⟨_, z⟩
    · obtain ⟨y, q1, q2⟩ := s'.val i v e'
      exact ⟨y, by rw [List.getElem?_append_left (by rw [← s.len]; exact hi)]; exact q1, q2⟩
    · cases z
  · rcases get_app e with ⟨hi, e'⟩ | ⟨hi, z⟩
    · obtain ⟨q, q1, q2⟩ := s'.own i w e'
      exact ⟨q, by rw [List.getElem?_append_left (by rw [← s.len]; exact hi)]; exact q1, by rw [if_neg (by omega)]; exact q2⟩
    · cases z
      refine ⟨p, ?_, by rw [if_pos hi]; exact h2⟩
      rw [List.getElem?_append_right (by rw [← s.len]; omega)]
      rw [hi, s.len]; simp
  · rcases get_app e with ⟨hi, e'⟩ | ⟨hi, z⟩
    · rw [if_neg (by omega)] at ha; exact s'.ofr i w e' a ha
    · rw [if_pos hi] at ha; exact ⟨(c.ofr 0 o rfl a ha).1, eh a (fr a ha)⟩
  · rcases get_app ei with ⟨hi, ei'⟩ | ⟨hi, zi⟩
    · rw [if_neg (by omega)] at ha
      rcases get_app ej with ⟨hj, ej'⟩ | ⟨hj, zj⟩
      · rw [if_neg (by omega)]; exact s.dis i j w w' ei' ej' hij a ha
      · rw [if_pos hj]; exact old i w ei' a ha
    · rw [if_pos hi] at ha
      rcases get_app ej with ⟨hj, ej'⟩ | ⟨hj, zj⟩
      · rw [if_neg (by omega)]; exact fun z => old j w' ej' a z ha
      · omega
/-- a state of its own begins here, that may change what is owned here -/
theorem SRa.enter (s : SRa ca K E AF B ρ σ H) : SRa ca K ⟨H, B, owned ρ AF⟩ AF B ρ σ H :=
  ⟨s.len, Grow.refl B, s.sub, fun a o e _ => e, fun a o e => .inl e, s.val, s.own, fun i o e a ha => ⟨(s.ofr i o e a ha).1, .inr (mem_owned e ha)⟩, s.dis⟩
/-- .. and ends -/
theorem SR.leave (s : SRa ca K E AF B ρ σ H) (hM : ∀ a ∈ owned ρ AF, E.H a = none ∨ a ∈ E.M) {ρ' : List Slot} {σ' : L2.St} (c : SR ca K ⟨H, B, owned ρ AF⟩ B' ρ' σ' H') : SR ca K E B' ρ' σ' H' ∧ Grow B B' := by
  obtain ⟨AF', c⟩ := c
  have eh : ∀ a, H a = none → E.H a = none ∨ a ∈ E.M := fun a n => by
    by_cases hm : a ∈ E.M
    · exact .inr hm
    · cases q : E.H a with
      | none => exact .inl rfl
      | some o => rw [s.keep a o q hm] at n; cases n
  refine ⟨⟨AF', c.len, s.grow.trans c.grow, c.sub, fun a o e hm => ?_, fun a o e => ?_, c.val, c.own, fun i o e a ha => ?_, c.dis⟩, c.grow⟩
  · refine c.keep a o (s.keep a o e hm) fun hb => ?_
    rcases hM a hb with z | z
    · rw [e] at z; cases z
    · exact hm z
  · rcases c.newB a o e with h | h | h | h
    · exact s.newB a o h
    · exact .inr ((eh a h).imp id .inl)
    · exact .inr ((hM a h).imp id .inl)
    · exact .inr (.inr (.inr h))
  · obtain ⟨h1, h2⟩ := c.ofr i o e a ha
    refine ⟨h1, ?_⟩
    rcases h2 with h | h
    · exact eh a h
    · exact hM a h
theorem SRa.ownedOk (s : SRa ca K E AF B ρ σ H) (hc : ∀ (i : Nat) (t : Slot), ρ[i]? = some t → (∀ o, t ≠ .own o) → AF i = []) : ∀ a ∈ owned ρ AF, E.H a = none ∨ a ∈ E.M := fun a ha => by
  obtain ⟨i, hi, h⟩ := List.mem_flatMap.mp ha
  have hl : i < ρ.length := List.mem_range.mp hi
  cases q : ρ[i] with
  | un => rw [hc i .un (by rw [List.getElem?_eq_getElem hl, q]) (fun o z => by cases z)] at h; simp at h
  | val v => rw [hc i (.val v) (by rw [List.getElem?_eq_getElem hl, q]) (fun o z => by cases z)] at h; simp at h
  | own o => exact (s.ofr i o (by rw [List.getElem?_eq_getElem hl, q]) a h).2
/-- the addresses of slots that own nothing are none -/
theorem SR.neat (S : SR ca K E B ρ σ H) : ∃ AF, SRa ca K E AF B ρ σ H ∧ ∀ (i : Nat) (t : Slot), ρ[i]? = some t → (∀ o, t ≠ .own o) → AF i = [] := by
  obtain ⟨AF, s⟩ := S
  refine ⟨fun i => match ρ[i]? with | some (.own _) => AF i | _ => [], ⟨s.len, s.grow, s.sub, s.keep, s.newB, s.val, fun i o e => ?_, fun i o e a ha => ?_, fun i j o u ei ej hij a ha => ?_⟩, fun i t e n => ?_⟩
  · simp only [e]; exact s.own i o e
  · simp only [e] at ha; exact s.ofr i o e a ha
  · simp only [ei] at ha; simp only [ej]; exact s.dis i j o u ei ej hij a ha
  · simp only [e]
    cases t with
    | un => rfl
    | val v => rfl
    | own o => exact absurd rfl (n o)
/-- a dict (or list) that is known is locked for a while -/
theorem SR.lock {d : Addr} {u : HO} (S : SR ca K E B ρ σ H) (hd : B d = some u) (hu : (∃ ws, u = .dK ws) ∨ ∃ ws, u = .dT ws) : ∃ M, d ∉ M ∧ ∀ od, SR ca K ⟨upd H d (.frz od u), upd B d (.frz od u), M⟩ (upd B d (.frz od u)) ρ σ (upd H d (.frz od u)) ∧ Grow B (upd B d (.frz od u)) ∧
    ∀ {B' H' : Hp} {ρ' : List Slot} {σ' : L2.St}, SR ca K ⟨upd H d (.frz od u), upd B d (.frz od u), M⟩ B' ρ' σ' H' → H' d = some (.frz od u) ∧ SR ca K E (upd B' d u) ρ' σ' (upd H' d u) ∧ Grow B (upd B' d u) ∧ Grow B' (upd B' d u) := by
  obtain ⟨AF, s, nt⟩ := S.neat
  have hM := s.ownedOk nt
  have dM : d ∉ owned ρ AF := fun hm => by
    obtain ⟨i, hi, h⟩ := List.mem_flatMap.mp hm
    have hl : i < ρ.length := List.mem_range.mp hi
    cases q : ρ[i] with
    | un => rw [nt i .un (by rw [List.getElem?_eq_getElem hl, q]) (fun o z => by cases z)] at h; simp at h
    | val v => rw [nt i (.val v) (by rw [List.getElem?_eq_getElem hl, q]) (fun o z => by cases z)] at h; simp at h
    | own o => rw [(s.ofr i o (by rw [List.getElem?_eq_getElem hl, q]) d h).1] at hd; cases hd
  have nl : ∀ xs, u ≠ .lst xs := by rintro xs rfl; rcases hu with ⟨_, h⟩ | ⟨_, h⟩ <;> cases h
  have ntu : ∀ xs, u ≠ .tup xs := by rintro xs rfl; rcases hu with ⟨_, h⟩ | ⟨_, h⟩ <;> cases h
  have ni : ∀ C dx fs, u ≠ .ins C dx fs := by rintro C dx fs rfl; rcases hu with ⟨_, h⟩ | ⟨_, h⟩ <;> cases h
  have nf : ∀ o w, u ≠ .frz o w := by rintro o w rfl; rcases hu with ⟨_, h⟩ | ⟨_, h⟩ <;> cases h
  refine ⟨owned ρ AF, dM, fun od => ?_⟩
  have g1 : Grow B (upd B d (.frz od u)) := by
    refine ⟨fun a xs h => ?_, fun a xs h => ?_, fun a C dx fs h => ?_, fun a w nw h => ?_⟩
    · rw [upd_ne]; exact h
      rintro rfl; rw [hd] at h; exact nl xs (Option.some.inj h)
    · rw [upd_ne]; exact h
      rintro rfl; rw [hd] at h; exact ntu xs (Option.some.inj h)
    · rw [upd_ne]; exact h
      rintro rfl; rw [hd] at h; exact ni _ _ _ (Option.some.inj h)
    · by_cases q : a = d
      · subst q
        rcases h with h | ⟨o, h⟩
        · rw [hd] at h; cases h; exact .inr ⟨od, upd_same⟩
        · rw [hd] at h; exact absurd (Option.some.inj h) (nf _ _)
      · rcases h with h | ⟨o, h⟩
        · exact .inl (by rw [upd_ne q]; exact h)
        · exact .inr ⟨o, by rw [upd_ne q]; exact h⟩
  have hHd : H d = some u := s.sub d u hd
  have ne : ∀ (i : Nat) (o : OV), ρ[i]? = some (.own o) → ∀ a ∈ AF i, a ≠ d := fun i o e a ha => by
    rintro rfl
    rw [(s.ofr i o e a ha).1] at hd; cases hd
  refine ⟨⟨AF, s.len, Grow.refl _, fun a o e => ?_, fun a o e _ => e, fun a o e => .inl e, fun i v e => ?_, fun i o e => ?_, fun i o e a ha => ⟨?_, .inr (mem_owned e ha)⟩, s.dis⟩, g1, fun {B' H' ρ' σ'} c => ?_⟩
  · by_cases q : a = d
    · subst q; rw [upd_same] at e ⊢; exact e
    · rw [upd_ne q] at e ⊢; exact s.sub a o e
  · obtain ⟨x, h1, h2⟩ := s.val i v e
    exact ⟨x, h1, h2.mono g1⟩
  · obtain ⟨x, h1, h2⟩ := s.own i o e
    exact ⟨x, h1, h2.stay g1 fun a ha => upd_ne (ne i o e a ha)⟩
  · show upd B d (.frz od u) a = none
    rw [upd_ne (ne i o e a ha)]; exact (s.ofr i o e a ha).1
  · obtain ⟨AF', c⟩ := c
    have h1 : H' d = some (.frz od u) := c.keep d _ (show upd H d (.frz od u) d = _ from upd_same) dM
    have eh : ∀ a, upd H d (.frz od u) a = none → E.H a = none ∨ a ∈ E.M := fun a n => by
      have n' : H a = none := by
        by_cases q : a = d
        · subst q; rw [upd_same] at n; cases n
        · rw [upd_ne q] at n; exact n
      by_cases hm : a ∈ E.M
      · exact .inr hm
      · cases q : E.H a with
        | none => exact .inl rfl
        | some o => rw [s.keep a o q hm] at n'; cases n'
    have hb : ∀ a o, B' a = some o → a = d → o = .frz od u := fun a o e z => by
      subst z
      have := c.sub a o e
      rw [h1] at this
      exact (Option.some.inj this).symm
    have g2 : Grow B' (upd B' d u) := by
      refine ⟨fun a xs h => ?_, fun a xs h => ?_, fun a C dx fs h => ?_, fun a w nw h => ?_⟩
      · rw [upd_ne]; exact h
        intro z; cases hb _ _ h z
      · rw [upd_ne]; exact h
        intro z; cases hb _ _ h z
      · rw [upd_ne]; exact h
        intro z; cases hb _ _ h z
      · by_cases q : a = d
        · subst q
          rcases h with h | ⟨o, h⟩
          · exact absurd (hb _ _ h rfl) (nw _ _)
          · cases hb _ _ h rfl; exact .inl upd_same
        · rcases h with h | ⟨o, h⟩
          · exact .inl (by rw [upd_ne q]; exact h)
          · exact .inr ⟨o, by rw [upd_ne q]; exact h⟩
    have dA : ∀ (i : Nat) (o : OV), ρ'[i]? = some (.own o) → ∀ a ∈ AF' i, a ≠ d := fun i o e a ha z => by
      subst z
      rcases (c.ofr i o e _ ha).2 with q | q
      · have q' : upd H a (.frz od u) a = none := q
        rw [upd_same] at q'; cases q'
      · exact dM q
    refine ⟨h1, ⟨AF', c.len, ?_, fun a o e => ?_, fun a o e hm => ?_, fun a o e => ?_, fun i v e => ?_, fun i o e => ?_, fun i o e a ha => ?_, c.dis⟩, (g1.trans c.grow).trans g2, g2⟩
    · exact s.grow.trans ((g1.trans c.grow).trans g2)
    · by_cases q : a = d
      · subst q; rw [upd_same] at e ⊢; exact e
      · rw [upd_ne q] at e ⊢; exact c.sub a o e
    · by_cases q : a = d
      · subst q
        rw [upd_same]
        exact hHd.symm.trans (s.keep a o e hm)
      · rw [upd_ne q]
        refine c.keep a o ?_ fun hb' => ?_
        · show upd H d (.frz od u) a = some o
          rw [upd_ne q]; exact s.keep a o e hm
        · rcases hM a hb' with z | z
          · rw [e] at z; cases z
          · exact hm z
    · by_cases q : a = d
      · subst q
        rw [upd_same] at e; cases e
        exact s.newB a u hd
      · rw [upd_ne q] at e
        rcases c.newB a o e with h | h | h | h
        · have h' : upd B d (.frz od u) a = some o := h
          rw [upd_ne q] at h'
          exact s.newB a o h'
        · exact .inr ((eh a h).imp id .inl)
        · exact .inr ((hM a h).imp id .inl)
        · exact .inr (.inr (.inr h))
    · obtain ⟨x, h3, h4⟩ := c.val i v e
      exact ⟨x, h3, h4.mono g2⟩
    · obtain ⟨x, h3, h4⟩ := c.own i o e
      exact ⟨x, h3, h4.stay g2 fun a ha => upd_ne (dA i o e a ha)⟩
    · obtain ⟨h3, h4⟩ := c.ofr i o e a ha
      refine ⟨by rw [upd_ne (dA i o e a ha)]; exact h3, ?_⟩
      rcases h4 with h | h
      · exact eh a h
      · exact hM a h
/-- a turn within: what it begins with, how it ends -/
theorem SR.turn (S : SR ca K E B ρ σ H) : ∃ M, SR ca K ⟨H, B, M⟩ B ρ σ H ∧ ∀ {B' H' : Hp} {ρ' : List Slot} {σ' : L2.St}, SR ca K ⟨H, B, M⟩ B' ρ' σ' H' → SR ca K E B' ρ' σ' H' ∧ Grow B B' := by
  obtain ⟨AF, s, n⟩ := S.neat
  exact ⟨owned ρ AF, ⟨AF, s.enter⟩, fun c => SR.leave s (s.ownedOk n) c⟩
end
end Pu
/-! The pure layer, part 3: outcomes, judgements, expressions. -/
namespace Pu
open PySem PySem.Spec PyProof.Rows L2
/-- an outcome: a result, an error of a class of the program with its fields, or nothing said -/
inductive Out (α : Type) where
  | ok (a : α)
  | err (c : Str) (fs : List (Str × PyData))
  | no
def Out.bind {α β : Type} : Out α → (α → Out β) → Out β
  | .ok a, f => f a
  | .err c fs, _ => .err c fs
  | .no, _ => .no
instance : Monad Out where
  pure := .ok
  bind := Out.bind
theorem ok_bind {α β : Type} (a : α) (f : α → Out β) : (Out.ok a >>= f) = f a := rfl
theorem err_bind {α β : Type} (c : Str) (fs : List (Str × PyData)) (f : α → Out β) : (Out.err c fs >>= f) = Out.err c fs := rfl
theorem no_bind {α β : Type} (f : α → Out β) : ((Out.no : Out α) >>= f) = Out.no := rfl
theorem pure_ok {α : Type} (a : α) : (pure a : Out α) = .ok a := rfl
def Ans {α : Type} (o : Out α) (P : α → Prop) (Q : Str → List (Str × PyData) → Prop) : Prop := match o with
  | .ok a => P a
  | .err c fs => Q c fs
  | .no => False
theorem Ans.bind {α β : Type} {o : Out α} {f : α → Out β} {P : β → Prop} {Q : Str → List (Str × PyData) → Prop} (h : Ans (o >>= f) P Q) : Ans o (fun a => Ans (f a) P Q) Q := by
  cases o <;> exact h
theorem Ans.imp {α : Type} {o : Out α} {P P' : α → Prop} {Q Q' : Str → List (Str × PyData) → Prop} (h : Ans o P Q) (p : ∀ a, P a → P' a) (q : ∀ c fs, Q c fs → Q' c fs) : Ans o P' Q' := by
  cases o with
  | ok a => exact p a h
  | err c fs => exact q c fs h
  | no => exact h

abbrev FE := List Slot → Out PV
abbrev FO := List Slot → Out OV
abbrev FT := List Slot → Out Bool
abbrev FA := List Slot → Out (List PV)
/-- what is wished of an error -/
def XW (ca : Str → Addr) (K : PySem.W.Frag) (W : WX) (E : Ent) (ρ : List Slot) (σ : L2.St) (c : Str) (fs : List (Str × PyData)) : Prop :=
  ∀ dx ws B' H', SR ca K E B' ρ σ H' → H' dx = some (.xd ws) → KD B' ws fs → W (.ref (ca c)) (some dx) σ H'
def OkB (ca : Str → Addr) (K : PySem.W.Frag) (E : Ent) (B : Hp) (ρ : List Slot) (σ : L2.St) (Q : VK) (v : PV) : Prop := ∀ x B' H', SR ca K E B' ρ σ H' → Grow B B' → BV ca K B' ρ σ x v → Q x H'
def OkV (ca : Str → Addr) (K : PySem.W.Frag) (E : Ent) (B : Hp) (ρ : List Slot) (σ : L2.St) (Q : VK) (v : PV) : Prop := ∀ x B' H', SR ca K E B' ρ σ H' → Grow B B' → RepV ca K B' x v → Q x H'
def OkO (ca : Str → Addr) (K : PySem.W.Frag) (E : Ent) (B : Hp) (ρ : List Slot) (σ : L2.St) (Q : VK) (o : OV) : Prop := ∀ x B' H', SR ca K E B' (ρ ++ [.own o]) (σ ++ [some x]) H' → Grow B B' → Q x H'
def OkT (ca : Str → Addr) (K : PySem.W.Frag) (E : Ent) (B : Hp) (ρ : List Slot) (σ : L2.St) (Q : Bool → Hp → Prop) (b : Bool) : Prop := ∀ B' H', SR ca K E B' ρ σ H' → Grow B B' → Q b H'
def OkAB (ca : Str → Addr) (K : PySem.W.Frag) (E : Ent) (B : Hp) (ρ : List Slot) (σ : L2.St) (Q : List V → Hp → Prop) (vs : List PV) : Prop := ∀ xs B' H', SR ca K E B' ρ σ H' → Grow B B' → Paired (BV ca K B' ρ σ) xs vs → Q xs H'
def OkAV (ca : Str → Addr) (K : PySem.W.Frag) (E : Ent) (B : Hp) (ρ : List Slot) (σ : L2.St) (Q : List V → Hp → Prop) (vs : List PV) : Prop := ∀ xs B' H', SR ca K E B' ρ σ H' → Grow B B' → Paired (RepV ca K B') xs vs → Q xs H'
/-- readings: a value borrowed, known, owned; a test; arguments borrowed, known -/
def tB (ca : Str → Addr) (K : PySem.W.Frag) (W : WX) (f : FE) : TE := fun σ H Q => ∃ E B ρ, SR ca K E B ρ σ H ∧ Ans (f ρ) (OkB ca K E B ρ σ Q) (XW ca K W E ρ σ)
def tV (ca : Str → Addr) (K : PySem.W.Frag) (W : WX) (f : FE) : TE := fun σ H Q => ∃ E B ρ, SR ca K E B ρ σ H ∧ Ans (f ρ) (OkV ca K E B ρ σ Q) (XW ca K W E ρ σ)
def tO (ca : Str → Addr) (K : PySem.W.Frag) (W : WX) (f : FO) : TE := fun σ H Q => ∃ E B ρ, SR ca K E B ρ σ H ∧ Ans (f ρ) (OkO ca K E B ρ σ Q) (XW ca K W E ρ σ)
def tT (ca : Str → Addr) (K : PySem.W.Frag) (W : WX) (f : FT) : TT := fun σ H Q => ∃ E B ρ, SR ca K E B ρ σ H ∧ Ans (f ρ) (OkT ca K E B ρ σ Q) (XW ca K W E ρ σ)
def tAB (ca : Str → Addr) (K : PySem.W.Frag) (W : WX) (f : FA) : TA := fun σ H Q => ∃ E B ρ, SR ca K E B ρ σ H ∧ Ans (f ρ) (OkAB ca K E B ρ σ Q) (XW ca K W E ρ σ)
def tAV (ca : Str → Addr) (K : PySem.W.Frag) (W : WX) (f : FA) : TA := fun σ H Q => ∃ E B ρ, SR ca K E B ρ σ H ∧ Ans (f ρ) (OkAV ca K E B ρ σ Q) (XW ca K W E ρ σ)
abbrev PBo (X : Cx) (ca : Str → Addr) (W : WX) (e : Expr) (f : FE) : Prop := PE X e (tB ca X.K W f)
abbrev PVa (X : Cx) (ca : Str → Addr) (W : WX) (e : Expr) (f : FE) : Prop := PE X e (tV ca X.K W f)
abbrev POw (X : Cx) (ca : Str → Addr) (W : WX) (e : Expr) (f : FO) : Prop := PE X e (tO ca X.K W f)
abbrev PTe (X : Cx) (ca : Str → Addr) (W : WX) (e : Expr) (f : FT) : Prop := PT X e (tT ca X.K W f)
abbrev PWe (X : Cx) (ca : Str → Addr) (W : WX) (e : Expr) (f : FT) : Prop := PW X e (tT ca X.K W f)
abbrev PAB (X : Cx) (ca : Str → Addr) (W : WX) (es : List Expr) (f : FA) : Prop := PA X es (tAB ca X.K W f)
abbrev PAV (X : Cx) (ca : Str → Addr) (W : WX) (es : List Expr) (f : FA) : Prop := PA X es (tAV ca X.K W f)
theorem pe_imp {X : Cx} {e : Expr} {t t' : TE} (h : PE X e t) (i : ∀ σ H Q, t' σ H Q → t σ H Q) : PE X e t' := ⟨fun pins s σ H Q I q => h.run pins s σ H Q I (i σ H Q q)⟩
theorem pt_imp {X : Cx} {e : Expr} {t t' : TT} (h : PT X e t) (i : ∀ σ H Q, t' σ H Q → t σ H Q) : PT X e t' := ⟨fun pins s σ H Q I q => h.run pins s σ H Q I (i σ H Q q)⟩
theorem pw_imp {X : Cx} {e : Expr} {t t' : TT} (h : PW X e t) (i : ∀ σ H Q, t' σ H Q → t σ H Q) : PW X e t' := ⟨fun w pins s σ H Q I q => h.run w pins s σ H Q I (i σ H Q q)⟩
theorem pa_imp {X : Cx} {e : List Expr} {t t' : TA} (h : PA X e t) (i : ∀ σ H Q, t' σ H Q → t σ H Q) : PA X e t' := ⟨fun p pins s σ H Q I q => h.run p pins s σ H Q I (i σ H Q q)⟩
theorem ps_imp {X : Cx} {e : Stmt} {t t' : TS} (h : PS X e t) (i : ∀ D σ H, t' D σ H → t D σ H) : PS X e t' := ⟨fun pins s σ H D I q => h.run pins s σ H D I (i D σ H q)⟩
theorem pss_imp {X : Cx} {e : List Stmt} {t t' : TS} (h : PSs X e t) (i : ∀ D σ H, t' D σ H → t D σ H) : PSs X e t' := ⟨fun pins s σ H D I q => h.run pins s σ H D I (i D σ H q)⟩

section
variable {X : Cx} {ca : Str → Addr} {W : WX} {e a b c : Expr} {es : List Expr} {f fa fb fc : FE} {fo : FO} {ft gt : FT} {fs : FA} {pos : Pos}
/-! ### conversions -/
theorem bv (h : PVa X ca W e f) : PBo X ca W e f := pe_imp h fun σ H Q ⟨E, B, ρ, S, q⟩ => ⟨E, B, ρ, S, q.imp (fun v hv x B' H' S' g r => hv x B' H' S' g (.inl r)) fun _ _ z => z⟩
def fz (fo : FO) : FE := fun ρ => fo ρ >>= fun o => .ok o.frz
theorem vo (h : POw X ca W e fo) : PVa X ca W e (fz fo) := pe_imp h fun σ H Q ⟨E, B, ρ, S, q⟩ => ⟨E, B, ρ, S, (Ans.bind q).imp (fun o hv x B' H' S' g => by
  obtain ⟨B2, g2, r, S2⟩ := S'.freezeLast
  exact (show OkV ca X.K E B ρ σ Q o.frz from hv) x B2 H' S2 (g.trans g2) r) fun _ _ z => z⟩
abbrev bo (h : POw X ca W e fo) : PBo X ca W e (fz fo) := bv (vo h)

/-! ### names and constants -/
def eVar (i : Nat) : FE := fun ρ => match ρ[i]? with
  | some (.val v) => .ok v
  | some (.own o) => .ok o.bor
  | _ => .no
/-- a name that owns nothing -/
def eVal (i : Nat) : FE := fun ρ => match ρ[i]? with
  | some (.val v) => .ok v
  | _ => .no
theorem b_var (i : Nat) {x : Str} (hN : X.N[i]? = some x := by rfl) (hv : Vis X.env.scope x := by first | exact Or.inl rfl | exact Or.inr (Or.inl rfl) | exact Or.inr (Or.inr rfl)) (hd : (x == ("__debug__" : Str)) = false := by decide)
    (hcd : (x == ("__classdict__" : Str)) = false := by decide) : PBo X ca W (.Name x pos) (eVar i) := pe_imp (pe_var hN hv hd hcd) fun σ H Q ⟨E, B, ρ, S, q⟩ => by
  unfold eVar at q
  cases e : ρ[i]? with
  | none => rw [e] at q; exact q.elim
  | some s =>
    rw [e] at q
    cases s with
    | un => exact q.elim
    | val v =>
      obtain ⟨x, h1, h2⟩ := S.val e
      exact ⟨x, h1, (show OkB ca X.K E B ρ σ Q v from q) x B H S (Grow.refl B) (.inl h2)⟩
    | own o =>
      obtain ⟨x, h1, h2⟩ := S.bown e
      exact ⟨x, h1, (show OkB ca X.K E B ρ σ Q o.bor from q) x B H S (Grow.refl B) h2⟩
theorem v_var (i : Nat) {x : Str} (hN : X.N[i]? = some x := by rfl) (hv : Vis X.env.scope x := by first | exact Or.inl rfl | exact Or.inr (Or.inl rfl) | exact Or.inr (Or.inr rfl)) (hd : (x == ("__debug__" : Str)) = false := by decide)
    (hcd : (x == ("__classdict__" : Str)) = false := by decide) : PVa X ca W (.Name x pos) (eVal i) := pe_imp (pe_var hN hv hd hcd) fun σ H Q ⟨E, B, ρ, S, q⟩ => by
  unfold eVal at q
  cases e : ρ[i]? with
  | none => rw [e] at q; exact q.elim
  | some s =>
    rw [e] at q
    cases s with
    | un => exact q.elim
    | own o => exact q.elim
    | val v =>
      obtain ⟨x, h1, h2⟩ := S.val e
      exact ⟨x, h1, (show OkV ca X.K E B ρ σ Q v from q) x B H S (Grow.refl B) h2⟩
def eC (d : PyData) : FE := fun _ => .ok (.d d)
theorem v_const {v : V} {d : PyData} (h : PE X e (tC v)) (r : ∀ B, Dq B v d) : PVa X ca W e (eC d) := pe_imp h fun σ H Q ⟨E, B, ρ, S, q⟩ => (show OkV ca X.K E B ρ σ Q (.d d) from q) v B H S (Grow.refl B) (r B)
theorem v_int {i : Int} {j} : PVa X ca W (.Constant (.int i) j pos) (eC (.int i)) := v_const pe_int fun _ => .int _
theorem v_bl {b : Bool} {j} : PVa X ca W (.Constant (.bool b) j pos) (eC (.bool b)) := v_const pe_bl fun _ => .bl _
theorem v_non {j} : PVa X ca W (.Constant .none j pos) (eC .none) := v_const pe_non fun _ => .non
theorem v_str {x : Str} {j} (k : PyData.strOk x = true := by decide) : PVa X ca W (.Constant (.str x) j pos) (eC (.str x)) := v_const pe_str fun _ => .str _ k
/-- a module's constant -/
theorem v_glob {x : Str} {v : V} {u : Value} {d : PyData} (hg : Gl X x) (hm : X.mg x = some u) (r : RelV v u) (rd : ∀ B, Dq B v d) (hd : (x == ("__debug__" : Str)) = false := by decide) : PVa X ca W (.Name x pos) (eC d) := v_const (pe_glob hg hm r hd) rd
/-- a def or a class as a value -/
def eFn (n : Str) : FE := fun _ => .ok (.fn n)
theorem v_fn {x : Str} (hg : Gl X x) (hm : X.mg x = some (.ref (ca x))) (hd : (x == ("__debug__" : Str)) = false := by decide) : PVa X ca W (.Name x pos) (eFn x) :=
  pe_imp (pe_glob (v := .ref (ca x)) hg hm rfl hd) fun σ H Q ⟨E, B, ρ, S, q⟩ => (show OkV ca X.K E B ρ σ Q (.fn x) from q) _ B H S (Grow.refl B) rfl
/-- a tuple of the module -/
def eKt (ds : List PyData) : FE := fun _ => .ok (.kt ds)
theorem v_kt {x : Str} {p : Addr} {xs : List V} {ds : List PyData} (hg : Gl X x) (hm : X.mg x = some (.ref p)) (ht : ∀ B, SqT X.K B p xs) (hq : ∀ B, Dqs B xs ds) (hd : (x == ("__debug__" : Str)) = false := by decide) : PVa X ca W (.Name x pos) (eKt ds) :=
  pe_imp (pe_glob (v := .ref p) hg hm rfl hd) fun σ H Q ⟨E, B, ρ, S, q⟩ => (show OkV ca X.K E B ρ σ Q (.kt ds) from q) _ B H S (Grow.refl B) ⟨p, xs, rfl, ht B, hq B⟩

/-! ### arguments -/
def aNil : FA := fun _ => .ok []
def aCons (f : FE) (r : FA) : FA := fun ρ => f ρ >>= fun v => r ρ >>= fun vs => .ok (v :: vs)
theorem ab_nil : PAB X ca W [] aNil := pa_imp pa_nil fun σ H Q ⟨E, B, ρ, S, q⟩ => (show OkAB ca X.K E B ρ σ Q [] from q) [] B H S (Grow.refl B) .nil
theorem av_nil : PAV X ca W [] aNil := pa_imp pa_nil fun σ H Q ⟨E, B, ρ, S, q⟩ => (show OkAV ca X.K E B ρ σ Q [] from q) [] B H S (Grow.refl B) .nil
theorem ab_cons (h : PBo X ca W e f) (r : PAB X ca W es fs) (hs : starEach (e :: es) X.env = (false, eval e X.env) :: starEach es X.env := by rfl) : PAB X ca W (e :: es) (aCons f fs) :=
  pa_imp (pa_cons h r hs) fun σ H Q ⟨E, B, ρ, S, q⟩ => ⟨E, B, ρ, S, (Ans.bind q).imp (fun v hv x B1 H1 S1 g1 r1 => ⟨E, B1, ρ, S1, (Ans.bind hv).imp (fun vs hvs xs B2 H2 S2 g2 r2 =>
    (show OkAB ca X.K E B ρ σ Q (v :: vs) from hvs) (x :: xs) B2 H2 S2 (g1.trans g2) (.cons (r1.mono g2) r2)) fun _ _ z => z⟩) fun _ _ z => z⟩
theorem av_cons (h : PVa X ca W e f) (r : PAV X ca W es fs) (hs : starEach (e :: es) X.env = (false, eval e X.env) :: starEach es X.env := by rfl) : PAV X ca W (e :: es) (aCons f fs) :=
  pa_imp (pa_cons h r hs) fun σ H Q ⟨E, B, ρ, S, q⟩ => ⟨E, B, ρ, S, (Ans.bind q).imp (fun v hv x B1 H1 S1 g1 r1 => ⟨E, B1, ρ, S1, (Ans.bind hv).imp (fun vs hvs xs B2 H2 S2 g2 r2 =>
    (show OkAV ca X.K E B ρ σ Q (v :: vs) from hvs) (x :: xs) B2 H2 S2 (g1.trans g2) (.cons (r1.mono g2) r2)) fun _ _ z => z⟩) fun _ _ z => z⟩

/-! ### operators -/
/-- what an operator by values does, purely -/
def Does2 (ca : Str → Addr) (K : PySem.W.Frag) (r : R2) (p : PV → PV → Out PV) : Prop :=
  ∀ (E : Ent) (B : Hp) (ρ : List Slot) (σ : L2.St) (H : Hp) (x y : V) (v w : PV) (Q : VK), SR ca K E B ρ σ H → RepC ca K B H x v → RepC ca K B H y w → Ans (p v w) (OkV ca K E B ρ σ Q) (fun _ _ => False) → r x y H Q
def e2 (p : PV → PV → Out PV) (fa fb : FE) : FE := fun ρ => fa ρ >>= fun v => fb ρ >>= fun w => p v w
/-- no error of its own -/
def Plain2 {α : Type} (p : PV → PV → Out α) : Prop := ∀ v w c fs, p v w ≠ .err c fs
theorem Ans.plain {α : Type} {o : Out α} {P : α → Prop} {Q Q' : Str → List (Str × PyData) → Prop} (h : Ans o P Q) (n : ∀ c fs, o ≠ .err c fs) : Ans o P Q' := by
  cases o with
  | ok a => exact h
  | err c fs => exact absurd rfl (n c fs)
  | no => exact h
theorem two {p : PV → PV → Out PV} {r : R2} (d : Does2 ca X.K r p) (n : Plain2 p) {σ : L2.St} {H : Hp} {Q : VK} (h : tV ca X.K W (e2 p fa fb) σ H Q) : tOp r (tB ca X.K W fa) (tB ca X.K W fb) σ H Q := by
  obtain ⟨E, B, ρ, S, q⟩ := h
  refine ⟨E, B, ρ, S, (Ans.bind q).imp (fun v hv x B1 H1 S1 g1 r1 => ⟨E, B1, ρ, S1, (Ans.bind hv).imp (fun w hw y B2 H2 S2 g2 r2 => ?_) fun _ _ z => z⟩) fun _ _ z => z⟩
  refine d E B2 ρ σ H2 x y v w Q S2 (S2.lookC (r1.mono g2)) (S2.lookC r2) ((Ans.plain hw (n v w)).imp (fun z hz u B3 H3 S3 g3 r3 => hz u B3 H3 S3 ((g1.trans g2).trans g3) r3) fun _ _ z => z)
theorem v_bin {op : Operator} {r : R2} {p : PV → PV → Out PV} (ho : OpR X (binaryOp op) r) (d : Does2 ca X.K r p) (n : Plain2 p) (ha : PBo X ca W a fa) (hb : PBo X ca W b fb) : PVa X ca W (.BinOp a op b pos) (e2 p fa fb) :=
  pe_imp (pe_op ho ha hb) fun _ _ _ h => two d n h
/-- a comparison's -/
def DoesC (ca : Str → Addr) (K : PySem.W.Frag) (r : R2) (p : PV → PV → Out Bool) : Prop :=
  ∀ (E : Ent) (B : Hp) (ρ : List Slot) (σ : L2.St) (H : Hp) (x y : V) (v w : PV) (Q : VK), SR ca K E B ρ σ H → RepC ca K B H x v → RepC ca K B H y w → Ans (p v w) (fun k => Q (.bl k) H) (fun _ _ => False) → r x y H Q
def eC2 (p : PV → PV → Out Bool) (fa fb : FE) : FT := fun ρ => fa ρ >>= fun v => fb ρ >>= fun w => p v w
def eT (t : FT) : FE := fun ρ => t ρ >>= fun k => .ok (.d (.bool k))
theorem twoC {p : PV → PV → Out Bool} {r : R2} (d : DoesC ca X.K r p) (n : Plain2 p) {σ : L2.St} {H : Hp} {Q : Bool → Hp → Prop} {Q' : VK} (h : tT ca X.K W (eC2 p fa fb) σ H Q) (hQ : ∀ k H, Q k H → Q' (.bl k) H) : tOp r (tB ca X.K W fa) (tB ca X.K W fb) σ H Q' := by
  obtain ⟨E, B, ρ, S, q⟩ := h
  refine ⟨E, B, ρ, S, (Ans.bind q).imp (fun v hv x B1 H1 S1 g1 r1 => ⟨E, B1, ρ, S1, (Ans.bind hv).imp (fun w hw y B2 H2 S2 g2 r2 => ?_) fun _ _ z => z⟩) fun _ _ z => z⟩
  exact d E B2 ρ σ H2 x y v w Q' S2 (S2.lookC (r1.mono g2)) (S2.lookC r2) ((Ans.plain hw (n v w)).imp (fun k hk => hQ k H2 (hk B2 H2 S2 (g1.trans g2))) fun _ _ z => z)
theorem t_cmp {op : CmpOp} {r : R2} {p : PV → PV → Out Bool} (ho : OpR X (compareOp op) r) (d : DoesC ca X.K r p) (n : Plain2 p) (ha : PBo X ca W a fa) (hb : PBo X ca W b fb) (hm : behindInMarks op b = false) : PTe X ca W (.Compare a [op] [b] pos) (eC2 p fa fb) :=
  pt_imp (pt_cmpR ho ha hb hm) fun σ H Q h => twoC d n h fun k H q => ⟨k, rfl, q⟩
/-- a test as a value -/
theorem vt {t : TE} (h : PE X e t) (i : ∀ σ H (Q : VK), tT ca X.K W ft σ H (fun k H' => Q (.bl k) H') → t σ H Q) : PVa X ca W e (eT ft) :=
  pe_imp h fun σ H Q ⟨E, B, ρ, S, q⟩ => i σ H Q ⟨E, B, ρ, S, (Ans.bind q).imp (fun k hk B' H' S' g => (show OkV ca X.K E B ρ σ Q (.d (.bool k)) from hk) (.bl k) B' H' S' g (.bl k)) fun _ _ z => z⟩
theorem v_cmp {op : CmpOp} {r : R2} {p : PV → PV → Out Bool} (ho : OpR X (compareOp op) r) (d : DoesC ca X.K r p) (n : Plain2 p) (ha : PBo X ca W a fa) (hb : PBo X ca W b fb) (hm : behindInMarks op b = false) : PVa X ca W (.Compare a [op] [b] pos) (eT (eC2 p fa fb)) :=
  vt (pe_cmpR ho ha hb hm) fun σ H Q h => twoC d n h fun k H q => q

/-! ### tests -/
/-- truth -/
def truP : PV → Out Bool
  | .d .none => .ok false
  | .d (.bool b) => .ok b
  | .d (.int i) => .ok (i != 0)
  | .d (.str x) => if x.length ≤ sizeLine then .ok (x.length != 0) else .no
  | .d (.list xs) => .ok (!xs.isEmpty)
  | .d (.tuple xs) => .ok (!xs.isEmpty)
  | _ => .no
def eTr (f : FE) : FT := fun ρ => f ρ >>= truP
theorem isE_of {B : Hp} {xs : List V} {ds : List PyData} (h : Dqs B xs ds) : xs.isEmpty = ds.isEmpty := by cases h <;> rfl
theorem t_tru (ha : PBo X ca W a fa) (he : ∀ whole, isTrue a X.env whole = (do let v ← whole; standAt a.pos; holding [v] (truthy v)) := by intro _; rfl) : PTe X ca W a (eTr fa) :=
  pt_imp (pt_truth ha he) fun σ H Q ⟨E, B, ρ, S, q⟩ => ⟨E, B, ρ, S, (Ans.bind q).imp (fun v hv x B1 H1 S1 g1 r1 => by
    have R := S1.look r1
    have fin : ∀ k, truP v = .ok k → Q k H1 := fun k ek => by
      rw [ek] at hv
      exact (show OkT ca X.K E B ρ σ Q k from hv) B1 H1 S1 g1
    unfold truP at fin hv
    cases v with
    | d y =>
      cases y with
      | none => cases R; exact ⟨false, rfl, fin _ rfl⟩
      | bool b => cases R; exact ⟨b, rfl, fin _ rfl⟩
      | int i => cases R; exact ⟨_, rfl, fin _ rfl⟩
      | str z =>
        cases R
        by_cases hz : z.length ≤ sizeLine
        · refine ⟨_, ⟨hz, rfl⟩, fin _ ?_⟩
          simp only [hz, if_true]
          congr 1
          cases hl : z.length with
          | zero => rfl
          | succ n => simp; omega
        · simp only [hz, if_false] at hv; exact hv.elim
      | list ds =>
        cases R with | lst e r => exact ⟨_, .inl ⟨_, SqL.of e, rfl⟩, by rw [isE_of r]; exact fin _ rfl⟩
      | tuple ds =>
        cases R with | tup e r => exact ⟨_, .inr (.inl ⟨_, SqT.of e, rfl⟩), by rw [isE_of r]; exact fin _ rfl⟩
      | dict _ => cases R
    | dK kvs => exact hv.elim
    | dT _ => exact hv.elim
    | obj _ _ => exact hv.elim
    | fn _ => exact hv.elim
    | scr _ => exact hv.elim
    | kt _ => exact hv.elim
    | kyK _ => exact hv.elim
    | kyT _ => exact hv.elim) fun _ _ z => z⟩
end
end Pu
/-! The pure layer, part 4: operators by values. -/
namespace Pu
open PySem PySem.Spec PyProof.Rows L2
abbrev big : Nat := 16777216
theorem strOk_app {x y : Str} (h : PyData.strOk x = true) (k : PyData.strOk y = true) : PyData.strOk (x ++ y) = true := by
  unfold PyData.strOk at *
  show Array.all (x.cps ++ y.cps) _ = true
  rw [Array.all_append, h, k]; rfl
theorem strOk_of {x : Str} (h : ∀ c ∈ x.cps.toList, c < 0x110000) : PyData.strOk x = true := by
  unfold PyData.strOk
  rw [← Array.all_toList, List.all_eq_true]
  intro c hc
  exact decide_eq_true (h c hc)
theorem strOk_mem {x : Str} (h : PyData.strOk x = true) : ∀ c ∈ x.cps.toList, c < 0x110000 := fun c hc => by
  unfold PyData.strOk at h
  rw [← Array.all_toList, List.all_eq_true] at h
  exact of_decide_eq_true (h c hc)
theorem strOk_ofString (s : String) : PyData.strOk (Str.ofString s) = true := by
  refine strOk_of fun c hc => ?_
  have e : (Str.ofString s).cps.toList = s.toList.map Char.toNat := by
    show ((cpsOfBytes 0 0 s.toByteArray.data.toList).toArray).toList = _
    rw [cpsOfBytes_string]
  rw [e] at hc
  obtain ⟨d, _, rfl⟩ := List.mem_map.mp hc
  have h := d.valid
  simp only [UInt32.isValidChar, Nat.isValidChar] at h
  show d.val.toNat < _
  omega
theorem big_eq : sizeLine = big := sizeLine_eq
section
variable {X : Cx} {ca : Str → Addr} {K : PySem.W.Frag}
/-! ### + - * // % ** -/
def pAdd : PV → PV → Out PV
  | .d (.int i), .d (.int j) => .ok (.d (.int (i + j)))
  | .d (.str x), .d (.str y) => if x.length + y.length ≤ big then .ok (.d (.str (x ++ y))) else .no
  | .d (.tuple xs), .d (.tuple ys) => if xs.length + ys.length ≤ big then .ok (.d (.tuple (xs ++ ys))) else .no
  | .d (.list xs), .d (.list ys) => if xs.length + ys.length ≤ big then .ok (.d (.list (xs ++ ys))) else .no
  | _, _ => .no
def rAddA (K : PySem.W.Frag) : R2 := fun x y H Q => rI0 (fun i j => .int (i + j)) x y H Q ∨ ((∃ i j, x = .str i ∧ y = .str j ∧ i.length + j.length ≤ sizeLine ∧ Q (.str (i ++ j)) H) ∨ (rCatA K x y H Q ∨ rCat x y H Q))
theorem op_addA : OpR X (binaryOp .Add) (rAddA X.K) := op_add.or (op_add_str.or (op_catA.or op_cat))
theorem n_add : Plain2 pAdd := by intro v w c fs; unfold pAdd; split <;> (try split) <;> simp
theorem d_add : Does2 ca K (rAddA K) pAdd := by
  intro E B ρ σ H x y v w Q S rx ry h
  unfold pAdd at h
  split at h
  · cases rx; cases ry
    exact .inl ⟨_, _, rfl, rfl, h _ B H S (Grow.refl B) (.int _)⟩
  · cases rx with | str _ k1 => cases ry with | str _ k2 => 
      split at h
      · rename_i hz
        exact .inr (.inl ⟨_, _, rfl, rfl, by rw [big_eq]; exact hz, h _ B H S (Grow.refl B) (.str _ (strOk_app k1 k2))⟩)
      · exact h.elim
  · cases rx with | tup e1 r1 => cases ry with | tup e2 r2 => 
      split at h
      · rename_i hz
        rename_i xs ys _ _ a vs b ws
        refine .inr (.inr (.inl ⟨a, b, vs, ws, rfl, rfl, SqT.of (S.sub _ _ e1), SqT.of (S.sub _ _ e2), by rw [r1.length, r2.length, big_eq]; exact hz, fun hn => ?_, fun hn hn2 => ?_, fun hn hn2 p hp => ?_⟩))
        · subst hn; cases r1
          exact h _ B H S (Grow.refl B) (.tup e2 (by simpa using r2))
        · subst hn2; cases r2
          exact h _ B H S (Grow.refl B) (.tup e1 (by simpa using r1))
        · obtain ⟨S', g⟩ := S.laid (o := .tup (vs ++ ws)) hp
          exact h _ _ _ S' g (.tup upd_same ((r1.append r2).mono g _ _))
      · exact h.elim
  · obtain ⟨a, vs, rfl, e1, r1⟩ := rx
    obtain ⟨b, ws, rfl, e2, r2⟩ := ry
    split at h
    · rename_i hz
      refine .inr (.inr (.inr ⟨a, b, vs, ws, rfl, rfl, e1, e2, by rw [r1.length, r2.length, big_eq]; exact hz, fun p hp => ?_⟩))
      obtain ⟨S', g⟩ := S.laid (o := .lst (vs ++ ws)) hp
      exact h _ _ _ S' g (.lst upd_same ((r1.append r2).mono g _ _))
    · exact h.elim
  · exact h.elim
def pSub : PV → PV → Out PV
  | .d (.int i), .d (.int j) => .ok (.d (.int (i - j)))
  | _, _ => .no
theorem n_sub : Plain2 pSub := by intro v w c fs; unfold pSub; split <;> simp
theorem d_sub : Does2 ca K (rI0 fun i j => .int (i - j)) pSub := by
  intro E B ρ σ H x y v w Q S rx ry h
  unfold pSub at h
  split at h
  · cases rx; cases ry
    exact ⟨_, _, rfl, rfl, h _ B H S (Grow.refl B) (.int _)⟩
  · exact h.elim
def mulOk (i j : Int) : Bool := (decide (-(2 ^ 64) < i) && decide (i < 2 ^ 64)) || (decide (-(2 ^ 64) < j) && decide (j < 2 ^ 64))
theorem mulOk_c {i j : Int} (h : mulOk i j = true) : CMul i j := by
  unfold mulOk at h
  simp only [Bool.or_eq_true, Bool.and_eq_true, decide_eq_true_eq] at h
  exact h
def pMul : PV → PV → Out PV
  | .d (.int i), .d (.int j) => if mulOk i j then .ok (.d (.int (i * j))) else .no
  | .d (.list xs), .d (.int k) => if (-(2 ^ 63) ≤ k ∧ k < 2 ^ 63) ∧ xs.length * k.toNat ≤ big then .ok (.d (.list (List.replicate k.toNat xs).flatten)) else .no
  | _, _ => .no
def rMulA : R2 := fun x y H Q => rI CMul (fun i j => .int (i * j)) x y H Q ∨ rRep x y H Q
theorem op_mulA : OpR X (binaryOp .Mult) rMulA := op_mul.or op_rep
theorem n_mul : Plain2 pMul := by intro v w c fs; unfold pMul; split <;> (try split) <;> simp
theorem Dqs.rep {B : Hp} {vs : List V} {ds : List PyData} (h : Dqs B vs ds) : ∀ k : Nat, Dqs B (List.replicate k vs).flatten (List.replicate k ds).flatten
  | 0 => .nil
  | k + 1 => by
    rw [List.replicate_succ, List.flatten_cons, List.replicate_succ, List.flatten_cons]
    exact h.append (h.rep k)
theorem d_mul : Does2 ca K rMulA pMul := by
  intro E B ρ σ H x y v w Q S rx ry h
  unfold pMul at h
  split at h
  · cases rx; cases ry
    split at h
    · rename_i hm
      exact .inl ⟨_, _, rfl, rfl, mulOk_c hm, h _ B H S (Grow.refl B) (.int _)⟩
    · exact h.elim
  · obtain ⟨a, vs, rfl, e1, r1⟩ := rx
    cases ry
    split at h
    · rename_i hm
      refine .inr ⟨a, _, vs, rfl, rfl, e1, hm.1.1, hm.1.2, by rw [r1.length, big_eq]; exact hm.2, fun p hp => ?_⟩
      obtain ⟨S', g⟩ := S.laid (o := .lst (List.replicate _ vs).flatten) hp
      exact h _ _ _ S' g (.lst upd_same ((r1.rep _).mono g _ _))
    · exact h.elim
  · exact h.elim
def pDiv : PV → PV → Out PV
  | .d (.int i), .d (.int j) => if 0 < j ∧ j < 1073741824 then .ok (.d (.int (i / j))) else .no
  | _, _ => .no
theorem n_div : Plain2 pDiv := by intro v w c fs; unfold pDiv; split <;> (try split) <;> simp
theorem d_div : Does2 ca K (rI CDiv fun i j => .int (i / j)) pDiv := by
  intro E B ρ σ H x y v w Q S rx ry h
  unfold pDiv at h
  split at h
  · cases rx; cases ry
    split at h
    · rename_i hm
      exact ⟨_, _, rfl, rfl, hm, h _ B H S (Grow.refl B) (.int _)⟩
    · exact h.elim
  · exact h.elim
def pMod : PV → PV → Out PV
  | .d (.int i), .d (.int j) => if 0 < j then .ok (.d (.int (i % j))) else .no
  | _, _ => .no
theorem n_mod : Plain2 pMod := by intro v w c fs; unfold pMod; split <;> (try split) <;> simp
theorem d_mod : Does2 ca K (rI (fun _ j => 0 < j) fun i j => .int (i % j)) pMod := by
  intro E B ρ σ H x y v w Q S rx ry h
  unfold pMod at h
  split at h
  · cases rx; cases ry
    split at h
    · rename_i hm
      exact ⟨_, _, rfl, rfl, hm, h _ B H S (Grow.refl B) (.int _)⟩
    · exact h.elim
  · exact h.elim
def pPow : PV → PV → Out PV
  | .d (.int i), .d (.int j) => if (0 ≤ j ∧ j ≤ 1000000) ∧ i.natAbs < 2 ^ 64 then .ok (.d (.int (i ^ j.toNat))) else .no
  | _, _ => .no
theorem n_pow : Plain2 pPow := by intro v w c fs; unfold pPow; split <;> (try split) <;> simp
theorem d_pow : Does2 ca K (rI CPow fun i j => .int (i ^ j.toNat)) pPow := by
  intro E B ρ σ H x y v w Q S rx ry h
  unfold pPow at h
  split at h
  · cases rx; cases ry
    split at h
    · rename_i hm
      exact ⟨_, _, rfl, rfl, ⟨hm.1.1, hm.1.2, hm.2⟩, h _ B H S (Grow.refl B) (.int _)⟩
    · exact h.elim
  · exact h.elim

/-! ### comparisons -/
def pEq : PV → PV → Out Bool
  | .d x, .d y => if min x.depth y.depth ≤ 64 then .ok (PyData.eqv x y) else .no
  | _, _ => .no
def pNe : PV → PV → Out Bool
  | .d x, .d y => if min x.depth y.depth ≤ 64 then .ok (!PyData.eqv x y) else .no
  | _, _ => .no
theorem n_eq : Plain2 pEq := by intro v w c fs; unfold pEq; split <;> (try split) <;> simp
theorem n_ne : Plain2 pNe := by intro v w c fs; unfold pNe; split <;> (try split) <;> simp
/-- two data at the heap -/
def rD2 (P : PyData → PyData → Prop) (g : PyData → PyData → Bool) : R2 := fun x y H Q => ∃ d e, Dq H x d ∧ Dq H y e ∧ P d e ∧ Q (.bl (g d e)) H
theorem op_eqQ (hu : X.A.units + 64 < cLine) : OpR X (compareOp .Eq) (rD2 (fun d e => min d.depth e.depth ≤ 64) fun d e => PyData.eqv d e) := by
  intro pins s σ H x y v u Q I rx ry h
  obtain ⟨d, e, hd, he, sd, q⟩ := h
  obtain ⟨as, r1⟩ := Dp.reads I d x v (hd.dp d x) rx
  obtain ⟨bs, r2⟩ := Dp.reads I e y u (he.dp e y) ry
  exact SeqAt.compareEq_reads r1 r2 (hd.lay d x) (he.lay e y) (by omega) ⟨.bl _, H, I, rfl, q⟩
theorem op_neQ (hu : X.A.units + 64 < cLine) : OpR X (compareOp .NotEq) (rD2 (fun d e => min d.depth e.depth ≤ 64) fun d e => !PyData.eqv d e) := by
  intro pins s σ H x y v u Q I rx ry h
  obtain ⟨d, e, hd, he, sd, q⟩ := h
  obtain ⟨as, r1⟩ := Dp.reads I d x v (hd.dp d x) rx
  obtain ⟨bs, r2⟩ := Dp.reads I e y u (he.dp e y) ry
  exact SeqAt.compareNe_reads r1 r2 (hd.lay d x) (he.lay e y) (by omega) ⟨.bl _, H, I, rfl, q⟩
theorem d_rD2 {P : PyData → PyData → Prop} [∀ a b, Decidable (P a b)] {g : PyData → PyData → Bool} {p : PV → PV → Out Bool} (hp : ∀ v w, p v w = match v, w with | .d x, .d y => if P x y then .ok (g x y) else .no | _, _ => .no) : DoesC ca K (rD2 P g) p := by
  intro E B ρ σ H x y v w Q S rx ry h
  rw [hp] at h
  split at h
  · split at h
    · rename_i hm
      exact ⟨_, _, rx.rep S.growH, ry.rep S.growH, hm, h⟩
    · exact h.elim
  · exact h.elim
theorem d_eq : DoesC ca K (rD2 (fun d e => min d.depth e.depth ≤ 64) fun d e => PyData.eqv d e) pEq := d_rD2 fun v w => by unfold pEq; rfl
theorem d_ne : DoesC ca K (rD2 (fun d e => min d.depth e.depth ≤ 64) fun d e => !PyData.eqv d e) pNe := d_rD2 fun v w => by unfold pNe; rfl
end
end Pu
/-! The pure layer, part 5: order, is, in, subscripts, slices. -/
namespace Pu
open PySem PySem.Spec PyProof.Rows L2
section
variable {X : Cx} {ca : Str → Addr} {K : PySem.W.Frag}
/-! ### order -/
def pLt : PV → PV → Out Bool
  | .d (.int i), .d (.int j) => .ok (decide (i < j))
  | .d (.str x), .d (.str y) => .ok (decide (x.cps.toList < y.cps.toList))
  | .d (.tuple xs), .d (.tuple ys) => if PySem.W.alikeAll xs ys = true ∧ min (PyData.depthAll xs) (PyData.depthAll ys) ≤ 60 then .ok (PySem.W.dataLt (.tuple xs) (.tuple ys)) else .no
  | .d (.list xs), .d (.list ys) => if PySem.W.alikeAll xs ys = true ∧ min (PyData.depthAll xs) (PyData.depthAll ys) ≤ 60 then .ok (PySem.W.dataLt (.list xs) (.list ys)) else .no
  | _, _ => .no
theorem n_lt : Plain2 pLt := by intro v w c fs; unfold pLt; split <;> (try split) <;> simp
def rLtQ : R2 := fun x y H Q => ∃ d e, Dq H x d ∧ Dq H y e ∧ PySem.W.alike d e = true ∧ d ≠ .none ∧ min d.depth e.depth ≤ 64 ∧ Q (.bl (PySem.W.dataLt d e)) H
theorem op_ltQ (hu : X.A.units + 64 < cLine) : OpR X (compareOp .Lt) rLtQ := by
  intro pins s σ H x y v u Q I rx ry h
  obtain ⟨d, e, hd, he, sa, sn, sd, q⟩ := h
  obtain ⟨as, r1⟩ := Dp.reads I d x v (hd.dp d x) rx
  obtain ⟨bs, r2⟩ := Dp.reads I e y u (he.dp e y) ry
  have z : wpAny (model X.prog X.w) X.A (compareOp .Lt v u) (EP X pins σ Q) X.xe s := PySem.W.rcLt_alike d e X.A s v u as bs r1 r2 sa sn (by omega) X.prog X.w X.xe (EP X pins σ Q) ⟨.bl _, H, I, rfl, q⟩
  exact z
theorem d_lt : DoesC ca K rLtQ pLt := by
  intro E B ρ σ H x y v w Q S rx ry h
  unfold pLt at h
  split at h
  · refine ⟨_, _, rx.rep S.growH, ry.rep S.growH, by simp [PySem.W.alike], by simp, by simp [PyData.depth], ?_⟩
    rw [PySem.W.dataLt_int]; exact h
  · refine ⟨_, _, rx.rep S.growH, ry.rep S.growH, by simp [PySem.W.alike], by simp, by simp [PyData.depth], ?_⟩
    rw [PySem.W.dataLt_str]; exact h
  · split at h
    · rename_i hm
      exact ⟨_, _, rx.rep S.growH, ry.rep S.growH, by simpa [PySem.W.alike] using hm.1, by simp, by simp only [PyData.depth]; omega, h⟩
    · exact h.elim
  · split at h
    · rename_i hm
      exact ⟨_, _, rx.rep S.growH, ry.rep S.growH, by simpa [PySem.W.alike] using hm.1, by simp, by simp only [PyData.depth]; omega, h⟩
    · exact h.elim
  · exact h.elim
def pLe : PV → PV → Out Bool
  | .d (.int i), .d (.int j) => .ok (decide (i ≤ j))
  | .d (.str x), .d (.str y) => .ok (!decide (y.cps.toList < x.cps.toList))
  | _, _ => .no
def pGt : PV → PV → Out Bool
  | .d (.int i), .d (.int j) => .ok (decide (j < i))
  | .d (.str x), .d (.str y) => .ok (decide (y.cps.toList < x.cps.toList))
  | _, _ => .no
def pGe : PV → PV → Out Bool
  | .d (.int i), .d (.int j) => .ok (decide (j ≤ i))
  | .d (.str x), .d (.str y) => .ok (!decide (x.cps.toList < y.cps.toList))
  | _, _ => .no
theorem n_le : Plain2 pLe := by intro v w c fs; unfold pLe; split <;> simp
theorem n_gt : Plain2 pGt := by intro v w c fs; unfold pGt; split <;> simp
theorem n_ge : Plain2 pGe := by intro v w c fs; unfold pGe; split <;> simp
def rIS (f : Int → Int → Bool) (g : Str → Str → Bool) : R2 := fun x y H Q => rI0 (fun i j => .bl (f i j)) x y H Q ∨ ∃ i j, x = .str i ∧ y = .str j ∧ Q (.bl (g i j)) H
theorem op_leA : OpR X (compareOp .LtE) (rIS (fun i j => decide (i ≤ j)) fun i j => !decide (j.cps.toList < i.cps.toList)) := op_le.or op_le_str
theorem op_gtA : OpR X (compareOp .Gt) (rIS (fun i j => decide (j < i)) fun i j => decide (j.cps.toList < i.cps.toList)) := op_gt.or op_gt_str
theorem op_geA : OpR X (compareOp .GtE) (rIS (fun i j => decide (j ≤ i)) fun i j => !decide (i.cps.toList < j.cps.toList)) := op_ge.or op_ge_str
theorem d_rIS {f : Int → Int → Bool} {g : Str → Str → Bool} {p : PV → PV → Out Bool} (hp : ∀ v w, p v w = match v, w with | .d (.int i), .d (.int j) => .ok (f i j) | .d (.str x), .d (.str y) => .ok (g x y) | _, _ => .no) : DoesC ca K (rIS f g) p := by
  intro E B ρ σ H x y v w Q S rx ry h
  rw [hp] at h
  split at h
  · cases rx; cases ry; exact .inl ⟨_, _, rfl, rfl, h⟩
  · cases rx; cases ry; exact .inr ⟨_, _, rfl, rfl, h⟩
  · exact h.elim
theorem d_le : DoesC ca K (rIS (fun i j => decide (i ≤ j)) fun i j => !decide (j.cps.toList < i.cps.toList)) pLe := d_rIS fun v w => by unfold pLe; rfl
theorem d_gt : DoesC ca K (rIS (fun i j => decide (j < i)) fun i j => decide (j.cps.toList < i.cps.toList)) pGt := d_rIS fun v w => by unfold pGt; rfl
theorem d_ge : DoesC ca K (rIS (fun i j => decide (j ≤ i)) fun i j => !decide (i.cps.toList < j.cps.toList)) pGe := d_rIS fun v w => by unfold pGe; rfl

/-! ### is -/
def isNon : PV → Bool
  | .d .none => true
  | _ => false
def pIs : PV → PV → Out Bool
  | v, .d .none => .ok (isNon v)
  | .d (.bool a), .d (.bool b) => .ok (decide (a = b))
  | _, _ => .no
def pIsNot : PV → PV → Out Bool
  | v, .d .none => .ok (!isNon v)
  | .d (.bool a), .d (.bool b) => .ok (!decide (a = b))
  | _, _ => .no
theorem n_is : Plain2 pIs := by intro v w c fs; unfold pIs; split <;> simp
theorem n_isnot : Plain2 pIsNot := by intro v w c fs; unfold pIsNot; split <;> simp
theorem RepC.non {B H : Hp} {x : V} {v : PV} (h : RepC ca K B H x v) : decide (x = .non) = isNon v := by
  cases v with
  | d y =>
    cases y with
    | none => cases h; rfl
    | bool b => cases h; rfl
    | int b => cases h; rfl
    | str b => cases h; rfl
    | list b => obtain ⟨a, xs, rfl, _⟩ := h; rfl
    | tuple b => cases h; rfl
    | dict b => cases h
  | dK kvs => obtain ⟨a, xs, rfl, _⟩ := h; rfl
  | dT kvs => obtain ⟨a, xs, rfl, _⟩ := h; rfl
  | obj c fs => obtain ⟨a, dx, xs, rfl, _⟩ := h; rfl
  | fn n => cases (show x = .ref (ca n) from h); rfl
  | scr ns => obtain ⟨a, rfl, _⟩ := h; rfl
  | kt ds => obtain ⟨a, xs, rfl, _⟩ := h; rfl
  | kyK ds => obtain ⟨a, xs, rfl, _⟩ := h; rfl
  | kyT ds => obtain ⟨a, xs, rfl, _⟩ := h; rfl
def rIsA : R2 := fun x y H Q => (y = .non ∧ Q (.bl (decide (x = .non))) H) ∨ rIsB x y H Q
def rIsNotA : R2 := fun x y H Q => (y = .non ∧ Q (.bl (!decide (x = .non))) H) ∨ rNotB x y H Q
theorem op_isA : OpR X (compareOp .Is) rIsA := op_isN.or op_isBl
theorem op_isnotA : OpR X (compareOp .IsNot) rIsNotA := op_notN.or op_notBl
theorem d_is : DoesC ca K rIsA pIs := by
  intro E B ρ σ H x y v w Q S rx ry h
  unfold pIs at h
  split at h
  · cases ry
    exact .inl ⟨rfl, by rw [rx.non]; exact h⟩
  · cases rx; cases ry; exact .inr ⟨_, _, rfl, rfl, h⟩
  · exact h.elim
theorem d_isnot : DoesC ca K rIsNotA pIsNot := by
  intro E B ρ σ H x y v w Q S rx ry h
  unfold pIsNot at h
  split at h
  · cases ry
    exact .inl ⟨rfl, by rw [rx.non]; exact h⟩
  · cases rx; cases ry; exact .inr ⟨_, _, rfl, rfl, h⟩
  · exact h.elim

/-! ### keys, dicts -/
def keyOf : PyData → Option Key
  | .int i => some (.inl i)
  | .str x => some (.inr x)
  | _ => none
def keysOf : List PyData → Option (List Key)
  | [] => some []
  | d :: ds => match keyOf d, keysOf ds with
    | some k, some ks => some (k :: ks)
    | _, _ => none
theorem keyOf_v {B : Hp} {x : V} {d : PyData} {k : Key} (r : Dq B x d) (e : keyOf d = some k) : x = kV k := by
  unfold keyOf at e
  split at e
  · cases e; cases r; rfl
  · cases e; cases r; rfl
  · cases e
theorem keyOf_ok {B : Hp} {x : V} {d : PyData} {k : Key} (r : Dq B x d) (e : keyOf d = some k) : keyOk k = true := by
  unfold keyOf at e
  split at e
  · cases e; rfl
  · cases e; cases r with | str _ h => exact h
  · cases e
theorem keysOf_v {B : Hp} : ∀ {xs : List V} {ds : List PyData} {ks : List Key}, Dqs B xs ds → keysOf ds = some ks → xs = ks.map kV
  | _, _, _, .nil, e => by unfold keysOf at e; cases e; rfl
  | _, _, ks, .cons r t, e => by
    unfold keysOf at e
    split at e
    · rename_i k ks' h1 h2
      cases e
      rw [keyOf_v r h1, keysOf_v t h2]; rfl
    · cases e
theorem keysOf_ok {B : Hp} : ∀ {xs : List V} {ds : List PyData} {ks : List Key}, Dqs B xs ds → keysOf ds = some ks → ks.all keyOk = true
  | _, _, _, .nil, e => by unfold keysOf at e; cases e; rfl
  | _, _, ks, .cons r t, e => by
    unfold keysOf at e
    split at e
    · rename_i k ks' h1 h2
      cases e
      rw [List.all_cons, keyOf_ok r h1, keysOf_ok t h2]; rfl
    · cases e
def dget {κ α : Type} [DecidableEq κ] (kvs : List (κ × α)) (k : κ) : Option α := (kvs.find? fun kv => decide (kv.1 = k)).map (·.2)
def dput {κ α : Type} [DecidableEq κ] (kvs : List (κ × α)) (k : κ) (v : α) : List (κ × α) :=
  if (kvs.any fun kv => decide (kv.1 = k)) = true then kvs.map (fun kv => if kv.1 = k then (kv.1, v) else kv) else kvs ++ [(k, v)]
theorem KD.get {κ : Type} [DecidableEq κ] [KOk κ] {B : Hp} : ∀ {ws : List (κ × V)} {kvs : List (κ × PyData)} (k : κ), KD B ws kvs → (valV ws k = none ∧ dget kvs k = none) ∨ ∃ x d, valV ws k = some x ∧ dget kvs k = some d ∧ Dq B x d
  | _, _, k, .nil => .inl ⟨rfl, rfl⟩
  | _, _, k, .cons (a := p) (b := q) r t => by
    by_cases h : p.1 = k
    · have h2 : q.1 = k := r.1.1 ▸ h
      exact .inr ⟨p.2, q.2, valV_pos h, by simp [dget, List.find?_cons, h2], r.2⟩
    · have h2 : ¬ q.1 = k := fun z => h (r.1.1.trans z)
      rw [valV_neg h]
      have e : ∀ l, dget (q :: l) k = dget l k := fun l => by simp [dget, List.find?_cons, h2]
      rw [e]
      exact KD.get k t
theorem KD.any {κ : Type} [DecidableEq κ] [KOk κ] {B : Hp} : ∀ {ws : List (κ × V)} {kvs : List (κ × PyData)} (k : κ), KD B ws kvs → (ws.any fun kv => decide (kv.1 = k)) = kvs.any fun kv => decide (kv.1 = k)
  | _, _, k, .nil => rfl
  | _, _, k, .cons r t => by rw [List.any_cons, List.any_cons, r.1.1, KD.any k t]
theorem KD.length {κ : Type} [KOk κ] {B : Hp} {ws : List (κ × V)} {kvs : List (κ × PyData)} (h : KD B ws kvs) : ws.length = kvs.length := Paired.length h
theorem KD.repl {κ : Type} [DecidableEq κ] [KOk κ] {B : Hp} {x : V} {d : PyData} : ∀ {ws : List (κ × V)} {kvs : List (κ × PyData)} (k : κ), KD B ws kvs → Dq B x d → KD B (ws.map fun kv => if kv.1 = k then (kv.1, x) else kv) (kvs.map fun kv => if kv.1 = k then (kv.1, d) else kv)
  | _, _, k, .nil, _ => .nil
  | _, _, k, .cons (a := p) (b := z) q t, r => by
    rw [List.map_cons, List.map_cons]
    refine .cons ?_ (KD.repl k t r)
    by_cases hk : p.1 = k
    · rw [if_pos hk, if_pos (q.1.1 ▸ hk)]; exact ⟨q.1, r⟩
    · rw [if_neg hk, if_neg (fun z => hk (q.1.1.trans z))]; exact q
theorem KD.put {κ : Type} [DecidableEq κ] [KOk κ] {B : Hp} {ws : List (κ × V)} {kvs : List (κ × PyData)} (h : KD B ws kvs) (k : κ) {x : V} {d : PyData} (r : Dq B x d) (hk : KOk.ok k = true) : KD B (putK ws k x) (dput kvs k d) := by
  unfold putK dput
  rw [h.any k]
  split
  · exact h.repl k r
  · exact Paired.snoc h ⟨⟨rfl, hk⟩, r⟩
/-- y is the key k of the dict at a -/
def pDict {α : Type} (fK : List (Key × PyData) → Key → Out α) (fT : List (List Key × PyData) → List Key → Out α) : PV → PV → Out α
  | .dK kvs, .d y => match keyOf y with
    | some k => fK kvs k
    | none => .no
  | .dT kvs, .d (.tuple ys) => match keysOf ys with
    | some ks => fT kvs ks
    | none => .no
  | _, _ => .no
/-- what a dict holds at a key, by values -/
theorem pDict_get {E : Ent} {B : Hp} {ρ : List Slot} {σ : L2.St} {H : Hp} {x y : V} {v w : PV} {α : Type} {fK : List (Key × PyData) → Key → Out α} {fT : List (List Key × PyData) → List Key → Out α} {P : α → Prop} {Z : Str → List (Str × PyData) → Prop}
    (S : SR ca K E B ρ σ H) (rx : RepC ca K B H x v) (ry : RepC ca K B H y w) (h : Ans (pDict fK fT v w) P Z) :
    ∃ a, x = .ref a ∧ ((∃ kvs k, v = .dK kvs ∧ Ans (fK kvs k) P Z ∧ ((DGet H a y none ∧ dget kvs k = none) ∨ ∃ z d, DGet H a y (some z) ∧ dget kvs k = some d ∧ Dq B z d)) ∨
      ∃ kvs k, v = .dT kvs ∧ Ans (fT kvs k) P Z ∧ ((DGet H a y none ∧ dget kvs k = none) ∨ ∃ z d, DGet H a y (some z) ∧ dget kvs k = some d ∧ Dq B z d)) := by
  unfold pDict at h
  split at h
  · obtain ⟨a, ws, rfl, r, q⟩ := rx
    split at h
    · rename_i kvs y' _ k hk
      refine ⟨a, rfl, .inl ⟨kvs, k, rfl, h, ?_⟩⟩
      have ey : y = kV k := by
        have ry' : Dq H y y' := ry.rep S.growH
        exact keyOf_v ry' hk
      subst ey
      rcases q.get k with ⟨h1, h2⟩ | ⟨z, d, h1, h2, h3⟩
      · exact .inl ⟨.inl ⟨ws, k, r, rfl, h1.symm⟩, h2⟩
      · exact .inr ⟨z, d, .inl ⟨ws, k, r, rfl, h1.symm⟩, h2, h3⟩
    · exact h.elim
  · obtain ⟨a, ws, rfl, r, q⟩ := rx
    split at h
    · rename_i kvs ys _ ks hk
      refine ⟨a, rfl, .inr ⟨kvs, ks, rfl, h, ?_⟩⟩
      have ry' : Dq H y (.tuple ys) := ry.rep S.growH
      cases ry' with | tup e t => 
        have ex := keysOf_v t hk
        subst ex
        rcases q.get ks with ⟨h1, h2⟩ | ⟨z, d, h1, h2, h3⟩
        · exact .inl ⟨.inr ⟨ws, ks, _, r, rfl, e, h1.symm⟩, h2⟩
        · exact .inr ⟨z, d, .inr ⟨ws, ks, _, r, rfl, e, h1.symm⟩, h2, h3⟩
    · exact h.elim
  · exact h.elim

/-! ### in -/
def flatD : PyData → Bool
  | .none => true
  | .bool _ => true
  | .int _ => true
  | .str _ => true
  | _ => false
def pIn : PV → PV → Out Bool
  | .d (.str x), .d (.str z) => if x.length = 1 then .ok (decide (x.cps.toList.headD 0 ∈ z.cps.toList)) else .no
  | .d x, .d (.list ds) => if x.depth ≤ 64 ∧ (PyData.list ds).depth ≤ 64 then .ok (ds.any fun z => PyData.eqv z x) else .no
  | .d x, .d (.tuple ds) => if flatD x = true ∧ ds.all flatD = true then .ok (ds.any fun z => PyData.eqv z x) else .no
  | .d x, .kt ds => if flatD x = true ∧ ds.all flatD = true then .ok (ds.any fun z => PyData.eqv z x) else .no
  | .d y, .kyK ks => match keyOf y with
    | some k => .ok (ks.any fun x => decide (x = k))
    | none => .no
  | .d (.tuple ys), .kyT ks => match keysOf ys with
    | some k => .ok (ks.any fun x => decide (x = k))
    | none => .no
  | y, x => pDict (fun kvs k => .ok (dget kvs k).isSome) (fun kvs k => .ok (dget kvs k).isSome) x y
theorem valV_some {κ : Type} [DecidableEq κ] : ∀ (ws : List (κ × V)) (k : κ), (valV ws k).isSome = (ws.map Prod.fst).any fun x => decide (x = k)
  | [], k => rfl
  | p :: ws, k => by
    by_cases h : p.1 = k
    · rw [valV_pos h]; simp [h]
    · rw [valV_neg h, valV_some ws k]; simp [h]
def pNotIn (v w : PV) : Out Bool := pIn v w >>= fun k => .ok (!k)
theorem n_in : Plain2 pIn := by
  intro v w c fs
  unfold pIn pDict
  split
  · split <;> simp
  · split <;> simp
  · split <;> simp
  · split <;> simp
  · split <;> simp
  · split <;> simp
  · split
    · split <;> simp
    · split <;> simp
    · simp
theorem n_notin : Plain2 pNotIn := by
  intro v w c fs h
  unfold pNotIn at h
  cases e : pIn v w with
  | ok b => rw [e] at h; cases h
  | err c' fs' => exact n_in v w c' fs' e
  | no => rw [e] at h; cases h
theorem Dq.flat {B : Hp} {x : V} {d : PyData} (r : Dq B x d) (h : flatD d = true) : flatV x = true := by
  cases r <;> first | rfl | cases h
theorem Dq.eqF {B : Hp} {x y : V} {d e : PyData} (r : Dq B x d) (q : Dq B y e) (h : flatD d = true) (k : flatD e = true) : eqV x y = PyData.eqv d e := by
  cases r <;> cases q <;> first | rfl | cases h | cases k | (simp only [eqV, PyData.eqv])
theorem Dqs.flat {B : Hp} : ∀ {xs : List V} {ds : List PyData}, Dqs B xs ds → ds.all flatD = true → xs.all flatV = true
  | _, _, .nil, _ => rfl
  | _, _, .cons r t, h => by
    rw [List.all_cons, Bool.and_eq_true] at h ⊢
    exact ⟨r.flat h.1, Dqs.flat t h.2⟩
theorem Dqs.inF {B : Hp} {x : V} {d : PyData} (r : Dq B x d) (k : flatD d = true) : ∀ {xs : List V} {ds : List PyData}, Dqs B xs ds → ds.all flatD = true → inV x xs = ds.any fun z => PyData.eqv z d
  | _, _, .nil, _ => rfl
  | _, _, .cons q t, h => by
    rw [List.all_cons, Bool.and_eq_true] at h
    unfold inV
    rw [List.any_cons, List.any_cons, q.eqF r h.1 k]
    exact congrArg (_ || ·) (Dqs.inF r k t h.2)
def rDIn (neg : Bool) : R2 := fun y x H Q => ∃ a o, x = .ref a ∧ DGet H a y o ∧ Q (.bl (if neg then !o.isSome else o.isSome)) H
theorem op_dIn (hu : X.A.units + 1 < cLine) : OpR X (compareOp .In) (rDIn false) := by
  intro pins s σ H y x iv u Q I ry rx h
  obtain ⟨a, o, rfl, g, q⟩ := h
  obtain rfl : u = Value.ref a := rx
  exact d_in hu I g ry fun s' I' => ⟨.bl o.isSome, H, I', rfl, q⟩
theorem op_dNotIn (hu : X.A.units + 1 < cLine) : OpR X (compareOp .NotIn) (rDIn true) := by
  intro pins s σ H y x iv u Q I ry rx h
  obtain ⟨a, o, rfl, g, q⟩ := h
  obtain rfl : u = Value.ref a := rx
  exact d_notIn hu I g ry fun s' I' => ⟨.bl (!o.isSome), H, I', rfl, q⟩
def rSign (neg : Bool) : R2 := fun x y H Q => ∃ (c : Nat) (z : Str), x = .str ⟨#[c]⟩ ∧ y = .str z ∧ Q (.bl (if neg then !decide (c ∈ z.cps.toList) else decide (c ∈ z.cps.toList))) H
theorem op_sIn : OpR X (compareOp .In) (rSign false) := op_in_sign
theorem op_sNotIn : OpR X (compareOp .NotIn) (rSign true) := op_notIn_sign
def rInDq (neg : Bool) : R2 := fun x y H Q => ∃ d ds, Dq H x d ∧ Dq H y (.list ds) ∧ d.depth ≤ 64 ∧ (PyData.list ds).depth ≤ 64 ∧ Q (.bl (if neg then !(ds.any fun z => PyData.eqv z d) else ds.any fun z => PyData.eqv z d)) H
theorem shaped_of {H : Hp} {x : V} {d : PyData} (r : Dq H x d) (h : d.depth ≤ 64) : SeqAt.shaped d = true := by
  unfold SeqAt.shaped
  rw [r.lay, decide_eq_true h]; rfl
theorem op_lIn (hu : X.A.units + 65 < cLine) : OpR X (compareOp .In) (rInDq false) := by
  intro pins s σ H x y v u Q I rx ry h
  obtain ⟨d, ds, h1, h2, h3, h4, q⟩ := h
  exact op_inD hu pins s σ H x y v u Q I rx ry ⟨d, ds, h1.dp, h2.dp, shaped_of h1 h3, shaped_of h2 h4, q⟩
theorem op_lNotIn (hu : X.A.units + 65 < cLine) : OpR X (compareOp .NotIn) (rInDq true) := by
  intro pins s σ H x y v u Q I rx ry h
  obtain ⟨d, ds, h1, h2, h3, h4, q⟩ := h
  exact op_notInD hu pins s σ H x y v u Q I rx ry ⟨d, ds, h1.dp, h2.dp, shaped_of h1 h3, shaped_of h2 h4, q⟩
def rInA (K : PySem.W.Frag) (neg : Bool) : R2 := fun x y H Q => rSign neg x y H Q ∨ (rInDq neg x y H Q ∨ (rIn K neg x y H Q ∨ rDIn neg x y H Q))
theorem op_inA (hu : X.A.units + 65 < cLine) : OpR X (compareOp .In) (rInA X.K false) := op_sIn.or ((op_lIn hu).or (op_in_seq.or (op_dIn (by omega))))
theorem op_notinA (hu : X.A.units + 65 < cLine) : OpR X (compareOp .NotIn) (rInA X.K true) := op_sNotIn.or ((op_lNotIn hu).or (op_notIn_seq.or (op_dNotIn (by omega))))
theorem one_sign {x : Str} (h : x.length = 1) : x = ⟨#[x.cps.toList.headD 0]⟩ := by
  obtain ⟨⟨l⟩⟩ := x
  cases l with
  | nil => cases h
  | cons c r =>
    cases r with
    | nil => rfl
    | cons d r => simp [Str.length] at h
theorem d_inG (neg : Bool) {E : Ent} {B : Hp} {ρ : List Slot} {σ : L2.St} {H : Hp} {x y : V} {v w : PV} {Q : VK} (S : SR ca K E B ρ σ H) (rx : RepC ca K B H x v) (ry : RepC ca K B H y w) (h : Ans (pIn v w) (fun k => Q (.bl (if neg then !k else k)) H) (fun _ _ => False)) : rInA K neg x y H Q := by
  unfold pIn at h
  split at h
  · cases rx; cases ry
    split at h
    · rename_i hl
      rename_i a b _ _
      refine .inl ⟨a.cps.toList.headD 0, b, ?_, rfl, h⟩
      exact congrArg V.str (one_sign hl)
    · exact h.elim
  · split at h
    · rename_i hm
      exact .inr (.inl ⟨_, _, rx.rep S.growH, ry.rep S.growH, hm.1, hm.2, h⟩)
    · exact h.elim
  · cases ry with | tup e t => 
      split at h
      · rename_i hm
        have rx' := rx.rep S.growH
        have t' := Dqs.mono S.growH _ _ t
        refine .inr (.inr (.inl ⟨_, _, rfl, .inr (SqT.of (S.sub _ _ e)), Dq.flat rx' hm.1, t.flat hm.2, ?_⟩))
        rw [Dqs.inF rx' hm.1 t' hm.2]; exact h
      · exact h.elim
  · obtain ⟨a, xs, rfl, e, t⟩ := ry
    split at h
    · rename_i hm
      have rx' := rx.rep S.growH
      have t' := Dqs.mono S.growH _ _ t
      refine .inr (.inr (.inl ⟨_, _, rfl, .inr (S.growH.seqT e), Dq.flat rx' hm.1, t.flat hm.2, ?_⟩))
      rw [Dqs.inF rx' hm.1 t' hm.2]; exact h
    · exact h.elim
  · obtain ⟨a, ws, rfl, r, hk⟩ := ry
    split at h
    · rename_i k e
      have rx' : Dq H x _ := rx.rep S.growH
      have ey := keyOf_v rx' e
      refine .inr (.inr (.inr ⟨a, valV ws k, rfl, .inl ⟨ws, k, r, ey, rfl⟩, ?_⟩))
      rw [valV_some, hk.1]; exact h
    · exact h.elim
  · obtain ⟨a, ws, rfl, r, hk⟩ := ry
    split at h
    · rename_i k e
      have rx' : Dq H x (.tuple _) := rx.rep S.growH
      cases rx' with | tup e' t =>
        have ey := keysOf_v t e
        subst ey
        refine .inr (.inr (.inr ⟨a, valV ws k, rfl, .inr ⟨ws, k, _, r, rfl, e', rfl⟩, ?_⟩))
        rw [valV_some, hk.1]; exact h
    · exact h.elim
  · obtain ⟨a, rfl, hh⟩ := pDict_get S ry rx h
    refine .inr (.inr (.inr ?_))
    rcases hh with ⟨kvs, k, rfl, q, g⟩ | ⟨kvs, k, rfl, q, g⟩
    · rcases g with ⟨g1, g2⟩ | ⟨z, d, g1, g2, g3⟩
      · rw [g2] at q; exact ⟨a, none, rfl, g1, q⟩
      · rw [g2] at q; exact ⟨a, some z, rfl, g1, q⟩
    · rcases g with ⟨g1, g2⟩ | ⟨z, d, g1, g2, g3⟩
      · rw [g2] at q; exact ⟨a, none, rfl, g1, q⟩
      · rw [g2] at q; exact ⟨a, some z, rfl, g1, q⟩
theorem d_in' : DoesC ca K (rInA K false) pIn := fun E B ρ σ H x y v w Q S rx ry h => d_inG false S rx ry h
theorem d_notin : DoesC ca K (rInA K true) pNotIn := fun E B ρ σ H x y v w Q S rx ry h => d_inG true S rx ry (Ans.bind h)

/-! ### subscripts -/
def pIx : PV → PV → Out PV
  | .d (.list ds), .d (.int i) => match atI ds i with
    | some d => .ok (.d d)
    | none => .no
  | .d (.tuple ds), .d (.int i) => match atI ds i with
    | some d => .ok (.d d)
    | none => .no
  | .d (.str x), .d (.int i) => if x.length ≤ big then (match atI x.cps.toList i with
    | some c => .ok (.d (.str ⟨#[c]⟩))
    | none => .no) else .no
  | .scr ns, .d (.int i) => match atI ns i with
    | some n => .ok (.d (.int n))
    | none => .no
  | .kt ds, .d (.int i) => match atI ds i with
    | some d => .ok (.d d)
    | none => .no
  | x, y => pDict (fun kvs k => match dget kvs k with | some d => .ok (.d d) | none => .no) (fun kvs k => match dget kvs k with | some d => .ok (.d d) | none => .no) x y
theorem n_ix : Plain2 pIx := by
  intro v w c fs
  unfold pIx pDict
  split
  · split <;> simp
  · split <;> simp
  · split
    · split <;> simp
    · simp
  · split <;> simp
  · split <;> simp
  · split
    · split
      · dsimp only; split <;> simp
      · simp
    · split
      · dsimp only; split <;> simp
      · simp
    · simp
theorem Dqs.atI {B : Hp} {xs : List V} {ds : List PyData} {i : Int} {d : PyData} (h : Dqs B xs ds) (e : L2.atI ds i = some d) : ∃ x, L2.atI xs i = some x ∧ Dq B x d := by
  unfold L2.atI at e ⊢
  rw [h.length]
  cases q : ixN ds.length i with
  | none => rw [q] at e; cases e
  | some j =>
    rw [q] at e
    obtain ⟨x, h1, h2⟩ := h.get' (i := j) e
    exact ⟨x, h1, h2⟩
theorem atI_map {α β : Type} {l : List α} (f : α → β) {i : Int} {a : α} (e : L2.atI l i = some a) : L2.atI (l.map f) i = some (f a) := by
  unfold L2.atI at e ⊢
  rw [List.length_map]
  cases q : ixN l.length i with
  | none => rw [q] at e; cases e
  | some j =>
    rw [q] at e
    have e' : l[j]? = some a := e
    show (l.map f)[j]? = some (f a)
    rw [List.getElem?_map, e']; rfl
def rIxD : R2 := fun x y H Q => ∃ a v, x = .ref a ∧ DGet H a y (some v) ∧ Q v H
theorem ix_dict (hu : X.A.units + 1 < cLine) : IxR X rIxD := by
  intro value slice pins s σ H x y v u Q I rx ry h hs
  obtain ⟨a, z, rfl, g, q⟩ := h
  obtain rfl : v = Value.ref a := rx
  have hT := dict_typeIs I g
  unfold subscriptTail
  refine wpAny_bind ?_
  rw [getitemInPython_of_ne hT.not_modules]
  refine wpAny_bind (wpAny_specialOf hT PySem.F.slot_dict_getitem.lookup ?_)
  have h2 : wpAny (model X.prog X.w) X.A (getItem (.ref a) u) (EP X pins σ Q) X.xe s := d_getItem hu I g ry fun w' s3 I3 rw' => ⟨z, H, I3, rw', q⟩
  have fin : wpAny (model X.prog X.w) X.A (subscripted slice false (.ref a) u) (fun r s₃ => wpAny (model X.prog X.w) X.A (letTemporaryGo value (.ref a) r >>= fun _ => pure r) (EP X pins σ Q) X.xe s₃) X.xe s := by
    rw [hs]
    exact wpAny_operating (wpAny_mono h2 (fun r s₃ h₃ => wpAny_bind (wpAny_letTemporaryGo (wpAny_pure h₃))) fun _ _ x => x)
  first
    | exact wpAny_pure (wpAny_bind fin)
    | exact wpAny_bind (wpAny_pure (wpAny_bind fin))
    | exact wpAny_bind fin
def rIxA (K : PySem.W.Frag) : R2 := fun x y H Q => rIx K x y H Q ∨ rIxD x y H Q
theorem ix_A (hu : X.A.units + 1 < cLine) : IxR X (rIxA X.K) := ix_seq.or (ix_dict hu)
theorem atI_mem {α : Type} {l : List α} {i : Int} {a : α} (e : L2.atI l i = some a) : a ∈ l := by
  unfold L2.atI at e
  cases q : ixN l.length i with
  | none => rw [q] at e; cases e
  | some j => rw [q] at e; exact List.mem_of_getElem? e
theorem d_ix : Does2 ca K (rIxA K) pIx := by
  intro E B ρ σ H x y v w Q S rx ry h
  unfold pIx at h
  split at h
  · obtain ⟨a, xs, rfl, e, t⟩ := rx
    cases ry
    split at h
    · rename_i d hd
      obtain ⟨z, h1, h2⟩ := t.atI hd
      exact .inl (.inl ⟨a, xs, _, z, rfl, rfl, SqL.of e, h1, h z B H S (Grow.refl B) h2⟩)
    · exact h.elim
  · cases rx with | tup e t => 
      cases ry
      split at h
      · rename_i d hd
        obtain ⟨z, h1, h2⟩ := t.atI hd
        exact .inl (.inr (.inl ⟨_, _, _, z, rfl, rfl, SqT.of (S.sub _ _ e), h1, h z B H S (Grow.refl B) h2⟩))
      · exact h.elim
  · cases rx with | str _ k => 
      cases ry
      split at h
      · rename_i hz
        split at h
        · rename_i c hc
          refine .inl (.inr (.inr ⟨_, _, c, rfl, rfl, by rw [big_eq]; exact hz, hc, h _ B H S (Grow.refl B) (.str _ (strOk_of fun c' hc' => ?_))⟩))
          have e : c' = c := by simpa using hc'
          rw [e]; exact strOk_mem k c (atI_mem hc)
        · exact h.elim
      · exact h.elim
  · obtain ⟨a, rfl, r⟩ := rx
    cases ry
    split at h
    · rename_i n hn
      have r' : SqL K H a _ := S.growH.seqL r
      exact .inl (.inl ⟨a, _, _, _, rfl, rfl, r', atI_map V.int hn, h _ B H S (Grow.refl B) (.int _)⟩)
    · exact h.elim
  · obtain ⟨a, xs, rfl, e, t⟩ := rx
    cases ry
    split at h
    · rename_i d hd
      obtain ⟨z, h1, h2⟩ := t.atI hd
      exact .inl (.inr (.inl ⟨_, _, _, z, rfl, rfl, S.growH.seqT e, h1, h z B H S (Grow.refl B) h2⟩))
    · exact h.elim
  · obtain ⟨a, rfl, hh⟩ := pDict_get S rx ry h
    refine .inr ?_
    rcases hh with ⟨kvs, k, rfl, q, g⟩ | ⟨kvs, k, rfl, q, g⟩
    · rcases g with ⟨g1, g2⟩ | ⟨z, d, g1, g2, g3⟩
      · rw [g2] at q; exact q.elim
      · rw [g2] at q
        exact ⟨a, z, rfl, g1, (show OkV ca K E B ρ σ Q (.d d) from q) z B H S (Grow.refl B) g3⟩
    · rcases g with ⟨g1, g2⟩ | ⟨z, d, g1, g2, g3⟩
      · rw [g2] at q; exact q.elim
      · rw [g2] at q
        exact ⟨a, z, rfl, g1, (show OkV ca K E B ρ σ Q (.d d) from q) z B H S (Grow.refl B) g3⟩
theorem v_ix {W : WX} {a b : Expr} {fa fb : FE} {pos : Pos} (hu : X.A.units + 1 < cLine) (ha : PBo X ca W a fa) (hb : PBo X ca W b fb) (hs : PlainIx b := by intro _ _; rfl) : PVa X ca W (.Subscript a b pos) (e2 pIx fa fb) :=
  pe_imp (pe_ix (ix_A hu) ha hb hs) fun _ _ _ h => two d_ix n_ix h
end
end Pu
/-! The pure layer, part 6: expressions, calls. -/
namespace Pu
open PySem PySem.Spec PyProof.Rows L2
section
variable {X : Cx} {ca : Str → Addr} {W : WX} {e a b c : Expr} {es rest : List Expr} {f fa fb fc : FE} {fo : FO} {ft gt ht : FT} {fs : FA} {pos : Pos}
/-! ### the operators by name -/
theorem v_add (ha : PBo X ca W a fa) (hb : PBo X ca W b fb) : PVa X ca W (.BinOp a .Add b pos) (e2 pAdd fa fb) := v_bin op_addA d_add n_add ha hb
theorem v_sub (ha : PBo X ca W a fa) (hb : PBo X ca W b fb) : PVa X ca W (.BinOp a .Sub b pos) (e2 pSub fa fb) := v_bin op_sub d_sub n_sub ha hb
theorem v_mul (ha : PBo X ca W a fa) (hb : PBo X ca W b fb) : PVa X ca W (.BinOp a .Mult b pos) (e2 pMul fa fb) := v_bin op_mulA d_mul n_mul ha hb
theorem v_div (ha : PBo X ca W a fa) (hb : PBo X ca W b fb) : PVa X ca W (.BinOp a .FloorDiv b pos) (e2 pDiv fa fb) := v_bin op_fdiv d_div n_div ha hb
theorem v_mod (ha : PBo X ca W a fa) (hb : PBo X ca W b fb) : PVa X ca W (.BinOp a .Mod b pos) (e2 pMod fa fb) := v_bin op_mod d_mod n_mod ha hb
theorem v_pow (ha : PBo X ca W a fa) (hb : PBo X ca W b fb) : PVa X ca W (.BinOp a .Pow b pos) (e2 pPow fa fb) := v_bin op_pow d_pow n_pow ha hb
/-- what a comparison needs -/
structure Cmpr (X : Cx) (ca : Str → Addr) (op : CmpOp) (p : PV → PV → Out Bool) where
  r : R2
  o : OpR X (compareOp op) r
  d : DoesC ca X.K r p
  n : Plain2 p
def cEq (hu : X.A.units + 65 < cLine) : Cmpr X ca .Eq pEq := ⟨_, op_eqQ (by omega), d_eq, n_eq⟩
def cNe (hu : X.A.units + 65 < cLine) : Cmpr X ca .NotEq pNe := ⟨_, op_neQ (by omega), d_ne, n_ne⟩
def cLt (hu : X.A.units + 65 < cLine) : Cmpr X ca .Lt pLt := ⟨_, op_ltQ (by omega), d_lt, n_lt⟩
def cLe (hu : X.A.units + 65 < cLine) : Cmpr X ca .LtE pLe := ⟨_, op_leA, d_le, n_le⟩
def cGt (hu : X.A.units + 65 < cLine) : Cmpr X ca .Gt pGt := ⟨_, op_gtA, d_gt, n_gt⟩
def cGe (hu : X.A.units + 65 < cLine) : Cmpr X ca .GtE pGe := ⟨_, op_geA, d_ge, n_ge⟩
def cIs (hu : X.A.units + 65 < cLine) : Cmpr X ca .Is pIs := ⟨_, op_isA, d_is, n_is⟩
def cIsNot (hu : X.A.units + 65 < cLine) : Cmpr X ca .IsNot pIsNot := ⟨_, op_isnotA, d_isnot, n_isnot⟩
def cIn (hu : X.A.units + 65 < cLine) : Cmpr X ca .In pIn := ⟨_, op_inA hu, d_in', n_in⟩
def cNotIn (hu : X.A.units + 65 < cLine) : Cmpr X ca .NotIn pNotIn := ⟨_, op_notinA hu, d_notin, n_notin⟩
theorem t_c {op : CmpOp} {p : PV → PV → Out Bool} (k : Cmpr X ca op p) (ha : PBo X ca W a fa) (hb : PBo X ca W b fb) (hm : behindInMarks op b = false := by first | exact nomark _ | rfl) : PTe X ca W (.Compare a [op] [b] pos) (eC2 p fa fb) := t_cmp k.o k.d k.n ha hb hm
theorem v_c {op : CmpOp} {p : PV → PV → Out Bool} (k : Cmpr X ca op p) (ha : PBo X ca W a fa) (hb : PBo X ca W b fb) (hm : behindInMarks op b = false := by first | exact nomark _ | rfl) : PVa X ca W (.Compare a [op] [b] pos) (eT (eC2 p fa fb)) := v_cmp k.o k.d k.n ha hb hm
/-- a < b < c -/
def eCh (p q : PV → PV → Out Bool) (fa fb fc : FE) : FT := fun ρ => fa ρ >>= fun u => fb ρ >>= fun v => p u v >>= fun k => if k = true then fc ρ >>= fun w => q v w else .ok false
theorem chain_of {op op' : CmpOp} {p q : PV → PV → Out Bool} (k : Cmpr X ca op p) (k' : Cmpr X ca op' q) {σ : L2.St} {H : Hp} {Q : Bool → Hp → Prop} {Q' : VK} (h : tT ca X.K W (eCh p q fa fb fc) σ H Q) (hQ : ∀ k H, Q k H → Q' (.bl k) H) :
    tChain k.r k'.r (tB ca X.K W fa) (tB ca X.K W fb) (tB ca X.K W fc) σ H Q' := by
  obtain ⟨E, B, ρ, S, z⟩ := h
  refine ⟨E, B, ρ, S, (Ans.bind z).imp (fun u hu x B1 H1 S1 g1 r1 => ⟨E, B1, ρ, S1, (Ans.bind hu).imp (fun v hv y B2 H2 S2 g2 r2 => ?_) fun _ _ z => z⟩) fun _ _ z => z⟩
  refine k.d E B2 ρ σ H2 x y u v _ S2 (S2.lookC (r1.mono g2)) (S2.lookC r2) ((Ans.plain (Ans.bind hv) (k.n u v)).imp (fun d hd => ⟨d, rfl, ?_⟩) fun _ _ z => z)
  cases d with
  | false =>
    rw [if_neg Bool.false_ne_true]
    exact hQ _ _ ((show OkT ca X.K E B ρ σ Q false from hd) B2 H2 S2 (g1.trans g2))
  | true =>
    rw [if_pos rfl]
    refine ⟨E, B2, ρ, S2, (Ans.bind hd).imp (fun w hw t B3 H3 S3 g3 r3 => ?_) fun _ _ z => z⟩
    exact k'.d E B3 ρ σ H3 y t v w Q' S3 (S3.lookC (r2.mono g3)) (S3.lookC r3) ((Ans.plain hw (k'.n v w)).imp (fun d hd => hQ _ _ (hd B3 H3 S3 ((g1.trans g2).trans g3))) fun _ _ z => z)
theorem t_ch {op op' : CmpOp} {p q : PV → PV → Out Bool} (k : Cmpr X ca op p) (k' : Cmpr X ca op' q) (ha : PBo X ca W a fa) (hb : PBo X ca W b fb) (hc : PBo X ca W c fc) (hm : lastMarks [op, op'] [b, c] = false := by with_unfolding_all rfl) : PTe X ca W (.Compare a [op, op'] [b, c] pos) (eCh p q fa fb fc) :=
  pt_imp (pt_chain k.o k'.o ha hb hc hm) fun σ H Q h => chain_of k k' h fun k H q => ⟨k, rfl, q⟩
theorem v_ch {op op' : CmpOp} {p q : PV → PV → Out Bool} (k : Cmpr X ca op p) (k' : Cmpr X ca op' q) (ha : PBo X ca W a fa) (hb : PBo X ca W b fb) (hc : PBo X ca W c fc) (hm : lastMarks [op, op'] [b, c] = false := by with_unfolding_all rfl) : PVa X ca W (.Compare a [op, op'] [b, c] pos) (eT (eCh p q fa fb fc)) :=
  vt (pe_chain k.o k'.o ha hb hc hm) fun σ H Q h => chain_of k k' h fun k H q => q

/-! ### and, or, not, if -/
def eAnd (t u : FT) : FT := fun ρ => t ρ >>= fun k => if k = true then u ρ else .ok false
def eOr (t u : FT) : FT := fun ρ => t ρ >>= fun k => if k = true then .ok true else u ρ
def eNot (t : FT) : FT := fun ρ => t ρ >>= fun k => .ok (!k)
theorem w_and1 (ha : PTe X ca W a ft) : PWe X ca W (.BoolOp .And [a] pos) ft := pw_and1 ha
theorem w_or1 (ha : PTe X ca W a ft) : PWe X ca W (.BoolOp .Or [a] pos) ft := pw_or1 ha
theorem w_and (ha : PTe X ca W a ft) (hb : PWe X ca W (.BoolOp .And (b :: rest) pos) gt) : PWe X ca W (.BoolOp .And (a :: b :: rest) pos) (eAnd ft gt) :=
  pw_imp (pw_and ha hb) fun σ H Q ⟨E, B, ρ, S, z⟩ => ⟨E, B, ρ, S, (Ans.bind z).imp (fun k hk B1 H1 S1 g1 => by
    cases k with
    | true => rw [if_pos rfl] at hk ⊢; exact ⟨E, B1, ρ, S1, hk.imp (fun k' hk' B2 H2 S2 g2 => hk' B2 H2 S2 (g1.trans g2)) fun _ _ z => z⟩
    | false => rw [if_neg Bool.false_ne_true] at hk ⊢; exact (show OkT ca X.K E B ρ σ Q false from hk) B1 H1 S1 g1) fun _ _ z => z⟩
theorem w_or (ha : PTe X ca W a ft) (hb : PWe X ca W (.BoolOp .Or (b :: rest) pos) gt) : PWe X ca W (.BoolOp .Or (a :: b :: rest) pos) (eOr ft gt) :=
  pw_imp (pw_or ha hb) fun σ H Q ⟨E, B, ρ, S, z⟩ => ⟨E, B, ρ, S, (Ans.bind z).imp (fun k hk B1 H1 S1 g1 => by
    cases k with
    | false => rw [if_neg Bool.false_ne_true] at hk ⊢; exact ⟨E, B1, ρ, S1, hk.imp (fun k' hk' B2 H2 S2 g2 => hk' B2 H2 S2 (g1.trans g2)) fun _ _ z => z⟩
    | true => rw [if_pos rfl] at hk ⊢; exact (show OkT ca X.K E B ρ σ Q true from hk) B1 H1 S1 g1) fun _ _ z => z⟩
theorem t_w (h : PWe X ca W e ft) : PTe X ca W e ft := h.pt
theorem t_not (ha : PTe X ca W a ft) : PTe X ca W (.UnaryOp .Not a pos) (eNot ft) :=
  pt_imp (pt_not ha) fun σ H Q ⟨E, B, ρ, S, z⟩ => ⟨E, B, ρ, S, (Ans.bind z).imp (fun k hk B1 H1 S1 g1 => (show OkT ca X.K E B ρ σ Q (!k) from hk) B1 H1 S1 g1) fun _ _ z => z⟩
/-- .. as values: all but the last True or False -/
def eAndV (f g : FE) : FE := fun ρ => f ρ >>= fun v => match v with
  | .d (.bool true) => g ρ
  | .d (.bool false) => .ok (.d (.bool false))
  | _ => .no
def eOrV (f g : FE) : FE := fun ρ => f ρ >>= fun v => match v with
  | .d (.bool true) => .ok (.d (.bool true))
  | .d (.bool false) => g ρ
  | _ => .no
def eNotV (f : FE) : FE := fun ρ => f ρ >>= fun v => match v with
  | .d (.bool k) => .ok (.d (.bool (!k)))
  | _ => .no
theorem v_one {op} (ha : PVa X ca W a fa) : PVa X ca W (.BoolOp op [a] pos) fa := pe_one ha
theorem v_and (ha : PVa X ca W a fa) (hb : PVa X ca W (.BoolOp .And (b :: rest) pos) fb) : PVa X ca W (.BoolOp .And (a :: b :: rest) pos) (eAndV fa fb) :=
  pe_imp (pe_and ha hb) fun σ H Q ⟨E, B, ρ, S, z⟩ => ⟨E, B, ρ, S, (Ans.bind z).imp (fun v hv x B1 H1 S1 g1 r1 => by
    split at hv
    · cases r1
      refine ⟨true, rfl, ?_⟩
      rw [if_pos rfl]
      exact ⟨E, B1, ρ, S1, hv.imp (fun k' hk' y B2 H2 S2 g2 r2 => hk' y B2 H2 S2 (g1.trans g2) r2) fun _ _ z => z⟩
    · cases r1
      refine ⟨false, rfl, ?_⟩
      rw [if_neg Bool.false_ne_true]
      exact (show OkV ca X.K E B ρ σ Q (.d (.bool false)) from hv) _ B1 H1 S1 g1 (.bl false)
    · exact hv.elim) fun _ _ z => z⟩
theorem v_or (ha : PVa X ca W a fa) (hb : PVa X ca W (.BoolOp .Or (b :: rest) pos) fb) : PVa X ca W (.BoolOp .Or (a :: b :: rest) pos) (eOrV fa fb) :=
  pe_imp (pe_or ha hb) fun σ H Q ⟨E, B, ρ, S, z⟩ => ⟨E, B, ρ, S, (Ans.bind z).imp (fun v hv x B1 H1 S1 g1 r1 => by
    split at hv
    · cases r1
      refine ⟨true, rfl, ?_⟩
      rw [if_pos rfl]
      exact (show OkV ca X.K E B ρ σ Q (.d (.bool true)) from hv) _ B1 H1 S1 g1 (.bl true)
    · cases r1
      refine ⟨false, rfl, ?_⟩
      rw [if_neg Bool.false_ne_true]
      exact ⟨E, B1, ρ, S1, hv.imp (fun k' hk' y B2 H2 S2 g2 r2 => hk' y B2 H2 S2 (g1.trans g2) r2) fun _ _ z => z⟩
    · exact hv.elim) fun _ _ z => z⟩
theorem v_not (ha : PVa X ca W a fa) : PVa X ca W (.UnaryOp .Not a pos) (eNotV fa) :=
  pe_imp (pe_not ha) fun σ H Q ⟨E, B, ρ, S, z⟩ => ⟨E, B, ρ, S, (Ans.bind z).imp (fun v hv x B1 H1 S1 g1 r1 => by
    split at hv
    · cases r1
      exact ⟨_, rfl, (show OkV ca X.K E B ρ σ Q _ from hv) _ B1 H1 S1 g1 (.bl _)⟩
    · exact hv.elim) fun _ _ z => z⟩
def eIf (t : FT) (f g : FE) : FE := fun ρ => t ρ >>= fun k => if k = true then f ρ else g ρ
theorem v_if (hc : PTe X ca W c ft) (ha : PVa X ca W a fa) (hb : PVa X ca W b fb) : PVa X ca W (.IfExp c a b pos) (eIf ft fa fb) :=
  pe_imp (pe_ifExp hc ha hb) fun σ H Q ⟨E, B, ρ, S, z⟩ => ⟨E, B, ρ, S, (Ans.bind z).imp (fun k hk B1 H1 S1 g1 => by
    cases k with
    | true => rw [if_pos rfl] at hk ⊢; exact ⟨E, B1, ρ, S1, hk.imp (fun k' hk' y B2 H2 S2 g2 r2 => hk' y B2 H2 S2 (g1.trans g2) r2) fun _ _ z => z⟩
    | false => rw [if_neg Bool.false_ne_true] at hk ⊢; exact ⟨E, B1, ρ, S1, hk.imp (fun k' hk' y B2 H2 S2 g2 r2 => hk' y B2 H2 S2 (g1.trans g2) r2) fun _ _ z => z⟩) fun _ _ z => z⟩
/-- -a -/
def eNeg (f : FE) : FE := fun ρ => f ρ >>= fun v => match v with
  | .d (.int i) => .ok (.d (.int (-i)))
  | _ => .no
theorem v_neg (ha : PBo X ca W a fa) : PVa X ca W (.UnaryOp .USub a pos) (eNeg fa) :=
  pe_imp (pe_un un_neg ha) fun σ H Q ⟨E, B, ρ, S, z⟩ => ⟨E, B, ρ, S, (Ans.bind z).imp (fun v hv x B1 H1 S1 g1 r1 => by
    split at hv
    · have r := S1.look r1
      cases r
      exact ⟨_, rfl, (show OkV ca X.K E B ρ σ Q _ from hv) _ B1 H1 S1 g1 (.int _)⟩
    · exact hv.elim) fun _ _ z => z⟩

/-! ### displays -/
def datas : List PV → Out (List PyData)
  | [] => .ok []
  | .d x :: r => datas r >>= fun xs => .ok (x :: xs)
  | _ :: _ => .no
theorem datas_rep {K : PySem.W.Frag} {B : Hp} : ∀ {xs : List V} {vs : List PV} {ds : List PyData}, Paired (RepV ca K B) xs vs → datas vs = .ok ds → Dqs B xs ds
  | _, _, ds, .nil, e => by unfold datas at e; cases e; exact .nil
  | _, _, ds, .cons (b := v) r t, e => by
    cases v with
    | d y =>
      unfold datas at e
      cases q : datas _ with
      | ok ys => rw [q] at e; cases e; exact .cons r (datas_rep t q)
      | err c fs => rw [q] at e; cases e
      | no => rw [q] at e; cases e
    | _ => unfold datas at e; cases e
theorem datas_plain : ∀ (vs : List PV) c fs, datas vs ≠ .err c fs
  | [], c, fs => by unfold datas; simp
  | v :: r, c, fs => by
    cases v with
    | d y =>
      unfold datas
      cases q : datas r with
      | ok ys => simp [ok_bind]
      | err c' fs' => exact absurd q (datas_plain r c' fs')
      | no => simp [no_bind]
    | _ => unfold datas; simp
def eTup (fs : FA) : FE := fun ρ => fs ρ >>= fun vs => datas vs >>= fun ds => if ds.length ≤ big then .ok (.d (.tuple ds)) else .no
def oLst (fs : FA) : FO := fun ρ => fs ρ >>= fun vs => datas vs >>= fun ds => if ds.length ≤ big then .ok (.lst ds) else .no
theorem v_tup {k} (h : PAV X ca W es fs) : PVa X ca W (.Tuple es k pos) (eTup fs) :=
  pe_imp (pe_tup h) fun σ H Q ⟨E, B, ρ, S, z⟩ => ⟨E, B, ρ, S, (Ans.bind z).imp (fun vs hvs xs B1 H1 S1 g1 r1 => by
    cases q : datas vs with
    | err c fs => exact absurd q (datas_plain vs c fs)
    | no => rw [q] at hvs; exact hvs.elim
    | ok ds =>
      rw [q, ok_bind] at hvs
      have r := datas_rep r1 q
      split at hvs
      · rename_i hl
        refine ⟨by rw [r.length, big_eq]; exact hl, fun p hp => ?_⟩
        obtain ⟨S', g⟩ := S1.laid (o := .tup xs) hp
        exact (show OkV ca X.K E B ρ σ Q (.d (.tuple ds)) from hvs) _ _ _ S' (g1.trans g) (.tup upd_same (Dqs.mono g _ _ r))
      · exact hvs.elim) fun _ _ z => z⟩
theorem o_lst (h : PAV X ca W es fs) : POw X ca W (.List es pos) (oLst fs) :=
  pe_imp (pe_lst h) fun σ H Q ⟨E, B, ρ, S, z⟩ => ⟨E, B, ρ, S, (Ans.bind z).imp (fun vs hvs xs B1 H1 S1 g1 r1 => by
    cases q : datas vs with
    | err c fs => exact absurd q (datas_plain vs c fs)
    | no => rw [q] at hvs; exact hvs.elim
    | ok ds =>
      rw [q, ok_bind] at hvs
      have r := datas_rep r1 q
      split at hvs
      · rename_i hl
        refine ⟨by rw [r.length, big_eq]; exact hl, fun p hp => ?_⟩
        have S' := S1.laidO (u := .lst xs) (o := .lst ds) hp ⟨rfl, xs, upd_same, r⟩
        exact (show OkO ca X.K E B ρ σ Q (.lst ds) from hvs) _ _ _ S' g1
      · exact hvs.elim) fun _ _ z => z⟩

/-! ### slices -/
abbrev FP := List Slot → Out (Option Int)
def tP (ca : Str → Addr) (K : PySem.W.Frag) (W : WX) (f : FP) : TO := fun σ H Q => ∃ E B ρ, SR ca K E B ρ σ H ∧ Ans (f ρ) (fun o => ∀ B' H', SR ca K E B' ρ σ H' → Grow B B' → Q o H') (XW ca K W E ρ σ)
theorem po_imp {X : Cx} {e : Option Expr} {t t' : TO} (h : PO X e t) (i : ∀ σ H Q, t' σ H Q → t σ H Q) : PO X e t' := ⟨fun pins s σ H Q I q => h.run pins s σ H Q I (i σ H Q q)⟩
def pNone : FP := fun _ => .ok none
def pSome (f : FE) : FP := fun ρ => f ρ >>= fun v => match v with
  | .d (.int i) => .ok (some i)
  | _ => .no
theorem p_none : PO X none (tP ca X.K W pNone) := po_imp po_none fun σ H Q ⟨E, B, ρ, S, z⟩ => (show ∀ B' H', SR ca X.K E B' ρ σ H' → Grow B B' → Q none H' from z) B H S (Grow.refl B)
theorem p_some (h : PBo X ca W e f) : PO X (some e) (tP ca X.K W (pSome f)) := po_imp (po_some h) fun σ H Q ⟨E, B, ρ, S, z⟩ => ⟨E, B, ρ, S, (Ans.bind z).imp (fun v hv x B1 H1 S1 g1 r1 => by
    split at hv
    · have r := S1.look r1
      cases r
      exact ⟨_, rfl, (show ∀ B' H', SR ca X.K E B' ρ σ H' → Grow B B' → Q _ H' from hv) B1 H1 S1 g1⟩
    · exact hv.elim) fun _ _ z => z⟩
/-- xs[lo:hi] -/
def cut {α : Type} (xs : List α) (lo hi : Option Int) : List α := (xs.drop (HT.sIx xs.length 0 lo)).take (HT.sIx xs.length xs.length hi - HT.sIx xs.length 0 lo)
theorem Dqs.cut {B : Hp} {xs : List V} {ds : List PyData} (h : Dqs B xs ds) (lo hi : Option Int) : Dqs B (cutV xs lo hi) (Pu.cut ds lo hi) := by
  unfold cutV Pu.cut
  rw [h.length]
  exact (h.drop _).take _
def pSl (v : PV) (lo hi : Option Int) : Out PV := match v with
  | .d (.list ds) => .ok (.d (.list (cut ds lo hi)))
  | .d (.tuple ds) => .ok (.d (.tuple (cut ds lo hi)))
  | .d (.str z) => if z.length ≤ big then .ok (.d (.str (cutS z lo hi))) else .no
  | _ => .no
def eSl (f : FE) (lo hi : FP) : FE := fun ρ => f ρ >>= fun v => lo ρ >>= fun l => hi ρ >>= fun u => pSl v l u
def oSl (f : FE) (lo hi : FP) : FO := fun ρ => f ρ >>= fun v => lo ρ >>= fun l => hi ρ >>= fun u => match v with
  | .d (.list ds) => .ok (.lst (cut ds l u))
  | _ => .no
def rSlAll (K : PySem.W.Frag) : V → Option Int → Option Int → Hp → VK → Prop := fun x lo hi H Q => rSlL K x lo hi H Q ∨ (rSlA K x lo hi H Q ∨ rSlS x lo hi H Q)
theorem sl_all : SlR X (rSlAll X.K) := sl_list.or (sl_tupA.or sl_str)
theorem cut_all {α : Type} {xs : List α} {lo hi : Option Int} (h : HT.sIx xs.length 0 lo = 0 ∧ HT.sIx xs.length xs.length hi = xs.length) : cut xs lo hi = xs := by
  unfold cut
  rw [h.1, h.2, List.drop_zero, Nat.sub_zero, List.take_length]
variable {lo hi : Option Expr} {pl ph : FP} {p2 : Pos}
theorem v_sl (he : PBo X ca W e f) (hl : PO X lo (tP ca X.K W pl)) (hh : PO X hi (tP ca X.K W ph)) : PVa X ca W (.Subscript e (.Slice lo hi none p2) pos) (eSl f pl ph) :=
  pe_imp (pe_slice sl_all he hl hh) fun σ H Q ⟨E, B, ρ, S, z⟩ => ⟨E, B, ρ, S, (Ans.bind z).imp (fun v hv x B1 H1 S1 g1 r1 => ⟨E, B1, ρ, S1, (Ans.bind hv).imp (fun l hl B2 H2 S2 g2 => ⟨E, B2, ρ, S2, (Ans.bind hl).imp (fun u hu B3 H3 S3 g3 => by
    have r := S3.lookC (r1.mono (g2.trans g3))
    have g := (g1.trans g2).trans g3
    unfold pSl at hu
    split at hu
    · obtain ⟨a, xs, rfl, e, t⟩ := r
      refine .inl ⟨a, xs, rfl, SqL.of e, fun p hp => ?_⟩
      obtain ⟨S', g'⟩ := S3.laid (o := .lst (cutV xs l u)) hp
      exact (show OkV ca X.K E B ρ σ Q _ from hu) _ _ _ S' (g.trans g') (.lst upd_same (Dqs.mono g' _ _ (t.cut l u)))
    · cases r with | tup e t => 
        rename_i xs
        refine .inr (.inl ⟨_, xs, rfl, SqT.of (S3.sub _ _ e), fun hw => ?_, fun hw p hp => ?_⟩)
        · refine (show OkV ca X.K E B ρ σ Q _ from hu) _ _ _ S3 g (.tup e ?_)
          rw [t.length] at hw
          rw [cut_all hw]; exact t
        · obtain ⟨S', g'⟩ := S3.laid (o := .tup (cutV xs l u)) hp
          exact (show OkV ca X.K E B ρ σ Q _ from hu) _ _ _ S' (g.trans g') (.tup upd_same (Dqs.mono g' _ _ (t.cut l u)))
    · cases r with | str _ k => 
        split at hu
        · rename_i hz
          refine .inr (.inr ⟨_, rfl, by rw [big_eq]; exact hz, (show OkV ca X.K E B ρ σ Q _ from hu) _ _ _ S3 g (.str _ (strOk_of fun c hc => ?_))⟩)
          refine strOk_mem k c ?_
          unfold cutS at hc
          exact List.mem_of_mem_drop (List.mem_of_mem_take (by simpa using hc))
        · exact hu.elim
    · exact hu.elim) fun _ _ z => z⟩) fun _ _ z => z⟩) fun _ _ z => z⟩
theorem o_sl (he : PBo X ca W e f) (hl : PO X lo (tP ca X.K W pl)) (hh : PO X hi (tP ca X.K W ph)) : POw X ca W (.Subscript e (.Slice lo hi none p2) pos) (oSl f pl ph) :=
  pe_imp (pe_slice sl_list he hl hh) fun σ H Q ⟨E, B, ρ, S, z⟩ => ⟨E, B, ρ, S, (Ans.bind z).imp (fun v hv x B1 H1 S1 g1 r1 => ⟨E, B1, ρ, S1, (Ans.bind hv).imp (fun l hl B2 H2 S2 g2 => ⟨E, B2, ρ, S2, (Ans.bind hl).imp (fun u hu B3 H3 S3 g3 => by
    have r := S3.lookC (r1.mono (g2.trans g3))
    have g := (g1.trans g2).trans g3
    split at hu
    · obtain ⟨a, xs, rfl, e, t⟩ := r
      refine ⟨a, xs, rfl, SqL.of e, fun p hp => ?_⟩
      have S' := S3.laidO (u := .lst (cutV xs l u)) (o := .lst (cut _ l u)) hp ⟨rfl, _, upd_same, t.cut l u⟩
      exact (show OkO ca X.K E B ρ σ Q _ from hu) _ _ _ S' g
    · exact hu.elim) fun _ _ z => z⟩) fun _ _ z => z⟩) fun _ _ z => z⟩
/-- xs[::-1] -/
def oRev (f : FE) : FO := fun ρ => f ρ >>= fun v => match v with
  | .d (.list ds) => .ok (.lst ds.reverse)
  | _ => .no
theorem o_rev {k : Nat} {p1 p2 p3 : Pos} (he : PBo X ca W e f) : POw X ca W (.Subscript e (.Slice none none (some (.UnaryOp .USub (.Constant (.int 1) k p1) p2)) p3) pos) (oRev f) :=
  pe_imp (pe_revL he) fun σ H Q ⟨E, B, ρ, S, z⟩ => ⟨E, B, ρ, S, (Ans.bind z).imp (fun v hv x B1 H1 S1 g1 r1 => by
    have r := S1.lookC r1
    split at hv
    · obtain ⟨a, xs, rfl, e, t⟩ := r
      refine ⟨a, xs, rfl, SqL.of e, fun p hp => ?_⟩
      have S' := S1.laidO (u := .lst xs.reverse) (o := .lst _) hp ⟨rfl, _, upd_same, t.reverse⟩
      exact (show OkO ca X.K E B ρ σ Q _ from hv) _ _ _ S' g1
    · exact hv.elim) fun _ _ z => z⟩
end
end Pu
/-! The pure layer, part 7: calls of built-ins, of defs, of methods. -/
namespace Pu
open PySem PySem.Spec PyProof.Rows L2
section
variable {X : Cx} {ca : Str → Addr} {W : WX} {e a b c : Expr} {es rest : List Expr} {f fa fb fc : FE} {fo : FO} {ft gt ht : FT} {fs : FA} {pos p : Pos} {x : Str} {id T : String} {r : List V → Hp → VK → Prop}
/-! ### built-ins by values -/
def DoesN (ca : Str → Addr) (K : PySem.W.Frag) (r : List V → Hp → VK → Prop) (p : List PV → Out PV) : Prop :=
  ∀ (E : Ent) (B : Hp) (ρ : List Slot) (σ : L2.St) (H : Hp) (xs : List V) (vs : List PV) (Q : VK), SR ca K E B ρ σ H → Paired (RepC ca K B H) xs vs → Ans (p vs) (OkV ca K E B ρ σ Q) (fun _ _ => False) → r xs H Q
def DoesNO (ca : Str → Addr) (K : PySem.W.Frag) (r : List V → Hp → VK → Prop) (p : List PV → Out OV) : Prop :=
  ∀ (E : Ent) (B : Hp) (ρ : List Slot) (σ : L2.St) (H : Hp) (xs : List V) (vs : List PV) (Q : VK), SR ca K E B ρ σ H → Paired (RepC ca K B H) xs vs → Ans (p vs) (OkO ca K E B ρ σ Q) (fun _ _ => False) → r xs H Q
def Plain1 {α : Type} (p : List PV → Out α) : Prop := ∀ vs c fs, p vs ≠ .err c fs
def eN (p : List PV → Out PV) (fs : FA) : FE := fun ρ => fs ρ >>= p
def oN (p : List PV → Out OV) (fs : FA) : FO := fun ρ => fs ρ >>= p
theorem SR.lookAll {K : PySem.W.Frag} {E : Ent} {B H : Hp} {ρ : List Slot} {σ : L2.St} (S : SR ca K E B ρ σ H) {xs : List V} {vs : List PV} (h : Paired (BV ca K B ρ σ) xs vs) : Paired (RepC ca K B H) xs vs := Paired.mapP h fun _ _ r => S.lookC r
theorem many {p : List PV → Out PV} (d : DoesN ca X.K r p) (n : Plain1 p) {σ : L2.St} {H : Hp} {Q : VK} (h : tV ca X.K W (eN p fs) σ H Q) : tCB r (tAB ca X.K W fs) σ H Q := by
  obtain ⟨E, B, ρ, S, z⟩ := h
  exact ⟨E, B, ρ, S, (Ans.bind z).imp (fun vs hvs xs B1 H1 S1 g1 r1 => d E B1 ρ σ H1 xs vs Q S1 (S1.lookAll r1) ((Ans.plain hvs (n vs)).imp (fun v hv y B2 H2 S2 g2 r2 => hv y B2 H2 S2 (g1.trans g2) r2) fun _ _ z => z)) fun _ _ z => z⟩
theorem manyO {p : List PV → Out OV} (d : DoesNO ca X.K r p) (n : Plain1 p) {σ : L2.St} {H : Hp} {Q : VK} (h : tO ca X.K W (oN p fs) σ H Q) : tCB r (tAB ca X.K W fs) σ H Q := by
  obtain ⟨E, B, ρ, S, z⟩ := h
  exact ⟨E, B, ρ, S, (Ans.bind z).imp (fun vs hvs xs B1 H1 S1 g1 r1 => d E B1 ρ σ H1 xs vs Q S1 (S1.lookAll r1) ((Ans.plain hvs (n vs)).imp (fun v hv y B2 H2 S2 g2 => hv y B2 H2 S2 (g1.trans g2)) fun _ _ z => z)) fun _ _ z => z⟩
/-- a built-in function or type of one name -/
structure Bi (X : Cx) (ca : Str → Addr) (v : Value) (p : List PV → Out PV) where
  r : List V → Hp → VK → Prop
  o : CallR X v r
  d : DoesN ca X.K r p
  n : Plain1 p
structure BiO (X : Cx) (ca : Str → Addr) (v : Value) (p : List PV → Out OV) where
  r : List V → Hp → VK → Prop
  o : CallR X v r
  d : DoesNO ca X.K r p
  n : Plain1 p
variable {q : List PV → Out PV} {qo : List PV → Out OV}
theorem v_b (k : Bi X ca (.builtin id) q) (ha : PAB X ca W (e :: es) fs) (hm : X.mg x = none) (hg : Gl X x := by rfl) (hv : bootBuiltins x = some (.builtin id) := by decide +kernel) (hn : x ≠ "__name__" := by decide) (hdb : (x == ("__debug__" : Str)) = false := by decide)
    (he : starEach (e :: es) X.env = (false, eval e X.env) :: starEach es X.env := by rfl) (hpl : (backTo pos (starEach es X.env)).any (·.1) = false := by rfl) : PVa X ca W (.Call (.Name x p) (e :: es) [] pos) (eN q fs) := pe_imp (pe_callB k.o hg hm hv ha hn hdb he hpl) fun _ _ _ h => many k.d k.n h
theorem v_t (k : Bi X ca (.type T) q) (ha : PAB X ca W (e :: es) fs) (hm : X.mg x = none) (hg : Gl X x := by rfl) (hv : bootBuiltins x = some (.type T) := by decide +kernel) (hn : x ≠ "__name__" := by decide) (hdb : (x == ("__debug__" : Str)) = false := by decide)
    (he : starEach (e :: es) X.env = (false, eval e X.env) :: starEach es X.env := by rfl) (hpl : (backTo pos (starEach es X.env)).any (·.1) = false := by rfl) : PVa X ca W (.Call (.Name x p) (e :: es) [] pos) (eN q fs) := pe_imp (pe_callTy k.o hg hm hv ha hn hdb he hpl) fun _ _ _ h => many k.d k.n h
theorem o_b (k : BiO X ca (.builtin id) qo) (ha : PAB X ca W (e :: es) fs) (hm : X.mg x = none) (hg : Gl X x := by rfl) (hv : bootBuiltins x = some (.builtin id) := by decide +kernel) (hn : x ≠ "__name__" := by decide) (hdb : (x == ("__debug__" : Str)) = false := by decide)
    (he : starEach (e :: es) X.env = (false, eval e X.env) :: starEach es X.env := by rfl) (hpl : (backTo pos (starEach es X.env)).any (·.1) = false := by rfl) : POw X ca W (.Call (.Name x p) (e :: es) [] pos) (oN qo fs) := pe_imp (pe_callB k.o hg hm hv ha hn hdb he hpl) fun _ _ _ h => manyO k.d k.n h
theorem o_t (k : BiO X ca (.type T) qo) (ha : PAB X ca W (e :: es) fs) (hm : X.mg x = none) (hg : Gl X x := by rfl) (hv : bootBuiltins x = some (.type T) := by decide +kernel) (hn : x ≠ "__name__" := by decide) (hdb : (x == ("__debug__" : Str)) = false := by decide)
    (he : starEach (e :: es) X.env = (false, eval e X.env) :: starEach es X.env := by rfl) (hpl : (backTo pos (starEach es X.env)).any (·.1) = false := by rfl) : POw X ca W (.Call (.Name x p) (e :: es) [] pos) (oN qo fs) := pe_imp (pe_callTy k.o hg hm hv ha hn hdb he hpl) fun _ _ _ h => manyO k.d k.n h

/-! len, int, str, max, min, sum, all, any, gcd, abs -/
def pLen : List PV → Out PV
  | [.d (.str z)] => if z.length ≤ big then .ok (.d (.int z.length)) else .no
  | [.d (.list ds)] => .ok (.d (.int ds.length))
  | [.d (.tuple ds)] => .ok (.d (.int ds.length))
  | [.scr ns] => .ok (.d (.int ns.length))
  | [.kt ds] => .ok (.d (.int ds.length))
  | _ => .no
def biLen : Bi X ca (.builtin "len") pLen where
  r := _
  o := call_len
  n := by intro vs c fs; unfold pLen; split <;> (try split) <;> simp
  d := by
    intro E B ρ σ H xs vs Q S rs h
    unfold pLen at h
    split at h
    · cases rs with | cons r t => 
        cases t
        cases r
        split at h
        · rename_i hz
          exact ⟨_, _, rfl, ⟨by rw [big_eq]; exact hz, rfl⟩, h _ B H S (Grow.refl B) (.int _)⟩
        · exact h.elim
    · cases rs with | cons r t => 
        cases t
        obtain ⟨a, xs, rfl, e, t⟩ := r
        exact ⟨_, _, rfl, .inl ⟨xs, SqL.of e, rfl⟩, h _ B H S (Grow.refl B) (by rw [t.length]; exact .int _)⟩
    · cases rs with | cons r t => 
        cases t
        cases r with | tup e t => exact ⟨_, _, rfl, .inr ⟨_, SqT.of (S.sub _ _ e), rfl⟩, h _ B H S (Grow.refl B) (by rw [t.length]; exact .int _)⟩
    · cases rs with | cons r t => 
        cases t
        obtain ⟨a, rfl, r⟩ := r
        exact ⟨_, _, rfl, .inl ⟨_, S.growH.seqL r, rfl⟩, h _ B H S (Grow.refl B) (by rw [List.length_map]; exact .int _)⟩
    · cases rs with | cons r t => 
        cases t
        obtain ⟨a, xs, rfl, e, t⟩ := r
        exact ⟨_, _, rfl, .inr ⟨_, S.growH.seqT e, rfl⟩, h _ B H S (Grow.refl B) (by rw [t.length]; exact .int _)⟩
    · exact h.elim
def pInt : List PV → Out PV
  | [.d (.int i)] => .ok (.d (.int i))
  | [.d (.bool k)] => .ok (.d (.int (if k then 1 else 0)))
  | [.d (.str z)] => match PySem.intText? z with
    | some n => if z.length ≤ 640 then .ok (.d (.int n)) else .no
    | none => .no
  | _ => .no
def biInt : Bi X ca (.type "int") pInt where
  r := _
  o := call_int1.or call_int_str
  n := by intro vs c fs; unfold pInt; split <;> (try split) <;> (try split) <;> simp
  d := by
    intro E B ρ σ H xs vs Q S rs h
    unfold pInt at h
    split at h
    · cases rs with | cons r t => 
        cases t; cases r
        exact .inl (.inl ⟨_, rfl, h _ B H S (Grow.refl B) (.int _)⟩)
    · cases rs with | cons r t => 
        cases t; cases r
        exact .inl (.inr ⟨_, rfl, h _ B H S (Grow.refl B) (.int _)⟩)
    · cases rs with | cons r t => 
        cases t; cases r
        split at h
        · rename_i n hn
          split at h
          · rename_i hz
            exact .inr ⟨_, n, rfl, hn, hz, h _ B H S (Grow.refl B) (.int _)⟩
          · exact h.elim
        · exact h.elim
    · exact h.elim
def pStr : List PV → Out PV
  | [.d (.int i)] => if i.natAbs.log2 < 1920 then .ok (.d (.str (Str.ofString (toString i)))) else .no
  | [.d (.str z)] => .ok (.d (.str z))
  | _ => .no
def biStr : Bi X ca (.type "str") pStr where
  r := _
  o := call_str_int.or SkE.call_str_str
  n := by intro vs c fs; unfold pStr; split <;> (try split) <;> simp
  d := by
    intro E B ρ σ H xs vs Q S rs h
    unfold pStr at h
    split at h
    · cases rs with | cons r t => 
        cases t; cases r
        split at h
        · rename_i hz
          exact .inl ⟨_, rfl, hz, h _ B H S (Grow.refl B) (.str _ (strOk_ofString _))⟩
        · exact h.elim
    · cases rs with | cons r t => 
        cases t
        cases r with | str _ k => exact .inr ⟨_, rfl, h _ B H S (Grow.refl B) (.str _ k)⟩
    · exact h.elim
def intsOf : List PyData → Option (List Int)
  | [] => some []
  | .int i :: r => (intsOf r).map (i :: ·)
  | _ :: _ => none
theorem intsOf_v {B : Hp} : ∀ {xs : List V} {ds : List PyData} {ns : List Int}, Dqs B xs ds → intsOf ds = some ns → xs = ns.map V.int
  | _, _, _, .nil, e => by unfold intsOf at e; cases e; rfl
  | _, _, ns, .cons (d := d) r t, e => by
    cases d with
    | int i =>
      unfold intsOf at e
      obtain ⟨ms, h1, h2⟩ := Option.map_eq_some_iff.mp e
      subst h2
      cases r
      rw [intsOf_v t h1]; rfl
    | _ => unfold intsOf at e; cases e
def boolsOf : List PyData → Option (List Bool)
  | [] => some []
  | .bool i :: r => (boolsOf r).map (i :: ·)
  | _ :: _ => none
theorem boolsOf_v {B : Hp} : ∀ {xs : List V} {ds : List PyData} {ns : List Bool}, Dqs B xs ds → boolsOf ds = some ns → xs = ns.map V.bl
  | _, _, _, .nil, e => by unfold boolsOf at e; cases e; rfl
  | _, _, ns, .cons (d := d) r t, e => by
    cases d with
    | bool i =>
      unfold boolsOf at e
      obtain ⟨ms, h1, h2⟩ := Option.map_eq_some_iff.mp e
      subst h2
      cases r
      rw [boolsOf_v t h1]; rfl
    | _ => unfold boolsOf at e; cases e
def maxL : List Int → Int
  | [] => 0
  | [a] => a
  | a :: r => max a (maxL r)
def minL : List Int → Int
  | [] => 0
  | [a] => a
  | a :: r => min a (minL r)
theorem maxL_ge : ∀ (l : List Int) (y : Int), y ∈ l → y ≤ maxL l
  | [], y, h => by simp at h
  | [a], y, h => by simp at h; subst h; exact Int.le_refl _
  | a :: b :: r, y, h => by
    show y ≤ max a (maxL (b :: r))
    rcases List.mem_cons.mp h with rfl | h
    · exact Int.le_max_left _ _
    · exact Int.le_trans (maxL_ge (b :: r) y h) (Int.le_max_right _ _)
theorem maxL_mem : ∀ (l : List Int), l ≠ [] → maxL l ∈ l
  | [], h => absurd rfl h
  | [a], _ => by simp [maxL]
  | a :: b :: r, _ => by
    show max a (maxL (b :: r)) ∈ a :: b :: r
    have ih := maxL_mem (b :: r) (by simp)
    rcases Int.le_total a (maxL (b :: r)) with h | h
    · rw [Int.max_eq_right h]; exact List.mem_cons_of_mem _ ih
    · rw [Int.max_eq_left h]; exact List.mem_cons_self
theorem minL_le : ∀ (l : List Int) (y : Int), y ∈ l → minL l ≤ y
  | [], y, h => by simp at h
  | [a], y, h => by simp at h; subst h; exact Int.le_refl _
  | a :: b :: r, y, h => by
    show min a (minL (b :: r)) ≤ y
    rcases List.mem_cons.mp h with rfl | h
    · exact Int.min_le_left _ _
    · exact Int.le_trans (Int.min_le_right _ _) (minL_le (b :: r) y h)
theorem minL_mem : ∀ (l : List Int), l ≠ [] → minL l ∈ l
  | [], h => absurd rfl h
  | [a], _ => by simp [minL]
  | a :: b :: r, _ => by
    show min a (minL (b :: r)) ∈ a :: b :: r
    have ih := minL_mem (b :: r) (by simp)
    rcases Int.le_total a (minL (b :: r)) with h | h
    · rw [Int.min_eq_left h]; exact List.mem_cons_self
    · rw [Int.min_eq_right h]; exact List.mem_cons_of_mem _ ih
def pMax : List PV → Out PV
  | [.d (.int i), .d (.int j)] => .ok (.d (.int (if j > i then j else i)))
  | [.d (.list ds)] => match intsOf ds with
    | some ns => if 0 < ns.length then .ok (.d (.int (maxL ns))) else .no
    | none => .no
  | _ => .no
def pMin : List PV → Out PV
  | [.d (.int i), .d (.int j)] => .ok (.d (.int (if j < i then j else i)))
  | [.d (.list ds)] => match intsOf ds with
    | some ns => if 0 < ns.length then .ok (.d (.int (minL ns))) else .no
    | none => .no
  | _ => .no
def biMax (hc : X.calm = true) : Bi X ca (.builtin "max") pMax where
  r := _
  o := (call_max2 hc).or (cr_max hc)
  n := by intro vs c fs; unfold pMax; split <;> (try split) <;> (try split) <;> simp
  d := by
    intro E B ρ σ H xs vs Q S rs h
    unfold pMax at h
    split at h
    · cases rs with | cons r t => 
        cases t with | cons r' t => 
          cases t; cases r; cases r'
          exact .inl ⟨_, _, rfl, h _ B H S (Grow.refl B) (.int _)⟩
    · cases rs with | cons r t => 
        cases t
        obtain ⟨a, ys, rfl, e, t⟩ := r
        split at h
        · rename_i ns hn
          split at h
          · rename_i hl
            have ey := intsOf_v t hn
            refine .inr ⟨a, ns, rfl, SqL.of (ey ▸ e), hl, fun m hm hle => ?_⟩
            have em : m = maxL ns := Int.le_antisymm (maxL_ge ns m hm) (hle _ (maxL_mem ns (by intro z; subst z; simp at hl)))
            rw [em]; exact h _ B H S (Grow.refl B) (.int _)
          · exact h.elim
        · exact h.elim
    · exact h.elim
def biMin (hc : X.calm = true) : Bi X ca (.builtin "min") pMin where
  r := _
  o := (call_min2 hc).or (cr_min hc)
  n := by intro vs c fs; unfold pMin; split <;> (try split) <;> (try split) <;> simp
  d := by
    intro E B ρ σ H xs vs Q S rs h
    unfold pMin at h
    split at h
    · cases rs with | cons r t => 
        cases t with | cons r' t => 
          cases t; cases r; cases r'
          exact .inl ⟨_, _, rfl, h _ B H S (Grow.refl B) (.int _)⟩
    · cases rs with | cons r t => 
        cases t
        obtain ⟨a, ys, rfl, e, t⟩ := r
        split at h
        · rename_i ns hn
          split at h
          · rename_i hl
            have ey := intsOf_v t hn
            refine .inr ⟨a, ns, rfl, SqL.of (ey ▸ e), hl, fun m hm hle => ?_⟩
            have em : m = minL ns := Int.le_antisymm (hle _ (minL_mem ns (by intro z; subst z; simp at hl))) (minL_le ns m hm)
            rw [em]; exact h _ B H S (Grow.refl B) (.int _)
          · exact h.elim
        · exact h.elim
    · exact h.elim
def pSum : List PV → Out PV
  | [.d (.list ds)] => match intsOf ds with
    | some ns => .ok (.d (.int ns.sum))
    | none => .no
  | _ => .no
def biSum (hc : X.calm = true) : Bi X ca (.builtin "sum") pSum where
  r := _
  o := cr_sum hc
  n := by intro vs c fs; unfold pSum; split <;> (try split) <;> simp
  d := by
    intro E B ρ σ H xs vs Q S rs h
    unfold pSum at h
    split at h
    · cases rs with | cons r t => 
        cases t
        obtain ⟨a, ys, rfl, e, t⟩ := r
        split at h
        · rename_i ns hn
          have ey := intsOf_v t hn
          exact ⟨a, ns, rfl, SqL.of (ey ▸ e), h _ B H S (Grow.refl B) (.int _)⟩
        · exact h.elim
    · exact h.elim
def pAll : List PV → Out PV
  | [.d (.list ds)] => match boolsOf ds with
    | some ns => .ok (.d (.bool (ns.all _root_.id)))
    | none => .no
  | _ => .no
def biAll (hc : X.calm = true) : Bi X ca (.builtin "all") pAll where
  r := _
  o := cr_all hc
  n := by intro vs c fs; unfold pAll; split <;> (try split) <;> simp
  d := by
    intro E B ρ σ H xs vs Q S rs h
    unfold pAll at h
    split at h
    · cases rs with | cons r t => 
        cases t
        obtain ⟨a, ys, rfl, e, t⟩ := r
        split at h
        · rename_i ns hn
          have ey := boolsOf_v t hn
          exact ⟨a, ns, rfl, SqL.of (ey ▸ e), h _ B H S (Grow.refl B) (.bl _)⟩
        · exact h.elim
    · exact h.elim
/-! list, tuple, sorted -/
def pList : List PV → Out OV
  | [.d (.list ds)] => .ok (.lst ds)
  | [.d (.tuple ds)] => .ok (.lst ds)
  | [.kt ds] => .ok (.lst ds)
  | _ => .no
def biList : BiO X ca (.type "list") pList where
  r := _
  o := call_list_of
  n := by intro vs c fs; unfold pList; split <;> simp
  d := by
    intro E B ρ σ H xs vs Q S rs h
    unfold pList at h
    split at h
    · cases rs with | cons r t => 
        cases t
        obtain ⟨a, ys, rfl, e, t⟩ := r
        refine ⟨a, ys, rfl, .inl (SqL.of e), fun p hp => h _ B _ (S.laidO hp ⟨rfl, ys, upd_same, t⟩) (Grow.refl B)⟩
    · cases rs with | cons r t => 
        cases t
        cases r with | tup e t => 
          refine ⟨_, _, rfl, .inr (SqT.of (S.sub _ _ e)), fun p hp => h _ B _ (S.laidO hp ⟨rfl, _, upd_same, t⟩) (Grow.refl B)⟩
    · cases rs with | cons r t => 
        cases t
        obtain ⟨a, ys, rfl, e, t⟩ := r
        refine ⟨_, _, rfl, .inr (S.growH.seqT e), fun p hp => h _ B _ (S.laidO hp ⟨rfl, _, upd_same, t⟩) (Grow.refl B)⟩
    · exact h.elim
def pTuple : List PV → Out PV
  | [.d (.list ds)] => .ok (.d (.tuple ds))
  | [.d (.tuple ds)] => .ok (.d (.tuple ds))
  | _ => .no
def biTuple : Bi X ca (.type "tuple") pTuple where
  r := _
  o := call_tuple_of
  n := by intro vs c fs; unfold pTuple; split <;> simp
  d := by
    intro E B ρ σ H xs vs Q S rs h
    unfold pTuple at h
    split at h
    · cases rs with | cons r t => 
        cases t
        obtain ⟨a, ys, rfl, e, t⟩ := r
        refine ⟨a, ys, rfl, .inl ⟨SqL.of e, fun p hp => ?_⟩⟩
        obtain ⟨S', g⟩ := S.laid (o := .tup ys) hp
        exact h _ _ _ S' g (.tup upd_same (Dqs.mono g _ _ t))
    · cases rs with | cons r t => 
        cases t
        cases r with | tup e t => 
          exact ⟨_, _, rfl, .inr ⟨SqT.of (S.sub _ _ e), h _ B H S (Grow.refl B) (.tup e t)⟩⟩
    · exact h.elim
def pGcd : List PV → Out PV
  | [.d (.int i), .d (.int j)] => .ok (.d (.int ((Nat.gcd i.natAbs j.natAbs : Nat) : Int)))
  | _ => .no
def biGcd : Bi X ca (.builtin "math.gcd") pGcd where
  r := _
  o := cr_gcd
  n := by intro vs c fs; unfold pGcd; split <;> simp
  d := by
    intro E B ρ σ H xs vs Q S rs h
    unfold pGcd at h
    split at h
    · cases rs with | cons r t => 
        cases t with | cons r' t => 
          cases t; cases r; cases r'
          exact ⟨_, _, rfl, h _ B H S (Grow.refl B) (.int _)⟩
    · exact h.elim

/-! ### isinstance(a, T), T a built-in type -/
def tyName : PV → Option String
  | .d .none => some "NoneType"
  | .d (.bool _) => some "bool"
  | .d (.int _) => some "int"
  | .d (.str _) => some "str"
  | .d (.list _) => some "list"
  | .d (.tuple _) => some "tuple"
  | _ => none
def pIsi (T : String) (v : PV) : Out Bool := match tyName v with
  | some t => match kitB t T with
    | some k => .ok k
    | none => .no
  | none => .no
def eIsi (T : String) (f : FE) : FT := fun ρ => f ρ >>= pIsi T
theorem tyName_x {K : PySem.W.Frag} {B H : Hp} {x : V} {v : PV} {t : String} (r : RepC ca K B H x v) (g : Grow B H) (e : tyName v = some t) : TyX K H x (.type t) := by
  unfold tyName at e
  split at e
  · cases e; cases r; exact .base .non
  · cases e; cases r; exact .base (.bl _)
  · cases e; cases r; exact .base (.int _)
  · cases e; cases r; exact .base (.str _)
  · cases e; obtain ⟨a, xs, rfl, h, _⟩ := r; exact .base (.lst h)
  · cases e; cases r with | tup h _ => exact .base (.tup (g.tup _ _ h))
  · cases e
theorem isi_of {T : String} {σ : L2.St} {H : Hp} {Q : Bool → Hp → Prop} {Q' : VK} (h : tT ca X.K W (eIsi T fa) σ H Q) (hQ : ∀ k H, Q k H → Q' (.bl k) H) : tCB (rIsi X.K) (tCons (tB ca X.K W fa) (tCons (tC (.ty T)) tNil)) σ H Q' := by
  obtain ⟨E, B, ρ, S, z⟩ := h
  refine ⟨E, B, ρ, S, (Ans.bind z).imp (fun v hv x B1 H1 S1 g1 r1 => ?_) fun _ _ z => z⟩
  unfold pIsi at hv
  split at hv
  · rename_i t ht
    split at hv
    · rename_i k hk
      exact ⟨x, .ty T, .type t, .type T, k, rfl, .ty T, tyName_x (S1.lookC r1) S1.growH ht, kit_ty hk, hQ _ _ ((show OkT ca X.K E B ρ σ Q k from hv) B1 H1 S1 g1)⟩
    · exact hv.elim
  · exact hv.elim
variable {p2 : Pos} {y : Str}
theorem pa_isi (ha : PBo X ca W a fa) (hmT : X.mg y = none) (hgT : Gl X y := by rfl) (hvT : bootBuiltins y = some (.type T) := by decide +kernel) (hnT : y ≠ "__name__" := by decide) (hdT : (y == ("__debug__" : Str)) = false := by decide)
    (h1 : starEach [a, .Name y p2] X.env = (false, eval a X.env) :: starEach [.Name y p2] X.env := by rfl) (h2 : starEach [.Name y p2] X.env = (false, eval (.Name y p2) X.env) :: starEach [] X.env := by rfl) : PA X [a, .Name y p2] (tCons (tB ca X.K W fa) (tCons (tC (.ty T)) tNil)) :=
  pa_cons ha (pa_cons (pe_bltn hgT hmT hvT (v := .ty T) (u := .type T) rfl hnT hdT) pa_nil h2) h1
theorem v_isi (ha : PBo X ca W a fa) (hm : X.mg "isinstance" = none) (hmT : X.mg y = none) (hg : Gl X "isinstance" := by rfl) (hgT : Gl X y := by rfl) (hvT : bootBuiltins y = some (.type T) := by decide +kernel) (hnT : y ≠ "__name__" := by decide) (hdT : (y == ("__debug__" : Str)) = false := by decide)
    (h1 : starEach [a, .Name y p2] X.env = (false, eval a X.env) :: starEach [.Name y p2] X.env := by rfl) (h2 : starEach [.Name y p2] X.env = (false, eval (.Name y p2) X.env) :: starEach [] X.env := by rfl) (hpl : (backTo pos (starEach [.Name y p2] X.env)).any (·.1) = false := by rfl) :
    PVa X ca W (.Call (.Name "isinstance" p) [a, .Name y p2] [] pos) (eT (eIsi T fa)) :=
  vt (pe_callB call_isi hg hm (by decide +kernel) (pa_isi ha hmT hgT hvT hnT hdT h1 h2) (he := h1) (hpl := hpl)) fun σ H Q h => isi_of h fun k H q => q
end
end Pu
/-! The pure layer, part 8: statements, loops, defs. -/
namespace Pu
open PySem PySem.Spec PyProof.Rows L2
/-- what a def hands back: known to all, or the caller's own -/
inductive Ret where
  | val (v : PV)
  | own (o : OV)
def Ret.pv : Ret → PV
  | .val v => v
  | .own o => o.frz
inductive Ctl where
  | nx (ρ : List Slot)
  | rt (r : Ret)
  | bk (ρ : List Slot)
  | ct (ρ : List Slot)
  | ex (c : Str) (fs : List (Str × PyData)) (ρ : List Slot)
  | no
abbrev FS := List Slot → Ctl
def Out.ctl {α : Type} (o : Out α) (ρ : List Slot) (k : α → Ctl) : Ctl := match o with
  | .ok a => k a
  | .err c fs => .ex c fs ρ
  | .no => .no
def CtlOk (ca : Str → Addr) (K : PySem.W.Frag) (W : WX) (E : Ent) (B : Hp) (D : Ends) : Ctl → Prop
  | .nx ρ => ∀ σ B' H', SR ca K E B' ρ σ H' → Grow B B' → D.nx σ H'
  | .bk ρ => ∀ σ B' H', SR ca K E B' ρ σ H' → Grow B B' → D.bk σ H'
  | .ct ρ => ∀ σ B' H', SR ca K E B' ρ σ H' → Grow B B' → D.ct σ H'
  | .rt (.val v) => ∀ x B' H' ρ σ, SR ca K E B' ρ σ H' → RepV ca K B' x v → D.rt x H'
  | .rt (.own o) => ∀ x B' H' ρ σ, SR ca K E B' (ρ ++ [.own o]) (σ ++ [some x]) H' → D.rt x H'
  | .ex c fs ρ => ∀ σ, XW ca K W E ρ σ c fs
  | .no => False
def tS (ca : Str → Addr) (K : PySem.W.Frag) (W : WX) (f : FS) : TS := fun D σ H => ∃ E B ρ, SR ca K E B ρ σ H ∧ CtlOk ca K W E B D (f ρ)
abbrev PSt (X : Cx) (ca : Str → Addr) (W : WX) (st : Stmt) (f : FS) : Prop := PS X st (tS ca X.K W f)
abbrev PBl (X : Cx) (ca : Str → Addr) (W : WX) (sts : List Stmt) (f : FS) : Prop := PSs X sts (tS ca X.K W f)
theorem CtlOk.grow {ca : Str → Addr} {K : PySem.W.Frag} {W : WX} {E : Ent} {B B1 : Hp} {D : Ends} {c : Ctl} (g : Grow B B1) (h : CtlOk ca K W E B D c) : CtlOk ca K W E B1 D c := by
  cases c with
  | nx ρ => exact fun σ B' H' S g' => h σ B' H' S (g.trans g')
  | bk ρ => exact fun σ B' H' S g' => h σ B' H' S (g.trans g')
  | ct ρ => exact fun σ B' H' S g' => h σ B' H' S (g.trans g')
  | rt r => cases r <;> exact h
  | ex c fs ρ => exact h
  | no => exact h
theorem CtlOk.ctl {ca : Str → Addr} {K : PySem.W.Frag} {W : WX} {E : Ent} {B : Hp} {D : Ends} {α : Type} {o : Out α} {ρ : List Slot} {k : α → Ctl} {σ : L2.St} (h : CtlOk ca K W E B D (o.ctl ρ k)) : Ans o (fun a => CtlOk ca K W E B D (k a)) (XW ca K W E ρ σ) := by
  cases o with
  | ok a => exact h
  | err c fs => exact h σ
  | no => exact h
section
variable {X : Cx} {ca : Str → Addr} {W : WX} {e a b c o : Expr} {es : List Expr} {f fa fb fc : FE} {fo : FO} {ft gt : FT} {fs : FA} {s t : FS} {st : Stmt} {sts us : List Stmt} {pos p p2 p3 p4 : Pos} {x : Str}
/-! ### blocks -/
def fNil : FS := .nx
def fSeq (s t : FS) : FS := fun ρ => match s ρ with
  | .nx ρ' => t ρ'
  | c => c
theorem s_nil : PBl X ca W [] fNil := pss_imp pss_nil fun D σ H ⟨E, B, ρ, S, z⟩ => z σ B H S (Grow.refl B)
theorem s_cons (h1 : PSt X ca W st s) (h2 : PBl X ca W sts t) : PBl X ca W (st :: sts) (fSeq s t) := pss_imp (pss_cons h1 h2) fun D σ H ⟨E, B, ρ, S, z⟩ => by
  refine ⟨E, B, ρ, S, ?_⟩
  unfold fSeq at z
  cases q : s ρ with
  | nx ρ' => rw [q] at z; exact fun σ' B' H' S' g => ⟨E, B', ρ', S', z.grow g⟩
  | bk ρ' => rw [q] at z; exact z
  | ct ρ' => rw [q] at z; exact z
  | rt r => rw [q] at z; cases r <;> exact z
  | ex c fs ρ' => rw [q] at z; exact z
  | no => rw [q] at z; exact z
theorem s_one (h1 : PSt X ca W st s) : PBl X ca W [st] s := pss_one h1
/-! ghosts: forgotten slots, frozen slots -/
def unset : List Nat → List Slot → List Slot
  | [], ρ => ρ
  | i :: is, ρ => (unset is ρ).set i .un
theorem SR.forgets {K : PySem.W.Frag} {E : Ent} {B H : Hp} {σ : L2.St} : ∀ (is : List Nat) {ρ : List Slot}, SR ca K E B ρ σ H → SR ca K E B (unset is ρ) σ H
  | [], _, S => S
  | i :: is, _, S => (SR.forgets is S).forget'
/-- behind a statement -/
def fFgt (is : List Nat) (s : FS) : FS := fun ρ => match s ρ with
  | .nx ρ' => .nx (unset is ρ')
  | .ct ρ' => .ct (unset is ρ')
  | .bk ρ' => .bk (unset is ρ')
  | c => c
theorem fgt_ok {K : PySem.W.Frag} {E : Ent} {B : Hp} {D : Ends} {is : List Nat} {ρ : List Slot} (z : CtlOk ca K W E B D (fFgt is s ρ)) : CtlOk ca K W E B D (s ρ) := by
  unfold fFgt at z
  cases q : s ρ with
  | nx ρ' => rw [q] at z; exact fun σ' B' H' S' g => z σ' B' H' (S'.forgets is) g
  | bk ρ' => rw [q] at z; exact fun σ' B' H' S' g => z σ' B' H' (S'.forgets is) g
  | ct ρ' => rw [q] at z; exact fun σ' B' H' S' g => z σ' B' H' (S'.forgets is) g
  | rt r => rw [q] at z; cases r <;> exact z
  | ex c fs ρ' => rw [q] at z; exact z
  | no => rw [q] at z; exact z
theorem s_fgt (is : List Nat) (h : PSt X ca W st s) : PSt X ca W st (fFgt is s) := ps_imp h fun D σ H ⟨E, B, ρ, S, z⟩ => ⟨E, B, ρ, S, fgt_ok z⟩
theorem b_fgt (is : List Nat) (h : PBl X ca W sts s) : PBl X ca W sts (fFgt is s) := pss_imp h fun D σ H ⟨E, B, ρ, S, z⟩ => ⟨E, B, ρ, S, fgt_ok z⟩
/-- ahead of a block: slot i's object is for all from now on -/
def fFrz (i : Nat) (s : FS) : FS := fun ρ => match ρ[i]? with
  | some (.own o) => s (ρ.set i (.val o.frz))
  | _ => s ρ
theorem b_frz (i : Nat) (h : PBl X ca W sts s) : PBl X ca W sts (fFrz i s) := pss_imp h fun D σ H ⟨E, B, ρ, S, z⟩ => by
  unfold fFrz at z
  split at z
  · rename_i o ho
    obtain ⟨B', y, g, _, _, S'⟩ := S.freeze ho
    exact ⟨E, B', _, S', z.grow g⟩
  · exact ⟨E, B, ρ, S, z⟩

/-! ### small statements -/
def fIf (t : FT) (s u : FS) : FS := fun ρ => (t ρ).ctl ρ fun k => if k = true then s ρ else u ρ
theorem s_if (hc : PTe X ca W c ft) (ha : PBl X ca W sts s) (hb : PBl X ca W us t) : PSt X ca W (.If c sts us pos) (fIf ft s t) := ps_imp (ps_if hc ha hb) fun D σ H ⟨E, B, ρ, S, z⟩ =>
  ⟨E, B, ρ, S, (CtlOk.ctl z).imp (fun k hk B' H' S' g => by
    cases k with
    | true => rw [if_pos rfl] at hk ⊢; exact ⟨E, B', ρ, S', hk.grow g⟩
    | false => rw [if_neg Bool.false_ne_true] at hk ⊢; exact ⟨E, B', ρ, S', hk.grow g⟩) fun _ _ z => z⟩
def fPass : FS := .nx
def fCont : FS := .ct
def fBrk : FS := .bk
theorem s_pass : PSt X ca W (.Pass pos) fPass := ps_imp ps_pass fun D σ H ⟨E, B, ρ, S, z⟩ => z σ B H S (Grow.refl B)
theorem s_cont : PSt X ca W (.Continue pos) fCont := ps_imp ps_continue fun D σ H ⟨E, B, ρ, S, z⟩ => z σ B H S (Grow.refl B)
theorem s_brk : PSt X ca W (.Break pos) fBrk := ps_imp ps_break fun D σ H ⟨E, B, ρ, S, z⟩ => z σ B H S (Grow.refl B)
/-- an expression for what it does -/
def fDo (f : FE) : FS := fun ρ => (f ρ).ctl ρ fun _ => .nx ρ
theorem s_do (h : PVa X ca W e f) (hs : swapsWith e none pos.line X.env = pure false := by rfl) : PSt X ca W (.Expr e pos) (fDo f) := ps_imp (ps_expr h hs) fun D σ H ⟨E, B, ρ, S, z⟩ =>
  ⟨E, B, ρ, S, (CtlOk.ctl z).imp (fun v hv x B' H' S' g _ => hv σ B' H' S' g) fun _ _ z => z⟩
def fRet (f : FE) : FS := fun ρ => (f ρ).ctl ρ fun v => .rt (.val v)
def fRetO (f : FO) : FS := fun ρ => (f ρ).ctl ρ fun v => .rt (.own v)
def fRetN : FS := fun _ => .rt (.val (.d .none))
theorem s_ret (h : PVa X ca W e f) : PSt X ca W (.Return (some e) pos) (fRet f) := ps_imp (ps_ret h) fun D σ H ⟨E, B, ρ, S, z⟩ =>
  ⟨E, B, ρ, S, (CtlOk.ctl z).imp (fun v hv x B' H' S' g r => hv x B' H' ρ σ S' r) fun _ _ z => z⟩
theorem s_retO (h : POw X ca W e fo) : PSt X ca W (.Return (some e) pos) (fRetO fo) := ps_imp (ps_ret h) fun D σ H ⟨E, B, ρ, S, z⟩ =>
  ⟨E, B, ρ, S, (CtlOk.ctl z).imp (fun v hv x B' H' S' g => hv x B' H' ρ σ S') fun _ _ z => z⟩
theorem s_retN : PSt X ca W (.Return none pos) fRetN := ps_imp ps_retN fun D σ H ⟨E, B, ρ, S, z⟩ => z .non B H ρ σ S .non
/-- an owning slot's object to a place of its own -/
theorem SR.toLast {K : PySem.W.Frag} {E : Ent} {B H : Hp} {ρ : List Slot} {σ : L2.St} {i : Nat} {o : OV} {x : V} (S : SR ca K E B ρ σ H) (e : ρ[i]? = some (.own o)) (hs : σ[i]? = some (some x)) : SR ca K E B (ρ.set i .un ++ [.own o]) (σ ++ [some x]) H := by
  obtain ⟨AF, s⟩ := S
  obtain ⟨p, h1, h2⟩ := s.own i o e
  rw [hs] at h1
  cases h1
  have l : (ρ.set i .un).length = σ.length := by simpa using s.len
  have ll : (ρ.set i .un).length = ρ.length := by simp
  have old : ∀ (j : Nat) (z : Slot), (ρ.set i .un)[j]? = some z → z ≠ .un → j ≠ i ∧ ρ[j]? = some z := fun j z q hz => by
    rcases get_set q with ⟨_, _, h3⟩ | h
    · exact absurd h3 hz
    · exact h
  refine ⟨fun j => if j = ρ.length then AF i else AF j, by simp [s.len], s.grow, s.sub, s.keep, s.newB, fun j v q => ?_, fun j w q => ?_, fun j w q a ha => ?_, fun j k w u qj qk hjk a ha => ?_⟩
  · rcases get_app q with ⟨hj, q'⟩ | ⟨_, z⟩
    · obtain ⟨_, h4⟩ := old j _ q' (by intro z; cases z)
      obtain ⟨y, h5, h6⟩ := s.val j v h4
      exact ⟨y, by rw [List.getElem?_append_left (by rw [← l]; exact hj)]; exact h5, h6⟩
    · cases z
  · rcases get_app q with ⟨hj, q'⟩ | ⟨hj, z⟩
    · obtain ⟨_, h4⟩ := old j _ q' (by intro z; cases z)
      obtain ⟨y, h5, h6⟩ := s.own j w h4
      exact ⟨y, by rw [List.getElem?_append_left (by rw [← l]; exact hj)]; exact h5, by rw [if_neg (by omega)]; exact h6⟩
    · cases z
      refine ⟨p, ?_, by rw [if_pos (by omega)]; exact h2⟩
      rw [List.getElem?_append_right (by rw [← l]; omega)]
      rw [hj, l]; simp
  · rcases get_app q with ⟨hj, q'⟩ | ⟨hj, z⟩
    · obtain ⟨_, h4⟩ := old j _ q' (by intro z; cases z)
      rw [if_neg (by omega)] at ha
      exact s.ofr j w h4 a ha
    · rw [if_pos (by omega)] at ha; exact s.ofr i o e a ha
  · rcases get_app qj with ⟨hj, qj'⟩ | ⟨hj, zj⟩
    · obtain ⟨j3, j4⟩ := old j _ qj' (by intro z; cases z)
      rw [if_neg (by omega)] at ha
      rcases get_app qk with ⟨hk, qk'⟩ | ⟨hk, zk⟩
      · obtain ⟨k3, k4⟩ := old k _ qk' (by intro z; cases z)
        rw [if_neg (by omega)]; exact s.dis j k w u j4 k4 hjk a ha
      · rw [if_pos (by omega)]; exact s.dis j i w o j4 e j3 a ha
    · rw [if_pos (by omega)] at ha
      rcases get_app qk with ⟨hk, qk'⟩ | ⟨hk, zk⟩
      · obtain ⟨k3, k4⟩ := old k _ qk' (by intro z; cases z)
        rw [if_neg (by omega)]; exact s.dis i k o u e k4 (Ne.symm k3) a ha
      · omega
def fRetV (i : Nat) : FS := fun ρ => match ρ[i]? with
  | some (.val v) => .rt (.val v)
  | some (.own o) => .rt (.own o)
  | _ => .no
theorem s_retV (i : Nat) (hN : X.N[i]? = some x := by rfl) (hv : Vis X.env.scope x := by first | exact Or.inl rfl | exact Or.inr (Or.inl rfl) | exact Or.inr (Or.inr rfl)) (hd : (x == ("__debug__" : Str)) = false := by decide)
    (hcd : (x == ("__classdict__" : Str)) = false := by decide) : PSt X ca W (.Return (some (.Name x p)) pos) (fRetV i) := ps_imp (ps_ret (pe_var hN hv hd hcd)) fun D σ H ⟨E, B, ρ, S, z⟩ => by
  unfold fRetV at z
  split at z
  · rename_i v hv
    obtain ⟨y, h1, h2⟩ := S.val hv
    exact ⟨y, h1, z y B H ρ σ S h2⟩
  · rename_i o ho
    obtain ⟨y, h1, _⟩ := S.bown ho
    exact ⟨y, h1, z y B H _ σ (S.toLast ho h1)⟩
  · exact z.elim

/-! ### stores -/
def fSet (i : Nat) (f : FE) : FS := fun ρ => (f ρ).ctl ρ fun v => .nx (ρ.set i (.val v))
def fSetO (i : Nat) (f : FO) : FS := fun ρ => (f ρ).ctl ρ fun o => .nx (ρ.set i (.own o))
theorem s_set (i : Nat) (he : PVa X ca W e f) (hN : X.N.Nodup) (hi : X.N[i]? = some x := by rfl) (hx : Loc X.env.scope x := by first | exact Or.inl rfl | exact Or.inr rfl) (hs : swapsWith e (some (.Name x p)) pos.line X.env = pure false := by rfl)
    (hf : X.fn x = true ∨ X.env.scope.names.lookup x = some .local := by first | exact .inl rfl | exact .inr rfl) : PSt X ca W (.Assign [.Name x p] e pos) (fSet i f) := ps_imp (ps_set hN hi hx he hs hf) fun D σ H ⟨E, B, ρ, S, z⟩ =>
  ⟨E, B, ρ, S, (CtlOk.ctl z).imp (fun v hv x B' H' S' g r => hv _ B' H' (S'.setV r) g) fun _ _ z => z⟩
theorem s_setO (i : Nat) (he : POw X ca W e fo) (hN : X.N.Nodup) (hi : X.N[i]? = some x := by rfl) (hx : Loc X.env.scope x := by first | exact Or.inl rfl | exact Or.inr rfl) (hs : swapsWith e (some (.Name x p)) pos.line X.env = pure false := by rfl)
    (hf : X.fn x = true ∨ X.env.scope.names.lookup x = some .local := by first | exact .inl rfl | exact .inr rfl) : PSt X ca W (.Assign [.Name x p] e pos) (fSetO i fo) := ps_imp (ps_set hN hi hx he hs hf) fun D σ H ⟨E, B, ρ, S, z⟩ =>
  ⟨E, B, ρ, S, (CtlOk.ctl z).imp (fun v hv x B' H' S' g => hv _ B' H' S'.setO g) fun _ _ z => z⟩
/-- targets -/
abbrev FG := PyData → List Slot → Option (List Slot)
abbrev FGs := List PyData → List Slot → Option (List Slot)
/-- but for the places is they are one -/
def Chg {α : Type} (is : List Nat) (l m : List α) : Prop := m.length = l.length ∧ ∀ j, j ∉ is → m[j]? = l[j]?
theorem Chg.refl {α : Type} (is : List Nat) (l : List α) : Chg is l l := ⟨rfl, fun _ _ => rfl⟩
theorem Chg.set {α : Type} (i : Nat) (l : List α) (x : α) : Chg [i] l (l.set i x) := ⟨by simp, fun j h => List.getElem?_set_ne (fun e => h (by simp [e]))⟩
theorem Chg.trans {α : Type} {is js : List Nat} {l m n : List α} (a : Chg is l m) (b : Chg js m n) : Chg (is ++ js) l n := ⟨b.1.trans a.1, fun j h => (b.2 j fun z => h (List.mem_append_right _ z)).trans (a.2 j fun z => h (List.mem_append_left _ z))⟩
def tG (ca : Str → Addr) (K : PySem.W.Frag) (is : List Nat) (g : FG) : TG := fun v σ H Q => ∃ E B ρ d, SR ca K E B ρ σ H ∧ Dq B v d ∧ ∃ ρ', g d ρ = some ρ' ∧ ∀ σ', SR ca K E B ρ' σ' H → Chg is σ σ' → Chg is ρ ρ' → Q σ' H
def tGs (ca : Str → Addr) (K : PySem.W.Frag) (is : List Nat) (g : FGs) : TGs := fun vs σ H Q => ∃ E B ρ ds, SR ca K E B ρ σ H ∧ Dqs B vs ds ∧ ∃ ρ', g ds ρ = some ρ' ∧ ∀ σ', SR ca K E B ρ' σ' H → Chg is σ σ' → Chg is ρ ρ' → Q σ' H
theorem pg_imp {tg : Expr} {u u' : TG} (h : PG X tg u) (i : ∀ v σ H Q, u' v σ H Q → u v σ H Q) : PG X tg u' := ⟨fun pins s σ H v w Q I r q => h.run pins s σ H v w Q I r (i v σ H Q q)⟩
theorem pgs_imp {tg : List Expr} {u u' : TGs} (h : PGs X tg u) (i : ∀ v σ H Q, u' v σ H Q → u v σ H Q) : PGs X tg u' := ⟨fun pins s σ H v w Q I r q => h.run pins s σ H v w Q I r (i v σ H Q q)⟩
def gN (i : Nat) : FG := fun d ρ => some (ρ.set i (.val (.d d)))
def gsNil : FGs := fun ds ρ => match ds with
  | [] => some ρ
  | _ => none
def gsCons (g : FG) (r : FGs) : FGs := fun ds ρ => match ds with
  | d :: ds => (g d ρ).bind fun ρ' => r ds ρ'
  | _ => none
def gT (n : Nat) (r : FGs) : FG := fun d ρ => match d with
  | .tuple ds => if ds.length = n then r ds ρ else none
  | _ => none
variable {tg : Expr} {tgs : List Expr} {g : FG} {gs : FGs}
abbrev PTg (X : Cx) (ca : Str → Addr) (tg : Expr) (is : List Nat) (g : FG) : Prop := PG X tg (tG ca X.K is g)
abbrev PTgs (X : Cx) (ca : Str → Addr) (tgs : List Expr) (is : List Nat) (g : FGs) : Prop := PGs X tgs (tGs ca X.K is g)
variable {is js : List Nat}
theorem g_name (i : Nat) (hN : X.N.Nodup) (hi : X.N[i]? = some x := by rfl) (hx : Loc X.env.scope x := by first | exact Or.inl rfl | exact Or.inr rfl) (hf : X.fn x = true ∨ X.env.scope.names.lookup x = some .local := by first | exact .inl rfl | exact .inr rfl | assumption) : PTg X ca (.Name x p) [i] (gN i) :=
  pg_imp (pg_name hN hi hx hf) fun v σ H Q ⟨E, B, ρ, d, S, r, ρ', e, q⟩ => by
    cases e
    exact q _ (S.setV (v := .d d) r) (Chg.set ..) (Chg.set ..)
theorem gs_nil : PTgs X ca [] [] gsNil := pgs_imp pgs_nil fun v σ H Q ⟨E, B, ρ, d, S, r, ρ', e, q⟩ => by
  unfold gsNil at e
  split at e
  · cases r; cases e; exact ⟨rfl, q σ S (Chg.refl ..) (Chg.refl ..)⟩
  · cases e
theorem gs_cons (h1 : PTg X ca tg is g) (h2 : PTgs X ca tgs js gs) (hs : (assignEach (tg :: tgs) X.env).map (·.2) = assign tg X.env :: (assignEach tgs X.env).map (·.2) := by rfl) : PTgs X ca (tg :: tgs) (is ++ js) (gsCons g gs) := pgs_imp (pgs_cons h1 h2 hs) fun v σ H Q ⟨E, B, ρ, d, S, r, ρ', e, q⟩ => by
  unfold gsCons at e
  split at e
  · rename_i y ys
    cases r with | cons r1 r2 => 
      obtain ⟨ρ1, e1, e2⟩ := Option.bind_eq_some_iff.mp e
      exact ⟨_, _, rfl, E, B, ρ, y, S, r1, ρ1, e1, fun σ' S' c1 c2 => ⟨E, B, ρ1, ys, S', r2, ρ', e2, fun σ2 S2 c3 c4 => q σ2 S2 (c1.trans c3) (c2.trans c4)⟩⟩
  · cases e
theorem g_tup {n k : Nat} (h : PTgs X ca tgs is gs) (hc : X.calm = true := by rfl) (hn : (assignEach tgs X.env).length = n := by rfl) (hst : (assignEach tgs X.env).findIdx? (·.1) = none := by rfl) : PTg X ca (.Tuple tgs k pos) is (gT n gs) := pg_imp (pg_tup hc h hn hst) fun v σ H Q ⟨E, B, ρ, d, S, r, ρ', e, q⟩ => by
  unfold gT at e
  split at e
  · split at e
    · rename_i ds hl
      cases r with | tup ea r => exact ⟨_, _, rfl, SqT.of (S.sub _ _ ea), by rw [r.length]; exact hl, E, B, ρ, ds, S, r, ρ', e, q⟩
    · cases e
  · cases e
def fAsg (g : FG) (f : FE) : FS := fun ρ => (f ρ).ctl ρ fun v => match v with
  | .d d => match g d ρ with
    | some ρ' => .nx ρ'
    | none => .no
  | _ => .no
theorem s_asg (he : PVa X ca W e f) (hg : PTg X ca tg is g) (hs : swapsWithSole [tg] e pos.line X.env = pure false := by rfl) (hw : swappedStores [tg] e X.env = pure none := by rfl)
    (h1 : (assignEach [tg] X.env).map (·.2) = [assign tg X.env] := by rfl) : PSt X ca W (.Assign [tg] e pos) (fAsg g f) := ps_imp (ps_asg he hg hs hw h1) fun D σ H ⟨E, B, ρ, S, z⟩ =>
  ⟨E, B, ρ, S, (CtlOk.ctl z).imp (fun v hv x B' H' S' gr r => by
    split at hv
    · split at hv
      · rename_i d _ ρ' hg'
        exact ⟨E, B', ρ, d, S', r, ρ', hg', fun σ' S2 _ _ => hv σ' B' H' S2 gr⟩
      · exact hv.elim
    · exact hv.elim) fun _ _ z => z⟩
/-- a, b = e1, e2 -/
def fPar (i j : Nat) (fs : FA) : FS := fun ρ => (fs ρ).ctl ρ fun vs => match vs with
  | [v, w] => .nx ((ρ.set i (.val v)).set j (.val w))
  | _ => .no
theorem s_par (i j : Nat) {y : Str} {px py pt : Pos} {kt k2 : Nat} {pt2 : Pos} (ha : PAV X ca W [a, b] fs) (hN : X.N.Nodup) (hc : X.calm = true := by rfl) (hi : X.N[i]? = some x := by rfl) (hj : X.N[j]? = some y := by rfl) (hij : i ≠ j := by decide)
    (hx : X.env.scope.names.lookup x = some .local := by rfl) (hy : X.env.scope.names.lookup y = some .local := by rfl)
    (hw : swappedStores [.Tuple [.Name x px, .Name y py] kt pt] (.Tuple [a, b] k2 pt2) X.env = pure (some [x, y]) := by rfl)
    (hs : swapsWithSole [.Tuple [.Name x px, .Name y py] kt pt] (.Tuple [a, b] k2 pt2) pos.line X.env = pure false := by rfl) : PSt X ca W (.Assign [.Tuple [.Name x px, .Name y py] kt pt] (.Tuple [a, b] k2 pt2) pos) (fPar i j fs) :=
  ps_imp (ps_par hc hN hi hj hij hx hy ha hw hs) fun D σ H ⟨E, B, ρ, S, z⟩ => ⟨E, B, ρ, S, (CtlOk.ctl z).imp (fun vs hvs xs B' H' S' gr r => by
    split at hvs
    · cases r with | cons r1 r => 
        cases r with | cons r2 r => 
          cases r
          exact ⟨_, _, rfl, hvs _ B' H' ((S'.setV r1).setV r2) gr⟩
    · exact hvs.elim) fun _ _ z => z⟩
/-- x += e -/
def fAug (i : Nat) (p : PV → PV → Out PV) (f : FE) : FS := fun ρ => match ρ[i]? with
  | some (.val v) => (f ρ).ctl ρ fun w => (p v w).ctl ρ fun u => .nx (ρ.set i (.val u))
  | _ => .no
/-- xs.append(e), xs.extend(e): slot i's own list -/
def fApp (i : Nat) (f : FE) : FS := fun ρ => match ρ[i]? with
  | some (.own (.lst ds)) => (f ρ).ctl ρ fun v => match v with
    | .d d => if ds.length < big then .nx (ρ.set i (.own (.lst (ds ++ [d])))) else .no
    | _ => .no
  | _ => .no
def fExt (i : Nat) (f : FE) : FS := fun ρ => match ρ[i]? with
  | some (.own (.lst ds)) => (f ρ).ctl ρ fun v => match v with
    | .d (.list es) => if ds.length + es.length ≤ big then .nx (ρ.set i (.own (.lst (ds ++ es)))) else .no
    | _ => .no
  | _ => .no
theorem SR.ownAt {K : PySem.W.Frag} {E : Ent} {B H : Hp} {ρ : List Slot} {σ : L2.St} {i : Nat} {o : OV} (S : SR ca K E B ρ σ H) (e : ρ[i]? = some (.own o)) : ∃ p A, σ[i]? = some (some (.ref p)) ∧ OwnAt ca B H p A o := by
  obtain ⟨AF, s⟩ := S
  obtain ⟨p, h1, h2⟩ := s.own i o e
  exact ⟨p, AF i, h1, h2⟩
theorem s_app (i : Nat) (he : PVa X ca W e f) (hN : X.N[i]? = some x := by rfl) (hv : Vis X.env.scope x := by first | exact Or.inl rfl | exact Or.inr (Or.inl rfl) | exact Or.inr (Or.inr rfl)) (hd : (x == ("__debug__" : Str)) = false := by decide)
    (hcd : (x == ("__classdict__" : Str)) = false := by decide) (hbase : attributeBase (.Name x p) "append" X.env (eval (.Name x p) X.env) = eval (.Name x p) X.env := by rfl)
    (hfew : ((backTo p3 (starEach [e] X.env)).all (fun x => !x.1) && (backToKw p3 (keywordEach [] X.env)).all (fun x => x.1.isSome) && decide (([e] : List Expr).length + ([] : List Keyword).length + (if ([] : List Keyword).isEmpty then 0 else 1) < 30)) = true := by rfl)
    (hline : (p2.endLine == p3.line) = true := by rfl) (hs : starEach [e] X.env = (false, eval e X.env) :: starEach [] X.env := by rfl) (hplain : (backTo p3 (starEach [] X.env)).any (·.1) = false := by rfl)
    (hsw : swapsWith (.Call (.Attribute (.Name x p) "append" p2) [e] [] p3) none p4.line X.env = pure false := by rfl) :
    PSt X ca W (.Expr (.Call (.Attribute (.Name x p) "append" p2) [e] [] p3) p4) (fApp i f) :=
  ps_imp (ps_expr (pe_bm PySem.F.plainAttrs_list PySem.F.slot_list_append PySem.F.type_list_append mt_append (pe_var hN hv hd hcd) (pa_cons he pa_nil hs) hbase hfew hline hs hplain) hsw) fun D σ H ⟨E, B, ρ, S, z⟩ => by
    unfold fApp at z
    split at z
    · rename_i ds ho
      obtain ⟨p, A, h1, h2⟩ := S.ownAt ho
      obtain ⟨_, xs, h3, h4⟩ := id h2
      refine ⟨_, h1, .inl ⟨rfl, xs, SqL.of h3⟩, E, B, ρ, S, (CtlOk.ctl z).imp (fun v hv y B1 H1 S1 g1 r1 => ?_) fun _ _ z => z⟩
      split at hv
      · split at hv
        · rename_i hl
          obtain ⟨p', A', k1, k2⟩ := S1.ownAt ho
          rw [h1] at k1; cases k1
          obtain ⟨_, xs', k3, k4⟩ := id k2
          refine ⟨p, xs', y, rfl, rfl, k3, by rw [k4.length, big_eq]; exact hl, ?_⟩
          exact hv σ B1 _ (S1.mut ho h1 fun A hA => ⟨hA.1, xs' ++ [y], upd_same, k4.snoc r1⟩) g1
        · exact hv.elim
      · exact hv.elim
    · exact z.elim
theorem s_ext (i : Nat) (he : PBo X ca W e f) (hN : X.N[i]? = some x := by rfl) (hv : Vis X.env.scope x := by first | exact Or.inl rfl | exact Or.inr (Or.inl rfl) | exact Or.inr (Or.inr rfl)) (hd : (x == ("__debug__" : Str)) = false := by decide)
    (hcd : (x == ("__classdict__" : Str)) = false := by decide) (hbase : attributeBase (.Name x p) "extend" X.env (eval (.Name x p) X.env) = eval (.Name x p) X.env := by rfl)
    (hfew : ((backTo p3 (starEach [e] X.env)).all (fun x => !x.1) && (backToKw p3 (keywordEach [] X.env)).all (fun x => x.1.isSome) && decide (([e] : List Expr).length + ([] : List Keyword).length + (if ([] : List Keyword).isEmpty then 0 else 1) < 30)) = true := by rfl)
    (hline : (p2.endLine == p3.line) = true := by rfl) (hs : starEach [e] X.env = (false, eval e X.env) :: starEach [] X.env := by rfl) (hplain : (backTo p3 (starEach [] X.env)).any (·.1) = false := by rfl)
    (hsw : swapsWith (.Call (.Attribute (.Name x p) "extend" p2) [e] [] p3) none p4.line X.env = pure false := by rfl) :
    PSt X ca W (.Expr (.Call (.Attribute (.Name x p) "extend" p2) [e] [] p3) p4) (fExt i f) :=
  ps_imp (ps_expr (pe_bm PySem.F.plainAttrs_list PySem.F.slot_list_extend PySem.F.type_list_extend mt_extend (pe_var hN hv hd hcd) (pa_cons he pa_nil hs) hbase hfew hline hs hplain) hsw) fun D σ H ⟨E, B, ρ, S, z⟩ => by
    unfold fExt at z
    split at z
    · rename_i ds ho
      obtain ⟨p, A, h1, h2⟩ := S.ownAt ho
      obtain ⟨_, xs, h3, h4⟩ := id h2
      refine ⟨_, h1, .inl ⟨rfl, xs, SqL.of h3⟩, E, B, ρ, S, (CtlOk.ctl z).imp (fun v hv y B1 H1 S1 g1 r1 => ?_) fun _ _ z => z⟩
      have rc := S1.lookC r1
      split at hv
      · split at hv
        · rename_i hl
          obtain ⟨p', A', k1, k2⟩ := S1.ownAt ho
          rw [h1] at k1; cases k1
          obtain ⟨_, xs', k3, k4⟩ := id k2
          obtain ⟨q, zs, rfl, e2, t2⟩ := rc
          refine ⟨p, q, xs', zs, rfl, rfl, k3, e2, by rw [k4.length, t2.length, big_eq]; exact hl, ?_⟩
          exact hv σ B1 _ (S1.mut ho h1 fun A hA => ⟨hA.1, xs' ++ zs, upd_same, k4.append t2⟩) g1
        · exact hv.elim
      · exact hv.elim
    · exact z.elim

/-! ### loops -/
/-- what is walked: data, turn by turn -/
structure YlE (ca : Str → Addr) (K : PySem.W.Frag) (E : Ent) (J : It) (B₀ : Hp) (ds : List PyData) : Prop where
  go : ∀ i B ρ σ H, Grow B₀ B → SR ca K E B ρ σ H → i < ds.length → J.go i H
  stop : ∀ i B ρ σ H, Grow B₀ B → SR ca K E B ρ σ H → ds.length ≤ i → J.stop i H
  yld : ∀ i B ρ σ H x H', Grow B₀ B → SR ca K E B ρ σ H → J.yld i H x H' → ∀ d, ds[i]? = some d → ∃ B', SR ca K E B' ρ σ H' ∧ Grow B B' ∧ Dq B' x d
structure Yl (ca : Str → Addr) (K : PySem.W.Frag) (J : It) (B₀ : Hp) (ds : List PyData) : Prop where
  go : ∀ i B H, Grow B₀ B → (∀ a o, B a = some o → H a = some o) → i < ds.length → J.go i H
  stop : ∀ i B H, Grow B₀ B → (∀ a o, B a = some o → H a = some o) → ds.length ≤ i → J.stop i H
  yld : ∀ i E B ρ σ H x H', Grow B₀ B → SR ca K E B ρ σ H → J.yld i H x H' → ∀ d, ds[i]? = some d → ∃ B', SR ca K E B' ρ σ H' ∧ Grow B B' ∧ Dq B' x d
theorem Yl.ofE {ca : Str → Addr} {K : PySem.W.Frag} {E : Ent} {J : It} {B₀ : Hp} {ds : List PyData} (Y : Yl ca K J B₀ ds) : YlE ca K E J B₀ ds :=
  ⟨fun i B _ _ H g S hi => Y.go i B H g S.sub hi, fun i B _ _ H g S hi => Y.stop i B H g S.sub hi, fun i B ρ σ H x H' g S => Y.yld i E B ρ σ H x H' g S⟩
abbrev FI := List Slot → Out (List PyData)
def OkI (ca : Str → Addr) (K : PySem.W.Frag) (E : Ent) (B : Hp) (ρ : List Slot) (σ : L2.St) (R : It → Hp → Prop) (ds : List PyData) : Prop := ∀ J B' H', SR ca K E B' ρ σ H' → Grow B B' → Yl ca K J B' ds → R J H'
def tI (ca : Str → Addr) (K : PySem.W.Frag) (W : WX) (f : FI) : TI := fun σ H R => ∃ E B ρ, SR ca K E B ρ σ H ∧ Ans (f ρ) (OkI ca K E B ρ σ R) (XW ca K W E ρ σ)
abbrev PIt (X : Cx) (ca : Str → Addr) (W : WX) (tg it : Expr) (f : FI) : Prop := PI X tg it (tI ca X.K W f)
theorem pi_imp {tg it : Expr} {u u' : TI} (h : PI X tg it u) (i : ∀ σ H R, u' σ H R → u σ H R) : PI X tg it u' := ⟨fun pins s σ H R I q => h.run pins s σ H R I (i σ H R q)⟩
def loopL (g : FG) (s : FS) : List PyData → List Slot → Ctl
  | [], ρ => .nx ρ
  | d :: ds, ρ => match g d ρ with
    | none => .no
    | some ρ1 => match s ρ1 with
      | .nx ρ2 => loopL g s ds ρ2
      | .ct ρ2 => loopL g s ds ρ2
      | .bk ρ2 => .nx ρ2
      | c => c
def fFor (fi : FI) (g : FG) (s : FS) : FS := fun ρ => (fi ρ).ctl ρ fun ds => loopL g s ds ρ
variable {it : Expr} {fi : FI}
/-- the loop's turns -/
theorem loop_run {tb : TS} {tgt : TG} {K : PySem.W.Frag} {E : Ent} {J : It} {B0 : Hp} {ds : List PyData} {ρ : List Slot} {σ : L2.St} {H0 : Hp} {D : Ends} {g : FG} (S0 : SR ca K E B0 ρ σ H0) (Y : YlE ca K E J B0 ds)
    (hgt : ∀ {x : V} {B : Hp} {ρ ρ1 : List Slot} {d : PyData} {σ : L2.St} {H : Hp} {k : L2.St → Hp → Prop}, SR ca K E B ρ σ H → Dq B x d → g d ρ = some ρ1 → (∀ σ2, SR ca K E B ρ1 σ2 H → k σ2 H) → tgt x σ H k)
    (hb : ∀ {D : Ends} {σ : L2.St} {H : Hp} {B : Hp} {ρ : List Slot}, SR ca K E B ρ σ H → CtlOk ca K W E B D (s ρ) → tb D σ H) (z : CtlOk ca K W E B0 D (loopL g s ds ρ)) :
    ∃ Wn : Nat → Nat → L2.St → Hp → Prop, (∃ m, Wn 0 m σ H0) ∧ ∀ i m σ H, Wn i m σ H →
      (J.stop i H ∧ D.nx σ H) ∨ (J.go i H ∧ ∃ N : L2.St → Hp → Prop, (∀ σ' H', N σ' H' → ∃ m', m' < m ∧ Wn (i + 1) m' σ' H') ∧ ∀ v H', J.yld i H v H' → tgt v σ H' fun σ2 H2 => tb { D with nx := N, ct := N, bk := D.nx } σ2 H2) := by
  refine ⟨fun i m σ' H' => m + i = ds.length ∧ ∃ B' ρ', SR ca K E B' ρ' σ' H' ∧ Grow B0 B' ∧ CtlOk ca K W E B' D (loopL g s (ds.drop i) ρ'), ⟨ds.length, by omega, B0, ρ, S0, Grow.refl _, by simpa using z⟩, fun i m σ' H' ⟨hm, B', ρ', S', g', z'⟩ => ?_⟩
  by_cases hi : i < ds.length
  · rw [List.drop_eq_getElem_cons hi] at z'
    unfold loopL at z'
    have hd : ds[i]? = some ds[i] := List.getElem?_eq_getElem hi
    split at z'
    · exact z'.elim
    · rename_i ρ1 h1
      refine .inr ⟨Y.go i B' _ _ H' g' S' hi, fun σ2 H2 => ∃ B2 ρ2, SR ca K E B2 ρ2 σ2 H2 ∧ Grow B0 B2 ∧ CtlOk ca K W E B2 D (loopL g s (ds.drop (i + 1)) ρ2), fun σ2 H2 ⟨B2, ρ2, S2, g2, z2⟩ => ⟨m - 1, by omega, by omega, B2, ρ2, S2, g2, z2⟩, fun x H1 hy => ?_⟩
      obtain ⟨B1, S1, g1, r1⟩ := Y.yld i B' ρ' σ' H' x H1 g' S' hy _ hd
      refine hgt S1 r1 h1 fun σ2 S2 => hb S2 ?_
      cases q : s ρ1 with
      | nx ρ2 => rw [q] at z'; exact fun σ3 B3 H3 S3 g3 => ⟨B3, ρ2, S3, (g'.trans g1).trans g3, z'.grow (g1.trans g3)⟩
      | ct ρ2 => rw [q] at z'; exact fun σ3 B3 H3 S3 g3 => ⟨B3, ρ2, S3, (g'.trans g1).trans g3, z'.grow (g1.trans g3)⟩
      | bk ρ2 => rw [q] at z'; exact fun σ3 B3 H3 S3 g3 => z' σ3 B3 H3 S3 (g1.trans g3)
      | rt r => rw [q] at z'; cases r <;> exact z'
      | ex c fs ρ2 => rw [q] at z'; exact z'
      | no => rw [q] at z'; exact z'
  · refine .inl ⟨Y.stop i B' _ _ H' g' S' (by omega), ?_⟩
    rw [List.drop_of_length_le (by omega)] at z'
    exact z' σ' B' H' S' (Grow.refl _)
theorem s_for (hp : PassesOwn (model X.prog X.w) X.A X.env X.xe) (hi : PIt X ca W tg it fi) (hg : PTg X ca tg is g) (hb : PBl X ca W sts s) (hc : X.calm = true := by rfl) (hs : ∀ x, foldedSetIterable it X.env x = pure x := by intro _; rfl) : PSt X ca W (.For tg it sts [] pos) (fFor fi g s) :=
  ps_imp (ps_for hp hc hi hg hb hs) fun D σ H ⟨E, B, ρ, S, z⟩ => ⟨E, B, ρ, S, (CtlOk.ctl z).imp (fun ds hds J B0 H0 S0 g0 Y => by
    exact loop_run S0 Y.ofE (fun S1 r1 h1 k => ⟨E, _, _, _, S1, r1, _, h1, fun σ2 S2 _ _ => k σ2 S2⟩) (fun S2 z => ⟨E, _, _, S2, z⟩) (hds.grow g0)) fun _ _ z => z⟩
/-- over a list, a tuple -/
def iSeq (f : FE) : FI := fun ρ => f ρ >>= fun v => match v with
  | .d (.list ds) => .ok ds
  | _ => .no
def iTpl (f : FE) : FI := fun ρ => f ρ >>= fun v => match v with
  | .d (.tuple ds) => .ok ds
  | .kt ds => .ok ds
  | _ => .no
theorem yl_list {K : PySem.W.Frag} {B : Hp} {p : Addr} {xs : List V} {ds : List PyData} (e : B p = some (.lst xs)) (t : Dqs B xs ds) : Yl ca K (Itl K p) B ds where
  go := fun i B' H g sub hi => by
    have : i < xs.length := by rw [t.length]; exact hi
    exact ⟨xs, xs[i], SqL.of (sub _ _ (g.lst _ _ e)), List.getElem?_eq_getElem this⟩
  stop := fun i B' H g sub hi => ⟨xs, SqL.of (sub _ _ (g.lst _ _ e)), by rw [t.length]; exact hi⟩
  yld := fun i E B' ρ σ H x H' g S hy d hd => by
    obtain ⟨rfl, hx⟩ := hy
    obtain ⟨z, h1, h2⟩ := t.get' hd
    have := hx xs (SqL.of (S.sub _ _ (g.lst _ _ e)))
    rw [h1] at this
    cases this
    exact ⟨B', S, Grow.refl _, h2.mono g _ _⟩
theorem yl_tup {K : PySem.W.Frag} {B : Hp} {p : Addr} {xs : List V} {ds : List PyData} (e : SqT K B p xs) (t : Dqs B xs ds) : Yl ca K (Itt K p) B ds where
  go := fun i B' H g sub hi => by
    have : i < xs.length := by rw [t.length]; exact hi
    exact ⟨xs, xs[i], (Grow.sub sub).seqT (g.seqT e), List.getElem?_eq_getElem this⟩
  stop := fun i B' H g sub hi => ⟨xs, (Grow.sub sub).seqT (g.seqT e), by rw [t.length]; exact hi⟩
  yld := fun i E B' ρ σ H x H' g S hy d hd => by
    obtain ⟨rfl, hx⟩ := hy
    obtain ⟨z, h1, h2⟩ := t.get' hd
    have := hx xs (S.growH.seqT (g.seqT e))
    rw [h1] at this
    cases this
    exact ⟨B', S, Grow.refl _, h2.mono g _ _⟩
theorem i_list (h : PVa X ca W e f) : PIt X ca W tg e (iSeq f) := pi_imp (pi_list h) fun σ H R ⟨E, B, ρ, S, z⟩ => ⟨E, B, ρ, S, (Ans.bind z).imp (fun v hv x B1 H1 S1 g1 r1 => by
  split at hv
  · cases r1 with | lst e t => exact ⟨_, rfl, ⟨_, SqL.of (S1.sub _ _ e)⟩, (show OkI ca X.K E B ρ σ R _ from hv) _ B1 H1 S1 g1 (yl_list e t)⟩
  · exact hv.elim) fun _ _ z => z⟩
theorem i_tup (h : PVa X ca W e f) : PIt X ca W tg e (iTpl f) := pi_imp (pi_tup h) fun σ H R ⟨E, B, ρ, S, z⟩ => ⟨E, B, ρ, S, (Ans.bind z).imp (fun v hv x B1 H1 S1 g1 r1 => by
  split at hv
  · cases r1 with | tup e t => exact ⟨_, rfl, ⟨_, SqT.of (S1.sub _ _ e)⟩, (show OkI ca X.K E B ρ σ R _ from hv) _ B1 H1 S1 g1 (yl_tup (SqT.of e) t)⟩
  · obtain ⟨a, xs, rfl, e, t⟩ := r1
    exact ⟨_, rfl, ⟨_, S1.growH.seqT e⟩, (show OkI ca X.K E B ρ σ R _ from hv) _ B1 H1 S1 g1 (yl_tup e t)⟩
  · exact hv.elim) fun _ _ z => z⟩
/-- range(n), range(a, b) -/
def rangeD (lo : Int) (n : Nat) : List PyData := (List.range n).map fun k : Nat => .int (lo + (k : Int))
theorem yl_range {K : PySem.W.Frag} {B : Hp} (lo : Int) (n : Nat) : Yl ca K (Itr lo n) B (rangeD lo n) where
  go := fun i B' H g sub hi => by
    have q : i < n := by simpa [rangeD] using hi
    exact q
  stop := fun i B' H g sub hi => by
    have q : n ≤ i := by simpa [rangeD] using hi
    exact q
  yld := fun i E B' ρ σ H x H' g S hy d hd => by
    obtain ⟨rfl, rfl⟩ := hy
    unfold rangeD at hd
    rw [List.getElem?_map] at hd
    obtain ⟨k, h1, h2⟩ := Option.map_eq_some_iff.mp hd
    have hk : k = i := by
      rw [List.getElem?_range (by have := lt_of_get h1; simpa using this)] at h1
      exact (Option.some.inj h1).symm
    subst hk
    rw [← h2]
    exact ⟨B', S, Grow.refl _, .int _⟩
def rngOk (i : Int) : Bool := decide (-(2 ^ 62) ≤ i) && decide (i < 2 ^ 62)
theorem rngOk_of {i : Int} (h : rngOk i = true) : -(2 ^ 62) ≤ i ∧ i < 2 ^ 62 := by
  unfold rngOk at h
  simpa [Bool.and_eq_true, decide_eq_true_eq] using h
def iRng1 (f : FE) : FI := fun ρ => f ρ >>= fun v => match v with
  | .d (.int j) => if rngOk j = true then .ok (rangeD 0 j.toNat) else .no
  | _ => .no
def iRng2 (f g : FE) : FI := fun ρ => f ρ >>= fun v => g ρ >>= fun w => match v, w with
  | .d (.int i), .d (.int j) => if rngOk i = true ∧ rngOk j = true then .ok (rangeD i (j - i).toNat) else .no
  | _, _ => .no
theorem i_rng1 (ha : PBo X ca W a fa) (hm : X.mg "range" = none) (hg : Gl X "range" := by rfl) (hs : starEach [a] X.env = [(false, eval a X.env)] := by rfl) : PIt X ca W tg (.Call (.Name "range" p) [a] [] pos) (iRng1 fa) := pi_imp (pi_range1 hg hm (pa_cons ha pa_nil hs) hs) fun σ H R ⟨E, B, ρ, S, z⟩ =>
  ⟨E, B, ρ, S, (Ans.bind z).imp (fun v hv x B1 H1 S1 g1 r1 => by
    split at hv
    · split at hv
      · rename_i hr
        have r' := S1.look r1
        cases r'
        obtain ⟨h1, h2⟩ := rngOk_of hr
        exact ⟨_, rfl, h1, h2, (show OkI ca X.K E B ρ σ R _ from hv) _ B1 H1 S1 g1 (yl_range _ _)⟩
      · exact hv.elim
    · exact hv.elim) fun _ _ z => z⟩
theorem i_rng2 (ha : PBo X ca W a fa) (hb : PBo X ca W b fb) (hm : X.mg "range" = none) (hg : Gl X "range" := by rfl) (hs : starEach [a, b] X.env = [(false, eval a X.env), (false, eval b X.env)] := by rfl) (hs2 : starEach [b] X.env = [(false, eval b X.env)] := by rfl) :
    PIt X ca W tg (.Call (.Name "range" p) [a, b] [] pos) (iRng2 fa fb) := pi_imp (pi_range2 hg hm (pa_cons ha (pa_cons hb pa_nil hs2) (hs.trans (by rw [hs2]))) hs hs2) fun σ H R ⟨E, B, ρ, S, z⟩ =>
  ⟨E, B, ρ, S, (Ans.bind z).imp (fun v hv x B1 H1 S1 g1 r1 => ⟨E, B1, ρ, S1, (Ans.bind hv).imp (fun w hw y B2 H2 S2 g2 r2 => by
    split at hw
    · split at hw
      · rename_i hr
        have r' := S2.look (r1.mono g2)
        have r'' := S2.look r2
        cases r'; cases r''
        obtain ⟨h1, h2⟩ := rngOk_of hr.1
        obtain ⟨h3, h4⟩ := rngOk_of hr.2
        exact ⟨_, _, rfl, ⟨h1, h2, h3, h4⟩, (show OkI ca X.K E B ρ σ R _ from hw) _ B2 H2 S2 (g1.trans g2) (yl_range _ _)⟩
      · exact hw.elim
    · exact hw.elim) fun _ _ z => z⟩) fun _ _ z => z⟩
/-- while -/
def loopW (c : FT) (s : FS) : Nat → List Slot → Ctl
  | 0, _ => .no
  | n + 1, ρ => (c ρ).ctl ρ fun k => if k = true then (match s ρ with
      | .nx ρ2 => loopW c s n ρ2
      | .ct ρ2 => loopW c s n ρ2
      | .bk ρ2 => .nx ρ2
      | c => c) else .nx ρ
/-- n: more than its turns, by the slots at its start -/
def fWhile (n : List Slot → Nat) (c : FT) (s : FS) : FS := fun ρ => loopW c s (n ρ) ρ
theorem s_while (n : List Slot → Nat) (hp : PassesOwn (model X.prog X.w) X.A X.env X.xe) (hc : PTe X ca W c ft) (hb : PBl X ca W sts s) : PSt X ca W (.While c sts [] pos) (fWhile n ft s) := ps_imp (ps_while hp hc hb) fun D σ H ⟨E, B0, ρ, S, z⟩ => by
  refine ⟨fun m σ' H' => ∃ B' ρ', SR ca X.K E B' ρ' σ' H' ∧ Grow B0 B' ∧ CtlOk ca X.K W E B' D (loopW ft s m ρ'), ⟨n ρ, B0, ρ, S, Grow.refl _, z⟩, fun m σ' H' ⟨B', ρ', S', g', z'⟩ => ?_⟩
  cases m with
  | zero => exact z'.elim
  | succ m =>
    refine ⟨E, B', ρ', S', (CtlOk.ctl z').imp (fun k hk B1 H1 S1 g1 => ?_) fun _ _ z => z⟩
    cases k with
    | false => rw [if_neg Bool.false_ne_true] at hk ⊢; exact hk σ' B1 H1 S1 g1
    | true =>
      rw [if_pos rfl] at hk ⊢
      refine ⟨fun σ2 H2 => ∃ B2 ρ2, SR ca X.K E B2 ρ2 σ2 H2 ∧ Grow B0 B2 ∧ CtlOk ca X.K W E B2 D (loopW ft s m ρ2), fun σ2 H2 h => ⟨m, by omega, h⟩, E, B1, ρ', S1, ?_⟩
      cases q : s ρ' with
      | nx ρ2 => rw [q] at hk; exact fun σ3 B3 H3 S3 g3 => ⟨B3, ρ2, S3, (g'.trans g1).trans g3, hk.grow (g1.trans g3)⟩
      | ct ρ2 => rw [q] at hk; exact fun σ3 B3 H3 S3 g3 => ⟨B3, ρ2, S3, (g'.trans g1).trans g3, hk.grow (g1.trans g3)⟩
      | bk ρ2 => rw [q] at hk; exact fun σ3 B3 H3 S3 g3 => hk σ3 B3 H3 S3 (g1.trans g3)
      | rt r => rw [q] at hk; cases r <;> exact hk
      | ex c fs ρ2 => rw [q] at hk; exact hk
      | no => rw [q] at hk; exact hk

/-! ### defs -/
def RetOk (ca : Str → Addr) (K : PySem.W.Frag) (H B : Hp) (Q : VK) : Ret → Prop
  | .val v => ∀ x B' H', SR ca K ⟨H, B, []⟩ B' [] [] H' → RepV ca K B' x v → Q x H'
  | .own o => ∀ x B' H', SR ca K ⟨H, B, []⟩ B' [.own o] [some x] H' → Q x H'
def spG (ca : Str → Addr) (K : PySem.W.Frag) (n : Nat) (G : List PV → Out Ret) : Sp := fun vs H Q Z => vs.length = n ∧ ∃ B ds, (∀ a o, B a = some o → H a = some o) ∧ Paired (RepV ca K B) vs ds ∧
  Ans (G ds) (RetOk ca K H B Q) (fun c fs => ∀ dx ws B' H', SR ca K ⟨H, B, []⟩ B' [] [] H' → H' dx = some (.xd ws) → KD B' ws fs → Z (.ref (ca c)) (some dx) H')
def Ctl.ret : Ctl → Out Ret
  | .nx _ => .ok (.val (.d .none))
  | .rt r => .ok r
  | .ex c fs _ => .err c fs
  | _ => .no
def entry (n : Nat) (ds : List PV) : List Slot := ds.map Slot.val ++ List.replicate (n - ds.length) .un
/-- the function of a def whose body does s, with n slots -/
def runF (n : Nat) (s : FS) : List PV → Out Ret := fun ds => (s (entry n ds)).ret
theorem entry_sr {K : PySem.W.Frag} {B H : Hp} {N : List Str} {vs : List V} {ds : List PV} (sub : ∀ a o, B a = some o → H a = some o) (r : Paired (RepV ca K B) vs ds) : SR ca K ⟨H, B, []⟩ B (entry N.length ds) (start N vs) H := by
  have hl : vs.length = ds.length := Paired.length r
  have ge : ∀ (i : Nat) (t : Slot), (entry N.length ds)[i]? = some t → t ≠ .un → ∃ v, ds[i]? = some v ∧ t = .val v := fun i t e ht => by
    unfold entry at e
    by_cases hi : i < ds.length
    · rw [List.getElem?_append_left (by simpa using hi), List.getElem?_map] at e
      obtain ⟨v, h1, h2⟩ := Option.map_eq_some_iff.mp e
      exact ⟨v, h1, h2.symm⟩
    · rw [List.getElem?_append_right (by simpa using hi)] at e
      have := List.mem_of_getElem? e
      exact absurd (List.eq_of_mem_replicate this) ht
  refine ⟨fun _ => [], by simp [entry, L2.start, hl], Grow.refl B, sub, fun a o e _ => e, fun a o e => .inl e, fun i v e => ?_, fun i o e => ?_, fun i o e => ?_, fun i j o u e => ?_⟩
  · obtain ⟨w, h1, h2⟩ := ge i _ e (by intro z; cases z)
    cases h2
    have key : ∀ {xs : List V} {ys : List PV} {i : Nat} {w : PV}, Paired (RepV ca K B) xs ys → ys[i]? = some w → ∃ x, xs[i]? = some x ∧ RepV ca K B x w := by
      intro xs ys i w r
      induction r generalizing i with
      | nil => intro e; simp at e
      | cons r t ih =>
        intro e
        cases i with
        | zero => simp at e; subst e; exact ⟨_, rfl, r⟩
        | succ i => simpa using ih (by simpa using e)
    obtain ⟨x, h3, h4⟩ := key r h1
    refine ⟨x, ?_, h4⟩
    unfold L2.start
    rw [List.getElem?_append_left (by simpa using lt_of_get h3), List.getElem?_map, h3]; rfl
  · obtain ⟨w, h1, h2⟩ := ge i _ e (by intro z; cases z); cases h2
  · obtain ⟨w, h1, h2⟩ := ge i _ e (by intro z; cases z); cases h2
  · obtain ⟨w, h1, h2⟩ := ge i _ e (by intro z; cases z); cases h2
/-- nothing is kept of the slots -/
theorem SR.bare {K : PySem.W.Frag} {E : Ent} {B H : Hp} {ρ : List Slot} {σ : L2.St} (S : SR ca K E B ρ σ H) : SR ca K E B [] [] H := by
  obtain ⟨AF, s⟩ := S
  exact ⟨fun _ => [], rfl, s.grow, s.sub, s.keep, s.newB, fun i v e => by simp at e, fun i v e => by simp at e, fun i v e => by simp at e, fun i j v u e => by simp at e⟩
theorem SR.bareO {K : PySem.W.Frag} {E : Ent} {B H : Hp} {ρ : List Slot} {σ : L2.St} {o : OV} {x : V} (S : SR ca K E B (ρ ++ [.own o]) (σ ++ [some x]) H) : SR ca K E B [.own o] [some x] H := by
  obtain ⟨AF, s⟩ := S
  have l : ρ.length = σ.length := by simpa using s.len
  have last : (ρ ++ [.own o])[ρ.length]? = some (.own o) := by simp
  obtain ⟨p, h1, h2⟩ := s.own ρ.length o last
  have ex : x = .ref p := by
    rw [l] at h1
    simp at h1
    exact h1
  subst ex
  have f : ∀ (i : Nat) (t : Slot), ([.own o] : List Slot)[i]? = some t → i = 0 ∧ t = .own o := fun i t e => by
    cases i with
    | zero => simp at e; exact ⟨rfl, e.symm⟩
    | succ i => simp at e
  refine ⟨fun _ => AF ρ.length, rfl, s.grow, s.sub, s.keep, s.newB, fun i v e => ?_, fun i u e => ?_, fun i u e a ha => ?_, fun i j u w e e' hij => ?_⟩
  · obtain ⟨_, z⟩ := f i _ e; cases z
  · obtain ⟨rfl, z⟩ := f i _ e; cases z; exact ⟨p, rfl, h2⟩
  · exact s.ofr ρ.length o last a ha
  · obtain ⟨rfl, _⟩ := f i _ e
    obtain ⟨rfl, _⟩ := f j _ e'
    omega
section
variable {P : Program} {w : World} {K : PySem.W.Frag} {mg : Str → Option Value} {base : Heap}
/-- THE RULE of a def: its body's function -/
theorem fn_ok {x qual : Str} {st : Stmt} {f : Addr} {fd : FuncData} {N ps : List Str} {k : Nat} {s : FS} (F : Fun K x qual st f fd) (S : FnScope N ps (defScope st))
    (body : ∀ (cdv : Value) (A : Around) (outer : List Env) (sh : Shared) (H : Hp) (Z : XK), Room k (A.deeper (envOfC qual (defScope st) sh.heap.objs.size f cdv)) → Takes (cxOf (L2.CX P w) P w K mg base N qual (defScope st) f cdv A outer sh H Z) (fun cls d _ H' => Z cls d H') →
      PBl (cxOf (L2.CX P w) P w K mg base N qual (defScope st) f cdv A outer sh H Z) ca (fun cls d _ H' => Z cls d H') (defBody st) s) :
    FnOk P w K mg base (L2.CX P w) (k + 1) f fd ps (spG ca K ps.length (runF N.length s)) := by
  refine F.okX S (fun vs H Q Z h => h.1) (fun cdv A outer sh H vs Q Z hr h => ?_)
  refine ⟨_, body cdv A outer sh H Z hr (takes_of rfl rfl rfl rfl), ?_⟩
  obtain ⟨hl, B, ds, sub, r, h⟩ := h
  refine ⟨⟨H, B, []⟩, B, entry N.length ds, entry_sr sub r, ?_⟩
  unfold runF at h
  cases q : s (entry N.length ds) with
  | nx ρ => rw [q] at h; exact fun σ B' H' S' _ => (show RetOk ca K H B Q (.val (.d .none)) from h) .non B' H' S'.bare .non
  | bk ρ => rw [q] at h; exact h.elim
  | ct ρ => rw [q] at h; exact h.elim
  | rt rr =>
    rw [q] at h
    cases rr with
    | val v => exact fun x B' H' ρ σ S' r' => (show RetOk ca K H B Q (.val v) from h) x B' H' S'.bare r'
    | own o => exact fun x B' H' ρ σ S' => (show RetOk ca K H B Q (.own o) from h) x B' H' S'.bareO
  | ex c fs ρ => rw [q] at h; exact fun σ dx ws B' H' S' e kd => h dx ws B' H' S'.bare e kd
  | no => rw [q] at h; exact h.elim
end
/-- what callers know of a def -/
structure Def (P : Program) (w : World) (K : PySem.W.Frag) (mg : Str → Option Value) (base : Heap) (ca : Str → Addr) (k : Nat) (x : Str) (n : Nat) (G : List PV → Out Ret) : Prop where
  ok : ∃ fd ps, FnOk P w K mg base (L2.CX P w) k (ca x) fd ps (spG ca K n G) ∧ Binds K fd ps []
  gl : mg x = some (.ref (ca x))
  kp : PySem.W.keepIn K (.ref (ca x)) = true
theorem Paired.mono' {α β : Type} {F G : α → β → Prop} {l : List α} {m : List β} (h : Paired F l m) (i : ∀ a b, F a b → G a b) : Paired G l m := Paired.mapP h i
/-- f(e, ..) -/
def eCall (n : Nat) (G : List PV → Out Ret) (fs : FA) : FE := fun ρ => fs ρ >>= fun vs => if vs.length = n then (G vs >>= fun r => .ok r.pv) else .no
def oCall (n : Nat) (G : List PV → Out Ret) (fs : FA) : FO := fun ρ => fs ρ >>= fun vs => if vs.length = n then (G vs >>= fun r => match r with | .own o => .ok o | .val _ => .no) else .no
theorem call_of {K : PySem.W.Frag} {E : Ent} {B H : Hp} {ρ : List Slot} {σ : L2.St} {n : Nat} {G : List PV → Out Ret} {xs : List V} {vs : List PV} {Q : VK} {P : Ret → Prop} (S : SR ca K E B ρ σ H) (r : Paired (RepV ca K B) xs vs) (hn : vs.length = n) (h : Ans (G vs) P (XW ca K W E ρ σ))
    (hv : ∀ v x B' H', P (.val v) → SR ca K E B' ρ σ H' → Grow B B' → RepV ca K B' x v → Q x H') (ho : ∀ o x B' H', P (.own o) → SR ca K E B' (ρ ++ [.own o]) (σ ++ [some x]) H' → Grow B B' → Q x H') : spG ca K n G xs H Q (fun cls d H' => W cls d σ H') := by
  refine ⟨(Paired.length r).trans hn, B, vs, S.sub, r, h.imp (fun rr hr => ?_) fun c fs hx dx ws B' H' S' e kd => ?_⟩
  · cases rr with
    | val v => exact fun x B' H' S' r' => hv v x B' H' hr (S.after S').1 (S.after S').2 r'
    | own o => exact fun x B' H' S' => ho o x B' H' hr (S.afterO S').1 (S.afterO S').2
  · exact hx dx ws B' H' (S.after S').1 e kd
section
variable {j k n : Nat} {G : List PV → Out Ret}
theorem v_call (D : Def X.prog X.w X.K X.mg X.base ca k x n G) (hr : Room j X.A) (tk : Takes X W) (ha : PAV X ca W (e :: es) fs) (hk : k ≤ j := by decide) (hg : Gl X x := by rfl) (hdb : (x == ("__debug__" : Str)) = false := by decide)
    (he : starEach (e :: es) X.env = (false, eval e X.env) :: starEach es X.env := by rfl) (hpl : (backTo pos (starEach es X.env)).any (·.1) = false := by rfl) : PVa X ca W (.Call (.Name x p) (e :: es) [] pos) (eCall n G fs) := by
  obtain ⟨fd, ps, F, b⟩ := D.ok
  refine pe_imp (pe_callS F (hr.mono hk) hg D.gl D.kp b (fun σ => passAt tk σ) ha hdb he hpl) fun σ H Q ⟨E, B, ρ, S, z⟩ => ⟨E, B, ρ, S, (Ans.bind z).imp (fun vs hv xs B1 H1 S1 g1 r1 => ?_) fun _ _ z => z⟩
  split at hv
  · rename_i hn
    exact call_of S1 r1 hn (Ans.bind hv) (fun v x B' H' hp S' g' r' => (show OkV ca X.K E B ρ σ Q v from hp) x B' H' S' (g1.trans g') r') (fun o x B' H' hp S' g' => by
      obtain ⟨B2, g2, r2, S2⟩ := S'.freezeLast
      exact (show OkV ca X.K E B ρ σ Q o.frz from hp) x B2 H' S2 ((g1.trans g').trans g2) r2)
  · exact hv.elim
theorem o_call (D : Def X.prog X.w X.K X.mg X.base ca k x n G) (hr : Room j X.A) (tk : Takes X W) (ha : PAV X ca W (e :: es) fs) (hk : k ≤ j := by decide) (hg : Gl X x := by rfl) (hdb : (x == ("__debug__" : Str)) = false := by decide)
    (he : starEach (e :: es) X.env = (false, eval e X.env) :: starEach es X.env := by rfl) (hpl : (backTo pos (starEach es X.env)).any (·.1) = false := by rfl) : POw X ca W (.Call (.Name x p) (e :: es) [] pos) (oCall n G fs) := by
  obtain ⟨fd, ps, F, b⟩ := D.ok
  refine pe_imp (pe_callS F (hr.mono hk) hg D.gl D.kp b (fun σ => passAt tk σ) ha hdb he hpl) fun σ H Q ⟨E, B, ρ, S, z⟩ => ⟨E, B, ρ, S, (Ans.bind z).imp (fun vs hv xs B1 H1 S1 g1 r1 => ?_) fun _ _ z => z⟩
  split at hv
  · rename_i hn
    exact call_of S1 r1 hn (Ans.bind hv) (fun v x B' H' hp S' g' r' => hp.elim) (fun o x B' H' hp S' g' => (show OkO ca X.K E B ρ σ Q o from hp) x B' H' S' (g1.trans g'))
  · exact hv.elim
end
end
end Pu
/-! The pure layer, part 9: comprehensions. -/
namespace Pu
open PySem PySem.Spec PyProof.Rows L2
section
variable {ca : Str → Addr} {K : PySem.W.Frag} {E : Ent} {B B' H H' : Hp} {ρ ρ' : List Slot} {σ σ' : L2.St}
/-- a turn within, beside an object that the turn does not know -/
theorem SR.turnF {o : OV} {x : V} (S : SR ca K E B (ρ ++ [.own o]) (σ ++ [some x]) H) : ∃ M, SR ca K ⟨H, B, M⟩ B ρ σ H ∧ ∀ {B' H' : Hp} {ρ' : List Slot} {σ' : L2.St}, SR ca K ⟨H, B, M⟩ B' ρ' σ' H' → SR ca K E B' (ρ' ++ [.own o]) (σ' ++ [some x]) H' ∧ Grow B B' := by
  obtain ⟨AF, s, neat⟩ := S.neat
  have l : ρ.length = σ.length := by simpa using s.len
  have up : ∀ (i : Nat) (t : Slot), ρ[i]? = some t → (ρ ++ [.own o])[i]? = some t := fun i t e => by rw [List.getElem?_append_left (lt_of_get e)]; exact e
  have dn : ∀ (i : Nat) (t : Slot) (z : Option V), ρ[i]? = some t → (σ ++ [some x])[i]? = some z → σ[i]? = some z := fun i t z e f => by rw [List.getElem?_append_left (by rw [← l]; exact lt_of_get e)] at f; exact f
  have last : (ρ ++ [.own o])[ρ.length]? = some (.own o) := by simp
  obtain ⟨p, hp1, hp2⟩ := s.own ρ.length o last
  have ex : x = .ref p := by
    rw [l] at hp1
    simp at hp1
    exact hp1
  subst ex
  have hM : ∀ a ∈ AF ρ.length, a ∉ owned ρ AF := fun a ha hb => by
    obtain ⟨i, hi, h⟩ := List.mem_flatMap.mp hb
    have hl : i < ρ.length := List.mem_range.mp hi
    cases q : ρ[i] with
    | un => rw [neat i .un (up i _ (by rw [List.getElem?_eq_getElem hl, q])) (fun o z => by cases z)] at h; simp at h
    | val v => rw [neat i (.val v) (up i _ (by rw [List.getElem?_eq_getElem hl, q])) (fun o z => by cases z)] at h; simp at h
    | own u => exact s.dis ρ.length i o u last (up i _ (by rw [List.getElem?_eq_getElem hl, q])) (by omega) a ha h
  have oM : ∀ a ∈ owned ρ AF, E.H a = none ∨ a ∈ E.M := fun a hb => by
    obtain ⟨i, hi, h⟩ := List.mem_flatMap.mp hb
    have hl : i < ρ.length := List.mem_range.mp hi
    cases q : ρ[i] with
    | un => rw [neat i .un (up i _ (by rw [List.getElem?_eq_getElem hl, q])) (fun o z => by cases z)] at h; simp at h
    | val v => rw [neat i (.val v) (up i _ (by rw [List.getElem?_eq_getElem hl, q])) (fun o z => by cases z)] at h; simp at h
    | own u => exact (s.ofr i u (up i _ (by rw [List.getElem?_eq_getElem hl, q])) a h).2
  have eh : ∀ a, H a = none → E.H a = none ∨ a ∈ E.M := fun a n => by
    by_cases hm : a ∈ E.M
    · exact .inr hm
    · cases q : E.H a with
      | none => exact .inl rfl
      | some o => rw [s.keep a o q hm] at n; cases n
  refine ⟨owned ρ AF, ⟨AF, l, Grow.refl B, s.sub, fun a o e _ => e, fun a o e => .inl e, fun i v e => ?_, fun i u e => ?_, fun i u e a ha => ⟨(s.ofr i u (up i _ e) a ha).1, .inr (mem_owned e ha)⟩, fun i j u w e1 e2 => s.dis i j u w (up i _ e1) (up j _ e2)⟩, fun {B' H' ρ' σ'} c => ?_⟩
  · obtain ⟨y, h1, h2⟩ := s.val i v (up i _ e)
    exact ⟨y, dn i _ _ e h1, h2⟩
  · obtain ⟨y, h1, h2⟩ := s.own i u (up i _ e)
    exact ⟨y, dn i _ _ e h1, h2⟩
  · obtain ⟨AF', c⟩ := c
    have kD : ∀ a ∈ AF ρ.length, H' a = H a := fun a ha => by
      obtain ⟨u, hu⟩ := hp2.there a ha
      rw [hu]
      exact c.keep a u hu (hM a ha)
    have old : ∀ (i : Nat) (u : OV), ρ'[i]? = some (.own u) → ∀ a ∈ AF' i, a ∉ AF ρ.length := fun i u e a ha hb => by
      obtain ⟨w, hw⟩ := hp2.there a hb
      rcases (c.ofr i u e a ha).2 with h | h
      · cases (hw.symm.trans h)
      · exact hM a hb h
    refine ⟨⟨fun i => if i = ρ'.length then AF ρ.length else AF' i, by simp [c.len], s.grow.trans c.grow, c.sub, fun a u e hm => ?_, fun a u e => ?_, fun i v e => ?_, fun i u e => ?_, fun i u e a ha => ?_, fun i j u w ei ej hij a ha => ?_⟩, c.grow⟩
    · refine c.keep a u (s.keep a u e hm) fun hb => ?_
      rcases oM a hb with z | z
      · rw [e] at z; cases z
      · exact hm z
    · rcases c.newB a u e with h | h | h | h
      · exact s.newB a u h
      · exact .inr ((eh a h).imp _root_.id .inl)
      · exact .inr ((oM a h).imp _root_.id .inl)
      · exact .inr (.inr (.inr h))
    · rcases get_app e with ⟨hi, e'⟩ | ⟨_, z⟩
      · obtain ⟨y, q1, q2⟩ := c.val i v e'
        exact ⟨y, by rw [List.getElem?_append_left (by rw [← c.len]; exact hi)]; exact q1, q2⟩
      · cases z
    · rcases get_app e with ⟨hi, e'⟩ | ⟨hi, z⟩
      · obtain ⟨y, q1, q2⟩ := c.own i u e'
        exact ⟨y, by rw [List.getElem?_append_left (by rw [← c.len]; exact hi)]; exact q1, by rw [if_neg (by omega)]; exact q2⟩
      · cases z
        refine ⟨p, ?_, by rw [if_pos hi]; exact hp2.stay c.grow kD⟩
        rw [List.getElem?_append_right (by rw [← c.len]; omega)]
        rw [hi, c.len]; simp
    · rcases get_app e with ⟨hi, e'⟩ | ⟨hi, z⟩
      · rw [if_neg (by omega)] at ha
        obtain ⟨h1, h2⟩ := c.ofr i u e' a ha
        refine ⟨h1, ?_⟩
        rcases h2 with h | h
        · exact eh a h
        · exact oM a h
      · rw [if_pos hi] at ha
        obtain ⟨h1, h2⟩ := s.ofr ρ.length o last a ha
        refine ⟨?_, h2⟩
        obtain ⟨u', hu⟩ := hp2.there a ha
        cases q : B' a with
        | none => rfl
        | some w =>
          rcases c.newB a w q with h | h | h | ⟨xs, h⟩
          · cases (h1.symm.trans h)
          · cases (hu.symm.trans h)
          · exact (hM a ha h).elim
          · subst h
            have z := c.sub a _ q
            rw [kD a ha, hu] at z
            cases z
            exact (hp2.notTup a ha _ hu).elim
    · rcases get_app ei with ⟨hi, ei'⟩ | ⟨hi, zi⟩
      · rw [if_neg (by omega)] at ha
        rcases get_app ej with ⟨hj, ej'⟩ | ⟨hj, zj⟩
        · rw [if_neg (by omega)]; exact c.dis i j u w ei' ej' hij a ha
        · rw [if_pos hj]; exact old i u ei' a ha
      · rw [if_pos hi] at ha
        rcases get_app ej with ⟨hj, ej'⟩ | ⟨hj, zj⟩
        · rw [if_neg (by omega)]; exact fun z => old j w ej' a z ha
        · omega
/-! ### slots forgotten and had again -/
theorem SR.wiped : ∀ (is : List Nat) {ρ : List Slot} {σ : L2.St}, SR ca K E B ρ σ H → SR ca K E B (unset is ρ) (wipe σ is) H
  | [], _, _, S => S
  | i :: is, _, _, S => (SR.wiped is S).forget
theorem unset_length (is : List Nat) (ρ : List Slot) : (unset is ρ).length = ρ.length := by
  induction is with
  | nil => rfl
  | cons i is ih => unfold unset; rw [List.length_set, ih]
theorem unset_app (is : List Nat) (ρ : List Slot) (t : Slot) (h : ∀ i ∈ is, i < ρ.length) : unset is (ρ ++ [t]) = unset is ρ ++ [t] := by
  induction is with
  | nil => rfl
  | cons i is ih =>
    unfold unset
    rw [ih fun j hj => h j (List.mem_cons_of_mem _ hj), List.set_append_left _ _ (by rw [unset_length]; exact h i List.mem_cons_self)]
theorem wipe_app (is : List Nat) (σ : L2.St) (t : Option V) (h : ∀ i ∈ is, i < σ.length) : wipe (σ ++ [t]) is = wipe σ is ++ [t] := by
  induction is with
  | nil => rfl
  | cons i is ih =>
    unfold wipe
    rw [ih fun j hj => h j (List.mem_cons_of_mem _ hj), List.set_append_left _ _ (by rw [wipe_length]; exact h i List.mem_cons_self)]
theorem unset_out {is : List Nat} {ρ : List Slot} {i : Nat} (h : i ∉ is) : (unset is ρ)[i]? = ρ[i]? := by
  induction is with
  | nil => rfl
  | cons j is ih =>
    unfold unset
    rw [List.getElem?_set_ne (fun e => h (by simp [e]))]
    exact ih fun z => h (List.mem_cons_of_mem _ z)
theorem unset_in {is : List Nat} {ρ : List Slot} {i : Nat} (h : i ∈ is) (hi : i < ρ.length) : (unset is ρ)[i]? = some .un := by
  induction is with
  | nil => simp at h
  | cons j is ih =>
    unfold unset
    by_cases e : i = j
    · subst e; rw [List.getElem?_set_self (by rw [unset_length]; exact hi)]
    · rw [List.getElem?_set_ne (Ne.symm e)]
      exact ih ((List.mem_cons.mp h).resolve_left e)
theorem unset_chg {is vs : List Nat} {ρ ρ' : List Slot} (c : Chg is ρ ρ') (h : ∀ i ∈ is, i ∈ vs) : unset vs ρ' = unset vs ρ := by
  apply List.ext_getElem?
  intro i
  by_cases hv : i ∈ vs
  · by_cases hl : i < ρ.length
    · rw [unset_in hv hl, unset_in hv (by rw [c.1]; exact hl)]
    · rw [List.getElem?_eq_none (by rw [unset_length, c.1]; omega), List.getElem?_eq_none (by rw [unset_length]; omega)]
  · rw [unset_out hv, unset_out hv]
    exact c.2 i fun z => hv (h i z)
theorem unset_twice (vs : List Nat) (ρ : List Slot) : unset vs (unset vs ρ) = unset vs ρ := unset_chg (is := vs) ⟨unset_length vs ρ, fun j h => unset_out h⟩ fun i h => h
theorem wipe_in {is : List Nat} {σ : L2.St} {i : Nat} (h : i ∈ is) (hi : i < σ.length) : (wipe σ is)[i]? = some none := by
  induction is with
  | nil => simp at h
  | cons j is ih =>
    unfold wipe
    by_cases e : i = j
    · subst e; rw [List.getElem?_set_self (by rw [wipe_length]; exact hi)]
    · rw [List.getElem?_set_ne (Ne.symm e)]
      exact ih ((List.mem_cons.mp h).resolve_left e)
theorem wipe_chg {is vs : List Nat} {σ σ' : L2.St} (c : Chg is σ σ') (h : ∀ i ∈ is, i ∈ vs) : wipe σ' vs = wipe σ vs := by
  apply List.ext_getElem?
  intro i
  by_cases hv : i ∈ vs
  · by_cases hl : i < σ.length
    · rw [wipe_in hv hl, wipe_in hv (by rw [c.1]; exact hl)]
    · rw [List.getElem?_eq_none (by rw [wipe_length, c.1]; omega), List.getElem?_eq_none (by rw [wipe_length]; omega)]
  · rw [wipe_out hv, wipe_out hv]
    exact c.2 i fun z => hv (h i z)
/-- no slot of these owns -/
def noOwn (vs : List Nat) (ρ : List Slot) : Bool := vs.all fun i => match ρ[i]? with
  | some (.own _) => false
  | _ => true
theorem SR.regain {vs : List Nat} {x : V} {o : OV} (S : SR ca K E B ρ σ H) (g : Grow B B') (n : noOwn vs ρ = true) (S' : SR ca K E B' (unset vs ρ ++ [.own o]) (wipe σ vs ++ [some x]) H') : SR ca K E B' (ρ ++ [.own o]) (σ ++ [some x]) H' := by
  obtain ⟨AF, s⟩ := S'
  have no : ∀ (i : Nat) (u : OV), i ∈ vs → ρ[i]? = some (.own u) → False := fun i u hi e => by
    have h := List.all_eq_true.mp n i hi
    rw [e] at h
    cases h
  have f : ∀ (i : Nat) (t : Slot), (ρ ++ [.own o])[i]? = some t → i ∉ vs ∨ ρ.length ≤ i → (unset vs ρ ++ [.own o])[i]? = some t := fun i t e h => by
    rcases get_app e with ⟨h1, h2⟩ | ⟨h1, h2⟩
    · rw [List.getElem?_append_left (by rw [unset_length]; exact h1), unset_out (h.resolve_right (by omega))]; exact h2
    · rw [List.getElem?_append_right (by rw [unset_length]; omega), unset_length, h1, h2]; simp
  have l := S.len
  have gσ : ∀ (i : Nat) (z : Option V), (wipe σ vs ++ [some x])[i]? = some z → i ∉ vs ∨ σ.length ≤ i → (σ ++ [some x])[i]? = some z := fun i z e h => by
    rcases get_app e with ⟨h1, h2⟩ | ⟨h1, h2⟩
    · rw [wipe_length] at h1
      rw [List.getElem?_append_left h1, ← wipe_out (h.resolve_right (by omega))]; exact h2
    · rw [wipe_length] at h1
      rw [List.getElem?_append_right (by omega), h1, h2]; simp
  refine ⟨AF, by simp [l], s.grow, s.sub, s.keep, s.newB, fun i v e => ?_, fun i u e => ?_, fun i u e a ha => ?_, fun i j u w ei ej hij => ?_⟩
  · by_cases hv : i ∈ vs ∧ i < ρ.length
    · rcases get_app e with ⟨h1, h2⟩ | ⟨h1, h2⟩
      · obtain ⟨y, h3, h4⟩ := S.val h2
        exact ⟨y, by rw [List.getElem?_append_left (by rw [← l]; exact h1)]; exact h3, h4.mono g⟩
      · cases h2
    · have h : i ∉ vs ∨ ρ.length ≤ i := by
        by_cases q : i ∈ vs
        · exact .inr (Nat.le_of_not_lt fun z => hv ⟨q, z⟩)
        · exact .inl q
      obtain ⟨y, h3, h4⟩ := s.val i v (f i _ e h)
      exact ⟨y, gσ i _ h3 (by rw [← l]; exact h), h4⟩
  · have h : i ∉ vs ∨ ρ.length ≤ i := by
      by_cases q : i ∈ vs
      · rcases get_app e with ⟨h1, h2⟩ | ⟨h1, h2⟩
        · exact (no i u q h2).elim
        · exact .inr (by omega)
      · exact .inl q
    obtain ⟨y, h3, h4⟩ := s.own i u (f i _ e h)
    exact ⟨y, gσ i _ h3 (by rw [← l]; exact h), h4⟩
  · have h : i ∉ vs ∨ ρ.length ≤ i := by
      by_cases q : i ∈ vs
      · rcases get_app e with ⟨h1, h2⟩ | ⟨h1, h2⟩
        · exact (no i u q h2).elim
        · exact .inr (by omega)
      · exact .inl q
    exact s.ofr i u (f i _ e h) a ha
  · have h : ∀ (i : Nat) (u : OV), (ρ ++ [.own o])[i]? = some (.own u) → i ∉ vs ∨ ρ.length ≤ i := fun i u e => by
      by_cases q : i ∈ vs
      · rcases get_app e with ⟨h1, h2⟩ | ⟨h1, h2⟩
        · exact (no i u q h2).elim
        · exact .inr (by omega)
      · exact .inl q
    exact s.dis i j u w (f i _ ei (h i u ei)) (f j _ ej (h j w ej)) hij
end
/-! ### [elt for tg in it if ..] -/
def Out.quiet {α : Type} : Out α → Out α
  | .ok a => .ok a
  | _ => .no
/-- within a block nothing is raised -/
abbrev W0 : WX := fun _ _ _ _ => False
def lcL (g : FG) (t : FT) (f : FE) : List PyData → List Slot → Out (List PyData)
  | [], _ => .ok []
  | d :: ds, ρ => match g d ρ with
    | none => .no
    | some ρ1 => (t ρ1).quiet >>= fun k => if k = true then ((f ρ1).quiet >>= fun v => match v with
        | .d y => lcL g t f ds ρ >>= fun ys => .ok (y :: ys)
        | _ => .no) else lcL g t f ds ρ
def ltAll (vs : List Nat) (ρ : List Slot) : Bool := vs.all fun i => decide (i < ρ.length)
def oLc (vs : List Nat) (fi : FI) (g : FG) (t : FT) (f : FE) : FO := fun ρ => fi ρ >>= fun ds => if noOwn vs ρ = true ∧ ltAll vs ρ = true then (lcL g t f ds (unset vs ρ) >>= fun ys => if ys.length ≤ big then .ok (.lst ys) else .no) else .no
theorem Ans.quiet {α : Type} {o : Out α} {P : α → Prop} {Q Q' : Str → List (Str × PyData) → Prop} (h : Ans o.quiet P Q) : Ans o P Q' := by
  cases o with
  | ok a => exact h
  | err c fs => exact h.elim
  | no => exact h.elim
theorem quiet_ok {α : Type} {o : Out α} {a : α} (h : o.quiet = .ok a) : o = .ok a := by
  cases o <;> simp [Out.quiet] at h ⊢ <;> exact h
theorem lcL_len (g : FG) (t : FT) (f : FE) : ∀ (ds : List PyData) (ρ : List Slot) (ys : List PyData), lcL g t f ds ρ = .ok ys → ys.length ≤ ds.length
  | [], _, ys, h => by unfold lcL at h; cases h; exact Nat.le_refl _
  | d :: ds, ρ, ys, h => by
    unfold lcL at h
    split at h
    · cases h
    · rename_i ρ1 _
      cases ht : (t ρ1).quiet with
      | err c fs => rw [ht] at h; cases h
      | no => rw [ht] at h; cases h
      | ok k =>
        rw [ht, ok_bind] at h
        cases k with
        | false =>
          rw [if_neg Bool.false_ne_true] at h
          exact Nat.le_trans (lcL_len g t f ds ρ ys h) (Nat.le_succ _)
        | true =>
          rw [if_pos rfl] at h
          cases hf : (f ρ1).quiet with
          | err c fs => rw [hf] at h; cases h
          | no => rw [hf] at h; cases h
          | ok v =>
            rw [hf, ok_bind] at h
            split at h
            · cases hl : lcL g t f ds ρ with
              | err c fs => rw [hl] at h; cases h
              | no => rw [hl] at h; cases h
              | ok zs =>
                rw [hl, ok_bind] at h
                cases h
                have := lcL_len g t f ds ρ zs hl
                simp only [List.length_cons]
                omega
            · cases h
section
variable {X : Cx} {ca : Str → Addr} {W : WX} {fi : FI} {g : FG} {t : FT} {f : FE} {is vs : List Nat}
theorem lc_of {K : PySem.W.Frag} (his : ∀ i ∈ is, i ∈ vs) {σ : L2.St} {H : Hp} {Q : VK} (h : tO ca K W (oLc vs fi g t f) σ H Q) : tLc (tI ca K W fi) (tG ca K is g) (tT ca K W0 t) (tV ca K W0 f) vs σ H Q := by
  obtain ⟨E, B, ρ, S, z⟩ := h
  refine ⟨E, B, ρ, S, (Ans.bind z).imp (fun ds hds J B0 H0 S0 g0 Y D hD => ?_) fun _ _ z => z⟩
  split at hds
  · rename_i hc
    obtain ⟨hno, hlt⟩ := hc
    have hlt' : ∀ i ∈ vs, i < ρ.length := fun i hi => of_decide_eq_true (List.all_eq_true.mp hlt i hi)
    cases hl : lcL g t f ds (unset vs ρ) with
    | err c fs =>
      exact absurd hl (by
        have key : ∀ (ds : List PyData) (ρ : List Slot), lcL g t f ds ρ ≠ .err c fs := by
          intro ds
          induction ds with
          | nil => intro ρ; unfold lcL; simp
          | cons d ds ih =>
            intro ρ h
            unfold lcL at h
            split at h
            · cases h
            · rename_i ρ1 _
              cases ht : t ρ1 with
              | err c fs => rw [ht] at h; cases h
              | no => rw [ht] at h; cases h
              | ok k =>
                rw [ht] at h
                cases k with
                | false => exact ih ρ h
                | true =>
                  cases hf : f ρ1 with
                  | err c fs =>
                    have h' : ((f ρ1).quiet >>= fun v => match v with | .d y => lcL g t f ds ρ >>= fun ys => .ok (y :: ys) | _ => .no) = Out.err _ _ := h
                    rw [hf] at h'; cases h'
                  | no =>
                    have h' : ((f ρ1).quiet >>= fun v => match v with | .d y => lcL g t f ds ρ >>= fun ys => .ok (y :: ys) | _ => .no) = Out.err _ _ := h
                    rw [hf] at h'; cases h'
                  | ok v =>
                    have h' : ((f ρ1).quiet >>= fun v => match v with | .d y => lcL g t f ds ρ >>= fun ys => .ok (y :: ys) | _ => .no) = Out.err _ _ := h
                    rw [hf] at h'
                    cases v with
                    | d y =>
                      have h2 : (lcL g t f ds ρ >>= fun ys => Out.ok (y :: ys)) = .err c fs := h'
                      cases hr : lcL g t f ds ρ with
                      | ok zs => rw [hr] at h2; cases h2
                      | err c' fs' => rw [hr] at h2; cases h2; exact ih ρ hr
                      | no => rw [hr] at h2; cases h2
                    | _ => cases h'
        exact key ds _)
    | no => rw [hl] at hds; exact hds.elim
    | ok ys =>
      rw [hl, ok_bind] at hds
      split at hds
      · rename_i hbig
        have hfin : OkO ca K E B ρ σ Q (.lst ys) := hds
        -- the state without the block's names
        have S1 := S0.wiped vs
        have S2 := S1.laidO (u := .lst []) (o := .lst []) hD ⟨rfl, [], upd_same, .nil⟩
        refine ⟨fun i m H' => m + i = ds.length ∧ ∃ B' acc rest, SR ca K E B' (unset vs ρ ++ [.own (.lst acc)]) (wipe σ vs ++ [some (.ref D)]) H' ∧ Grow B0 B' ∧ lcL g t f (ds.drop i) (unset vs ρ) = .ok rest ∧ acc ++ rest = ys, ⟨ds.length, by omega, B0, [], ys, S2, Grow.refl _, by simpa using hl, rfl⟩, fun i m H' ⟨hm, B', acc, rest, S', g', hr, he⟩ => ?_⟩
        by_cases hi : i < ds.length
        · rw [List.drop_eq_getElem_cons hi] at hr
          unfold lcL at hr
          have hd : ds[i]? = some ds[i] := List.getElem?_eq_getElem hi
          split at hr
          · cases hr
          · rename_i ρ1 hg
            refine .inr ⟨Y.go i B' H' g' S'.sub hi, fun H2 => ∃ B2 acc2 rest2, SR ca K E B2 (unset vs ρ ++ [.own (.lst acc2)]) (wipe σ vs ++ [some (.ref D)]) H2 ∧ Grow B0 B2 ∧ lcL g t f (ds.drop (i + 1)) (unset vs ρ) = .ok rest2 ∧ acc2 ++ rest2 = ys, fun H2 ⟨B2, acc2, rest2, h2⟩ => ⟨m - 1, by omega, by omega, B2, acc2, rest2, h2⟩, fun x H1 hy => ?_⟩
            obtain ⟨B1, S1', g1, r1⟩ := Y.yld i E B' _ _ H' x H1 g' S' hy _ hd
            obtain ⟨M, Sin, back⟩ := S1'.turnF
            refine ⟨⟨H1, B1, M⟩, B1, unset vs ρ, ds[i], Sin, r1, ρ1, hg, fun σ2 S2' c1 c2 => ?_⟩
            have wq : wipe σ2 vs = wipe σ vs := by
              rw [wipe_chg c1 his]
              exact wipe_chg (is := vs) ⟨wipe_length σ vs, fun j hj => wipe_out hj⟩ fun i h => h
            have uq : unset vs ρ1 = unset vs ρ := by rw [unset_chg c2 his, unset_twice]
            have hlt1 : ∀ i ∈ vs, i < ρ1.length := fun i hi => by rw [c2.1, unset_length]; exact hlt' i hi
            -- back to the state with the list
            have fin : ∀ {B3 H3 : Hp}, SR ca K ⟨H1, B1, M⟩ B3 ρ1 σ2 H3 → SR ca K E B3 (unset vs ρ ++ [.own (.lst acc)]) (wipe σ vs ++ [some (.ref D)]) H3 ∧ Grow B1 B3 := fun {B3 H3} c => by
              obtain ⟨b, gb⟩ := back c
              have bw := b.wiped vs
              rw [unset_app _ _ _ hlt1, wipe_app _ _ _ (fun i hi => by rw [← S2'.len]; exact hlt1 i hi), uq, wq] at bw
              exact ⟨bw, gb⟩
            refine ⟨wq, ⟨H1, B1, M⟩, B1, ρ1, S2', ?_⟩
            cases ht : (t ρ1).quiet with
            | err c fs => rw [ht] at hr; cases hr
            | no => rw [ht] at hr; cases hr
            | ok k =>
              rw [ht, ok_bind] at hr
              rw [quiet_ok ht]
              intro B3 H3 S3 g3
              cases k with
              | false =>
                rw [if_neg Bool.false_ne_true] at hr ⊢
                obtain ⟨b, gb⟩ := fin S3
                exact ⟨B3, acc, rest, b, (g'.trans g1).trans g3, hr, he⟩
              | true =>
                rw [if_pos rfl] at hr ⊢
                refine ⟨⟨H1, B1, M⟩, B3, ρ1, S3, ?_⟩
                cases hf : (f ρ1).quiet with
                | err c fs => rw [hf] at hr; cases hr
                | no => rw [hf] at hr; cases hr
                | ok v =>
                  rw [hf, ok_bind] at hr
                  rw [quiet_ok hf]
                  intro y B4 H4 S4 g4 r4
                  split at hr
                  · rename_i yd
                    cases hl2 : lcL g t f (ds.drop (i + 1)) (unset vs ρ) with
                    | err c fs => rw [hl2] at hr; cases hr
                    | no => rw [hl2] at hr; cases hr
                    | ok rest2 =>
                      rw [hl2, ok_bind] at hr
                      cases hr
                      obtain ⟨b, gb⟩ := fin S4
                      have lst : (unset vs ρ ++ [.own (.lst acc)])[(unset vs ρ).length]? = some (.own (.lst acc)) := by simp
                      have lsσ : (wipe σ vs ++ [some (.ref D)])[(unset vs ρ).length]? = some (some (.ref D)) := by
                        have e1 : (unset vs ρ).length = (wipe σ vs).length := by rw [unset_length, wipe_length]; exact S.len
                        rw [e1]; simp
                      obtain ⟨p, A, k1, k2⟩ := b.ownAt lst
                      rw [lsσ] at k1
                      cases k1
                      obtain ⟨_, xs, k3, k4⟩ := id k2
                      refine ⟨xs, k3, ?_, B4, acc ++ [yd], rest2, ?_, ((g'.trans g1).trans g3).trans g4, rfl, by rw [← he]; simp⟩
                      · rw [k4.length, big_eq]
                        rw [← he] at hbig
                        simp only [List.length_append, List.length_cons] at hbig
                        omega
                      · have m := b.mut lst lsσ (o' := .lst (acc ++ [yd])) (u := .lst (xs ++ [y])) fun A hA => ⟨hA.1, xs ++ [y], upd_same, k4.snoc r4⟩
                        rw [List.set_append_right _ _ (Nat.le_refl _)] at m
                        simpa using m
                  · cases hr
        · refine .inl ⟨Y.stop i B' H' g' S'.sub (by omega), ?_⟩
          rw [List.drop_of_length_le (by omega)] at hr
          unfold lcL at hr
          cases hr
          rw [List.append_nil] at he
          subst he
          have no0 : noOwn vs ρ = true := hno
          exact hfin (.ref D) B' H' (S0.regain g' no0 S') (g0.trans g')
      · exact hds.elim
  · exact hds.elim
def ttYes : FT := fun _ => .ok true
abbrev PTss (X : Cx) (ca : Str → Addr) (W : WX) (es : List Expr) (f : FT) : Prop := PTs X es (tT ca X.K W f)
theorem ts_nil : PTss X ca W [] ttYes := ⟨fun pins s σ H Q I ⟨E, B, ρ, S, z⟩ => pts_nil.run pins s σ H Q I ((show OkT ca X.K E B ρ σ Q true from z) B H S (Grow.refl B))⟩
theorem ts_one {c : Expr} (h : PTe X ca W c t) : PTss X ca W [c] t := pts_one h
variable {elt tg it : Expr} {ifs : List Expr} {scope : Scope} {own : List (Str × Nat)} {pos : Pos}
theorem o_lc (his : is ⊆ own.map (·.2)) (hN : X.N.Nodup) (hi : PIt X ca W tg it fi) (ok : BlkOk X.N X.env.scope scope own)
    (hg : ∀ (s : Shared) (H : Hp) (C : Addr) (cl : List (Str × Addr)) (fp : List Addr), PTg (X.blk s H scope (compEnvC scope cl C X.env) fp) ca tg is g)
    (ht : ∀ (s : Shared) (H : Hp) (C : Addr) (cl : List (Str × Addr)) (fp : List Addr), PTss (X.blk s H scope (compEnvC scope cl C X.env) fp) ca W0 ifs t)
    (he : ∀ (s : Shared) (H : Hp) (C : Addr) (cl : List (Str × Addr)) (fp : List Addr), PVa (X.blk s H scope (compEnvC scope cl C X.env) fp) ca W0 elt f)
    (hc : X.calm = true := by rfl) (hs : ∀ x, foldedSetIterable it X.env x = pure x := by intro _; rfl) : POw X ca W (.ListComp elt [⟨tg, it, ifs, 0⟩] scope pos) (oLc (own.map (·.2)) fi g t f) :=
  pe_imp (pe_lc hc hN hi ok hg ht he hs) fun σ H Q h => lc_of (fun i h => his h) h
theorem s_setLc (i : Nat) {y : Str} {py spos : Pos} (his : is ⊆ own.map (·.2)) (hN : X.N.Nodup) (hi : PIt X ca W tg it fi) (ok : BlkOk X.N X.env.scope scope own)
    (hg : ∀ (s : Shared) (H : Hp) (C : Addr) (cl : List (Str × Addr)) (fp : List Addr), PTg (X.blk s H scope (compEnvC scope cl C X.env) fp) ca tg is g)
    (ht : ∀ (s : Shared) (H : Hp) (C : Addr) (cl : List (Str × Addr)) (fp : List Addr), PTss (X.blk s H scope (compEnvC scope cl C X.env) fp) ca W0 ifs t)
    (he : ∀ (s : Shared) (H : Hp) (C : Addr) (cl : List (Str × Addr)) (fp : List Addr), PVa (X.blk s H scope (compEnvC scope cl C X.env) fp) ca W0 elt f)
    (hc : X.calm = true := by rfl) (hy : X.N[i]? = some y := by rfl) (hyl : X.env.scope.names.lookup y = some .local := by rfl)
    (hsw : swapsWith (.ListComp elt [⟨tg, it, ifs, 0⟩] scope pos) (some (.Name y py)) spos.line X.env = pure true := by first | exact sw_true rfl rfl rfl (by decide +kernel) | rfl)
    (hs : ∀ x, foldedSetIterable it X.env x = pure x := by intro _; rfl) : PSt X ca W (.Assign [.Name y py] (.ListComp elt [⟨tg, it, ifs, 0⟩] scope pos) spos) (fSetO i (oLc (own.map (·.2)) fi g t f)) :=
  ps_imp (ps_setLc hc hN hy hyl hsw hi ok hg ht he hs) fun D σ H ⟨E, B, ρ, S, z⟩ => lc_of (fun i h => his h) (Q := fun x H1 => gName i x σ H1 D.nx) ⟨E, B, ρ, S, (CtlOk.ctl z).imp (fun o ho x B' H' S' gr => ho _ B' H' S'.setO gr) fun _ _ z => z⟩
end
end Pu
/-! The pure layer, part 10: zip, enumerate, signs, reversed, sorted, dict keys. -/
namespace Pu
open PySem PySem.Spec PyProof.Rows L2
section
variable {X : Cx} {ca : Str → Addr} {W : WX} {e a b c : Expr} {es rest : List Expr} {f fa fb fc : FE} {fo : FO} {ft gt ht : FT} {fs : FA} {pos p tpos : Pos} {x : Str} {id T : String} {K : PySem.W.Frag} {elts : List Expr} {kk : Nat}
/-! ### zip -/
def zipD : List PyData → List PyData → List PyData := List.zipWith fun x y => .tuple [x, y]
theorem zip_get {ds es : List PyData} {i : Nat} {d : PyData} (h : (zipD ds es)[i]? = some d) : ∃ x y, ds[i]? = some x ∧ es[i]? = some y ∧ d = .tuple [x, y] := by
  unfold zipD at h
  rw [List.getElem?_zipWith] at h
  cases h1 : ds[i]? with
  | none => rw [h1] at h; cases h
  | some x =>
    cases h2 : es[i]? with
    | none => rw [h1, h2] at h; cases h
    | some y => rw [h1, h2] at h; cases h; exact ⟨x, y, rfl, rfl, rfl⟩
theorem zip_lt {ds es : List PyData} {i : Nat} (h : i < (zipD ds es).length) : i < ds.length ∧ i < es.length := by
  unfold zipD at h
  rw [List.length_zipWith] at h
  omega
theorem zip_ge {ds es : List PyData} {i : Nat} (h : (zipD ds es).length ≤ i) : ds.length ≤ i ∨ es.length ≤ i := by
  unfold zipD at h
  rw [List.length_zipWith] at h
  omega
theorem yl_zip {B : Hp} {p q : Addr} {xs ys : List V} {ds es : List PyData} (e : B p = some (.lst xs)) (t : Dqs B xs ds) (e' : B q = some (.lst ys)) (t' : Dqs B ys es) : Yl ca K (Itz K p q) B (zipD ds es) where
  go := fun i B' H g sub hi => by
    obtain ⟨h1, h2⟩ := zip_lt hi
    have l1 : i < xs.length := by rw [t.length]; exact h1
    have l2 : i < ys.length := by rw [t'.length]; exact h2
    exact ⟨xs, ys, xs[i], ys[i], SqL.of (sub _ _ (g.lst _ _ e)), SqL.of (sub _ _ (g.lst _ _ e')), List.getElem?_eq_getElem l1, List.getElem?_eq_getElem l2⟩
  stop := fun i B' H g sub hi => ⟨xs, ys, SqL.of (sub _ _ (g.lst _ _ e)), SqL.of (sub _ _ (g.lst _ _ e')), by rw [t.length, t'.length]; exact zip_ge hi⟩
  yld := fun i E B' ρ σ H x H' g S hy d hd => by
    obtain ⟨T, u, v, rfl, hT, rfl, f1, f2⟩ := hy
    obtain ⟨m, n, h1, h2, rfl⟩ := zip_get hd
    obtain ⟨z1, g1, r1⟩ := t.get' h1
    obtain ⟨z2, g2, r2⟩ := t'.get' h2
    have k1 := f1 xs (SqL.of (S.sub _ _ (g.lst _ _ e)))
    have k2 := f2 ys (SqL.of (S.sub _ _ (g.lst _ _ e')))
    rw [g1] at k1; rw [g2] at k2; cases k1; cases k2
    obtain ⟨S', g'⟩ := S.laid (o := .tup [u, v]) hT
    exact ⟨_, S', g', .tup upd_same (.cons ((r1.mono g _ _).mono g' _ _) (.cons ((r2.mono g _ _).mono g' _ _) .nil))⟩
theorem yl_zipT {B : Hp} {p q : Addr} {xs ys : List V} {ds es : List PyData} (e : SqT K B p xs) (t : Dqs B xs ds) (e' : SqT K B q ys) (t' : Dqs B ys es) : Yl ca K (RZ.ItzT K p q) B (zipD ds es) where
  go := fun i B' H g sub hi => by
    obtain ⟨h1, h2⟩ := zip_lt hi
    have l1 : i < xs.length := by rw [t.length]; exact h1
    have l2 : i < ys.length := by rw [t'.length]; exact h2
    exact ⟨xs, ys, xs[i], ys[i], (Grow.sub sub).seqT (g.seqT e), (Grow.sub sub).seqT (g.seqT e'), List.getElem?_eq_getElem l1, List.getElem?_eq_getElem l2⟩
  stop := fun i B' H g sub hi => ⟨xs, ys, (Grow.sub sub).seqT (g.seqT e), (Grow.sub sub).seqT (g.seqT e'), by rw [t.length, t'.length]; exact zip_ge hi⟩
  yld := fun i E B' ρ σ H x H' g S hy d hd => by
    obtain ⟨T, u, v, rfl, hT, rfl, f1, f2⟩ := hy
    obtain ⟨m, n, h1, h2, rfl⟩ := zip_get hd
    obtain ⟨z1, g1, r1⟩ := t.get' h1
    obtain ⟨z2, g2, r2⟩ := t'.get' h2
    have k1 := f1 xs (S.growH.seqT (g.seqT e))
    have k2 := f2 ys (S.growH.seqT (g.seqT e'))
    rw [g1] at k1; rw [g2] at k2; cases k1; cases k2
    obtain ⟨S', g'⟩ := S.laid (o := .tup [u, v]) hT
    exact ⟨_, S', g', .tup upd_same (.cons ((r1.mono g _ _).mono g' _ _) (.cons ((r2.mono g _ _).mono g' _ _) .nil))⟩
def seqs : PV → PV → Option (Bool × List PyData × List PyData)
  | .d (.list ds), .d (.list es) => some (true, ds, es)
  | .d (.tuple ds), .d (.tuple es) => some (false, ds, es)
  | .d (.tuple ds), .kt es => some (false, ds, es)
  | .kt ds, .d (.tuple es) => some (false, ds, es)
  | _, _ => none
def iZip2 (f g : FE) : FI := fun ρ => f ρ >>= fun v => g ρ >>= fun w => match seqs v w with
  | some (_, ds, es) => .ok (zipD ds es)
  | none => .no
theorem RepV.tupT {B : Hp} {x : V} {ds : List PyData} (r : RepV ca K B x (.d (.tuple ds))) : ∃ a xs, x = .ref a ∧ SqT K B a xs ∧ Dqs B xs ds := by
  cases r with | tup e t => exact ⟨_, _, rfl, SqT.of e, t⟩
theorem i_zip (ha : PVa X ca W a fa) (hb : PVa X ca W b fb) (hm : X.mg "zip" = none) (hg : Gl X "zip" := by rfl)
    (hs : starEach [a, b] X.env = (false, eval a X.env) :: starEach [b] X.env := by rfl) (hpl : (backTo pos (starEach [b] X.env)).any (·.1) = false := by rfl) (hs2 : starEach [b] X.env = (false, eval b X.env) :: starEach [] X.env := by rfl) :
    PIt X ca W (.Tuple elts kk tpos) (.Call (.Name "zip" p) [a, b] [] pos) (iZip2 fa fb) := pi_imp (RZ.pi_zipA hg hm (pa_cons ha (pa_cons hb pa_nil hs2) hs) hs hpl) fun σ H R ⟨E, B, ρ, S, z⟩ =>
  ⟨E, B, ρ, S, (Ans.bind z).imp (fun v hv x B1 H1 S1 g1 r1 => ⟨E, B1, ρ, S1, (Ans.bind hv).imp (fun w hw y B2 H2 S2 g2 r2 => by
    have r1' := r1.mono g2
    have fin : ∀ {J ds es}, Yl ca X.K J B2 (zipD ds es) → OkI ca X.K E B ρ σ R (zipD ds es) → R J H2 := fun Y h => h _ B2 H2 S2 (g1.trans g2) Y
    cases q : seqs v w with
    | none => rw [q] at hw; exact hw.elim
    | some t =>
      obtain ⟨k, ds, es⟩ := t
      rw [q] at hw
      have hw' : OkI ca X.K E B ρ σ R (zipD ds es) := hw
      unfold seqs at q
      split at q
      · cases q
        cases r1' with | lst e1 t1 =>
        cases r2 with | lst e2 t2 =>
          exact ⟨_, _, _, _, rfl, .inl ⟨SqL.of (S2.sub _ _ e1), SqL.of (S2.sub _ _ e2), fin (yl_zip e1 t1 e2 t2) hw'⟩⟩
      · cases q
        obtain ⟨a1, x1, rfl, e1, t1⟩ := RepV.tupT r1'
        obtain ⟨a2, x2, rfl, e2, t2⟩ := RepV.tupT r2
        exact ⟨_, _, _, _, rfl, .inr ⟨S2.growH.seqT e1, S2.growH.seqT e2, fin (yl_zipT e1 t1 e2 t2) hw'⟩⟩
      · cases q
        obtain ⟨a1, x1, rfl, e1, t1⟩ := RepV.tupT r1'
        obtain ⟨a2, x2, rfl, e2, t2⟩ := r2
        exact ⟨_, _, _, _, rfl, .inr ⟨S2.growH.seqT e1, S2.growH.seqT e2, fin (yl_zipT e1 t1 e2 t2) hw'⟩⟩
      · cases q
        obtain ⟨a1, x1, rfl, e1, t1⟩ := r1'
        obtain ⟨a2, x2, rfl, e2, t2⟩ := RepV.tupT r2
        exact ⟨_, _, _, _, rfl, .inr ⟨S2.growH.seqT e1, S2.growH.seqT e2, fin (yl_zipT e1 t1 e2 t2) hw'⟩⟩
      · cases q) fun _ _ z => z⟩) fun _ _ z => z⟩

/-! ### enumerate -/
def enumD (ds : List PyData) : List PyData := (List.range ds.length).zipWith (fun (i : Nat) y => .tuple [.int (i : Int), y]) ds
theorem enum_len (ds : List PyData) : (enumD ds).length = ds.length := by unfold enumD; rw [List.length_zipWith, List.length_range, Nat.min_self]
theorem enum_get {ds : List PyData} {i : Nat} {d : PyData} (h : (enumD ds)[i]? = some d) : ∃ y, ds[i]? = some y ∧ d = .tuple [.int (i : Int), y] := by
  unfold enumD at h
  rw [List.getElem?_zipWith] at h
  cases h2 : ds[i]? with
  | none => rw [h2] at h; cases q : (List.range ds.length)[i]? <;> rw [q] at h <;> cases h
  | some y =>
    have hi : i < ds.length := lt_of_get h2
    rw [h2, List.getElem?_range hi] at h
    cases h
    exact ⟨y, rfl, rfl⟩
theorem yl_enum {B : Hp} {p : Addr} {xs : List V} {ds : List PyData} (e : B p = some (.lst xs)) (t : Dqs B xs ds) : Yl ca K (Ite K p) B (enumD ds) where
  go := fun i B' H g sub hi => by
    rw [enum_len] at hi
    have l1 : i < xs.length := by rw [t.length]; exact hi
    exact ⟨xs, xs[i], SqL.of (sub _ _ (g.lst _ _ e)), List.getElem?_eq_getElem l1⟩
  stop := fun i B' H g sub hi => ⟨xs, SqL.of (sub _ _ (g.lst _ _ e)), by rw [enum_len] at hi; rw [t.length]; exact hi⟩
  yld := fun i E B' ρ σ H x H' g S hy d hd => by
    obtain ⟨T, u, rfl, hT, rfl, f1⟩ := hy
    obtain ⟨m, h1, rfl⟩ := enum_get hd
    obtain ⟨z1, g1, r1⟩ := t.get' h1
    have k1 := f1 xs (SqL.of (S.sub _ _ (g.lst _ _ e)))
    rw [g1] at k1; cases k1
    obtain ⟨S', g'⟩ := S.laid (o := .tup [.int (i : Nat), u]) hT
    exact ⟨_, S', g', .tup upd_same (.cons (.int _) (.cons ((r1.mono g _ _).mono g' _ _) .nil))⟩
def iEnu (f : FE) : FI := fun ρ => f ρ >>= fun v => match v with
  | .d (.list ds) => .ok (enumD ds)
  | _ => .no
theorem i_enu (ha : PVa X ca W a fa) (hm : X.mg "enumerate" = none) (hg : Gl X "enumerate" := by rfl) (hs : starEach [a] X.env = [(false, eval a X.env)] := by rfl) :
    PIt X ca W (.Tuple elts kk tpos) (.Call (.Name "enumerate" p) [a] [] pos) (iEnu fa) := pi_imp (pi_enum hg hm (pa_cons ha pa_nil hs) hs) fun σ H R ⟨E, B, ρ, S, z⟩ =>
  ⟨E, B, ρ, S, (Ans.bind z).imp (fun v hv x B1 H1 S1 g1 r1 => by
    split at hv
    · cases r1 with | lst e t => exact ⟨_, _, rfl, SqL.of (S1.sub _ _ e), (show OkI ca X.K E B ρ σ R _ from hv) _ B1 H1 S1 g1 (yl_enum e t)⟩
    · exact hv.elim) fun _ _ z => z⟩

/-! ### the signs of a text -/
def signs (x : Str) : List PyData := x.cps.toList.map fun c => .str ⟨#[c]⟩
theorem yl_str {B : Hp} {x : Str} (k : PyData.strOk x = true) : Yl ca K (Its x) B (signs x) where
  go := fun i B' H g sub hi => by
    have : i < x.cps.size := by simpa [signs] using hi
    exact this
  stop := fun i B' H g sub hi => by
    have : x.cps.size ≤ i := by simpa [signs] using hi
    exact this
  yld := fun i E B' ρ σ H y H' g S hy d hd => by
    obtain ⟨rfl, c, hc, rfl⟩ := hy
    unfold signs at hd
    rw [List.getElem?_map, Array.getElem?_toList, hc] at hd
    cases hd
    refine ⟨B', S, Grow.refl _, .str _ (strOk_of fun c' h' => ?_)⟩
    simp at h'
    subst h'
    refine strOk_mem k _ ?_
    rw [← Array.getElem?_toList] at hc
    exact List.mem_of_getElem? hc
def iSig (f : FE) : FI := fun ρ => f ρ >>= fun v => match v with
  | .d (.str x) => .ok (signs x)
  | _ => .no
variable {tg : Expr}
theorem i_sig (ha : PVa X ca W a fa) : PIt X ca W tg a (iSig fa) := pi_imp (pi_str ha) fun σ H R ⟨E, B, ρ, S, z⟩ =>
  ⟨E, B, ρ, S, (Ans.bind z).imp (fun v hv x B1 H1 S1 g1 r1 => by
    split at hv
    · cases r1 with | str _ k => exact ⟨_, rfl, (show OkI ca X.K E B ρ σ R _ from hv) _ B1 H1 S1 g1 (yl_str k)⟩
    · exact hv.elim) fun _ _ z => z⟩

/-! ### reversed -/
theorem rev_get {ds : List PyData} {i : Nat} {d : PyData} (h : ds.reverse[i]? = some d) : ds[ds.length - 1 - i]? = some d := by
  have := lt_of_get h
  rw [List.getElem?_reverse (by simpa using this)] at h
  exact h
theorem yl_rev {B : Hp} {p : Addr} {xs : List V} {ds : List PyData} (e : B p = some (.lst xs)) (t : Dqs B xs ds) : Yl ca K (Itv K p xs.length) B ds.reverse where
  go := fun i B' H g sub hi => by
    have l1 : i < xs.length := by rw [t.length]; simpa using hi
    exact ⟨l1, xs, xs[xs.length - 1 - i], SqL.of (sub _ _ (g.lst _ _ e)), List.getElem?_eq_getElem (by omega)⟩
  stop := fun i B' H g sub hi => by
    show xs.length ≤ i
    rw [t.length]; simpa using hi
  yld := fun i E B' ρ σ H x H' g S hy d hd => by
    obtain ⟨rfl, f1⟩ := hy
    obtain ⟨z1, g1, r1⟩ := t.get' (rev_get hd)
    have k1 := f1 xs (SqL.of (S.sub _ _ (g.lst _ _ e)))
    rw [t.length, g1] at k1; cases k1
    exact ⟨B', S, Grow.refl _, r1.mono g _ _⟩
def iRevL (f : FE) : FI := fun ρ => f ρ >>= fun v => match v with
  | .d (.list ds) => .ok ds.reverse
  | _ => .no
theorem i_rev (ha : PVa X ca W a fa) (hm : X.mg "reversed" = none) (hg : Gl X "reversed" := by rfl) (hs : starEach [a] X.env = [(false, eval a X.env)] := by rfl) :
    PIt X ca W tg (.Call (.Name "reversed" p) [a] [] pos) (iRevL fa) := pi_imp (pi_reversed hg hm (pa_cons ha pa_nil hs) hs) fun σ H R ⟨E, B, ρ, S, z⟩ =>
  ⟨E, B, ρ, S, (Ans.bind z).imp (fun v hv x B1 H1 S1 g1 r1 => by
    split at hv
    · cases r1 with | lst e t => exact ⟨_, _, rfl, SqL.of (S1.sub _ _ e), (show OkI ca X.K E B ρ σ R _ from hv) _ B1 H1 S1 g1 (yl_rev e t)⟩
    · exact hv.elim) fun _ _ z => z⟩

/-! ### sorted -/
def isT1 : PyData → Bool
  | .tuple (_ :: _) => true
  | _ => false
def isNT : PyData → Bool
  | .none => false
  | .tuple _ => false
  | _ => true
def sortOk (ds : List PyData) : Bool := (ds.all fun d => ds.all fun e => PySem.W.alike d e) && (ds.all isT1 || ds.all isNT) && ds.all fun d => decide (d.depth ≤ 60)
def sortD (ds : List PyData) : List PyData := ds.mergeSort (PySem.W.dataLe false fun d => d)
def pSorted : List PV → Out OV
  | [.d (.list ds)] => if sortOk ds = true then .ok (.lst (sortD ds)) else .no
  | _ => .no
def rSortQ (K : PySem.W.Frag) : List V → Hp → VK → Prop := fun vs H Q => ∃ (T : V → PyData → Prop) (a : Addr) (xs : List V) (ds : List PyData), vs = [.ref a] ∧ SqL K H a xs ∧ Paired T xs ds ∧ (∀ x d, T x d → Dq H x d) ∧ sortOk ds = true ∧
  ∀ ys p, H p = none → Paired T ys (sortD ds) → Q (.ref p) (upd H p (.lst ys))
theorem each_of {H : Hp} {T : V → PyData → Prop} {pins : List (Addr × Obj)} {σ : L2.St} {s : Shared} (I : Inv X pins σ H s) (hT : ∀ x d, T x d → Dq H x d) : ∀ {xs : List V} {us : List Value} {ds : List PyData}, Vals xs us → Paired T xs ds →
    PySem.W.EachIs (fun v d => ∃ x, RelV x v ∧ T x d) us ds ∧ PySem.W.EachIs (fun v d => ∃ as, Reads s.heap v d as) us ds
  | _, _, _, .nil, .nil => ⟨.nil, .nil⟩
  | _, _, _, .cons r t, .cons q u => by
    obtain ⟨h1, h2⟩ := each_of I hT t u
    obtain ⟨as, z⟩ := Dp.reads I _ _ _ ((hT _ _ q).dp _ _) r
    exact ⟨.cons ⟨_, r, q⟩ h1, .cons ⟨as, z⟩ h2⟩
theorem each_back {T : V → PyData → Prop} : ∀ {us : List Value} {ds : List PyData}, PySem.W.EachIs (fun v d => ∃ x, RelV x v ∧ T x d) us ds → ∃ xs, Vals xs us ∧ Paired T xs ds
  | _, _, .nil => ⟨[], .nil, .nil⟩
  | _, _, .cons ⟨x, r, q⟩ t => by
    obtain ⟨xs, h1, h2⟩ := each_back t
    exact ⟨x :: xs, .cons r h1, .cons q h2⟩
theorem sortOk_of {ds : List PyData} (h : sortOk ds = true) : PySem.W.AllAlike ds ∧ PySem.W.Sortable ds ∧ ∀ d ∈ ds, d.depth ≤ 60 := by
  unfold sortOk at h
  rw [Bool.and_eq_true, Bool.and_eq_true] at h
  obtain ⟨⟨h1, h2⟩, h3⟩ := h
  refine ⟨fun d hd e he => ?_, ?_, fun d hd => ?_⟩
  · rw [List.all_eq_true] at h1
    have := h1 d hd
    rw [List.all_eq_true] at this
    exact this e he
  · rw [Bool.or_eq_true] at h2
    rcases h2 with h2 | h2
    · refine .inl fun d hd => ?_
      rw [List.all_eq_true] at h2
      have := h2 d hd
      unfold isT1 at this
      split at this
      · exact ⟨_, _, rfl⟩
      · cases this
    · refine .inr fun d hd => ?_
      rw [List.all_eq_true] at h2
      have := h2 d hd
      unfold isNT at this
      split at this
      · cases this
      · cases this
      · rename_i n1 n2; exact ⟨fun z => n1 z, fun xs z => n2 xs z⟩
  · rw [List.all_eq_true] at h3
    exact of_decide_eq_true (h3 d hd)
theorem cr_sortQ (hu : X.A.units + 65 < cLine) : CallR X (.builtin "sorted") (rSortQ X.K) := by
  intro pins s σ H vs us Q I r h
  obtain ⟨T, a, xs, ds, rfl, hs, hp, hT, ho, q⟩ := h
  obtain ⟨its, rv, hl, hz⟩ := I.list hs
  obtain ⟨u, rfl, ru⟩ := vals1 r
  obtain rfl : u = Value.ref a := ru
  obtain ⟨e1, e2⟩ := each_of I hT rv hp
  obtain ⟨o1, o2, o3⟩ := sortOk_of ho
  have hlen : ds.length = xs.length := (Paired.length hp).symm
  refine PySem.W.sorted_data (enc := fun d => d) hl.isList e1 e2 (by simpa using o1) (by simpa using o2) (by rw [hlen]; exact hz) (fun b hb => by have := o3 b hb; omega) fun out h1 h2 => ?_
  obtain ⟨ys, h3, h4⟩ := each_back h2
  obtain ⟨c, hc⟩ := sortedAll_at s.heap its out.toArray
  have hd : s.heap.objs.size ≤ s.heap.objs.size + 1 := Nat.le_succ _
  refine ⟨.ref (s.heap.objs.size + 1), upd H (s.heap.objs.size + 1) (.lst ys), I.laid (t' := s.toks) (fun _ _ => sortedAll_old) hd ⟨?_, out, c, h3, hc⟩, rfl, q ys _ (I.hok.fresh hd) h4⟩
  rw [h3.length, h1, hlen]
  exact hz
def biSorted (hu : X.A.units + 65 < cLine) : BiO X ca (.builtin "sorted") pSorted where
  r := _
  o := cr_sortQ hu
  n := by intro vs c fs; unfold pSorted; split <;> (try split) <;> simp
  d := by
    intro E B ρ σ H xs vs Q S rs h
    unfold pSorted at h
    split at h
    · split at h
      · rename_i ho
        cases rs with | cons r t =>
        cases t
        obtain ⟨a, ys, rfl, e, t⟩ := r
        have pr : ∀ {xs : List V} {ds : List PyData}, Dqs B xs ds → Paired (Dq B) xs ds := by
          intro xs ds h
          induction ds generalizing xs with
          | nil => cases h; exact .nil
          | cons d ds ih => cases h with | cons r t => exact .cons r (ih t)
        have rp : ∀ {xs : List V} {ds : List PyData}, Paired (Dq B) xs ds → Dqs B xs ds := by
          intro xs ds h
          induction h with
          | nil => exact .nil
          | cons r t ih => exact .cons r ih
        exact ⟨Dq B, a, ys, _, rfl, SqL.of e, pr t, fun x d r => r.mono S.growH _ _, ho, fun zs p hp hz => h _ B _ (S.laidO hp ⟨rfl, zs, upd_same, rp hz⟩) (Grow.refl B)⟩
      · exact h.elim
    · exact h.elim
end
end Pu
/-! The pure layer, part 11: dicts that grow, loops over their keys, match. -/
namespace Pu
open PySem PySem.Spec PyProof.Rows L2
section
variable {X : Cx} {ca : Str → Addr} {W : WX} {e a b c i1 v1 : Expr} {es rest : List Expr} {f fk fv fa fb fc : FE} {fo : FO} {ft gt ht : FT} {fs : FA} {s t : FS} {sts us : List Stmt} {st : Stmt} {pos p p2 p3 p4 tpos : Pos} {x y : Str} {id T : String} {K : PySem.W.Frag} {elts : List Expr} {kk : Nat}
/-- one owned slot is put aside -/
theorem SR.aside {E : Ent} {B H : Hp} {ρ : List Slot} {σ : L2.St} {i : Nat} {o : OV} (S : SR ca K E B ρ σ H) (e : ρ[i]? = some (.own o)) : ∃ p A, σ[i]? = some (some (.ref p)) ∧ OwnAt ca B H p A o ∧ ∃ M, SR ca K ⟨H, B, M⟩ B (ρ.set i .un) σ H ∧
    ∀ {B' H' : Hp}, SR ca K ⟨H, B, M⟩ B' (ρ.set i .un) σ H' → SR ca K E B' ρ σ H' ∧ Grow B B' ∧ OwnAt ca B' H' p A o ∧ ∀ a ∈ A, H' a = H a := by
  obtain ⟨AF, s, nt⟩ := S.neat
  obtain ⟨p, h1, h2⟩ := s.own i o e
  have hM := s.ownedOk nt
  have eh : ∀ a, H a = none → E.H a = none ∨ a ∈ E.M := fun a n => by
    by_cases hm : a ∈ E.M
    · exact .inr hm
    · cases q : E.H a with
      | none => exact .inl rfl
      | some o => rw [s.keep a o q hm] at n; cases n
  have inM : ∀ (j : Nat) (w : OV), j ≠ i → ρ[j]? = some (.own w) → ∀ a ∈ AF j, a ∈ (owned ρ fun j => if j = i then [] else AF j) := fun j w hj ej a ha => by
    refine mem_owned ej ?_
    rw [if_neg hj]; exact ha
  have outM : ∀ a ∈ (owned ρ fun j => if j = i then [] else AF j), ∃ j, j ≠ i ∧ j < ρ.length ∧ a ∈ AF j := fun a ha => by
    obtain ⟨j, hj, h⟩ := List.mem_flatMap.mp ha
    by_cases hji : j = i
    · rw [if_pos hji] at h; simp at h
    · rw [if_neg hji] at h; exact ⟨j, hji, List.mem_range.mp hj, h⟩
  have notM : ∀ a ∈ AF i, a ∉ (owned ρ fun j => if j = i then [] else AF j) := fun a ha hm => by
    obtain ⟨j, h3, h4, h5⟩ := outM a hm
    cases q : ρ[j] with
    | un => rw [nt j .un (by rw [List.getElem?_eq_getElem h4, q]) (fun o z => by cases z)] at h5; simp at h5
    | val v => rw [nt j (.val v) (by rw [List.getElem?_eq_getElem h4, q]) (fun o z => by cases z)] at h5; simp at h5
    | own w => exact s.dis j i w o (by rw [List.getElem?_eq_getElem h4, q]) e h3 a h5 ha
  have MtoE : ∀ a ∈ (owned ρ fun j => if j = i then [] else AF j), E.H a = none ∨ a ∈ E.M := fun a hm => by
    obtain ⟨j, h3, h4, h5⟩ := outM a hm
    exact hM a (mem_owned (List.getElem?_eq_getElem h4) h5)
  refine ⟨p, AF i, h1, h2, (owned ρ fun j => if j = i then [] else AF j), ⟨fun j => if j = i then [] else AF j, by simp [s.len], Grow.refl B, s.sub, fun a o q _ => q, fun a o q => .inl q, fun j v q => ?_, fun j w q => ?_, fun j w q a ha => ?_, fun j k w u ej ek hjk a ha => ?_⟩, fun {B' H'} S' => ?_⟩
  · rcases get_set q with ⟨h3, h4, h5⟩ | ⟨h3, h4⟩
    · cases h5
    · exact s.val j v h4
  · rcases get_set q with ⟨h3, h4, h5⟩ | ⟨h3, h4⟩
    · cases h5
    · rw [if_neg h3]; exact s.own j w h4
  · rcases get_set q with ⟨h3, h4, h5⟩ | ⟨h3, h4⟩
    · cases h5
    · rw [if_neg h3] at ha
      exact ⟨(s.ofr j w h4 a ha).1, .inr (inM j w h3 h4 a ha)⟩
  · rcases get_set ej with ⟨h3, h4, h5⟩ | ⟨h3, h4⟩
    · cases h5
    · rcases get_set ek with ⟨k3, k4, k5⟩ | ⟨k3, k4⟩
      · cases k5
      · rw [if_neg h3] at ha
        rw [if_neg k3]; exact s.dis j k w u h4 k4 hjk a ha
  · obtain ⟨AF', c⟩ := S'
    have same : ∀ a ∈ AF i, H' a = H a := fun a ha => by
      obtain ⟨u, hu⟩ := h2.there a ha
      rw [hu]
      exact c.keep a u hu (notM a ha)
    have st' : OwnAt ca B' H' p (AF i) o := h2.stay c.grow same
    have frB : ∀ a ∈ AF i, B' a = none := fun a ha => by
      cases q : B' a with
      | none => rfl
      | some w =>
        obtain ⟨u, hu⟩ := h2.there a ha
        rcases c.newB a w q with h | h | h | ⟨xs, h⟩
        · have h' : B a = some w := h
          rw [(s.ofr i o e a ha).1] at h'; cases h'
        · have h' : H a = none := h
          rw [hu] at h'; cases h'
        · exact absurd h (notM a ha)
        · subst h
          exact (st'.notTup a ha _ (c.sub a _ q)).elim
    have cne : ∀ (j : Nat) (t : Slot), j ≠ i → ρ[j]? = some t → (ρ.set i .un)[j]? = some t := fun j t hj q => by rw [List.getElem?_set_ne (Ne.symm hj)]; exact q
    refine ⟨⟨fun j => if j = i then AF i else AF' j, s.len, s.grow.trans c.grow, c.sub, fun a u q hm => c.keep a u (s.keep a u q hm) fun hb => ?_, fun a u q => ?_, fun j v q => ?_, fun j w q => ?_, fun j w q a ha => ?_, fun j k w u ej ek hjk a ha => ?_⟩, c.grow, st', same⟩
    · rcases MtoE a hb with z | z
      · rw [q] at z; cases z
      · exact hm z
    · rcases c.newB a u q with h | h | h | h
      · exact s.newB a u h
      · exact .inr ((eh a h).imp id .inl)
      · exact .inr ((MtoE a h).imp id .inl)
      · exact .inr (.inr (.inr h))
    · have hj : j ≠ i := by rintro rfl; rw [e] at q; cases q
      exact c.val j v (cne j _ hj q)
    · by_cases hj : j = i
      · subst hj; rw [e] at q; cases q
        exact ⟨p, h1, by rw [if_pos rfl]; exact st'⟩
      · rw [if_neg hj]; exact c.own j w (cne j _ hj q)
    · by_cases hj : j = i
      · subst hj; rw [if_pos rfl] at ha
        exact ⟨frB a ha, (s.ofr j o e a ha).2⟩
      · rw [if_neg hj] at ha
        obtain ⟨h3, h4⟩ := c.ofr j w (cne j _ hj q) a ha
        refine ⟨h3, ?_⟩
        rcases h4 with h | h
        · exact eh a h
        · exact MtoE a h
    · have cross : ∀ (j : Nat) (w : OV), j ≠ i → ρ[j]? = some (.own w) → ∀ a ∈ AF' j, a ∉ AF i := fun j w hj ej a ha hb => by
        obtain ⟨u, hu⟩ := h2.there a hb
        rcases (c.ofr j w (cne j _ hj ej) a ha).2 with z | z
        · have z' : H a = none := z
          rw [hu] at z'; cases z'
        · exact notM a hb z
      by_cases hj : j = i
      · rw [if_pos hj] at ha
        rw [if_neg (fun z => hjk (hj.trans z.symm))]
        exact fun hb => cross k u (fun z => hjk (hj.trans z.symm)) ek a hb ha
      · rw [if_neg hj] at ha
        by_cases hk : k = i
        · rw [if_pos hk]; exact cross j w hj ej a ha
        · rw [if_neg hk]; exact c.dis j k w u (cne j _ hj ej) (cne k _ hk ek) hjk a ha
theorem XW.aside {E : Ent} {ρ ρ' : List Slot} {σ : L2.St} {E' : Ent} {cl : Str} {gs : List (Str × PyData)} (z : XW ca K W E ρ σ cl gs) (L : ∀ {B' H' : Hp}, SR ca K E' B' ρ' σ H' → SR ca K E B' ρ σ H') : XW ca K W E' ρ' σ cl gs := fun dx ws B' H' S' => z dx ws B' H' (L S')

/-! ### dicts of lists -/
def dmod {κ α : Type} [DecidableEq κ] (kvs : List (κ × α)) (k : κ) (g : α → α) : List (κ × α) := match kvs with
  | [] => []
  | (k', v) :: r => if k' = k then (k', g v) :: r else (k', v) :: dmod r k g
theorem MQ.find {κ : Type} [DecidableEq κ] [KOk κ] {B H : Hp} {k : κ} : ∀ {ws : List (κ × V)} {qs : List Addr} {kvs : List (κ × List PyData)} {ds : List PyData}, MQ B H ws qs kvs → dget kvs k = some ds → ∃ q xs, valV ws k = some (.ref q) ∧ q ∈ qs ∧ H q = some (.lst xs) ∧ Dqs B xs ds
  | _, _, _, _, .nil, h => by cases h
  | _, _, _, ds, .cons (k := k') (q := q) kk e r t, h => by
    by_cases hk : k' = k
    · subst hk
      simp [dget, List.find?_cons] at h
      subst h
      exact ⟨q, _, valV_pos rfl, by simp, e, r⟩
    · have h' := h
      simp only [dget, List.find?_cons, decide_eq_false hk] at h'
      obtain ⟨q', xs, h1, h2, h3⟩ := t.find (k := k) h'
      exact ⟨q', xs, by rw [valV_neg hk]; exact h1, by simp [h2], h3⟩
theorem MQ.app {κ : Type} [DecidableEq κ] [KOk κ] {B H : Hp} {k : κ} {q0 : Addr} {xs0 : List V} {g : List PyData → List PyData} : ∀ {ws : List (κ × V)} {qs : List Addr} {kvs : List (κ × List PyData)} {ds : List PyData}, MQ B H ws qs kvs → qs.Nodup → dget kvs k = some ds → valV ws k = some (.ref q0) → Dqs B xs0 (g ds) →
    MQ B (upd H q0 (.lst xs0)) ws qs (dmod kvs k g)
  | _, _, _, _, .nil, _, h, _, _ => by cases h
  | _, _, _, ds, .cons (k := k') (q := q) kk e r t, nd, h, hv, hg => by
    by_cases hk : k' = k
    · subst hk
      simp [dget, List.find?_cons] at h
      subst h
      rw [valV_pos rfl] at hv
      cases hv
      unfold dmod
      rw [if_pos rfl]
      refine .cons kk upd_same hg (t.stay (Grow.refl B) fun a ha => upd_ne ?_)
      rintro rfl
      exact (List.nodup_cons.mp nd).1 ha
    · have h' := h
      simp only [dget, List.find?_cons, decide_eq_false hk] at h'
      rw [valV_neg hk] at hv
      unfold dmod
      rw [if_neg hk]
      obtain ⟨q', xs, h1, h2, h3⟩ := t.find (k := k) h'
      rw [hv] at h1; cases h1
      refine .cons kk ?_ r (t.app (List.nodup_cons.mp nd).2 h' hv hg)
      rw [upd_ne]; exact e
      rintro rfl
      exact (List.nodup_cons.mp nd).1 h2
theorem MQ.snoc {κ : Type} [DecidableEq κ] [KOk κ] {B H : Hp} {k : κ} {q : Addr} {xs : List V} {ds : List PyData} (hk : KOk.ok k = true) (e : H q = some (.lst xs)) (r : Dqs B xs ds) : ∀ {ws : List (κ × V)} {qs : List Addr} {kvs : List (κ × List PyData)}, MQ B H ws qs kvs → MQ B H (ws ++ [(k, .ref q)]) (qs ++ [q]) (kvs ++ [(k, ds)])
  | _, _, _, .nil => .cons hk e r .nil
  | _, _, _, .cons k1 e1 r1 t => .cons k1 e1 r1 (t.snoc hk e r)
theorem putK_new {κ : Type} [DecidableEq κ] {ws : List (κ × V)} {k : κ} {x : V} (h : (ws.map Prod.fst).any (fun z => decide (z = k)) = false) : putK ws k x = ws ++ [(k, x)] := by
  unfold putK
  rw [if_neg]
  rw [List.any_map] at h
  intro z
  have : (ws.any fun kv => decide (kv.1 = k)) = false := h
  rw [this] at z; cases z
/-- the key of a dict of text or numbers, of one of tuples -/
def asK : PV → Option Key
  | .d y => keyOf y
  | _ => none
def asT : PV → Option (List Key)
  | .d (.tuple ys) => keysOf ys
  | _ => none
theorem asK_v {B : Hp} {x : V} {v : PV} {k : Key} (r : RepV ca K B x v) (e : asK v = some k) : x = kV k ∧ keyOk k = true := by
  unfold asK at e
  split at e
  · exact ⟨keyOf_v r e, keyOf_ok r e⟩
  · cases e
theorem asT_v {B : Hp} {x : V} {v : PV} {k : List Key} (r : RepV ca K B x v) (e : asT v = some k) : (∃ b, x = .ref b ∧ B b = some (.tup (k.map kV))) ∧ k.all keyOk = true := by
  unfold asT at e
  split at e
  · cases r with | tup e' t =>
    have h := keysOf_v t e
    subst h
    exact ⟨⟨_, rfl, e'⟩, keysOf_ok t e⟩
  · cases e
/-- d[k] = [], k a name, new -/
def fMNew (i j : Nat) : FS := fun ρ => match ρ[i]?, ρ[j]? with
  | some (.own (.mK kvs)), some (.val v) => match asK v with
    | some k => if (kvs.map Prod.fst).any (fun z => decide (z = k)) = false ∧ kvs.length < big then .nx (ρ.set i (.own (.mK (kvs ++ [(k, [])])))) else .no
    | none => .no
  | some (.own (.mT kvs)), some (.val v) => match asT v with
    | some k => if (kvs.map Prod.fst).any (fun z => decide (z = k)) = false ∧ kvs.length < big then .nx (ρ.set i (.own (.mT (kvs ++ [(k, [])])))) else .no
    | none => .no
  | _, _ => .no
theorem MQ.length {κ : Type} [KOk κ] {B H : Hp} : ∀ {ws : List (κ × V)} {qs : List Addr} {kvs : List (κ × List PyData)}, MQ B H ws qs kvs → ws.length = kvs.length
  | _, _, _, .nil => rfl
  | _, _, _, .cons _ _ _ t => congrArg (· + 1) t.length
theorem s_mnew (i j : Nat) {q1 q2 q3 q4 : Pos} (hu : X.A.units + 65 < cLine) (hN : X.N[i]? = some x := by rfl) (hv : Vis X.env.scope x := by first | exact Or.inl rfl | exact Or.inr (Or.inl rfl) | exact Or.inr (Or.inr rfl)) (hd : (x == ("__debug__" : Str)) = false := by decide)
    (hcd : (x == ("__classdict__" : Str)) = false := by decide) (hN2 : X.N[j]? = some y := by rfl) (hv2 : Vis X.env.scope y := by first | exact Or.inl rfl | exact Or.inr (Or.inl rfl) | exact Or.inr (Or.inr rfl)) (hd2 : (y == ("__debug__" : Str)) = false := by decide)
    (hcd2 : (y == ("__classdict__" : Str)) = false := by decide) (hs : swapsWith (.List [] q4) (some (.Subscript (.Name x q1) (.Name y q2) q3)) pos.line X.env = pure false := by rfl) :
    PSt X ca W (.Assign [.Subscript (.Name x q1) (.Name y q2) q3] (.List [] q4) pos) (fMNew i j) :=
  ps_imp (ps_dput (by omega) (pe_var hN hv hd hcd) (pe_var hN2 hv2 hd2 hcd2) (pe_lst pa_nil) hs) fun D σ H ⟨E, B, ρ, S, z⟩ => by
    refine ⟨Nat.zero_le _, fun q hq => ?_⟩
    unfold fMNew at z
    have common : ∀ {κ : Type} [DecidableEq κ] [KOk κ] {ws : List (κ × V)} {qs : List Addr} {kvs : List (κ × List PyData)} {p : Addr} {k : κ} {mk : List (κ × V) → HO}, H p = some (mk ws) → p ≠ q → MQ B H ws qs kvs → (p :: qs).Nodup → (kvs.map Prod.fst).any (fun z => decide (z = k)) = false → KOk.ok k = true →
        ∃ qs', (p :: qs').Nodup ∧ upd (upd H q (.lst [])) p (mk (putK ws k (.ref q))) p = some (mk (putK ws k (.ref q))) ∧ MQ B (upd (upd H q (.lst [])) p (mk (putK ws k (.ref q)))) (putK ws k (.ref q)) qs' (kvs ++ [(k, [])]) ∧ (∀ a ∈ p :: qs', a ∈ p :: qs ∨ H a = none) ∧
          ∀ a, a ∉ p :: qs' → ∀ u, H a = some u → upd (upd H q (.lst [])) p (mk (putK ws k (.ref q))) a = some u := by
      intro κ _ _ ws qs kvs p k mk hp hpq m nd hn hk
      have nq : q ∉ qs := fun h => by
        obtain ⟨xs, h⟩ := m.there q h
        rw [hq] at h; cases h
      have np : p ∉ qs := (List.nodup_cons.mp nd).1
      rw [putK_new (by rw [m.ky.1]; exact hn)]
      refine ⟨qs ++ [q], ?_, upd_same, ?_, ?_, ?_⟩
      · refine List.nodup_cons.mpr ⟨?_, ?_⟩
        · simp [np, hpq]
        · exact List.nodup_append.mpr ⟨(List.nodup_cons.mp nd).2, by simp, by
            intro a ha b hb
            simp at hb
            subst hb
            rintro rfl
            exact nq ha⟩
      · refine MQ.snoc hk (xs := []) ?_ .nil (m.stay (Grow.refl B) fun a ha => ?_)
        · rw [upd_ne (Ne.symm hpq), upd_same]
        · rw [upd_ne (by rintro rfl; exact np ha), upd_ne (by rintro rfl; exact nq ha)]
      · intro a ha
        rcases List.mem_cons.mp ha with rfl | ha
        · exact .inl (by simp)
        · rcases List.mem_append.mp ha with ha | ha
          · exact .inl (by simp [ha])
          · simp at ha; subst ha; exact .inr hq
      · intro a ha u hu
        rw [upd_ne (fun z => ha (by simp [z])), upd_ne (fun z => ha (by simp [z]))]
        exact hu
    split at z
    · rename_i kvs v ho hj
      obtain ⟨p, A, h1, h2⟩ := S.ownAt ho
      obtain ⟨y', e1, e2⟩ := S.val hj
      refine ⟨_, h1, _, e1, ?_⟩
      obtain ⟨ws, qs, rfl, nd, hp, m⟩ := id h2
      have hpq : p ≠ q := by rintro rfl; rw [hq] at hp; cases hp
      split at z
      · rename_i k hk
        split at z
        · rename_i hc
          obtain ⟨ek, ok⟩ := asK_v e2 hk
          obtain ⟨qs', c1, c2, c3, c4, c5⟩ := common (mk := HO.dK) hp hpq m nd hc.1 ok
          refine ⟨p, _, rfl, .inl ⟨ws, k, by rw [upd_ne hpq]; exact hp, ek, by rw [m.length, big_eq]; exact hc.2, rfl⟩, ?_⟩
          refine z σ B _ (S.mutG ho h1 fun A hA => ?_) (Grow.refl B)
          obtain ⟨ws2, qs2, rfl, nd2, hp2, m2⟩ := hA
          rw [hp] at hp2; cases hp2
          obtain ⟨qs', c1, c2, c3, c4, c5⟩ := common (mk := HO.dK) hp hpq m2 nd2 hc.1 ok
          exact ⟨_, ⟨_, qs', rfl, c1, c2, c3⟩, c4, c5⟩
        · exact z.elim
      · exact z.elim
    · rename_i kvs v ho hj
      obtain ⟨p, A, h1, h2⟩ := S.ownAt ho
      obtain ⟨y', e1, e2⟩ := S.val hj
      refine ⟨_, h1, _, e1, ?_⟩
      obtain ⟨ws, qs, rfl, nd, hp, m⟩ := id h2
      have hpq : p ≠ q := by rintro rfl; rw [hq] at hp; cases hp
      split at z
      · rename_i k hk
        split at z
        · rename_i hc
          obtain ⟨⟨b, rfl, eb⟩, ok⟩ := asT_v e2 hk
          have hb : b ≠ q := by rintro rfl; rw [S.sub _ _ eb] at hq; cases hq
          refine ⟨p, _, rfl, .inr ⟨ws, k, b, by rw [upd_ne hpq]; exact hp, rfl, by rw [upd_ne hb]; exact S.sub _ _ eb, by rw [m.length, big_eq]; exact hc.2, rfl⟩, ?_⟩
          refine z σ B _ (S.mutG ho h1 fun A hA => ?_) (Grow.refl B)
          obtain ⟨ws2, qs2, rfl, nd2, hp2, m2⟩ := hA
          rw [hp] at hp2; cases hp2
          obtain ⟨qs', c1, c2, c3, c4, c5⟩ := common (mk := HO.dT) hp hpq m2 nd2 hc.1 ok
          exact ⟨_, ⟨_, qs', rfl, c1, c2, c3⟩, c4, c5⟩
        · exact z.elim
      · exact z.elim
    · exact z.elim

/-- d[k].append(v): v does not look at d -/
def fMApp (i : Nat) (fk fv : FE) : FS := fun ρ => match ρ[i]? with
  | some (.own (.mK kvs)) => (fk ρ).ctl ρ fun w => match asK w with
    | some k => match dget kvs k with
      | some ds => (fv (ρ.set i .un)).ctl ρ fun v => match v with
        | .d d => if ds.length < big then .nx (ρ.set i (.own (.mK (dmod kvs k (· ++ [d]))))) else .no
        | _ => .no
      | none => .no
    | none => .no
  | some (.own (.mT kvs)) => (fk ρ).ctl ρ fun w => match asT w with
    | some k => match dget kvs k with
      | some ds => (fv (ρ.set i .un)).ctl ρ fun v => match v with
        | .d d => if ds.length < big then .nx (ρ.set i (.own (.mT (dmod kvs k (· ++ [d]))))) else .no
        | _ => .no
      | none => .no
    | none => .no
  | _ => .no
theorem MQ.appH {κ : Type} [DecidableEq κ] [KOk κ] {B B' H H' : Hp} {p : Addr} {mk : List (κ × V) → HO} (inj : ∀ a b, mk a = mk b → a = b) {ws : List (κ × V)} {qs : List Addr} {kvs : List (κ × List PyData)} {k : κ} {q : Addr} {xs : List V} {ds : List PyData} {d : PyData} {x : V}
    (hp : H' p = some (mk ws)) (hd : dget kvs k = some ds) (hv : valV ws k = some (.ref q)) (hq : q ∈ qs) (hpq : p ≠ q) (r : Dqs B' xs ds) (rx : Dq B' x d) :
    ∀ A, (∃ ws qs, A = p :: qs ∧ (p :: qs).Nodup ∧ H' p = some (mk ws) ∧ MQ B' H' ws qs kvs) → ∃ A', (∃ ws qs, A' = p :: qs ∧ (p :: qs).Nodup ∧ upd H' q (.lst (xs ++ [x])) p = some (mk ws) ∧ MQ B' (upd H' q (.lst (xs ++ [x]))) ws qs (dmod kvs k (· ++ [d]))) ∧
      (∀ a ∈ A', a ∈ A ∨ H' a = none) ∧ ∀ a, a ∉ A' → ∀ u, H' a = some u → upd H' q (.lst (xs ++ [x])) a = some u := by
  rintro A ⟨ws2, qs2, rfl, nd, hp2, m2⟩
  rw [hp] at hp2
  have := inj _ _ (Option.some.inj hp2)
  subst this
  obtain ⟨q', xs', z1, z2, z3, z4⟩ := m2.find hd
  rw [hv] at z1; cases z1
  refine ⟨p :: qs2, ⟨ws, qs2, rfl, nd, by rw [upd_ne hpq]; exact hp, m2.app (List.nodup_cons.mp nd).2 hd hv (r.snoc rx)⟩, fun a ha => .inl ha, fun a ha u hu => ?_⟩
  rw [upd_ne]; exact hu
  rintro rfl
  exact ha (by simp [z2])
theorem s_mapp (i : Nat) {q1 q2 q3 q4 q5 : Pos} (hu : X.A.units + 65 < cLine) (hk : PVa X ca W b fk) (he : PVa X ca W e fv) (hN : X.N[i]? = some x := by rfl) (hv : Vis X.env.scope x := by first | exact Or.inl rfl | exact Or.inr (Or.inl rfl) | exact Or.inr (Or.inr rfl)) (hd : (x == ("__debug__" : Str)) = false := by decide)
    (hcd : (x == ("__classdict__" : Str)) = false := by decide) (hix : PlainIx b := by intro _ _; rfl)
    (hbase : attributeBase (.Subscript (.Name x q1) b q2) "append" X.env (eval (.Subscript (.Name x q1) b q2) X.env) = eval (.Subscript (.Name x q1) b q2) X.env := by rfl)
    (hfew : ((backTo q4 (starEach [e] X.env)).all (fun x => !x.1) && (backToKw q4 (keywordEach [] X.env)).all (fun x => x.1.isSome) && decide (([e] : List Expr).length + ([] : List Keyword).length + (if ([] : List Keyword).isEmpty then 0 else 1) < 30)) = true := by rfl)
    (hline : (q3.endLine == q4.line) = true := by rfl) (hs : starEach [e] X.env = (false, eval e X.env) :: starEach [] X.env := by rfl) (hplain : (backTo q4 (starEach [] X.env)).any (·.1) = false := by rfl)
    (hsw : swapsWith (.Call (.Attribute (.Subscript (.Name x q1) b q2) "append" q3) [e] [] q4) none q5.line X.env = pure false := by rfl) :
    PSt X ca W (.Expr (.Call (.Attribute (.Subscript (.Name x q1) b q2) "append" q3) [e] [] q4) q5) (fMApp i fk fv) :=
  ps_imp (ps_expr (pe_bm PySem.F.plainAttrs_list PySem.F.slot_list_append PySem.F.type_list_append mt_append (pe_ix (ix_dict (by omega)) (pe_var hN hv hd hcd) hk hix) (pa_cons he pa_nil hs) hbase hfew hline hs hplain) hsw) fun D σ H ⟨E, B, ρ, S, z⟩ => by
    unfold fMApp at z
    split at z
    · rename_i kvs ho
      obtain ⟨p, A, h1, h2⟩ := S.ownAt ho
      refine ⟨_, h1, E, B, ρ, S, (CtlOk.ctl z).imp (fun w hw y B1 H1 S1 g1 r1 => ?_) fun _ _ z => z⟩
      split at hw
      · rename_i k hk
        split at hw
        · rename_i ds hds
          obtain ⟨p', A', k1, k2, M, Sn, leave⟩ := S1.aside ho
          rw [h1] at k1; cases k1
          obtain ⟨ws, qs, rfl, nd, hp, m⟩ := id k2
          obtain ⟨q, xs, m1, m2, m3, m4⟩ := m.find hds
          obtain ⟨ek, _⟩ := asK_v r1 hk
          refine ⟨p, .ref q, rfl, .inl ⟨ws, k, .inl hp, ek, m1.symm⟩, .inl ⟨rfl, xs, SqL.of m3⟩, ⟨H1, B1, M⟩, B1, _, Sn, (CtlOk.ctl hw).imp (fun v hv y2 B2 H2 S2 g2 r2 => ?_) fun _ _ z => z.aside fun S' => (leave S').1⟩
          split at hv
          · split at hv
            · rename_i hl
              obtain ⟨S3, g3, own3, same⟩ := leave S2
              have e2 : H2 q = some (.lst xs) := (same q (by simp [m2])).trans m3
              have e3 : H2 p = some (.dK ws) := (same p (by simp)).trans hp
              have m4' := Dqs.mono g3 _ _ m4
              have hpq : p ≠ q := fun z => (List.nodup_cons.mp nd).1 (z ▸ m2)
              refine ⟨q, xs, y2, rfl, rfl, e2, by rw [m4.length, big_eq]; exact hl, ?_⟩
              refine hv σ B2 _ (S3.mutG ho h1 ?_) (g1.trans g3)
              exact MQ.appH (B := B) (H := H) (mk := HO.dK) (fun a b z => by cases z; rfl) e3 hds m1 m2 hpq m4' r2
            · exact hv.elim
          · exact hv.elim
        · exact hw.elim
      · exact hw.elim
    · rename_i kvs ho
      obtain ⟨p, A, h1, h2⟩ := S.ownAt ho
      refine ⟨_, h1, E, B, ρ, S, (CtlOk.ctl z).imp (fun w hw y B1 H1 S1 g1 r1 => ?_) fun _ _ z => z⟩
      split at hw
      · rename_i k hk
        split at hw
        · rename_i ds hds
          obtain ⟨p', A', k1, k2, M, Sn, leave⟩ := S1.aside ho
          rw [h1] at k1; cases k1
          obtain ⟨ws, qs, rfl, nd, hp, m⟩ := id k2
          obtain ⟨q, xs, m1, m2, m3, m4⟩ := m.find hds
          obtain ⟨⟨bb, eb, tb⟩, _⟩ := asT_v r1 hk
          refine ⟨p, .ref q, rfl, .inr ⟨ws, k, bb, .inl hp, eb, S1.sub _ _ tb, m1.symm⟩, .inl ⟨rfl, xs, SqL.of m3⟩, ⟨H1, B1, M⟩, B1, _, Sn, (CtlOk.ctl hw).imp (fun v hv y2 B2 H2 S2 g2 r2 => ?_) fun _ _ z => z.aside fun S' => (leave S').1⟩
          split at hv
          · split at hv
            · rename_i hl
              obtain ⟨S3, g3, own3, same⟩ := leave S2
              have e2 : H2 q = some (.lst xs) := (same q (by simp [m2])).trans m3
              have e3 : H2 p = some (.dT ws) := (same p (by simp)).trans hp
              have m4' := Dqs.mono g3 _ _ m4
              have hpq : p ≠ q := fun z => (List.nodup_cons.mp nd).1 (z ▸ m2)
              refine ⟨q, xs, y2, rfl, rfl, e2, by rw [m4.length, big_eq]; exact hl, ?_⟩
              refine hv σ B2 _ (S3.mutG ho h1 ?_) (g1.trans g3)
              exact MQ.appH (B := B) (H := H) (mk := HO.dT) (fun a b z => by cases z; rfl) e3 hds m1 m2 hpq m4' r2
            · exact hv.elim
          · exact hv.elim
        · exact hw.elim
      · exact hw.elim
    · exact z.elim
/-! ### new dicts -/
def oNew (o : OV) : FO := fun _ => .ok o
theorem o_dK : POw X ca W (.Dict [] [] pos) (oNew (.dK [])) := pe_imp pe_dnewK fun σ H Q ⟨E, B, ρ, S, z⟩ => fun p hp => (show OkO ca X.K E B ρ σ Q (.dK []) from z) _ B _ (S.laidO hp ⟨rfl, [], upd_same, .nil⟩) (Grow.refl B)
theorem o_dT : POw X ca W (.Dict [] [] pos) (oNew (.dT [])) := pe_imp pe_dnewT fun σ H Q ⟨E, B, ρ, S, z⟩ => fun p hp => (show OkO ca X.K E B ρ σ Q (.dT []) from z) _ B _ (S.laidO hp ⟨rfl, [], upd_same, .nil⟩) (Grow.refl B)
theorem o_mK : POw X ca W (.Dict [] [] pos) (oNew (.mK [])) := pe_imp pe_dnewK fun σ H Q ⟨E, B, ρ, S, z⟩ => fun p hp => (show OkO ca X.K E B ρ σ Q (.mK []) from z) _ B _ (S.laidO hp ⟨[], [], rfl, by simp, upd_same, .nil⟩) (Grow.refl B)
theorem o_mT : POw X ca W (.Dict [] [] pos) (oNew (.mT [])) := pe_imp pe_dnewT fun σ H Q ⟨E, B, ρ, S, z⟩ => fun p hp => (show OkO ca X.K E B ρ σ Q (.mT []) from z) _ B _ (S.laidO hp ⟨[], [], rfl, by simp, upd_same, .nil⟩) (Grow.refl B)
/-! ### d[k] = v, d[k] op= v, d.get(k, v) -/
def putP (o : OV) (k v : PV) : Option OV := match o, v with
  | .dK kvs, .d d => match asK k with
    | some k => if kvs.length < big then some (.dK (dput kvs k d)) else none
    | none => none
  | .dT kvs, .d d => match asT k with
    | some k => if kvs.length < big then some (.dT (dput kvs k d)) else none
    | none => none
  | _, _ => none
def fPut (i : Nat) (fk fv : FE) : FS := fun ρ => match ρ[i]? with
  | some (.own o) => (fv ρ).ctl ρ fun v => (fk ρ).ctl ρ fun k => match putP o k v with
    | some o' => .nx (ρ.set i (.own o'))
    | none => .no
  | _ => .no
theorem put_ok {E : Ent} {B H : Hp} {ρ : List Slot} {σ : L2.St} {i : Nat} {o o' : OV} {p : Addr} {k v : PV} {y z : V} (S : SR ca K E B ρ σ H) (ho : ρ[i]? = some (.own o)) (h1 : σ[i]? = some (some (.ref p))) (hp : putP o k v = some o') (rk : RepV ca K B y k) (rv : RepV ca K B z v) :
    ∃ H', DPut H p y z H' ∧ SR ca K E B (ρ.set i (.own o')) σ H' := by
  obtain ⟨p', A, k1, k2⟩ := S.ownAt ho
  rw [h1] at k1; cases k1
  unfold putP at hp
  split at hp
  · split at hp
    · rename_i hk
      split at hp
      · rename_i hl
        cases hp
        obtain ⟨rfl, ws, h3, h4⟩ := id k2
        obtain ⟨ek, ok⟩ := asK_v rk hk
        refine ⟨_, .inl ⟨ws, _, h3, ek, by rw [h4.length, big_eq]; exact hl, rfl⟩, S.mut ho h1 fun A hA => ?_⟩
        obtain ⟨e1, ws2, e2, e3⟩ := hA
        rw [h3] at e2; cases e2
        exact ⟨e1, _, upd_same, e3.put _ rv ok⟩
      · cases hp
    · cases hp
  · split at hp
    · rename_i hk
      split at hp
      · rename_i hl
        cases hp
        obtain ⟨rfl, ws, h3, h4⟩ := id k2
        obtain ⟨⟨b, eb, tb⟩, ok⟩ := asT_v rk hk
        refine ⟨_, .inr ⟨ws, _, b, h3, eb, S.sub _ _ tb, by rw [h4.length, big_eq]; exact hl, rfl⟩, S.mut ho h1 fun A hA => ?_⟩
        obtain ⟨e1, ws2, e2, e3⟩ := hA
        rw [h3] at e2; cases e2
        exact ⟨e1, _, upd_same, e3.put _ rv ok⟩
      · cases hp
    · cases hp
  · cases hp
theorem s_dput (i : Nat) {q1 q2 : Pos} (hu : X.A.units + 65 < cLine) (hk : PVa X ca W b fk) (hv : PVa X ca W e fv) (hN : X.N[i]? = some x := by rfl) (hvis : Vis X.env.scope x := by first | exact Or.inl rfl | exact Or.inr (Or.inl rfl) | exact Or.inr (Or.inr rfl)) (hd : (x == ("__debug__" : Str)) = false := by decide)
    (hcd : (x == ("__classdict__" : Str)) = false := by decide) (hs : swapsWith e (some (.Subscript (.Name x q1) b q2)) pos.line X.env = pure false := by rfl) :
    PSt X ca W (.Assign [.Subscript (.Name x q1) b q2] e pos) (fPut i fk fv) :=
  ps_imp (ps_dput (by omega) (pe_var hN hvis hd hcd) hk hv hs) fun D σ H ⟨E, B, ρ, S, z⟩ => by
    unfold fPut at z
    split at z
    · rename_i o ho
      obtain ⟨p, A, h1, h2⟩ := S.ownAt ho
      refine ⟨E, B, ρ, S, (CtlOk.ctl z).imp (fun v hv x1 B1 H1 S1 g1 r1 => ?_) fun _ _ z => z⟩
      refine ⟨_, h1, E, B1, ρ, S1, (CtlOk.ctl hv).imp (fun k hk y1 B2 H2 S2 g2 r2 => ?_) fun _ _ z => z⟩
      split at hk
      · rename_i o' hp
        obtain ⟨H3, d, S3⟩ := put_ok S2 ho h1 hp r2 (r1.mono g2)
        exact ⟨p, H3, rfl, d, hk σ B2 H3 S3 (g1.trans g2)⟩
      · exact hk.elim
    · exact z.elim
/-- what a dict holds -/
def getP (o : PV) (k : PV) : Option (Option PyData) := match o with
  | .dK kvs => (asK k).map fun k => dget kvs k
  | .dT kvs => (asT k).map fun k => dget kvs k
  | _ => none
theorem get_ok {E : Ent} {B H : Hp} {ρ : List Slot} {σ : L2.St} {x y : V} {o k : PV} {r : Option PyData} (S : SR ca K E B ρ σ H) (rx : RepC ca K B H x o) (ry : RepV ca K B y k) (h : getP o k = some r) :
    ∃ a, x = .ref a ∧ ((r = none ∧ DGet H a y none) ∨ ∃ d z, r = some d ∧ DGet H a y (some z) ∧ Dq B z d) := by
  unfold getP at h
  split at h
  · obtain ⟨a, ws, rfl, e, q⟩ := rx
    obtain ⟨k', hk, rfl⟩ := Option.map_eq_some_iff.mp h
    obtain ⟨ek, _⟩ := asK_v ry hk
    refine ⟨a, rfl, ?_⟩
    rcases q.get k' with ⟨h1, h2⟩ | ⟨z, d, h1, h2, h3⟩
    · exact .inl ⟨h2, .inl ⟨ws, k', e, ek, h1.symm⟩⟩
    · exact .inr ⟨d, z, h2, .inl ⟨ws, k', e, ek, h1.symm⟩, h3⟩
  · obtain ⟨a, ws, rfl, e, q⟩ := rx
    obtain ⟨k', hk, rfl⟩ := Option.map_eq_some_iff.mp h
    obtain ⟨⟨b, eb, tb⟩, _⟩ := asT_v ry hk
    refine ⟨a, rfl, ?_⟩
    rcases q.get k' with ⟨h1, h2⟩ | ⟨z, d, h1, h2, h3⟩
    · exact .inl ⟨h2, .inr ⟨ws, k', b, e, eb, S.sub _ _ tb, h1.symm⟩⟩
    · exact .inr ⟨d, z, h2, .inr ⟨ws, k', b, e, eb, S.sub _ _ tb, h1.symm⟩, h3⟩
  · cases h
def isDict : PV → Bool
  | .dK _ => true
  | .dT _ => true
  | _ => false
theorem RepC.isD {B H : Hp} {x : V} {o : PV} (rx : RepC ca K B H x o) (h : isDict o = true) : ∃ a, x = .ref a ∧ IsD H a := by
  unfold isDict at h
  split at h
  · obtain ⟨a, ws, rfl, e, q⟩ := rx; exact ⟨a, rfl, .inl ⟨ws, e⟩⟩
  · obtain ⟨a, ws, rfl, e, q⟩ := rx; exact ⟨a, rfl, .inr ⟨ws, e⟩⟩
  · cases h
/-- d.get(k, v) -/
def eGet (fd fk fv : FE) : FE := fun ρ => fd ρ >>= fun o => if isDict o = true then fk ρ >>= fun k => fv ρ >>= fun v => match getP o k with
  | some (some d) => .ok (.d d)
  | some none => .ok v
  | none => .no else .no
theorem v_get {o1 : Expr} {fd : FE} {q1 q2 : Pos} (hu : X.A.units + 65 < cLine) (ho : PBo X ca W o1 fd) (hk : PVa X ca W b fk) (hv : PVa X ca W e fv) (m : M2 X o1 "get" q1 b e q2 := by exact ⟨rfl, rfl, rfl, by intro _; rfl⟩) :
    PVa X ca W (.Call (.Attribute o1 "get" q1) [b, e] [] q2) (eGet fd fk fv) := pe_imp (pe_dget2 (by omega) ho hk hv m) fun σ H Q ⟨E, B, ρ, S, z⟩ => ⟨E, B, ρ, S, (Ans.bind z).imp (fun o ho x B1 H1 S1 g1 r1 => by
    split at ho
    · rename_i hd
      obtain ⟨a, rfl, h2⟩ := (S1.lookC r1).isD hd
      refine ⟨a, rfl, h2, E, B1, ρ, S1, (Ans.bind ho).imp (fun k hk y B2 H2 S2 g2 r2 => ⟨E, B2, ρ, S2, (Ans.bind hk).imp (fun v hv z B3 H3 S3 g3 r3 => ?_) fun _ _ z => z⟩) fun _ _ z => z⟩
      cases q : getP o k with
      | none => rw [q] at hv; exact hv.elim
      | some r =>
        rw [q] at hv
        obtain ⟨a', e1, h4⟩ := get_ok S3 (S3.lookC (r1.mono (g2.trans g3))) (r2.mono g3) q
        cases e1
        rcases h4 with ⟨rfl, h5⟩ | ⟨d, z', rfl, h5, h6⟩
        · exact ⟨none, h5, (show OkV ca X.K E B ρ σ Q v from hv) z B3 H3 S3 ((g1.trans g2).trans g3) r3⟩
        · exact ⟨some z', h5, (show OkV ca X.K E B ρ σ Q (.d d) from hv) z' B3 H3 S3 ((g1.trans g2).trans g3) h6⟩
    · exact ho.elim) fun _ _ z => z⟩
/-- d[k] op= v, numbers -/
def fAugD (i : Nat) (g : Int → Int → Int) (fk fv : FE) : FS := fun ρ => match ρ[i]? with
  | some (.own o) => (fk ρ).ctl ρ fun k => match getP o.bor k with
    | some (some (.int m)) => (fv ρ).ctl ρ fun v => match v with
      | .d (.int n) => match putP o k (.d (.int (g m n))) with
        | some o' => .nx (ρ.set i (.own o'))
        | none => .no
      | _ => .no
    | _ => .no
  | _ => .no
theorem s_daug (i : Nat) {op : Operator} {g : Int → Int → Int} {rd : V → V → Hp → VK → Prop} {q1 q2 : Pos} (hu : X.A.units + 65 < cLine) (hop : InOp X op rd) (hrd : ∀ m n H Q, Q (.int (g m n)) H → rd (.int m) (.int n) H Q) (hk : PVa X ca W b fk) (hv : PVa X ca W e fv) (hN : X.N[i]? = some x := by rfl)
    (hvis : Vis X.env.scope x := by first | exact Or.inl rfl | exact Or.inr (Or.inl rfl) | exact Or.inr (Or.inr rfl)) (hd : (x == ("__debug__" : Str)) = false := by decide) (hcd : (x == ("__classdict__" : Str)) = false := by decide)
    (ha : ∀ ov iv new, augStore b ov iv new = (do holding [new, ov, iv] (setItem ov iv new); release [new, ov, iv] []; pure .next) := by intros; rfl) : PSt X ca W (.AugAssign (.Subscript (.Name x q1) b q2) op e pos) (fAugD i g fk fv) :=
  ps_imp (ps_daug (by omega) (pe_var hN hvis hd hcd) hk hv hop ha) fun D σ H ⟨E, B, ρ, S, z⟩ => by
    unfold fAugD at z
    split at z
    · rename_i o ho
      obtain ⟨p, A, h1, h2⟩ := S.ownAt ho
      refine ⟨_, h1, E, B, ρ, S, (CtlOk.ctl z).imp (fun k hk y1 B1 H1 S1 g1 r1 => ?_) fun _ _ z => z⟩
      split at hk
      · rename_i m hm
        obtain ⟨a', e1, h4⟩ := get_ok S1 (S1.lookC (.inr ⟨i, o, ho, h1, rfl⟩)) r1 hm
        cases e1
        rcases h4 with ⟨h5, _⟩ | ⟨d, z', h5, h6, h7⟩
        · cases h5
        · cases h5; cases h7
          refine ⟨p, _, rfl, h6, E, B1, ρ, S1, (CtlOk.ctl hk).imp (fun v hv y2 B2 H2 S2 g2 r2 => ?_) fun _ _ z => z⟩
          split at hv
          · rename_i n
            cases r2
            split at hv
            · rename_i o' hp
              obtain ⟨H3, d3, S3⟩ := put_ok S2 ho h1 hp (r1.mono g2) (show RepV ca X.K B2 (.int (g m n)) (.d (.int (g m n))) from .int _)
              exact hrd _ _ _ _ ⟨H3, d3, hv σ B2 H3 S3 (g1.trans g2)⟩
            · exact hv.elim
          · exact hv.elim
      · exact hk.elim
    · exact z.elim

/-! ### for k in d -/
def keyD : Key → PyData
  | .inl i => .int i
  | .inr x => .str x
def keysD (kvs : List (Key × PyData)) : List PyData := kvs.map fun p => keyD p.1
def keysT (kvs : List (List Key × PyData)) : List PyData := kvs.map fun p => .tuple (p.1.map keyD)
theorem key_dq {B : Hp} {k : Key} (h : keyOk k = true) : Dq B (kV k) (keyD k) := by
  cases k with
  | inl i => exact .int i
  | inr x => exact .str x h
theorem keys_dq {B : Hp} : ∀ {ks : List Key}, ks.all keyOk = true → Dqs B (ks.map kV) (ks.map keyD)
  | [], _ => .nil
  | k :: ks, h => by
    rw [List.all_cons, Bool.and_eq_true] at h
    exact .cons (key_dq h.1) (keys_dq h.2)
theorem kd_get {κ : Type} [KOk κ] {B : Hp} {ws : List (κ × V)} {kvs : List (κ × PyData)} (h : KD B ws kvs) {i : Nat} {k : κ} {v : V} (e : ws[i]? = some (k, v)) : ∃ d, kvs[i]? = some (k, d) ∧ KOk.ok k = true := by
  obtain ⟨q, h1, h2⟩ := paired_get h e
  exact ⟨q.2, by rw [h1]; exact congrArg some (Prod.ext h2.1.1.symm rfl), by rw [show k = q.1 from h2.1.1]; exact h2.1.2⟩
theorem yl_keys {E : Ent} {B : Hp} {d : Addr} {o : Obj} {ws : List (Key × V)} {kvs : List (Key × PyData)} (h : KD B ws kvs) (hE : E.H d = some (.frz o (.dK ws))) (hM : d ∉ E.M) : YlE ca K E (Itk d o ws) B (keysD kvs) where
  go := fun i B' ρ σ H g S hi => ⟨by obtain ⟨AF, s⟩ := S; exact s.keep d _ hE hM, by rw [h.length]; simpa [keysD] using hi⟩
  stop := fun i B' ρ σ H g S hi => ⟨by obtain ⟨AF, s⟩ := S; exact s.keep d _ hE hM, by rw [h.length]; simpa [keysD] using hi⟩
  yld := fun i B' ρ σ H x H' g S hy y hd => by
    obtain ⟨rfl, k, v, h1, rfl⟩ := hy
    obtain ⟨dv, h2, h3⟩ := kd_get h h1
    unfold keysD at hd
    rw [List.getElem?_map, h2] at hd
    cases hd
    exact ⟨B', S, Grow.refl _, key_dq h3⟩
theorem yl_keysT {E : Ent} {B : Hp} {d : Addr} {o : Obj} {ws : List (List Key × V)} {kvs : List (List Key × PyData)} (h : KD B ws kvs) (hE : E.H d = some (.frz o (.dT ws))) (hM : d ∉ E.M) : YlE ca K E (Itkt d o ws) B (keysT kvs) where
  go := fun i B' ρ σ H g S hi => ⟨by obtain ⟨AF, s⟩ := S; exact s.keep d _ hE hM, by rw [h.length]; simpa [keysT] using hi⟩
  stop := fun i B' ρ σ H g S hi => ⟨by obtain ⟨AF, s⟩ := S; exact s.keep d _ hE hM, by rw [h.length]; simpa [keysT] using hi⟩
  yld := fun i B' ρ σ H x H' g S hy y hd => by
    obtain ⟨rfl, k, v, q, h1, rfl, hq⟩ := hy
    obtain ⟨dv, h2, h3⟩ := kd_get h h1
    unfold keysT at hd
    rw [List.getElem?_map, h2] at hd
    cases hd
    obtain ⟨B2, g2, hb, S2⟩ := S.tups (bs := [q]) (fun b hb => by simp at hb; subst hb; exact ⟨_, hq⟩)
    exact ⟨B2, S2, g2, .tup ((hb q (by simp)).trans hq) (keys_dq h3)⟩
def noEx : Ctl → Ctl
  | .ex _ _ _ => .no
  | c => c
def fForK (i : Nat) (g : FG) (s : FS) : FS := fun ρ => match ρ[i]? with
  | some (.val (.dK kvs)) => noEx (loopL g s (keysD kvs) ρ)
  | some (.val (.dT kvs)) => noEx (loopL g s (keysT kvs) ρ)
  | _ => .no
theorem CtlOk.unlock {E E' : Ent} {B B1 : Hp} {d : Addr} {u : HO} {od : Obj} {D : Ends} {c : Ctl} (h : CtlOk ca K W E B D (noEx c))
    (L : ∀ {B' H' : Hp} {ρ' : List Slot} {σ' : L2.St}, SR ca K E' B' ρ' σ' H' → H' d = some (.frz od u) ∧ SR ca K E (upd B' d u) ρ' σ' (upd H' d u) ∧ Grow B (upd B' d u) ∧ Grow B' (upd B' d u)) :
    CtlOk ca K W E' B1 ⟨fun σ' H' => H' d = some (.frz od u) ∧ D.nx σ' (upd H' d u), fun v H' => H' d = some (.frz od u) ∧ D.rt v (upd H' d u), fun σ' H' => H' d = some (.frz od u) ∧ D.bk σ' (upd H' d u), fun σ' H' => H' d = some (.frz od u) ∧ D.ct σ' (upd H' d u)⟩ c := by
  cases c with
  | nx ρ => exact fun σ B' H' S _ => by obtain ⟨h1, h2, h3, _⟩ := L S; exact ⟨h1, h σ _ _ h2 h3⟩
  | bk ρ => exact fun σ B' H' S _ => by obtain ⟨h1, h2, h3, _⟩ := L S; exact ⟨h1, h σ _ _ h2 h3⟩
  | ct ρ => exact fun σ B' H' S _ => by obtain ⟨h1, h2, h3, _⟩ := L S; exact ⟨h1, h σ _ _ h2 h3⟩
  | rt r =>
    cases r with
    | val v => exact fun x B' H' ρ σ S r => by obtain ⟨h1, h2, h3, h4⟩ := L S; exact ⟨h1, h x _ _ ρ σ h2 (r.mono h4)⟩
    | own o => exact fun x B' H' ρ σ S => by obtain ⟨h1, h2, h3, h4⟩ := L S; exact ⟨h1, h x _ _ ρ σ h2⟩
  | ex c fs ρ => exact h.elim
  | no => exact h.elim
/-- .. a state of its own where d stays as it is -/
theorem SR.hold {E : Ent} {B H : Hp} {ρ : List Slot} {σ : L2.St} {d : Addr} {u : HO} (S : SR ca K E B ρ σ H) (hd : B d = some u) : ∃ M, d ∉ M ∧ SR ca K ⟨H, B, M⟩ B ρ σ H ∧ ∀ {B' H' : Hp} {ρ' : List Slot} {σ' : L2.St}, SR ca K ⟨H, B, M⟩ B' ρ' σ' H' → SR ca K E B' ρ' σ' H' ∧ Grow B B' := by
  obtain ⟨AF, s, nt⟩ := S.neat
  refine ⟨owned ρ AF, fun hm => ?_, ⟨AF, s.enter⟩, fun c => SR.leave s (s.ownedOk nt) c⟩
  obtain ⟨i, hi, h⟩ := List.mem_flatMap.mp hm
  have hl : i < ρ.length := List.mem_range.mp hi
  cases q : ρ[i] with
  | un => rw [nt i .un (by rw [List.getElem?_eq_getElem hl, q]) (fun o z => by cases z)] at h; simp at h
  | val v => rw [nt i (.val v) (by rw [List.getElem?_eq_getElem hl, q]) (fun o z => by cases z)] at h; simp at h
  | own o => rw [(s.ofr i o (by rw [List.getElem?_eq_getElem hl, q]) d h).1] at hd; cases hd
theorem CtlOk.within {E E' : Ent} {B : Hp} {D : Ends} {c : Ctl} (h : CtlOk ca K W E B D (noEx c)) (L : ∀ {B' H' : Hp} {ρ' : List Slot} {σ' : L2.St}, SR ca K E' B' ρ' σ' H' → SR ca K E B' ρ' σ' H' ∧ Grow B B') : CtlOk ca K W E' B D c := by
  cases c with
  | nx ρ => exact fun σ B' H' S g => h σ _ _ (L S).1 g
  | bk ρ => exact fun σ B' H' S g => h σ _ _ (L S).1 g
  | ct ρ => exact fun σ B' H' S g => h σ _ _ (L S).1 g
  | rt r =>
    cases r with
    | val v => exact fun x B' H' ρ σ S r => h x _ _ ρ σ (L S).1 r
    | own o => exact fun x B' H' ρ σ S => h x _ _ ρ σ (L S).1
  | ex c fs ρ => exact h.elim
  | no => exact h.elim
theorem ps_or {t1 t2 : TS} (h1 : PS X st t1) (h2 : PS X st t2) : PS X st (fun D σ H => t1 D σ H ∨ t2 D σ H) := ⟨fun pins s σ H D I q => q.elim (h1.run pins s σ H D I) (h2.run pins s σ H D I)⟩
variable {tg : Expr} {is : List Nat} {g : FG}
theorem s_forK (i : Nat) {q1 : Pos} (hp : PassesOwn (model X.prog X.w) X.A X.env X.xe) (hg : PTg X ca tg is g) (hb : PBl X ca W sts s) (hN : X.N[i]? = some x := by rfl) (hvis : Vis X.env.scope x := by first | exact Or.inl rfl | exact Or.inr (Or.inl rfl) | exact Or.inr (Or.inr rfl))
    (hd : (x == ("__debug__" : Str)) = false := by decide) (hcd : (x == ("__classdict__" : Str)) = false := by decide) (hc : X.calm = true := by rfl) (hs : ∀ y, foldedSetIterable (.Name x q1) X.env y = pure y := by intro _; rfl) : PSt X ca W (.For tg (.Name x q1) sts [] pos) (fForK i g s) := by
  have base := ps_for hp hc (pi_keys (tg := tg) (pe_var (pos := q1) hN hvis hd hcd)) hg hb hs (pos := pos)
  refine ps_imp (ps_or base (ps_lock base)) fun D σ H ⟨E, B, ρ, S, z⟩ => ?_
  unfold fForK at z
  split at z
  · rename_i kvs hi
    obtain ⟨y, e1, a, ws, rfl, r, q⟩ := S.val hi
    rcases r with r | ⟨o, r⟩
    · obtain ⟨M, dM, hl⟩ := S.lock r (.inl ⟨ws, rfl⟩)
      refine .inr ⟨a, .dK ws, S.sub _ _ r, trivial, fun od => ?_⟩
      obtain ⟨S1, g1, L⟩ := hl od
      refine ⟨_, e1, a, od, rfl, .inl ⟨ws, upd_same, ?_⟩⟩
      exact loop_run S1 (yl_keys (q.mono g1) upd_same dM) (fun S1 r1 h1 k => ⟨_, _, _, _, S1, r1, _, h1, fun σ2 S2 _ _ => k σ2 S2⟩) (fun S2 z => ⟨_, _, _, S2, z⟩) (z.unlock L)
    · obtain ⟨M, dM, S1, L⟩ := S.hold r
      refine .inl ⟨_, e1, a, o, rfl, .inl ⟨ws, S.sub _ _ r, ?_⟩⟩
      exact loop_run S1 (yl_keys q (S.sub _ _ r) dM) (fun S1 r1 h1 k => ⟨_, _, _, _, S1, r1, _, h1, fun σ2 S2 _ _ => k σ2 S2⟩) (fun S2 z => ⟨_, _, _, S2, z⟩) (z.within L)
  · rename_i kvs hi
    obtain ⟨y, e1, a, ws, rfl, r, q⟩ := S.val hi
    rcases r with r | ⟨o, r⟩
    · obtain ⟨M, dM, hl⟩ := S.lock r (.inr ⟨ws, rfl⟩)
      refine .inr ⟨a, .dT ws, S.sub _ _ r, trivial, fun od => ?_⟩
      obtain ⟨S1, g1, L⟩ := hl od
      refine ⟨_, e1, a, od, rfl, .inr ⟨ws, upd_same, ?_⟩⟩
      exact loop_run S1 (yl_keysT (q.mono g1) upd_same dM) (fun S1 r1 h1 k => ⟨_, _, _, _, S1, r1, _, h1, fun σ2 S2 _ _ => k σ2 S2⟩) (fun S2 z => ⟨_, _, _, S2, z⟩) (z.unlock L)
    · obtain ⟨M, dM, S1, L⟩ := S.hold r
      refine .inl ⟨_, e1, a, o, rfl, .inr ⟨ws, S.sub _ _ r, ?_⟩⟩
      exact loop_run S1 (yl_keysT q (S.sub _ _ r) dM) (fun S1 r1 h1 k => ⟨_, _, _, _, S1, r1, _, h1, fun σ2 S2 _ _ => k σ2 S2⟩) (fun S2 z => ⟨_, _, _, S2, z⟩) (z.within L)
  · exact z.elim
end
end Pu
/-! The pure layer, part 12: match, what is never reached. -/
namespace Pu
open PySem PySem.Spec PyProof.Rows L2
section
variable {X : Cx} {ca : Str → Addr} {W : WX} {e : Expr} {f : FE} {s t : FS} {sts us : List Stmt} {st : Stmt} {pos p p2 : Pos} {x y : Str} {cases : List MatchCase}
/-! ### match on data -/
structure PCs (X : Cx) (ca : Str → Addr) (W : WX) (cases : List MatchCase) (F : PyData → FS) : Prop where
  run : ∀ (pins : List (Addr × Obj)) (s : Shared) (σ : L2.St) (H : Hp) (D : Ends) (first : Bool) (E : Ent) (B : Hp) (ρ : List Slot) (v : V) (u : Value) (d : PyData), Inv X pins σ H s → SR ca X.K E B ρ σ H → RelV v u → Dq B v d → CtlOk ca X.K W E B D (F d ρ) →
    wpAny (model X.prog X.w) X.A (matchCases cases X.env u first) (SP X pins D) X.xe s
def mNil : PyData → FS := fun _ => .nx
theorem m_nil : PCs X ca W [] mNil := ⟨fun pins s σ H D first E B ρ v u d I S r q z => wpAny_matchCases_nil ⟨σ, H, I, z σ B H S (Grow.refl B)⟩⟩
def mStr (y : Str) (s : FS) (F : PyData → FS) : PyData → FS := fun d ρ => if PyData.eqv d (.str y) = true then s ρ else F d ρ
theorem m_str {j} {F : PyData → FS} (hu : X.A.units + 65 < cLine) (hb : PBl X ca W sts s) (hr : PCs X ca W cases F) (hk : PyData.strOk y = true := by decide) : PCs X ca W (⟨.MatchValue (.Constant (.str y) j p) p2, none, sts⟩ :: cases) (mStr y s F) := ⟨fun pins s σ H D first E B ρ v u d I S r q z => by
  refine wpAny_matchCases_cons (wpAny_matchPattern_Value ?_)
  refine thn (pe_str.run pins s σ H (fun v' H' => v' = .str y ∧ H' = H) I ⟨rfl, rfl⟩) fun u2 s1 ⟨v2, H1, I1, r2, e1, e2⟩ => ?_
  subst e1 e2
  refine thn (op_eqQ (X := X) (by omega) pins s1 σ _ v (.str y) u u2 (fun v' H' => v' = .bl (PyData.eqv d (.str y)) ∧ H' = H1) I1 r r2 ⟨d, .str y, Dq.mono S.growH _ _ q, .str _ hk, by simp [PyData.depth], rfl, rfl⟩) fun c s2 ⟨v3, H2, I2, r3, e1, e2⟩ => ?_
  subst e1 e2
  have ec : c = .bool (PyData.eqv d (.str y)) := r3
  subst ec
  refine wpAny_truthy_bool ?_
  unfold mStr at z
  cases hq : PyData.eqv d (.str y) with
  | true =>
    rw [hq, if_pos rfl] at z
    rw [if_pos rfl]
    exact wpAny_assignInOrder_none (hb.run pins s2 σ _ D I2 ⟨E, B, ρ, S, z⟩)
  | false =>
    rw [hq, if_neg Bool.false_ne_true] at z
    rw [if_neg Bool.false_ne_true]
    exact hr.run pins s2 σ _ D false E B ρ v u d I2 S r q z⟩
def mAny (s : FS) : PyData → FS := fun _ ρ => s ρ
theorem m_any (hb : PBl X ca W sts s) : PCs X ca W (⟨.MatchAs none none p, none, sts⟩ :: cases) (mAny s) := ⟨fun pins s σ H D first E B ρ v u d I S r q z => by
  refine wpAny_matchCases_cons (wpAny_matchPattern_Capture ?_)
  exact wpAny_assignInOrder_none (hb.run pins s σ _ D I ⟨E, B, ρ, S, z⟩)⟩
def fMatch (f : FE) (F : PyData → FS) : FS := fun ρ => (f ρ).ctl ρ fun v => match v with
  | .d d => F d ρ
  | _ => .no
theorem s_match {F : PyData → FS} (he : PVa X ca W e f) (hm : PCs X ca W cases F) : PSt X ca W (.Match e cases pos) (fMatch f F) := ⟨fun pins s σ H D I ⟨E, B, ρ, S, z⟩ => by
  refine wpAny_Match (thn (he.run pins s σ H (fun v H1 => ∃ B1, SR ca X.K E B1 ρ σ H1 ∧ Grow B B1 ∧ ∃ d, Dq B1 v d ∧ CtlOk ca X.K W E B1 D (F d ρ)) I ⟨E, B, ρ, S, (CtlOk.ctl z).imp (fun v hv x B1 H1 S1 g1 r1 => ?_) fun _ _ z => z⟩) fun u s1 ⟨v, H1, I1, r1, B1, S1, g1, d, q, z⟩ => ?_)
  · split at hv
    · exact ⟨B1, S1, g1, _, r1, hv.grow g1⟩
    · exact hv.elim
  · exact hm.run pins s1 σ H1 D true E B1 ρ v u d I1 S1 r1 q z⟩
/-! ### never reached -/
def fNo : FS := fun _ => .no
theorem s_no : PSt X ca W st fNo := ⟨fun pins s σ H D I ⟨E, B, ρ, S, z⟩ => z.elim⟩
theorem b_no : PBl X ca W sts fNo := ⟨fun pins s σ H D I ⟨E, B, ρ, S, z⟩ => z.elim⟩
def eNo : FE := fun _ => .no
theorem v_no : PVa X ca W e eNo := ⟨fun pins s σ H Q I ⟨E, B, ρ, S, z⟩ => z.elim⟩
end
end Pu
/-! The pure layer, part 13: defs by name, the end. -/
namespace Pu
open PySem PySem.Spec PyProof.Rows L2
/-! ### a loop over an owned list that only looks -/
section
variable {X : Cx} {ca : Str → Addr} {W : WX} {e c : Expr} {f : FE} {ft : FT} {pos p p1 p2 p3 : Pos} {x y : Str}
def loopT (j : Nat) (c : FT) (r : FE) : List PyData → List Slot → Ctl
  | [], ρ => .nx ρ
  | d :: ds, ρ => (c (ρ.set j (.val (.d d)))).ctl (ρ.set j (.val (.d d))) fun k => if k = true then (r (ρ.set j (.val (.d d)))).ctl (ρ.set j (.val (.d d))) fun v => .rt (.val v) else loopT j c r ds (ρ.set j (.val (.d d)))
def fForT (i j : Nat) (c : FT) (r : FE) : FS := fun ρ => match ρ[i]? with
  | some (.own (.lst ds)) => loopT j c r ds ρ
  | _ => .no
theorem s_forT (i j : Nat) (hp : PassesOwn (model X.prog X.w) X.A X.env X.xe) (hc : PTe X ca W c ft) (he : PVa X ca W e f) (hN : X.N.Nodup) (hij : j ≠ i := by decide) (hi : X.N[i]? = some x := by rfl) (hj : X.N[j]? = some y := by rfl)
    (hv : Vis X.env.scope x := by first | exact Or.inl rfl | exact Or.inr (Or.inl rfl) | exact Or.inr (Or.inr rfl)) (hd : (x == ("__debug__" : Str)) = false := by decide) (hcd : (x == ("__classdict__" : Str)) = false := by decide)
    (hy : Loc X.env.scope y := by first | exact Or.inl rfl | exact Or.inr rfl) (hf : X.fn y = true ∨ X.env.scope.names.lookup y = some .local := by first | exact .inl rfl | exact .inr rfl | assumption)
    (hm : X.calm = true := by rfl) (hs : ∀ z, foldedSetIterable (.Name x p1) X.env z = pure z := by intro _; rfl) : PSt X ca W (.For (.Name y p) (.Name x p1) [.If c [.Return (some e) p2] [] p3] [] pos) (fForT i j ft f) :=
  ps_imp (ps_for hp hm (pi_list (pe_var hi hv hd hcd)) (pg_name hN hj hy hf) (pss_one (ps_if hc (pss_one (ps_ret he)) pss_nil)) hs) fun D σ H ⟨E, B, ρ, S, z⟩ => by
    unfold fForT at z
    split at z
    · rename_i ds ho
      obtain ⟨q, A, h1, h2⟩ := S.ownAt ho
      obtain ⟨_, xs0, h3, h4⟩ := id h2
      refine ⟨_, h1, q, rfl, ⟨xs0, SqL.of h3⟩, fun n m σ' H' => m + n = ds.length ∧ ∃ B' ρ', SR ca X.K E B' ρ' σ' H' ∧ Grow B B' ∧ ρ'[i]? = some (.own (.lst ds)) ∧ σ'[i]? = some (some (.ref q)) ∧ CtlOk ca X.K W E B' D (loopT j ft f (ds.drop n) ρ'),
        ⟨ds.length, by omega, B, ρ, S, Grow.refl _, ho, h1, by simpa using z⟩, fun n m σ' H' ⟨hm', B', ρ', S', g', ho', hs', z'⟩ => ?_⟩
      obtain ⟨q', A', k1, k2⟩ := S'.ownAt ho'
      rw [hs'] at k1; cases k1
      obtain ⟨_, xs, k3, k4⟩ := id k2
      by_cases hn : n < ds.length
      · have hx : n < xs.length := by rw [k4.length]; exact hn
        rw [List.drop_eq_getElem_cons hn] at z'
        unfold loopT at z'
        obtain ⟨v, e1, e2⟩ := k4.get' (List.getElem?_eq_getElem hn)
        refine .inr ⟨⟨xs, v, SqL.of k3, e1⟩, fun σ2 H2 => ∃ B2 ρ2, SR ca X.K E B2 ρ2 σ2 H2 ∧ Grow B B2 ∧ ρ2[i]? = some (.own (.lst ds)) ∧ σ2[i]? = some (some (.ref q)) ∧ CtlOk ca X.K W E B2 D (loopT j ft f (ds.drop (n + 1)) ρ2), fun σ2 H2 w => ⟨m - 1, by omega, by omega, w⟩, fun u H1 hy1 => ?_⟩
        obtain ⟨rfl, hu⟩ := hy1
        have hu' := hu xs (SqL.of k3)
        rw [e1] at hu'; cases hu'
        have S1 : SR ca X.K E B' (ρ'.set j (.val (.d ds[n]))) (σ'.set j (some v)) H1 := S'.setV e2
        refine ⟨E, B', _, S1, (CtlOk.ctl z').imp (fun k hk B2 H2 S2 g2 => ?_) fun _ _ z => z⟩
        cases k with
        | true =>
          rw [if_pos rfl] at hk ⊢
          exact ⟨E, B2, _, S2, (CtlOk.ctl hk).imp (fun w hw t B3 H3 S3 g3 r3 => hw t B3 H3 _ _ S3 r3) fun _ _ z => z⟩
        | false =>
          rw [if_neg Bool.false_ne_true] at hk ⊢
          exact ⟨B2, _, S2, g'.trans g2, by rw [List.getElem?_set_ne hij]; exact ho', by rw [List.getElem?_set_ne hij]; exact hs', hk.grow g2⟩
      · refine .inl ⟨⟨xs, SqL.of k3, by rw [k4.length]; omega⟩, ?_⟩
        rw [List.drop_of_length_le (by omega)] at z'
        exact z' σ' B' H' S' (Grow.refl _)
    · exact z.elim
end
/-! ### facts of the top -/
def obsP (fa : List He.Fa) (fn : List He.DefD) (tp : List (Str × List He.Dv)) (K : PySem.W.Frag) : Bool × He.AlD := (tp.all fun p => He.tupB K p.1 p.2, He.obsD fa fn K)
def valP (fn : List He.DefD) : Bool × He.AlD := (true, He.valD fn)
def SaysP (fa : List He.Fa) (fn : List He.DefD) (tp : List (Str × List He.Dv)) (K : PySem.W.Frag) : Prop := obsP fa fn tp K = valP fn
def obsPG (n : Nat) (fa : List He.Fa) (fn : List He.DefD) (tp : List (Str × List He.Dv)) (g : Addr → Option Obj) : Bool × He.AlD := obsP fa fn tp (He.frG g (He.asD g n))
def hookP (n : Nat) (fa : List He.Fa) (fn : List He.DefD) (tp : List (Str × List He.Dv)) : PySem.W.Hook where
  α := Bool × He.AlD
  obs := fun s => obsPG n fa fn tp s.heap.get?
  val := fun _ => valP fn
  says := fun _ h => ∃ K : PySem.W.Frag, K.In h ∧ SaysP fa fn tp K
  of := fun _ _ e => ⟨_, He.frG_in, e⟩
  keeps := fun _ _ _ ⟨K, hK, c⟩ k => ⟨K, PySem.W.Frag.In.keeps hK k, c⟩
theorem obsPG_eq {n : Nat} {fa : List He.Fa} {fn : List He.DefD} {tp : List (Str × List He.Dv)} {g : Addr → Option Obj} {s : Shared} (h : ∀ a, g a = s.heap.get? a) : obsPG n fa fn tp g = (hookP n fa fn tp).obs s := by
  have e : g = s.heap.get? := funext h
  rw [e] <;> rfl
/-- what a def's proof may use of the top -/
structure Top (K : PySem.W.Frag) (mg : Str → Option Value) (fa : List He.Fa) (fn : List He.DefD) (tp : List (Str × List He.Dv)) : Prop where
  fact : ∀ f ∈ fa, f.ok K = true
  dfs : ∀ d ∈ fn, ∃ fd, FunD K d.name d.qual d.params d.body d.scope (d.dvs K) (d.kws K) (He.fAd K d.at_) fd
  tup : ∀ p ∈ tp, He.tupB K p.1 p.2 = true
  mgl : ∀ x, He.Fa.glo x ∈ fa → mg x = some (.ref (He.ga K x))
  mfr : ∀ x, He.Fa.free x ∈ fa → mg x = none
  mint : ∀ x i, He.Fa.int x i ∈ fa → ∃ t, mg x = some (.int i t)
  mstr : ∀ x z, He.Fa.str x z ∈ fa → ∃ t, mg x = some (.str z t)
theorem Top.of {K : PySem.W.Frag} {h : Heap} {mg : Str → Option Value} {fa : List He.Fa} {fn : List He.DefD} {tp : List (Str × List He.Dv)} (X : K.In h) (G : h.Ns mainGlobals mg) (c : SaysP fa fn tp K) : Top K mg fa fn tp := by
  have c1 : tp.all (fun p => He.tupB K p.1 p.2) = true := congrArg (fun z : Bool × He.AlD => z.1) c
  have c2 : He.SaysD fa fn K := congrArg (fun z : Bool × He.AlD => z.2) c
  have ff : ∀ f ∈ fa, f.ok K = true := fun f hf => by
    obtain ⟨i, hi⟩ := List.getElem?_of_mem hf
    exact c2.fact i hi
  exact ⟨ff, fun d hd => by
    obtain ⟨i, hi⟩ := List.getElem?_of_mem hd
    exact c2.def_ i hi, fun p hp => List.all_eq_true.mp c1 p hp, fun x hx => He.glo_ok X G (ff _ hx), fun x hx => He.free_ok X G (ff _ hx), fun x i hx => He.int_ok X G (ff _ hx), fun x z hx => He.str_ok X G (ff _ hx)⟩
section
variable {K : PySem.W.Frag} {mg : Str → Option Value} {fa : List He.Fa} {fn : List He.DefD} {tp : List (Str × List He.Dv)}
theorem Top.gl (C : Top K mg fa fn tp) {x : Str} (i : Nat) (h : fa[i]? = some (.glo x) := by rfl) : mg x = some (.ref (He.ga K x)) := C.mgl x (List.mem_of_getElem? h)
theorem Top.fr (C : Top K mg fa fn tp) {x : Str} (i : Nat) (h : fa[i]? = some (.free x) := by rfl) : mg x = none := C.mfr x (List.mem_of_getElem? h)
theorem Top.int (C : Top K mg fa fn tp) {x : Str} {z : Int} (i : Nat) (h : fa[i]? = some (.int x z) := by rfl) : ∃ t, mg x = some (.int z t) := C.mint x z (List.mem_of_getElem? h)
theorem Top.str (C : Top K mg fa fn tp) {x z : Str} (i : Nat) (h : fa[i]? = some (.str x z) := by rfl) : ∃ t, mg x = some (.str z t) := C.mstr x z (List.mem_of_getElem? h)
theorem Top.def_ (C : Top K mg fa fn tp) {d : He.DefD} (i : Nat) (h : fn[i]? = some d := by rfl) : ∃ fd, FunD K d.name d.qual d.params d.body d.scope (d.dvs K) (d.kws K) (He.fAd K d.at_) fd := C.dfs d (List.mem_of_getElem? h)
theorem Top.tupT (C : Top K mg fa fn tp) {x : Str} {vs : List He.Dv} (i : Nat) (h : tp[i]? = some (x, vs) := by rfl) : ∀ H, SqT K H (He.ga K x) (vs.map (He.Dv.v K)) := fun H => He.tupB_ok (C.tup _ (List.mem_of_getElem? h)) H
end
section
variable {X : Cx} {ca : Str → Addr} {W : WX} {pos : Pos} {x : Str}
theorem v_gint {i : Int} (hm : ∃ t, X.mg x = some (.int i t)) (hg : Gl X x := by rfl) (hd : (x == ("__debug__" : Str)) = false := by decide) : PVa X ca W (.Name x pos) (eC (.int i)) := by
  obtain ⟨t, h⟩ := hm
  exact v_glob (v := .int i) hg h ⟨t, rfl⟩ (fun _ => .int _) hd
theorem v_gstr {z : Str} (hm : ∃ t, X.mg x = some (.str z t)) (hk : PyData.strOk z = true := by exact strOk_ofString _) (hg : Gl X x := by rfl) (hd : (x == ("__debug__" : Str)) = false := by decide) : PVa X ca W (.Name x pos) (eC (.str z)) := by
  obtain ⟨t, h⟩ := hm
  exact v_glob (v := .str z) hg h ⟨t, rfl⟩ (fun _ => .str _ hk) hd
theorem tk0 {X : Cx} : Takes X W0 := fun u s' ⟨a, B, sI, pins, σ, H, cls, d, e, I, nb, up, sky, na, os, ag, w⟩ => w.elim
end
section
variable {P : Program} {w : World} {K : PySem.W.Frag} {mg : Str → Option Value} {base : Heap} {ca : Str → Addr}
theorem fnok_mk {x qual : Str} {params : Arguments} {body : List Stmt} {scope : Scope} {fd : FuncData} {N ps : List Str} {k : Nat} {s : FS} {f : Addr} (F : FunD K x qual params body scope [] [] f fd) (S : FnScope N ps scope)
    (hbody : ∀ (cdv : Value) (A : Around) (outer : List Env) (sh : Shared) (H : Hp) (Z : XK), Room k (A.deeper (envOfC qual scope sh.heap.objs.size f cdv)) → Takes (cxOf (L2.CX P w) P w K mg base N qual scope f cdv A outer sh H Z) (fun cls d _ H' => Z cls d H') →
      PBl (cxOf (L2.CX P w) P w K mg base N qual scope f cdv A outer sh H Z) ca (fun cls d _ H' => Z cls d H') body s) : FnOk P w K mg base (L2.CX P w) (k + 1) f fd ps (spG ca K ps.length (runF N.length s)) := by
  refine F.ok S (fun vs H Q Z h => h.1) (fun cdv A outer sh H vs Q Z hr h => ?_)
  refine ⟨_, hbody cdv A outer sh H Z hr (takes_of rfl rfl rfl rfl), ?_⟩
  obtain ⟨hl, B, ds, sub, r, h⟩ := h
  refine ⟨⟨H, B, []⟩, B, entry N.length ds, entry_sr sub r, ?_⟩
  unfold runF at h
  cases q : s (entry N.length ds) with
  | nx ρ => rw [q] at h; exact fun σ B' H' S' _ => (show RetOk ca K H B Q (.val (.d .none)) from h) .non B' H' S'.bare .non
  | bk ρ => rw [q] at h; exact h.elim
  | ct ρ => rw [q] at h; exact h.elim
  | rt rr =>
    rw [q] at h
    cases rr with
    | val v => exact fun x B' H' ρ σ S' r' => (show RetOk ca K H B Q (.val v) from h) x B' H' S'.bare r'
    | own o => exact fun x B' H' ρ σ S' => (show RetOk ca K H B Q (.own o) from h) x B' H' S'.bareO
  | ex c fs ρ => rw [q] at h; exact fun σ dx ws B' H' S' e kd => h dx ws B' H' S'.bare e kd
  | no => rw [q] at h; exact h.elim
theorem def_mk {x qual : Str} {params : Arguments} {body : List Stmt} {scope : Scope} {fd : FuncData} {N ps : List Str} {k : Nat} {s : FS} (F : FunD K x qual params body scope [] [] (ca x) fd) (S : FnScope N ps scope) (gl : mg x = some (.ref (ca x)))
    (hb : ∀ (kV doc pm : Value) (an : Option Addr) (cdv ct : Value) (us : List Value), us.length = ps.length → bindArgs (PySem.W.fnOf x qual params body scope .none kV doc pm an cdv ct) ⟨us, []⟩ = pure (ps.zip us))
    (hbody : ∀ (cdv : Value) (A : Around) (outer : List Env) (sh : Shared) (H : Hp) (Z : XK), Room k (A.deeper (envOfC qual scope sh.heap.objs.size (ca x) cdv)) → Takes (cxOf (L2.CX P w) P w K mg base N qual scope (ca x) cdv A outer sh H Z) (fun cls d _ H' => Z cls d H') →
      PBl (cxOf (L2.CX P w) P w K mg base N qual scope (ca x) cdv A outer sh H Z) ca (fun cls d _ H' => Z cls d H') body s) : Def P w K mg base ca (k + 1) x ps.length (runF N.length s) :=
  ⟨⟨fd, ps, fnok_mk F S hbody, F.bindsN hb⟩, gl, F.kp⟩
theorem room_hu {k : Nat} {A : Around} (hr : Room k A) : A.units + 65 < cLine := by have := hr.un; omega
/-- more than any loop's turns -/
def fuel : Nat := 1000000
/-- the law answers True -/
def LawOk (G : List PV → Out Ret) : Prop := ∀ ns : List Int, ns.length ≤ 63 → (∀ z ∈ ns, Builtin.Int.intBits z ≤ 1048576) → G [.scr ns] = .ok (.val (.d (.bool true)))
theorem law_sp {G : List PV → Out Ret} (L : LawOk G) {H : Hp} {a : Addr} {ns : List Int} (hl : ns.length ≤ 63) (hb : ∀ z ∈ ns, Builtin.Int.intBits z ≤ 1048576) (hS : SqL K H a (ns.map V.int)) : spG ca K 1 G [.ref a] H (fun v _ => v = .bl true) fun _ _ _ => False := by
  refine ⟨rfl, H, [.scr ns], fun _ _ e => e, .cons ⟨a, rfl, hS⟩ .nil, ?_⟩
  rw [L ns hl hb]
  exact fun x B' H' S r => by cases r; rfl
end
theorem FunD.same {K : PySem.W.Frag} {x qual x' qual' : Str} {params params' : Arguments} {body body' : List Stmt} {scope scope' : Scope} {d1 d2 : List V} {k1 k2 : List (Str × V)} {f : Addr} {fd fd' : FuncData} (F : FunD K x qual params body scope d1 k1 f fd) (F' : FunD K x' qual' params' body' scope' d2 k2 f fd') : fd = fd' := by
  obtain ⟨_, _, _, _, _, _, _, _, _, _, _, l, _⟩ := F.ex
  obtain ⟨_, _, _, _, _, _, _, _, _, _, _, l', _⟩ := F'.ex
  rw [l] at l'
  cases l'
  rfl
/-- the end: from the law's own def and the law's answer -/
theorem law_end {l : PySem.W.OpenLaw} {k : Nat} {q : Program} {loose : List Str} {XP : (Str → Option Value) → Heap → Prop} {d : DefRec} {fa : List He.Fa} {fn : List He.DefD} {tp : List (Str × List He.Dv)} {params : Arguments} {body : List Stmt} {scope : Scope} {G : List PV → Out Ret} (i j : Nat)
    (hn : l.most = some 63) (hdf : d.params.defaults = []) (hr : Room k callerA) (hd : d.name = ("law" : Str)) (hdl : fn[i]? = some ⟨(("law" : Str), none), "law", "law", params, body, scope, [], []⟩) (hfa : fa[j]? = some (.glo ("law" : Str)))
    (hb : ∀ (kV doc pm : Value) (an : Option Addr) (cdv ct : Value) (us : List Value), us.length = [("script" : Str)].length → bindArgs (PySem.W.fnOf "law" "law" params body scope .none kV doc pm an cdv ct) ⟨us, []⟩ = pure ([("script" : Str)].zip us))
    (D : ∀ (w : World) (K : PySem.W.Frag) (mg : Str → Option Value) (base : Heap), Top K mg fa fn tp → ∃ fd, FunD K "law" "law" params body scope [] [] (He.ga K "law") fd ∧ FnOk l.prog w K mg base (L2.CX l.prog w) k (He.ga K "law") fd ["script"] (spG (He.ga K) K 1 G)) (L : LawOk G) :
    PySem.W.WalkO q loose XP (hookP 4 fa fn tp).says l.row.toRowW d [] (fun f vs => PySem.call f vs) := by
  refine LamX.walk_ofTsE (l := l) (n := 63) (k := k) (x := "script") (CX := fun w => L2.CX l.prog w) hn (by decide) hdf hr ?F (fun w H s e s' ⟨_, _, _, _, _, _, _, _, _, _, _, _, z⟩ => z)
  intro w mg f h Y G0 hmg
  obtain ⟨K, KX, c⟩ := Y
  have T : Top K mg fa fn tp := Top.of KX G0 c
  obtain ⟨fd, F⟩ := T.def_ i hdl
  have F' : FunD K "law" "law" params body scope [] [] (He.ga K "law") fd := F
  rw [hd, T.gl j hfa] at hmg
  cases hmg
  refine ⟨K, KX, fd, [], spG (He.ga K) K 1 G, by simp, by simp, by simp, fun s u => F'.bindsA (ps := ["script"]) hb s [u] rfl, fun H a ns hl hbits _ hS => law_sp L hl hbits hS, fun base _ _ _ => ?_⟩
  obtain ⟨fd', F2, ok⟩ := D w K mg base T
  cases FunD.same F' F2
  exact ok
end Pu
/-! The pure layer, part 14: reading the functions. -/
namespace Pu
open PySem PySem.Spec PyProof.Rows L2
section
variable {ρ : List Slot} {f g fa fb fc fk fv fd : FE} {fs : FA} {t u c : FT} {s r : FS} {fo : FO} {i j n : Nat}
@[simp] theorem out_ok {α β : Type} (a : α) (k : α → Out β) : (Out.ok a >>= k) = k a := rfl
@[simp] theorem out_no {α β : Type} (k : α → Out β) : ((Out.no : Out α) >>= k) = Out.no := rfl
@[simp] theorem out_err {α β : Type} (e : Str) (z : List (Str × PyData)) (k : α → Out β) : ((Out.err e z : Out α) >>= k) = Out.err e z := rfl
theorem bind_congr' {α β : Type} {o o' : Out α} {k : α → Out β} (h : o = o') : (o >>= k) = (o' >>= k) := by rw [h]
theorem ctl_congr {α : Type} {o o' : Out α} {k : α → Ctl} (h : o = o') : o.ctl ρ k = o'.ctl ρ k := by rw [h]
/-- go on where the first runs through -/
def thn (c : Ctl) (k : FS) : Ctl := match c with
  | .nx ρ => k ρ
  | c => c
theorem thn_congr {c c' : Ctl} {k : FS} (h : c = c') : thn c k = thn c' k := by rw [h]
@[simp] theorem thn_nx (k : FS) : thn (.nx ρ) k = k ρ := rfl
@[simp] theorem thn_rt (x : Ret) (k : FS) : thn (.rt x) k = .rt x := rfl
@[simp] theorem thn_ct (k : FS) : thn (.ct ρ) k = .ct ρ := rfl
@[simp] theorem thn_bk (k : FS) : thn (.bk ρ) k = .bk ρ := rfl
@[simp] theorem thn_no (k : FS) : thn .no k = .no := rfl
@[simp] theorem thn_ex (e : Str) (z : List (Str × PyData)) (k : FS) : thn (.ex e z ρ) k = .ex e z ρ := rfl
/-- by a test -/
def ifc (o : Out Bool) (ρ : List Slot) (s r : FS) : Ctl := match o with
  | .ok true => s ρ
  | .ok false => r ρ
  | .err c fs => .ex c fs ρ
  | .no => .no
theorem ifc_congr {o o' : Out Bool} {s r : FS} (h : o = o') : ifc o ρ s r = ifc o' ρ s r := by rw [h]
@[simp] theorem ifc_true (s r : FS) : ifc (.ok true) ρ s r = s ρ := rfl
@[simp] theorem ifc_false (s r : FS) : ifc (.ok false) ρ s r = r ρ := rfl
@[simp] theorem ifc_no (s r : FS) : ifc .no ρ s r = .no := rfl
def ifo {α : Type} (o : Out Bool) (ρ : List Slot) (s r : List Slot → Out α) : Out α := match o with
  | .ok true => s ρ
  | .ok false => r ρ
  | .err c fs => .err c fs
  | .no => .no
theorem ifo_congr {α : Type} {o o' : Out Bool} {s r : List Slot → Out α} (h : o = o') : ifo o ρ s r = ifo o' ρ s r := by rw [h]
@[simp] theorem ifo_true {α : Type} (s r : List Slot → Out α) : ifo (.ok true) ρ s r = s ρ := rfl
@[simp] theorem ifo_false {α : Type} (s r : List Slot → Out α) : ifo (.ok false) ρ s r = r ρ := rfl
@[simp] theorem ifo_no {α : Type} (s r : List Slot → Out α) : ifo .no ρ s r = .no := rfl
@[simp] theorem ctl_ok {α : Type} (a : α) (k : α → Ctl) : (Out.ok a).ctl ρ k = k a := rfl
@[simp] theorem ctl_no {α : Type} (k : α → Ctl) : (Out.no : Out α).ctl ρ k = .no := rfl
@[simp] theorem ctl_err {α : Type} (e : Str) (z : List (Str × PyData)) (k : α → Ctl) : (Out.err e z : Out α).ctl ρ k = .ex e z ρ := rfl
def tboo : PV → Out Bool
  | .d (.bool k) => .ok k
  | _ => .no
@[simp] theorem tboo_b (k : Bool) : tboo (.d (.bool k)) = .ok k := rfl
@[simp] theorem ap_eC (d : PyData) : eC d ρ = .ok (.d d) := rfl
@[simp] theorem ap_eKt (d : List PyData) : eKt d ρ = .ok (.kt d) := rfl
@[simp] theorem ap_eFn (x : Str) : eFn x ρ = .ok (.fn x) := rfl
@[simp] theorem ap_eVar : eVar i ρ = (match ρ[i]? with | some (.val v) => .ok v | some (.own o) => .ok o.bor | _ => .no) := rfl
@[simp] theorem ap_eVal : eVal i ρ = (match ρ[i]? with | some (.val v) => .ok v | _ => .no) := rfl
@[simp] theorem ap_aNil : aNil ρ = .ok [] := rfl
@[simp] theorem ap_aCons : aCons f fs ρ = (f ρ >>= fun v => fs ρ >>= fun vs => .ok (v :: vs)) := rfl
@[simp] theorem ap_e2 (p : PV → PV → Out PV) : e2 p fa fb ρ = (fa ρ >>= fun v => fb ρ >>= fun w => p v w) := rfl
@[simp] theorem ap_eC2 (p : PV → PV → Out Bool) : eC2 p fa fb ρ = (fa ρ >>= fun v => fb ρ >>= fun w => p v w) := rfl
@[simp] theorem ap_eCh (p q : PV → PV → Out Bool) : eCh p q fa fb fc ρ = (fa ρ >>= fun u => fb ρ >>= fun v => p u v >>= fun k => if k = true then fc ρ >>= fun w => q v w else .ok false) := rfl
@[simp] theorem ap_eT : eT t ρ = (t ρ >>= fun k => .ok (.d (.bool k))) := rfl
@[simp] theorem ap_eTr : eTr f ρ = (f ρ >>= truP) := rfl
@[simp] theorem ap_eAnd : eAnd t u ρ = ifo (t ρ) ρ u (fun _ => .ok false) := by
  show (t ρ >>= _) = _
  cases t ρ with
  | ok k => cases k <;> rfl
  | _ => rfl
@[simp] theorem ap_eOr : eOr t u ρ = ifo (t ρ) ρ (fun _ => .ok true) u := by
  show (t ρ >>= _) = _
  cases t ρ with
  | ok k => cases k <;> rfl
  | _ => rfl
@[simp] theorem ap_eNot : eNot t ρ = (t ρ >>= fun k => .ok (!k)) := rfl
@[simp] theorem ap_eAndV : eAndV f g ρ = (f ρ >>= fun v => tboo v >>= fun k => ifo (.ok k) ρ g (fun _ => .ok (.d (.bool false)))) := by
  show (f ρ >>= _) = _
  congr 1
  funext v
  unfold tboo
  split <;> simp_all <;> rfl
@[simp] theorem ap_eOrV : eOrV f g ρ = (f ρ >>= fun v => tboo v >>= fun k => ifo (.ok k) ρ (fun _ => .ok (.d (.bool true))) g) := by
  show (f ρ >>= _) = _
  congr 1
  funext v
  unfold tboo
  split <;> simp_all <;> rfl
@[simp] theorem ap_eNotV : eNotV f ρ = (f ρ >>= fun v => match v with | .d (.bool k) => .ok (.d (.bool (!k))) | _ => .no) := rfl
@[simp] theorem ap_eIf : eIf t f g ρ = ifo (t ρ) ρ f g := by
  show (t ρ >>= _) = _
  cases t ρ with
  | ok k => cases k <;> rfl
  | _ => rfl
@[simp] theorem ap_eNeg : eNeg f ρ = (f ρ >>= fun v => match v with | .d (.int i) => .ok (.d (.int (-i))) | _ => .no) := rfl
@[simp] theorem ap_eTup : eTup fs ρ = (fs ρ >>= fun vs => datas vs >>= fun ds => if ds.length ≤ big then .ok (.d (.tuple ds)) else .no) := rfl
@[simp] theorem ap_oLst : oLst fs ρ = (fs ρ >>= fun vs => datas vs >>= fun ds => if ds.length ≤ big then .ok (.lst ds) else .no) := rfl
@[simp] theorem ap_fz : fz fo ρ = (fo ρ >>= fun o => .ok o.frz) := rfl
@[simp] theorem ap_pNone : pNone ρ = .ok none := rfl
@[simp] theorem ap_pSome : pSome f ρ = (f ρ >>= fun v => match v with | .d (.int i) => .ok (some i) | _ => .no) := rfl
@[simp] theorem ap_eSl (lo hi : FP) : eSl f lo hi ρ = (f ρ >>= fun v => lo ρ >>= fun l => hi ρ >>= fun u => pSl v l u) := rfl
@[simp] theorem ap_oSl (lo hi : FP) : oSl f lo hi ρ = (f ρ >>= fun v => lo ρ >>= fun l => hi ρ >>= fun u => match v with | .d (.list ds) => .ok (.lst (cut ds l u)) | _ => .no) := rfl
@[simp] theorem ap_eN (p : List PV → Out PV) : eN p fs ρ = (fs ρ >>= p) := rfl
@[simp] theorem ap_oN (p : List PV → Out OV) : oN p fs ρ = (fs ρ >>= p) := rfl
@[simp] theorem ap_eIsi (T : String) : eIsi T f ρ = (f ρ >>= pIsi T) := rfl
@[simp] theorem ap_eCall (G : List PV → Out Ret) : eCall n G fs ρ = (fs ρ >>= fun vs => if vs.length = n then (G vs >>= fun r => .ok r.pv) else .no) := rfl
@[simp] theorem ap_oCall (G : List PV → Out Ret) : oCall n G fs ρ = (fs ρ >>= fun vs => if vs.length = n then (G vs >>= fun r => match r with | .own o => .ok o | .val _ => .no) else .no) := rfl
@[simp] theorem ap_eGet : eGet fd fk fv ρ = (fd ρ >>= fun o => if isDict o = true then fk ρ >>= fun k => fv ρ >>= fun v => match getP o k with | some (some d) => .ok (.d d) | some none => .ok v | none => .no else .no) := rfl
@[simp] theorem ap_oNew (o : OV) : oNew o ρ = .ok o := rfl
@[simp] theorem ap_oLc (vs : List Nat) (fi : FI) (g : FG) : oLc vs fi g t f ρ = (fi ρ >>= fun ds => if noOwn vs ρ = true ∧ ltAll vs ρ = true then (lcL g t f ds (unset vs ρ) >>= fun ys => if ys.length ≤ big then .ok (.lst ys) else .no) else .no) := rfl
@[simp] theorem ap_ttYes : ttYes ρ = .ok true := rfl
@[simp] theorem ap_fNil : fNil ρ = .nx ρ := rfl
@[simp] theorem ap_fPass : fPass ρ = .nx ρ := rfl
@[simp] theorem ap_fCont : fCont ρ = .ct ρ := rfl
@[simp] theorem ap_fBrk : fBrk ρ = .bk ρ := rfl
@[simp] theorem ap_fNo : fNo ρ = .no := rfl
@[simp] theorem ap_fSeq : fSeq s r ρ = thn (s ρ) r := rfl
@[simp] theorem ap_fIf : fIf t s r ρ = ifc (t ρ) ρ s r := by
  show (t ρ).ctl ρ _ = _
  cases t ρ with
  | ok k => cases k <;> rfl
  | _ => rfl
@[simp] theorem ap_fDo : fDo f ρ = (f ρ).ctl ρ fun _ => .nx ρ := rfl
@[simp] theorem ap_fRet : fRet f ρ = (f ρ).ctl ρ fun v => .rt (.val v) := rfl
@[simp] theorem ap_fRetO : fRetO fo ρ = (fo ρ).ctl ρ fun v => .rt (.own v) := rfl
@[simp] theorem ap_fRetN : fRetN ρ = .rt (.val (.d .none)) := rfl
@[simp] theorem ap_fRetV : fRetV i ρ = (match ρ[i]? with | some (.val v) => .rt (.val v) | some (.own o) => .rt (.own o) | _ => .no) := rfl
@[simp] theorem ap_fSet : fSet i f ρ = (f ρ).ctl ρ fun v => .nx (ρ.set i (.val v)) := rfl
@[simp] theorem ap_fSetO : fSetO i fo ρ = (fo ρ).ctl ρ fun v => .nx (ρ.set i (.own v)) := rfl
@[simp] theorem ap_fAsg (g : FG) : fAsg g f ρ = (f ρ).ctl ρ fun v => match v with | .d d => (match g d ρ with | some ρ' => .nx ρ' | none => .no) | _ => .no := rfl
@[simp] theorem ap_gN (d : PyData) : gN i d ρ = some (ρ.set i (.val (.d d))) := rfl
@[simp] theorem ap_gsNil : gsNil [] ρ = some ρ := rfl
@[simp] theorem ap_gsCons (g : FG) (r : FGs) (d : PyData) (ds : List PyData) : gsCons g r (d :: ds) ρ = (g d ρ).bind fun ρ' => r ds ρ' := rfl
@[simp] theorem ap_gT (r : FGs) (ds : List PyData) : gT n r (.tuple ds) ρ = if ds.length = n then r ds ρ else none := rfl
@[simp] theorem ap_fApp : fApp i f ρ = (match ρ[i]? with
  | some (.own (.lst ds)) => (f ρ).ctl ρ fun v => (match v with
    | .d d => if ds.length < big then .nx (ρ.set i (.own (.lst (ds ++ [d])))) else .no
    | _ => .no)
  | _ => .no) := rfl
@[simp] theorem ap_fExt : fExt i f ρ = (match ρ[i]? with
  | some (.own (.lst ds)) => (f ρ).ctl ρ fun v => (match v with
    | .d (.list es) => if ds.length + es.length ≤ big then .nx (ρ.set i (.own (.lst (ds ++ es)))) else .no
    | _ => .no)
  | _ => .no) := rfl
@[simp] theorem ap_fFor (fi : FI) (g : FG) : fFor fi g s ρ = (fi ρ).ctl ρ fun ds => loopL g s ds ρ := rfl
@[simp] theorem ap_loopL_nil (g : FG) : loopL g s [] ρ = .nx ρ := rfl
theorem loopL_cons (g : FG) (d : PyData) (ds : List PyData) : loopL g s (d :: ds) ρ = (match g d ρ with
    | none => .no
    | some ρ1 => match s ρ1 with
      | .nx ρ2 => loopL g s ds ρ2
      | .ct ρ2 => loopL g s ds ρ2
      | .bk ρ2 => .nx ρ2
      | c => c) := rfl
@[simp] theorem ap_iSeq : iSeq f ρ = (f ρ >>= fun v => match v with | .d (.list ds) => .ok ds | _ => .no) := rfl
@[simp] theorem ap_iTpl : iTpl f ρ = (f ρ >>= fun v => match v with | .d (.tuple ds) => .ok ds | .kt ds => .ok ds | _ => .no) := rfl
@[simp] theorem ap_iSig : iSig f ρ = (f ρ >>= fun v => match v with | .d (.str x) => .ok (signs x) | _ => .no) := rfl
@[simp] theorem ap_iEnu : iEnu f ρ = (f ρ >>= fun v => match v with | .d (.list ds) => .ok (enumD ds) | _ => .no) := rfl
@[simp] theorem ap_iRevL : iRevL f ρ = (f ρ >>= fun v => match v with | .d (.list ds) => .ok ds.reverse | _ => .no) := rfl
@[simp] theorem ap_iZip2 : iZip2 f g ρ = (f ρ >>= fun v => g ρ >>= fun w => match seqs v w with | some (_, ds, es) => .ok (zipD ds es) | none => .no) := rfl
@[simp] theorem ap_iRng1 : iRng1 f ρ = (f ρ >>= fun v => match v with | .d (.int j) => if rngOk j = true then .ok (rangeD 0 j.toNat) else .no | _ => .no) := rfl
@[simp] theorem ap_iRng2 : iRng2 f g ρ = (f ρ >>= fun v => g ρ >>= fun w => match v, w with | .d (.int i), .d (.int j) => if rngOk i = true ∧ rngOk j = true then .ok (rangeD i (j - i).toNat) else .no | _, _ => .no) := rfl
@[simp] theorem ap_fFrz : fFrz i s ρ = (match ρ[i]? with | some (.own o) => s (ρ.set i (.val o.frz)) | _ => s ρ) := rfl
@[simp] theorem ap_fMatch (F : PyData → FS) : fMatch f F ρ = (f ρ).ctl ρ fun v => match v with | .d d => F d ρ | _ => .no := rfl
@[simp] theorem ap_mStr (y : Str) (F : PyData → FS) (d : PyData) : mStr y s F d ρ = if PyData.eqv d (.str y) = true then s ρ else F d ρ := rfl
@[simp] theorem ap_mAny (d : PyData) : mAny s d ρ = s ρ := rfl
@[simp] theorem ap_mNil (d : PyData) : mNil d ρ = .nx ρ := rfl
@[simp] theorem ap_fForK (g : FG) : fForK i g s ρ = (match ρ[i]? with
  | some (.val (.dK kvs)) => noEx (loopL g s (keysD kvs) ρ)
  | some (.val (.dT kvs)) => noEx (loopL g s (keysT kvs) ρ)
  | _ => .no) := rfl
@[simp] theorem ap_fForT : fForT i j c f ρ = (match ρ[i]? with | some (.own (.lst ds)) => loopT j c f ds ρ | _ => .no) := rfl
@[simp] theorem ap_fWhile (m : List Slot → Nat) : fWhile m c s ρ = loopW c s (m ρ) ρ := rfl
theorem run_ap (ds : List PV) : runF n s ds = (s (entry n ds)).ret := rfl
@[simp] theorem ret_nx : (Ctl.nx ρ).ret = .ok (.val (.d .none)) := rfl
@[simp] theorem ret_rt (r : Ret) : (Ctl.rt r).ret = .ok r := rfl
@[simp] theorem ret_no : Ctl.no.ret = .no := rfl
@[simp] theorem ret_ex (e : Str) (z : List (Str × PyData)) : (Ctl.ex e z ρ).ret = .err e z := rfl
@[simp] theorem pv_val (v : PV) : (Ret.val v).pv = v := rfl
@[simp] theorem pv_own (o : OV) : (Ret.own o).pv = o.frz := rfl
@[simp] theorem frz_lst (xs : List PyData) : (OV.lst xs).frz = .d (.list xs) := rfl
@[simp] theorem bor_lst (xs : List PyData) : (OV.lst xs).bor = .d (.list xs) := rfl
@[simp] theorem bor_dK (xs : List (Key × PyData)) : (OV.dK xs).bor = .dK xs := rfl
@[simp] theorem bor_dT (xs : List (List Key × PyData)) : (OV.dT xs).bor = .dT xs := rfl
@[simp] theorem frz_dK (xs : List (Key × PyData)) : (OV.dK xs).frz = .dK xs := rfl
@[simp] theorem frz_dT (xs : List (List Key × PyData)) : (OV.dT xs).frz = .dT xs := rfl
@[simp] theorem frz_mK (xs : List (Key × List PyData)) : (OV.mK xs).frz = .dK (inL xs) := rfl
@[simp] theorem frz_mT (xs : List (List Key × List PyData)) : (OV.mT xs).frz = .dT (inL xs) := rfl
@[simp] theorem bor_mK (xs : List (Key × List PyData)) : (OV.mK xs).bor = .kyK (xs.map Prod.fst) := rfl
@[simp] theorem bor_mT (xs : List (List Key × List PyData)) : (OV.mT xs).bor = .kyT (xs.map Prod.fst) := rfl
@[simp] theorem datas_nil : datas [] = .ok [] := rfl
@[simp] theorem datas_cons (x : PyData) (r : List PV) : datas (.d x :: r) = (datas r >>= fun xs => .ok (x :: xs)) := rfl
@[simp] theorem add_int (i j : Int) : pAdd (.d (.int i)) (.d (.int j)) = .ok (.d (.int (i + j))) := rfl
@[simp] theorem sub_int' (i j : Int) : pSub (.d (.int i)) (.d (.int j)) = .ok (.d (.int (i - j))) := rfl
theorem mul_int' {i j : Int} (h : mulOk i j = true) : pMul (.d (.int i)) (.d (.int j)) = .ok (.d (.int (i * j))) := by show (if mulOk i j = true then _ else _) = _; rw [if_pos h]
@[simp] theorem lt_int (i j : Int) : pLt (.d (.int i)) (.d (.int j)) = .ok (decide (i < j)) := rfl
@[simp] theorem le_int (i j : Int) : pLe (.d (.int i)) (.d (.int j)) = .ok (decide (i ≤ j)) := rfl
@[simp] theorem gt_int (i j : Int) : pGt (.d (.int i)) (.d (.int j)) = .ok (decide (j < i)) := rfl
@[simp] theorem ge_int (i j : Int) : pGe (.d (.int i)) (.d (.int j)) = .ok (decide (j ≤ i)) := rfl
@[simp] theorem eq_int (i j : Int) : pEq (.d (.int i)) (.d (.int j)) = .ok (decide (i = j)) := by
  simp [pEq, PyData.depth, PyData.eqv]
  by_cases h : i = j <;> simp [h]
@[simp] theorem ne_int (i j : Int) : pNe (.d (.int i)) (.d (.int j)) = .ok (!decide (i = j)) := by
  simp [pNe, PyData.depth, PyData.eqv]
  by_cases h : i = j <;> simp [h]
theorem ix_list {ds : List PyData} {i : Int} {d : PyData} (h : atI ds i = some d) : pIx (.d (.list ds)) (.d (.int i)) = .ok (.d d) := by show (match atI ds i with | some d => Out.ok (PV.d d) | none => Out.no) = _; rw [h]
theorem ix_tup {ds : List PyData} {i : Int} {d : PyData} (h : atI ds i = some d) : pIx (.d (.tuple ds)) (.d (.int i)) = .ok (.d d) := by show (match atI ds i with | some d => Out.ok (PV.d d) | none => Out.no) = _; rw [h]
@[simp] theorem ix_t0 (a : PyData) (r : List PyData) : pIx (.d (.tuple (a :: r))) (.d (.int 0)) = .ok (.d a) := ix_tup (by simp [atI, ixN])
end
end Pu
/-! The pure layer, part 15: loops, comprehensions. -/
namespace Pu
open PySem PySem.Spec PyProof.Rows L2
section
variable {ρ : List Slot} {g : FG} {s : FS} {t : FT} {f : FE} {α β : Type}
/-- a comprehension over things that read as F x -/
theorem lcL_map (enc : α → PyData) (b : α → Bool) (F : α → PyData) : ∀ (xs : List α), (∀ x ∈ xs, ∃ ρ1, g (enc x) ρ = some ρ1 ∧ t ρ1 = .ok (b x) ∧ (b x = true → f ρ1 = .ok (.d (F x)))) → lcL g t f (xs.map enc) ρ = .ok ((xs.filter b).map F)
  | [], _ => rfl
  | x :: xs, h => by
    obtain ⟨ρ1, h1, h2, h3⟩ := h x (by simp)
    have ih := lcL_map enc b F xs fun y hy => h y (by simp [hy])
    rw [List.map_cons]
    unfold lcL
    rw [h1]
    simp only [h2, Out.quiet, out_ok]
    cases hb : b x with
    | true =>
      rw [if_pos rfl, h3 hb]
      simp only [Out.quiet, out_ok, ih, List.filter_cons, hb, if_true, List.map_cons]
    | false =>
      rw [if_neg Bool.false_ne_true]
      simp only [ih, List.filter_cons, hb, Bool.false_eq_true, if_false]
theorem lcL_all (enc : α → PyData) (F : α → PyData) (xs : List α) (h : ∀ x ∈ xs, ∃ ρ1, g (enc x) ρ = some ρ1 ∧ f ρ1 = .ok (.d (F x))) : lcL g ttYes f (xs.map enc) ρ = .ok (xs.map F) := by
  rw [lcL_map (t := ttYes) enc (fun _ => true) F xs fun x hx => by
    obtain ⟨ρ1, h1, h2⟩ := h x hx
    exact ⟨ρ1, h1, rfl, fun _ => h2⟩]
  rw [List.filter_eq_self.mpr (fun _ _ => rfl)]
/-- a loop whose body goes on -/
theorem loop_fold (enc : α → PyData) (I : β → List Slot → Prop) (step : β → α → β) : ∀ (xs : List α) (a : β) (ρ : List Slot), I a ρ → (∀ x ∈ xs, ∀ a ρ, I a ρ → ∃ ρ1 ρ2, g (enc x) ρ = some ρ1 ∧ (s ρ1 = .nx ρ2 ∨ s ρ1 = .ct ρ2) ∧ I (step a x) ρ2) →
    ∃ ρ', loopL g s (xs.map enc) ρ = .nx ρ' ∧ I (xs.foldl step a) ρ'
  | [], a, ρ, h, _ => ⟨ρ, rfl, h⟩
  | x :: xs, a, ρ, h, st => by
    obtain ⟨ρ1, ρ2, h1, h2, h3⟩ := st x (by simp) a ρ h
    obtain ⟨ρ', h4, h5⟩ := loop_fold enc I step xs (step a x) ρ2 h3 fun y hy => st y (by simp [hy])
    refine ⟨ρ', ?_, h5⟩
    rw [List.map_cons, loopL_cons, h1]
    rcases h2 with h2 | h2 <;> simp only [h2, h4]
/-- .. with what is known of the place in the row -/
theorem loop_ind (enc : α → PyData) (I : List α → List Slot → Prop) : ∀ (xs pre : List α) (ρ : List Slot), I pre ρ → (∀ p x post, pre ++ xs = p ++ x :: post → ∀ ρ, I p ρ → ∃ ρ1 ρ2, g (enc x) ρ = some ρ1 ∧ (s ρ1 = .nx ρ2 ∨ s ρ1 = .ct ρ2) ∧ I (p ++ [x]) ρ2) →
    ∃ ρ', loopL g s (xs.map enc) ρ = .nx ρ' ∧ I (pre ++ xs) ρ'
  | [], pre, ρ, h, _ => ⟨ρ, rfl, by simpa using h⟩
  | x :: xs, pre, ρ, h, st => by
    obtain ⟨ρ1, ρ2, h1, h2, h3⟩ := st pre x xs rfl ρ h
    obtain ⟨ρ', h4, h5⟩ := loop_ind enc I xs (pre ++ [x]) ρ2 h3 fun p y post e ρ hi => st p y post (by rw [← e]; simp) ρ hi
    refine ⟨ρ', ?_, by simpa using h5⟩
    rw [List.map_cons, loopL_cons, h1]
    rcases h2 with h2 | h2 <;> simp only [h2, h4]
/-- a loop that returns at the first thing with an answer -/
theorem loop_find (enc : α → PyData) (I : List Slot → Prop) (F : α → Option Ret) : ∀ (xs : List α) (ρ : List Slot), I ρ → (∀ x ∈ xs, ∀ ρ, I ρ → ∃ ρ1, g (enc x) ρ = some ρ1 ∧ ((∃ r, F x = some r ∧ s ρ1 = .rt r) ∨ (F x = none ∧ ∃ ρ2, (s ρ1 = .nx ρ2 ∨ s ρ1 = .ct ρ2) ∧ I ρ2))) →
    (∃ r, xs.findSome? F = some r ∧ loopL g s (xs.map enc) ρ = .rt r) ∨ (xs.findSome? F = none ∧ ∃ ρ', loopL g s (xs.map enc) ρ = .nx ρ' ∧ I ρ')
  | [], ρ, h, _ => .inr ⟨rfl, ρ, rfl, h⟩
  | x :: xs, ρ, h, st => by
    obtain ⟨ρ1, h1, h2⟩ := st x (by simp) ρ h
    rcases h2 with ⟨r, h3, h4⟩ | ⟨h3, ρ2, h4, h5⟩
    · refine .inl ⟨r, by rw [List.findSome?_cons, h3], ?_⟩
      rw [List.map_cons, loopL_cons, h1]
      simp only [h4]
    · have e : loopL g s (enc x :: xs.map enc) ρ = loopL g s (xs.map enc) ρ2 := by
        rw [loopL_cons, h1]
        rcases h4 with h4 | h4 <;> simp only [h4]
      rw [List.map_cons, List.findSome?_cons, h3, e]
      exact loop_find enc I F xs ρ2 h5 fun y hy => st y (by simp [hy])
/-- a loop that only looks: none has an answer -/
theorem loopT_none {j : Nat} {c : FT} {r : FE} (enc : α → PyData) : ∀ (xs : List α) (ρ : List Slot), (∀ x ∈ xs, c (ρ.set j (.val (.d (enc x)))) = .ok false) → (∃ z, loopT j c r (xs.map enc) ρ = .nx (ρ.set j z)) ∨ loopT j c r (xs.map enc) ρ = .nx ρ
  | [], ρ, _ => .inr rfl
  | x :: xs, ρ, h0 => by
    rw [List.map_cons]
    unfold loopT
    rw [h0 x (by simp)]
    simp only [ctl_ok, Bool.false_eq_true, if_false]
    rcases loopT_none (j := j) (c := c) (r := r) enc xs (ρ.set j (.val (.d (enc x)))) (fun y hy => by
      rw [List.set_set]
      exact h0 y (by simp [hy])) with ⟨z, hz⟩ | hz
    · exact .inl ⟨z, by rw [hz, List.set_set]⟩
    · exact .inl ⟨_, hz⟩
/-- while: by a measure -/
theorem loopW_ind {c : FT} (I : List Slot → Prop) (m : List Slot → Nat) (R : List Slot → Prop) (h : ∀ ρ, I ρ → (c ρ = .ok false ∧ R ρ) ∨ (c ρ = .ok true ∧ ∃ ρ2, (s ρ = .nx ρ2 ∨ s ρ = .ct ρ2) ∧ I ρ2 ∧ m ρ2 < m ρ)) : ∀ (n : Nat) (ρ : List Slot), I ρ → m ρ < n → ∃ ρ', loopW c s n ρ = .nx ρ' ∧ R ρ'
  | 0, ρ, _, hn => absurd hn (Nat.not_lt_zero _)
  | n + 1, ρ, hI, hn => by
    unfold loopW
    rcases h ρ hI with ⟨h1, h2⟩ | ⟨h1, ρ2, h2, h3, h4⟩
    · rw [h1]; exact ⟨ρ, rfl, h2⟩
    · obtain ⟨ρ', h5, h6⟩ := loopW_ind I m R h n ρ2 h3 (by omega)
      refine ⟨ρ', ?_, h6⟩
      rw [h1]
      simp only [ctl_ok, if_true]
      rcases h2 with h2 | h2 <;> simp only [h2, h5]
end
theorem rangeD_map (lo : Int) (n : Nat) : rangeD lo n = (List.range n).map fun k : Nat => PyData.int (lo + (k : Int)) := rfl
theorem big_val : big = 16777216 := rfl
end Pu
/-! The pure layer, part 16: plain facts. -/
namespace Pu
open PySem PySem.Spec PyProof.Rows L2
/-! ### isinstance -/
@[simp] theorem isi_tup_tup (ds : List PyData) : pIsi "tuple" (.d (.tuple ds)) = .ok true := rfl
@[simp] theorem isi_lst_lst (ds : List PyData) : pIsi "list" (.d (.list ds)) = .ok true := rfl
@[simp] theorem isi_int_int (i : Int) : pIsi "int" (.d (.int i)) = .ok true := rfl
@[simp] theorem isi_int_bool (i : Int) : pIsi "bool" (.d (.int i)) = .ok false := rfl
@[simp] theorem isi_bool_bool (i : Bool) : pIsi "bool" (.d (.bool i)) = .ok true := rfl
@[simp] theorem isi_bool_int (i : Bool) : pIsi "int" (.d (.bool i)) = .ok true := rfl
@[simp] theorem isi_str_str (x : Str) : pIsi "str" (.d (.str x)) = .ok true := rfl
@[simp] theorem isi_str_int (x : Str) : pIsi "int" (.d (.str x)) = .ok false := rfl
@[simp] theorem isi_lst_tup (ds : List PyData) : pIsi "tuple" (.d (.list ds)) = .ok false := rfl
@[simp] theorem isi_tup_lst (ds : List PyData) : pIsi "list" (.d (.tuple ds)) = .ok false := rfl
@[simp] theorem tru_bool (b : Bool) : truP (.d (.bool b)) = .ok b := rfl
@[simp] theorem len_list (ds : List PyData) : pLen [.d (.list ds)] = .ok (.d (.int ds.length)) := rfl
@[simp] theorem len_tup (ds : List PyData) : pLen [.d (.tuple ds)] = .ok (.d (.int ds.length)) := rfl
@[simp] theorem len_scr (ns : List Int) : pLen [.scr ns] = .ok (.d (.int ns.length)) := rfl
@[simp] theorem int_int (i : Int) : pInt [.d (.int i)] = .ok (.d (.int i)) := rfl
@[simp] theorem int_bool (k : Bool) : pInt [.d (.bool k)] = .ok (.d (.int (if k then 1 else 0))) := rfl
@[simp] theorem list_list (ds : List PyData) : pList [.d (.list ds)] = .ok (.lst ds) := rfl
@[simp] theorem min_ints (i j : Int) : pMin [.d (.int i), .d (.int j)] = .ok (.d (.int (if j < i then j else i))) := rfl
@[simp] theorem max_ints (i j : Int) : pMax [.d (.int i), .d (.int j)] = .ok (.d (.int (if j > i then j else i))) := rfl
theorem mod_int {i j : Int} (h : 0 < j) : pMod (.d (.int i)) (.d (.int j)) = .ok (.d (.int (i % j))) := by simp [pMod, h]
theorem div_int {i j : Int} (h : 0 < j) (h' : j < 1073741824) : pDiv (.d (.int i)) (.d (.int j)) = .ok (.d (.int (i / j))) := by simp [pDiv, h, h']
theorem add_lists {xs ys : List PyData} (h : xs.length + ys.length ≤ big) : pAdd (.d (.list xs)) (.d (.list ys)) = .ok (.d (.list (xs ++ ys))) := by simp [pAdd, h]
theorem boolsOf_map (bs : List Bool) : boolsOf (bs.map .bool) = some bs := by
  induction bs with
  | nil => rfl
  | cons b bs ih => show (boolsOf (bs.map .bool)).map (b :: ·) = _; rw [ih]; rfl
theorem intsOf_map (bs : List Int) : intsOf (bs.map .int) = some bs := by
  induction bs with
  | nil => rfl
  | cons b bs ih => show (intsOf (bs.map .int)).map (b :: ·) = _; rw [ih]; rfl
theorem all_bools (bs : List Bool) : pAll [.d (.list (bs.map .bool))] = .ok (.d (.bool (bs.all _root_.id))) := by simp [pAll, boolsOf_map]
@[simp] theorem eq_str (x y : Str) : pEq (.d (.str x)) (.d (.str y)) = .ok (decide (x = y)) := by
  simp [pEq, PyData.depth, PyData.eqv]
  by_cases h : x = y <;> simp [h]
@[simp] theorem ne_str (x y : Str) : pNe (.d (.str x)) (.d (.str y)) = .ok (!decide (x = y)) := by
  simp [pNe, PyData.depth, PyData.eqv]
  by_cases h : x = y <;> simp [h]
/-! ### slices, places -/
theorem cut_from {α : Type} (xs : List α) (k : Nat) : cut xs (some (k : Int)) none = xs.drop k := by
  unfold cut
  rw [HT.sIx_none, HT.sIx_nat]
  rw [List.take_of_length_le (by rw [List.length_drop]; omega)]
  by_cases h : k ≤ xs.length
  · rw [Nat.min_eq_left h]
  · rw [Nat.min_eq_right (by omega), List.drop_of_length_le (Nat.le_refl _), List.drop_of_length_le (by omega)]
theorem cut_to {α : Type} (xs : List α) (k : Nat) : cut xs none (some (k : Int)) = xs.take k := by
  unfold cut
  rw [HT.sIx_none, HT.sIx_nat, List.drop_zero, Nat.sub_zero]
  by_cases h : k ≤ xs.length
  · rw [Nat.min_eq_left h]
  · rw [Nat.min_eq_right (by omega), List.take_of_length_le (Nat.le_refl _), List.take_of_length_le (by omega)]
theorem cut_both {α : Type} (xs : List α) (j k : Nat) : cut xs (some (j : Int)) (some (k : Int)) = (xs.drop j).take (k - j) := by
  unfold cut
  rw [HT.sIx_nat, HT.sIx_nat]
  by_cases h : j ≤ xs.length
  · rw [Nat.min_eq_left h]
    by_cases h2 : k ≤ xs.length
    · rw [Nat.min_eq_left h2]
    · rw [Nat.min_eq_right (by omega), List.take_of_length_le (by rw [List.length_drop]; omega), List.take_of_length_le (by rw [List.length_drop]; omega)]
  · have h' : xs.length ≤ j := by omega
    rw [Nat.min_eq_right h', List.drop_of_length_le (Nat.le_refl _), List.drop_of_length_le h']
    simp
theorem cut_map {α β : Type} (f : α → β) (xs : List α) (lo hi : Option Int) : cut (xs.map f) lo hi = (cut xs lo hi).map f := by
  unfold cut
  rw [List.length_map, List.map_take, List.map_drop]
theorem cut_sub {α : Type} (xs : List α) (lo hi : Option Int) : ∀ x ∈ cut xs lo hi, x ∈ xs := fun x hx => List.mem_of_mem_drop (List.mem_of_mem_take hx)
theorem cut_len {α : Type} (xs : List α) (lo hi : Option Int) : (cut xs lo hi).length ≤ xs.length := by
  unfold cut
  rw [List.length_take, List.length_drop]; omega
theorem cut_last {α : Type} (xs : List α) : cut xs (some (-1)) none = xs.drop (xs.length - 1) := by
  unfold cut
  have e : HT.sIx xs.length 0 (some (-1)) = xs.length - 1 := by
    show (if (-1 : Int) < 0 then ((-1 : Int) + (xs.length : Int)).toNat else min (-1 : Int).toNat xs.length) = xs.length - 1
    rw [if_pos (by decide)]; omega
  rw [HT.sIx_none, e, List.take_of_length_le (by rw [List.length_drop]; exact Nat.le_refl _)]
theorem atI_get {α : Type} {xs : List α} {i : Int} (h0 : 0 ≤ i) (h : i < xs.length) : atI xs i = xs[i.toNat]? := by
  rw [atI, ixN, if_pos h0, if_pos h]; rfl
theorem atI_some {α : Type} {xs : List α} {i : Int} (h0 : 0 ≤ i) (h : i < xs.length) : ∃ x ∈ xs, atI xs i = some x := by
  have h3 : i.toNat < xs.length := by omega
  exact ⟨xs[i.toNat], List.getElem_mem h3, by rw [atI_get h0 h, List.getElem?_eq_getElem h3]⟩
theorem ix_map {α : Type} (f : α → PyData) {xs : List α} {i : Int} {x : α} (h : atI xs i = some x) : pIx (.d (.list (xs.map f))) (.d (.int i)) = .ok (.d (f x)) := ix_list (atI_map f h)
theorem slice_map {α : Type} (f : α → PyData) (xs : List α) (lo hi : Option Int) : pSl (.d (.list (xs.map f))) lo hi = .ok (.d (.list ((cut xs lo hi).map f))) := by
  show Out.ok (PV.d (.list (cut (xs.map f) lo hi))) = _
  rw [cut_map]
theorem zip_map {α β : Type} (f : α → PyData) (h : β → PyData) (xs : List α) (ys : List β) : zipD (xs.map f) (ys.map h) = (xs.zip ys).map fun p => .tuple [f p.1, h p.2] := by
  unfold zipD
  rw [List.zipWith_map, List.zip, List.map_zipWith]
/-! ### lists of data -/
theorem depth_all {ds : List PyData} {n : Nat} (h : ∀ d ∈ ds, d.depth ≤ n) : PyData.depthAll ds ≤ n := by
  induction ds with
  | nil => simp [PyData.depthAll]
  | cons d ds ih =>
    rw [PyData.depthAll]
    exact Nat.max_le.mpr ⟨h d (by simp), ih fun x hx => h x (by simp [hx])⟩
theorem lay_all {ds : List PyData} (h : ∀ d ∈ ds, d.canLay0 = true) : PyData.canLayAll0 ds = true := by
  induction ds with
  | nil => simp [PyData.canLayAll0]
  | cons d ds ih =>
    rw [PyData.canLayAll0, h d (by simp), ih fun x hx => h x (by simp [hx])]
    rfl
theorem eq_same {x : PyData} (h : x.depth ≤ 64) (l : x.canLay0 = true) : pEq (.d x) (.d x) = .ok true := by
  simp [pEq, h, SeqAt.eqv_refl x l]
theorem ne_same {x : PyData} (h : x.depth ≤ 64) (l : x.canLay0 = true) : pNe (.d x) (.d x) = .ok false := by
  simp [pNe, h, SeqAt.eqv_refl x l]
theorem lc_bools {α : Type} {g : FG} {f : FE} {ρ : List Slot} (enc : α → PyData) (b : α → Bool) (xs : List α) (h : ∀ x ∈ xs, ∃ ρ1, g (enc x) ρ = some ρ1 ∧ f ρ1 = .ok (.d (.bool (b x)))) : ∃ bs : List Bool, lcL g ttYes f (xs.map enc) ρ = .ok (bs.map .bool) ∧ bs.all _root_.id = xs.all b ∧ bs.length = xs.length :=
  ⟨xs.map b, by rw [lcL_all enc (fun x => .bool (b x)) xs h, List.map_map]; rfl, by rw [List.all_map]; rfl, by simp⟩
/-! ### sorted pairs of numbers -/
def encII (q : Int × Int) : PyData := .tuple [.int q.1, .int q.2]
theorem alike_ii (a b : Int × Int) : PySem.W.alike (encII a) (encII b) = true := by simp [encII, PySem.W.alike, PySem.W.alikeAll]
theorem depth_ii (a : Int × Int) : (encII a).depth ≤ 2 := by simp [encII, PyData.depth, PyData.depthAll]
theorem lay_ii (a : Int × Int) : (encII a).canLay0 = true := by simp [encII, PyData.canLay0, PyData.canLayAll0]
theorem sortOk_ii (xs : List (Int × Int)) : sortOk (xs.map encII) = true := by
  unfold sortOk
  rw [Bool.and_eq_true, Bool.and_eq_true]
  refine ⟨⟨List.all_eq_true.mpr fun d hd => List.all_eq_true.mpr fun e he => ?_, ?_⟩, List.all_eq_true.mpr fun d hd => ?_⟩
  · obtain ⟨a, _, rfl⟩ := List.mem_map.mp hd
    obtain ⟨b, _, rfl⟩ := List.mem_map.mp he
    exact alike_ii a b
  · rw [Bool.or_eq_true]
    refine .inl (List.all_eq_true.mpr fun d hd => ?_)
    obtain ⟨a, _, rfl⟩ := List.mem_map.mp hd
    rfl
  · obtain ⟨a, _, rfl⟩ := List.mem_map.mp hd
    exact decide_eq_true (Nat.le_trans (depth_ii a) (by decide))
def leII (p q : Int × Int) : Bool := decide (p.1 < q.1 ∨ (p.1 = q.1 ∧ p.2 ≤ q.2))
theorem leII_eq (p q : Int × Int) : PySem.W.dataLe false (fun d : PyData => d) (encII p) (encII q) = leII p q := congrFun (congrFun (PySem.W.dataLe_ii (fun q : Int × Int => q.1) fun q => q.2) p) q
theorem sortD_ii (xs : List (Int × Int)) : sortD (xs.map encII) = (xs.mergeSort leII).map encII := by
  unfold sortD
  rw [List.map_mergeSort (r := leII) (s := PySem.W.dataLe false fun d => d) (f := encII) fun a _ b _ => (leII_eq a b).symm]
theorem leII_trans (a b c : Int × Int) (h : leII a b = true) (k : leII b c = true) : leII a c = true := by
  unfold leII at *
  simp only [decide_eq_true_eq] at *
  omega
theorem leII_total (a b : Int × Int) : (leII a b || leII b a) = true := by
  unfold leII
  simp only [Bool.or_eq_true, decide_eq_true_eq]
  omega
theorem leII_anti (a b : Int × Int) (h : leII a b = true) (k : leII b a = true) : a = b := by
  unfold leII at *
  simp only [decide_eq_true_eq] at *
  exact Prod.ext (by omega) (by omega)
theorem sort_perm {xs ys : List (Int × Int)} (h : xs.Perm ys) : xs.mergeSort leII = ys.mergeSort leII :=
  List.Perm.eq_of_pairwise (le := fun a b => leII a b = true) (fun a b _ _ => leII_anti a b) (List.pairwise_mergeSort leII_trans leII_total xs) (List.pairwise_mergeSort leII_trans leII_total ys)
    ((List.mergeSort_perm xs leII).trans (h.trans (List.mergeSort_perm ys leII).symm))
end Pu
namespace K63
open PySem PySem.Spec PyProof.Rows L2 Pu
def topS (i : Nat) : Stmt := PySem.Challenge.pw_jobsrounded_k63_starts_behind_outages.main.body.getD i (.Pass ⟨0, 0, 0, 0⟩)
abbrev st_is_whole : Stmt := topS 4
theorem sc_is_whole : FnScope ["value"] ["value"] (defScope st_is_whole) := ⟨rfl, rfl, rfl, by decide +kernel, rfl, by decide +kernel, by decide +kernel⟩
abbrev st_round_up : Stmt := topS 5
theorem sc_round_up : FnScope ["a", "b"] ["a", "b"] (defScope st_round_up) := ⟨rfl, rfl, rfl, by decide +kernel, rfl, by decide +kernel, by decide +kernel⟩
abbrev st_first_of : Stmt := topS 7
theorem sc_first_of : FnScope ["job"] ["job"] (defScope st_first_of) := ⟨rfl, rfl, rfl, by decide +kernel, rfl, by decide +kernel, by decide +kernel⟩
abbrev st_period_of : Stmt := topS 8
theorem sc_period_of : FnScope ["job"] ["job"] (defScope st_period_of) := ⟨rfl, rfl, rfl, by decide +kernel, rfl, by decide +kernel, by decide +kernel⟩
abbrev st_number_below : Stmt := topS 10
theorem sc_number_below : FnScope ["job", "moment"] ["job", "moment"] (defScope st_number_below) := ⟨rfl, rfl, rfl, by decide +kernel, rfl, by decide +kernel, by decide +kernel⟩
abbrev st_coming_with : Stmt := topS 11
theorem sc_coming_with : FnScope ["job", "number"] ["job", "number"] (defScope st_coming_with) := ⟨rfl, rfl, rfl, by decide +kernel, rfl, by decide +kernel, by decide +kernel⟩
abbrev st_comings_in : Stmt := topS 12
theorem sc_comings_in : FnScope ["job", "s", "e", "number"] ["job", "s", "e"] (defScope st_comings_in) := ⟨rfl, rfl, rfl, by decide +kernel, rfl, by decide +kernel, by decide +kernel⟩
abbrev st_is_outage : Stmt := topS 15
theorem sc_is_outage : FnScope ["value"] ["value"] (defScope st_is_outage) := ⟨rfl, rfl, rfl, by decide +kernel, rfl, by decide +kernel, by decide +kernel⟩
abbrev st_are_outages : Stmt := topS 16
theorem sc_are_outages : FnScope ["value", "one", "before", "after"] ["value"] (defScope st_are_outages) := ⟨rfl, rfl, rfl, by decide +kernel, rfl, by decide +kernel, by decide +kernel⟩
abbrev st_is_habit : Stmt := topS 17
theorem sc_is_habit : FnScope ["value"] ["value"] (defScope st_is_habit) := ⟨rfl, rfl, rfl, by decide +kernel, rfl, by decide +kernel, by decide +kernel⟩
abbrev st_check_habit : Stmt := topS 18
theorem sc_check_habit : FnScope ["value"] ["value"] (defScope st_check_habit) := ⟨rfl, rfl, rfl, by decide +kernel, rfl, by decide +kernel, by decide +kernel⟩
abbrev st_outage_with : Stmt := topS 19
theorem sc_outage_with : FnScope ["outages", "moment", "s", "e"] ["outages", "moment"] (defScope st_outage_with) := ⟨rfl, rfl, rfl, by decide +kernel, rfl, by decide +kernel, by decide +kernel⟩
abbrev st_started_of : Stmt := topS 20
theorem sc_started_of : FnScope ["comings", "habit"] ["comings", "habit"] (defScope st_started_of) := ⟨rfl, rfl, rfl, by decide +kernel, rfl, by decide +kernel, by decide +kernel⟩
abbrev st_check_outages : Stmt := topS 22
theorem sc_check_outages : FnScope ["value"] ["value"] (defScope st_check_outages) := ⟨rfl, rfl, rfl, by decide +kernel, rfl, by decide +kernel, by decide +kernel⟩
abbrev st_check_plan : Stmt := topS 23
theorem sc_check_plan : FnScope ["outages", "habit"] ["outages", "habit"] (defScope st_check_plan) := ⟨rfl, rfl, rfl, by decide +kernel, rfl, by decide +kernel, by decide +kernel⟩
abbrev st_is_out : Stmt := topS 24
theorem sc_is_out : FnScope ["outages", "moment"] ["outages", "moment"] (defScope st_is_out) := ⟨rfl, rfl, rfl, by decide +kernel, rfl, by decide +kernel, by decide +kernel⟩
abbrev st_comings_kept : Stmt := topS 25
theorem sc_comings_kept : FnScope ["job", "outages", "t", "coming"] ["job", "outages", "t"] (defScope st_comings_kept) := ⟨rfl, rfl, rfl, by decide +kernel, rfl, by decide +kernel, by decide +kernel⟩
abbrev st_missed : Stmt := topS 26
theorem sc_missed : FnScope ["job", "outages", "t", "coming"] ["job", "outages", "t"] (defScope st_missed) := ⟨rfl, rfl, rfl, by decide +kernel, rfl, by decide +kernel, by decide +kernel⟩
abbrev st_ended_below : Stmt := topS 27
theorem sc_ended_below : FnScope ["outages", "t", "s", "e"] ["outages", "t"] (defScope st_ended_below) := ⟨rfl, rfl, rfl, by decide +kernel, rfl, by decide +kernel, by decide +kernel⟩
abbrev st_starts_behind : Stmt := topS 28
theorem sc_starts_behind : FnScope ["job", "outages", "habit", "t", "found", "s", "e", "coming"] ["job", "outages", "habit", "t"] (defScope st_starts_behind) := ⟨rfl, rfl, rfl, by decide +kernel, rfl, by decide +kernel, by decide +kernel⟩
abbrev st_all_starts : Stmt := topS 29
theorem sc_all_starts : FnScope ["job", "outages", "habit", "t", "at_once", "coming"] ["job", "outages", "habit", "t"] (defScope st_all_starts) := ⟨rfl, rfl, rfl, by decide +kernel, rfl, by decide +kernel, by decide +kernel⟩
abbrev st_starts : Stmt := topS 30
theorem sc_starts : FnScope ["job", "outages", "habit", "t"] ["job", "outages", "habit", "t"] (defScope st_starts) := ⟨rfl, rfl, rfl, by decide +kernel, rfl, by decide +kernel, by decide +kernel⟩
abbrev st__law_numbers : Stmt := topS 32
theorem sc__law_numbers : FnScope ["script", "at", "count", "cell", "numbers", "k", "mixed"] ["script", "at", "count"] (defScope st__law_numbers) := ⟨rfl, rfl, rfl, by decide +kernel, rfl, by decide +kernel, by decide +kernel⟩
abbrev st__law_outages : Stmt := topS 33
theorem sc__law_outages : FnScope ["script", "at", "most", "n", "found", "end", "k", "s"] ["script", "at", "most"] (defScope st__law_outages) := ⟨rfl, rfl, rfl, by decide +kernel, rfl, by decide +kernel, by decide +kernel⟩
abbrev st__law_job : Stmt := topS 34
theorem sc__law_job : FnScope ["n", "period"] ["n"] (defScope st__law_job) := ⟨rfl, rfl, rfl, by decide +kernel, rfl, by decide +kernel, by decide +kernel⟩
abbrev st__law_comings : Stmt := topS 35
theorem sc__law_comings : FnScope ["job", "t", "found", "coming"] ["job", "t"] (defScope st__law_comings) := ⟨rfl, rfl, rfl, by decide +kernel, rfl, by decide +kernel, by decide +kernel⟩
abbrev st__law_outage : Stmt := topS 36
theorem sc__law_outage : FnScope ["outages", "moment", "one"] ["outages", "moment"] (defScope st__law_outage) := ⟨rfl, rfl, rfl, by decide +kernel, rfl, by decide +kernel, by decide +kernel⟩
abbrev st__law_started : Stmt := topS 37
theorem sc__law_started : FnScope ["comings", "habit"] ["comings", "habit"] (defScope st__law_started) := ⟨rfl, rfl, rfl, by decide +kernel, rfl, by decide +kernel, by decide +kernel⟩
abbrev st__law_starts : Stmt := topS 38
theorem sc__law_starts : FnScope ["job", "outages", "habit", "t", "found", "gone", "coming", "one"] ["job", "outages", "habit", "t"] (defScope st__law_starts) := ⟨rfl, rfl, rfl, by decide +kernel, rfl, by decide +kernel, by decide +kernel⟩
abbrev st__law_moment_holds : Stmt := topS 39
theorem sc__law_moment_holds : FnScope ["job", "outages", "t", "given", "gone", "due", "coming", "habit", "found", "one"] ["job", "outages", "t"] (defScope st__law_moment_holds) := ⟨rfl, rfl, rfl, by decide +kernel, rfl, by decide +kernel, by decide +kernel⟩
abbrev st_law : Stmt := topS 40
theorem sc_law : FnScope ["script", "n", "turn", "outages", "job", "moments", "s", "e", "t", "at_end"] ["script"] (defScope st_law) := ⟨rfl, rfl, rfl, by decide +kernel, rfl, by decide +kernel, by decide +kernel⟩
def fa : List He.Fa := ([.free ("isinstance" : Str), .free ("bool" : Str), .free ("int" : Str), .glo ("is_whole" : Str), .glo ("round_up" : Str), .glo ("first_of" : Str), .glo ("period_of" : Str), .glo ("number_below" : Str), .glo ("coming_with" : Str), .free ("range" : Str), .glo ("comings_in" : Str), .free ("len" : Str), .free ("tuple" : Str), .glo ("is_outage" : Str), .free ("all" : Str), .free ("list" : Str), .free ("zip" : Str), .glo ("are_outages" : Str), .glo ("HABITS" : Str), .free ("str" : Str), .glo ("is_habit" : Str), .glo ("check_habit" : Str), .glo ("outage_with" : Str), .glo ("started_of" : Str), .glo ("check_outages" : Str), .glo ("check_plan" : Str), .glo ("is_out" : Str), .glo ("comings_kept" : Str), .glo ("missed" : Str), .glo ("ended_below" : Str)] : List He.Fa) ++ ([.glo ("starts_behind" : Str), .free ("sorted" : Str), .glo ("all_starts" : Str), .glo ("starts" : Str), .glo ("_law_numbers" : Str), .glo ("_law_outages" : Str), .glo ("_law_job" : Str), .glo ("_law_comings" : Str), .glo ("_law_outage" : Str), .glo ("_law_started" : Str), .glo ("_law_starts" : Str), .glo ("_law_moment_holds" : Str), .free ("min" : Str), .glo ("law" : Str)] : List He.Fa)
def fn : List He.DefD := ([⟨(("is_whole" : Str), none), ("is_whole" : Str), ("is_whole" : Str), defArgs st_is_whole, defBody st_is_whole, defScope st_is_whole, [], []⟩, ⟨(("round_up" : Str), none), ("round_up" : Str), ("round_up" : Str), defArgs st_round_up, defBody st_round_up, defScope st_round_up, [], []⟩, ⟨(("first_of" : Str), none), ("first_of" : Str), ("first_of" : Str), defArgs st_first_of, defBody st_first_of, defScope st_first_of, [], []⟩, ⟨(("period_of" : Str), none), ("period_of" : Str), ("period_of" : Str), defArgs st_period_of, defBody st_period_of, defScope st_period_of, [], []⟩, ⟨(("number_below" : Str), none), ("number_below" : Str), ("number_below" : Str), defArgs st_number_below, defBody st_number_below, defScope st_number_below, [], []⟩, ⟨(("coming_with" : Str), none), ("coming_with" : Str), ("coming_with" : Str), defArgs st_coming_with, defBody st_coming_with, defScope st_coming_with, [], []⟩, ⟨(("comings_in" : Str), none), ("comings_in" : Str), ("comings_in" : Str), defArgs st_comings_in, defBody st_comings_in, defScope st_comings_in, [], []⟩, ⟨(("is_outage" : Str), none), ("is_outage" : Str), ("is_outage" : Str), defArgs st_is_outage, defBody st_is_outage, defScope st_is_outage, [], []⟩, ⟨(("are_outages" : Str), none), ("are_outages" : Str), ("are_outages" : Str), defArgs st_are_outages, defBody st_are_outages, defScope st_are_outages, [], []⟩, ⟨(("is_habit" : Str), none), ("is_habit" : Str), ("is_habit" : Str), defArgs st_is_habit, defBody st_is_habit, defScope st_is_habit, [], []⟩, ⟨(("check_habit" : Str), none), ("check_habit" : Str), ("check_habit" : Str), defArgs st_check_habit, defBody st_check_habit, defScope st_check_habit, [], []⟩, ⟨(("outage_with" : Str), none), ("outage_with" : Str), ("outage_with" : Str), defArgs st_outage_with, defBody st_outage_with, defScope st_outage_with, [], []⟩, ⟨(("started_of" : Str), none), ("started_of" : Str), ("started_of" : Str), defArgs st_started_of, defBody st_started_of, defScope st_started_of, [], []⟩, ⟨(("check_outages" : Str), none), ("check_outages" : Str), ("check_outages" : Str), defArgs st_check_outages, defBody st_check_outages, defScope st_check_outages, [], []⟩, ⟨(("check_plan" : Str), none), ("check_plan" : Str), ("check_plan" : Str), defArgs st_check_plan, defBody st_check_plan, defScope st_check_plan, [], []⟩, ⟨(("is_out" : Str), none), ("is_out" : Str), ("is_out" : Str), defArgs st_is_out, defBody st_is_out, defScope st_is_out, [], []⟩, ⟨(("comings_kept" : Str), none), ("comings_kept" : Str), ("comings_kept" : Str), defArgs st_comings_kept, defBody st_comings_kept, defScope st_comings_kept, [], []⟩, ⟨(("missed" : Str), none), ("missed" : Str), ("missed" : Str), defArgs st_missed, defBody st_missed, defScope st_missed, [], []⟩, ⟨(("ended_below" : Str), none), ("ended_below" : Str), ("ended_below" : Str), defArgs st_ended_below, defBody st_ended_below, defScope st_ended_below, [], []⟩, ⟨(("starts_behind" : Str), none), ("starts_behind" : Str), ("starts_behind" : Str), defArgs st_starts_behind, defBody st_starts_behind, defScope st_starts_behind, [], []⟩, ⟨(("all_starts" : Str), none), ("all_starts" : Str), ("all_starts" : Str), defArgs st_all_starts, defBody st_all_starts, defScope st_all_starts, [], []⟩, ⟨(("starts" : Str), none), ("starts" : Str), ("starts" : Str), defArgs st_starts, defBody st_starts, defScope st_starts, [], []⟩, ⟨(("_law_numbers" : Str), none), ("_law_numbers" : Str), ("_law_numbers" : Str), defArgs st__law_numbers, defBody st__law_numbers, defScope st__law_numbers, [], []⟩, ⟨(("_law_outages" : Str), none), ("_law_outages" : Str), ("_law_outages" : Str), defArgs st__law_outages, defBody st__law_outages, defScope st__law_outages, [], []⟩, ⟨(("_law_job" : Str), none), ("_law_job" : Str), ("_law_job" : Str), defArgs st__law_job, defBody st__law_job, defScope st__law_job, [], []⟩, ⟨(("_law_comings" : Str), none), ("_law_comings" : Str), ("_law_comings" : Str), defArgs st__law_comings, defBody st__law_comings, defScope st__law_comings, [], []⟩, ⟨(("_law_outage" : Str), none), ("_law_outage" : Str), ("_law_outage" : Str), defArgs st__law_outage, defBody st__law_outage, defScope st__law_outage, [], []⟩, ⟨(("_law_started" : Str), none), ("_law_started" : Str), ("_law_started" : Str), defArgs st__law_started, defBody st__law_started, defScope st__law_started, [], []⟩, ⟨(("_law_starts" : Str), none), ("_law_starts" : Str), ("_law_starts" : Str), defArgs st__law_starts, defBody st__law_starts, defScope st__law_starts, [], []⟩, ⟨(("_law_moment_holds" : Str), none), ("_law_moment_holds" : Str), ("_law_moment_holds" : Str), defArgs st__law_moment_holds, defBody st__law_moment_holds, defScope st__law_moment_holds, [], []⟩] : List He.DefD) ++ ([⟨(("law" : Str), none), ("law" : Str), ("law" : Str), defArgs st_law, defBody st_law, defScope st_law, [], []⟩] : List He.DefD)
def tp : List (Str × List He.Dv) := ([(("HABITS" : Str), [.str ("skip" : Str), .str ("all" : Str), .str ("last" : Str), .str ("first" : Str)])] : List (Str × List He.Dv))
def s_is_whole : FS := (fRet (eAndV (eT (eIsi "int" (eVar 0))) (eNotV (eT (eIsi "bool" (eVar 0))))))
def f_is_whole : List PV → Out Ret := runF 1 s_is_whole
def s_round_up : FS := (fRet (eNeg (e2 pDiv (eNeg (eVar 0)) (eVar 1))))
def f_round_up : List PV → Out Ret := runF 2 s_round_up
def s_first_of : FS := (fRet (e2 pIx (eVar 0) (eC (.int 1))))
def f_first_of : List PV → Out Ret := runF 1 s_first_of
def s_period_of : FS := (fRet (e2 pIx (eVar 0) (eC (.int 2))))
def f_period_of : List PV → Out Ret := runF 1 s_period_of
def s_number_below : FS := (fSeq (fIf (eC2 pLe (eVar 1) (eCall 1 f_first_of (aCons (eVal 0) aNil))) (fRet (eC (.int 0))) fNil) (fRet (eCall 2 f_round_up (aCons (e2 pSub (eVar 1) (eCall 1 f_first_of (aCons (eVal 0) aNil))) (aCons (eCall 1 f_period_of (aCons (eVal 0) aNil)) aNil)))))
def f_number_below : List PV → Out Ret := runF 2 s_number_below
def s_coming_with : FS := (fRet (e2 pAdd (eCall 1 f_first_of (aCons (eVal 0) aNil)) (e2 pMul (eVar 1) (eCall 1 f_period_of (aCons (eVal 0) aNil)))))
def f_coming_with : List PV → Out Ret := runF 2 s_coming_with
def e1_comings_in : FE := (eCall 2 f_coming_with (aCons (eVal 0) (aCons (eVal 3) aNil)))
def s_comings_in : FS := (fRetO (oLc [3] (iRng2 (eCall 2 f_number_below (aCons (eVal 0) (aCons (eVal 1) aNil))) (eCall 2 f_number_below (aCons (eVal 0) (aCons (eVal 2) aNil)))) (gN 3) ttYes e1_comings_in))
def f_comings_in : List PV → Out Ret := runF 4 s_comings_in
def s_is_outage : FS := (fSeq (fIf (eOr (eNot (eTr (eT (eIsi "tuple" (eVar 0))))) (eC2 pNe (eN pLen (aCons (eVar 0) aNil)) (eC (.int 2)))) (fRet (eC (.bool false))) fNil) (fSeq (fIf (eOr (eNot (eTr (eCall 1 f_is_whole (aCons (e2 pIx (eVar 0) (eC (.int 0))) aNil)))) (eNot (eTr (eCall 1 f_is_whole (aCons (e2 pIx (eVar 0) (eC (.int 1))) aNil))))) (fRet (eC (.bool false))) fNil) (fRet (eT (eCh pLe pLt (eC (.int 0)) (e2 pIx (eVar 0) (eC (.int 0))) (e2 pIx (eVar 0) (eC (.int 1))))))))
def f_is_outage : List PV → Out Ret := runF 1 s_is_outage
def e1_are_outages : FE := (eCall 1 f_is_outage (aCons (eVal 1) aNil))
def e2_are_outages : FE := (eT (eC2 pLt (e2 pIx (eVar 2) (eC (.int 1))) (e2 pIx (eVar 3) (eC (.int 0)))))
def s_are_outages : FS := (fSeq (fIf (eOr (eNot (eTr (eT (eIsi "list" (eVar 0))))) (eNot (eTr (eN pAll (aCons (fz (oLc [1] (iSeq (eVal 0)) (gN 1) ttYes e1_are_outages)) aNil))))) (fRet (eC (.bool false))) fNil) (fRet (eN pAll (aCons (fz (oLc [2, 3] (iZip2 (eVal 0) (eSl (eVar 0) (pSome (eC (.int 1))) pNone)) (gT 2 (gsCons (gN 2) (gsCons (gN 3) gsNil))) ttYes e2_are_outages)) aNil))))
def f_are_outages : List PV → Out Ret := runF 4 s_are_outages
def s_is_habit : FS := (fRet (eAndV (eT (eIsi "str" (eVar 0))) (eT (eC2 pIn (eVar 0) (eKt [.str ("skip" : Str), .str ("all" : Str), .str ("last" : Str), .str ("first" : Str)])))))
def f_is_habit : List PV → Out Ret := runF 1 s_is_habit
def s_check_habit : FS := (fIf (eNot (eTr (eCall 1 f_is_habit (aCons (eVal 0) aNil)))) fNo fNil)
def f_check_habit : List PV → Out Ret := runF 1 s_check_habit
def b1_outage_with : FS := (fIf (eCh pLe pLt (eVar 2) (eVar 1) (eVar 3)) (fRet (eTup (aCons (eVal 2) (aCons (eVal 3) aNil)))) fNil)
def s_outage_with : FS := (fSeq (fFor (iSeq (eVal 0)) (gT 2 (gsCons (gN 2) (gsCons (gN 3) gsNil))) b1_outage_with) (fRet (eC .none)))
def f_outage_with : List PV → Out Ret := runF 4 s_outage_with
def s_started_of : FS := (fMatch (eVal 1) (mStr ("all" : Str) (fRetO (oN pList (aCons (eVar 0) aNil))) (mStr ("last" : Str) (fRetO (oSl (eVar 0) (pSome (eNeg (eC (.int 1)))) pNone)) (mStr ("first" : Str) (fRetO (oSl (eVar 0) pNone (pSome (eC (.int 1))))) (mAny (fRetO (oLst aNil)))))))
def f_started_of : List PV → Out Ret := runF 2 s_started_of
def s_check_outages : FS := (fIf (eNot (eTr (eCall 1 f_are_outages (aCons (eVal 0) aNil)))) fNo fNil)
def f_check_outages : List PV → Out Ret := runF 1 s_check_outages
def s_check_plan : FS := (fSeq (fDo (eCall 1 f_check_outages (aCons (eVal 0) aNil))) (fDo (eCall 1 f_check_habit (aCons (eVal 1) aNil))))
def f_check_plan : List PV → Out Ret := runF 2 s_check_plan
def s_is_out : FS := (fRet (eT (eC2 pIsNot (eCall 2 f_outage_with (aCons (eVal 0) (aCons (eVal 1) aNil))) (eC .none))))
def f_is_out : List PV → Out Ret := runF 2 s_is_out
def t1_comings_kept : FT := (eNot (eTr (eCall 2 f_is_out (aCons (eVal 1) (aCons (eVal 3) aNil)))))
def s_comings_kept : FS := (fRetO (oLc [3] (iSeq (eCall 3 f_comings_in (aCons (eVal 0) (aCons (eC (.int 0)) (aCons (eVal 2) aNil))))) (gN 3) t1_comings_kept (eVal 3)))
def f_comings_kept : List PV → Out Ret := runF 4 s_comings_kept
def t1_missed : FT := (eTr (eCall 2 f_is_out (aCons (eVal 1) (aCons (eVal 3) aNil))))
def s_missed : FS := (fSeq (fDo (eCall 1 f_check_outages (aCons (eVal 1) aNil))) (fRetO (oLc [3] (iSeq (eCall 3 f_comings_in (aCons (eVal 0) (aCons (eC (.int 0)) (aCons (eVal 2) aNil))))) (gN 3) t1_missed (eVal 3))))
def f_missed : List PV → Out Ret := runF 4 s_missed
def t1_ended_below : FT := (eC2 pLt (eVar 3) (eVar 1))
def e1_ended_below : FE := (eTup (aCons (eVal 2) (aCons (eVal 3) aNil)))
def s_ended_below : FS := (fRetO (oLc [2, 3] (iSeq (eVal 0)) (gT 2 (gsCons (gN 2) (gsCons (gN 3) gsNil))) t1_ended_below e1_ended_below))
def f_ended_below : List PV → Out Ret := runF 4 s_ended_below
def e1_starts_behind : FE := (eTup (aCons (eVal 6) (aCons (eVal 7) aNil)))
def b1_starts_behind : FS := (fExt 4 (fz (oLc [7] (iSeq (eCall 2 f_started_of (aCons (eCall 3 f_comings_in (aCons (eVal 0) (aCons (eVal 5) (aCons (eVal 6) aNil)))) (aCons (eVal 2) aNil)))) (gN 7) ttYes e1_starts_behind)))
def s_starts_behind : FS := (fSeq (fSetO 4 (oLst aNil)) (fSeq (fFor (iSeq (eCall 2 f_ended_below (aCons (eVal 1) (aCons (eVal 3) aNil)))) (gT 2 (gsCons (gN 5) (gsCons (gN 6) gsNil))) b1_starts_behind) (fRetV 4)))
def f_starts_behind : List PV → Out Ret := runF 8 s_starts_behind
def e1_all_starts : FE := (eTup (aCons (eVal 5) (aCons (eVal 5) aNil)))
def s_all_starts : FS := (fSeq (fSetO 4 (oLc [5] (iSeq (eCall 3 f_comings_kept (aCons (eVal 0) (aCons (eVal 1) (aCons (eVal 3) aNil))))) (gN 5) ttYes e1_all_starts)) (fRetO (oN pSorted (aCons (e2 pAdd (eVar 4) (eCall 4 f_starts_behind (aCons (eVal 0) (aCons (eVal 1) (aCons (eVal 2) (aCons (eVal 3) aNil)))))) aNil))))
def f_all_starts : List PV → Out Ret := runF 6 s_all_starts
def s_starts : FS := (fSeq (fDo (eCall 2 f_check_plan (aCons (eVal 1) (aCons (eVal 2) aNil)))) (fRetO (oCall 4 f_all_starts (aCons (eVal 0) (aCons (eVal 1) (aCons (eVal 2) (aCons (eVal 3) aNil)))))))
def f_starts : List PV → Out Ret := runF 4 s_starts
def b1__law_numbers : FS := (fIf (eC2 pGe (eVar 3) (e2 pPow (eC (.int 10)) (eC (.int 18)))) (fSeq (fApp 4 (e2 pMod (eVar 3) (eC (.int 1009)))) (fSet 3 (e2 pDiv (eVar 3) (eC (.int 1009))))) (fSeq (fSet 6 (e2 pMod (e2 pAdd (e2 pAdd (e2 pMul (eVar 3) (eC (.int 48271))) (e2 pMul (e2 pAdd (eVar 5) (eC (.int 1))) (eC (.int 69621)))) (e2 pMul (eVar 1) (eC (.int 4001)))) (eC (.int 2147483647)))) (fSeq (fSet 6 (e2 pMod (e2 pAdd (e2 pMul (eVar 6) (eVar 6)) (e2 pMul (eC (.int 16807)) (e2 pAdd (eVar 5) (eC (.int 3))))) (eC (.int 2147483629)))) (fApp 4 (e2 pMod (e2 pDiv (eVar 6) (eC (.int 7))) (eC (.int 1009)))))))
def s__law_numbers : FS := (fSeq (fSet 3 (e2 pMul (eC (.int 1000003)) (e2 pAdd (eVar 1) (eC (.int 1))))) (fSeq (fIf (eC2 pLt (eVar 1) (eN pLen (aCons (eVar 0) aNil))) (fSet 3 (eN pInt (aCons (e2 pIx (eVar 0) (eVar 1)) aNil))) fNil) (fSeq (fIf (eC2 pLt (eVar 3) (eC (.int 0))) (fSet 3 (e2 pSub (eC (.int 1)) (e2 pMul (eC (.int 2)) (eVar 3)))) fNil) (fSeq (fSetO 4 (oLst aNil)) (fSeq (fFor (iRng1 (eVar 2)) (gN 5) b1__law_numbers) (fRetV 4))))))
def f__law_numbers : List PV → Out Ret := runF 7 s__law_numbers
def b1__law_outages : FS := (fSeq (fSet 7 (e2 pAdd (e2 pAdd (eVar 5) (eC (.int 1))) (e2 pMod (e2 pIx (eVar 3) (e2 pAdd (eC (.int 1)) (e2 pMul (eC (.int 2)) (eVar 6)))) (e2 pIx (fz (oLst (aCons (eC (.int 12)) (aCons (eC (.int 60)) aNil)))) (e2 pMod (e2 pIx (eVar 3) (eC (.int 23))) (eC (.int 2))))))) (fSeq (fSet 5 (e2 pAdd (e2 pAdd (eVar 7) (eC (.int 1))) (e2 pMod (e2 pIx (eVar 3) (e2 pAdd (eC (.int 2)) (e2 pMul (eC (.int 2)) (eVar 6)))) (e2 pIx (fz (oLst (aCons (eC (.int 9)) (aCons (eC (.int 90)) aNil)))) (e2 pMod (e2 pIx (eVar 3) (eC (.int 22))) (eC (.int 2))))))) (fApp 4 (eTup (aCons (eVal 7) (aCons (eVal 5) aNil))))))
def s__law_outages : FS := (fSeq (fSet 3 (eCall 3 f__law_numbers (aCons (eVal 0) (aCons (eVal 1) (aCons (eC (.int 24)) aNil))))) (fSeq (fSetO 4 (oLst aNil)) (fSeq (fSet 5 (eNeg (eC (.int 1)))) (fSeq (fFor (iRng1 (e2 pMod (e2 pIx (eVar 3) (eC (.int 0))) (e2 pAdd (eVar 2) (eC (.int 1))))) (gN 6) b1__law_outages) (fRetV 4)))))
def f__law_outages : List PV → Out Ret := runF 8 s__law_outages
def s__law_job : FS := (fSeq (fSet 1 (e2 pIx (fz (oLst (aCons (e2 pAdd (eC (.int 1)) (e2 pMod (e2 pIx (eVar 0) (eC (.int 0))) (eC (.int 60)))) (aCons (e2 pAdd (eC (.int 1)) (e2 pMod (e2 pIx (eVar 0) (eC (.int 0))) (eC (.int 6)))) aNil)))) (e2 pMod (e2 pIx (eVar 0) (eC (.int 1))) (eC (.int 2))))) (fRet (eTup (aCons (eC (.str ("job" : Str))) (aCons (e2 pMod (e2 pIx (eVar 0) (eC (.int 2))) (eC (.int 61))) (aCons (eVal 1) (aCons (eC (.int 1)) (aCons (eVal 1) aNil))))))))
def f__law_job : List PV → Out Ret := runF 2 s__law_job
def b1__law_comings : FS := (fSeq (fApp 2 (eVal 3)) (fSet 3 (e2 pAdd (eVar 3) (e2 pIx (eVar 0) (eC (.int 2))))))
def c1__law_comings : FT := (eC2 pLt (eVar 3) (eVar 1))
def s__law_comings : FS := (fSeq (fSetO 2 (oLst aNil)) (fSeq (fSet 3 (e2 pIx (eVar 0) (eC (.int 1)))) (fSeq (fWhile (fun _ => fuel) c1__law_comings b1__law_comings) (fRetV 2))))
def f__law_comings : List PV → Out Ret := runF 4 s__law_comings
def b1__law_outage : FS := (fIf (eAnd (eC2 pLe (e2 pIx (eVar 2) (eC (.int 0))) (eVar 1)) (eC2 pLe (eVar 1) (e2 pSub (e2 pIx (eVar 2) (eC (.int 1))) (eC (.int 1))))) (fRetV 2) fNil)
def s__law_outage : FS := (fSeq (fFor (iSeq (eVal 0)) (gN 2) b1__law_outage) (fRet (eC .none)))
def f__law_outage : List PV → Out Ret := runF 3 s__law_outage
def s__law_started : FS := (fSeq (fIf (eC2 pEq (eVar 1) (eC (.str ("all" : Str)))) (fRetV 0) fNil) (fSeq (fIf (eOr (eC2 pEq (eVar 1) (eC (.str ("skip" : Str)))) (eC2 pEq (eVar 0) (fz (oLst aNil)))) (fRetO (oLst aNil)) fNil) (fRetO (oLst (aCons (e2 pIx (eVar 0) (e2 pIx (fz (oLst (aCons (eC (.int 0)) (aCons (e2 pSub (eN pLen (aCons (eVar 0) aNil)) (eC (.int 1))) aNil)))) (eN pInt (aCons (eT (eC2 pEq (eVar 1) (eC (.str ("last" : Str))))) aNil)))) aNil)))))
def f__law_started : List PV → Out Ret := runF 2 s__law_started
def b1__law_starts : FS := (fSeq (fSet 7 (eCall 2 f__law_outage (aCons (eVal 1) (aCons (eVal 6) aNil)))) (fIf (eC2 pIs (eVar 7) (eC .none)) (fApp 4 (eTup (aCons (eVal 6) (aCons (eVal 6) aNil)))) (fSeq (fIf (eC2 pNotIn (eVar 7) (eVar 5)) (fMNew 5 7) fNil) (fMApp 5 (eVal 7) (eVal 6)))))
def e1__law_starts : FE := (eTup (aCons (e2 pIx (eVar 7) (eC (.int 1))) (aCons (eVal 6) aNil)))
def b2__law_starts : FS := (fIf (eC2 pLt (e2 pIx (eVar 7) (eC (.int 1))) (eVar 3)) (fSet 4 (e2 pAdd (eVar 4) (fz (oLc [6] (iSeq (eCall 2 f__law_started (aCons (e2 pIx (eVar 5) (eVar 7)) (aCons (eVal 2) aNil)))) (gN 6) ttYes e1__law_starts)))) fNil)
def s__law_starts : FS := (fSeq (fSetO 4 (oLst aNil)) (fSeq (fSetO 5 (oNew (.mT []))) (fSeq (fFor (iSeq (eCall 2 f__law_comings (aCons (eVal 0) (aCons (eVal 3) aNil)))) (gN 6) b1__law_starts) (fFrz 5 (fSeq (fForK 5 (gN 7) b2__law_starts) (fRetO (oN pSorted (aCons (eVar 4) aNil))))))))
def f__law_starts : List PV → Out Ret := runF 8 s__law_starts
def t1__law_moment_holds : FT := (eC2 pIsNot (eCall 2 f__law_outage (aCons (eVal 1) (aCons (eVal 6) aNil))) (eC .none))
def c1__law_moment_holds : FT := (eOr (eNot (eTr (eT (eIsi "tuple" (eVar 9))))) (eOr (eTr (eT (eIsi "bool" (e2 pIx (eVar 9) (eC (.int 0)))))) (eTr (eT (eIsi "bool" (e2 pIx (eVar 9) (eC (.int 1))))))))
def b1__law_moment_holds : FS := (fSeq (fSetO 8 (oCall 4 f_starts (aCons (eVal 0) (aCons (eVal 3) (aCons (eVal 7) (aCons (eVal 2) aNil)))))) (fSeq (fIf (eOr (eNot (eTr (eT (eIsi "list" (eVar 8))))) (eOr (eC2 pNe (eVar 8) (eCall 4 f__law_starts (aCons (eVal 0) (aCons (eVal 1) (aCons (eVal 7) (aCons (eVal 2) aNil)))))) (eC2 pNe (eVar 3) (eVar 1)))) (fRet (eC (.bool false))) fNil) (fSeq (fForT 8 9 c1__law_moment_holds (eC (.bool false))) (fApp 8 (eC (.int 0))))))
def s__law_moment_holds : FS := (fSeq (fSet 3 (fz (oN pList (aCons (eVar 1) aNil)))) (fSeq (fSetO 4 (oCall 3 f_missed (aCons (eVal 0) (aCons (eVal 3) (aCons (eVal 2) aNil))))) (fSeq (fSetO 5 (oLc [6] (iSeq (eCall 2 f__law_comings (aCons (eVal 0) (aCons (eVal 2) aNil)))) (gN 6) t1__law_moment_holds (eVal 6))) (fSeq (fIf (eOr (eNot (eTr (eT (eIsi "list" (eVar 4))))) (eOr (eC2 pNe (eVar 4) (eVar 5)) (eC2 pNe (eVar 3) (eVar 1)))) (fRet (eC (.bool false))) fNil) (fSeq (fApp 4 (eC (.int 0))) (fSeq (fFor (iSeq (fz (oLst (aCons (eC (.str ("skip" : Str))) (aCons (eC (.str ("all" : Str))) (aCons (eC (.str ("last" : Str))) (aCons (eC (.str ("first" : Str))) aNil))))))) (gN 7) b1__law_moment_holds) (fRet (eT (eC2 pEq (eCall 3 f_missed (aCons (eVal 0) (aCons (eVal 3) (aCons (eVal 2) aNil)))) (eVar 5))))))))))
def f__law_moment_holds : List PV → Out Ret := runF 10 s__law_moment_holds
def b1_law : FS := (fSet 5 (e2 pAdd (eVar 5) (fz (oLst (aCons (eVal 6) (aCons (e2 pAdd (eVar 6) (eC (.int 1))) (aCons (eVal 7) (aCons (e2 pAdd (eVar 7) (eC (.int 1))) aNil))))))))
def b2_law : FS := (fIf (eNot (eTr (eCall 3 f__law_moment_holds (aCons (eVal 4) (aCons (eVal 3) (aCons (eN pMin (aCons (eVar 8) (aCons (eC (.int 300)) aNil))) aNil)))))) (fRet (eC (.bool false))) fNil)
def b3_law : FS := (fSeq (fSet 3 (eCall 3 f__law_outages (aCons (eVal 0) (aCons (e2 pAdd (eC (.int 1)) (eVar 2)) (aCons (eC (.int 8)) aNil))))) (fSeq (fSet 4 (eCall 1 f__law_job (aCons (eSl (eVar 1) (pSome (e2 pMul (eC (.int 3)) (eVar 2))) (pSome (e2 pAdd (e2 pMul (eC (.int 3)) (eVar 2)) (eC (.int 3))))) aNil))) (fSeq (fSet 5 (fz (oLst (aCons (eC (.int 0)) (aCons (e2 pMod (e2 pIx (eVar 1) (e2 pAdd (eC (.int 6)) (eVar 2))) (eC (.int 300))) (aCons (e2 pMod (e2 pIx (eVar 1) (e2 pAdd (eC (.int 8)) (eVar 2))) (eC (.int 60))) (aCons (e2 pIx (eVar 4) (eC (.int 1))) (aCons (e2 pAdd (e2 pIx (eVar 4) (eC (.int 1))) (eC (.int 1))) aNil)))))))) (fSeq (fFor (iSeq (eSl (eVar 3) (pSome (e2 pMod (e2 pIx (eVar 1) (eC (.int 12))) (eC (.int 3)))) (pSome (e2 pAdd (e2 pMod (e2 pIx (eVar 1) (eC (.int 12))) (eC (.int 3))) (eC (.int 2)))))) (gT 2 (gsCons (gN 6) (gsCons (gN 7) gsNil))) b1_law) (fSeq (fFor (iSeq (eVal 5)) (gN 8) b2_law) (fIf (eC2 pNe (eVar 3) (fz (oLst aNil))) (fSeq (fAsg (gT 2 (gsCons (gN 6) (gsCons (gN 7) gsNil))) (e2 pIx (eVar 3) (e2 pMod (e2 pIx (eVar 1) (e2 pAdd (eC (.int 10)) (eVar 2))) (eN pLen (aCons (eVar 3) aNil))))) (fSeq (fSet 9 (eTup (aCons (eC (.str ("job" : Str))) (aCons (e2 pMod (eVar 7) (eN pMin (aCons (e2 pIx (eVar 4) (eC (.int 2))) (aCons (eC (.int 61)) aNil)))) (aCons (e2 pIx (eVar 4) (eC (.int 2))) (aCons (eC (.int 1)) (aCons (e2 pIx (eVar 4) (eC (.int 2))) aNil))))))) (fIf (eAnd (eC2 pLt (eVar 7) (eC (.int 300))) (eNot (eTr (eCall 3 f__law_moment_holds (aCons (eVal 9) (aCons (eVal 3) (aCons (e2 pAdd (eVar 7) (eC (.int 1))) aNil))))))) (fRet (eC (.bool false))) fNil))) fNil))))))
def s_law : FS := (fSeq (fSet 1 (eCall 3 f__law_numbers (aCons (eVal 0) (aCons (eC (.int 0)) (aCons (eC (.int 20)) aNil))))) (fSeq (fFor (iRng1 (eC (.int 2))) (gN 2) b3_law) (fRet (eC (.bool true)))))
def f_law : List PV → Out Ret := runF 10 s_law
section
variable {P : Program} {w : World} {K : PySem.W.Frag} {mg : Str → Option Value} {base : Heap}
theorem D_is_whole (C : Top K mg fa fn tp) : Def P w K mg base (He.ga K) 1 ("is_whole" : Str) 1 f_is_whole := by
  obtain ⟨fd, F⟩ := C.def_ 0
  exact def_mk F sc_is_whole (C.gl 3) (fun _ _ _ _ _ _ us hl => match us, hl with | [_], _ => rfl) fun cdv A outer sh H Z hr tk => by
    have hu := room_hu hr
    exact (s_one (s_ret (v_and (v_isi (b_var 0) (C.fr 0) (C.fr 2)) (v_one (v_not (v_isi (b_var 0) (C.fr 0) (C.fr 1)))))))
theorem D_round_up (C : Top K mg fa fn tp) : Def P w K mg base (He.ga K) 1 ("round_up" : Str) 2 f_round_up := by
  obtain ⟨fd, F⟩ := C.def_ 1
  exact def_mk F sc_round_up (C.gl 4) (fun _ _ _ _ _ _ us hl => match us, hl with | [_, _], _ => rfl) fun cdv A outer sh H Z hr tk => by
    have hu := room_hu hr
    exact (s_one (s_ret (v_neg (bv (v_div (bv (v_neg (b_var 0))) (b_var 1))))))
theorem D_first_of (C : Top K mg fa fn tp) : Def P w K mg base (He.ga K) 1 ("first_of" : Str) 1 f_first_of := by
  obtain ⟨fd, F⟩ := C.def_ 2
  exact def_mk F sc_first_of (C.gl 5) (fun _ _ _ _ _ _ us hl => match us, hl with | [_], _ => rfl) fun cdv A outer sh H Z hr tk => by
    have hu := room_hu hr
    exact (s_one (s_ret (v_ix (Nat.lt_of_le_of_lt (Nat.add_le_add_left (by decide) _) hu) (b_var 0) (bv v_int))))
theorem D_period_of (C : Top K mg fa fn tp) : Def P w K mg base (He.ga K) 1 ("period_of" : Str) 1 f_period_of := by
  obtain ⟨fd, F⟩ := C.def_ 3
  exact def_mk F sc_period_of (C.gl 6) (fun _ _ _ _ _ _ us hl => match us, hl with | [_], _ => rfl) fun cdv A outer sh H Z hr tk => by
    have hu := room_hu hr
    exact (s_one (s_ret (v_ix (Nat.lt_of_le_of_lt (Nat.add_le_add_left (by decide) _) hu) (b_var 0) (bv v_int))))
theorem D_number_below (C : Top K mg fa fn tp) : Def P w K mg base (He.ga K) 2 ("number_below" : Str) 2 f_number_below := by
  obtain ⟨fd, F⟩ := C.def_ 4
  exact def_mk F sc_number_below (C.gl 7) (fun _ _ _ _ _ _ us hl => match us, hl with | [_, _], _ => rfl) fun cdv A outer sh H Z hr tk => by
    have hu := room_hu hr
    exact (s_cons (s_if (t_c (cLe hu) (b_var 1) (bv (v_call (D_first_of C) hr tk (av_cons (v_var 0) av_nil)))) (s_one (s_ret v_int)) s_nil) (s_one (s_ret (v_call (D_round_up C) hr tk (av_cons (v_sub (b_var 1) (bv (v_call (D_first_of C) hr tk (av_cons (v_var 0) av_nil)))) (av_cons (v_call (D_period_of C) hr tk (av_cons (v_var 0) av_nil)) av_nil))))))
theorem D_coming_with (C : Top K mg fa fn tp) : Def P w K mg base (He.ga K) 2 ("coming_with" : Str) 2 f_coming_with := by
  obtain ⟨fd, F⟩ := C.def_ 5
  exact def_mk F sc_coming_with (C.gl 8) (fun _ _ _ _ _ _ us hl => match us, hl with | [_, _], _ => rfl) fun cdv A outer sh H Z hr tk => by
    have hu := room_hu hr
    exact (s_one (s_ret (v_add (bv (v_call (D_first_of C) hr tk (av_cons (v_var 0) av_nil))) (bv (v_mul (b_var 1) (bv (v_call (D_period_of C) hr tk (av_cons (v_var 0) av_nil))))))))
theorem D_comings_in (C : Top K mg fa fn tp) : Def P w K mg base (He.ga K) 3 ("comings_in" : Str) 3 f_comings_in := by
  obtain ⟨fd, F⟩ := C.def_ 6
  exact def_mk F sc_comings_in (C.gl 10) (fun _ _ _ _ _ _ us hl => match us, hl with | [_, _, _], _ => rfl) fun cdv A outer sh H Z hr tk => by
    have hu := room_hu hr
    exact (s_one (s_retO (o_lc (own := [(("number" : Str), 3)]) (by decide) sc_comings_in.nd (i_rng2 (bv (v_call (D_number_below C) hr tk (av_cons (v_var 0) (av_cons (v_var 1) av_nil)))) (bv (v_call (D_number_below C) hr tk (av_cons (v_var 0) (av_cons (v_var 2) av_nil)))) (C.fr 9)) (blkOk_by (by kernel_rfl)) (fun _ _ _ _ _ => (g_name 3 sc_comings_in.nd)) (fun _ _ _ _ _ => ts_nil) (fun _ _ _ _ _ => (v_call (D_coming_with C) hr tk0 (av_cons (v_var 0) (av_cons (v_var 3) av_nil)))))))
theorem D_is_outage (C : Top K mg fa fn tp) : Def P w K mg base (He.ga K) 2 ("is_outage" : Str) 1 f_is_outage := by
  obtain ⟨fd, F⟩ := C.def_ 7
  exact def_mk F sc_is_outage (C.gl 13) (fun _ _ _ _ _ _ us hl => match us, hl with | [_], _ => rfl) fun cdv A outer sh H Z hr tk => by
    have hu := room_hu hr
    exact (s_cons (s_if (t_w (w_or (t_not (t_tru (bv (v_isi (b_var 0) (C.fr 0) (C.fr 12))))) (w_or1 (t_c (cNe hu) (bv (v_b biLen (ab_cons (b_var 0) ab_nil) (C.fr 11))) (bv v_int))))) (s_one (s_ret v_bl)) s_nil) (s_cons (s_if (t_w (w_or (t_not (t_tru (bv (v_call (D_is_whole C) hr tk (av_cons (v_ix (Nat.lt_of_le_of_lt (Nat.add_le_add_left (by decide) _) hu) (b_var 0) (bv v_int)) av_nil))))) (w_or1 (t_not (t_tru (bv (v_call (D_is_whole C) hr tk (av_cons (v_ix (Nat.lt_of_le_of_lt (Nat.add_le_add_left (by decide) _) hu) (b_var 0) (bv v_int)) av_nil)))))))) (s_one (s_ret v_bl)) s_nil) (s_one (s_ret (v_ch (cLe hu) (cLt hu) (bv v_int) (bv (v_ix (Nat.lt_of_le_of_lt (Nat.add_le_add_left (by decide) _) hu) (b_var 0) (bv v_int))) (bv (v_ix (Nat.lt_of_le_of_lt (Nat.add_le_add_left (by decide) _) hu) (b_var 0) (bv v_int))))))))
theorem D_are_outages (C : Top K mg fa fn tp) : Def P w K mg base (He.ga K) 3 ("are_outages" : Str) 1 f_are_outages := by
  obtain ⟨fd, F⟩ := C.def_ 8
  exact def_mk F sc_are_outages (C.gl 17) (fun _ _ _ _ _ _ us hl => match us, hl with | [_], _ => rfl) fun cdv A outer sh H Z hr tk => by
    have hu := room_hu hr
    exact (s_cons (s_if (t_w (w_or (t_not (t_tru (bv (v_isi (b_var 0) (C.fr 0) (C.fr 15))))) (w_or1 (t_not (t_tru (bv (v_b (biAll rfl) (ab_cons (bo (o_lc (own := [(("one" : Str), 1)]) (by decide) sc_are_outages.nd (i_list (v_var 0)) (blkOk_by (by kernel_rfl)) (fun _ _ _ _ _ => (g_name 1 sc_are_outages.nd)) (fun _ _ _ _ _ => ts_nil) (fun _ _ _ _ _ => (v_call (D_is_outage C) hr tk0 (av_cons (v_var 1) av_nil))))) ab_nil) (C.fr 14)))))))) (s_one (s_ret v_bl)) s_nil) (s_one (s_ret (v_b (biAll rfl) (ab_cons (bo (o_lc (own := [(("before" : Str), 2), (("after" : Str), 3)]) (by decide) sc_are_outages.nd (i_zip (v_var 0) (v_sl (b_var 0) (p_some (bv v_int)) p_none) (C.fr 16)) (blkOk_by (by kernel_rfl)) (fun _ _ _ _ _ => (g_tup (gs_cons (g_name 2 sc_are_outages.nd) (gs_cons (g_name 3 sc_are_outages.nd) gs_nil)))) (fun _ _ _ _ _ => ts_nil) (fun _ _ _ _ _ => (v_c (cLt hu) (bv (v_ix (Nat.lt_of_le_of_lt (Nat.add_le_add_left (by decide) _) hu) (b_var 2) (bv v_int))) (bv (v_ix (Nat.lt_of_le_of_lt (Nat.add_le_add_left (by decide) _) hu) (b_var 3) (bv v_int))))))) ab_nil) (C.fr 14)))))
theorem D_is_habit (C : Top K mg fa fn tp) : Def P w K mg base (He.ga K) 1 ("is_habit" : Str) 1 f_is_habit := by
  obtain ⟨fd, F⟩ := C.def_ 9
  exact def_mk F sc_is_habit (C.gl 20) (fun _ _ _ _ _ _ us hl => match us, hl with | [_], _ => rfl) fun cdv A outer sh H Z hr tk => by
    have hu := room_hu hr
    exact (s_one (s_ret (v_and (v_isi (b_var 0) (C.fr 0) (C.fr 19)) (v_one (v_c (cIn hu) (b_var 0) (bv (v_kt (by rfl) (C.gl 18) (C.tupT 0) (fun _ => (.cons (.str _ (strOk_ofString _)) (.cons (.str _ (strOk_ofString _)) (.cons (.str _ (strOk_ofString _)) (.cons (.str _ (strOk_ofString _)) .nil))))))))))))
theorem D_check_habit (C : Top K mg fa fn tp) : Def P w K mg base (He.ga K) 2 ("check_habit" : Str) 1 f_check_habit := by
  obtain ⟨fd, F⟩ := C.def_ 10
  exact def_mk F sc_check_habit (C.gl 21) (fun _ _ _ _ _ _ us hl => match us, hl with | [_], _ => rfl) fun cdv A outer sh H Z hr tk => by
    have hu := room_hu hr
    exact (s_one (s_if (t_not (t_tru (bv (v_call (D_is_habit C) hr tk (av_cons (v_var 0) av_nil))))) (s_one s_no) s_nil))
theorem D_outage_with (C : Top K mg fa fn tp) : Def P w K mg base (He.ga K) 1 ("outage_with" : Str) 2 f_outage_with := by
  obtain ⟨fd, F⟩ := C.def_ 11
  exact def_mk F sc_outage_with (C.gl 22) (fun _ _ _ _ _ _ us hl => match us, hl with | [_, _], _ => rfl) fun cdv A outer sh H Z hr tk => by
    have hu := room_hu hr
    exact (s_cons (s_for (passes_of rfl) (i_list (v_var 0)) (g_tup (gs_cons (g_name 2 sc_outage_with.nd) (gs_cons (g_name 3 sc_outage_with.nd) gs_nil))) (s_one (s_if (t_ch (cLe hu) (cLt hu) (b_var 2) (b_var 1) (b_var 3)) (s_one (s_ret (v_tup (av_cons (v_var 2) (av_cons (v_var 3) av_nil))))) s_nil))) (s_one (s_ret v_non)))
theorem D_started_of (C : Top K mg fa fn tp) : Def P w K mg base (He.ga K) 1 ("started_of" : Str) 2 f_started_of := by
  obtain ⟨fd, F⟩ := C.def_ 12
  exact def_mk F sc_started_of (C.gl 23) (fun _ _ _ _ _ _ us hl => match us, hl with | [_, _], _ => rfl) fun cdv A outer sh H Z hr tk => by
    have hu := room_hu hr
    exact (s_one (s_match (v_var 1) (m_str hu (s_one (s_retO (o_t biList (ab_cons (b_var 0) ab_nil) (C.fr 15)))) (m_str hu (s_one (s_retO (o_sl (b_var 0) (p_some (bv (v_neg (bv v_int)))) p_none))) (m_str hu (s_one (s_retO (o_sl (b_var 0) p_none (p_some (bv v_int))))) (m_any (s_one (s_retO (o_lst av_nil)))) (strOk_ofString _)) (strOk_ofString _)) (strOk_ofString _))))
theorem D_check_outages (C : Top K mg fa fn tp) : Def P w K mg base (He.ga K) 4 ("check_outages" : Str) 1 f_check_outages := by
  obtain ⟨fd, F⟩ := C.def_ 13
  exact def_mk F sc_check_outages (C.gl 24) (fun _ _ _ _ _ _ us hl => match us, hl with | [_], _ => rfl) fun cdv A outer sh H Z hr tk => by
    have hu := room_hu hr
    exact (s_one (s_if (t_not (t_tru (bv (v_call (D_are_outages C) hr tk (av_cons (v_var 0) av_nil))))) (s_one s_no) s_nil))
theorem D_check_plan (C : Top K mg fa fn tp) : Def P w K mg base (He.ga K) 5 ("check_plan" : Str) 2 f_check_plan := by
  obtain ⟨fd, F⟩ := C.def_ 14
  exact def_mk F sc_check_plan (C.gl 25) (fun _ _ _ _ _ _ us hl => match us, hl with | [_, _], _ => rfl) fun cdv A outer sh H Z hr tk => by
    have hu := room_hu hr
    exact (s_cons (s_do (v_call (D_check_outages C) hr tk (av_cons (v_var 0) av_nil))) (s_one (s_do (v_call (D_check_habit C) hr tk (av_cons (v_var 1) av_nil)))))
theorem D_is_out (C : Top K mg fa fn tp) : Def P w K mg base (He.ga K) 2 ("is_out" : Str) 2 f_is_out := by
  obtain ⟨fd, F⟩ := C.def_ 15
  exact def_mk F sc_is_out (C.gl 26) (fun _ _ _ _ _ _ us hl => match us, hl with | [_, _], _ => rfl) fun cdv A outer sh H Z hr tk => by
    have hu := room_hu hr
    exact (s_one (s_ret (v_c (cIsNot hu) (bv (v_call (D_outage_with C) hr tk (av_cons (v_var 0) (av_cons (v_var 1) av_nil)))) (bv v_non))))
theorem D_comings_kept (C : Top K mg fa fn tp) : Def P w K mg base (He.ga K) 4 ("comings_kept" : Str) 3 f_comings_kept := by
  obtain ⟨fd, F⟩ := C.def_ 16
  exact def_mk F sc_comings_kept (C.gl 27) (fun _ _ _ _ _ _ us hl => match us, hl with | [_, _, _], _ => rfl) fun cdv A outer sh H Z hr tk => by
    have hu := room_hu hr
    exact (s_one (s_retO (o_lc (own := [(("coming" : Str), 3)]) (by decide) sc_comings_kept.nd (i_list (v_call (D_comings_in C) hr tk (av_cons (v_var 0) (av_cons v_int (av_cons (v_var 2) av_nil))))) (blkOk_by (by kernel_rfl)) (fun _ _ _ _ _ => (g_name 3 sc_comings_kept.nd)) (fun _ _ _ _ _ => (ts_one (t_not (t_tru (bv (v_call (D_is_out C) hr tk0 (av_cons (v_var 1) (av_cons (v_var 3) av_nil)))))))) (fun _ _ _ _ _ => (v_var 3)))))
theorem D_missed (C : Top K mg fa fn tp) : Def P w K mg base (He.ga K) 5 ("missed" : Str) 3 f_missed := by
  obtain ⟨fd, F⟩ := C.def_ 17
  exact def_mk F sc_missed (C.gl 28) (fun _ _ _ _ _ _ us hl => match us, hl with | [_, _, _], _ => rfl) fun cdv A outer sh H Z hr tk => by
    have hu := room_hu hr
    exact (s_cons (s_do (v_call (D_check_outages C) hr tk (av_cons (v_var 1) av_nil))) (s_one (s_retO (o_lc (own := [(("coming" : Str), 3)]) (by decide) sc_missed.nd (i_list (v_call (D_comings_in C) hr tk (av_cons (v_var 0) (av_cons v_int (av_cons (v_var 2) av_nil))))) (blkOk_by (by kernel_rfl)) (fun _ _ _ _ _ => (g_name 3 sc_missed.nd)) (fun _ _ _ _ _ => (ts_one (t_tru (bv (v_call (D_is_out C) hr tk0 (av_cons (v_var 1) (av_cons (v_var 3) av_nil))))))) (fun _ _ _ _ _ => (v_var 3))))))
theorem D_ended_below (C : Top K mg fa fn tp) : Def P w K mg base (He.ga K) 1 ("ended_below" : Str) 2 f_ended_below := by
  obtain ⟨fd, F⟩ := C.def_ 18
  exact def_mk F sc_ended_below (C.gl 29) (fun _ _ _ _ _ _ us hl => match us, hl with | [_, _], _ => rfl) fun cdv A outer sh H Z hr tk => by
    have hu := room_hu hr
    exact (s_one (s_retO (o_lc (own := [(("s" : Str), 2), (("e" : Str), 3)]) (by decide) sc_ended_below.nd (i_list (v_var 0)) (blkOk_by (by kernel_rfl)) (fun _ _ _ _ _ => (g_tup (gs_cons (g_name 2 sc_ended_below.nd) (gs_cons (g_name 3 sc_ended_below.nd) gs_nil)))) (fun _ _ _ _ _ => (ts_one (t_c (cLt hu) (b_var 3) (b_var 1)))) (fun _ _ _ _ _ => (v_tup (av_cons (v_var 2) (av_cons (v_var 3) av_nil)))))))
theorem D_starts_behind (C : Top K mg fa fn tp) : Def P w K mg base (He.ga K) 4 ("starts_behind" : Str) 4 f_starts_behind := by
  obtain ⟨fd, F⟩ := C.def_ 19
  exact def_mk F sc_starts_behind (C.gl 30) (fun _ _ _ _ _ _ us hl => match us, hl with | [_, _, _, _], _ => rfl) fun cdv A outer sh H Z hr tk => by
    have hu := room_hu hr
    exact (s_cons (s_setO 4 (o_lst av_nil) sc_starts_behind.nd) (s_cons (s_for (passes_of rfl) (i_list (v_call (D_ended_below C) hr tk (av_cons (v_var 1) (av_cons (v_var 3) av_nil)))) (g_tup (gs_cons (g_name 5 sc_starts_behind.nd) (gs_cons (g_name 6 sc_starts_behind.nd) gs_nil))) (s_one (s_ext 4 (bo (o_lc (own := [(("coming" : Str), 7)]) (by decide) sc_starts_behind.nd (i_list (v_call (D_started_of C) hr tk (av_cons (v_call (D_comings_in C) hr tk (av_cons (v_var 0) (av_cons (v_var 5) (av_cons (v_var 6) av_nil)))) (av_cons (v_var 2) av_nil)))) (blkOk_by (by kernel_rfl)) (fun _ _ _ _ _ => (g_name 7 sc_starts_behind.nd)) (fun _ _ _ _ _ => ts_nil) (fun _ _ _ _ _ => (v_tup (av_cons (v_var 6) (av_cons (v_var 7) av_nil))))))))) (s_one (s_retV 4))))
theorem D_all_starts (C : Top K mg fa fn tp) : Def P w K mg base (He.ga K) 5 ("all_starts" : Str) 4 f_all_starts := by
  obtain ⟨fd, F⟩ := C.def_ 20
  exact def_mk F sc_all_starts (C.gl 32) (fun _ _ _ _ _ _ us hl => match us, hl with | [_, _, _, _], _ => rfl) fun cdv A outer sh H Z hr tk => by
    have hu := room_hu hr
    exact (s_cons (s_setLc 4 (own := [(("coming" : Str), 5)]) (by decide) sc_all_starts.nd (i_list (v_call (D_comings_kept C) hr tk (av_cons (v_var 0) (av_cons (v_var 1) (av_cons (v_var 3) av_nil))))) (blkOk_by (by kernel_rfl)) (fun _ _ _ _ _ => (g_name 5 sc_all_starts.nd)) (fun _ _ _ _ _ => ts_nil) (fun _ _ _ _ _ => (v_tup (av_cons (v_var 5) (av_cons (v_var 5) av_nil))))) (s_one (s_retO (o_b (biSorted hu) (ab_cons (bv (v_add (b_var 4) (bv (v_call (D_starts_behind C) hr tk (av_cons (v_var 0) (av_cons (v_var 1) (av_cons (v_var 2) (av_cons (v_var 3) av_nil)))))))) ab_nil) (C.fr 31)))))
theorem D_starts (C : Top K mg fa fn tp) : Def P w K mg base (He.ga K) 6 ("starts" : Str) 4 f_starts := by
  obtain ⟨fd, F⟩ := C.def_ 21
  exact def_mk F sc_starts (C.gl 33) (fun _ _ _ _ _ _ us hl => match us, hl with | [_, _, _, _], _ => rfl) fun cdv A outer sh H Z hr tk => by
    have hu := room_hu hr
    exact (s_cons (s_do (v_call (D_check_plan C) hr tk (av_cons (v_var 1) (av_cons (v_var 2) av_nil)))) (s_one (s_retO (o_call (D_all_starts C) hr tk (av_cons (v_var 0) (av_cons (v_var 1) (av_cons (v_var 2) (av_cons (v_var 3) av_nil))))))))
theorem D__law_numbers (C : Top K mg fa fn tp) : Def P w K mg base (He.ga K) 1 ("_law_numbers" : Str) 3 f__law_numbers := by
  obtain ⟨fd, F⟩ := C.def_ 22
  exact def_mk F sc__law_numbers (C.gl 34) (fun _ _ _ _ _ _ us hl => match us, hl with | [_, _, _], _ => rfl) fun cdv A outer sh H Z hr tk => by
    have hu := room_hu hr
    exact (s_cons (s_set 3 (v_mul (bv v_int) (bv (v_add (b_var 1) (bv v_int)))) sc__law_numbers.nd) (s_cons (s_if (t_c (cLt hu) (b_var 1) (bv (v_b biLen (ab_cons (b_var 0) ab_nil) (C.fr 11)))) (s_one (s_set 3 (v_t biInt (ab_cons (bv (v_ix (Nat.lt_of_le_of_lt (Nat.add_le_add_left (by decide) _) hu) (b_var 0) (b_var 1))) ab_nil) (C.fr 2)) sc__law_numbers.nd)) s_nil) (s_cons (s_if (t_c (cLt hu) (b_var 3) (bv v_int)) (s_one (s_set 3 (v_sub (bv v_int) (bv (v_mul (bv v_int) (b_var 3)))) sc__law_numbers.nd)) s_nil) (s_cons (s_setO 4 (o_lst av_nil) sc__law_numbers.nd) (s_cons (s_for (passes_of rfl) (i_rng1 (b_var 2) (C.fr 9)) (g_name 5 sc__law_numbers.nd) (s_one (s_if (t_c (cGe hu) (b_var 3) (bv (v_pow (bv v_int) (bv v_int)))) (s_cons (s_app 4 (v_mod (b_var 3) (bv v_int))) (s_one (s_set 3 (v_div (b_var 3) (bv v_int)) sc__law_numbers.nd))) (s_cons (s_set 6 (v_mod (bv (v_add (bv (v_add (bv (v_mul (b_var 3) (bv v_int))) (bv (v_mul (bv (v_add (b_var 5) (bv v_int))) (bv v_int))))) (bv (v_mul (b_var 1) (bv v_int))))) (bv v_int)) sc__law_numbers.nd) (s_cons (s_set 6 (v_mod (bv (v_add (bv (v_mul (b_var 6) (b_var 6))) (bv (v_mul (bv v_int) (bv (v_add (b_var 5) (bv v_int))))))) (bv v_int)) sc__law_numbers.nd) (s_one (s_app 4 (v_mod (bv (v_div (b_var 6) (bv v_int))) (bv v_int))))))))) (s_one (s_retV 4)))))))
theorem D__law_outages (C : Top K mg fa fn tp) : Def P w K mg base (He.ga K) 2 ("_law_outages" : Str) 3 f__law_outages := by
  obtain ⟨fd, F⟩ := C.def_ 23
  exact def_mk F sc__law_outages (C.gl 35) (fun _ _ _ _ _ _ us hl => match us, hl with | [_, _, _], _ => rfl) fun cdv A outer sh H Z hr tk => by
    have hu := room_hu hr
    exact (s_cons (s_set 3 (v_call (D__law_numbers C) hr tk (av_cons (v_var 0) (av_cons (v_var 1) (av_cons v_int av_nil)))) sc__law_outages.nd) (s_cons (s_setO 4 (o_lst av_nil) sc__law_outages.nd) (s_cons (s_set 5 (v_neg (bv v_int)) sc__law_outages.nd) (s_cons (s_for (passes_of rfl) (i_rng1 (bv (v_mod (bv (v_ix (Nat.lt_of_le_of_lt (Nat.add_le_add_left (by decide) _) hu) (b_var 3) (bv v_int))) (bv (v_add (b_var 2) (bv v_int))))) (C.fr 9)) (g_name 6 sc__law_outages.nd) (s_cons (s_set 7 (v_add (bv (v_add (b_var 5) (bv v_int))) (bv (v_mod (bv (v_ix (Nat.lt_of_le_of_lt (Nat.add_le_add_left (by decide) _) hu) (b_var 3) (bv (v_add (bv v_int) (bv (v_mul (bv v_int) (b_var 6))))))) (bv (v_ix (Nat.lt_of_le_of_lt (Nat.add_le_add_left (by decide) _) hu) (bo (o_lst (av_cons v_int (av_cons v_int av_nil)))) (bv (v_mod (bv (v_ix (Nat.lt_of_le_of_lt (Nat.add_le_add_left (by decide) _) hu) (b_var 3) (bv v_int))) (bv v_int)))))))) sc__law_outages.nd) (s_cons (s_set 5 (v_add (bv (v_add (b_var 7) (bv v_int))) (bv (v_mod (bv (v_ix (Nat.lt_of_le_of_lt (Nat.add_le_add_left (by decide) _) hu) (b_var 3) (bv (v_add (bv v_int) (bv (v_mul (bv v_int) (b_var 6))))))) (bv (v_ix (Nat.lt_of_le_of_lt (Nat.add_le_add_left (by decide) _) hu) (bo (o_lst (av_cons v_int (av_cons v_int av_nil)))) (bv (v_mod (bv (v_ix (Nat.lt_of_le_of_lt (Nat.add_le_add_left (by decide) _) hu) (b_var 3) (bv v_int))) (bv v_int)))))))) sc__law_outages.nd) (s_one (s_app 4 (v_tup (av_cons (v_var 7) (av_cons (v_var 5) av_nil)))))))) (s_one (s_retV 4))))))
theorem D__law_job (C : Top K mg fa fn tp) : Def P w K mg base (He.ga K) 1 ("_law_job" : Str) 1 f__law_job := by
  obtain ⟨fd, F⟩ := C.def_ 24
  exact def_mk F sc__law_job (C.gl 36) (fun _ _ _ _ _ _ us hl => match us, hl with | [_], _ => rfl) fun cdv A outer sh H Z hr tk => by
    have hu := room_hu hr
    exact (s_cons (s_set 1 (v_ix (Nat.lt_of_le_of_lt (Nat.add_le_add_left (by decide) _) hu) (bo (o_lst (av_cons (v_add (bv v_int) (bv (v_mod (bv (v_ix (Nat.lt_of_le_of_lt (Nat.add_le_add_left (by decide) _) hu) (b_var 0) (bv v_int))) (bv v_int)))) (av_cons (v_add (bv v_int) (bv (v_mod (bv (v_ix (Nat.lt_of_le_of_lt (Nat.add_le_add_left (by decide) _) hu) (b_var 0) (bv v_int))) (bv v_int)))) av_nil)))) (bv (v_mod (bv (v_ix (Nat.lt_of_le_of_lt (Nat.add_le_add_left (by decide) _) hu) (b_var 0) (bv v_int))) (bv v_int)))) sc__law_job.nd) (s_one (s_ret (v_tup (av_cons (v_str (strOk_ofString _)) (av_cons (v_mod (bv (v_ix (Nat.lt_of_le_of_lt (Nat.add_le_add_left (by decide) _) hu) (b_var 0) (bv v_int))) (bv v_int)) (av_cons (v_var 1) (av_cons v_int (av_cons (v_var 1) av_nil)))))))))
theorem D__law_comings (C : Top K mg fa fn tp) : Def P w K mg base (He.ga K) 1 ("_law_comings" : Str) 2 f__law_comings := by
  obtain ⟨fd, F⟩ := C.def_ 25
  exact def_mk F sc__law_comings (C.gl 37) (fun _ _ _ _ _ _ us hl => match us, hl with | [_, _], _ => rfl) fun cdv A outer sh H Z hr tk => by
    have hu := room_hu hr
    exact (s_cons (s_setO 2 (o_lst av_nil) sc__law_comings.nd) (s_cons (s_set 3 (v_ix (Nat.lt_of_le_of_lt (Nat.add_le_add_left (by decide) _) hu) (b_var 0) (bv v_int)) sc__law_comings.nd) (s_cons (s_while (fun _ => fuel) (passes_of rfl) (t_c (cLt hu) (b_var 3) (b_var 1)) (s_cons (s_app 2 (v_var 3)) (s_one (s_set 3 (v_add (b_var 3) (bv (v_ix (Nat.lt_of_le_of_lt (Nat.add_le_add_left (by decide) _) hu) (b_var 0) (bv v_int)))) sc__law_comings.nd)))) (s_one (s_retV 2)))))
theorem D__law_outage (C : Top K mg fa fn tp) : Def P w K mg base (He.ga K) 1 ("_law_outage" : Str) 2 f__law_outage := by
  obtain ⟨fd, F⟩ := C.def_ 26
  exact def_mk F sc__law_outage (C.gl 38) (fun _ _ _ _ _ _ us hl => match us, hl with | [_, _], _ => rfl) fun cdv A outer sh H Z hr tk => by
    have hu := room_hu hr
    exact (s_cons (s_for (passes_of rfl) (i_list (v_var 0)) (g_name 2 sc__law_outage.nd) (s_one (s_if (t_w (w_and (t_c (cLe hu) (bv (v_ix (Nat.lt_of_le_of_lt (Nat.add_le_add_left (by decide) _) hu) (b_var 2) (bv v_int))) (b_var 1)) (w_and1 (t_c (cLe hu) (b_var 1) (bv (v_sub (bv (v_ix (Nat.lt_of_le_of_lt (Nat.add_le_add_left (by decide) _) hu) (b_var 2) (bv v_int))) (bv v_int))))))) (s_one (s_retV 2)) s_nil))) (s_one (s_ret v_non)))
theorem D__law_started (C : Top K mg fa fn tp) : Def P w K mg base (He.ga K) 1 ("_law_started" : Str) 2 f__law_started := by
  obtain ⟨fd, F⟩ := C.def_ 27
  exact def_mk F sc__law_started (C.gl 39) (fun _ _ _ _ _ _ us hl => match us, hl with | [_, _], _ => rfl) fun cdv A outer sh H Z hr tk => by
    have hu := room_hu hr
    exact (s_cons (s_if (t_c (cEq hu) (b_var 1) (bv (v_str (strOk_ofString _)))) (s_one (s_retV 0)) s_nil) (s_cons (s_if (t_w (w_or (t_c (cEq hu) (b_var 1) (bv (v_str (strOk_ofString _)))) (w_or1 (t_c (cEq hu) (b_var 0) (bo (o_lst av_nil)))))) (s_one (s_retO (o_lst av_nil))) s_nil) (s_one (s_retO (o_lst (av_cons (v_ix (Nat.lt_of_le_of_lt (Nat.add_le_add_left (by decide) _) hu) (b_var 0) (bv (v_ix (Nat.lt_of_le_of_lt (Nat.add_le_add_left (by decide) _) hu) (bo (o_lst (av_cons v_int (av_cons (v_sub (bv (v_b biLen (ab_cons (b_var 0) ab_nil) (C.fr 11))) (bv v_int)) av_nil)))) (bv (v_t biInt (ab_cons (bv (v_c (cEq hu) (b_var 1) (bv (v_str (strOk_ofString _))))) ab_nil) (C.fr 2)))))) av_nil))))))
theorem D__law_starts (C : Top K mg fa fn tp) : Def P w K mg base (He.ga K) 2 ("_law_starts" : Str) 4 f__law_starts := by
  obtain ⟨fd, F⟩ := C.def_ 28
  exact def_mk F sc__law_starts (C.gl 40) (fun _ _ _ _ _ _ us hl => match us, hl with | [_, _, _, _], _ => rfl) fun cdv A outer sh H Z hr tk => by
    have hu := room_hu hr
    exact (s_cons (s_setO 4 (o_lst av_nil) sc__law_starts.nd) (s_cons (s_setO 5 o_mT sc__law_starts.nd) (s_cons (s_for (passes_of rfl) (i_list (v_call (D__law_comings C) hr tk (av_cons (v_var 0) (av_cons (v_var 3) av_nil)))) (g_name 6 sc__law_starts.nd) (s_cons (s_set 7 (v_call (D__law_outage C) hr tk (av_cons (v_var 1) (av_cons (v_var 6) av_nil))) sc__law_starts.nd) (s_one (s_if (t_c (cIs hu) (b_var 7) (bv v_non)) (s_one (s_app 4 (v_tup (av_cons (v_var 6) (av_cons (v_var 6) av_nil))))) (s_cons (s_if (t_c (cNotIn hu) (b_var 7) (b_var 5)) (s_one (s_mnew 5 7 hu)) s_nil) (s_one (s_mapp 5 hu (v_var 7) (v_var 6)))))))) (b_frz 5 (s_cons (s_forK 5 (passes_of rfl) (g_name 7 sc__law_starts.nd) (s_one (s_if (t_c (cLt hu) (bv (v_ix (Nat.lt_of_le_of_lt (Nat.add_le_add_left (by decide) _) hu) (b_var 7) (bv v_int))) (b_var 3)) (s_one (s_set 4 (v_add (b_var 4) (bo (o_lc (own := [(("coming" : Str), 6)]) (by decide) sc__law_starts.nd (i_list (v_call (D__law_started C) hr tk (av_cons (v_ix (Nat.lt_of_le_of_lt (Nat.add_le_add_left (by decide) _) hu) (b_var 5) (b_var 7)) (av_cons (v_var 2) av_nil)))) (blkOk_by (by kernel_rfl)) (fun _ _ _ _ _ => (g_name 6 sc__law_starts.nd)) (fun _ _ _ _ _ => ts_nil) (fun _ _ _ _ _ => (v_tup (av_cons (v_ix (Nat.lt_of_le_of_lt (Nat.add_le_add_left (by decide) _) hu) (b_var 7) (bv v_int)) (av_cons (v_var 6) av_nil))))))) sc__law_starts.nd)) s_nil))) (s_one (s_retO (o_b (biSorted hu) (ab_cons (b_var 4) ab_nil) (C.fr 31)))))))))
theorem D__law_moment_holds (C : Top K mg fa fn tp) : Def P w K mg base (He.ga K) 7 ("_law_moment_holds" : Str) 3 f__law_moment_holds := by
  obtain ⟨fd, F⟩ := C.def_ 29
  exact def_mk F sc__law_moment_holds (C.gl 41) (fun _ _ _ _ _ _ us hl => match us, hl with | [_, _, _], _ => rfl) fun cdv A outer sh H Z hr tk => by
    have hu := room_hu hr
    exact (s_cons (s_set 3 (vo (o_t biList (ab_cons (b_var 1) ab_nil) (C.fr 15))) sc__law_moment_holds.nd) (s_cons (s_setO 4 (o_call (D_missed C) hr tk (av_cons (v_var 0) (av_cons (v_var 3) (av_cons (v_var 2) av_nil)))) sc__law_moment_holds.nd) (s_cons (s_setLc 5 (own := [(("coming" : Str), 6)]) (by decide) sc__law_moment_holds.nd (i_list (v_call (D__law_comings C) hr tk (av_cons (v_var 0) (av_cons (v_var 2) av_nil)))) (blkOk_by (by kernel_rfl)) (fun _ _ _ _ _ => (g_name 6 sc__law_moment_holds.nd)) (fun _ _ _ _ _ => (ts_one (t_c (cIsNot hu) (bv (v_call (D__law_outage C) hr tk0 (av_cons (v_var 1) (av_cons (v_var 6) av_nil)))) (bv v_non)))) (fun _ _ _ _ _ => (v_var 6))) (s_cons (s_if (t_w (w_or (t_not (t_tru (bv (v_isi (b_var 4) (C.fr 0) (C.fr 15))))) (w_or (t_c (cNe hu) (b_var 4) (b_var 5)) (w_or1 (t_c (cNe hu) (b_var 3) (b_var 1)))))) (s_one (s_ret v_bl)) s_nil) (s_cons (s_app 4 v_int) (s_cons (s_for (passes_of rfl) (i_list (vo (o_lst (av_cons (v_str (strOk_ofString _)) (av_cons (v_str (strOk_ofString _)) (av_cons (v_str (strOk_ofString _)) (av_cons (v_str (strOk_ofString _)) av_nil))))))) (g_name 7 sc__law_moment_holds.nd) (s_cons (s_setO 8 (o_call (D_starts C) hr tk (av_cons (v_var 0) (av_cons (v_var 3) (av_cons (v_var 7) (av_cons (v_var 2) av_nil))))) sc__law_moment_holds.nd) (s_cons (s_if (t_w (w_or (t_not (t_tru (bv (v_isi (b_var 8) (C.fr 0) (C.fr 15))))) (w_or (t_c (cNe hu) (b_var 8) (bv (v_call (D__law_starts C) hr tk (av_cons (v_var 0) (av_cons (v_var 1) (av_cons (v_var 7) (av_cons (v_var 2) av_nil))))))) (w_or1 (t_c (cNe hu) (b_var 3) (b_var 1)))))) (s_one (s_ret v_bl)) s_nil) (s_cons (s_forT 8 9 (passes_of rfl) (t_w (w_or (t_not (t_tru (bv (v_isi (b_var 9) (C.fr 0) (C.fr 12))))) (w_or (t_tru (bv (v_isi (bv (v_ix (Nat.lt_of_le_of_lt (Nat.add_le_add_left (by decide) _) hu) (b_var 9) (bv v_int))) (C.fr 0) (C.fr 1)))) (w_or1 (t_tru (bv (v_isi (bv (v_ix (Nat.lt_of_le_of_lt (Nat.add_le_add_left (by decide) _) hu) (b_var 9) (bv v_int))) (C.fr 0) (C.fr 1)))))))) v_bl sc__law_moment_holds.nd) (s_one (s_app 8 v_int)))))) (s_one (s_ret (v_c (cEq hu) (bv (v_call (D_missed C) hr tk (av_cons (v_var 0) (av_cons (v_var 3) (av_cons (v_var 2) av_nil))))) (b_var 5))))))))))
theorem D_law (C : Top K mg fa fn tp) : Def P w K mg base (He.ga K) 8 ("law" : Str) 1 f_law := by
  obtain ⟨fd, F⟩ := C.def_ 30
  exact def_mk F sc_law (C.gl 43) (fun _ _ _ _ _ _ us hl => match us, hl with | [_], _ => rfl) fun cdv A outer sh H Z hr tk => by
    have hu := room_hu hr
    exact (s_cons (s_set 1 (v_call (D__law_numbers C) hr tk (av_cons (v_var 0) (av_cons v_int (av_cons v_int av_nil)))) sc_law.nd) (s_cons (s_for (passes_of rfl) (i_rng1 (bv v_int) (C.fr 9)) (g_name 2 sc_law.nd) (s_cons (s_set 3 (v_call (D__law_outages C) hr tk (av_cons (v_var 0) (av_cons (v_add (bv v_int) (b_var 2)) (av_cons v_int av_nil)))) sc_law.nd) (s_cons (s_set 4 (v_call (D__law_job C) hr tk (av_cons (v_sl (b_var 1) (p_some (bv (v_mul (bv v_int) (b_var 2)))) (p_some (bv (v_add (bv (v_mul (bv v_int) (b_var 2))) (bv v_int))))) av_nil)) sc_law.nd) (s_cons (s_set 5 (vo (o_lst (av_cons v_int (av_cons (v_mod (bv (v_ix (Nat.lt_of_le_of_lt (Nat.add_le_add_left (by decide) _) hu) (b_var 1) (bv (v_add (bv v_int) (b_var 2))))) (bv v_int)) (av_cons (v_mod (bv (v_ix (Nat.lt_of_le_of_lt (Nat.add_le_add_left (by decide) _) hu) (b_var 1) (bv (v_add (bv v_int) (b_var 2))))) (bv v_int)) (av_cons (v_ix (Nat.lt_of_le_of_lt (Nat.add_le_add_left (by decide) _) hu) (b_var 4) (bv v_int)) (av_cons (v_add (bv (v_ix (Nat.lt_of_le_of_lt (Nat.add_le_add_left (by decide) _) hu) (b_var 4) (bv v_int))) (bv v_int)) av_nil))))))) sc_law.nd) (s_cons (s_for (passes_of rfl) (i_list (v_sl (b_var 3) (p_some (bv (v_mod (bv (v_ix (Nat.lt_of_le_of_lt (Nat.add_le_add_left (by decide) _) hu) (b_var 1) (bv v_int))) (bv v_int)))) (p_some (bv (v_add (bv (v_mod (bv (v_ix (Nat.lt_of_le_of_lt (Nat.add_le_add_left (by decide) _) hu) (b_var 1) (bv v_int))) (bv v_int))) (bv v_int)))))) (g_tup (gs_cons (g_name 6 sc_law.nd) (gs_cons (g_name 7 sc_law.nd) gs_nil))) (s_one (s_set 5 (v_add (b_var 5) (bo (o_lst (av_cons (v_var 6) (av_cons (v_add (b_var 6) (bv v_int)) (av_cons (v_var 7) (av_cons (v_add (b_var 7) (bv v_int)) av_nil))))))) sc_law.nd))) (s_cons (s_for (passes_of rfl) (i_list (v_var 5)) (g_name 8 sc_law.nd) (s_one (s_if (t_not (t_tru (bv (v_call (D__law_moment_holds C) hr tk (av_cons (v_var 4) (av_cons (v_var 3) (av_cons (v_b (biMin rfl) (ab_cons (b_var 8) (ab_cons (bv v_int) ab_nil)) (C.fr 42)) av_nil))))))) (s_one (s_ret v_bl)) s_nil))) (s_one (s_if (t_c (cNe hu) (b_var 3) (bo (o_lst av_nil))) (s_cons (s_asg (v_ix (Nat.lt_of_le_of_lt (Nat.add_le_add_left (by decide) _) hu) (b_var 3) (bv (v_mod (bv (v_ix (Nat.lt_of_le_of_lt (Nat.add_le_add_left (by decide) _) hu) (b_var 1) (bv (v_add (bv v_int) (b_var 2))))) (bv (v_b biLen (ab_cons (b_var 3) ab_nil) (C.fr 11)))))) (g_tup (gs_cons (g_name 6 sc_law.nd) (gs_cons (g_name 7 sc_law.nd) gs_nil)))) (s_cons (s_set 9 (v_tup (av_cons (v_str (strOk_ofString _)) (av_cons (v_mod (b_var 7) (bv (v_b (biMin rfl) (ab_cons (bv (v_ix (Nat.lt_of_le_of_lt (Nat.add_le_add_left (by decide) _) hu) (b_var 4) (bv v_int))) (ab_cons (bv v_int) ab_nil)) (C.fr 42)))) (av_cons (v_ix (Nat.lt_of_le_of_lt (Nat.add_le_add_left (by decide) _) hu) (b_var 4) (bv v_int)) (av_cons v_int (av_cons (v_ix (Nat.lt_of_le_of_lt (Nat.add_le_add_left (by decide) _) hu) (b_var 4) (bv v_int)) av_nil)))))) sc_law.nd) (s_one (s_if (t_w (w_and (t_c (cLt hu) (b_var 7) (bv v_int)) (w_and1 (t_not (t_tru (bv (v_call (D__law_moment_holds C) hr tk (av_cons (v_var 9) (av_cons (v_var 3) (av_cons (v_add (b_var 7) (bv v_int)) av_nil)))))))))) (s_one (s_ret v_bl)) s_nil)))) s_nil)))))))) (s_one (s_ret v_bl))))
theorem L_law (C : Top K mg fa fn tp) : ∃ fd, FunD K "law" "law" (defArgs st_law) (defBody st_law) (defScope st_law) [] [] (He.ga K "law") fd ∧ FnOk P w K mg base (L2.CX P w) 8 (He.ga K "law") fd ["script"] (spG (He.ga K) K 1 f_law) := by
  obtain ⟨fd, F⟩ := C.def_ 30
  refine ⟨fd, F, fnok_mk F sc_law fun cdv A outer sh H Z hr tk => ?_⟩
  have hu := room_hu hr
  exact (s_cons (s_set 1 (v_call (D__law_numbers C) hr tk (av_cons (v_var 0) (av_cons v_int (av_cons v_int av_nil)))) sc_law.nd) (s_cons (s_for (passes_of rfl) (i_rng1 (bv v_int) (C.fr 9)) (g_name 2 sc_law.nd) (s_cons (s_set 3 (v_call (D__law_outages C) hr tk (av_cons (v_var 0) (av_cons (v_add (bv v_int) (b_var 2)) (av_cons v_int av_nil)))) sc_law.nd) (s_cons (s_set 4 (v_call (D__law_job C) hr tk (av_cons (v_sl (b_var 1) (p_some (bv (v_mul (bv v_int) (b_var 2)))) (p_some (bv (v_add (bv (v_mul (bv v_int) (b_var 2))) (bv v_int))))) av_nil)) sc_law.nd) (s_cons (s_set 5 (vo (o_lst (av_cons v_int (av_cons (v_mod (bv (v_ix (Nat.lt_of_le_of_lt (Nat.add_le_add_left (by decide) _) hu) (b_var 1) (bv (v_add (bv v_int) (b_var 2))))) (bv v_int)) (av_cons (v_mod (bv (v_ix (Nat.lt_of_le_of_lt (Nat.add_le_add_left (by decide) _) hu) (b_var 1) (bv (v_add (bv v_int) (b_var 2))))) (bv v_int)) (av_cons (v_ix (Nat.lt_of_le_of_lt (Nat.add_le_add_left (by decide) _) hu) (b_var 4) (bv v_int)) (av_cons (v_add (bv (v_ix (Nat.lt_of_le_of_lt (Nat.add_le_add_left (by decide) _) hu) (b_var 4) (bv v_int))) (bv v_int)) av_nil))))))) sc_law.nd) (s_cons (s_for (passes_of rfl) (i_list (v_sl (b_var 3) (p_some (bv (v_mod (bv (v_ix (Nat.lt_of_le_of_lt (Nat.add_le_add_left (by decide) _) hu) (b_var 1) (bv v_int))) (bv v_int)))) (p_some (bv (v_add (bv (v_mod (bv (v_ix (Nat.lt_of_le_of_lt (Nat.add_le_add_left (by decide) _) hu) (b_var 1) (bv v_int))) (bv v_int))) (bv v_int)))))) (g_tup (gs_cons (g_name 6 sc_law.nd) (gs_cons (g_name 7 sc_law.nd) gs_nil))) (s_one (s_set 5 (v_add (b_var 5) (bo (o_lst (av_cons (v_var 6) (av_cons (v_add (b_var 6) (bv v_int)) (av_cons (v_var 7) (av_cons (v_add (b_var 7) (bv v_int)) av_nil))))))) sc_law.nd))) (s_cons (s_for (passes_of rfl) (i_list (v_var 5)) (g_name 8 sc_law.nd) (s_one (s_if (t_not (t_tru (bv (v_call (D__law_moment_holds C) hr tk (av_cons (v_var 4) (av_cons (v_var 3) (av_cons (v_b (biMin rfl) (ab_cons (b_var 8) (ab_cons (bv v_int) ab_nil)) (C.fr 42)) av_nil))))))) (s_one (s_ret v_bl)) s_nil))) (s_one (s_if (t_c (cNe hu) (b_var 3) (bo (o_lst av_nil))) (s_cons (s_asg (v_ix (Nat.lt_of_le_of_lt (Nat.add_le_add_left (by decide) _) hu) (b_var 3) (bv (v_mod (bv (v_ix (Nat.lt_of_le_of_lt (Nat.add_le_add_left (by decide) _) hu) (b_var 1) (bv (v_add (bv v_int) (b_var 2))))) (bv (v_b biLen (ab_cons (b_var 3) ab_nil) (C.fr 11)))))) (g_tup (gs_cons (g_name 6 sc_law.nd) (gs_cons (g_name 7 sc_law.nd) gs_nil)))) (s_cons (s_set 9 (v_tup (av_cons (v_str (strOk_ofString _)) (av_cons (v_mod (b_var 7) (bv (v_b (biMin rfl) (ab_cons (bv (v_ix (Nat.lt_of_le_of_lt (Nat.add_le_add_left (by decide) _) hu) (b_var 4) (bv v_int))) (ab_cons (bv v_int) ab_nil)) (C.fr 42)))) (av_cons (v_ix (Nat.lt_of_le_of_lt (Nat.add_le_add_left (by decide) _) hu) (b_var 4) (bv v_int)) (av_cons v_int (av_cons (v_ix (Nat.lt_of_le_of_lt (Nat.add_le_add_left (by decide) _) hu) (b_var 4) (bv v_int)) av_nil)))))) sc_law.nd) (s_one (s_if (t_w (w_and (t_c (cLt hu) (b_var 7) (bv v_int)) (w_and1 (t_not (t_tru (bv (v_call (D__law_moment_holds C) hr tk (av_cons (v_var 9) (av_cons (v_var 3) (av_cons (v_add (b_var 7) (bv v_int)) av_nil)))))))))) (s_one (s_ret v_bl)) s_nil)))) s_nil)))))))) (s_one (s_ret v_bl))))
end
def names : List Str := ([("JobError" : Str), ("BadPlan" : Str), ("is_whole" : Str), ("round_up" : Str), ("first_of" : Str), ("period_of" : Str), ("number_below" : Str), ("coming_with" : Str), ("comings_in" : Str), ("HABITS" : Str), ("is_outage" : Str), ("are_outages" : Str), ("is_habit" : Str), ("check_habit" : Str), ("outage_with" : Str), ("started_of" : Str), ("check_outages" : Str), ("check_plan" : Str), ("is_out" : Str), ("comings_kept" : Str), ("missed" : Str), ("ended_below" : Str), ("starts_behind" : Str), ("all_starts" : Str), ("starts" : Str), ("_law_numbers" : Str), ("_law_outages" : Str), ("_law_job" : Str), ("_law_comings" : Str), ("_law_outage" : Str)] : List Str) ++ ([("_law_started" : Str), ("_law_starts" : Str), ("_law_moment_holds" : Str)] : List Str)
abbrev R : PySem.W.OpenRow := PySem.W.OpenLaw.row PySem.Challenge.rw_jobsrounded_k63_starts_behind_outages
abbrev hk : PySem.W.Hook := hookP 4 fa fn tp
def ob (s : PySem.W.SharedT) : Bool × He.AlD := obsPG 4 fa fn tp (HandSHeadRun.getT s)
theorem ob_eq (s : PySem.W.SharedT) : ob s = hk.obs s.abs := obsPG_eq (HandSHeadRun.getT_eq s)
theorem run (w : World) : HandSHeadRun.RunEq R (PySem.W.view R.prog [40]) hk ob 12000 names w := by
  intro os
  kernel_rfl
end K63
namespace K63
open PySem PySem.Spec PyProof.Rows L2 Pu
theorem small {n : Nat} (h : n ≤ 1000000) : n < big := by rw [big_val]; omega
/-! ### numbers of the script -/
abbrev nst (ns : List Int) (a c cell : Int) (vs : List Int) (z5 z6 : Slot) : List Slot := [.val (.scr ns), .val (.d (.int a)), .val (.d (.int c)), .val (.d (.int cell)), .own (.lst (vs.map .int)), z5, z6]
theorem numbers_wide (ns : List Int) (a c cell k : Int) (vs : List Int) (z6 : Slot) (h18 : (1000000000000000000 : Int) ≤ cell) (hlen : vs.length < big) :
    b1__law_numbers (nst ns a c cell vs (.val (.d (.int k))) z6) = .nx (nst ns a c (cell / 1009) (vs ++ [cell % 1009]) (.val (.d (.int k))) z6) := by
  rw [b1__law_numbers, ap_fIf]
  simp [pPow, h18]
  clear h18
  simp [pMod, pDiv, hlen]
theorem numbers_small (ns : List Int) (a c cell k : Int) (vs : List Int) (z6 : Slot) (h18 : ¬ (1000000000000000000 : Int) ≤ cell) (hlen : vs.length < big) :
    ∃ x z, 0 ≤ x ∧ x < 1009 ∧ b1__law_numbers (nst ns a c cell vs (.val (.d (.int k))) z6) = .nx (nst ns a c cell (vs ++ [x]) (.val (.d (.int k))) z) := by
  obtain ⟨m, hm0, hm1⟩ : ∃ m : Int, 0 ≤ m ∧ (cell * 48271 + (k + 1) * 69621 + a * 4001) % 2147483647 = m := ⟨_, Int.emod_nonneg _ (by decide), rfl⟩
  have hm2 : m < 2147483647 := by rw [← hm1]; exact Int.emod_lt_of_pos _ (by decide)
  have mm : mulOk m m = true := by
    have h1 : -(2 ^ 64) < m := by omega
    have h2 : m < 2 ^ 64 := by omega
    simp only [mulOk, h1, h2, decide_true, Bool.and_true, Bool.true_or]
  have m1 : mulOk cell 48271 = true := by simp [mulOk]
  have m2 : ∀ z, mulOk z 69621 = true := fun z => by simp [mulOk]
  have m3 : ∀ z, mulOk z 4001 = true := fun z => by simp [mulOk]
  have m4 : ∀ z, mulOk 16807 z = true := fun z => by simp [mulOk]
  refine ⟨(m * m + 16807 * (k + 3)) % 2147483629 / 7 % 1009, .val (.d (.int ((m * m + 16807 * (k + 3)) % 2147483629))), Int.emod_nonneg _ (by decide), Int.emod_lt_of_pos _ (by decide), ?_⟩
  rw [b1__law_numbers, ap_fIf]
  simp [pPow, h18]
  clear h18
  simp [pMod, pDiv, mul_int', m1, m2, m3, m4, hm1, mm, hlen]
theorem numbers_loop (ns : List Int) (a c x : Int) (hc' : c ≤ 1000) : ∃ (vs : List Int) (z1 : Int) (z2 z3 : Slot), vs.length = c.toNat ∧ (∀ v ∈ vs, 0 ≤ v ∧ v < 1009) ∧
    loopL (gN 5) b1__law_numbers (rangeD 0 c.toNat) (nst ns a c x [] .un .un) = .nx (nst ns a c z1 vs z2 z3) := by
  rw [rangeD_map]
  obtain ⟨ρ', h1, vs, cell, z5, z6, h2, h3, h4⟩ := loop_ind (g := gN 5) (s := b1__law_numbers) (fun k : Nat => PyData.int (0 + (k : Int)))
    (fun pre ρ => ∃ (vs : List Int) (cell : Int) (z5 z6 : Slot), ρ = nst ns a c cell vs z5 z6 ∧ vs.length = pre.length ∧ ∀ v ∈ vs, 0 ≤ v ∧ v < 1009)
    (List.range c.toNat) [] (nst ns a c x [] .un .un) ⟨[], x, .un, .un, rfl, rfl, by simp⟩ (by
      rintro pre k post e ρ ⟨vs, cell, z5, z6, rfl, hl, hv⟩
      have hlen : vs.length < big := by
        have := congrArg List.length e
        simp at this
        exact small (by omega)
      by_cases h18 : (1000000000000000000 : Int) ≤ cell
      · refine ⟨_, _, rfl, .inl (numbers_wide ns a c cell (0 + k) vs z6 h18 hlen), _, _, _, _, rfl, by simp [hl], ?_⟩
        clear h18
        intro v hv'
        rcases List.mem_append.mp hv' with h | h
        · exact hv v h
        · simp at h; subst h; omega
      · obtain ⟨x, z, x0, x1, e1⟩ := numbers_small ns a c cell (0 + k) vs z6 h18 hlen
        clear h18
        refine ⟨_, _, rfl, .inl e1, _, _, _, _, rfl, by simp [hl], ?_⟩
        intro v hv'
        rcases List.mem_append.mp hv' with h | h
        · exact hv v h
        · simp at h; subst h; exact ⟨x0, x1⟩)
  exact ⟨vs, cell, z5, z6, by simpa using h3, h4, by rw [h1, h2]⟩
theorem e_numbers (ns : List Int) (a c : Int) (h0 : 0 ≤ a) (hc' : c ≤ 1000) (hc0 : 0 ≤ c) : ∃ vs : List Int, vs.length = c.toNat ∧ (∀ v ∈ vs, 0 ≤ v ∧ v < 1009) ∧ f__law_numbers [.scr ns, .d (.int a), .d (.int c)] = .ok (.own (.lst (vs.map .int))) := by
  have m0 : mulOk 1000003 (a + 1) = true := by simp [mulOk]
  have m1 : ∀ x, mulOk 2 x = true := fun x => by simp [mulOk]
  have r1 : rngOk c = true := by
    have h1 : -(2 ^ 62) ≤ c := by omega
    have h2 : c < 2 ^ 62 := by omega
    simp only [rngOk, h1, h2, decide_true, Bool.and_true]
  by_cases hl : a < ns.length
  · have hx : ∃ z, atI ns a = some z := by
      have h3 : a.toNat < ns.length := by omega
      refine ⟨ns[a.toNat], ?_⟩
      rw [atI, ixN, if_pos h0, if_pos hl]
      simp [h3]
    obtain ⟨z, hz⟩ := hx
    have ix : pIx (.scr ns) (.d (.int a)) = .ok (.d (.int z)) := by simp [pIx, hz]
    by_cases hn : z < 0
    · obtain ⟨vs, z1, z2, z3, v1, v2, v3⟩ := numbers_loop ns a c (1 - 2 * z) hc'
      refine ⟨vs, v1, v2, ?_⟩
      simp only [nst, List.map_nil] at v3
      simp [f__law_numbers, run_ap, s__law_numbers, entry, mul_int', m0, m1, hl, ix, hn, r1, v3]
    · obtain ⟨vs, z1, z2, z3, v1, v2, v3⟩ := numbers_loop ns a c z hc'
      refine ⟨vs, v1, v2, ?_⟩
      simp only [nst, List.map_nil] at v3
      simp [f__law_numbers, run_ap, s__law_numbers, entry, mul_int', m0, m1, hl, ix, hn, r1, v3]
  · obtain ⟨vs, z1, z2, z3, v1, v2, v3⟩ := numbers_loop ns a c (1000003 * (a + 1)) hc'
    refine ⟨vs, v1, v2, ?_⟩
    simp only [nst, List.map_nil] at v3
    have hn : ¬ 1000003 * (a + 1) < 0 := by omega
    simp [f__law_numbers, run_ap, s__law_numbers, entry, mul_int', m0, m1, hl, hn, r1, v3]

/-! ### jobs, comings -/
def job (f p : Int) : PyData := .tuple [.str "job", .int f, .int p, .int 1, .int p]
theorem e_first (f p : Int) : f_first_of [.d (job f p)] = .ok (.val (.d (.int f))) := by
  simp [f_first_of, run_ap, s_first_of, entry, job, pIx, atI, ixN]
theorem e_period (f p : Int) : f_period_of [.d (job f p)] = .ok (.val (.d (.int p))) := by
  simp [f_period_of, run_ap, s_period_of, entry, job, pIx, atI, ixN]
theorem e_round_up (a b : Int) (h : 0 < b) (h' : b < 1073741824) : f_round_up [.d (.int a), .d (.int b)] = .ok (.val (.d (.int (-((-a) / b))))) := by
  simp [f_round_up, run_ap, s_round_up, entry, pDiv, h, h']
def nb (f p m : Int) : Int := if m ≤ f then 0 else -((-(m - f)) / p)
theorem e_number_below (f p m : Int) (h : 0 < p) (h' : p ≤ 1000) : f_number_below [.d (job f p), .d (.int m)] = .ok (.val (.d (.int (nb f p m)))) := by
  have h2 : p < 1073741824 := by omega
  unfold nb
  by_cases hm : m ≤ f
  · simp [f_number_below, run_ap, s_number_below, entry, e_first, e_period, e_round_up, h, h2, hm]
  · simp [f_number_below, run_ap, s_number_below, entry, e_first, e_period, e_round_up, h, h2, hm]
theorem e_coming_with (f p k : Int) (h : 0 < p) (h' : p ≤ 1000) : f_coming_with [.d (job f p), .d (.int k)] = .ok (.val (.d (.int (f + k * p)))) := by
  have m : mulOk k p = true := by
    have h1 : -(2 ^ 64) < p := by omega
    have h2 : p < 2 ^ 64 := by omega
    simp only [mulOk, h1, h2, decide_true, Bool.and_true, Bool.or_true]
  simp [f_coming_with, run_ap, s_coming_with, entry, e_first, e_period, mul_int', m]
theorem nb_spec {f p : Int} (hp : 0 < p) (m k : Int) (hk : 0 ≤ k) : k < nb f p m ↔ f + k * p < m := by
  unfold nb
  by_cases hm : m ≤ f
  · rw [if_pos hm]
    have : 0 ≤ k * p := Int.mul_nonneg hk (by omega)
    constructor <;> intro h <;> omega
  · rw [if_neg hm]
    have e : k < -(-(m - f) / p) ↔ -(m - f) / p < -k := by omega
    rw [e, Int.ediv_lt_iff_lt_mul hp, Int.neg_mul]
    constructor <;> intro h <;> omega
theorem nb_nonneg {f p : Int} (hp : 0 < p) (m : Int) : 0 ≤ nb f p m := by
  unfold nb
  by_cases hm : m ≤ f
  · rw [if_pos hm]; exact Int.le_refl _
  · rw [if_neg hm]
    have : -(m - f) / p ≤ 0 := Int.ediv_nonpos_of_nonpos_of_neg (by omega) (by omega)
    omega

theorem nb_le {f p m : Int} (hp : 0 < p) (hf : 0 ≤ f) (hm : 0 ≤ m) : nb f p m ≤ m := by
  rcases Int.lt_or_le m (nb f p m) with h | h
  · have := (nb_spec hp m m hm).mp h
    have h2 : m * 1 ≤ m * p := Int.mul_le_mul_of_nonneg_left (by omega) hm
    omega
  · exact h
def comIn (f p s e : Int) : List Int := (List.range (nb f p e - nb f p s).toNat).map fun k : Nat => f + (nb f p s + (k : Int)) * p
theorem mem_comIn {f p s e c : Int} (hp : 0 < p) : c ∈ comIn f p s e ↔ ∃ j : Int, 0 ≤ j ∧ c = f + j * p ∧ s ≤ c ∧ c < e := by
  unfold comIn
  rw [List.mem_map]
  have n0 := nb_nonneg (f := f) hp s
  constructor
  · rintro ⟨k, hk, rfl⟩
    have hk' := List.mem_range.mp hk
    refine ⟨nb f p s + k, by omega, rfl, ?_, ?_⟩
    · have := mt (nb_spec (f := f) hp s (nb f p s + k) (by omega)).mpr (by omega)
      omega
    · exact (nb_spec hp e (nb f p s + k) (by omega)).mp (by omega)
  · rintro ⟨j, hj, rfl, h1, h2⟩
    have a1 : ¬ j < nb f p s := fun h => by
      have := (nb_spec hp s j hj).mp h
      omega
    have a2 := (nb_spec hp e j hj).mpr h2
    refine ⟨(j - nb f p s).toNat, List.mem_range.mpr (by omega), ?_⟩
    have : nb f p s + ((j - nb f p s).toNat : Int) = j := by omega
    rw [this]
theorem rng_ok {i : Int} (h0 : 0 ≤ i) (h1 : i ≤ 1000000) : rngOk i = true := by
  have h1 : -(2 ^ 62) ≤ i := by omega
  have h2 : i < 2 ^ 62 := by omega
  simp only [rngOk, h1, h2, decide_true, Bool.and_true]
theorem e_comings_in (f p s e : Int) (hp : 0 < p) (hp' : p ≤ 1000) (hf : 0 ≤ f) (hs : 0 ≤ s) (hs' : s ≤ 100000) (he : 0 ≤ e) (he' : e ≤ 100000) :
    f_comings_in [.d (job f p), .d (.int s), .d (.int e)] = .ok (.own (.lst ((comIn f p s e).map .int))) := by
  have r1 := rng_ok (nb_nonneg (f := f) hp s) (Int.le_trans (nb_le hp hf hs) (by omega))
  have r2 := rng_ok (nb_nonneg (f := f) hp e) (Int.le_trans (nb_le hp hf he) (by omega))
  have l : ¬ big < (nb f p e - nb f p s).toNat := by
    have h1 := nb_le hp hf he
    have h2 := nb_nonneg (f := f) hp s
    rw [big_val]; omega
  have lc : lcL (gN 3) ttYes e1_comings_in (rangeD (nb f p s) (nb f p e - nb f p s).toNat) [.val (.d (job f p)), .val (.d (.int s)), .val (.d (.int e)), .un] = .ok ((comIn f p s e).map .int) := by
    rw [rangeD_map, lcL_all (fun k : Nat => PyData.int (nb f p s + (k : Int))) (fun k : Nat => .int (f + (nb f p s + (k : Int)) * p)) _ fun k _ => ⟨_, rfl, by simp [e1_comings_in, e_coming_with, hp, hp']⟩]
    rw [comIn, List.map_map]; rfl
  have ll : (comIn f p s e).length ≤ big := by rw [comIn, List.length_map, List.length_range]; omega
  simp [f_comings_in, run_ap, s_comings_in, entry, e_number_below, hp, hp', r1, r2, noOwn, ltAll, unset, lc, ll]
/-! ### outages -/
def encO (o : Int × Int) : PyData := .tuple [.int o.1, .int o.2]
def outs (os : List (Int × Int)) : PyData := .list (os.map encO)
def Good (os : List (Int × Int)) : Prop := (∀ o ∈ os, 0 ≤ o.1 ∧ o.1 < o.2) ∧ ∀ q ∈ os.zip (os.drop 1), q.1.2 < q.2.1
theorem ix2a (a b : PyData) : pIx (.d (.tuple [a, b])) (.d (.int 0)) = .ok (.d a) := ix_tup (by simp [atI, ixN])
theorem ix2b (a b : PyData) : pIx (.d (.tuple [a, b])) (.d (.int 1)) = .ok (.d b) := ix_tup (by simp [atI, ixN])
theorem e_is_whole (i : Int) : f_is_whole [.d (.int i)] = .ok (.val (.d (.bool true))) := by
  simp [f_is_whole, run_ap, s_is_whole, entry]
theorem e_is_outage (o : Int × Int) (h : 0 ≤ o.1 ∧ o.1 < o.2) : f_is_outage [.d (encO o)] = .ok (.val (.d (.bool true))) := by
  simp [f_is_outage, run_ap, s_is_outage, entry, encO, ix2a, ix2b, e_is_whole, h.1, h.2]
theorem e_are_outages (os : List (Int × Int)) (h : Good os) (hl : os.length ≤ 1000) : f_are_outages [.d (outs os)] = .ok (.val (.d (.bool true))) := by
  obtain ⟨bs, c1, c2, c3⟩ := lc_bools (g := gN 1) (f := e1_are_outages) (ρ := [.val (.d (outs os)), .un, .un, .un]) encO (fun _ => true) os fun o ho => ⟨_, rfl, by simp [e1_are_outages, e_is_outage o (h.1 o ho)]⟩
  obtain ⟨cs, d1, d2, d3⟩ := lc_bools (g := gT 2 (gsCons (gN 2) (gsCons (gN 3) gsNil))) (f := e2_are_outages) (ρ := [.val (.d (outs os)), .un, .un, .un]) (fun q : (Int × Int) × Int × Int => PyData.tuple [encO q.1, encO q.2]) (fun _ => true) (os.zip (os.drop 1)) fun q hq => ⟨_, rfl, by
      have := h.2 q hq
      simp [e2_are_outages, encO, ix2a, ix2b, this]⟩
  rw [← zip_map] at d1
  have l1 : bs.length ≤ big := by rw [c3, big_val]; omega
  have l2 : cs.length ≤ big := by rw [d3, List.length_zip, big_val]; omega
  have cc : cut (os.map encO) (some 1) none = (os.drop 1).map encO := by rw [List.map_drop]; exact cut_from (os.map encO) 1
  have a1 : bs.all _root_.id = true := by rw [c2]; simp
  have a2 : cs.all _root_.id = true := by rw [d2]; simp
  unfold outs at c1 d1
  simp only [List.drop_one, List.map_tail] at d1 cc
  simp [f_are_outages, run_ap, s_are_outages, entry, outs, noOwn, ltAll, unset, pSl, seqs, cc, c1, d1, l1, l2, all_bools, a1, a2, -List.all_eq_true]
theorem e_check_outages (os : List (Int × Int)) (h : Good os) (hl : os.length ≤ 1000) : f_check_outages [.d (outs os)] = .ok (.val (.d .none)) := by
  simp [f_check_outages, run_ap, s_check_outages, entry, e_are_outages os h hl]
/-- the first outage that holds a moment -/
def outW (os : List (Int × Int)) (m : Int) : Option (Int × Int) := os.find? fun o => decide (o.1 ≤ m) && decide (m < o.2)
def encW : Option (Int × Int) → PyData
  | some o => encO o
  | none => .none
theorem outage_step (os : List (Int × Int)) (m : Int) (o : Int × Int) (z1 z2 : Slot) : (gT 2 (gsCons (gN 2) (gsCons (gN 3) gsNil)) (encO o) [.val (.d (outs os)), .val (.d (.int m)), z1, z2] = some [.val (.d (outs os)), .val (.d (.int m)), .val (.d (.int o.1)), .val (.d (.int o.2))]) ∧
    b1_outage_with [.val (.d (outs os)), .val (.d (.int m)), .val (.d (.int o.1)), .val (.d (.int o.2))] = if decide (o.1 ≤ m) && decide (m < o.2) then .rt (.val (.d (encO o))) else .nx [.val (.d (outs os)), .val (.d (.int m)), .val (.d (.int o.1)), .val (.d (.int o.2))] := by
  refine ⟨rfl, ?_⟩
  by_cases h1 : o.1 ≤ m
  · by_cases h2 : m < o.2
    · simp [b1_outage_with, h1, h2, encO, big_val]
    · simp [b1_outage_with, h1, h2]
  · simp [b1_outage_with, h1]
theorem e_outage_with (os : List (Int × Int)) (m : Int) : f_outage_with [.d (outs os), .d (.int m)] = .ok (.val (.d (encW (outW os m)))) := by
  have key : ∀ (l : List (Int × Int)) (z1 z2 : Slot), thn (loopL (gT 2 (gsCons (gN 2) (gsCons (gN 3) gsNil))) b1_outage_with (l.map encO) [.val (.d (outs os)), .val (.d (.int m)), z1, z2]) (fRet (eC .none)) = .rt (.val (.d (encW (outW l m)))) := by
    intro l
    induction l with
    | nil => intro z1 z2; rfl
    | cons o l ih =>
      intro z1 z2
      obtain ⟨h1, h2⟩ := outage_step os m o z1 z2
      rw [List.map_cons, loopL_cons, h1]
      simp only [h2]
      unfold outW
      rw [List.find?_cons]
      cases q : decide (o.1 ≤ m) && decide (m < o.2) with
      | true => simp [encW]
      | false => simpa [outW] using ih _ _
  have := key os .un .un
  simp [f_outage_with, run_ap, s_outage_with, entry]
  unfold outs at this ⊢
  simp [this]
theorem e_is_out (os : List (Int × Int)) (m : Int) : f_is_out [.d (outs os), .d (.int m)] = .ok (.val (.d (.bool (outW os m).isSome))) := by
  simp [f_is_out, run_ap, s_is_out, entry, e_outage_with]
  cases outW os m <;> simp [encW, encO, pIsNot, Pu.isNon]
/-! ### what the program starts -/
abbrev il (xs : List Int) : List PyData := xs.map .int
def missT (f p : Int) (os : List (Int × Int)) (t : Int) : List Int := (comIn f p 0 t).filter fun c => (outW os c).isSome
def keptT (f p : Int) (os : List (Int × Int)) (t : Int) : List Int := (comIn f p 0 t).filter fun c => !(outW os c).isSome
theorem comIn_len {f p s e : Int} (hp : 0 < p) (hf : 0 ≤ f) (he : 0 ≤ e) (he' : e ≤ 100000) : (comIn f p s e).length ≤ 100000 := by
  rw [comIn, List.length_map, List.length_range]
  have h1 := nb_le hp hf he
  have h2 := nb_nonneg (f := f) hp s
  omega
section
variable {f p t : Int} {os : List (Int × Int)} (hp : 0 < p) (hp' : p ≤ 1000) (hf : 0 ≤ f) (ht : 0 ≤ t) (ht' : t ≤ 1000) (hg : Good os) (hl : os.length ≤ 1000)
include hp hp' hf ht ht'
theorem e_kept : f_comings_kept [.d (job f p), .d (outs os), .d (.int t)] = .ok (.own (.lst (il (keptT f p os t)))) := by
  have lc : lcL (gN 3) t1_comings_kept (eVal 3) (il (comIn f p 0 t)) [.val (.d (job f p)), .val (.d (outs os)), .val (.d (.int t)), .un] = .ok (il (keptT f p os t)) :=
    lcL_map .int (fun c => !(outW os c).isSome) .int (comIn f p 0 t) fun c _ => ⟨_, rfl, by simp [t1_comings_kept, e_is_out], fun _ => rfl⟩
  have ll : (keptT f p os t).length ≤ big := by
    have := List.length_filter_le (fun c => !(outW os c).isSome) (comIn f p 0 t)
    have := comIn_len (s := 0) hp hf ht (by omega)
    rw [big_val]; unfold keptT; omega
  have ec := e_comings_in f p 0 t hp hp' hf (by omega) (by omega) ht (by omega)
  simp [f_comings_kept, run_ap, s_comings_kept, entry, ec, noOwn, ltAll, unset, lc, ll]
include hg hl
theorem e_missed : f_missed [.d (job f p), .d (outs os), .d (.int t)] = .ok (.own (.lst (il (missT f p os t)))) := by
  have lc : lcL (gN 3) t1_missed (eVal 3) (il (comIn f p 0 t)) [.val (.d (job f p)), .val (.d (outs os)), .val (.d (.int t)), .un] = .ok (il (missT f p os t)) :=
    lcL_map .int (fun c => (outW os c).isSome) .int (comIn f p 0 t) fun c _ => ⟨_, rfl, by simp [t1_missed, e_is_out], fun _ => rfl⟩
  have ll : (missT f p os t).length ≤ big := by
    have := List.length_filter_le (fun c => (outW os c).isSome) (comIn f p 0 t)
    have := comIn_len (s := 0) hp hf ht (by omega)
    rw [big_val]; unfold missT; omega
  have ec := e_comings_in f p 0 t hp hp' hf (by omega) (by omega) ht (by omega)
  simp [f_missed, run_ap, s_missed, entry, e_check_outages os hg hl, ec, noOwn, ltAll, unset, lc, ll]
end
theorem e_ended (os : List (Int × Int)) (t : Int) (hl : os.length ≤ 1000) : f_ended_below [.d (outs os), .d (.int t)] = .ok (.own (.lst ((os.filter fun o => decide (o.2 < t)).map encO))) := by
  have lc : lcL (gT 2 (gsCons (gN 2) (gsCons (gN 3) gsNil))) t1_ended_below e1_ended_below (os.map encO) [.val (.d (outs os)), .val (.d (.int t)), .un, .un] = .ok ((os.filter fun o => decide (o.2 < t)).map encO) :=
    lcL_map encO (fun o => decide (o.2 < t)) encO os fun o _ => ⟨_, rfl, by simp [t1_ended_below], fun _ => by simp [e1_ended_below, encO, big_val]⟩
  have ll : (os.filter fun o => decide (o.2 < t)).length ≤ big := by
    have := List.length_filter_le (fun o : Int × Int => decide (o.2 < t)) os
    rw [big_val]; omega
  unfold outs at lc ⊢
  simp [f_ended_below, run_ap, s_ended_below, entry, noOwn, ltAll, unset, lc, ll]
inductive Hab where
  | skip | all | last | first
def Hab.s : Hab → Str
  | .skip => "skip"
  | .all => "all"
  | .last => "last"
  | .first => "first"
def stOf (h : Hab) (cs : List Int) : List Int := match h with
  | .skip => []
  | .all => cs
  | .last => cs.drop (cs.length - 1)
  | .first => cs.take 1
theorem cut_first (cs : List Int) : cut (il cs) none (some 1) = il (cs.take 1) := by show _ = List.map _ _; rw [List.map_take]; exact cut_to (cs.map PyData.int) 1
theorem cut_lasts (cs : List Int) : cut (il cs) (some (-1)) none = il (cs.drop (cs.length - 1)) := by rw [cut_last]; simp [il]
@[simp] theorem q1 : (Str.ofString "skip" = Str.ofString "all") = False := eq_false (by decide +kernel)
@[simp] theorem q2 : (Str.ofString "skip" = Str.ofString "last") = False := eq_false (by decide +kernel)
@[simp] theorem q3 : (Str.ofString "skip" = Str.ofString "first") = False := eq_false (by decide +kernel)
@[simp] theorem q4 : (Str.ofString "last" = Str.ofString "all") = False := eq_false (by decide +kernel)
@[simp] theorem q5 : (Str.ofString "first" = Str.ofString "all") = False := eq_false (by decide +kernel)
@[simp] theorem q6 : (Str.ofString "first" = Str.ofString "last") = False := eq_false (by decide +kernel)
@[simp] theorem q7 : (Str.ofString "all" = Str.ofString "skip") = False := eq_false (by decide +kernel)
@[simp] theorem q8 : (Str.ofString "all" = Str.ofString "last") = False := eq_false (by decide +kernel)
@[simp] theorem q9 : (Str.ofString "last" = Str.ofString "skip") = False := eq_false (by decide +kernel)
@[simp] theorem q10 : (Str.ofString "first" = Str.ofString "skip") = False := eq_false (by decide +kernel)
theorem e_started (h : Hab) (cs : List Int) : f_started_of [.d (.list (il cs)), .d (.str h.s)] = .ok (.own (.lst (il (stOf h cs)))) := by
  cases h <;> simp [f_started_of, run_ap, s_started_of, entry, Hab.s, stOf, PyData.eqv, cut_lasts, cut_first]
theorem e_habit (h : Hab) : f_check_habit [.d (.str h.s)] = .ok (.val (.d .none)) := by
  cases h <;> simp [f_check_habit, run_ap, s_check_habit, entry, f_is_habit, s_is_habit, Hab.s, pIn, flatD, PyData.eqv]
theorem e_plan (os : List (Int × Int)) (h : Good os) (hl : os.length ≤ 1000) (b : Hab) : f_check_plan [.d (outs os), .d (.str b.s)] = .ok (.val (.d .none)) := by
  simp [f_check_plan, run_ap, s_check_plan, entry, e_check_outages os h hl, e_habit]
/-- pairs -/
def behL (f p : Int) (h : Hab) (l : List (Int × Int)) : List (Int × Int) := l.flatMap fun o => (stOf h (comIn f p o.1 o.2)).map fun c => (o.2, c)
def behT (f p : Int) (os : List (Int × Int)) (h : Hab) (t : Int) : List (Int × Int) := behL f p h (os.filter fun o => decide (o.2 < t))
theorem stOf_len (h : Hab) (cs : List Int) : (stOf h cs).length ≤ cs.length := by
  cases h
  · simp [stOf]
  · simp [stOf]
  · simp only [stOf, List.length_drop]; omega
  · simp only [stOf, List.length_take]; omega
section
variable {f p t : Int} {os : List (Int × Int)} (hp : 0 < p) (hp' : p ≤ 1000) (hf : 0 ≤ f) (ht : 0 ≤ t) (ht' : t ≤ 1000) (hg : Good os) (hl : os.length ≤ 1000) (h : Hab)
include hp hp' hf ht ht' hg hl
theorem behind_step (fs : List (Int × Int)) (hfs : fs.length ≤ 1000000) (o : Int × Int) (ho : o ∈ os) (hot : o.2 < t) (z7 : Slot) (hz : ∀ w, z7 ≠ .own w) :
    b1_starts_behind [.val (.d (job f p)), .val (.d (outs os)), .val (.d (.str h.s)), .val (.d (.int t)), .own (.lst (fs.map encII)), .val (.d (.int o.1)), .val (.d (.int o.2)), z7] =
      .nx [.val (.d (job f p)), .val (.d (outs os)), .val (.d (.str h.s)), .val (.d (.int t)), .own (.lst ((fs ++ (stOf h (comIn f p o.1 o.2)).map fun c => (o.2, c)).map encII)), .val (.d (.int o.1)), .val (.d (.int o.2)), z7] := by
  have g := hg.1 o ho
  have ec := e_comings_in f p o.1 o.2 hp hp' hf g.1 (by omega) (by omega) (by omega)
  have es := e_started h (comIn f p o.1 o.2)
  have hn := comIn_len (s := o.1) hp hf (show 0 ≤ o.2 by omega) (by omega)
  have hk := stOf_len h (comIn f p o.1 o.2)
  have lc : lcL (gN 7) ttYes e1_starts_behind (il (stOf h (comIn f p o.1 o.2))) [.val (.d (job f p)), .val (.d (outs os)), .val (.d (.str h.s)), .val (.d (.int t)), .own (.lst (fs.map encII)), .val (.d (.int o.1)), .val (.d (.int o.2)), .un] = .ok (((stOf h (comIn f p o.1 o.2)).map fun c => (o.2, c)).map encII) := by
    rw [il, lcL_all .int (fun c => encII (o.2, c)) _ fun c _ => ⟨_, rfl, by simp [e1_starts_behind, encII, big_val]⟩, List.map_map]; rfl
  have l1 : (stOf h (comIn f p o.1 o.2)).length ≤ big := by rw [big_val]; omega
  have l2 : fs.length + (stOf h (comIn f p o.1 o.2)).length ≤ big := by rw [big_val]; omega
  have nz : noOwn [7] [.val (.d (job f p)), .val (.d (outs os)), .val (.d (.str h.s)), .val (.d (.int t)), .own (.lst (fs.map encII)), .val (.d (.int o.1)), .val (.d (.int o.2)), z7] = true := by
    cases z7 with
    | own w => exact absurd rfl (hz w)
    | _ => rfl
  simp [b1_starts_behind, ec, es, nz, ltAll, unset, lc, l1, l2]
theorem e_behind : f_starts_behind [.d (job f p), .d (outs os), .d (.str h.s), .d (.int t)] = .ok (.own (.lst ((behT f p os h t).map encII))) := by
  have ee := e_ended os t hl
  have hfl := List.length_filter_le (fun o : Int × Int => decide (o.2 < t)) os
  obtain ⟨ρ', h1, h2⟩ := loop_ind (g := gT 2 (gsCons (gN 5) (gsCons (gN 6) gsNil))) (s := b1_starts_behind) encO
    (fun pre ρ => ∃ z5 z6, ρ = [.val (.d (job f p)), .val (.d (outs os)), .val (.d (.str h.s)), .val (.d (.int t)), .own (.lst ((behL f p h pre).map encII)), z5, z6, .un] ∧ (behL f p h pre).length ≤ pre.length * 1000)
    (os.filter fun o => decide (o.2 < t)) [] [.val (.d (job f p)), .val (.d (outs os)), .val (.d (.str h.s)), .val (.d (.int t)), .own (.lst []), .un, .un, .un] ⟨_, _, rfl, by simp [behL]⟩ (by
      rintro pre o post e ρ ⟨z5, z6, rfl, hb⟩
      have hm : o ∈ os.filter fun o => decide (o.2 < t) := by
        have : o ∈ [] ++ os.filter fun o => decide (o.2 < t) := by rw [e]; simp
        simpa using this
      obtain ⟨ho, ho2⟩ := List.mem_filter.mp hm
      have hot : o.2 < t := of_decide_eq_true ho2
      have hlen : pre.length < os.length := by
        have := congrArg List.length e
        simp at this
        omega
      have st := behind_step hp hp' hf ht ht' hg hl h (behL f p h pre) (by omega) o ho hot .un (by intro w z; cases z)
      have ea : behL f p h (pre ++ [o]) = behL f p h pre ++ (stOf h (comIn f p o.1 o.2)).map fun c => (o.2, c) := by
        unfold behL; rw [List.flatMap_append]; simp
      refine ⟨_, _, rfl, .inl st, .val (.d (.int o.1)), .val (.d (.int o.2)), ?_, ?_⟩
      · rw [ea]
      · rw [ea]
        have g := hg.1 o ho
        have hn : (comIn f p o.1 o.2).length ≤ 1000 := by
          rw [comIn, List.length_map, List.length_range]
          have h1 := nb_le (p := p) (f := f) (m := o.2) hp hf (by omega)
          have h2 := nb_nonneg (f := f) hp o.1
          omega
        have hk := stOf_len h (comIn f p o.1 o.2)
        simp only [List.length_map, List.length_append, List.length_cons, List.length_nil]
        omega)
  obtain ⟨z5, z6, rfl, _⟩ := h2
  simp at h1
  simp [f_starts_behind, run_ap, s_starts_behind, entry, ee, big_val, h1, behT]
theorem beh_len : (behT f p os h t).length ≤ 1000000 := by
  have key : ∀ l : List (Int × Int), (∀ o ∈ l, o ∈ os ∧ o.2 < t) → (behL f p h l).length ≤ l.length * 1000 := by
    intro l
    induction l with
    | nil => intro _; simp [behL]
    | cons o l ih =>
      intro hh
      obtain ⟨ho, hot⟩ := hh o (by simp)
      have g := hg.1 o ho
      have hn : (comIn f p o.1 o.2).length ≤ 1000 := by
        rw [comIn, List.length_map, List.length_range]
        have h1 := nb_le (p := p) (f := f) (m := o.2) hp hf (by omega)
        have h2 := nb_nonneg (f := f) hp o.1
        omega
      have hk := stOf_len h (comIn f p o.1 o.2)
      have := ih fun o' h' => hh o' (by simp [h'])
      unfold behL at this ⊢
      rw [List.flatMap_cons, List.length_append, List.length_map, List.length_cons]
      omega
  have h1 := key (os.filter fun o => decide (o.2 < t)) fun o ho => by
    obtain ⟨a, b⟩ := List.mem_filter.mp ho
    exact ⟨a, of_decide_eq_true b⟩
  have h2 := List.length_filter_le (fun o : Int × Int => decide (o.2 < t)) os
  unfold behT
  omega
theorem kept_len : (keptT f p os t).length ≤ 1000 := by
  have h0 := List.length_filter_le (fun c => !(outW os c).isSome) (comIn f p 0 t)
  have h3 : (comIn f p 0 t).length ≤ 1000 := by
    rw [comIn, List.length_map, List.length_range]
    have h1 := nb_le (p := p) (f := f) (m := t) hp hf ht
    have h2 := nb_nonneg (f := f) hp 0
    omega
  unfold keptT; omega
end
def allT (f p : Int) (os : List (Int × Int)) (h : Hab) (t : Int) : List (Int × Int) := (keptT f p os t).map (fun c => (c, c)) ++ behT f p os h t
section
variable {f p t : Int} {os : List (Int × Int)} (hp : 0 < p) (hp' : p ≤ 1000) (hf : 0 ≤ f) (ht : 0 ≤ t) (ht' : t ≤ 1000) (hg : Good os) (hl : os.length ≤ 1000) (h : Hab)
include hp hp' hf ht ht' hg hl
theorem e_all : f_all_starts [.d (job f p), .d (outs os), .d (.str h.s), .d (.int t)] = .ok (.own (.lst (((allT f p os h t).mergeSort leII).map encII))) := by
  have ek := e_kept (os := os) hp hp' hf ht ht'
  have eb := e_behind hp hp' hf ht ht' hg hl h
  have l1 := kept_len hp hp' hf ht ht' hg hl
  have l2 := beh_len hp hp' hf ht ht' hg hl h
  have lc : lcL (gN 5) ttYes e1_all_starts (il (keptT f p os t)) [.val (.d (job f p)), .val (.d (outs os)), .val (.d (.str h.s)), .val (.d (.int t)), .un, .un] = .ok (((keptT f p os t).map fun c => (c, c)).map encII) := by
    rw [il, lcL_all .int (fun c => encII (c, c)) _ fun c _ => ⟨_, rfl, by simp [e1_all_starts, encII, big_val]⟩, List.map_map]; rfl
  have l3 : (keptT f p os t).length ≤ big := by rw [big_val]; omega
  have ad : pAdd (.d (.list (((keptT f p os t).map fun c => (c, c)).map encII))) (.d (.list ((behT f p os h t).map encII))) = .ok (.d (.list ((allT f p os h t).map encII))) := by
    rw [Pu.add_lists (by simp only [List.length_map, big_val]; omega), ← List.map_append]; rfl
  have so : pSorted [.d (.list ((allT f p os h t).map encII))] = .ok (.lst (((allT f p os h t).mergeSort leII).map encII)) := by
    show (if sortOk _ = true then Out.ok (OV.lst (sortD _)) else Out.no) = _
    rw [if_pos (sortOk_ii _), sortD_ii]
  simp only [List.map_map] at lc ad
  simp [f_all_starts, run_ap, s_all_starts, entry, ek, eb, noOwn, ltAll, unset, lc, l3, ad, so]
theorem e_starts : f_starts [.d (job f p), .d (outs os), .d (.str h.s), .d (.int t)] = .ok (.own (.lst (((allT f p os h t).mergeSort leII).map encII))) := by
  have ea := e_all hp hp' hf ht ht' hg hl h
  simp [f_starts, run_ap, s_starts, entry, e_plan os hg hl, ea]
end
/-! ### the law's own words -/
theorem e_law_outage (os : List (Int × Int)) (m : Int) : f__law_outage [.d (outs os), .d (.int m)] = .ok (.val (.d (encW (outW os m)))) := by
  have key : ∀ (l : List (Int × Int)) (z : Slot), thn (loopL (gN 2) b1__law_outage (l.map encO) [.val (.d (outs os)), .val (.d (.int m)), z]) (fRet (eC .none)) = .rt (.val (.d (encW (outW l m)))) := by
    intro l
    induction l with
    | nil => intro z; rfl
    | cons o l ih =>
      intro z
      have h2 : b1__law_outage [.val (.d (outs os)), .val (.d (.int m)), .val (.d (encO o))] = if decide (o.1 ≤ m) && decide (m < o.2) then .rt (.val (.d (encO o))) else .nx [.val (.d (outs os)), .val (.d (.int m)), .val (.d (encO o))] := by
        by_cases h1 : o.1 ≤ m
        · by_cases h2 : m < o.2
          · have h3 : m ≤ o.2 - 1 := by omega
            simp [b1__law_outage, h1, h2, h3, encO, ix2a, ix2b]
          · have h3 : ¬ m ≤ o.2 - 1 := by omega
            simp [b1__law_outage, h1, h2, h3, encO, ix2a, ix2b]
        · simp [b1__law_outage, h1, encO, ix2a, ix2b]
      rw [List.map_cons, loopL_cons]
      simp only [ap_gN, List.set_cons_succ, List.set_cons_zero, h2]
      unfold outW
      rw [List.find?_cons]
      cases q : decide (o.1 ≤ m) && decide (m < o.2) with
      | true => simp [encW]
      | false => simpa [outW] using ih _
  have := key os .un
  simp [f__law_outage, run_ap, s__law_outage, entry]
  unfold outs at this ⊢
  simp [this]
section
variable {f p t : Int} (hp : 0 < p) (hp' : p ≤ 1000) (hf : 0 ≤ f) (ht : 0 ≤ t) (ht' : t ≤ 1000)
include hp hp' hf ht ht'
theorem com0 : comIn f p 0 t = (List.range (nb f p t).toNat).map fun k : Nat => f + (k : Int) * p := by
  have e : nb f p 0 = 0 := by unfold nb; rw [if_pos hf]
  unfold comIn
  rw [e]
  simp
theorem e_law_comings : f__law_comings [.d (job f p), .d (.int t)] = .ok (.own (.lst (il (comIn f p 0 t)))) := by
  obtain ⟨n, hn⟩ : ∃ n : Nat, n = (nb f p t).toNat := ⟨_, rfl⟩
  have n0 := nb_nonneg (f := f) hp t
  have n1 := nb_le hp hf ht
  obtain ⟨ρ', h1, h2⟩ := loopW_ind (c := c1__law_comings) (s := b1__law_comings)
    (fun ρ => ∃ k : Nat, k ≤ n ∧ ρ = [.val (.d (job f p)), .val (.d (.int t)), .own (.lst (il ((List.range k).map fun k : Nat => f + (k : Int) * p))), .val (.d (.int (f + (k : Int) * p)))])
    (fun ρ : List Pu.Slot => match ρ[3]? with | some (Pu.Slot.val (.d (.int x))) => (t - x).toNat | _ => 0)
    (fun ρ => ∃ z, ρ = [.val (.d (job f p)), .val (.d (.int t)), .own (.lst (il (comIn f p 0 t))), z])
    (by
      rintro ρ ⟨k, hk, rfl⟩
      by_cases hlt : f + (k : Int) * p < t
      · refine .inr ⟨by simp [c1__law_comings, hlt], [.val (.d (job f p)), .val (.d (.int t)), .own (.lst (il ((List.range (k + 1)).map fun k : Nat => f + (k : Int) * p))), .val (.d (.int (f + ((k + 1 : Nat) : Int) * p)))], .inl ?_, ⟨k + 1, ?_, rfl⟩, ?_⟩
        · have hl : k < big := by rw [big_val]; omega
          have ej : pIx (.d (job f p)) (.d (.int 2)) = .ok (.d (.int p)) := ix_tup (by simp [atI, ixN])
          have ee : f + (k : Int) * p + p = f + ((k : Int) + 1) * p := by rw [Int.add_mul, Int.one_mul]; omega
          simp [b1__law_comings, hl, ej, List.range_succ, ee]
        · have := (nb_spec hp t k (by omega)).mpr hlt
          omega
        · have ee : f + ((k + 1 : Nat) : Int) * p = f + (k : Int) * p + p := by
            rw [show ((k + 1 : Nat) : Int) = (k : Int) + 1 from rfl, Int.add_mul, Int.one_mul]; omega
          show (t - (f + ((k + 1 : Nat) : Int) * p)).toNat < (t - (f + (k : Int) * p)).toNat
          rw [ee]; omega
      · refine .inl ⟨by simp [c1__law_comings, hlt], .val (.d (.int (f + (k : Int) * p))), ?_⟩
        have : ¬ (k : Int) < nb f p t := fun h => hlt ((nb_spec hp t k (by omega)).mp h)
        have e : k = (nb f p t).toNat := by omega
        rw [com0 hp hp' hf ht ht', e])
    fuel [.val (.d (job f p)), .val (.d (.int t)), .own (.lst []), .val (.d (.int f))] ⟨0, Nat.zero_le _, by simp⟩ (by show (t - f).toNat < fuel; unfold fuel; omega)
  obtain ⟨z, rfl⟩ := h2
  have ej : pIx (.d (job f p)) (.d (.int 1)) = .ok (.d (.int f)) := ix_tup (by simp [atI, ixN])
  simp [f__law_comings, run_ap, s__law_comings, entry, big_val, ej, h1]
end
theorem e_law_started (h : Hab) (cs : List Int) (hc : cs ≠ []) (hl : cs.length ≤ 100000) : ∃ r, f__law_started [.d (.list (il cs)), .d (.str h.s)] = .ok r ∧ r.pv = .d (.list (il (stOf h cs))) := by
  have hlen : (0 : Int) ≤ ((cs.length : Int) - 1) ∧ ((cs.length : Int) - 1) < cs.length := by
    have : 0 < cs.length := List.length_pos_iff.mpr hc
    omega
  have ne : pEq (.d (.list (il cs))) (.d (.list [])) = .ok false := by
    cases cs with
    | nil => exact absurd rfl hc
    | cons c cs => simp [pEq, PyData.eqv, PyData.depth, PyData.depthAll, PyData.eqvAll]
  have at0 : ∃ c, atI cs 0 = some c ∧ cs.take 1 = [c] := by
    cases cs with
    | nil => exact absurd rfl hc
    | cons c cs => exact ⟨c, by simp [atI, ixN], rfl⟩
  cases h
  · refine ⟨.own (.lst []), ?_, by simp [stOf]⟩
    simp [f__law_started, run_ap, s__law_started, entry, Hab.s, big_val]
  · refine ⟨.val (.d (.list (il cs))), ?_, by simp [stOf]⟩
    simp [f__law_started, run_ap, s__law_started, entry, Hab.s]
  · obtain ⟨c, hc1, hc2⟩ := atI_some (xs := cs) hlen.1 hlen.2
    have e1 : pIx (.d (.list (il cs))) (.d (.int ((cs.length : Int) - 1))) = .ok (.d (.int c)) := ix_map .int hc2
    have e2 : pIx (.d (.list [.int 0, .int ((cs.length : Int) - 1)])) (.d (.int 1)) = .ok (.d (.int ((cs.length : Int) - 1))) := ix_list (by simp [atI, ixN])
    refine ⟨.own (.lst (il [c])), ?_, ?_⟩
    · simp [f__law_started, run_ap, s__law_started, entry, Hab.s, ne, big_val, e1, e2]
    · rw [atI_get hlen.1 hlen.2] at hc2
      have e3 : ((cs.length : Int) - 1).toNat = cs.length - 1 := by omega
      rw [e3] at hc2
      have hlt := lt_of_get hc2
      have : cs.drop (cs.length - 1) = [c] := by
        rw [List.drop_eq_getElem_cons hlt]
        rw [List.getElem?_eq_getElem hlt] at hc2
        rw [Option.some.inj hc2, List.drop_of_length_le (by omega)]
      simp [stOf, this]
  · obtain ⟨c, hc1, hc2⟩ := at0
    have e1 : pIx (.d (.list (il cs))) (.d (.int 0)) = .ok (.d (.int c)) := ix_map .int hc1
    have e2 : pIx (.d (.list [.int 0, .int ((cs.length : Int) - 1)])) (.d (.int 0)) = .ok (.d (.int 0)) := ix_list (by simp [atI, ixN])
    refine ⟨.own (.lst (il [c])), ?_, by simp [stOf, hc2]⟩
    simp [f__law_started, run_ap, s__law_started, entry, Hab.s, ne, big_val, e1, e2]
/-! ### the law's starts: the missed comings by outage -/
abbrev Gone := List ((Int × Int) × List Int)
def keyO (o : Int × Int) : List Key := [.inl o.1, .inl o.2]
def gn (g : Gone) : List (List Key × List PyData) := g.map fun q => (keyO q.1, il q.2)
/-- one more coming c of the outage o -/
def gmod : Gone → Int × Int → Int → Gone
  | [], _, _ => []
  | q :: r, o, c => if q.1 = o then (q.1, q.2 ++ [c]) :: r else q :: gmod r o c
def gput (g : Gone) (o : Int × Int) (c : Int) : Gone := if (g.any fun q => decide (q.1 = o)) = true then gmod g o c else g ++ [(o, [c])]
def gstep (os : List (Int × Int)) (a : List Int × Gone) (c : Int) : List Int × Gone := match outW os c with
  | none => (a.1 ++ [c], a.2)
  | some o => (a.1, gput a.2 o c)
theorem keyO_inj {a b : Int × Int} : keyO a = keyO b ↔ a = b := by
  unfold keyO
  constructor
  · intro h
    simp at h
    exact Prod.ext h.1 h.2
  · rintro rfl; rfl
theorem gn_any (g : Gone) (o : Int × Int) : (((gn g).map Prod.fst).any fun x => decide (x = keyO o)) = g.any fun q => decide (q.1 = o) := by
  induction g with
  | nil => rfl
  | cons q g ih =>
    have e : decide (keyO q.1 = keyO o) = decide (q.1 = o) := decide_eq_decide.mpr keyO_inj
    have : gn (q :: g) = (keyO q.1, il q.2) :: gn g := rfl
    rw [this, List.map_cons, List.any_cons, List.any_cons, ih, e]
theorem gn_get (g : Gone) (o : Int × Int) (h : (g.any fun q => decide (q.1 = o)) = true) : ∃ v, (o, v) ∈ g ∧ dget (gn g) (keyO o) = some (il v) := by
  induction g with
  | nil => cases h
  | cons q g ih =>
    have e1 : gn (q :: g) = (keyO q.1, il q.2) :: gn g := rfl
    by_cases hq : q.1 = o
    · refine ⟨q.2, by rw [← hq]; exact List.mem_cons_self, ?_⟩
      rw [e1, ← hq]
      simp [dget, List.find?_cons]
    · rw [List.any_cons, decide_eq_false hq, Bool.false_or] at h
      obtain ⟨v, h1, h2⟩ := ih h
      refine ⟨v, List.mem_cons_of_mem _ h1, ?_⟩
      rw [e1]
      have : ¬ keyO q.1 = keyO o := fun z => hq (keyO_inj.mp z)
      simp only [dget, List.find?_cons, decide_eq_false this] at h2 ⊢
      exact h2
theorem gn_mod (g : Gone) (o : Int × Int) (c : Int) : dmod (gn g) (keyO o) (· ++ [.int c]) = gn (gmod g o c) := by
  induction g with
  | nil => rfl
  | cons q g ih =>
    have e1 : gn (q :: g) = (keyO q.1, il q.2) :: gn g := rfl
    rw [e1]
    unfold dmod gmod
    by_cases hq : q.1 = o
    · rw [if_pos hq, if_pos (keyO_inj.mpr hq)]
      simp [gn]
    · rw [if_neg hq, if_neg (fun z => hq (keyO_inj.mp z)), ih]
      rfl
theorem gn_new (g : Gone) (o : Int × Int) (c : Int) (h : (g.any fun q => decide (q.1 = o)) = false) : dget (gn g ++ [(keyO o, [])]) (keyO o) = some [] ∧ dmod (gn g ++ [(keyO o, [])]) (keyO o) (· ++ [.int c]) = gn (g ++ [(o, [c])]) := by
  induction g with
  | nil => exact ⟨by simp [gn, dget], by simp [gn, dmod]⟩
  | cons q g ih =>
    rw [List.any_cons, Bool.or_eq_false_iff] at h
    have hq : ¬ q.1 = o := of_decide_eq_false h.1
    have hk : ¬ keyO q.1 = keyO o := fun z => hq (keyO_inj.mp z)
    obtain ⟨i1, i2⟩ := ih h.2
    have e1 : gn (q :: g) ++ [(keyO o, [])] = (keyO q.1, il q.2) :: (gn g ++ [(keyO o, [])]) := rfl
    rw [e1]
    refine ⟨?_, ?_⟩
    · simp only [dget, List.find?_cons, decide_eq_false hk] at i1 ⊢
      exact i1
    · unfold dmod
      rw [if_neg hk, i2]; rfl
def Few (n : Nat) (a : List Int × Gone) : Prop := a.1.length ≤ n ∧ a.2.length ≤ n ∧ ∀ q ∈ a.2, q.2.length ≤ n
theorem gmod_few {n : Nat} {o : Int × Int} {c : Int} : ∀ {g : Gone}, (∀ q ∈ g, q.2.length ≤ n) → ∀ q ∈ gmod g o c, q.2.length ≤ n + 1
  | [], _, q, hq => by cases hq
  | x :: g, h, q, hq => by
    unfold gmod at hq
    split at hq
    · rcases List.mem_cons.mp hq with rfl | hq
      · have := h x (by simp)
        simp; omega
      · have := h q (by simp [hq]); omega
    · rcases List.mem_cons.mp hq with rfl | hq
      · have := h q (by simp); omega
      · exact gmod_few (fun y hy => h y (by simp [hy])) q hq
theorem gmod_len (o : Int × Int) (c : Int) : ∀ g : Gone, (gmod g o c).length = g.length
  | [] => rfl
  | x :: g => by
    unfold gmod
    split
    · rfl
    · simp [gmod_len o c g]
theorem gstep_few {os : List (Int × Int)} {n : Nat} {a : List Int × Gone} (c : Int) (h : Few n a) : Few (n + 1) (gstep os a c) := by
  obtain ⟨h1, h2, h3⟩ := h
  unfold gstep
  cases outW os c with
  | none => exact ⟨by simp; omega, by simp; omega, fun q hq => Nat.le_succ_of_le (h3 q hq)⟩
  | some o =>
    refine ⟨by simp; omega, ?_, ?_⟩
    · show (gput a.2 o c).length ≤ _
      unfold gput
      split
      · rw [gmod_len]; omega
      · simp; omega
    · show ∀ q ∈ gput a.2 o c, _
      unfold gput
      split
      · exact gmod_few h3
      · intro q hq
        rcases List.mem_append.mp hq with hq | hq
        · have := h3 q hq; omega
        · simp at hq; subst hq; simp
theorem law_step (f p t c : Int) (os : List (Int × Int)) (h : Hab) (a : List Int × Gone) (hf : Few 1000000 a) (z7 : Slot) :
    b1__law_starts [.val (.d (job f p)), .val (.d (outs os)), .val (.d (.str h.s)), .val (.d (.int t)), .own (.lst ((a.1.map fun c => (c, c)).map encII)), .own (.mT (gn a.2)), .val (.d (.int c)), z7] =
      .nx [.val (.d (job f p)), .val (.d (outs os)), .val (.d (.str h.s)), .val (.d (.int t)), .own (.lst (((gstep os a c).1.map fun c => (c, c)).map encII)), .own (.mT (gn (gstep os a c).2)), .val (.d (.int c)), .val (.d (encW (outW os c)))] := by
  obtain ⟨h1, h2, h3⟩ := hf
  unfold gstep
  cases q : outW os c with
  | none =>
    have l1 : a.1.length < big := by rw [big_val]; omega
    simp [b1__law_starts, e_law_outage, q, encW, pIs, Pu.isNon, l1, big_val, encII]
  | some o =>
    have ek : asT (.d (encO o)) = some (keyO o) := by simp [asT, encO, keysOf, keyOf, keyO]
    have eis : pIs (.d (encO o)) (.d .none) = .ok false := by simp [pIs, encO, Pu.isNon]
    have ein : pNotIn (.d (encO o)) (.kyT ((gn a.2).map Prod.fst)) = .ok (!a.2.any fun q => decide (q.1 = o)) := by
      rw [← gn_any]; rfl
    cases hm : a.2.any fun q => decide (q.1 = o) with
    | true =>
      obtain ⟨v, hv1, hv2⟩ := gn_get a.2 o hm
      have l2 : v.length < big := by
        have : v.length ≤ 1000000 := h3 _ hv1
        rw [big_val]; omega
      have := gn_mod a.2 o c
      simp [b1__law_starts, e_law_outage, q, encW, eis, ein, hm, fMApp, ek, hv2, l2, this, gput]
    | false =>
      have l3 : (gn a.2).length < big := by simp only [gn, List.length_map, big_val]; omega
      obtain ⟨n1, n2⟩ := gn_new a.2 o c hm
      have n3 := gn_any a.2 o
      rw [hm] at n3
      simp [b1__law_starts, e_law_outage, q, encW, eis, ein, hm, fMApp, fMNew, ek, n1, n2, n3, l3, gput]
theorem gput_keys (g : Gone) (o : Int × Int) (c : Int) : (gput g o c).map Prod.fst = if (g.any fun q => decide (q.1 = o)) = true then g.map Prod.fst else g.map Prod.fst ++ [o] := by
  have hm : ∀ g : Gone, (gmod g o c).map Prod.fst = g.map Prod.fst := by
    intro g
    induction g with
    | nil => rfl
    | cons q g ih =>
      unfold gmod
      split
      · simp
      · simp [ih]
  unfold gput
  split
  · exact hm g
  · simp
theorem any_mem {g : Gone} {o : Int × Int} : (g.any fun q => decide (q.1 = o)) = true ↔ o ∈ g.map Prod.fst := by
  rw [List.any_eq_true, List.mem_map]
  constructor
  · rintro ⟨q, h1, h2⟩; exact ⟨q, h1, of_decide_eq_true h2⟩
  · rintro ⟨q, h1, h2⟩; exact ⟨q, h1, decide_eq_true h2⟩
/-- what the law has gathered of the comings cs -/
def Gat (os : List (Int × Int)) (cs : List Int) (a : List Int × Gone) : Prop :=
  a.1 = cs.filter (fun c => !(outW os c).isSome) ∧ (a.2.map Prod.fst).Nodup ∧ (∀ q ∈ a.2, q.2 = cs.filter (fun c => decide (outW os c = some q.1)) ∧ q.2 ≠ []) ∧ ∀ c ∈ cs, ∀ o, outW os c = some o → o ∈ a.2.map Prod.fst
theorem gmod_mem {o : Int × Int} {c : Int} : ∀ {g : Gone}, (g.map Prod.fst).Nodup → ∀ q ∈ gmod g o c, (q.1 ≠ o ∧ q ∈ g) ∨ ∃ v, q = (o, v ++ [c]) ∧ (o, v) ∈ g
  | [], _, q, h => by cases h
  | x :: g, nd, q, h => by
    rw [List.map_cons, List.nodup_cons] at nd
    unfold gmod at h
    split at h
    · rename_i hx
      rcases List.mem_cons.mp h with rfl | h
      · exact .inr ⟨x.2, by rw [← hx], by rw [← hx]; exact List.mem_cons_self⟩
      · refine .inl ⟨fun z => nd.1 ?_, by simp [h]⟩
        rw [hx, ← z]; exact List.mem_map.mpr ⟨q, h, rfl⟩
    · rename_i hx
      rcases List.mem_cons.mp h with rfl | h
      · exact .inl ⟨hx, by simp⟩
      · rcases gmod_mem nd.2 q h with ⟨h1, h2⟩ | ⟨v, h1, h2⟩
        · exact .inl ⟨h1, by simp [h2]⟩
        · exact .inr ⟨v, h1, by simp [h2]⟩
theorem gat_step {os : List (Int × Int)} {cs : List Int} {a : List Int × Gone} (c : Int) (h : Gat os cs a) : Gat os (cs ++ [c]) (gstep os a c) := by
  obtain ⟨h1, h2, h3, h4⟩ := h
  unfold gstep
  cases q : outW os c with
  | none =>
    refine ⟨?_, h2, fun x hx => ?_, fun c' hc' o ho => ?_⟩
    · rw [List.filter_append, h1]; simp [q]
    · obtain ⟨e1, e2⟩ := h3 x hx
      refine ⟨?_, e2⟩
      rw [List.filter_append, ← e1]; simp [q]
    · rcases List.mem_append.mp hc' with hc' | hc'
      · exact h4 c' hc' o ho
      · simp at hc'; subst hc'; rw [q] at ho; cases ho
  | some o =>
    have hk := gput_keys a.2 o c
    refine ⟨?_, ?_, fun x hx => ?_, fun c' hc' o' ho => ?_⟩
    · rw [List.filter_append, h1]; simp [q]
    · show ((gput a.2 o c).map Prod.fst).Nodup
      rw [hk]
      split
      · exact h2
      · rename_i hn
        refine List.nodup_append.mpr ⟨h2, by simp, ?_⟩
        intro x hx y hy
        simp at hy; subst hy
        rintro rfl
        exact hn (any_mem.mpr hx)
    · have hx' : x ∈ gput a.2 o c := hx
      unfold gput at hx'
      split at hx'
      · rcases gmod_mem h2 x hx' with ⟨e1, e2⟩ | ⟨v, e1, e2⟩
        · obtain ⟨e3, e4⟩ := h3 x e2
          refine ⟨?_, e4⟩
          rw [List.filter_append, ← e3]
          have : ¬ o = x.1 := fun z => e1 z.symm
          simp [q, this]
        · obtain ⟨e3, e4⟩ := h3 _ e2
          subst e1
          refine ⟨?_, by simp⟩
          show v ++ [c] = _
          rw [List.filter_append, ← e3]
          simp [q]
      · rename_i hn
        rcases List.mem_append.mp hx' with hx' | hx'
        · obtain ⟨e3, e4⟩ := h3 x hx'
          refine ⟨?_, e4⟩
          have : ¬ o = x.1 := fun z => hn (any_mem.mpr (by rw [z]; exact List.mem_map.mpr ⟨x, hx', rfl⟩))
          rw [List.filter_append, ← e3]
          simp [q, this]
        · simp at hx'; subst hx'
          refine ⟨?_, by simp⟩
          show [c] = _
          rw [List.filter_append, List.filter_eq_nil_iff.mpr]
          · simp [q]
          · intro c' hc' z
            exact hn (any_mem.mpr (h4 c' hc' o (of_decide_eq_true z)))
    · show o' ∈ (gput a.2 o c).map Prod.fst
      rw [hk]
      rcases List.mem_append.mp hc' with hc' | hc'
      · have := h4 c' hc' o' ho
        split
        · exact this
        · simp [this]
      · simp at hc'; subst hc'
        rw [q] at ho; cases ho
        split
        · rename_i hy; exact any_mem.mp hy
        · simp
theorem gat_all (os : List (Int × Int)) (cs : List Int) : Gat os cs (cs.foldl (gstep os) ([], [])) := by
  have : ∀ (ds cs : List Int) (a : List Int × Gone), Gat os cs a → Gat os (cs ++ ds) (ds.foldl (gstep os) a) := by
    intro ds
    induction ds with
    | nil => intro cs a h; simpa using h
    | cons d ds ih =>
      intro cs a h
      have := ih (cs ++ [d]) _ (gat_step d h)
      simpa using this
  simpa using this cs [] ([], []) ⟨rfl, by simp, by simp, by simp⟩
end K63
namespace K63
open PySem PySem.Spec PyProof.Rows L2 Pu
/-- what one outage adds -/
def addO (h : Hab) (t : Int) (q : (Int × Int) × List Int) : List (Int × Int) := if q.1.2 < t then (stOf h q.2).map fun c => (q.1.2, c) else []
def lawT (f p : Int) (os : List (Int × Int)) (h : Hab) (t : Int) : List (Int × Int) := (((comIn f p 0 t).foldl (gstep os) ([], [])).1.map fun c => (c, c)) ++ ((comIn f p 0 t).foldl (gstep os) ([], [])).2.flatMap (addO h t)
theorem few_all (os : List (Int × Int)) : ∀ (cs : List Int) (n : Nat) (a : List Int × Gone), Few n a → Few (n + cs.length) (cs.foldl (gstep os) a)
  | [], n, a, h => h
  | c :: cs, n, a, h => by
    have := few_all os cs (n + 1) _ (gstep_few (os := os) c h)
    rw [List.length_cons, Nat.add_comm cs.length 1, ← Nat.add_assoc]
    exact this
section
variable {f p t : Int} {os : List (Int × Int)} (hp : 0 < p) (hp' : p ≤ 1000) (hf : 0 ≤ f) (ht : 0 ≤ t) (ht' : t ≤ 1000) (h : Hab)
include hp hp' hf ht ht'
theorem cs_len : (comIn f p 0 t).length ≤ 1000 := by
  rw [comIn, List.length_map, List.length_range]
  have h1 := nb_le (p := p) (f := f) (m := t) hp hf ht
  have h2 := nb_nonneg (f := f) hp 0
  omega
theorem loop1 : ∃ z6 z7, (∀ w, z6 ≠ .own w) ∧ loopL (gN 6) b1__law_starts (il (comIn f p 0 t)) [.val (.d (job f p)), .val (.d (outs os)), .val (.d (.str h.s)), .val (.d (.int t)), .own (.lst []), .own (.mT []), .un, .un] =
    .nx [.val (.d (job f p)), .val (.d (outs os)), .val (.d (.str h.s)), .val (.d (.int t)), .own (.lst ((((comIn f p 0 t).foldl (gstep os) ([], [])).1.map fun c => (c, c)).map encII)), .own (.mT (gn ((comIn f p 0 t).foldl (gstep os) ([], [])).2)), z6, z7] := by
  have hl := cs_len hp hp' hf ht ht'
  obtain ⟨ρ', h1, z6, z7, hz, rfl⟩ := loop_ind (g := gN 6) (s := b1__law_starts) PyData.int
    (fun pre ρ => ∃ z6 z7, (∀ w, z6 ≠ .own w) ∧ ρ = [.val (.d (job f p)), .val (.d (outs os)), .val (.d (.str h.s)), .val (.d (.int t)), .own (.lst (((pre.foldl (gstep os) ([], [])).1.map fun c => (c, c)).map encII)), .own (.mT (gn (pre.foldl (gstep os) ([], [])).2)), z6, z7])
    (comIn f p 0 t) [] [.val (.d (job f p)), .val (.d (outs os)), .val (.d (.str h.s)), .val (.d (.int t)), .own (.lst []), .own (.mT []), .un, .un] ⟨.un, .un, by simp, rfl⟩ (by
      rintro pre c post e ρ ⟨z6, z7, hz, rfl⟩
      have hlen : pre.length ≤ 1000 := by
        have := congrArg List.length e
        simp at this
        omega
      have fw : Few 1000000 (pre.foldl (gstep os) ([], [])) := by
        obtain ⟨a1, a2, a3⟩ := few_all os pre 0 ([], []) ⟨by simp, by simp, by simp⟩
        exact ⟨by omega, by omega, fun q hq => by have := a3 q hq; omega⟩
      have st := law_step f p t c os h (pre.foldl (gstep os) ([], [])) fw z7
      refine ⟨_, _, rfl, .inl st, .val (.d (.int c)), .val (.d (encW (outW os c))), by simp, ?_⟩
      rw [List.foldl_append]; rfl)
  exact ⟨z6, z7, hz, by simpa using h1⟩
end
theorem dget_in {g : Gone} (nd : (g.map Prod.fst).Nodup) {q : (Int × Int) × List Int} (hq : q ∈ g) : dget (inL (gn g)) (keyO q.1) = some (.list (il q.2)) := by
  induction g with
  | nil => cases hq
  | cons x g ih =>
    rw [List.map_cons, List.nodup_cons] at nd
    have e1 : inL (gn (x :: g)) = (keyO x.1, PyData.list (il x.2)) :: inL (gn g) := rfl
    rw [e1]
    rcases List.mem_cons.mp hq with rfl | hq
    · simp [dget, List.find?_cons]
    · have hne : ¬ keyO x.1 = keyO q.1 := fun z => nd.1 (by rw [keyO_inj.mp z]; exact List.mem_map.mpr ⟨q, hq, rfl⟩)
      have := ih nd.2 hq
      simp only [dget, List.find?_cons, decide_eq_false hne] at this ⊢
      exact this
/-- the list in a slot, owned or not -/
def lstIn (s : Slot) (xs : List PyData) : Prop := s = .own (.lst xs) ∨ s = .val (.d (.list xs))
theorem law_step2 (f p t : Int) (os : List (Int × Int)) (h : Hab) (g : Gone) (nd : (g.map Prod.fst).Nodup) (q : (Int × Int) × List Int) (hq : q ∈ g) (hne : q.2 ≠ []) (hl : q.2.length ≤ 1000) (fs : List (Int × Int)) (hfs : fs.length ≤ 2000000) (s4 z6 z7 : Slot) (h4 : lstIn s4 (fs.map encII)) (hz : ∀ w, z6 ≠ .own w) :
    ∃ s4', lstIn s4' ((fs ++ addO h t q).map encII) ∧ b2__law_starts [.val (.d (job f p)), .val (.d (outs os)), .val (.d (.str h.s)), .val (.d (.int t)), s4, .val (.dT (inL (gn g))), z6, .val (.d (encO q.1))] =
      .nx [.val (.d (job f p)), .val (.d (outs os)), .val (.d (.str h.s)), .val (.d (.int t)), s4', .val (.dT (inL (gn g))), z6, .val (.d (encO q.1))] := by
  by_cases hlt : q.1.2 < t
  · obtain ⟨r, e1, e2⟩ := e_law_started h q.2 hne (by omega)
    have hk := stOf_len h q.2
    have eg : pIx (.dT (inL (gn g))) (.d (encO q.1)) = .ok (.d (.list (il q.2))) := by
      have := dget_in nd hq
      show (match dget (inL (gn g)) (keyO q.1) with | some d => Out.ok (PV.d d) | none => Out.no) = _
      rw [this]
    have lc : lcL (gN 6) ttYes e1__law_starts (il (stOf h q.2)) [.val (.d (job f p)), .val (.d (outs os)), .val (.d (.str h.s)), .val (.d (.int t)), s4, .val (.dT (inL (gn g))), .un, .val (.d (encO q.1))] = .ok (((stOf h q.2).map fun c => (q.1.2, c)).map encII) := by
      rw [il, lcL_all .int (fun c => encII (q.1.2, c)) _ fun c _ => ⟨_, rfl, by simp [e1__law_starts, encO, ix2b, encII, big_val]⟩, List.map_map]; rfl
    have l1 : (stOf h q.2).length ≤ big := by rw [big_val]; omega
    have ad : pAdd (.d (.list (fs.map encII))) (.d (.list (((stOf h q.2).map fun c => (q.1.2, c)).map encII))) = .ok (.d (.list ((fs ++ addO h t q).map encII))) := by
      rw [Pu.add_lists (by simp only [List.length_map, big_val]; omega), ← List.map_append]
      unfold addO; rw [if_pos hlt]
    have nz : noOwn [6] [.val (.d (job f p)), .val (.d (outs os)), .val (.d (.str h.s)), .val (.d (.int t)), s4, .val (.dT (inL (gn g))), z6, .val (.d (encO q.1))] = true := by
      cases z6 with
      | own w => exact absurd rfl (hz w)
      | _ => rfl
    have e4 : eVar 4 [.val (.d (job f p)), .val (.d (outs os)), .val (.d (.str h.s)), .val (.d (.int t)), s4, .val (.dT (inL (gn g))), z6, .val (.d (encO q.1))] = .ok (.d (.list (fs.map encII))) := by
      rcases h4 with rfl | rfl <;> rfl
    have eo : pIx (.d (encO q.1)) (.d (.int 1)) = .ok (.d (.int q.1.2)) := ix2b _ _
    refine ⟨.val (.d (.list ((fs ++ addO h t q).map encII))), .inr rfl, ?_⟩
    rw [b2__law_starts, ap_fIf]
    simp only [ap_eC2, ap_e2]
    have et : ((eVar 7 [.val (.d (job f p)), .val (.d (outs os)), .val (.d (.str h.s)), .val (.d (.int t)), s4, .val (.dT (inL (gn g))), z6, .val (.d (encO q.1))] >>= fun v => eC (.int 1) [.val (.d (job f p)), .val (.d (outs os)), .val (.d (.str h.s)), .val (.d (.int t)), s4, .val (.dT (inL (gn g))), z6, .val (.d (encO q.1))] >>= fun w => pIx v w) >>= fun v => eVar 3 [.val (.d (job f p)), .val (.d (outs os)), .val (.d (.str h.s)), .val (.d (.int t)), s4, .val (.dT (inL (gn g))), z6, .val (.d (encO q.1))] >>= fun w => pLt v w) = .ok true := by
      simp [eo, hlt]
    rw [et, ifc_true, ap_fSet, ap_e2, e4, ap_fz]
    simp only [List.map_map] at lc ad
    simp [eg, e1, e2, nz, ltAll, unset, lc, l1, ad]
  · refine ⟨s4, ?_, ?_⟩
    · unfold addO; rw [if_neg hlt]; simpa using h4
    · simp [b2__law_starts, encO, ix2b, hlt]
theorem keys_gn (g : Gone) : keysT (inL (gn g)) = g.map fun q => encO q.1 := by
  unfold keysT inL gn
  rw [List.map_map, List.map_map]
  rfl
theorem addO_len {g : Gone} (hg : ∀ q ∈ g, q.2.length ≤ 1000) (h : Hab) (t : Int) : (g.flatMap (addO h t)).length ≤ g.length * 1000 := by
  induction g with
  | nil => simp
  | cons q g ih =>
    rw [List.flatMap_cons, List.length_append, List.length_cons]
    have h1 := ih fun x hx => hg x (by simp [hx])
    have h2 := hg q (by simp)
    have h3 := stOf_len h q.2
    have h4 : (addO h t q).length ≤ 1000 := by
      unfold addO
      split
      · rw [List.length_map]; omega
      · simp
    omega
theorem loop2 (f p t : Int) (os : List (Int × Int)) (h : Hab) (g : Gone) (nd : (g.map Prod.fst).Nodup) (hne : ∀ q ∈ g, q.2 ≠ []) (hl : ∀ q ∈ g, q.2.length ≤ 1000) (hgl : g.length ≤ 1000) (bs : List (Int × Int)) (hb : bs.length ≤ 1000) (z6 z7 : Slot) (hz : ∀ w, z6 ≠ .own w) :
    ∃ s4 z7', lstIn s4 ((bs ++ g.flatMap (addO h t)).map encII) ∧ loopL (gN 7) b2__law_starts (g.map fun q => encO q.1) [.val (.d (job f p)), .val (.d (outs os)), .val (.d (.str h.s)), .val (.d (.int t)), .own (.lst (bs.map encII)), .val (.dT (inL (gn g))), z6, z7] =
      .nx [.val (.d (job f p)), .val (.d (outs os)), .val (.d (.str h.s)), .val (.d (.int t)), s4, .val (.dT (inL (gn g))), z6, z7'] := by
  obtain ⟨ρ', h1, s4, z7', h2, rfl⟩ := loop_ind (g := gN 7) (s := b2__law_starts) (fun q : (Int × Int) × List Int => encO q.1)
    (fun pre ρ => ∃ s4 z7, lstIn s4 ((bs ++ pre.flatMap (addO h t)).map encII) ∧ ρ = [.val (.d (job f p)), .val (.d (outs os)), .val (.d (.str h.s)), .val (.d (.int t)), s4, .val (.dT (inL (gn g))), z6, z7])
    g [] [.val (.d (job f p)), .val (.d (outs os)), .val (.d (.str h.s)), .val (.d (.int t)), .own (.lst (bs.map encII)), .val (.dT (inL (gn g))), z6, z7] ⟨_, z7, .inl (by simp), rfl⟩ (by
      rintro pre q post e ρ ⟨s4, z7, h4, rfl⟩
      have hq : q ∈ g := by
        have : q ∈ [] ++ g := by rw [e]; simp
        simpa using this
      have hpre : ∀ x ∈ pre, x ∈ g := fun x hx => by
        have : x ∈ [] ++ g := by rw [e]; simp [hx]
        simpa using this
      have hpl : pre.length ≤ 1000 := by
        have := congrArg List.length e
        simp at this
        omega
      have hal := addO_len (g := pre) (fun x hx => hl x (hpre x hx)) h t
      obtain ⟨s4', h5, h6⟩ := law_step2 f p t os h g nd q hq (hne q hq) (hl q hq) (bs ++ pre.flatMap (addO h t)) (by rw [List.length_append]; omega) s4 z6 z7 h4 hz
      refine ⟨_, _, rfl, .inl h6, s4', .val (.d (encO q.1)), ?_, rfl⟩
      rw [List.flatMap_append]
      simpa using h5)
  exact ⟨s4, z7', by simpa using h2, h1⟩
section
variable {f p t : Int} {os : List (Int × Int)} (hp : 0 < p) (hp' : p ≤ 1000) (hf : 0 ≤ f) (ht : 0 ≤ t) (ht' : t ≤ 1000) (h : Hab)
include hp hp' hf ht ht'
theorem e_law_starts : f__law_starts [.d (job f p), .d (outs os), .d (.str h.s), .d (.int t)] = .ok (.own (.lst (((lawT f p os h t).mergeSort leII).map encII))) := by
  have hc := cs_len hp hp' hf ht ht'
  obtain ⟨z6, z7, hz, l1⟩ := loop1 (os := os) hp hp' hf ht ht' h
  obtain ⟨f1, f2, f3⟩ := few_all os (comIn f p 0 t) 0 ([], []) ⟨by simp, by simp, by simp⟩
  obtain ⟨g1, g2, g3, g4⟩ := gat_all os (comIn f p 0 t)
  obtain ⟨s4, z7', h4, l2⟩ := loop2 f p t os h _ g2 (fun q hq => (g3 q hq).2) (fun q hq => by have := f3 q hq; omega) (by omega) ((((comIn f p 0 t).foldl (gstep os) ([], [])).1.map fun c => (c, c))) (by rw [List.length_map]; omega) z6 z7 hz
  have ec := e_law_comings hp hp' hf ht ht'
  have so : pSorted [.d (.list ((lawT f p os h t).map encII))] = .ok (.lst (((lawT f p os h t).mergeSort leII).map encII)) := by
    show (if sortOk _ = true then Out.ok (OV.lst (sortD _)) else Out.no) = _
    rw [if_pos (sortOk_ii _), sortD_ii]
  have e4 : eVar 4 [.val (.d (job f p)), .val (.d (outs os)), .val (.d (.str h.s)), .val (.d (.int t)), s4, .val (.dT (inL (gn ((comIn f p 0 t).foldl (gstep os) ([], [])).2))), z6, z7'] = .ok (.d (.list ((lawT f p os h t).map encII))) := by
    rcases h4 with rfl | rfl <;> rfl
  rw [← keys_gn] at l2
  clear g1 g2 g3 g4 f1 f2 f3 h4
  generalize ((comIn f p 0 t).foldl (gstep os) ([], [])).1.map (fun c => (c, c)) = B at *
  generalize ((comIn f p 0 t).foldl (gstep os) ([], [])).2 = G at *
  unfold f__law_starts
  rw [run_ap]
  unfold s__law_starts
  simp only [entry, List.map_cons, List.map_nil, List.length_cons, List.length_nil, List.cons_append, List.nil_append, ap_fSeq, ap_fSetO, ap_oLst, ap_aNil, out_ok, datas_nil, ap_oNew, ctl_ok]
  simp [big_val, ec, l1, l2, noEx, e4, so, -ap_eVar]
end
end K63
namespace K63
open PySem PySem.Spec PyProof.Rows L2 Pu
theorem flat_filter {α β : Type} (P : α → Bool) (K : α → List β) (h : ∀ x, P x = false → K x = []) : ∀ l : List α, (l.filter P).flatMap K = l.flatMap K
  | [] => rfl
  | x :: l => by
    rw [List.filter_cons, List.flatMap_cons]
    cases q : P x with
    | true => rw [if_pos rfl, List.flatMap_cons, flat_filter P K h l]
    | false => rw [if_neg Bool.false_ne_true, h x q, List.nil_append, flat_filter P K h l]
theorem fm_congr {α β : Type} {f g : α → List β} : ∀ {l : List α}, (∀ x ∈ l, f x = g x) → l.flatMap f = l.flatMap g
  | [], _ => rfl
  | x :: l, h => by rw [List.flatMap_cons, List.flatMap_cons, h x (by simp), fm_congr fun y hy => h y (by simp [hy])]
theorem good_pw : ∀ {os : List (Int × Int)}, Good os → os.Pairwise fun a b => a.2 < b.1
  | [], _ => .nil
  | [a], _ => by simp
  | a :: b :: r, h => by
    obtain ⟨h1, h2⟩ := h
    have hr : Good (b :: r) := ⟨fun o ho => h1 o (by simp [ho]), fun q hq => h2 q (by
      have : q ∈ (a, b) :: (b :: r).zip r := by
        simp only [List.drop_succ_cons, List.drop_zero] at hq
        exact List.mem_cons_of_mem _ hq
      simpa using this)⟩
    have ih := good_pw hr
    have hab : a.2 < b.1 := h2 (a, b) (by simp)
    refine .cons (fun x hx => ?_) ih
    rcases List.mem_cons.mp hx with rfl | hx
    · exact hab
    · have h3 := (List.pairwise_cons.mp ih).1 x hx
      have h4 := h1 b (by simp)
      omega
theorem outW_iff {os : List (Int × Int)} (hg : Good os) (c : Int) (o : Int × Int) : outW os c = some o ↔ o ∈ os ∧ o.1 ≤ c ∧ c < o.2 := by
  have pw := good_pw hg
  have h1 := hg.1
  clear hg
  unfold outW
  induction os with
  | nil => simp
  | cons x r ih =>
    rw [List.pairwise_cons] at pw
    rw [List.find?_cons]
    cases q : decide (x.1 ≤ c) && decide (c < x.2) with
    | true =>
      rw [Bool.and_eq_true, decide_eq_true_eq, decide_eq_true_eq] at q
      constructor
      · intro e; cases e; exact ⟨by simp, q⟩
      · rintro ⟨h2, h3, h4⟩
        rcases List.mem_cons.mp h2 with rfl | h2
        · rfl
        · have := pw.1 o h2
          omega
    | false =>
      show List.find? _ r = some o ↔ _
      have ih' := ih pw.2 fun z hz => h1 z (List.mem_cons_of_mem _ hz)
      refine Iff.trans ih' ?_
      constructor
      · rintro ⟨h2, h3⟩; exact ⟨by simp [h2], h3⟩
      · rintro ⟨h2, h3, h4⟩
        rcases List.mem_cons.mp h2 with rfl | h2
        · rw [decide_eq_true h3, decide_eq_true h4] at q; cases q
        · exact ⟨h2, h3, h4⟩
theorem asc_ext {xs ys : List Int} (hx : xs.Pairwise (· < ·)) (hy : ys.Pairwise (· < ·)) (h : ∀ x, x ∈ xs ↔ x ∈ ys) : xs = ys := by
  have nd : ∀ {l : List Int}, l.Pairwise (· < ·) → l.Nodup := fun p => p.imp fun h e => by omega
  exact List.Perm.eq_of_pairwise (le := fun a b => a < b) (fun a b _ _ h1 h2 => by omega) hx hy ((List.perm_ext_iff_of_nodup (nd hx) (nd hy)).mpr h)
theorem comIn_asc {f p s e : Int} (hp : 0 < p) : (comIn f p s e).Pairwise (· < ·) := by
  unfold comIn
  rw [List.pairwise_map]
  refine List.pairwise_lt_range.imp fun {a b} hab => ?_
  have h1 : (nb f p s + (a : Int)) * p < (nb f p s + (b : Int)) * p := Int.mul_lt_mul_of_pos_right (by omega) hp
  omega
section
variable {f p t : Int} {os : List (Int × Int)} (hp : 0 < p) (hf : 0 ≤ f) (ht : 0 ≤ t) (hg : Good os)
include hp hf ht hg
theorem filt_eq {o : Int × Int} (ho : o ∈ os) (hot : o.2 < t) : (comIn f p 0 t).filter (fun c => decide (outW os c = some o)) = comIn f p o.1 o.2 := by
  refine asc_ext ((comIn_asc hp).filter _) (comIn_asc hp) fun c => ?_
  rw [List.mem_filter, mem_comIn hp, mem_comIn hp, decide_eq_true_eq, outW_iff hg]
  have g := hg.1 o ho
  constructor
  · rintro ⟨⟨j, h1, h2, h3, h4⟩, h5, h6, h7⟩
    exact ⟨j, h1, h2, h6, h7⟩
  · rintro ⟨j, h1, h2, h3, h4⟩
    exact ⟨⟨j, h1, h2, by omega, by omega⟩, ho, h3, h4⟩
end
theorem same_lists {f p t : Int} {os : List (Int × Int)} (hp : 0 < p) (hf : 0 ≤ f) (ht : 0 ≤ t) (hg : Good os) (h : Hab) : (lawT f p os h t).Perm (allT f p os h t) := by
  obtain ⟨g1, g2, g3, g4⟩ := gat_all os (comIn f p 0 t)
  unfold lawT allT
  rw [g1]
  refine List.Perm.append_left _ ?_
  have e1 : ((comIn f p 0 t).foldl (gstep os) ([], [])).2.flatMap (addO h t) = (((comIn f p 0 t).foldl (gstep os) ([], [])).2.map Prod.fst).flatMap fun o => if o.2 < t then (stOf h ((comIn f p 0 t).filter fun c => decide (outW os c = some o))).map (fun c => (o.2, c)) else [] := by
    rw [List.flatMap_map]
    refine fm_congr fun q hq => ?_
    unfold addO
    rw [(g3 q hq).1]
  have e2 : behT f p os h t = os.flatMap fun o => if o.2 < t then (stOf h ((comIn f p 0 t).filter fun c => decide (outW os c = some o))).map (fun c => (o.2, c)) else [] := by
    unfold behT behL
    have e3 : (os.filter fun o => decide (o.2 < t)).flatMap (fun o => (stOf h (comIn f p o.1 o.2)).map fun c => (o.2, c)) = (os.filter fun o => decide (o.2 < t)).flatMap fun o => if o.2 < t then (stOf h ((comIn f p 0 t).filter fun c => decide (outW os c = some o))).map (fun c => (o.2, c)) else [] := by
      refine fm_congr fun o ho => ?_
      obtain ⟨h1, h2⟩ := List.mem_filter.mp ho
      have h3 : o.2 < t := of_decide_eq_true h2
      rw [if_pos h3, filt_eq hp hf ht hg h1 h3]
    rw [e3]
    exact flat_filter (fun o : Int × Int => decide (o.2 < t)) _ (fun o ho => by rw [if_neg (of_decide_eq_false ho)]) os
  rw [e1, e2]
  have nil : ∀ o : Int × Int, (!((comIn f p 0 t).filter fun c => decide (outW os c = some o)).isEmpty) = false → (if o.2 < t then (stOf h ((comIn f p 0 t).filter fun c => decide (outW os c = some o))).map (fun c => (o.2, c)) else []) = [] := by
    intro o ho
    have : (comIn f p 0 t).filter (fun c => decide (outW os c = some o)) = [] := by
      cases q : (comIn f p 0 t).filter (fun c => decide (outW os c = some o)) with
      | nil => rfl
      | cons a b => rw [q] at ho; cases ho
    rw [this]
    split
    · cases h <;> rfl
    · rfl
  rw [← flat_filter (fun o => !((comIn f p 0 t).filter fun c => decide (outW os c = some o)).isEmpty) _ nil os]
  refine List.Perm.flatMap_right _ ?_
  have ndo : os.Nodup := (good_pw hg).imp_of_mem fun {a b} ha hb hab e => by
    have := hg.1 a ha
    rw [e] at this hab
    omega
  refine (List.perm_ext_iff_of_nodup g2 (ndo.filter _)).mpr fun o => ?_
  rw [List.mem_filter]
  constructor
  · intro ho
    obtain ⟨q, hq, rfl⟩ := List.mem_map.mp ho
    obtain ⟨h1, h2⟩ := g3 q hq
    rw [h1] at h2
    obtain ⟨c, hc⟩ := List.exists_mem_of_ne_nil _ h2
    have h3 := (List.mem_filter.mp hc).2
    refine ⟨((outW_iff hg c q.1).mp (of_decide_eq_true h3)).1, ?_⟩
    cases e : (comIn f p 0 t).filter (fun c => decide (outW os c = some q.1)) with
    | nil => exact absurd e h2
    | cons a b => rfl
  · rintro ⟨_, h2⟩
    have h3 : (comIn f p 0 t).filter (fun c => decide (outW os c = some o)) ≠ [] := by
      intro e
      rw [e] at h2; cases h2
    obtain ⟨c, hc⟩ := List.exists_mem_of_ne_nil _ h3
    obtain ⟨h4, h5⟩ := List.mem_filter.mp hc
    exact g4 c h4 o (of_decide_eq_true h5)
theorem same_sorted {f p t : Int} {os : List (Int × Int)} (hp : 0 < p) (hf : 0 ≤ f) (ht : 0 ≤ t) (hg : Good os) (h : Hab) : (lawT f p os h t).mergeSort leII = (allT f p os h t).mergeSort leII := sort_perm (same_lists hp hf ht hg h)
end K63
namespace K63
open PySem PySem.Spec PyProof.Rows L2 Pu
theorem same_l {α : Type} (f : α → PyData) (xs : List α) (hd : ∀ x, (f x).depth ≤ 60) (hl : ∀ x, (f x).canLay0 = true) : pNe (.d (.list (xs.map f))) (.d (.list (xs.map f))) = .ok false ∧ pEq (.d (.list (xs.map f))) (.d (.list (xs.map f))) = .ok true := by
  have h1 : (PyData.list (xs.map f)).depth ≤ 64 := by
    have := depth_all (ds := xs.map f) (n := 60) fun d hd' => by
      obtain ⟨x, _, rfl⟩ := List.mem_map.mp hd'
      exact hd x
    simp only [PyData.depth]; omega
  have h2 : (PyData.list (xs.map f)).canLay0 = true := by
    simp only [PyData.canLay0]
    exact lay_all fun d hd' => by
      obtain ⟨x, _, rfl⟩ := List.mem_map.mp hd'
      exact hl x
  exact ⟨ne_same h1 h2, eq_same h1 h2⟩
theorem same_il (xs : List Int) : pNe (.d (.list (il xs))) (.d (.list (il xs))) = .ok false ∧ pEq (.d (.list (il xs))) (.d (.list (il xs))) = .ok true := same_l .int xs (fun _ => by simp [PyData.depth]) fun _ => by simp [PyData.canLay0]
theorem same_ii (xs : List (Int × Int)) : pNe (.d (.list (xs.map encII))) (.d (.list (xs.map encII))) = .ok false ∧ pEq (.d (.list (xs.map encII))) (.d (.list (xs.map encII))) = .ok true := same_l encII xs (fun x => Nat.le_trans (depth_ii x) (by decide)) lay_ii
theorem same_os (xs : List (Int × Int)) : pNe (.d (outs xs)) (.d (outs xs)) = .ok false := (same_ii xs).1
section
variable {f p t : Int} {os : List (Int × Int)} (hp : 0 < p) (hp' : p ≤ 1000) (hf : 0 ≤ f) (ht : 0 ≤ t) (ht' : t ≤ 1000) (hg : Good os) (hl : os.length ≤ 1000)
include hp hp' hf ht ht' hg hl
theorem turn_holds (h : Hab) (ms : List PyData) (ds : List PyData) (z6 s8 s9 : Slot) :
    ∃ s8' s9', b1__law_moment_holds [.val (.d (job f p)), .val (.d (outs os)), .val (.d (.int t)), .val (.d (outs os)), .own (.lst ms), .own (.lst ds), z6, .val (.d (.str h.s)), s8, s9] =
      .nx [.val (.d (job f p)), .val (.d (outs os)), .val (.d (.int t)), .val (.d (outs os)), .own (.lst ms), .own (.lst ds), z6, .val (.d (.str h.s)), s8', s9'] := by
  have e1 := e_starts hp hp' hf ht ht' hg hl h
  have e2 := e_law_starts (os := os) hp hp' hf ht ht' h
  rw [same_sorted hp hf ht hg h] at e2
  have k1 := kept_len hp hp' hf ht ht' hg hl
  have k2 := beh_len hp hp' hf ht ht' hg hl h
  have k3 : ((allT f p os h t).mergeSort leII).length ≤ 2000000 := by
    rw [List.length_mergeSort]; unfold allT; rw [List.length_append, List.length_map]; omega
  have k4 : ((allT f p os h t).mergeSort leII).length < big := by rw [big_val]; omega
  have n1 := (same_ii ((allT f p os h t).mergeSort leII)).1
  have n2 := same_os os
  generalize (allT f p os h t).mergeSort leII = L at *
  have lt : (∃ z, loopT 9 c1__law_moment_holds (eC (.bool false)) (L.map encII) [.val (.d (job f p)), .val (.d (outs os)), .val (.d (.int t)), .val (.d (outs os)), .own (.lst ms), .own (.lst ds), z6, .val (.d (.str h.s)), .own (.lst (L.map encII)), s9] = .nx ([.val (.d (job f p)), .val (.d (outs os)), .val (.d (.int t)), .val (.d (outs os)), .own (.lst ms), .own (.lst ds), z6, .val (.d (.str h.s)), .own (.lst (L.map encII)), s9].set 9 z)) ∨
      loopT 9 c1__law_moment_holds (eC (.bool false)) (L.map encII) [.val (.d (job f p)), .val (.d (outs os)), .val (.d (.int t)), .val (.d (outs os)), .own (.lst ms), .own (.lst ds), z6, .val (.d (.str h.s)), .own (.lst (L.map encII)), s9] = .nx [.val (.d (job f p)), .val (.d (outs os)), .val (.d (.int t)), .val (.d (outs os)), .own (.lst ms), .own (.lst ds), z6, .val (.d (.str h.s)), .own (.lst (L.map encII)), s9] :=
    loopT_none encII L _ fun q hq => by simp [c1__law_moment_holds, encII, ix2a, ix2b]
  rcases lt with ⟨z, lt⟩ | lt
  · refine ⟨.own (.lst (L.map encII ++ [.int 0])), z, ?_⟩
    simp only [List.set_cons_succ, List.set_cons_zero] at lt
    simp [b1__law_moment_holds, e1, e2, n1, n2, lt, k4]
  · refine ⟨.own (.lst (L.map encII ++ [.int 0])), s9, ?_⟩
    simp [b1__law_moment_holds, e1, e2, n1, n2, lt, k4]
theorem moment_holds : f__law_moment_holds [.d (job f p), .d (outs os), .d (.int t)] = .ok (.val (.d (.bool true))) := by
  have e1 := e_missed hp hp' hf ht ht' hg hl
  have ec := e_law_comings hp hp' hf ht ht'
  have hc := cs_len hp hp' hf ht ht'
  have n1 := same_il (missT f p os t)
  have n2 := same_os os
  have lm : (missT f p os t).length ≤ 1000 := by
    have := List.length_filter_le (fun c => (outW os c).isSome) (comIn f p 0 t)
    unfold missT; omega
  have lc : lcL (gN 6) t1__law_moment_holds (eVal 6) (il (comIn f p 0 t)) [.val (.d (job f p)), .val (.d (outs os)), .val (.d (.int t)), .val (.d (outs os)), .own (.lst (il (missT f p os t))), .un, .un, .un, .un, .un] = .ok (il (missT f p os t)) :=
    lcL_map .int (fun c => (outW os c).isSome) .int (comIn f p 0 t) fun c _ => ⟨_, rfl, by
      simp [t1__law_moment_holds, e_law_outage]
      cases outW os c <;> simp [encW, encO, pIsNot, Pu.isNon], fun _ => rfl⟩
  have l1 : (il (missT f p os t)).length ≤ big := by rw [il, List.length_map, big_val]; omega
  have l2 : (il (missT f p os t)).length < big := by rw [il, List.length_map, big_val]; omega
  obtain ⟨ρ', h1, z6, z7, z8, z9, rfl⟩ := loop_ind (g := gN 7) (s := b1__law_moment_holds) (fun h : Hab => PyData.str h.s)
    (fun pre ρ => ∃ z6 z7 z8 z9, ρ = [.val (.d (job f p)), .val (.d (outs os)), .val (.d (.int t)), .val (.d (outs os)), .own (.lst (il (missT f p os t) ++ [.int 0])), .own (.lst (il (missT f p os t))), z6, z7, z8, z9])
    [.skip, .all, .last, .first] [] [.val (.d (job f p)), .val (.d (outs os)), .val (.d (.int t)), .val (.d (outs os)), .own (.lst (il (missT f p os t) ++ [.int 0])), .own (.lst (il (missT f p os t))), .un, .un, .un, .un] ⟨_, _, _, _, rfl⟩ (by
      rintro pre h post e ρ ⟨z6, z7, z8, z9, rfl⟩
      obtain ⟨s8, s9, st⟩ := turn_holds hp hp' hf ht ht' hg hl h (il (missT f p os t) ++ [.int 0]) (il (missT f p os t)) z6 z8 z9
      exact ⟨_, _, rfl, .inl st, _, _, _, _, rfl⟩)
  simp only [List.map_cons, List.map_nil, Hab.s] at h1
  clear lm
  generalize il (missT f p os t) = M at *
  have pl : pList [.d (outs os)] = .ok (.lst (os.map encO)) := rfl
  have fo : PyData.list (os.map encO) = outs os := rfl
  simp [f__law_moment_holds, run_ap, s__law_moment_holds, entry, pl, fo, e1, ec, noOwn, ltAll, unset, lc, l1, n1.1, n2, l2, h1, n1.2, big_val]
end
end K63
namespace K63
open PySem PySem.Spec PyProof.Rows L2 Pu
theorem pw_good : ∀ {os : List (Int × Int)}, (∀ o ∈ os, 0 ≤ o.1 ∧ o.1 < o.2) → (os.Pairwise fun a b => a.2 < b.1) → Good os
  | [], _, _ => ⟨by simp, by simp⟩
  | [a], h, _ => ⟨h, by simp⟩
  | a :: b :: r, h, pw => by
    rw [List.pairwise_cons] at pw
    obtain ⟨h1, h2⟩ := pw_good (os := b :: r) (fun o ho => h o (List.mem_cons_of_mem _ ho)) pw.2
    refine ⟨h, fun q hq => ?_⟩
    have hq' : q ∈ (a, b) :: (b :: r).zip r := by simpa using hq
    rcases List.mem_cons.mp hq' with rfl | hq'
    · exact pw.1 b (by simp)
    · exact h2 q (by simpa using hq')
theorem ix_vs (vs : List Int) (hv : ∀ v ∈ vs, 0 ≤ v ∧ v < 1009) (i : Int) (h0 : 0 ≤ i) (h1 : i < vs.length) : ∃ v, 0 ≤ v ∧ v < 1009 ∧ pIx (.d (.list (vs.map .int))) (.d (.int i)) = .ok (.d (.int v)) := by
  obtain ⟨v, h2, h3⟩ := atI_some h0 h1
  exact ⟨v, (hv v h2).1, (hv v h2).2, ix_map .int h3⟩
theorem pick2 (a b x : Int) : ∃ w, (w = a ∨ w = b) ∧ pIx (.d (.list [.int a, .int b])) (.d (.int (x % 2))) = .ok (.d (.int w)) := by
  have h : x % 2 = 0 ∨ x % 2 = 1 := by omega
  rcases h with h | h
  · exact ⟨a, .inl rfl, by rw [h]; exact ix_list (by simp [atI, ixN])⟩
  · exact ⟨b, .inr rfl, by rw [h]; exact ix_list (by simp [atI, ixN])⟩
/-- outages made so far, the last one's end -/
def Made (os : List (Int × Int)) (e : Int) : Prop := (∀ o ∈ os, (0 ≤ o.1 ∧ o.1 < o.2) ∧ o.2 ≤ e) ∧ (os.Pairwise fun a b => a.2 < b.1) ∧ -1 ≤ e
theorem made_step {os : List (Int × Int)} {e s e' : Int} (h : Made os e) (h1 : e < s) (h2 : s < e') : Made (os ++ [(s, e')]) e' := by
  obtain ⟨a1, a2, a3⟩ := h
  refine ⟨fun o ho => ?_, List.pairwise_append.mpr ⟨a2, by simp, fun a ha b hb => ?_⟩, by omega⟩
  · rcases List.mem_append.mp ho with ho | ho
    · have := a1 o ho; omega
    · simp at ho; subst ho; simp; omega
  · simp at hb; subst hb
    have := a1 a ha
    simp; omega
theorem outages_step (ns : List Int) (a : Int) (vs : List Int) (hl : vs.length = 24) (hv : ∀ v ∈ vs, 0 ≤ v ∧ v < 1009) (os : List (Int × Int)) (hos : os.length ≤ 8) (e : Int) (h : Made os e) (k : Int) (hk0 : 0 ≤ k) (hk : k ≤ 8) (z7 : Slot) :
    ∃ s e' z7', Made (os ++ [(s, e')]) e' ∧ b1__law_outages [.val (.scr ns), .val (.d (.int a)), .val (.d (.int 8)), .val (.d (.list (vs.map .int))), .own (.lst (os.map encO)), .val (.d (.int e)), .val (.d (.int k)), z7] =
      .nx [.val (.scr ns), .val (.d (.int a)), .val (.d (.int 8)), .val (.d (.list (vs.map .int))), .own (.lst ((os ++ [(s, e')]).map encO)), .val (.d (.int e')), .val (.d (.int k)), z7'] := by
  obtain ⟨v1, a1, b1, i1⟩ := ix_vs vs hv (1 + 2 * k) (by omega) (by omega)
  obtain ⟨v2, a2, b2, i2⟩ := ix_vs vs hv (2 + 2 * k) (by omega) (by omega)
  obtain ⟨v3, a3, b3, i3⟩ := ix_vs vs hv 23 (by omega) (by omega)
  obtain ⟨v4, a4, b4, i4⟩ := ix_vs vs hv 22 (by omega) (by omega)
  obtain ⟨w1, hw1, p1⟩ := pick2 12 60 v3
  obtain ⟨w2, hw2, p2⟩ := pick2 9 90 v4
  have m : mulOk 2 k = true := by simp [mulOk]
  have q1 : 0 < w1 := by omega
  have q2 : 0 < w2 := by omega
  have r1 := Int.emod_nonneg v1 (show w1 ≠ 0 by omega)
  have r2 := Int.emod_nonneg v2 (show w2 ≠ 0 by omega)
  have d2 : (0 : Int) < 2 := by decide
  have l1 : os.length < big := by rw [big_val]; omega
  refine ⟨e + 1 + v1 % w1, e + 1 + v1 % w1 + 1 + v2 % w2, .val (.d (.int (e + 1 + v1 % w1))), made_step h (by omega) (by omega), ?_⟩
  simp [b1__law_outages, mul_int', m, i1, i2, i3, i4, Pu.mod_int, d2, p1, p2, q1, q2, big_val, encO]
  omega
theorem e_law_outages (ns : List Int) (hn : ns.length ≤ 63) (a : Int) (h0 : 0 ≤ a) : ∃ os e, Made os e ∧ os.length ≤ 8 ∧ f__law_outages [.scr ns, .d (.int a), .d (.int 8)] = .ok (.own (.lst (os.map encO))) := by
  obtain ⟨vs, hl, hv, ev⟩ := e_numbers ns a 24 h0 (by decide) (by decide)
  have hl' : vs.length = 24 := by simpa using hl
  obtain ⟨v0, a0, b0, i0⟩ := ix_vs vs hv 0 (by omega) (by omega)
  have d9 : (0 : Int) < 8 + 1 := by decide
  have n0 := Int.emod_nonneg v0 (show (9 : Int) ≠ 0 by decide)
  have n1 := Int.emod_lt_of_pos v0 (show (0 : Int) < 9 by decide)
  have rk := rng_ok n0 (by omega)
  obtain ⟨ρ', h1, os, e, z6, z7, hm, hlen, rfl⟩ := loop_ind (g := gN 6) (s := b1__law_outages) (fun k : Nat => PyData.int (0 + (k : Int)))
    (fun pre ρ => ∃ os e z6 z7, Made os e ∧ os.length = pre.length ∧ ρ = [.val (.scr ns), .val (.d (.int a)), .val (.d (.int 8)), .val (.d (.list (vs.map .int))), .own (.lst (os.map encO)), .val (.d (.int e)), z6, z7])
    (List.range (v0 % 9).toNat) [] [.val (.scr ns), .val (.d (.int a)), .val (.d (.int 8)), .val (.d (.list (vs.map .int))), .own (.lst []), .val (.d (.int (-1))), .un, .un] ⟨[], -1, .un, .un, ⟨by simp, by simp, by decide⟩, rfl, rfl⟩ (by
      rintro pre k post e ρ ⟨os, en, z6, z7, hm, hlen, rfl⟩
      have hpl : pre.length ≤ 8 := by
        have := congrArg List.length e
        simp at this
        omega
      have hk : (k : Int) ≤ 8 := by
        have : k ∈ [] ++ List.range (v0 % 9).toNat := by rw [e]; simp
        simp at this
        omega
      obtain ⟨s, e', z7', h2, h3⟩ := outages_step ns a vs hl' hv os (by omega) en hm (0 + (k : Int)) (by omega) (by omega) z7
      exact ⟨_, _, rfl, .inl h3, _, _, _, _, h2, by simp [hlen], rfl⟩)
  have hlen' : os.length ≤ 8 := by
    simp at hlen
    omega
  refine ⟨os, e, hm, hlen', ?_⟩
  rw [← rangeD_map] at h1
  simp [f__law_outages, run_ap, s__law_outages, entry, ev, i0, Pu.mod_int, rk, h1, big_val]
end K63
namespace K63
open PySem PySem.Spec PyProof.Rows L2 Pu
theorem made_good {os : List (Int × Int)} {e : Int} (h : Made os e) : Good os := pw_good (fun o ho => (h.1 o ho).1) h.2.1
theorem e_law_job (a b c : Int) (ha : 0 ≤ a) : ∃ f p, 0 ≤ f ∧ 0 < p ∧ p ≤ 60 ∧ f__law_job [.d (.list [.int a, .int b, .int c])] = .ok (.val (.d (job f p))) := by
  obtain ⟨w, hw, pw⟩ := pick2 (1 + a % 60) (1 + a % 6) b
  have d1 : (0 : Int) < 60 := by decide
  have d2 : (0 : Int) < 6 := by decide
  have d3 : (0 : Int) < 2 := by decide
  have d4 : (0 : Int) < 61 := by decide
  have i0 : pIx (.d (.list [.int a, .int b, .int c])) (.d (.int 0)) = .ok (.d (.int a)) := ix_list (by simp [atI, ixN])
  have i1 : pIx (.d (.list [.int a, .int b, .int c])) (.d (.int 1)) = .ok (.d (.int b)) := ix_list (by simp [atI, ixN])
  have i2 : pIx (.d (.list [.int a, .int b, .int c])) (.d (.int 2)) = .ok (.d (.int c)) := ix_list (by simp [atI, ixN])
  refine ⟨c % 61, w, Int.emod_nonneg _ (by decide), by omega, by omega, ?_⟩
  simp [f__law_job, run_ap, s__law_job, entry, i0, i1, i2, Pu.mod_int, d1, d2, d3, d4, pw, big_val, job]
theorem take3 (vs : List Int) (j : Nat) (hl : j + 3 ≤ vs.length) : ∃ a b c, a ∈ vs ∧ (vs.drop j).take 3 = [a, b, c] := by
  have h1 : j < vs.length := by omega
  have h2 : j + 1 < vs.length := by omega
  have h3 : j + 1 + 1 < vs.length := by omega
  refine ⟨vs[j], vs[j + 1], vs[j + 1 + 1], List.getElem_mem h1, ?_⟩
  rw [List.drop_eq_getElem_cons h1, List.drop_eq_getElem_cons h2, List.drop_eq_getElem_cons h3]
  rfl
theorem slice3 (vs : List Int) (hv : ∀ v ∈ vs, 0 ≤ v ∧ v < 1009) (hl : vs.length = 20) (k : Int) (hk : k = 0 ∨ k = 1) : ∃ a b c, 0 ≤ a ∧ pSl (.d (.list (vs.map .int))) (some (3 * k)) (some (3 * k + 3)) = .ok (.d (.list [.int a, .int b, .int c])) := by
  rcases hk with rfl | rfl
  · obtain ⟨a, b, c, h1, h2⟩ := take3 vs 0 (by omega)
    have e : cut vs (some (3 * 0)) (some (3 * 0 + 3)) = (vs.drop 0).take (3 - 0) := cut_both vs 0 3
    exact ⟨a, b, c, (hv a h1).1, by rw [slice_map, e, h2]; rfl⟩
  · obtain ⟨a, b, c, h1, h2⟩ := take3 vs 3 (by omega)
    have e : cut vs (some (3 * 1)) (some (3 * 1 + 3)) = (vs.drop 3).take (6 - 3) := cut_both vs 3 6
    exact ⟨a, b, c, (hv a h1).1, by rw [slice_map, e, h2]; rfl⟩
abbrev lst (ns vs : List Int) (k f p : Int) (os : List (Int × Int)) (ms : List Int) (z6 z7 z8 z9 : Slot) : List Slot := [.val (.scr ns), .val (.d (.list (vs.map .int))), .val (.d (.int k)), .val (.d (outs os)), .val (.d (job f p)), .val (.d (.list (ms.map .int))), z6, z7, z8, z9]
theorem moments1 (ns vs : List Int) (k f p : Int) (os cs : List (Int × Int)) (hc : ∀ o ∈ cs, 0 ≤ o.1 ∧ o.1 < o.2) (hcl : cs.length ≤ 8) (ms : List Int) (hm : ∀ m ∈ ms, 0 ≤ m) (hml : ms.length ≤ 8) (z6 z7 z8 z9 : Slot) :
    ∃ ms' z6' z7', (∀ m ∈ ms', 0 ≤ m) ∧ loopL (gT 2 (gsCons (gN 6) (gsCons (gN 7) gsNil))) b1_law (cs.map encO) (lst ns vs k f p os ms z6 z7 z8 z9) = .nx (lst ns vs k f p os ms' z6' z7' z8 z9) := by
  obtain ⟨ρ', h1, ms', z6', z7', h2, h3, rfl⟩ := loop_ind (g := gT 2 (gsCons (gN 6) (gsCons (gN 7) gsNil))) (s := b1_law) encO
    (fun pre ρ => ∃ ms z6 z7, (∀ m ∈ ms, 0 ≤ m) ∧ ms.length ≤ 8 + 4 * pre.length ∧ ρ = lst ns vs k f p os ms z6 z7 z8 z9)
    cs [] (lst ns vs k f p os ms z6 z7 z8 z9) ⟨ms, z6, z7, hm, by simpa using hml, rfl⟩ (by
      rintro pre o post e ρ ⟨ms, z6, z7, hm, hml, rfl⟩
      have hpl : pre.length ≤ 8 := by
        have := congrArg List.length e
        simp at this
        omega
      have ho : o ∈ cs := by
        have : o ∈ [] ++ cs := by rw [e]; simp
        simpa using this
      have g := hc o ho
      have ad : pAdd (.d (.list (ms.map .int))) (.d (.list [.int o.1, .int (o.1 + 1), .int o.2, .int (o.2 + 1)])) = .ok (.d (.list ((ms ++ [o.1, o.1 + 1, o.2, o.2 + 1]).map .int))) := by
        rw [Pu.add_lists (by simp only [List.length_map, List.length_cons, List.length_nil, big_val]; omega)]
        simp
      refine ⟨_, lst ns vs k f p os (ms ++ [o.1, o.1 + 1, o.2, o.2 + 1]) (.val (.d (.int o.1))) (.val (.d (.int o.2))) z8 z9, rfl, .inl ?_, _, _, _, ?_, ?_, rfl⟩
      · simp only [List.map_append] at ad
        simp [b1_law, lst, big_val, ad]
      · intro m hm'
        rcases List.mem_append.mp hm' with h | h
        · exact hm m h
        · simp at h; omega
      · simp; omega)
  exact ⟨ms', z6', z7', h2, h1⟩
theorem moments2 (ns vs : List Int) (k f p : Int) (os : List (Int × Int)) (hf : 0 ≤ f) (hp : 0 < p) (hp' : p ≤ 60) (hg : Good os) (hl : os.length ≤ 1000) (ms : List Int) (hm : ∀ m ∈ ms, 0 ≤ m) (z6 z7 z8 z9 : Slot) :
    ∃ z8', loopL (gN 8) b2_law (ms.map .int) (lst ns vs k f p os ms z6 z7 z8 z9) = .nx (lst ns vs k f p os ms z6 z7 z8' z9) := by
  obtain ⟨ρ', h1, z8', rfl⟩ := loop_ind (g := gN 8) (s := b2_law) PyData.int (fun pre ρ => ∃ z8, ρ = lst ns vs k f p os ms z6 z7 z8 z9) ms [] (lst ns vs k f p os ms z6 z7 z8 z9) ⟨z8, rfl⟩ (by
      rintro pre m post e ρ ⟨z8, rfl⟩
      have hm0 : 0 ≤ m := hm m (by
        have : m ∈ [] ++ ms := by rw [e]; simp
        simpa using this)
      have mh := moment_holds (f := f) (p := p) (t := if (300 : Int) < m then 300 else m) (os := os) hp (by omega) hf (by split <;> omega) (by split <;> omega) hg hl
      refine ⟨_, _, rfl, .inl ?_, .val (.d (.int m)), rfl⟩
      simp [b2_law, lst, mh])
  exact ⟨z8', h1⟩
end K63
namespace K63
open PySem PySem.Spec PyProof.Rows L2 Pu
theorem law_turn (ns : List Int) (hn : ns.length ≤ 63) (vs : List Int) (hl : vs.length = 20) (hv : ∀ v ∈ vs, 0 ≤ v ∧ v < 1009) (k : Int) (hk : k = 0 ∨ k = 1) (z3 z4 z5 z6 z7 z8 z9 : Slot) :
    ∃ y3 y4 y5 y6 y7 y8 y9, b3_law [.val (.scr ns), .val (.d (.list (vs.map .int))), .val (.d (.int k)), z3, z4, z5, z6, z7, z8, z9] = .nx [.val (.scr ns), .val (.d (.list (vs.map .int))), .val (.d (.int k)), y3, y4, y5, y6, y7, y8, y9] := by
  obtain ⟨os, e, hm, hol, eo⟩ := e_law_outages ns hn (1 + k) (by omega)
  have hg := made_good hm
  obtain ⟨a, b, c, ha, sl⟩ := slice3 vs hv hl k hk
  obtain ⟨f, p, hf, hp, hp', ej⟩ := e_law_job a b c ha
  obtain ⟨v1, a1, b1, i1⟩ := ix_vs vs hv (6 + k) (by omega) (by omega)
  obtain ⟨v2, a2, b2, i2⟩ := ix_vs vs hv (8 + k) (by omega) (by omega)
  obtain ⟨v3, a3, b3, i3⟩ := ix_vs vs hv 12 (by omega) (by omega)
  obtain ⟨v4, a4, b4, i4⟩ := ix_vs vs hv (10 + k) (by omega) (by omega)
  have d1 : (0 : Int) < 300 := by decide
  have d2 : (0 : Int) < 60 := by decide
  have d3 : (0 : Int) < 3 := by decide
  have m1 : mulOk 3 k = true := by simp [mulOk]
  have j1 : pIx (.d (job f p)) (.d (.int 1)) = .ok (.d (.int f)) := ix_tup (by simp [atI, ixN])
  have j2 : pIx (.d (job f p)) (.d (.int 2)) = .ok (.d (.int p)) := ix_tup (by simp [atI, ixN])
  have r1 := Int.emod_nonneg v1 (show (300 : Int) ≠ 0 by decide)
  have r2 := Int.emod_nonneg v2 (show (60 : Int) ≠ 0 by decide)
  have so : pSl (.d (outs os)) (some (v3 % 3)) (some (v3 % 3 + 2)) = .ok (.d (.list ((cut os (some (v3 % 3)) (some (v3 % 3 + 2))).map encO))) := slice_map encO os _ _
  have hcl := cut_len os (some (v3 % 3)) (some (v3 % 3 + 2))
  obtain ⟨ms, y6, y7, hms, l1⟩ := moments1 ns vs k f p os (cut os (some (v3 % 3)) (some (v3 % 3 + 2))) (fun o ho => hg.1 o (cut_sub os _ _ o ho)) (by omega) [0, v1 % 300, v2 % 60, f, f + 1] (by intro m hm; simp at hm; omega) (by simp) z6 z7 z8 z9
  obtain ⟨y8, l2⟩ := moments2 ns vs k f p os hf hp hp' hg (by omega) ms hms y6 y7 z8 z9
  have fo : PyData.list (os.map encO) = outs os := rfl
  simp only [lst, List.map_cons, List.map_nil] at l1 l2
  by_cases ho : os = []
  · have ne : pNe (.d (outs os)) (.d (.list [])) = .ok false := by rw [ho]; simp [outs, pNe, PyData.eqv, PyData.depth, PyData.depthAll, PyData.eqvAll]
    refine ⟨.val (.d (outs os)), .val (.d (job f p)), .val (.d (.list (ms.map .int))), y6, y7, y8, z9, ?_⟩
    simp [b3_law, eo, fo, mul_int', m1, sl, ej, i1, i2, i3, Pu.mod_int, d1, d2, d3, j1, big_val, so, l1, l2, ne]
  · have ne : pNe (.d (outs os)) (.d (.list [])) = .ok true := by
      cases os with
      | nil => exact absurd rfl ho
      | cons o os => simp [outs, pNe, PyData.eqv, PyData.depth, PyData.depthAll, PyData.eqvAll]
    have hlen : (0 : Int) < os.length := by
      have := List.length_pos_iff.mpr ho
      omega
    have ll : pLen [.d (outs os)] = .ok (.d (.int os.length)) := by simp [outs]
    obtain ⟨o, ho1, ho2⟩ := atI_some (xs := os) (i := v4 % os.length) (Int.emod_nonneg _ (by omega)) (Int.emod_lt_of_pos _ hlen)
    have io : pIx (.d (outs os)) (.d (.int (v4 % os.length))) = .ok (.d (encO o)) := ix_map encO ho2
    have gt : ∀ ρ : List Pu.Slot, gT 2 (gsCons (gN 6) (gsCons (gN 7) gsNil)) (encO o) ρ = some ((ρ.set 6 (.val (.d (.int o.1)))).set 7 (.val (.d (.int o.2)))) := fun ρ => rfl
    have go := hg.1 o ho1
    have pm : ¬ 61 < p := by omega
    have mo : pMod (.d (.int v4)) (.d (.int os.length)) = .ok (.d (.int (v4 % os.length))) := Pu.mod_int hlen
    have mp : ∀ x, pMod (.d (.int x)) (.d (.int p)) = .ok (.d (.int (x % p))) := fun x => Pu.mod_int hp
    have mh : o.2 < 300 → f__law_moment_holds [.d (job (o.2 % p) p), .d (outs os), .d (.int (o.2 + 1))] = .ok (.val (.d (.bool true))) := fun h3 => moment_holds hp (by omega) (Int.emod_nonneg _ (by omega)) (by omega) (by omega) hg (by omega)
    have tj : PyData.tuple [.str ("job" : Str), .int (o.2 % p), .int p, .int 1, .int p] = job (o.2 % p) p := rfl
    refine ⟨.val (.d (outs os)), .val (.d (job f p)), .val (.d (.list (ms.map .int))), .val (.d (.int o.1)), .val (.d (.int o.2)), y8, .val (.d (job (o.2 % p) p)), ?_⟩
    by_cases h3 : o.2 < 300
    · simp [b3_law, eo, fo, mul_int', m1, sl, ej, i1, i2, i3, i4, Pu.mod_int, d1, d2, d3, j1, j2, big_val, so, l1, l2, ne, ll, mo, mp, io, gt, pm, tj, h3, mh h3]
    · simp [b3_law, eo, fo, mul_int', m1, sl, ej, i1, i2, i3, i4, Pu.mod_int, d1, d2, d3, j1, j2, big_val, so, l1, l2, ne, ll, mo, mp, io, gt, pm, tj, h3]
theorem law_ok : LawOk f_law := by
  intro ns hn _
  obtain ⟨vs, hl, hv, ev⟩ := e_numbers ns 0 20 (by decide) (by decide) (by decide)
  have hl' : vs.length = 20 := by simpa using hl
  obtain ⟨x3, x4, x5, x6, x7, x8, x9, t0⟩ := law_turn ns hn vs hl' hv 0 (.inl rfl) .un .un .un .un .un .un .un
  obtain ⟨y3, y4, y5, y6, y7, y8, y9, t1⟩ := law_turn ns hn vs hl' hv 1 (.inr rfl) x3 x4 x5 x6 x7 x8 x9
  have lp : loopL (gN 2) b3_law (rangeD 0 (Int.toNat 2)) [.val (.scr ns), .val (.d (.list (vs.map .int))), .un, .un, .un, .un, .un, .un, .un, .un] = .nx [.val (.scr ns), .val (.d (.list (vs.map .int))), .val (.d (.int 1)), y3, y4, y5, y6, y7, y8, y9] := by
    have e : rangeD 0 (Int.toNat 2) = [.int 0, .int 1] := rfl
    rw [e, loopL_cons]
    simp only [ap_gN, List.set_cons_succ, List.set_cons_zero, t0]
    rw [loopL_cons]
    simp only [ap_gN, List.set_cons_succ, List.set_cons_zero, t1, ap_loopL_nil]
  have rk : rngOk 2 = true := by decide
  simp [f_law, run_ap, s_law, entry, ev, rk]
  simp at lp
  simp [lp]
end K63
open PySem PySem.W PySem.Calls PyProof.Rows
set_option maxHeartbeats 0 in
theorem PySem.Challenge.cw_jobsrounded_k63_starts_behind_outages_holds : PySem.Challenge.rw_jobsrounded_k63_starts_behind_outages.Holds := by
  w_on; o_law
  refine HandSHeadRun.head_any (r := PySem.W.OpenLaw.row PySem.Challenge.rw_jobsrounded_k63_starts_behind_outages) (q := PySem.W.view (PySem.W.OpenLaw.row PySem.Challenge.rw_jobsrounded_k63_starts_behind_outages).prog [40]) (H := K63.hk) (ob := K63.ob) (M := 12000) (loose := K63.names) (d := HandSHeadRun.topDef (PySem.W.OpenLaw.row PySem.Challenge.rw_jobsrounded_k63_starts_behind_outages).prog 40) (kwd := []) K63.ob_eq
    (by kernel_rfl) (fun s => by kernel_rfl) K63.run (by kernel_rfl) (by kernel_rfl) (by kernel_rfl) (by rfl) (by first | assumption | decide +kernel) (by decide +kernel) ⟨rfl, rfl, rfl, rfl, rfl, by decide +kernel⟩ ?hw ?hc
  case hw => w_witness2
  case hc => exact Pu.law_end (l := PySem.Challenge.rw_jobsrounded_k63_starts_behind_outages) 30 43 rfl (by kernel_rfl) ⟨rfl, by decide, by decide⟩ (by kernel_rfl) rfl rfl (fun _ _ _ _ _ _ us hl => match us, hl with | [_], _ => rfl) (fun w K mg base C => K63.L_law C) K63.law_ok
